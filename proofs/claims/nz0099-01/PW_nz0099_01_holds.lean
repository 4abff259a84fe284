import PyProof.Rows.All
import Wide.All
import OpenK.AllK
import Wide.FinOn
import Lean
import PySem.Challenge.RW_nz0099_01
open PySem PySem.W PySem.Calls PyProof.Rows
set_option Elab.async false
set_option maxRecDepth 100000
set_option maxHeartbeats 0
namespace Mine

/-- the named places of one scene -/
inductive Loc where
  | builder | tree | stack | fmt | kinds | spaces | names | attrs | texts | parents | children | contents
  | items | fitems | owners | modes | errors | pending | rules | state | notes | page | pkids | pattrs | digits | script | cvar
  | kid (i : Nat) | att (i : Nat) | lnode (i : Nat) | latt (i : Nat) | lkid (i : Nat) | tmp (k : Nat)
  deriving DecidableEq
/-- values: tuples are trees -/
inductive V where
  | none
  | bool (b : Bool)
  | int (i : Int)
  | str (s : Str)
  | tup (xs : List V)
  | cell (l : Loc)
  | glob (a : Addr)
  | ty (n : String)
  | blt (n : String)
inductive Cell where
  | list (xs : List V)
  | dict (es : List (Str × V))
  | inst (c : Addr) (fs : List (Str × V))
  | var (v : Option V)
structure MH where
  c : Loc → Option Cell
  nx : Nat
def MH.put (H : MH) (l : Loc) (x : Cell) : MH := { H with c := fun y => if y = l then some x else H.c y }
def Loc.bump (l : Loc) (n : Nat) : Nat := match l with | .tmp k => max n (k + 1) | _ => n
def MH.add (H : MH) (l : Loc) (x : Cell) : MH := { c := fun y => if y = l then some x else H.c y, nx := l.bump H.nx }
def MH.free (H : MH) (l : Loc) : Prop := (∀ k, l = .tmp k → H.nx ≤ k) ∧ ((∀ k, l ≠ .tmp k) → H.c l = none)
theorem le_bump (l : Loc) (n : Nat) : n ≤ l.bump n := by
  cases l with
  | tmp k => exact Nat.le_max_left ..
  | _ => exact Nat.le_refl _
theorem free_tmp {H : MH} {k : Nat} (h : H.nx ≤ k) : H.free (.tmp k) := ⟨fun k' e => by cases e; exact h, fun n => absurd rfl (n k)⟩
theorem free_of {H : MH} {l : Loc} (h : H.c l = none) (hn : ∀ k, l ≠ .tmp k) : H.free l := ⟨fun k e => absurd e (hn k), fun _ => h⟩
/-- where the named places lie, and the ledger -/
structure WD where
  ρ : Loc → Bool → Option Addr
  news : List (Addr × Obj)
def WD.im (w : WD) (a : Addr) : Prop := ∃ l b, w.ρ l b = some a
abbrev WD.keys (w : WD) : List Addr := w.news.map (·.1)
abbrev tupObj (vs : List Value) : Obj := { cls := .type "tuple", data := .seq vs.toArray }
section
variable (K : Frag)
mutual
inductive VR (w : WD) : V → Value → Prop
  | none : VR w .none .none
  | bool (b : Bool) : VR w (.bool b) (.bool b)
  | int (i : Int) (t : Tok) : VR w (.int i) (.int i t)
  | str (s : Str) (t : Tok) : VR w (.str s) (.str s t)
  | cell {l : Loc} {a : Addr} : w.ρ l false = some a → VR w (.cell l) (.ref a)
  | glob (a : Addr) : VR w (.glob a) (.ref a)
  | ty (n : String) : VR w (.ty n) (.type n)
  | blt (n : String) : VR w (.blt n) (.builtin n)
  | tup {xs : List V} {vs : List Value} {a : Addr} : (a, tupObj vs) ∈ w.news → ¬ w.im a → VRs w xs vs → VR w (.tup xs) (.ref a)
  | ktup {a : Addr} {n : Nat} {sl : Array (Option Value)} : K.lookup a = some ⟨.type "tuple", Option.none, .seq #[] n, sl⟩ → VR w (.tup []) (.ref a)
inductive VRs (w : WD) : List V → List Value → Prop
  | nil : VRs w [] []
  | cons {x : V} {v : Value} {xs : List V} {vs : List Value} : VR w x v → VRs w xs vs → VRs w (x :: xs) (v :: vs)
end
structure Ext (pu : Bool) (w w' : WD) : Prop where
  sub : ∀ l b a, w.ρ l b = some a → w'.ρ l b = some a
  new : ∀ l b a, w'.ρ l b = some a → w.ρ l b = some a ∨ a ∉ w.keys
  pers : ∀ p ∈ w.news, ¬ w.im p.1 → p ∈ w'.news
  kin : ∀ a ∈ w.keys, a ∈ w'.keys
  pure : pu = true → ∀ p ∈ w.news, p ∈ w'.news
theorem Ext.refl {pu : Bool} (w : WD) : Ext pu w w := ⟨fun _ _ _ h => h, fun _ _ _ h => .inl h, fun _ h _ => h, fun _ h => h, fun _ _ h => h⟩
theorem Ext.im {pu : Bool} {w w' : WD} (e : Ext pu w w') {a : Addr} (hk : a ∈ w.keys) (h : ¬ w.im a) : ¬ w'.im a := by
  rintro ⟨l, b, q⟩
  rcases e.new l b a q with q | q
  · exact h ⟨l, b, q⟩
  · exact q hk
theorem mem_keys {w : WD} {p : Addr × Obj} (h : p ∈ w.news) : p.1 ∈ w.keys := List.mem_map_of_mem h
theorem Ext.trans {pu : Bool} {w w' w'' : WD} (e : Ext pu w w') (f : Ext pu w' w'') : Ext pu w w'' where
  sub l b a h := f.sub l b a (e.sub l b a h)
  new l b a h := by
    rcases f.new l b a h with h | h
    · exact e.new l b a h
    · exact .inr fun q => h (e.kin a q)
  pers p h q := f.pers p (e.pers p h q) (e.im (mem_keys h) q)
  kin a h := f.kin a (e.kin a h)
  pure z p h := f.pure z p (e.pure z p h)
/-- what a value's reading needs -/
structure Vex (w w' : WD) : Prop where
  sub : ∀ l b a, w.ρ l b = some a → w'.ρ l b = some a
  tup : ∀ a vs, (a, tupObj vs) ∈ w.news → ¬ w.im a → (a, tupObj vs) ∈ w'.news ∧ ¬ w'.im a
theorem Ext.vex {pu : Bool} {w w' : WD} (e : Ext pu w w') : Vex w w' := ⟨e.sub, fun _ _ h n => ⟨e.pers _ h n, e.im (mem_keys h) n⟩⟩
mutual
theorem VR.vex {w w' : WD} (e : Vex w w') : ∀ {x : V} {v : Value}, VR K w x v → VR K w' x v
  | _, _, .none => .none
  | _, _, .bool b => .bool b
  | _, _, .int i t => .int i t
  | _, _, .str s t => .str s t
  | _, _, .cell h => .cell (e.sub _ _ _ h)
  | _, _, .glob a => .glob a
  | _, _, .ty n => .ty n
  | _, _, .blt n => .blt n
  | _, _, .tup h n r => .tup (e.tup _ _ h n).1 (e.tup _ _ h n).2 (VRs.vex e r)
  | _, _, .ktup h => .ktup h
theorem VRs.vex {w w' : WD} (e : Vex w w') : ∀ {xs : List V} {vs : List Value}, VRs K w xs vs → VRs K w' xs vs
  | _, _, .nil => .nil
  | _, _, .cons h r => .cons (VR.vex e h) (VRs.vex e r)
end
theorem VR.ext {pu : Bool} {w w' : WD} (e : Ext pu w w') {x : V} {v : Value} (h : VR K w x v) : VR K w' x v := h.vex K e.vex
theorem VRs.ext {pu : Bool} {w w' : WD} (e : Ext pu w w') {xs : List V} {vs : List Value} (h : VRs K w xs vs) : VRs K w' xs vs := h.vex K e.vex
theorem VRs.length {w : WD} : ∀ {xs : List V} {vs : List Value}, VRs K w xs vs → vs.length = xs.length
  | _, _, .nil => rfl
  | _, _, .cons _ r => by rw [List.length_cons, List.length_cons, r.length]
theorem VRs.get {w : WD} : ∀ {xs : List V} {vs : List Value} {i : Nat} {x : V}, VRs K w xs vs → xs[i]? = some x → ∃ v, vs[i]? = some v ∧ VR K w x v
  | _, _, 0, _, .cons h _, e => by cases e; exact ⟨_, rfl, h⟩
  | _, _, i + 1, _, .cons _ r, e => by
    simp only [List.getElem?_cons_succ] at e ⊢
    exact r.get e
  | _, _, _, _, .nil, e => by simp at e
theorem VRs.append {w : WD} : ∀ {xs ys : List V} {vs us : List Value}, VRs K w xs vs → VRs K w ys us → VRs K w (xs ++ ys) (vs ++ us)
  | _, _, _, _, .nil, h => h
  | _, _, _, _, .cons a r, h => .cons a (r.append h)
theorem VRs.take {w : WD} : ∀ {xs : List V} {vs : List Value} (n : Nat), VRs K w xs vs → VRs K w (xs.take n) (vs.take n)
  | _, _, 0, _ => by simpa using VRs.nil
  | _, _, _ + 1, .nil => by simpa using VRs.nil
  | _, _, n + 1, .cons a r => by simpa using VRs.cons a (r.take n)
/-- entries of an object's dict -/
inductive ER (P : Params) (w : WD) : List (Str × V) → List DictEntry → Prop
  | nil : ER P w [] []
  | cons {k : Str} {t : Tok} {x : V} {v : Value} {es : List (Str × V)} {ds : List DictEntry} : VR K w x v → ER P w es ds → ER P w ((k, x) :: es) (⟨PyData.keyHash P k, .str k t, v⟩ :: ds)
theorem ER.ext {P : Params} {w w' : WD} (e : Vex w w') : ∀ {es : List (Str × V)} {ds : List DictEntry}, ER K P w es ds → ER K P w' es ds
  | _, _, .nil => .nil
  | _, _, .cons h r => .cons (VR.vex K e h) (r.ext e)
/-- the pairs of a dict by strs -/
inductive DR (w : WD) : List (Str × V) → List (Str × Value) → Prop
  | nil : DR w [] []
  | cons {k : Str} {x : V} {v : Value} {es : List (Str × V)} {ds : List (Str × Value)} : VR K w x v → DR w es ds → DR w ((k, x) :: es) ((k, v) :: ds)
theorem DR.ext {w w' : WD} (e : Vex w w') : ∀ {es : List (Str × V)} {ds : List (Str × Value)}, DR K w es ds → DR K w' es ds
  | _, _, .nil => .nil
  | _, _, .cons h r => .cons (VR.vex K e h) (r.ext e)
def getE (es : List (Str × V)) (k : Str) : Option V := (es.find? fun kv => kv.1 = k).map (·.2)
def putE (es : List (Str × V)) (k : Str) (x : V) : List (Str × V) := if es.any (fun kv => kv.1 = k) then es.map (fun kv => if kv.1 = k then (kv.1, x) else kv) else es ++ [(k, x)]
theorem DR.get {w : WD} {k : Str} : ∀ {es : List (Str × V)} {ds : List (Str × Value)}, DR K w es ds → (match getE es k with | some x => ∃ v, valueAt ds k = some v ∧ VR K w x v | Option.none => valueAt ds k = Option.none)
  | _, _, .nil => rfl
  | _, _, .cons (k := k') (es := es) (ds := ds) h r => by
    unfold getE valueAt
    rw [List.find?_cons, List.find?_cons]
    by_cases q : k' = k
    · simp only [q, decide_true, Option.map_some]; exact ⟨_, rfl, h⟩
    · simp only [q, decide_false]
      exact r.get
theorem DR.length {w : WD} : ∀ {es : List (Str × V)} {ds : List (Str × Value)}, DR K w es ds → ds.length = es.length
  | _, _, .nil => rfl
  | _, _, .cons _ r => by rw [List.length_cons, List.length_cons, r.length]
theorem DR.any {w : WD} {k : Str} : ∀ {es : List (Str × V)} {ds : List (Str × Value)}, DR K w es ds → ds.any (fun kv => kv.1 = k) = es.any (fun kv => kv.1 = k)
  | _, _, .nil => rfl
  | _, _, .cons _ r => by rw [List.any_cons, List.any_cons, r.any]
theorem DR.map {w : WD} {k : Str} {x : V} {v : Value} (hv : VR K w x v) : ∀ {es : List (Str × V)} {ds : List (Str × Value)}, DR K w es ds → DR K w (es.map fun kv => if kv.1 = k then (kv.1, x) else kv) (ds.map fun kv => if kv.1 = k then (kv.1, v) else kv)
  | _, _, .nil => .nil
  | _, _, .cons (k := k') h r => by
    rw [List.map_cons, List.map_cons]
    by_cases q : k' = k
    · rw [if_pos q, if_pos q]; exact .cons hv (r.map hv)
    · rw [if_neg q, if_neg q]; exact .cons h (r.map hv)
theorem DR.snoc {w : WD} {k : Str} {x : V} {v : Value} (hv : VR K w x v) : ∀ {es : List (Str × V)} {ds : List (Str × Value)}, DR K w es ds → DR K w (es ++ [(k, x)]) (ds ++ [(k, v)])
  | _, _, .nil => .cons hv .nil
  | _, _, .cons h r => .cons h (r.snoc hv)
theorem DR.put {w : WD} {k : Str} {x : V} {v : Value} {es : List (Str × V)} {ds : List (Str × Value)} (r : DR K w es ds) (hv : VR K w x v) : DR K w (putE es k x) (stored ds k v) := by
  unfold putE stored
  rw [r.any]
  split
  · exact r.map K hv
  · exact r.snoc K hv
def CellAt (prog : Program) (wo : World) (w : WD) (l : Loc) : Cell → Prop
  | .list xs => ∃ a vs n, w.ρ l false = some a ∧ (a, listOf vs.toArray n) ∈ w.news ∧ VRs K w xs vs
  | .dict es => ∃ a o kvs, w.ρ l false = some a ∧ (a, o) ∈ w.news ∧ (a == sysModules) = false ∧ o.IsDictOf (PySem.strKind prog wo) kvs ∧ DR K w es kvs
  | .inst c fs => ∃ a dx ds n, w.ρ l false = some a ∧ w.ρ l true = some dx ∧ (a, instObj c dx) ∈ w.news ∧ (dx, dictOf ds n) ∈ w.news ∧ ER K wo.params w fs ds
  | .var x => ∃ a o ov, w.ρ l false = some a ∧ (a, o) ∈ w.news ∧ o.data = .cell ov ∧ (match x with | some x => ∃ v, ov = some v ∧ VR K w x v | Option.none => True)
structure Rel (prog : Program) (wo : World) (w : WD) (H : MH) : Prop where
  cells : ∀ l c, H.c l = some c → CellAt K prog wo w l c
  inj : ∀ l b l' b' a, w.ρ l b = some a → w.ρ l' b' = some a → l = l' ∧ b = b'
  nod : w.keys.Nodup
  dom : ∀ l b a, w.ρ l b = some a → a ∈ w.keys
  free : ∀ l b, H.free l → w.ρ l b = Option.none
end
/-- the ambient: what the head gives -/
structure Amb where
  prog : Program
  w : World
  K : Frag
  p : Program
  loose : List Str
  mean : ExcName → Option Value
  mg : Str → Option Value
  mb : Str → Option Value
  pu : Bool
  zs : List (Addr × Obj)
structure CX (M : Amb) (d : Nat) (A : Around) (base h₀ : Heap) (outer : List Env) (fenv env : Env) (L : Addr) (m mm : Str → Option Value) (cl : List (Str × Loc)) (ml : List (Str × V)) (s : Shared) (wd : WD) (H : MH) : Prop where
  hA : A.frames = some (fenv :: outer)
  bel : ∃ A₀, Below A₀ base outer h₀
  ff : fenv.frame = some L
  fk : fenv.scope.kind = .function
  F : Fr h₀ L s.heap m
  N : News h₀ L s.heap wd.news
  X : M.K.In h₀
  Z : ∀ p ∈ M.zs, h₀.get? p.1 = some p.2
  T : Top M.p M.loose M.mean M.mg M.mb h₀
  hh : A.handled = none
  room : A.depth + 4 * d ≤ 600
  units : A.units + 20 * d ≤ 9000
  ek : env.scope.kind = .function
  eg : env.globals = mainGlobals
  eb : env.builtins = builtinsNs
  loc : (env.locals = L ∧ mm = m) ∨ (∃ o es ep, (env.locals, o) ∈ wd.news ∧ ¬ wd.im env.locals ∧ o.data = .dict es ep ∧ StrKeys es ∧ ∀ n, nsFind es n = mm n)
  lr : ∀ x v, ml.lookup x = some v → ∃ v', mm x = some v' ∧ VR M.K wd v v'
  cr : ∀ x l, cl.lookup x = some l → ∃ a, env.cells.lookup x = some a ∧ wd.ρ l false = some a
  rel : Rel M.K M.prog M.w wd H
/-- the general triple of a tree that changes no local name -/
def TG {α β : Type} (rel : Frag → WD → β → α → Prop) (M : Amb) (d : Nat) (sc : Scope) (cl : List (Str × Loc)) (ml : List (Str × V)) (H : MH) (t : Env → Sem α) (Q : β → MH → Prop) : Prop :=
  ∀ ⦃A : Around⦄ ⦃base h₀ : Heap⦄ ⦃outer : List Env⦄ ⦃fenv env : Env⦄ ⦃L : Addr⦄ ⦃m mm : Str → Option Value⦄ ⦃s : Shared⦄ ⦃wd : WD⦄ ⦃Qm : α → Shared → Prop⦄,
    env.scope = sc → CX M d A base h₀ outer fenv env L m mm cl ml s wd H →
    (∀ b a H' wd' h' tk', Q b H' → Ext M.pu wd wd' → rel M.K wd' b a → CX M d A base h₀ outer fenv env L m mm cl ml { s with heap := h', toks := tk' } wd' H' → Qm a { s with heap := h', toks := tk' }) →
    wpAny (model M.prog M.w) A (t env) Qm (fun _ _ => False) s
abbrev TE (M : Amb) (d : Nat) (sc : Scope) (cl : List (Str × Loc)) (ml : List (Str × V)) (H : MH) (e : Expr) (Q : V → MH → Prop) : Prop := TG VR M d sc cl ml H (eval e) Q
def argTrees (es : List Expr) (env : Env) : List (Bool × Sem Value) := es.map fun e => (false, eval e env)
abbrev TEs (M : Amb) (d : Nat) (sc : Scope) (cl : List (Str × Loc)) (ml : List (Str × V)) (H : MH) (es : List Expr) (Q : List V → MH → Prop) : Prop := TG VRs M d sc cl ml H (fun env => spliced (argTrees es env)) Q
abbrev eqR (_ : Frag) (_ : WD) (b a : Bool) : Prop := b = a
abbrev TB (M : Amb) (d : Nat) (sc : Scope) (cl : List (Str × Loc)) (ml : List (Str × V)) (H : MH) (e : Expr) (Q : Bool → MH → Prop) : Prop := TG eqR M d sc cl ml H (fun env => PySem.isTrue e env (eval e env)) Q
section
variable {M : Amb} {d : Nat} {A : Around} {base h₀ : Heap} {outer : List Env} {fenv env : Env} {L : Addr} {m mm : Str → Option Value} {cl : List (Str × Loc)} {ml : List (Str × V)} {s : Shared} {wd wd' : WD} {H H' : MH}
theorem CX.ns (c : CX M d A base h₀ outer fenv env L m mm cl ml s wd H) : s.heap.Ns env.locals mm := by
  rcases c.loc with ⟨h1, h2⟩ | ⟨o, es, ep, h1, _, h3, h4, h5⟩
  · rw [h1, h2]; exact c.F.ns
  · exact ⟨o, es, ep, (c.N _ h1).1, h3, h4, h5⟩
/-- on to a new state -/
theorem CX.go (c : CX M d A base h₀ outer fenv env L m mm cl ml s wd H) {h' : Heap} {tk' : Tok} (F : Fr h₀ L h' m) (N : News h₀ L h' wd'.news) (e : Ext M.pu wd wd') (R : Rel M.K M.prog M.w wd' H') :
    CX M d A base h₀ outer fenv env L m mm cl ml { s with heap := h', toks := tk' } wd' H' :=
  { c with
    F := F
    N := N
    loc := c.loc.imp id fun ⟨o, es, ep, h1, h2, h3⟩ => ⟨o, es, ep, e.pers _ h1 h2, e.im (mem_keys h1) h2, h3⟩
    lr := fun x v hx => let ⟨v', h1, h2⟩ := c.lr x v hx; ⟨v', h1, h2.ext M.K e⟩
    cr := fun x l hx => let ⟨a, h1, h2⟩ := c.cr x l hx; ⟨a, h1, e.sub _ _ _ h2⟩
    rel := R }
/-- the same heap, other toks -/
theorem CX.tok (c : CX M d A base h₀ outer fenv env L m mm cl ml s wd H) (tk' : Tok) : CX M d A base h₀ outer fenv env L m mm cl ml { s with heap := s.heap, toks := tk' } wd H := c.go c.F c.N (Ext.refl _) c.rel
end
section
variable {M : Amb} {d : Nat} {sc : Scope} {cl : List (Str × Loc)} {ml : List (Str × V)} {H : MH}
theorem TG.mono {α β : Type} {rel : Frag → WD → β → α → Prop} {t : Env → Sem α} {Q Q' : β → MH → Prop} (h : TG rel M d sc cl ml H t Q) (hq : ∀ b H', Q b H' → Q' b H') : TG rel M d sc cl ml H t Q' := by
  intro A base h₀ outer fenv env L m mm s wd Qm hs c k
  exact h hs c fun b a H' wd' h' tk' hb => k b a H' wd' h' tk' (hq b H' hb)
theorem TE_none {k : Nat} {pos : Pos} {Q : V → MH → Prop} (h : Q .none H) : TE M d sc cl ml H (.Constant .none k pos) Q := by
  intro A base h₀ outer fenv env L m mm s wd Qm hs c k
  exact Constant_none (k .none .none H wd s.heap s.toks h (Ext.refl _) .none (c.tok _))
theorem TE_bool {b : Bool} {k : Nat} {pos : Pos} {Q : V → MH → Prop} (h : Q (.bool b) H) : TE M d sc cl ml H (.Constant (.bool b) k pos) Q := by
  intro A base h₀ outer fenv env L m mm s wd Qm hs c k
  exact Constant_bool (k _ _ H wd s.heap s.toks h (Ext.refl _) (.bool b) (c.tok _))
theorem TE_int {i : Int} {k : Nat} {pos : Pos} {Q : V → MH → Prop} (h : Q (.int i) H) : TE M d sc cl ml H (.Constant (.int i) k pos) Q := by
  intro A base h₀ outer fenv env L m mm s wd Qm hs c k
  exact wpAny_Constant_int (k _ _ H wd s.heap (s.toks + 1) h (Ext.refl _) (.int i _) (c.tok _))
theorem TE_str {x : Str} {k : Nat} {pos : Pos} {Q : V → MH → Prop} (h : Q (.str x) H) : TE M d sc cl ml H (.Constant (.str x) k pos) Q := by
  intro A base h₀ outer fenv env L m mm s wd Qm hs c k
  exact wpAny_Constant_str (k _ _ H wd s.heap (s.toks + 1) h (Ext.refl _) (.str x _) (c.tok _))
theorem TE_local {x : Str} {pos : Pos} {v : V} {Q : V → MH → Prop} (hv : ml.lookup x = some v) (hk : sc.names.lookup x = some .local) (hd : (x == ("__debug__" : Str)) = false) (h : Q v H) : TE M d sc cl ml H (.Name x pos) Q := by
  intro A base h₀ outer fenv env L m mm s wd Qm hs c k
  obtain ⟨v', h1, h2⟩ := c.lr x v hv
  exact wpAny_Name (wpAny_loadName_local c.ek (by unfold Env.kindOf; rw [hs]; exact hk) c.ns h1 (k _ _ H wd s.heap s.toks h (Ext.refl _) h2 (c.tok _))) hd
theorem TE_cellvar {x : Str} {pos : Pos} {l : Loc} {v : V} {Q : V → MH → Prop} (hl : cl.lookup x = some l) (hc : H.c l = some (.var (some v))) (hk : sc.names.lookup x = some .cell) (hd : (x == ("__debug__" : Str)) = false) (h : Q v H) : TE M d sc cl ml H (.Name x pos) Q := by
  intro A base h₀ outer fenv env L m mm s wd Qm hs c k
  obtain ⟨a, h1, h2⟩ := c.cr x l hl
  obtain ⟨a', o, ov, e1, e2, e3, v', rfl, e4⟩ := c.rel.cells l _ hc
  obtain rfl : a = a' := Option.some.inj (h2.symm.trans e1)
  exact wpAny_Name (wpAny_loadName_cell c.ek (by unfold Env.kindOf; rw [hs]; exact hk) h1 ⟨o, (c.N _ e2).1, e3⟩ (k _ _ H wd s.heap s.toks h (Ext.refl _) e4 (c.tok _))) hd
theorem TE_freevar {x : Str} {pos : Pos} {l : Loc} {v : V} {Q : V → MH → Prop} (hl : cl.lookup x = some l) (hc : H.c l = some (.var (some v))) (hk : sc.names.lookup x = some .free) (hd : (x == ("__debug__" : Str)) = false) (hn : (x == ("__classdict__" : Str)) = false) (h : Q v H) : TE M d sc cl ml H (.Name x pos) Q := by
  intro A base h₀ outer fenv env L m mm s wd Qm hs c k
  obtain ⟨a, h1, h2⟩ := c.cr x l hl
  obtain ⟨a', o, ov, e1, e2, e3, v', rfl, e4⟩ := c.rel.cells l _ hc
  obtain rfl : a = a' := Option.some.inj (h2.symm.trans e1)
  exact wpAny_Name (wpAny_loadName_free c.ek (by unfold Env.kindOf; rw [hs]; exact hk) h1 ⟨o, (c.N _ e2).1, e3⟩ (k _ _ H wd s.heap s.toks h (Ext.refl _) e4 (c.tok _)) hn) hd
theorem TE_global {x : Str} {pos : Pos} {a : Addr} {Q : V → MH → Prop} (e : nsIn M.K mainGlobals x = some (some (.ref a))) (hk : sc.names.lookup x = some .globalImplicit) (hd : (x == ("__debug__" : Str)) = false) (h : Q (.glob a) H) : TE M d sc cl ml H (.Name x pos) Q := by
  intro A base h₀ outer fenv env L m mm s wd Qm hs c k
  exact nameG_K c.F c.X (topRead_of c.T) e (k _ _ H wd s.heap s.toks h (Ext.refl _) (.glob a) (c.tok _)) c.eg c.ek (by unfold Env.kindOf; rw [hs]; exact hk) hd
end
/-- a place's cell stands if its own entries stand -/
theorem CellAt.keep {K : Frag} {prog : Program} {wo : World} {w w' : WD} (e : Vex w w') {l : Loc} (hp : ∀ b a o, w.ρ l b = some a → (a, o) ∈ w.news → (a, o) ∈ w'.news) : ∀ {c : Cell}, CellAt K prog wo w l c → CellAt K prog wo w' l c
  | .list _, ⟨a, vs, n, e1, e2, e3⟩ => ⟨a, vs, n, e.sub _ _ _ e1, hp _ _ _ e1 e2, e3.vex _ e⟩
  | .dict _, ⟨a, o, kvs, e1, e2, e3, e4, e5⟩ => ⟨a, o, kvs, e.sub _ _ _ e1, hp _ _ _ e1 e2, e3, e4, e5.ext _ e⟩
  | .inst _ _, ⟨a, dx, ds, n, e1, e2, e3, e4, e5⟩ => ⟨a, dx, ds, n, e.sub _ _ _ e1, e.sub _ _ _ e2, hp _ _ _ e1 e3, hp _ _ _ e2 e4, e5.ext _ e⟩
  | .var x, ⟨a, o, ov, e1, e2, e3, e4⟩ => ⟨a, o, ov, e.sub _ _ _ e1, hp _ _ _ e1 e2, e3, by
      cases x with
      | none => trivial
      | some x => obtain ⟨v, i1, i2⟩ := e4; exact ⟨v, i1, i2.vex _ e⟩⟩
/-- one more object that no place names -/
def WD.more (w : WD) (a : Addr) (o : Obj) : WD := ⟨w.ρ, (a, o) :: w.news⟩
theorem Ext.more {pu : Bool} (w : WD) (a : Addr) (o : Obj) : Ext pu w (w.more a o) := ⟨fun _ _ _ h => h, fun _ _ _ h => .inl h, fun _ hp _ => .tail _ hp, fun _ ha => .tail _ ha, fun _ _ h => .tail _ h⟩
theorem Rel.more {K : Frag} {prog : Program} {wo : World} {w : WD} {H : MH} (r : Rel K prog wo w H) {a : Addr} (o : Obj) (ha : a ∉ w.keys) : Rel K prog wo (w.more a o) H where
  cells l c h := (r.cells l c h).keep (Ext.more (pu := true) w a o).vex fun _ _ _ _ q => .tail _ q
  inj := r.inj
  nod := List.nodup_cons.mpr ⟨ha, r.nod⟩
  dom l b a h := .tail _ (r.dom l b a h)
  free := r.free
/-- a place is named -/
def WD.name (w : WD) (l : Loc) (b : Bool) (a : Addr) : WD := ⟨fun l' b' => if l' = l ∧ b' = b then some a else w.ρ l' b', w.news⟩
theorem Ext.name {pu : Bool} {w : WD} {l : Loc} {b : Bool} {a : Addr} {o : Obj} (hf : w.ρ l b = none) (ha : a ∉ w.keys) : Ext pu w ((w.more a o).name l b a) := by
  refine ⟨fun l' b' a' h => ?_, fun l' b' a' h => ?_, fun p hp _ => .tail _ hp, fun a ha => .tail _ ha, fun _ _ h => .tail _ h⟩
  · show (if _ then _ else _) = _
    by_cases q : l' = l ∧ b' = b
    · rw [q.1, q.2, hf] at h; cases h
    · rw [if_neg q]; exact h
  · have h : (if l' = l ∧ b' = b then some a else w.ρ l' b') = some a' := h
    by_cases q : l' = l ∧ b' = b
    · rw [if_pos q] at h; cases h; exact .inr ha
    · rw [if_neg q] at h; exact .inl h
theorem free_add {H : MH} {l l' : Loc} {x : Cell} (hn : l' ≠ l) (h : (H.add l x).free l') : H.free l' := by
  refine ⟨fun k e => Nat.le_trans (le_bump l H.nx) (h.1 k e), fun q => ?_⟩
  have h2 : (if l' = l then some x else H.c l') = none := h.2 q
  rwa [if_neg hn] at h2
theorem not_free_add {H : MH} {l : Loc} {x : Cell} : ¬ (H.add l x).free l := by
  intro h
  by_cases q : ∃ k, l = .tmp k
  · obtain ⟨k, rfl⟩ := q
    have h : max H.nx (k + 1) ≤ k := h.1 k rfl
    omega
  · have h : (if l = l then some x else H.c l) = none := h.2 fun k e => q ⟨k, e⟩
    rw [if_pos rfl] at h; cases h
theorem Rel.name {K : Frag} {prog : Program} {wo : World} {w : WD} {H : MH} (r : Rel K prog wo w H) {l : Loc} {a : Addr} {o : Obj} {c : Cell} (hf : H.free l) (ha : a ∉ w.keys)
    (hc : CellAt K prog wo ((w.more a o).name l false a) l c) : Rel K prog wo ((w.more a o).name l false a) (H.add l c) where
  cells l' c' h := by
    have h : (if l' = l then some c else H.c l') = some c' := h
    by_cases q : l' = l
    · subst q; rw [if_pos rfl] at h; cases h; exact hc
    · rw [if_neg q] at h
      exact (r.cells l' c' h).keep (Ext.name (pu := true) (r.free l false hf) ha).vex fun _ _ _ _ q => .tail _ q
  inj l₁ b₁ l₂ b₂ a' h₁ h₂ := by
    have h₁ : (if l₁ = l ∧ b₁ = false then some a else w.ρ l₁ b₁) = some a' := h₁
    have h₂ : (if l₂ = l ∧ b₂ = false then some a else w.ρ l₂ b₂) = some a' := h₂
    by_cases q₁ : l₁ = l ∧ b₁ = false <;> by_cases q₂ : l₂ = l ∧ b₂ = false
    · exact ⟨q₁.1.trans q₂.1.symm, q₁.2.trans q₂.2.symm⟩
    · rw [if_pos q₁] at h₁; rw [if_neg q₂] at h₂; cases h₁; exact absurd (r.dom _ _ _ h₂) ha
    · rw [if_neg q₁] at h₁; rw [if_pos q₂] at h₂; cases h₂; exact absurd (r.dom _ _ _ h₁) ha
    · rw [if_neg q₁] at h₁; rw [if_neg q₂] at h₂; exact r.inj _ _ _ _ _ h₁ h₂
  nod := List.nodup_cons.mpr ⟨ha, r.nod⟩
  dom l' b' a' h := by
    have h : (if l' = l ∧ b' = false then some a else w.ρ l' b') = some a' := h
    by_cases q : l' = l ∧ b' = false
    · rw [if_pos q] at h; cases h; exact .head _
    · rw [if_neg q] at h; exact .tail _ (r.dom _ _ _ h)
  free l' b' h := by
    show (if l' = l ∧ b' = false then some a else w.ρ l' b') = none
    by_cases q : l' = l
    · subst q; exact absurd h not_free_add
    · rw [if_neg fun z => q z.1]; exact r.free l' b' (free_add q h)
theorem name_at (w : WD) (l : Loc) (b : Bool) (a : Addr) : (w.name l b a).ρ l b = some a := by show (if _ then _ else _) = _; rw [if_pos ⟨rfl, rfl⟩]
theorem key_mem {l : List (Addr × Obj)} {p : Addr × Obj} (h : p ∈ l) {a : Addr} (e : p.1 = a) : a ∈ l.map (·.1) := e ▸ List.mem_map_of_mem h
/-- an entry of the ledger changes -/
theorem upd_exists {d : Addr} {o o' : Obj} : ∀ {news : List (Addr × Obj)}, (news.map (·.1)).Nodup → (d, o) ∈ news → ∃ news', Upd d o o' news news' ∧ news'.map (·.1) = news.map (·.1) ∧ (d, o') ∈ news' ∧ ∀ p ∈ news, p.1 ≠ d → p ∈ news'
  | p :: r, hn, hm => by
    rw [List.map_cons, List.nodup_cons] at hn
    rcases List.mem_cons.mp hm with e | hm
    · subst e
      refine ⟨(d, o') :: r, .head fun q hq e => hn.1 (key_mem hq e), rfl, .head _, fun q hq hne => ?_⟩
      rcases List.mem_cons.mp hq with rfl | hq
      · exact absurd rfl hne
      · exact .tail _ hq
    · obtain ⟨r', U, hk, hm', hp⟩ := upd_exists hn.2 hm
      refine ⟨p :: r', .tail (fun e => hn.1 (e ▸ List.mem_map_of_mem hm)) U, by rw [List.map_cons, hk]; rfl, .tail _ hm', fun q hq hne => ?_⟩
      rcases List.mem_cons.mp hq with rfl | hq
      · exact .head _
      · exact .tail _ (hp q hq hne)
theorem nodup_eq {news : List (Addr × Obj)} (hn : (news.map (·.1)).Nodup) {a : Addr} {o o' : Obj} (h : (a, o) ∈ news) (h' : (a, o') ∈ news) : o = o' := by
  induction news with
  | nil => cases h
  | cons p r ih =>
    rw [List.map_cons, List.nodup_cons] at hn
    rcases List.mem_cons.mp h with e | h <;> rcases List.mem_cons.mp h' with e' | h'
    · rw [← e] at e'; cases e'; rfl
    · exact absurd (key_mem h' (by rw [← e])) hn.1
    · exact absurd (key_mem h (by rw [← e'])) hn.1
    · exact ih hn.2 h h'
/-- a place's entry changes: the new ledger -/
theorem Rel.set0 {pu : Bool} (hpu : pu = false) {K : Frag} {prog : Program} {wo : World} {w : WD} {H : MH} (r : Rel K prog wo w H) {l : Loc} {b : Bool} {a : Addr} {o o' : Obj} {c : Cell} (hl : w.ρ l b = some a) (hm : (a, o) ∈ w.news)
    (hc : ∀ news', (a, o') ∈ news' → (∀ p ∈ w.news, p.1 ≠ a → p ∈ news') → Ext pu w ⟨w.ρ, news'⟩ → CellAt K prog wo ⟨w.ρ, news'⟩ l c) :
    ∀ news', news'.map (·.1) = w.news.map (·.1) → (a, o') ∈ news' → (∀ p ∈ w.news, p.1 ≠ a → p ∈ news') → Ext pu w ⟨w.ρ, news'⟩ ∧ Rel K prog wo ⟨w.ρ, news'⟩ (H.put l c) := by
  intro news' hk hm' hp
  have E : Ext pu w ⟨w.ρ, news'⟩ := ⟨fun _ _ _ h => h, fun _ _ _ h => .inl h, fun p hp' hn => hp p hp' fun e => hn ⟨l, b, e ▸ hl⟩, fun a ha => by show a ∈ news'.map (·.1); rw [hk]; exact ha, fun z => absurd (hpu.symm.trans z) (by decide)⟩
  refine ⟨E, ?_, r.inj, by show (news'.map (·.1)).Nodup; rw [hk]; exact r.nod, fun l' b' a' h => by show a' ∈ news'.map (·.1); rw [hk]; exact r.dom l' b' a' h, fun l' b' h => ?_⟩
  · intro l' c' h
    have h : (if l' = l then some c else H.c l') = some c' := h
    by_cases q : l' = l
    · subst q; rw [if_pos rfl] at h; cases h; exact hc news' hm' hp E
    · rw [if_neg q] at h
      refine (r.cells l' c' h).keep E.vex fun b' a' o₁ h1 h2 => hp _ h2 fun e => q ?_
      have h1 : w.ρ l' b' = some a := by rw [h1]; exact congrArg some e
      exact (r.inj _ _ _ _ _ h1 hl).1
  · by_cases q : l' = l
    · subst q
      exfalso
      by_cases z : ∃ k, l' = .tmp k
      · obtain ⟨k, rfl⟩ := z
        have z2 := r.free (.tmp k) b (free_tmp (h.1 k rfl))
        rw [hl] at z2; cases z2
      · have h2 : (if l' = l' then some c else H.c l') = none := h.2 fun k e => z ⟨k, e⟩
        rw [if_pos rfl] at h2; cases h2
    · refine r.free l' b' ⟨h.1, fun n => ?_⟩
      have h2 : (if l' = l then some c else H.c l') = none := h.2 n
      rwa [if_neg q] at h2
theorem Rel.set {pu : Bool} (hpu : pu = false) {K : Frag} {prog : Program} {wo : World} {w : WD} {H : MH} (r : Rel K prog wo w H) {l : Loc} {b : Bool} {a : Addr} {o o' : Obj} {c : Cell} (hl : w.ρ l b = some a) (hm : (a, o) ∈ w.news)
    (hc : ∀ news', (a, o') ∈ news' → (∀ p ∈ w.news, p.1 ≠ a → p ∈ news') → Ext pu w ⟨w.ρ, news'⟩ → CellAt K prog wo ⟨w.ρ, news'⟩ l c) :
    ∃ news', Upd a o o' w.news news' ∧ Ext pu w ⟨w.ρ, news'⟩ ∧ Rel K prog wo ⟨w.ρ, news'⟩ (H.put l c) := by
  obtain ⟨news', U, hk, hm', hp⟩ := upd_exists (o' := o') r.nod hm
  obtain ⟨E, R⟩ := Rel.set0 hpu r hl hm hc news' hk hm' hp
  exact ⟨news', U, E, R⟩
/-- the same for an entry that is told later -/
theorem updF_of : ∀ {pre post : List (Addr × Obj)} {a : Addr} {o : Obj}, (∀ p ∈ pre, p.1 ≠ a) → (∀ p ∈ post, p.1 ≠ a) → UpdF a o (pre ++ (a, o) :: post) (fun o' => pre ++ (a, o') :: post)
  | [], _, _, _, _, h2 => .head h2
  | p :: r, _, _, _, h1, h2 => .tail (h1 p (.head _)) (updF_of (fun q hq => h1 q (.tail _ hq)) h2)
theorem Rel.setF {pu : Bool} (hpu : pu = false) {K : Frag} {prog : Program} {wo : World} {w : WD} {H : MH} (r : Rel K prog wo w H) {l : Loc} {b : Bool} {a : Addr} {o : Obj} (hl : w.ρ l b = some a) (hm : (a, o) ∈ w.news) :
    ∃ g, UpdF a o w.news g ∧ ∀ o' c, (∀ news', (a, o') ∈ news' → (∀ p ∈ w.news, p.1 ≠ a → p ∈ news') → Ext pu w ⟨w.ρ, news'⟩ → CellAt K prog wo ⟨w.ρ, news'⟩ l c) → Ext pu w ⟨w.ρ, g o'⟩ ∧ Rel K prog wo ⟨w.ρ, g o'⟩ (H.put l c) := by
  obtain ⟨_, U, _⟩ := upd_exists (o' := o) r.nod hm
  obtain ⟨pre, post, hw, _, h1, h2⟩ := U.split
  refine ⟨fun o' => pre ++ (a, o') :: post, by rw [hw]; exact updF_of h1 h2, fun o' c hc => Rel.set0 hpu r hl hm hc _ ?_ ?_ ?_⟩
  · rw [hw]; simp
  · simp
  · intro p hp hne
    rw [hw] at hp
    rcases List.mem_append.mp hp with q | q
    · exact List.mem_append_left _ q
    · rcases List.mem_cons.mp q with rfl | q
      · exact absurd rfl hne
      · exact List.mem_append_right _ (.tail _ q)
theorem CX.fresh {M : Amb} {d : Nat} {A : Around} {base h₀ : Heap} {outer : List Env} {fenv env : Env} {L : Addr} {m mm : Str → Option Value} {cl : List (Str × Loc)} {ml : List (Str × V)} {s : Shared} {wd : WD} {H : MH}
    (c : CX M d A base h₀ outer fenv env L m mm cl ml s wd H) : s.heap.objs.size ∉ wd.keys := fun hm => by
  obtain ⟨p, hp, e⟩ := List.mem_map.mp hm
  have := Heap.lt_size (c.N p hp).1
  rw [e] at this
  exact Nat.lt_irrefl _ this
theorem fresh_of {wd : WD} {a : Addr} (h : ∀ p ∈ wd.news, p.1 < a) : a ∉ wd.keys := fun hm => by
  obtain ⟨p, hp, e⟩ := List.mem_map.mp hm
  exact Nat.lt_irrefl _ (e ▸ h p hp)
/-- an object that stands in the ledger without a name changes and is named -/
theorem Rel.adopt0 {K : Frag} {prog : Program} {wo : World} {w : WD} {H : MH} (r : Rel K prog wo w H) {l : Loc} {a : Addr} {o o' : Obj} {c : Cell} (hf : H.free l) (hm : (a, o) ∈ w.news) (hn : ¬ w.im a) (ht : o.cls ≠ .type "tuple")
    (hc : ∀ w' : WD, w'.ρ l false = some a → (a, o') ∈ w'.news → Vex w w' → CellAt K prog wo w' l c) :
    ∀ news', news'.map (·.1) = w.news.map (·.1) → (a, o') ∈ news' → (∀ p ∈ w.news, p.1 ≠ a → p ∈ news') → Vex w ((⟨w.ρ, news'⟩ : WD).name l false a) ∧ Rel K prog wo ((⟨w.ρ, news'⟩ : WD).name l false a) (H.add l c) := by
  intro news' hk hm' hp
  have fl : ∀ b, w.ρ l b = none := fun b => r.free l b hf
  have E : Vex w ((⟨w.ρ, news'⟩ : WD).name l false a) := by
    refine ⟨fun l' b' a' h => ?_, fun a' vs h n => ?_⟩
    · show (if _ then _ else _) = _
      by_cases q : l' = l ∧ b' = false
      · rw [q.1, fl] at h; cases h
      · rw [if_neg q]; exact h
    · have ne : a' ≠ a := fun e => by
        subst e
        have := nodup_eq r.nod h hm
        exact ht (by rw [← this])
      refine ⟨hp _ h ne, ?_⟩
      rintro ⟨l', b', h'⟩
      have h' : (if l' = l ∧ b' = false then some a else w.ρ l' b') = some a' := h'
      by_cases q : l' = l ∧ b' = false
      · rw [if_pos q] at h'; cases h'; exact ne rfl
      · rw [if_neg q] at h'; exact n ⟨l', b', h'⟩
  refine ⟨E, ?_, ?_, by show (news'.map (·.1)).Nodup; rw [hk]; exact r.nod, ?_, ?_⟩
  · intro l' c' h
    have h : (if l' = l then some c else H.c l') = some c' := h
    by_cases q : l' = l
    · subst q; rw [if_pos rfl] at h; cases h
      exact hc _ (name_at ..) hm' E
    · rw [if_neg q] at h
      refine (r.cells l' c' h).keep E fun b' a' o₁ h1 h2 => hp _ h2 fun e => hn ⟨l', b', by rw [h1]; exact congrArg some e⟩
  · intro l₁ b₁ l₂ b₂ a' h₁ h₂
    have h₁ : (if l₁ = l ∧ b₁ = false then some a else w.ρ l₁ b₁) = some a' := h₁
    have h₂ : (if l₂ = l ∧ b₂ = false then some a else w.ρ l₂ b₂) = some a' := h₂
    by_cases q₁ : l₁ = l ∧ b₁ = false <;> by_cases q₂ : l₂ = l ∧ b₂ = false
    · exact ⟨q₁.1.trans q₂.1.symm, q₁.2.trans q₂.2.symm⟩
    · rw [if_pos q₁] at h₁; rw [if_neg q₂] at h₂; cases h₁; exact absurd ⟨_, _, h₂⟩ hn
    · rw [if_neg q₁] at h₁; rw [if_pos q₂] at h₂; cases h₂; exact absurd ⟨_, _, h₁⟩ hn
    · rw [if_neg q₁] at h₁; rw [if_neg q₂] at h₂; exact r.inj _ _ _ _ _ h₁ h₂
  · intro l' b' a' h
    show a' ∈ news'.map (·.1)
    rw [hk]
    have h : (if l' = l ∧ b' = false then some a else w.ρ l' b') = some a' := h
    by_cases q : l' = l ∧ b' = false
    · rw [if_pos q] at h; cases h; exact mem_keys hm
    · rw [if_neg q] at h; exact r.dom _ _ _ h
  · intro l' b' h
    show (if l' = l ∧ b' = false then some a else w.ρ l' b') = none
    by_cases q : l' = l
    · subst q; exact absurd h not_free_add
    · rw [if_neg fun z => q z.1]; exact r.free l' b' (free_add q h)
theorem Rel.adopt {K : Frag} {prog : Program} {wo : World} {w : WD} {H : MH} (r : Rel K prog wo w H) {l : Loc} {a : Addr} {o : Obj} (hf : H.free l) (hm : (a, o) ∈ w.news) (hn : ¬ w.im a) (ht : o.cls ≠ .type "tuple") :
    ∃ g, UpdF a o w.news g ∧ ∀ o', (g o').map (·.1) = w.news.map (·.1) ∧ (∀ p ∈ w.news, p.1 ≠ a → p ∈ g o') ∧ ∀ c, (∀ w' : WD, w'.ρ l false = some a → (a, o') ∈ w'.news → Vex w w' → CellAt K prog wo w' l c) →
      Vex w ((⟨w.ρ, g o'⟩ : WD).name l false a) ∧ Rel K prog wo ((⟨w.ρ, g o'⟩ : WD).name l false a) (H.add l c) := by
  obtain ⟨_, U, _⟩ := upd_exists (o' := o) r.nod hm
  obtain ⟨pre, post, hw, _, h1, h2⟩ := U.split
  have e1 : ∀ o', (pre ++ (a, o') :: post).map (·.1) = w.news.map (·.1) := fun o' => by rw [hw]; simp
  have e2 : ∀ o', ∀ p ∈ w.news, p.1 ≠ a → p ∈ pre ++ (a, o') :: post := fun o' p hp hne => by
    rw [hw] at hp
    rcases List.mem_append.mp hp with q | q
    · exact List.mem_append_left _ q
    · rcases List.mem_cons.mp q with rfl | q
      · exact absurd rfl hne
      · exact List.mem_append_right _ (.tail _ q)
  exact ⟨fun o' => pre ++ (a, o') :: post, by rw [hw]; exact updF_of h1 h2, fun o' => ⟨e1 o', e2 o', fun c hc => r.adopt0 hf hm hn ht hc _ (e1 o') (by simp) (e2 o')⟩⟩
theorem Ext.adopt {pu : Bool} {w w2 : WD} {a : Addr} {o : Obj} {l : Loc} {news' : List (Addr × Obj)} (e : Ext pu (w.more a o) w2) (ha : a ∉ w.keys) (hl : ∀ b, w2.ρ l b = none) (hk : news'.map (·.1) = w2.news.map (·.1)) (hp : ∀ p ∈ w2.news, p.1 ≠ a → p ∈ news') :
    Ext pu w ((⟨w2.ρ, news'⟩ : WD).name l false a) := by
  refine ⟨fun l' b' a' h => ?_, fun l' b' a' h => ?_, fun p hp' hn => ?_, fun a' h => ?_, fun z p hp' => ?_⟩
  · have h2 := e.sub l' b' a' h
    show (if _ then _ else _) = _
    by_cases q : l' = l ∧ b' = false
    · rw [q.1, hl] at h2; cases h2
    · rw [if_neg q]; exact h2
  · have h : (if l' = l ∧ b' = false then some a else w2.ρ l' b') = some a' := h
    by_cases q : l' = l ∧ b' = false
    · rw [if_pos q] at h; cases h; exact .inr ha
    · rw [if_neg q] at h
      rcases e.new l' b' a' h with h | h
      · exact .inl h
      · exact .inr fun z => h (.tail _ z)
  · refine hp p (e.pers p (.tail _ hp') hn) fun z => ha ?_
    rw [← z]; exact mem_keys hp'
  · show a' ∈ news'.map (·.1)
    rw [hk]
    exact e.kin a' (.tail _ h)
  · refine hp p (e.pure z p (.tail _ hp')) fun y => ha ?_
    rw [← y]; exact mem_keys hp'
/-- an object and its dict are named -/
def WD.inst (w : WD) (l : Loc) (x dx : Addr) (C : Addr) : WD :=
  ⟨fun l' b' => if l' = l then (if b' = true then some dx else some x) else w.ρ l' b', (x, instObj C dx) :: (dx, dictOf [] 0) :: w.news⟩
theorem Ext.inst {pu : Bool} {w : WD} {l : Loc} {x dx C : Addr} (hf : ∀ b, w.ρ l b = none) (hx : x ∉ w.keys) (hd : dx ∉ w.keys) : Ext pu w (w.inst l x dx C) := by
  refine ⟨fun l' b' a' h => ?_, fun l' b' a' h => ?_, fun p hp _ => .tail _ (.tail _ hp), fun a ha => .tail _ (.tail _ ha), fun _ _ h => .tail _ (.tail _ h)⟩
  · show (if _ then _ else _) = _
    by_cases q : l' = l
    · rw [q, hf] at h; cases h
    · rw [if_neg q]; exact h
  · have h : (if l' = l then (if b' = true then some dx else some x) else w.ρ l' b') = some a' := h
    by_cases q : l' = l
    · rw [if_pos q] at h
      by_cases z : b' = true
      · rw [if_pos z] at h; cases h; exact .inr hd
      · rw [if_neg z] at h; cases h; exact .inr hx
    · rw [if_neg q] at h; exact .inl h
theorem Rel.inst {K : Frag} {prog : Program} {wo : World} {w : WD} {H : MH} (r : Rel K prog wo w H) {l : Loc} {x dx C : Addr} (hf : H.free l) (hx : x ∉ w.keys) (hd : dx ∉ w.keys) (hne : x ≠ dx) : Rel K prog wo (w.inst l x dx C) (H.add l (.inst C [])) := by
  have E : Ext true w (w.inst l x dx C) := Ext.inst (fun b => r.free l b hf) hx hd
  have ρe : ∀ l' b', (w.inst l x dx C).ρ l' b' = if l' = l then (if b' = true then some dx else some x) else w.ρ l' b' := fun _ _ => rfl
  refine ⟨?_, ?_, ?_, ?_, ?_⟩
  · intro l' c' h
    have h : (if l' = l then some (Cell.inst C []) else H.c l') = some c' := h
    by_cases q : l' = l
    · subst q; rw [if_pos rfl] at h; cases h
      exact ⟨x, dx, [], 0, by rw [ρe]; simp, by rw [ρe]; simp, .head _, .tail _ (.head _), .nil⟩
    · rw [if_neg q] at h
      exact (r.cells l' c' h).keep E.vex fun _ _ _ _ z => .tail _ (.tail _ z)
  · intro l₁ b₁ l₂ b₂ a' h₁ h₂
    rw [ρe] at h₁ h₂
    by_cases q₁ : l₁ = l <;> by_cases q₂ : l₂ = l
    · refine ⟨q₁.trans q₂.symm, ?_⟩
      rw [if_pos q₁] at h₁; rw [if_pos q₂] at h₂
      cases b₁ <;> cases b₂ <;> simp at h₁ h₂ <;> first | rfl | (exfalso; apply hne; rw [h₁, h₂]) | (exfalso; apply hne; rw [h₂, h₁])
    · rw [if_pos q₁] at h₁; rw [if_neg q₂] at h₂
      have z := r.dom _ _ _ h₂
      cases b₁ <;> simp at h₁ <;> subst h₁ <;> first | exact absurd z hx | exact absurd z hd
    · rw [if_neg q₁] at h₁; rw [if_pos q₂] at h₂
      have z := r.dom _ _ _ h₁
      cases b₂ <;> simp at h₂ <;> subst h₂ <;> first | exact absurd z hx | exact absurd z hd
    · rw [if_neg q₁] at h₁; rw [if_neg q₂] at h₂; exact r.inj _ _ _ _ _ h₁ h₂
  · refine List.nodup_cons.mpr ⟨fun hm => ?_, List.nodup_cons.mpr ⟨hd, r.nod⟩⟩
    rcases List.mem_cons.mp hm with e | hm
    · exact hne e
    · exact hx hm
  · intro l' b' a' h
    rw [ρe] at h
    by_cases q : l' = l
    · rw [if_pos q] at h
      cases b' <;> simp at h <;> subst h
      · exact .head _
      · exact .tail _ (.head _)
    · rw [if_neg q] at h; exact .tail _ (.tail _ (r.dom _ _ _ h))
  · intro l' b' h
    rw [ρe]
    by_cases q : l' = l
    · subst q; exact absurd h not_free_add
    · rw [if_neg q]; exact r.free l' b' (free_add q h)
theorem mk_again {s : Shared} {h h' : Heap} {t t' : Tok} : ({ ({ s with heap := h, toks := t } : Shared) with heap := h', toks := t' } : Shared) = { s with heap := h', toks := t' } := rfl
/-- a tree over one value, two, a list of values -/
def OP1 {α β : Type} (rel : Frag → WD → β → α → Prop) (M : Amb) (d : Nat) (cl : List (Str × Loc)) (ml : List (Str × V)) (H : MH) (t : Value → Sem α) (x : V) (Q : β → MH → Prop) : Prop :=
  ∀ ⦃A : Around⦄ ⦃base h₀ : Heap⦄ ⦃outer : List Env⦄ ⦃fenv env : Env⦄ ⦃L : Addr⦄ ⦃m mm : Str → Option Value⦄ ⦃s : Shared⦄ ⦃wd : WD⦄ ⦃Qm : α → Shared → Prop⦄ ⦃x' : Value⦄,
    CX M d A base h₀ outer fenv env L m mm cl ml s wd H → VR M.K wd x x' →
    (∀ b a H' wd' h' tk', Q b H' → Ext M.pu wd wd' → rel M.K wd' b a → CX M d A base h₀ outer fenv env L m mm cl ml { s with heap := h', toks := tk' } wd' H' → Qm a { s with heap := h', toks := tk' }) →
    wpAny (model M.prog M.w) A (t x') Qm (fun _ _ => False) s
def OP2 {α β : Type} (rel : Frag → WD → β → α → Prop) (M : Amb) (d : Nat) (cl : List (Str × Loc)) (ml : List (Str × V)) (H : MH) (t : Value → Value → Sem α) (x y : V) (Q : β → MH → Prop) : Prop :=
  ∀ ⦃A : Around⦄ ⦃base h₀ : Heap⦄ ⦃outer : List Env⦄ ⦃fenv env : Env⦄ ⦃L : Addr⦄ ⦃m mm : Str → Option Value⦄ ⦃s : Shared⦄ ⦃wd : WD⦄ ⦃Qm : α → Shared → Prop⦄ ⦃x' y' : Value⦄,
    CX M d A base h₀ outer fenv env L m mm cl ml s wd H → VR M.K wd x x' → VR M.K wd y y' →
    (∀ b a H' wd' h' tk', Q b H' → Ext M.pu wd wd' → rel M.K wd' b a → CX M d A base h₀ outer fenv env L m mm cl ml { s with heap := h', toks := tk' } wd' H' → Qm a { s with heap := h', toks := tk' }) →
    wpAny (model M.prog M.w) A (t x' y') Qm (fun _ _ => False) s
def OPs {α β : Type} (rel : Frag → WD → β → α → Prop) (M : Amb) (d : Nat) (cl : List (Str × Loc)) (ml : List (Str × V)) (H : MH) (t : List Value → Sem α) (xs : List V) (Q : β → MH → Prop) : Prop :=
  ∀ ⦃A : Around⦄ ⦃base h₀ : Heap⦄ ⦃outer : List Env⦄ ⦃fenv env : Env⦄ ⦃L : Addr⦄ ⦃m mm : Str → Option Value⦄ ⦃s : Shared⦄ ⦃wd : WD⦄ ⦃Qm : α → Shared → Prop⦄ ⦃xs' : List Value⦄,
    CX M d A base h₀ outer fenv env L m mm cl ml s wd H → VRs M.K wd xs xs' →
    (∀ b a H' wd' h' tk', Q b H' → Ext M.pu wd wd' → rel M.K wd' b a → CX M d A base h₀ outer fenv env L m mm cl ml { s with heap := h', toks := tk' } wd' H' → Qm a { s with heap := h', toks := tk' }) →
    wpAny (model M.prog M.w) A (t xs') Qm (fun _ _ => False) s
section
variable {M : Amb} {d : Nat} {sc : Scope} {cl : List (Str × Loc)} {ml : List (Str × V)} {H : MH}
theorem TE_bty {x : Str} {pos : Pos} {n : String} {Q : V → MH → Prop} (e : nsIn M.K mainGlobals x = some none) (hv : bootBuiltins x = some (.type n)) (hn : x ≠ "__name__") (hk : sc.names.lookup x = some .globalImplicit) (hd : (x == ("__debug__" : Str)) = false) (h : Q (.ty n) H) : TE M d sc cl ml H (.Name x pos) Q := by
  intro A base h₀ outer fenv env L m mm s wd Qm hs c k
  have T := topRead_of c.T
  exact Name_function_global c.ek (by unfold Env.kindOf; rw [hs]; exact hk) (loadGlobal_builtin (by rw [c.eg]; exact T.g.keeps c.F.keep) (mg_none_of c.X T.g e) (by rw [c.eb]; exact T.b.keeps c.F.keep) ((T.builtins x hn).trans hv)
    (k _ _ H wd s.heap s.toks h (Ext.refl _) (.ty n) (c.tok _))) hd
theorem TE_bblt {x : Str} {pos : Pos} {n : String} {Q : V → MH → Prop} (e : nsIn M.K mainGlobals x = some none) (hv : bootBuiltins x = some (.builtin n)) (hn : x ≠ "__name__") (hk : sc.names.lookup x = some .globalImplicit) (hd : (x == ("__debug__" : Str)) = false) (h : Q (.blt n) H) : TE M d sc cl ml H (.Name x pos) Q := by
  intro A base h₀ outer fenv env L m mm s wd Qm hs c k
  have T := topRead_of c.T
  exact Name_function_global c.ek (by unfold Env.kindOf; rw [hs]; exact hk) (loadGlobal_builtin (by rw [c.eg]; exact T.g.keeps c.F.keep) (mg_none_of c.X T.g e) (by rw [c.eb]; exact T.b.keeps c.F.keep) ((T.builtins x hn).trans hv)
    (k _ _ H wd s.heap s.toks h (Ext.refl _) (.blt n) (c.tok _))) hd
theorem TE_bin {l r : Expr} {op : Operator} {pos : Pos} {Q : V → MH → Prop}
    (h : TE M d sc cl ml H l fun a H1 => TE M d sc cl ml H1 r fun b H2 => OP2 VR M d cl ml H2 (binaryOp op) a b Q) : TE M d sc cl ml H (.BinOp l op r pos) Q := by
  intro A base h₀ outer fenv env L m mm s wd Qm hs c k
  exact wpAny_BinOp (h hs c fun a a' H1 w1 h1 t1 q1 x1 r1 c1 => q1 hs c1 fun b b' H2 w2 h2 t2 q2 x2 r2 c2 =>
    q2 c2 (r1.ext _ x2) r2 fun v v' H3 w3 h3 t3 q3 x3 r3 c3 => k v v' H3 w3 h3 t3 q3 ((x1.trans x2).trans x3) r3 c3)
theorem TE_un {x : Expr} {op : UnaryOp} {pos : Pos} {Q : V → MH → Prop} (h : TE M d sc cl ml H x fun a H1 => OP1 VR M d cl ml H1 (unaryOp op) a Q) : TE M d sc cl ml H (.UnaryOp op x pos) Q := by
  intro A base h₀ outer fenv env L m mm s wd Qm hs c k
  exact UnaryOp_ (h hs c fun a a' H1 w1 h1 t1 q1 x1 r1 c1 => q1 c1 r1 fun v v' H3 w3 h3 t3 q3 x3 r3 c3 => k v v' H3 w3 h3 t3 q3 (x1.trans x3) r3 c3)
theorem TE_cmp {l r : Expr} {op : CmpOp} {pos : Pos} {Q : V → MH → Prop} (hb : behindInMarks op r = false)
    (h : TE M d sc cl ml H l fun a H1 => TE M d sc cl ml H1 r fun b H2 => OP2 VR M d cl ml H2 (compareOp op) a b Q) : TE M d sc cl ml H (.Compare l [op] [r] pos) Q := by
  intro A base h₀ outer fenv env L m mm s wd Qm hs c k
  exact wpAny_Compare1 (h hs c fun a a' H1 w1 h1 t1 q1 x1 r1 c1 => q1 hs c1 fun b b' H2 w2 h2 t2 q2 x2 r2 c2 =>
    q2 c2 (r1.ext _ x2) r2 fun v v' H3 w3 h3 t3 q3 x3 r3 c3 => k v v' H3 w3 h3 t3 q3 ((x1.trans x2).trans x3) r3 c3) hb
theorem TB_cmp {l r : Expr} {op : CmpOp} {pos : Pos} {Q : Bool → MH → Prop} (hb : behindInMarks op r = false)
    (h : TE M d sc cl ml H l fun a H1 => TE M d sc cl ml H1 r fun b H2 => OP2 VR M d cl ml H2 (compareOp op) a b fun v H3 => ∃ b, v = .bool b ∧ Q b H3) : TB M d sc cl ml H (.Compare l [op] [r] pos) Q := by
  intro A base h₀ outer fenv env L m mm s wd Qm hs c k
  refine wpAny_isTrue_Compare1 (h hs c fun a a' H1 w1 h1 t1 q1 x1 r1 c1 => q1 hs c1 fun b b' H2 w2 h2 t2 q2 x2 r2 c2 =>
    q2 c2 (r1.ext _ x2) r2 fun v v' H3 w3 h3 t3 q3 x3 r3 c3 => ?_) hb
  obtain ⟨b, rfl, q⟩ := q3
  cases r3
  exact wpAny_truthy_bool (k b b H3 w3 h3 t3 q ((x1.trans x2).trans x3) rfl c3)
theorem TB_not {x : Expr} {pos : Pos} {Q : Bool → MH → Prop} (h : TB M d sc cl ml H x fun b H1 => Q (!b) H1) : TB M d sc cl ml H (.UnaryOp .Not x pos) Q := by
  intro A base h₀ outer fenv env L m mm s wd Qm hs c k
  refine isTrue_not (h hs c fun b a H1 w1 h1 t1 q1 x1 r1 c1 => ?_)
  cases r1
  exact k _ _ H1 w1 h1 t1 q1 x1 rfl c1
theorem TB_and {x : Expr} {rest : List Expr} {pos : Pos} {Q : Bool → MH → Prop} (h : TB M d sc cl ml H x fun b H1 => if b = true then TB M d sc cl ml H1 (.BoolOp .And rest pos) Q else Q false H1) :
    TB M d sc cl ml H (.BoolOp .And (x :: rest) pos) Q := by
  intro A base h₀ outer fenv env L m mm s wd Qm hs c k
  refine isTrue_and (h hs c fun b a H1 w1 h1 t1 q1 x1 r1 c1 => ?_)
  cases r1
  cases b with
  | true => exact q1 hs c1 fun v v' H3 w3 h3 t3 q3 x3 r3 c3 => k v v' H3 w3 h3 t3 q3 (x1.trans x3) r3 c3
  | false => exact k _ _ H1 w1 h1 t1 q1 x1 rfl c1
theorem TB_and_nil {pos : Pos} {Q : Bool → MH → Prop} (h : Q true H) : TB M d sc cl ml H (.BoolOp .And [] pos) Q := by
  intro A base h₀ outer fenv env L m mm s wd Qm hs c k
  exact isTrue_and_nil (k _ _ H wd s.heap s.toks h (Ext.refl _) rfl (c.tok _))
theorem TB_or {x : Expr} {rest : List Expr} {pos : Pos} {Q : Bool → MH → Prop} (h : TB M d sc cl ml H x fun b H1 => if b = true then Q true H1 else TB M d sc cl ml H1 (.BoolOp .Or rest pos) Q) :
    TB M d sc cl ml H (.BoolOp .Or (x :: rest) pos) Q := by
  intro A base h₀ outer fenv env L m mm s wd Qm hs c k
  refine isTrue_or (h hs c fun b a H1 w1 h1 t1 q1 x1 r1 c1 => ?_)
  cases r1
  cases b with
  | false => exact q1 hs c1 fun v v' H3 w3 h3 t3 q3 x3 r3 c3 => k v v' H3 w3 h3 t3 q3 (x1.trans x3) r3 c3
  | true => exact k _ _ H1 w1 h1 t1 q1 x1 rfl c1
theorem TB_or_nil {pos : Pos} {Q : Bool → MH → Prop} (h : Q false H) : TB M d sc cl ml H (.BoolOp .Or [] pos) Q := by
  intro A base h₀ outer fenv env L m mm s wd Qm hs c k
  exact isTrue_or_nil (k _ _ H wd s.heap s.toks h (Ext.refl _) rfl (c.tok _))
theorem TB_plain {e : Expr} {Q : Bool → MH → Prop} (hp : ∀ env whole, PySem.isTrue e env whole = (do let v ← whole; standAt e.pos; holding [v] (truthy v)))
    (h : TE M d sc cl ml H e fun v H1 => OP1 eqR M d cl ml H1 truthy v Q) : TB M d sc cl ml H e Q := by
  intro A base h₀ outer fenv env L m mm s wd Qm hs c k
  exact isTrue_plain (h hs c fun a a' H1 w1 h1 t1 q1 x1 r1 c1 => q1 c1 r1 fun v v' H3 w3 h3 t3 q3 x3 r3 c3 => k v v' H3 w3 h3 t3 q3 (x1.trans x3) r3 c3) (hp _ _)
theorem TE_one {e : Expr} {op : BoolOp} {pos : Pos} {Q : V → MH → Prop} (h : TE M d sc cl ml H e Q) : TE M d sc cl ml H (.BoolOp op [e] pos) Q := by
  intro A base h₀ outer fenv env L m mm s wd Qm hs c k
  exact BoolOp_one (h hs c k)
theorem TE_and {e₁ e₂ : Expr} {rest : List Expr} {pos : Pos} {Q : V → MH → Prop}
    (h : TE M d sc cl ml H e₁ fun v H1 => OP1 eqR M d cl ml H1 truthy v fun b H2 => if b = true then TE M d sc cl ml H2 (.BoolOp .And (e₂ :: rest) pos) Q else Q v H2) :
    TE M d sc cl ml H (.BoolOp .And (e₁ :: e₂ :: rest) pos) Q := by
  intro A base h₀ outer fenv env L m mm s wd Qm hs c k
  refine BoolOp_and (h hs c fun a a' H1 w1 h1 t1 q1 x1 r1 c1 => q1 c1 r1 fun b b' H2 w2 h2 t2 q2 x2 r2 c2 => ?_)
  cases r2
  cases b with
  | true => exact q2 hs c2 fun v v' H3 w3 h3 t3 q3 x3 r3 c3 => k v v' H3 w3 h3 t3 q3 ((x1.trans x2).trans x3) r3 c3
  | false => exact k _ _ H2 w2 h2 t2 q2 (x1.trans x2) (r1.ext _ x2) c2
theorem TE_or {e₁ e₂ : Expr} {rest : List Expr} {pos : Pos} {Q : V → MH → Prop}
    (h : TE M d sc cl ml H e₁ fun v H1 => OP1 eqR M d cl ml H1 truthy v fun b H2 => if b = true then Q v H2 else TE M d sc cl ml H2 (.BoolOp .Or (e₂ :: rest) pos) Q) :
    TE M d sc cl ml H (.BoolOp .Or (e₁ :: e₂ :: rest) pos) Q := by
  intro A base h₀ outer fenv env L m mm s wd Qm hs c k
  refine BoolOp_or (h hs c fun a a' H1 w1 h1 t1 q1 x1 r1 c1 => q1 c1 r1 fun b b' H2 w2 h2 t2 q2 x2 r2 c2 => ?_)
  cases r2
  cases b with
  | false => exact q2 hs c2 fun v v' H3 w3 h3 t3 q3 x3 r3 c3 => k v v' H3 w3 h3 t3 q3 ((x1.trans x2).trans x3) r3 c3
  | true => exact k _ _ H2 w2 h2 t2 q2 (x1.trans x2) (r1.ext _ x2) c2
theorem TE_if {test body orelse : Expr} {pos : Pos} {Q : V → MH → Prop} (h : TB M d sc cl ml H test fun b H1 => if b = true then TE M d sc cl ml H1 body Q else TE M d sc cl ml H1 orelse Q) :
    TE M d sc cl ml H (.IfExp test body orelse pos) Q := by
  intro A base h₀ outer fenv env L m mm s wd Qm hs c k
  refine IfExp_ (h hs c fun b a H1 w1 h1 t1 q1 x1 r1 c1 => ?_)
  cases r1
  cases b with
  | true => exact q1 hs c1 fun v v' H3 w3 h3 t3 q3 x3 r3 c3 => k v v' H3 w3 h3 t3 q3 (x1.trans x3) r3 c3
  | false => exact q1 hs c1 fun v v' H3 w3 h3 t3 q3 x3 r3 c3 => k v v' H3 w3 h3 t3 q3 (x1.trans x3) r3 c3
theorem TE_sub {value slice : Expr} {pos : Pos} {Q : V → MH → Prop}
    (h : TE M d sc cl ml H value fun o H1 => TE M d sc cl ml H1 slice fun i H2 => OP2 VR M d cl ml H2 (subscriptTail value slice) o i Q) : TE M d sc cl ml H (.Subscript value slice pos) Q := by
  intro A base h₀ outer fenv env L m mm s wd Qm hs c k
  exact Subscript_ (h hs c fun a a' H1 w1 h1 t1 q1 x1 r1 c1 => q1 hs c1 fun b b' H2 w2 h2 t2 q2 x2 r2 c2 =>
    q2 c2 (r1.ext _ x2) r2 fun v v' H3 w3 h3 t3 q3 x3 r3 c3 => k v v' H3 w3 h3 t3 q3 ((x1.trans x2).trans x3) r3 c3)
theorem TE_attr {value : Expr} {attr : Str} {pos : Pos} {Q : V → MH → Prop}
    (he : ∀ env, eval (.Attribute value attr pos) env = (do let o ← eval value env; standAt pos.atName; let r ← holding [o] (getAttr o attr true); letTemporaryGo value o r; pure r))
    (h : TE M d sc cl ml H value fun o H1 => OP1 VR M d cl ml H1 (fun o => getAttr o attr true) o Q) : TE M d sc cl ml H (.Attribute value attr pos) Q := by
  intro A base h₀ outer fenv env L m mm s wd Qm hs c k
  exact Attribute_any_ (h hs c fun a a' H1 w1 h1 t1 q1 x1 r1 c1 => q1 c1 r1 fun v v' H3 w3 h3 t3 q3 x3 r3 c3 => k v v' H3 w3 h3 t3 q3 (x1.trans x3) r3 c3) (he _)
/- lists of arguments -/
theorem TEs_nil {Q : List V → MH → Prop} (h : Q [] H) : TEs M d sc cl ml H [] Q := by
  intro A base h₀ outer fenv env L m mm s wd Qm hs c k
  exact wpAny_pure (k _ _ H wd s.heap s.toks h (Ext.refl _) .nil (c.tok _))
theorem TEs_cons {e : Expr} {rest : List Expr} {Q : List V → MH → Prop} (h : TE M d sc cl ml H e fun v H1 => TEs M d sc cl ml H1 rest fun vs H2 => Q (v :: vs) H2) : TEs M d sc cl ml H (e :: rest) Q := by
  intro A base h₀ outer fenv env L m mm s wd Qm hs c k
  show wpAny _ _ (spliced ((false, eval e env) :: argTrees rest env)) _ _ _
  unfold spliced
  refine wpAny_bind (h hs c fun a a' H1 w1 h1 t1 q1 x1 r1 c1 => ?_)
  refine wpAny_bind (wpAny_pure (wpAny_bind (wpAny_holding (q1 hs c1 fun b b' H2 w2 h2 t2 q2 x2 r2 c2 => ?_))))
  exact wpAny_pure (k _ _ H2 w2 h2 t2 q2 (x1.trans x2) (.cons (r1.ext _ x2) r2) c2)
theorem back_args (pos : Pos) (es : List Expr) (env : Env) : backTo pos (argTrees es env) = argTrees es env := by
  unfold backTo argTrees
  rw [List.map_map]
  rfl
theorem TE_tuple {es : List Expr} {n : Nat} {pos : Pos} {Q : V → MH → Prop} (ha : ∀ env, starEach es env = argTrees es env) (hz : es.length ≤ 1000)
    (h : TEs M d sc cl ml H es fun vs H1 => vs.length ≤ 1000 ∧ Q (.tup vs) H1) : TE M d sc cl ml H (.Tuple es n pos) Q := by
  intro A base h₀ outer fenv env L m mm s wd Qm hs c k
  refine Tuple_ ?_
  rw [ha, back_args]
  refine h hs c fun a a' H1 w1 h1 t1 q1 x1 r1 c1 => ?_
  have hl := r1.length
  refine newTuple_N c1.F c1.N (fun h' F' N' => ?_) (by have := q1.1; rw [hl]; show _ ≤ 2 ^ 24; omega)
  have nk := c1.fresh
  refine k _ _ H1 (w1.more h1.objs.size (tupObj a')) h' t1 q1.2 (x1.trans (.more _ _ _)) (.tup (.head _) ?_ (r1.ext _ (Ext.more (pu := M.pu) _ _ _))) (c1.go F' N' (.more _ _ _) (c1.rel.more _ nk))
  rintro ⟨l, b, hb⟩
  exact nk (c1.rel.dom l b _ hb)
end
/- objects with a dict -/
def setF : List (Str × V) → Str → V → List (Str × V)
  | [], k, x => [(k, x)]
  | (k', y) :: r, k, x => if k' == k then (k', x) :: r else (k', y) :: setF r k x
def getF : List (Str × V) → Str → Option V
  | [], _ => none
  | (k', y) :: r, k => if k' == k then some y else getF r k
section
variable {K : Frag} {P : Params} {w : WD}
theorem getL_cons (k k' : Str) (hsh : Int) (t : Tok) (v : Value) (ds : List DictEntry) : getL k (⟨hsh, .str k' t, v⟩ :: ds) = if (k' == k) = true then some (some v) else getL k ds := by
  have e : (⟨hsh, .str k' t, v⟩ : DictEntry).key.isStr k = (k' == k) := rfl
  unfold getL
  rw [List.find?_cons, e, List.any_cons]
  by_cases q : (k' == k) = true
  · rw [q, if_pos rfl]
  · rw [if_neg q]
    have q' : (k' == k) = false := by simpa using q
    rw [q']
    rfl
theorem ER.get {k : Str} : ∀ {es : List (Str × V)} {ds : List DictEntry}, ER K P w es ds → ∀ x, getF es k = some x → ∃ v, getL k ds = some (some v) ∧ VR K w x v
  | _, _, .nil, _, e => by cases e
  | _, _, .cons (k := k') h r, x, e => by
    unfold getF at e
    rw [getL_cons]
    by_cases q : (k' == k) = true
    · rw [if_pos q] at e; cases e
      rw [if_pos q]; exact ⟨_, rfl, h⟩
    · rw [if_neg q] at e
      rw [if_neg q]
      exact r.get x e
theorem ER.miss {k : Str} : ∀ {es : List (Str × V)} {ds : List DictEntry}, ER K P w es ds → getF es k = none → getL k ds = some none
  | _, _, .nil, _ => rfl
  | _, _, .cons (k := k') h r, e => by
    unfold getF at e
    rw [getL_cons]
    by_cases q : (k' == k) = true
    · rw [if_pos q] at e; cases e
    · rw [if_neg q] at e
      rw [if_neg q]
      exact r.miss e
theorem ER.put {k : Str} {t : Tok} {x : V} {v : Value} (hv : VR K w x v) : ∀ {es : List (Str × V)} {ds : List DictEntry}, ER K P w es ds → ER K P w (setF es k x) (putL k (PyData.keyHash P k) (.str k t) v ds)
  | _, _, .nil => .cons hv .nil
  | _, _, .cons (k := k') (t := t') h r => by
    unfold setF putL
    show ER K P w (if (k' == k) = true then _ else _) (if (k' == k) = true then _ else _)
    by_cases q : (k' == k) = true
    · rw [if_pos q, if_pos q]; exact .cons hv r
    · rw [if_neg q, if_neg q]; exact .cons h (r.put hv)
theorem ER.length : ∀ {es : List (Str × V)} {ds : List DictEntry}, ER K P w es ds → ds.length = es.length
  | _, _, .nil => rfl
  | _, _, .cons _ r => by rw [List.length_cons, List.length_cons, r.length]
theorem setF_length (k : Str) (x : V) : ∀ es : List (Str × V), (setF es k x).length ≤ es.length + 1
  | [] => Nat.le_refl _
  | (k', y) :: r => by
    unfold setF
    split
    · simp
    · have := setF_length k x r; simp only [List.length_cons]; omega
end
structure AttrOK (K : Frag) (C : Addr) (name : Str) : Prop where
  get : plainGet K C name = true
  dict : hasDictIn K C = true
  found : ∃ attr, findIn K (.ref C) name = some attr ∧ noGet K attr = true
structure SetOK (K : Frag) (C : Addr) (name : Str) : Prop where
  set : findIn K (.ref C) "__setattr__" = some (some (.builtin "object.__setattr__"))
  over : plainOver K C = true
  taker : takerIn K C name = some none
  dict : hasDictIn K C = true
structure MethOK (K : Frag) (C : Addr) (name : Str) (f : Addr) : Prop where
  get : plainGet K C name = true
  found : findIn K (.ref C) name = some (some (.ref f))
  fn : isFn K (.ref f) = true
  keep : keepIn K (.ref f) = true
def V.noBlt : V → Prop
  | .blt _ => False
  | _ => True
theorem handed_of {K : Frag} {w : WD} {x : V} {v : Value} (h : VR K w x v) (n : x.noBlt) : handedIn v = true := by
  cases h <;> first | rfl | exact n.elim
section
variable {M : Amb} {d : Nat} {sc : Scope} {cl : List (Str × Loc)} {ml : List (Str × V)} {H : MH}
theorem OP_attr {l : Loc} {C : Addr} {fs : List (Str × V)} {name : Str} {x : V} {Q : V → MH → Prop} (hc : H.c l = some (.inst C fs)) (ok : AttrOK M.K C name) (hx : getF fs name = some x) (nb : x.noBlt) (h : Q x H) :
    OP1 VR M d cl ml H (fun o => getAttr o name true) (.cell l) Q := by
  intro A base h₀ outer fenv env L m mm s wd Qm x' c hv k
  cases hv with
  | cell hl =>
    obtain ⟨a, dx, ds, n, e1, e2, e3, e4, e5⟩ := c.rel.cells l _ hc
    obtain rfl := Option.some.inj (hl.symm.trans e1)
    obtain ⟨v, g1, g2⟩ := e5.get x hx
    obtain ⟨at', f1, f2⟩ := ok.found
    exact get_own c.F c.X (InstAt.of_news c.N e3 e4) ok.get ok.dict f1 f2 g1 (handed_of g2 nb) (k _ _ H wd s.heap (s.toks + 1) h (Ext.refl _) g2 (c.tok _))
theorem OP_setattr (hpu : M.pu = false) {l : Loc} {C : Addr} {fs : List (Str × V)} {name : Str} {x : V} {Q : Unit → MH → Prop} (hc : H.c l = some (.inst C fs)) (ok : SetOK M.K C name) (hz : fs.length ≤ 900) (h : Q () (H.put l (.inst C (setF fs name x)))) :
    OP2 (fun _ _ _ _ => True) M d cl ml H (fun o v => setAttr o name v) (.cell l) x Q := by
  intro A base h₀ outer fenv env L m mm s wd Qm x' y' c hv hy k
  cases hv with
  | cell hl =>
    obtain ⟨a, dx, ds, n, e1, e2, e3, e4, e5⟩ := c.rel.cells l _ hc
    obtain rfl := Option.some.inj (hl.symm.trans e1)
    have hg : (getL name ds).isSome = true := by
      cases hq : getF fs name with
      | none => rw [e5.miss hq]; rfl
      | some z => obtain ⟨v, g1, _⟩ := e5.get z hq; rw [g1]; rfl
    obtain ⟨news', U, E, R⟩ := Rel.set hpu c.rel (o' := dictOf (putL name (PyData.keyHash M.w.params name) (.str name (s.toks + 1)) y' ds) (putN name ds n)) (c := .inst C (setF fs name x)) e2 e4 fun news' hm' hp E =>
      ⟨_, dx, _, _, E.sub _ _ _ e1, E.sub _ _ _ e2, hp _ e3 (fun e => by
        have z : (l = l) ∧ (false = true) := c.rel.inj l false l true dx (by rw [e1]; exact congrArg some e) e2
        exact absurd z.2 (by decide)), hm', (e5.ext _ E.vex).put (hy.ext _ E)⟩
    refine set_dict c.F c.X c.N (InstAt.of_news c.N e3 e4) rfl ok.set ok.over ok.taker ok.dict hg rfl U ?_ fun h' F' N' => k () () _ ⟨wd.ρ, news'⟩ h' (s.toks + 2) h E trivial (c.go F' N' E R)
    have q1 := (e5.put (k := name) (t := s.toks + 1) hy).length
    have q2 := setF_length name x fs
    omega
end
/- the arguments of a call -/
section
variable {M : Model} {A : Around} {E : Value → Shared → Prop} {s : Shared} {env : Env}
theorem args_any (es : List Expr) (env : Env) : (argTrees es env).any (·.1) = false := by
  unfold argTrees
  induction es with
  | nil => rfl
  | cons e r ih => rw [List.map_cons, List.any_cons, ih]; rfl
theorem evalArgs_trees {f : Value} {es : List Expr} {Q : Args → Shared → Prop} (h : wpAny M A (spliced (argTrees es env)) (fun vs s' => Q ⟨vs, []⟩ s') E s) : wpAny M A (evalArgs f true (argTrees es env) []) Q E s := by
  cases es with
  | nil =>
    unfold evalArgs
    show wpAny M A (spliced [] >>= _) Q E s
    refine wpAny_bind (wpAny_mono h (fun vs s' h' => ?_) fun _ _ x => x)
    refine wpAny_holding ?_
    exact wpAny_bind (wpAny_pure (wpAny_bind (wpAny_pure (wpAny_pure h'))))
  | cons e r => exact evalArgs_plain h
end
section
variable {M : Amb} {d : Nat} {sc : Scope} {cl : List (Str × Loc)} {ml : List (Str × V)} {H : MH}
/-- a call of an object of the top -/
def CALL (M : Amb) (d : Nat) (cl : List (Str × Loc)) (ml : List (Str × V)) (H : MH) (a : Addr) (xs : List V) (Q : V → MH → Prop) : Prop :=
  ∀ ⦃A : Around⦄ ⦃base h₀ : Heap⦄ ⦃outer : List Env⦄ ⦃fenv env : Env⦄ ⦃L : Addr⦄ ⦃m mm : Str → Option Value⦄ ⦃s : Shared⦄ ⦃wd : WD⦄ ⦃R : Result → Shared → Prop⦄ ⦃xs' : List Value⦄,
    CX M d A base h₀ outer fenv env L m mm cl ml s wd H → VRs M.K wd xs xs' →
    (∀ v v' H' wd' h' tk', Q v H' → Ext M.pu wd wd' → VR M.K wd' v v' → CX M d A base h₀ outer fenv env L m mm cl ml { s with heap := h', toks := tk' } wd' H' → R (.ok (.ret v')) { s with heap := h', toks := tk' }) →
    codeAny (model M.prog M.w) A (.call (.ref a) ⟨xs', []⟩) R s
/-- a call of a built-in -/
abbrev CALB (M : Amb) (d : Nat) (cl : List (Str × Loc)) (ml : List (Str × V)) (H : MH) (f : Value) (vs : List V) (Q : V → MH → Prop) : Prop := OPs VR M d cl ml H (fun vals => call f vals) vs Q
theorem TE_call {func : Expr} {args : List Expr} {pos : Pos} {Q : V → MH → Prop}
    (he : ∀ env, eval (.Call func args [] pos) env = (do callWith pos (← eval func env) [] (backTo pos (starEach args env)) (backToKw pos (keywordEach [] env))))
    (ha : ∀ env, starEach args env = argTrees args env)
    (h : TE M d sc cl ml H func fun v H1 => ∃ a, v = .glob a ∧ keepIn M.K (.ref a) = true ∧ TEs M d sc cl ml H1 args fun vs H2 => CALL M d cl ml H2 a vs Q) : TE M d sc cl ml H (.Call func args [] pos) Q := by
  intro A base h₀ outer fenv env L m mm s wd Qm hs c k
  refine Call_ (h hs c fun f f' H1 w1 h1 t1 q1 x1 r1 c1 => ?_) (he _)
  obtain ⟨a, rfl, hk, q1⟩ := q1
  cases r1
  rw [ha, back_args]
  refine callWith_of (P := M.K.In) (by rw [args_any]; rfl) (fun h X => keeps_K hk h X) (evalArgs_trees (q1 hs c1 fun b b' H2 w2 h2 t2 q2 x2 r2 c2 => ⟨c2.X.keeps c2.F.keep, ?_⟩))
  exact wpAny_call (q2 c2 r2 fun v v' H3 w3 h3 t3 q3 x3 r3 c3 => k v v' H3 w3 h3 t3 q3 ((x1.trans x2).trans x3) r3 c3)
theorem TE_meth {o : Expr} {name : Str} {apos pos : Pos} {args : List Expr} {pl : Env → Sem Bool} {Q : V → MH → Prop}
    (he : ∀ env, eval (.Call (.Attribute o name apos) args [] pos) env = (do
      let ov ← eval o env
      standAt apos.atName
      let (f, first) ← holding [ov] (getMethod ov name (pl env))
      callWith pos f first (backTo pos (starEach args env)) []))
    (ha : ∀ env, starEach args env = argTrees args env)
    (h : TE M d sc cl ml H o fun v H1 => ∃ l C fs f, v = .cell l ∧ H1.c l = some (.inst C fs) ∧ getF fs name = none ∧ MethOK M.K C name f ∧ TEs M d sc cl ml H1 args fun vs H2 => CALL M d cl ml H2 f (v :: vs) Q) : TE M d sc cl ml H (.Call (.Attribute o name apos) args [] pos) Q := by
  intro A base h₀ outer fenv env L m mm s wd Qm hs c k
  refine MethodCall_ (h hs c fun f f' H1 w1 h1 t1 q1 x1 r1 c1 => ?_) (he _)
  obtain ⟨l, C, fs, g, rfl, hc, hx, ok, q1⟩ := q1
  cases r1 with
  | cell hl =>
    obtain ⟨a, dx, ds, n, e1, e2, e3, e4, e5⟩ := c1.rel.cells l _ hc
    obtain rfl := Option.some.inj (hl.symm.trans e1)
    refine method_inst c1.F c1.X (InstAt.of_news c1.N e3 e4) ok.get ok.found ok.fn (e5.miss hx) ?_
    dsimp only
    rw [ha, back_args]
    refine callWith_of (P := M.K.In) (by rw [args_any]; rfl) (fun h X => keeps_K ok.keep h X) (evalArgs_trees (q1 hs c1 fun b b' H2 w2 h2 t2 q2 x2 r2 c2 => ⟨c2.X.keeps c2.F.keep, ?_⟩))
    exact wpAny_call (q2 c2 (.cons (.cell (x2.sub _ _ _ hl)) r2) fun v v' H3 w3 h3 t3 q3 x3 r3 c3 => k v v' H3 w3 h3 t3 q3 ((x1.trans x2).trans x3) r3 c3)
/-- the built-in type of a value -/
def V.isTy (H : MH) : V → String → Prop
  | .str _, T => T = "str"
  | .cell l, T => (∃ xs, H.c l = some (.list xs) ∧ T = "list") ∨ (∃ es, H.c l = some (.dict es) ∧ T = "dict")
  | _, _ => False
theorem isTy_of {A : Around} {base h₀ : Heap} {outer : List Env} {fenv env : Env} {L : Addr} {m mm : Str → Option Value} {s : Shared} {wd : WD} {x : V} {x' : Value} {T : String}
    (c : CX M d A base h₀ outer fenv env L m mm cl ml s wd H) (r : VR M.K wd x x') (h : x.isTy H T) : s.TypeIs x' T ∧ ∀ a, x' = .ref a → ∃ o, s.heap.get? a = some o ∧ o.dict = none := by
  cases r <;> try exact h.elim
  · cases h; exact ⟨rfl, fun _ e => by cases e⟩
  · rename_i hl
    rcases h with ⟨xs, hc, rfl⟩ | ⟨es, hc, rfl⟩
    · obtain ⟨a, vs, n, e1, e2, e3⟩ := c.rel.cells _ _ hc
      obtain rfl := Option.some.inj (hl.symm.trans e1)
      exact ⟨⟨_, (c.N _ e2).1, rfl⟩, fun b e => by cases e; exact ⟨_, (c.N _ e2).1, rfl⟩⟩
    · obtain ⟨a, o, kvs, e1, e2, e3, e4, e5⟩ := c.rel.cells _ _ hc
      obtain rfl := Option.some.inj (hl.symm.trans e1)
      have D := Heap.dictOf_iff.mpr ⟨o, (c.N _ e2).1, e4⟩
      exact ⟨D.typeIs, D.mapOf.noDict⟩
theorem TE_bmeth {o : Expr} {name : Str} {apos pos : Pos} {args : List Expr} {pl : Env → Sem Bool} {Q : V → MH → Prop} {T id : String}
    (he : ∀ env, eval (.Call (.Attribute o name apos) args [] pos) env = (do
      let ov ← eval o env
      standAt apos.atName
      let (f, first) ← holding [ov] (getMethod ov name (pl env))
      callWith pos f first (backTo pos (starEach args env)) []))
    (ha : ∀ env, starEach args env = argTrees args env) (slot : Slot T name id) (pa : PlainAttrs T) (hty : typeOf (.builtin id) = pure (.type "method_descriptor"))
    (h : TE M d sc cl ml H o fun v H1 => v.isTy H1 T ∧ TEs M d sc cl ml H1 args fun vs H2 => CALB M d cl ml H2 (.builtin id) (v :: vs) Q) : TE M d sc cl ml H (.Call (.Attribute o name apos) args [] pos) Q := by
  intro A base h₀ outer fenv env L m mm s wd Qm hs c k
  refine MethodCall_ (h hs c fun f f' H1 w1 h1 t1 q1 x1 r1 c1 => ?_) (he _)
  obtain ⟨ty, q1⟩ := q1
  obtain ⟨i1, i2⟩ := isTy_of c1 r1 ty
  refine getMethod_builtin i1 pa slot hty i2 ?_
  dsimp only
  rw [ha, back_args]
  refine Calls.callWith_builtin (args_any _ _) (evalArgs_trees (q1 hs c1 fun b b' H2 w2 h2 t2 q2 x2 r2 c2 => ?_))
  exact q2 c2 (.cons (r1.ext _ x2) r2) fun v v' H3 w3 h3 t3 q3 x3 r3 c3 => k v v' H3 w3 h3 t3 q3 ((x1.trans x2).trans x3) r3 c3
theorem TE_bcall {func : Expr} {args : List Expr} {pos : Pos} {Q : V → MH → Prop}
    (he : ∀ env, eval (.Call func args [] pos) env = (do callWith pos (← eval func env) [] (backTo pos (starEach args env)) (backToKw pos (keywordEach [] env))))
    (ha : ∀ env, starEach args env = argTrees args env)
    (h : TE M d sc cl ml H func fun v H1 => ∃ n, v = .blt n ∧ TEs M d sc cl ml H1 args fun vs H2 => CALB M d cl ml H2 (.builtin n) vs Q) : TE M d sc cl ml H (.Call func args [] pos) Q := by
  intro A base h₀ outer fenv env L m mm s wd Qm hs c k
  refine Call_ (h hs c fun f f' H1 w1 h1 t1 q1 x1 r1 c1 => ?_) (he _)
  obtain ⟨a, rfl, q1⟩ := q1
  cases r1
  rw [ha, back_args]
  refine Calls.callWith_builtin (args_any _ _) (evalArgs_trees (q1 hs c1 fun b b' H2 w2 h2 t2 q2 x2 r2 c2 => ?_))
  exact q2 c2 r2 fun v v' H3 w3 h3 t3 q3 x3 r3 c3 => k v v' H3 w3 h3 t3 q3 ((x1.trans x2).trans x3) r3 c3
theorem TE_tcall {func e : Expr} {args : List Expr} {pos : Pos} {Q : V → MH → Prop}
    (he : ∀ env, eval (.Call func (e :: args) [] pos) env = (do callWith pos (← eval func env) [] (backTo pos (starEach (e :: args) env)) (backToKw pos (keywordEach [] env))))
    (ha : ∀ env, starEach (e :: args) env = (false, eval e env) :: starEach args env) (hb : ∀ env, starEach args env = argTrees args env)
    (h : TE M d sc cl ml H func fun v H1 => ∃ n, v = .ty n ∧ TEs M d sc cl ml H1 (e :: args) fun vs H2 => CALB M d cl ml H2 (.type n) vs Q) : TE M d sc cl ml H (.Call func (e :: args) [] pos) Q := by
  intro A base h₀ outer fenv env L m mm s wd Qm hs c k
  refine Call_ (h hs c fun f f' H1 w1 h1 t1 q1 x1 r1 c1 => ?_) (he _)
  obtain ⟨a, rfl, q1⟩ := q1
  cases r1
  refine PyProof.Rows.callWith_type1 ?_ (ha _) (by rw [hb, back_args]; exact args_any _ _)
  rw [ha, hb]
  show wpAny _ _ (spliced (backTo pos (argTrees (e :: args) env))) _ _ _
  rw [back_args]
  refine q1 hs c1 fun b b' H2 w2 h2 t2 q2 x2 r2 c2 => ?_
  exact q2 c2 r2 fun v v' H3 w3 h3 t3 q3 x3 r3 c3 => k v v' H3 w3 h3 t3 q3 ((x1.trans x2).trans x3) r3 c3
end
section
variable {M : Amb} {d : Nat} {sc : Scope} {cl : List (Str × Loc)} {ml : List (Str × V)} {H : MH}
/- ints -/
theorem OP_add {i j : Int} {Q : V → MH → Prop} (h : Q (.int (i + j)) H) : OP2 VR M d cl ml H (binaryOp .Add) (.int i) (.int j) Q := by
  intro A base h₀ outer fenv env L m mm s wd Qm x' y' c hx hy k
  cases hx; cases hy
  exact add_int (k _ _ H wd s.heap _ h (Ext.refl _) (.int _ _) (c.tok _))
theorem OP_sub {i j : Int} {Q : V → MH → Prop} (h : Q (.int (i - j)) H) : OP2 VR M d cl ml H (binaryOp .Sub) (.int i) (.int j) Q := by
  intro A base h₀ outer fenv env L m mm s wd Qm x' y' c hx hy k
  cases hx; cases hy
  exact sub_int (k _ _ H wd s.heap _ h (Ext.refl _) (.int _ _) (c.tok _))
theorem OP_mul {i j : Int} {Q : V → MH → Prop} (hz : Builtin.Int.intBits i ≤ 64) (h : Q (.int (i * j)) H) : OP2 VR M d cl ml H (binaryOp .Mult) (.int i) (.int j) Q := by
  intro A base h₀ outer fenv env L m mm s wd Qm x' y' c hx hy k
  cases hx; cases hy
  exact mul_int (k _ _ H wd s.heap _ h (Ext.refl _) (.int _ _) (c.tok _)) (.of_left hz)
theorem OP_mod {i j : Int} {Q : V → MH → Prop} (hj : j ≠ 0) (h : Q (.int (i.fmod j)) H) : OP2 VR M d cl ml H (binaryOp .Mod) (.int i) (.int j) Q := by
  intro A base h₀ outer fenv env L m mm s wd Qm x' y' c hx hy k
  cases hx; cases hy
  exact mod_int hj (k _ _ H wd s.heap _ h (Ext.refl _) (.int _ _) (c.tok _))
theorem OP_fdiv {i j : Int} {Q : V → MH → Prop} (hj : j ≠ 0) (hp : Builtin.divisionGoesByPylong i j = false) (h : Q (.int (i.fdiv j)) H) : OP2 VR M d cl ml H (binaryOp .FloorDiv) (.int i) (.int j) Q := by
  intro A base h₀ outer fenv env L m mm s wd Qm x' y' c hx hy k
  cases hx; cases hy
  exact floordiv_int hj (k _ _ H wd s.heap _ h (Ext.refl _) (.int _ _) (c.tok _)) (.inl hp)
theorem OP_neg {i : Int} {Q : V → MH → Prop} (h : Q (.int (-i)) H) : OP1 VR M d cl ml H (unaryOp .USub) (.int i) Q := by
  intro A base h₀ outer fenv env L m mm s wd Qm x' c hx k
  cases hx
  exact neg_int (k _ _ H wd s.heap _ h (Ext.refl _) (.int _ _) (c.tok _))
theorem OP_eq_int {i j : Int} {Q : V → MH → Prop} (h : Q (.bool (i == j)) H) : OP2 VR M d cl ml H (compareOp .Eq) (.int i) (.int j) Q := by
  intro A base h₀ outer fenv env L m mm s wd Qm x' y' c hx hy k
  cases hx; cases hy
  exact eq_int (k _ _ H wd s.heap _ h (Ext.refl _) (.bool _) (c.tok _))
theorem OP_ne_int {i j : Int} {Q : V → MH → Prop} (h : Q (.bool (i != j)) H) : OP2 VR M d cl ml H (compareOp .NotEq) (.int i) (.int j) Q := by
  intro A base h₀ outer fenv env L m mm s wd Qm x' y' c hx hy k
  cases hx; cases hy
  exact ne_int (k _ _ H wd s.heap _ h (Ext.refl _) (.bool _) (c.tok _))
theorem OP_lt_int {i j : Int} {Q : V → MH → Prop} (h : Q (.bool (decide (i < j))) H) : OP2 VR M d cl ml H (compareOp .Lt) (.int i) (.int j) Q := by
  intro A base h₀ outer fenv env L m mm s wd Qm x' y' c hx hy k
  cases hx; cases hy
  exact lt_int (k _ _ H wd s.heap _ h (Ext.refl _) (.bool _) (c.tok _))
theorem OP_le_int {i j : Int} {Q : V → MH → Prop} (h : Q (.bool (decide (i ≤ j))) H) : OP2 VR M d cl ml H (compareOp .LtE) (.int i) (.int j) Q := by
  intro A base h₀ outer fenv env L m mm s wd Qm x' y' c hx hy k
  cases hx; cases hy
  exact le_int (k _ _ H wd s.heap _ h (Ext.refl _) (.bool _) (c.tok _))
theorem OP_gt_int {i j : Int} {Q : V → MH → Prop} (h : Q (.bool (decide (i > j))) H) : OP2 VR M d cl ml H (compareOp .Gt) (.int i) (.int j) Q := by
  intro A base h₀ outer fenv env L m mm s wd Qm x' y' c hx hy k
  cases hx; cases hy
  exact gt_int (k _ _ H wd s.heap _ h (Ext.refl _) (.bool _) (c.tok _))
/- strs -/
theorem OP_eq_str {x y : Str} {Q : V → MH → Prop} (h : Q (.bool (x == y)) H) : OP2 VR M d cl ml H (compareOp .Eq) (.str x) (.str y) Q := by
  intro A base h₀ outer fenv env L m mm s wd Qm x' y' c hx hy k
  cases hx; cases hy
  exact eq_str (k _ _ H wd s.heap _ h (Ext.refl _) (.bool _) (c.tok _))
theorem OP_ne_str {x y : Str} {Q : V → MH → Prop} (h : Q (.bool (x != y)) H) : OP2 VR M d cl ml H (compareOp .NotEq) (.str x) (.str y) Q := by
  intro A base h₀ outer fenv env L m mm s wd Qm x' y' c hx hy k
  cases hx; cases hy
  exact ne_str (k _ _ H wd s.heap _ h (Ext.refl _) (.bool _) (c.tok _))
theorem OP_add_str {x y : Str} {Q : V → MH → Prop} (hz : x.length + y.length ≤ 10000) (h : Q (.str (x ++ y)) H) : OP2 VR M d cl ml H (binaryOp .Add) (.str x) (.str y) Q := by
  intro A base h₀ outer fenv env L m mm s wd Qm x' y' c hx hy k
  cases hx; cases hy
  exact add_str (fun t' tk => k _ _ H wd s.heap _ h (Ext.refl _) (.str _ _) (c.tok _)) (Nat.le_trans hz (by decide))
/- truth -/
theorem OP_truth_bool {b : Bool} {Q : Bool → MH → Prop} (h : Q b H) : OP1 eqR M d cl ml H truthy (.bool b) Q := by
  intro A base h₀ outer fenv env L m mm s wd Qm x' c hx k
  cases hx
  exact wpAny_truthy_bool (k _ _ H wd s.heap s.toks h (Ext.refl _) rfl (c.tok _))
theorem isList_of {A : Around} {base h₀ : Heap} {outer : List Env} {fenv env : Env} {L : Addr} {m mm : Str → Option Value} {s : Shared} {wd : WD} {l : Loc} {x' : Value} {xs : List V}
    (c : CX M d A base h₀ outer fenv env L m mm cl ml s wd H) (hc : H.c l = some (.list xs)) (hx : VR M.K wd (.cell l) x') : ∃ a vs n, x' = .ref a ∧ wd.ρ l false = some a ∧ (a, listOf vs.toArray n) ∈ wd.news ∧ VRs M.K wd xs vs ∧ s.heap.IsList a vs.toArray ∧ vs.length = xs.length := by
  cases hx with
  | cell hl =>
    obtain ⟨a, vs, n, e1, e2, e3⟩ := c.rel.cells _ _ hc
    obtain rfl := Option.some.inj (hl.symm.trans e1)
    exact ⟨_, vs, n, rfl, e1, e2, e3, ⟨_, (c.N _ e2).1, rfl, n, rfl⟩, e3.length⟩
theorem isTup_of {A : Around} {base h₀ : Heap} {outer : List Env} {fenv env : Env} {L : Addr} {m mm : Str → Option Value} {s : Shared} {wd : WD} {x' : Value} {xs : List V}
    (c : CX M d A base h₀ outer fenv env L m mm cl ml s wd H) (hx : VR M.K wd (.tup xs) x') : ∃ a vs, x' = .ref a ∧ VRs M.K wd xs vs ∧ IsTup s.heap a vs.toArray ∧ vs.length = xs.length := by
  cases hx with
  | tup h1 h2 h3 => exact ⟨_, _, rfl, h3, ⟨_, (c.N _ h1).1, rfl, 0, rfl⟩, h3.length⟩
  | ktup h1 => exact ⟨_, [], rfl, .nil, ⟨_, (c.X.keeps c.F.keep) _ _ h1, rfl, _, rfl⟩, rfl⟩
theorem OP_truth_list {l : Loc} {xs : List V} {Q : Bool → MH → Prop} (hc : H.c l = some (.list xs)) (hz : xs.length ≤ 1000) (h : Q (!xs.isEmpty) H) : OP1 eqR M d cl ml H truthy (.cell l) Q := by
  intro A base h₀ outer fenv env L m mm s wd Qm x' c hx k
  obtain ⟨a, vs, n, rfl, e1, e2, e3, e4, e5⟩ := isList_of c hc hx
  have hb : (!vs.toArray.isEmpty) = !xs.isEmpty := by
    cases e3 <;> rfl
  refine wpAny_truthy_list e4 (by rw [List.size_toArray, e5]; omega) ?_
  rw [hb]
  exact k _ _ H wd s.heap _ h (Ext.refl _) rfl (c.tok _)
/- items -/
theorem OP_item_tup {value slice : Expr} {xs : List V} {i : Int} {j : Nat} {x : V} {Q : V → MH → Prop} (hlo : -2 ^ 63 ≤ i) (hhi : i < 2 ^ 63) (hj : seqIndex? i xs.length = some j) (hx : xs[j]? = some x)
    (hs : ∀ a u, subscripted slice false (.ref a) (.int i u) = operate [.ref a, .int i u] (getItem (.ref a) (.int i u))) (h : Q x H) : OP2 VR M d cl ml H (subscriptTail value slice) (.tup xs) (.int i) Q := by
  intro A base h₀ outer fenv env L m mm s wd Qm x' y' c r1 r2 k
  obtain ⟨a, vs, rfl, e1, e2, e3⟩ := isTup_of c r1
  cases r2
  obtain ⟨v, g1, g2⟩ := e1.get _ hx
  exact item_tupleT e2 hlo hhi (by rw [e3]; exact hj) g1 (k _ _ H wd s.heap s.toks h (Ext.refl _) g2 (c.tok _)) (hs _ _)
theorem OP_item_list {value slice : Expr} {l : Loc} {xs : List V} {i : Int} {x : V} {Q : V → MH → Prop} (hc : H.c l = some (.list xs)) (hlo : 0 ≤ i) (hhi : i < 2 ^ 63) (hx : xs[i.toNat]? = some x)
    (hs : ∀ a u, subscripted slice false (.ref a) (.int i u) = operate [.ref a, .int i u] (getItem (.ref a) (.int i u))) (h : Q x H) : OP2 VR M d cl ml H (subscriptTail value slice) (.cell l) (.int i) Q := by
  intro A base h₀ outer fenv env L m mm s wd Qm x' y' c r1 r2 k
  obtain ⟨a, vs, n, rfl, e1, e2, e3, e4, e5⟩ := isList_of c hc r1
  cases r2
  obtain ⟨v, g1, g2⟩ := e3.get _ hx
  exact tail_any e4.typeIs slot_list_getitem.lookup (wpAny_getItem_list e4 hlo hhi (by simpa using g1) (k _ _ H wd s.heap s.toks h (Ext.refl _) g2 (c.tok _))) (hs _ _)
theorem OP_item_last {value slice : Expr} {l : Loc} {xs : List V} {x : V} {Q : V → MH → Prop} (hc : H.c l = some (.list xs)) (hz : xs.length ≤ 1000) (hx : xs.getLast? = some x)
    (hs : ∀ a u, subscripted slice false (.ref a) (.int (-1) u) = operate [.ref a, .int (-1) u] (getItem (.ref a) (.int (-1) u))) (h : Q x H) : OP2 VR M d cl ml H (subscriptTail value slice) (.cell l) (.int (-1)) Q := by
  intro A base h₀ outer fenv env L m mm s wd Qm x' y' c r1 r2 k
  obtain ⟨a, vs, n, rfl, e1, e2, e3, e4, e5⟩ := isList_of c hc r1
  cases r2
  rw [List.getLast?_eq_getElem?] at hx
  obtain ⟨v, g1, g2⟩ := e3.get _ hx
  have h1 : 1 ≤ xs.length := by
    cases xs with
    | nil => simp at hx
    | cons => simp
  refine tail_any e4.typeIs slot_list_getitem.lookup (wpAny_getItem_list_neg e4 (by decide) ?_ (by decide) ?_ (k _ _ H wd s.heap s.toks h (Ext.refl _) g2 (c.tok _))) (hs _ _)
  · rw [List.size_toArray, e5]; omega
  · rw [List.size_toArray, e5]
    have : ((-1 : Int) + (xs.length : Int)).toNat = xs.length - 1 := by omega
    rw [this]
    simpa using g1
theorem OP_item_str {value slice : Expr} {x : Str} {i : Int} {ch : Nat} {Q : V → MH → Prop} (hr : (decide (i < -(2 ^ 63 : Int)) || decide (i ≥ 2 ^ 63)) = false) (hc : (seqIndex? i x.length).bind (x.cps[·]?) = some ch)
    (hs : ∀ t u, subscripted slice false (.str x t) (.int i u) = operate [.str x t, .int i u] (getItem (.str x t) (.int i u))) (h : Q (.str ⟨#[ch]⟩) H) : OP2 VR M d cl ml H (subscriptTail value slice) (.str x) (.int i) Q := by
  intro A base h₀ outer fenv env L m mm s wd Qm x' y' c r1 r2 k
  cases r1; cases r2
  exact tail_any (T := "str") rfl PySem.F.slot_str_getitem.lookup (PyProof.Rows.getItem_str hr hc (k _ _ H wd s.heap _ h (Ext.refl _) (.str _ _) (c.tok _))) (hs _ _)
theorem isDict_of {A : Around} {base h₀ : Heap} {outer : List Env} {fenv env : Env} {L : Addr} {m mm : Str → Option Value} {s : Shared} {wd : WD} {l : Loc} {x' : Value} {es : List (Str × V)}
    (c : CX M d A base h₀ outer fenv env L m mm cl ml s wd H) (hc : H.c l = some (.dict es)) (hx : VR M.K wd (.cell l) x') : ∃ a o kvs, x' = .ref a ∧ wd.ρ l false = some a ∧ (a, o) ∈ wd.news ∧ (a == sysModules) = false ∧ o.IsDictOf (PySem.strKind M.prog M.w) kvs ∧ DR M.K wd es kvs ∧ s.heap.DictOf (PySem.strKind M.prog M.w) a kvs := by
  cases hx with
  | cell hl =>
    obtain ⟨a, o, kvs, e1, e2, e3, e4, e5⟩ := c.rel.cells _ _ hc
    obtain rfl := Option.some.inj (hl.symm.trans e1)
    exact ⟨_, o, kvs, rfl, e1, e2, e3, e4, e5, Heap.dictOf_iff.mpr ⟨o, (c.N _ e2).1, e4⟩⟩
theorem OP_item_dict {value slice : Expr} {l : Loc} {es : List (Str × V)} {key : Str} {x : V} {Q : V → MH → Prop} (hc : H.c l = some (.dict es)) (hx : getE es key = some x)
    (hs : ∀ a t, subscripted slice false (.ref a) (.str key t) = operate [.ref a, .str key t] (getItem (.ref a) (.str key t))) (h : Q x H) : OP2 VR M d cl ml H (subscriptTail value slice) (.cell l) (.str key) Q := by
  intro A base h₀ outer fenv env L m mm s wd Qm x' y' c r1 r2 k
  obtain ⟨a, o, kvs, rfl, e1, e2, e3, e4, e5, e6⟩ := isDict_of c hc r1
  cases r2
  have g := e5.get (k := key)
  rw [hx] at g
  obtain ⟨v, g1, g2⟩ := g
  exact tail_any e6.typeIs slot_dict_getitem.lookup (wpAny_getItem_of (strKind_is M.prog M.w key _) e6.mapOf g1 (k _ _ H wd s.heap _ h (Ext.refl _) g2 (c.tok _))) (hs _ _)
/- membership -/
theorem strs_of {w : WD} : ∀ {ys : List Str} {vs : List Value}, VRs M.K w (ys.map .str) vs → StrsAre vs ys
  | [], _, .nil => .nil
  | _ :: _, _, .cons (.str y t) r => .cons y t (strs_of r)
theorem ints_of {w : WD} : ∀ {ys : List Int} {vs : List Value}, VRs M.K w (ys.map .int) vs → IntsAre vs ys
  | [], _, .nil => .nil
  | _ :: _, _, .cons (.int y t) r => .cons y t (ints_of r)
theorem OP_in_strs {ys : List Str} {x : Str} {Q : V → MH → Prop} (h : Q (.bool (ys.any (· == x))) H) : OP2 VR M d cl ml H (compareOp .In) (.str x) (.tup (ys.map .str)) Q := by
  intro A base h₀ outer fenv env L m mm s wd Qm x' y' c r1 r2 k
  obtain ⟨a, vs, rfl, e1, e2, e3⟩ := isTup_of c r2
  cases r1
  exact in_tuple_strs e2 (strs_of (by simpa using e1)) (k _ _ H wd s.heap s.toks h (Ext.refl _) (.bool _) (c.tok _))
theorem OP_in_ints {l : Loc} {ys : List Int} {i : Int} {Q : V → MH → Prop} (hc : H.c l = some (.list (ys.map .int))) (h : Q (.bool (ys.any (· == i))) H) : OP2 VR M d cl ml H (compareOp .In) (.int i) (.cell l) Q := by
  intro A base h₀ outer fenv env L m mm s wd Qm x' y' c r1 r2 k
  obtain ⟨a, vs, n, rfl, e1, e2, e3, e4, e5⟩ := isList_of c hc r2
  cases r1
  exact in_list_ints e4 (ints_of e3) (k _ _ H wd s.heap s.toks h (Ext.refl _) (.bool _) (c.tok _))
theorem OP_notin_dict {l : Loc} {es : List (Str × V)} {key : Str} {Q : V → MH → Prop} (hc : H.c l = some (.dict es)) (h : Q (.bool (!(getE es key).isSome)) H) : OP2 VR M d cl ml H (compareOp .NotIn) (.str key) (.cell l) Q := by
  intro A base h₀ outer fenv env L m mm s wd Qm x' y' c r1 r2 k
  obtain ⟨a, o, kvs, rfl, e1, e2, e3, e4, e5, e6⟩ := isDict_of c hc r2
  cases r1
  have g := e5.get (k := key)
  have e : (valueAt kvs key).isSome = (getE es key).isSome := by
    cases q : getE es key with
    | none => rw [q] at g; rw [g]; rfl
    | some x => rw [q] at g; obtain ⟨v, g1, _⟩ := g; rw [g1]; rfl
  refine wpAny_notIn_of (strKind_is M.prog M.w key _) e3 e6.mapOf ?_
  rw [e]
  exact k _ _ H wd s.heap _ h (Ext.refl _) (.bool _) (c.tok _)
theorem dict_nil_any {prog : Program} {w : World} {o : Obj} (h : o.IsDictOf (PySem.strKind prog w) []) : o.IsDictOf (PySem.intKind prog w) [] := by
  obtain ⟨es, ep, h1, h2, h3, h4, h5⟩ := h
  cases hes : es.toList with
  | nil =>
    refine ⟨es, ep, h1, h2, fun e he => ?_, by rw [hes]; exact .nil, List.nodup_nil⟩
    have : e ∈ es.toList := Array.mem_toList_iff.mpr he
    rw [hes] at this
    cases this
  | cons e r => rw [hes] at h4; cases h4
theorem OP_in_empty {l : Loc} {i : Int} {Q : V → MH → Prop} (hc : H.c l = some (.dict [])) (h : Q (.bool false) H) : OP2 VR M d cl ml H (compareOp .In) (.int i) (.cell l) Q := by
  intro A base h₀ outer fenv env L m mm s wd Qm x' y' c r1 r2 k
  obtain ⟨a, o, kvs, rfl, e1, e2, e3, e4, e5, e6⟩ := isDict_of c hc r2
  cases r1
  cases e5
  have D := Heap.dictOf_iff.mpr ⟨o, (c.N _ e2).1, dict_nil_any e4⟩
  exact wpAny_in_of (intKind_is M.prog M.w i _) e3 D.mapOf (k _ _ H wd s.heap _ h (Ext.refl _) (.bool _) (c.tok _))
end
section
variable {M : Amb} {d : Nat} {sc : Scope} {cl : List (Str × Loc)} {ml : List (Str × V)} {H : MH}
theorem B_len_list {l : Loc} {xs : List V} {Q : V → MH → Prop} (hc : H.c l = some (.list xs)) (hz : xs.length ≤ 1000) (h : Q (.int xs.length) H) : CALB M d cl ml H (.builtin "len") [.cell l] Q := by
  intro A base h₀ outer fenv env L m mm s wd Qm xs' c r k
  obtain ⟨r1, r2⟩ : ∃ x', xs' = [x'] ∧ VR M.K wd (.cell l) x' := by cases r with | cons a b => cases b; exact ⟨_, rfl, a⟩
  obtain ⟨rfl, r1⟩ := r2
  obtain ⟨a, vs, n, rfl, e1, e2, e3, e4, e5⟩ := isList_of c hc r1
  refine len_list e4 (by rw [List.size_toArray, e5]; omega) ?_
  rw [List.size_toArray, e5]
  exact k _ _ H wd s.heap _ h (Ext.refl _) (.int _ _) (c.tok _)
theorem one_of {w : WD} {x : V} {vs : List Value} (r : VRs M.K w [x] vs) : ∃ x', vs = [x'] ∧ VR M.K w x x' := by cases r with | cons a b => cases b; exact ⟨_, rfl, a⟩
theorem two_of {w : WD} {x y : V} {vs : List Value} (r : VRs M.K w [x, y] vs) : ∃ x' y', vs = [x', y'] ∧ VR M.K w x x' ∧ VR M.K w y y' := by
  cases r with | cons a b => obtain ⟨y', rfl, q⟩ := one_of b; exact ⟨_, _, rfl, a, q⟩
theorem three_of {w : WD} {x y z : V} {vs : List Value} (r : VRs M.K w [x, y, z] vs) : ∃ x' y' z', vs = [x', y', z'] ∧ VR M.K w x x' ∧ VR M.K w y y' ∧ VR M.K w z z' := by
  cases r with | cons a b => obtain ⟨y', z', rfl, q, q2⟩ := two_of b; exact ⟨_, _, _, rfl, a, q, q2⟩
theorem B_len_tup {xs : List V} {Q : V → MH → Prop} (hz : xs.length ≤ 1000) (h : Q (.int xs.length) H) : CALB M d cl ml H (.builtin "len") [.tup xs] Q := by
  intro A base h₀ outer fenv env L m mm s wd Qm xs' c r k
  obtain ⟨x', rfl, r1⟩ := one_of r
  obtain ⟨a, vs, rfl, e1, e2, e3⟩ := isTup_of c r1
  refine PyProof.Rows.len_tuple e2 (by rw [List.size_toArray, e3]; omega) ?_
  rw [List.size_toArray, e3]
  exact k _ _ H wd s.heap _ h (Ext.refl _) (.int _ _) (c.tok _)
/-- is it a str -/
def V.strB : V → Option Bool
  | .str _ => some true
  | .tup _ => some false
  | .cell _ => some false
  | _ => Option.none
theorem B_isstr {x : V} {b : Bool} {Q : V → MH → Prop} (hb : x.strB = some b) (hl : ∀ l, x = .cell l → ∃ xs, H.c l = some (.list xs)) (h : Q (.bool b) H) : CALB M d cl ml H (.builtin "isinstance") [x, .ty "str"] Q := by
  intro A base h₀ outer fenv env L m mm s wd Qm xs' c r k
  obtain ⟨x', y', rfl, r1, r2⟩ := two_of r
  cases r2
  cases x with
  | str z => cases hb; cases r1; exact IsiPair.str_str (k _ _ H wd s.heap _ h (Ext.refl _) (.bool _) (c.tok _))
  | tup xs =>
    cases hb
    obtain ⟨a, vs, rfl, e1, ⟨o, e2, e3, _⟩, _⟩ := isTup_of c r1
    exact IsiPair.tuple_str e2 e3 (k _ _ H wd s.heap _ h (Ext.refl _) (.bool _) (c.tok _))
  | cell l =>
    cases hb
    obtain ⟨xs, hc⟩ := hl l rfl
    obtain ⟨a, vs, n, rfl, e1, e2, e3, ⟨o, e4, e5, _⟩, _⟩ := isList_of c hc r1
    exact IsiPair.list_str e4 e5 (k _ _ H wd s.heap _ h (Ext.refl _) (.bool _) (c.tok _))
  | _ => cases hb
/-- a new list is named -/
theorem new_list {A : Around} {base h₀ : Heap} {outer : List Env} {fenv env : Env} {L : Addr} {m mm : Str → Option Value} {s : Shared} {wd : WD} {l : Loc} {xs : List V} {vs : List Value} {a : Addr} {n : Nat} {h' : Heap} {tk : Tok}
    (c : CX M d A base h₀ outer fenv env L m mm cl ml s wd H) (hf : H.free l) (r : VRs M.K wd xs vs) (F : Fr h₀ L h' m) (N : News h₀ L h' ((a, listOf vs.toArray n) :: wd.news)) (hn : ∀ p ∈ wd.news, p.1 < a) :
    Ext M.pu wd ((wd.more a (listOf vs.toArray n)).name l false a) ∧ VR M.K ((wd.more a (listOf vs.toArray n)).name l false a) (.cell l) (.ref a) ∧
      CX M d A base h₀ outer fenv env L m mm cl ml { s with heap := h', toks := tk } ((wd.more a (listOf vs.toArray n)).name l false a) (H.add l (.list xs)) := by
  have nk := fresh_of hn
  have E : Ext M.pu wd ((wd.more a (listOf vs.toArray n)).name l false a) := Ext.name (c.rel.free l false hf) nk
  exact ⟨E, .cell (name_at ..), c.go F N E (c.rel.name hf nk ⟨a, vs, n, name_at .., .head _, r.ext _ E⟩)⟩
theorem B_list_copy {l : Loc} {xs : List V} {Q : V → MH → Prop} (hf : H.free l) (hz : xs.length ≤ 1000) (h : Q (.cell l) (H.add l (.list xs))) : CALB M d cl ml H (.type "list") [.tup xs] Q := by
  intro A base h₀ outer fenv env L m mm s wd Qm xs' c r k
  obtain ⟨x', rfl, r1⟩ := one_of r
  obtain ⟨a, vs, rfl, e1, e2, e3⟩ := isTup_of c r1
  refine list_copyKT c.F c.N e2 (fun D n h' F' N' hn => ?_) (by rw [List.size_toArray, e3]; exact Nat.le_trans hz (by decide))
  obtain ⟨E, R, C⟩ := new_list (tk := s.toks) c hf e1 F' N' hn
  exact k _ _ _ _ h' s.toks h E R C
theorem B_str_int {i : Int} {Q : V → MH → Prop} (hz : i.natAbs < 10 ^ 10) (h : Q (.str (Str.ofString (toString i))) H) : CALB M d cl ml H (.type "str") [.int i] Q := by
  intro A base h₀ outer fenv env L m mm s wd Qm xs' c r k
  obtain ⟨x', rfl, r1⟩ := one_of r
  cases r1
  have nd : s.heap.NoDigits := by
    obtain ⟨mc, h1, h2⟩ := c.T.nodigits
    exact ⟨mc, h1.keeps c.F.keep, h2⟩
  have hlt : i.natAbs < 10 ^ 4300 := Nat.lt_of_lt_of_le hz (Nat.pow_le_pow_right (by decide) (by decide))
  refine str_of_int_or c.hh nd (fun _ => k _ _ H wd s.heap _ h (Ext.refl _) (.str _ _) (c.tok _)) fun hge => ?_
  exact absurd hlt (Nat.not_lt.mpr hge)
/- a list changes -/
theorem set_list (hpu : M.pu = false) {A : Around} {base h₀ : Heap} {outer : List Env} {fenv env : Env} {L : Addr} {m mm : Str → Option Value} {s : Shared} {wd : WD} {l : Loc} {xs ys : List V} {vs us : List Value} {a : Addr} {n n' : Nat}
    (c : CX M d A base h₀ outer fenv env L m mm cl ml s wd H) (_hc : H.c l = some (.list xs)) (hl : wd.ρ l false = some a) (hm : (a, listOf vs.toArray n) ∈ wd.news) (r : VRs M.K wd ys us) :
    ∃ news', Upd a (listOf vs.toArray n) (listOf us.toArray n') wd.news news' ∧ Ext M.pu wd ⟨wd.ρ, news'⟩ ∧ Rel M.K M.prog M.w ⟨wd.ρ, news'⟩ (H.put l (.list ys)) :=
  Rel.set hpu c.rel hl hm fun news' h1 _ E => ⟨a, us, n', hl, h1, r.ext _ E⟩
theorem B_append (hpu : M.pu = false) {l : Loc} {xs : List V} {x : V} {Q : V → MH → Prop} (hc : H.c l = some (.list xs)) (hz : xs.length ≤ 1000) (h : Q .none (H.put l (.list (xs ++ [x])))) : CALB M d cl ml H (.builtin "list.append") [.cell l, x] Q := by
  intro A base h₀ outer fenv env L m mm s wd Qm xs' c r k
  obtain ⟨x', y', rfl, r1, r2⟩ := two_of r
  obtain ⟨a, vs, n, rfl, e1, e2, e3, e4, e5⟩ := isList_of c hc r1
  obtain ⟨news', U, E, R⟩ := set_list hpu (n' := n + 1) c hc e1 e2 (e3.append _ (.cons r2 .nil))
  refine append_K c.F c.N (its := vs.toArray) (x := y') (by rw [List.push_toArray]; exact U) (fun h' F' N' => k _ _ _ ⟨wd.ρ, news'⟩ h' s.toks h E .none (c.go F' N' E R)) (by rw [List.size_toArray, e5]; exact Nat.le_trans hz (by decide))
theorem kl_last_append (y : Value) : ∀ p : List Value, kl_last (p ++ [y]) = some (p, y)
  | [] => rfl
  | z :: r => by
    show (match kl_last (r ++ [y]) with | some (p, y') => some (z :: p, y') | none => some ([], z)) = _
    rw [kl_last_append y r]
theorem VRs.unsnoc {w : WD} {x : V} {xs : List V} {vs : List Value} (r : VRs M.K w (xs ++ [x]) vs) : ∃ us v, vs = us ++ [v] ∧ VRs M.K w xs us ∧ VR M.K w x v := by
  induction xs generalizing vs with
  | nil => obtain ⟨v, rfl, q⟩ := one_of r; exact ⟨[], v, rfl, .nil, q⟩
  | cons y ys ih =>
    cases r with
    | cons a b => obtain ⟨us, v, rfl, q1, q2⟩ := ih b; exact ⟨_ :: us, v, rfl, .cons a q1, q2⟩
theorem B_pop (hpu : M.pu = false) {l : Loc} {xs : List V} {x : V} {Q : V → MH → Prop} (hc : H.c l = some (.list (xs ++ [x]))) (hz : xs.length ≤ 1000) (h : Q x (H.put l (.list xs))) : CALB M d cl ml H (.builtin "list.pop") [.cell l] Q := by
  intro A base h₀ outer fenv env L m mm s wd Qm xs' c r k
  obtain ⟨x', rfl, r1⟩ := one_of r
  obtain ⟨a, vs, n, rfl, e1, e2, e3, e4, e5⟩ := isList_of c hc r1
  obtain ⟨us, v, rfl, q1, q2⟩ := e3.unsnoc
  obtain ⟨news', U, E, R⟩ := set_list hpu (n' := n + 1) c hc e1 e2 q1
  refine kl_pop c.F c.N (its := (us ++ [v]).toArray) (p := us) (y := v) (kl_last_append v us) U ?_ fun h' F' N' => k _ _ _ ⟨wd.ρ, news'⟩ h' s.toks h E (q2.ext _ E) (c.go F' N' E R)
  have := q1.length
  show (us ++ [v]).length ≤ sizeLine
  rw [List.length_append, this]
  exact Nat.le_trans (Nat.add_le_add_right hz 1) (by decide)
theorem B_insert_end (hpu : M.pu = false) {l : Loc} {xs : List V} {x : V} {i : Int} {Q : V → MH → Prop} (hc : H.c l = some (.list xs)) (hz : xs.length ≤ 1000) (hi : i = xs.length) (h : Q .none (H.put l (.list (xs ++ [x])))) : CALB M d cl ml H (.builtin "list.insert") [.cell l, .int i, x] Q := by
  intro A base h₀ outer fenv env L m mm s wd Qm xs' c r k
  obtain ⟨x', y', z', rfl, r1, r2, r3⟩ := three_of r
  obtain ⟨a, vs, n, rfl, e1, e2, e3, e4, e5⟩ := isList_of c hc r1
  cases r2
  obtain ⟨news', U, E, R⟩ := set_list hpu (n' := n + 1) c hc e1 e2 (e3.append _ (.cons r3 .nil))
  refine kl_insert c.F c.N (its := vs.toArray) (l := vs ++ [z']) ?_ ?_ U (by show vs.length ≤ sizeLine; rw [e5]; exact Nat.le_trans hz (by decide)) fun h' F' N' => k _ _ _ ⟨wd.ρ, news'⟩ h' s.toks h E .none (c.go F' N' E R)
  · exact fitsIndex_of (by omega) (by omega)
  · show kl_ins vs i z' = _
    unfold kl_ins
    have h1 : ¬ i < 0 := by omega
    rw [if_neg h1]
    have h2 : min i.toNat vs.length = vs.length := by omega
    rw [h2, List.take_length, List.drop_length]
theorem VRs.set {w : WD} {x : V} {x' : Value} (r3 : VR M.K w x x') : ∀ {xs : List V} {vs : List Value} (j : Nat), VRs M.K w xs vs → VRs M.K w (xs.set j x) (vs.set j x')
  | _, _, _, .nil => .nil
  | _, _, 0, .cons _ q => .cons r3 q
  | _, _, j + 1, .cons p q => .cons p (q.set r3 j)
theorem OP_setitem (hpu : M.pu = false) {l : Loc} {xs : List V} {i : Int} {x : V} (hc : H.c l = some (.list xs)) (h0 : 0 ≤ i) (h1 : i < xs.length) (hz : xs.length ≤ 1000) {A : Around} {base h₀ : Heap} {outer : List Env} {fenv env : Env} {L : Addr} {m mm : Str → Option Value} {s : Shared} {wd : WD} {Qm : Unit → Shared → Prop} {o' i' x' : Value}
    (c : CX M d A base h₀ outer fenv env L m mm cl ml s wd H) (r1 : VR M.K wd (.cell l) o') (r2 : VR M.K wd (.int i) i') (r3 : VR M.K wd x x')
    (k : ∀ wd' h' tk', Ext M.pu wd wd' → CX M d A base h₀ outer fenv env L m mm cl ml { s with heap := h', toks := tk' } wd' (H.put l (.list (xs.set i.toNat x))) → Qm () { s with heap := h', toks := tk' }) :
    wpAny (model M.prog M.w) A (setItem o' i' x') Qm (fun _ _ => False) s := by
  obtain ⟨a, vs, n, rfl, e1, e2, e3, e4, e5⟩ := isList_of c hc r1
  cases r2
  have rs : VRs M.K wd (xs.set i.toNat x) (vs.set i.toNat x') := e3.set r3 _
  obtain ⟨news', U, E, R⟩ := set_list hpu (n' := n) c hc e1 e2 rs
  obtain ⟨pre, post, hw, rfl, p1, p2⟩ := U.split
  have z := c.N _ e2
  refine ki_setAt z.1 h0 (by omega) (by rw [List.size_toArray, e5]; omega) (k ⟨wd.ρ, _⟩ _ s.toks E (c.go (c.F.change (Heap.SameBut.update ..) z.2.1 z.2.2) ?_ E R))
  have N := c.N
  rw [hw] at N
  refine ki_turn _ N p1 p2 ?_ ?_
  · show vs.toArray.setIfInBounds i.toNat x' = (vs.set i.toNat x').toArray
    apply Array.toList_inj.mp
    simp
  · simp
end
section
variable {prog : Program} {w : World} {A : Around} {E : Value → Shared → Prop} {s : Shared}
/-- the last item is stored anew -/
theorem store_last {l : Addr} {vs : List Value} {n : Nat} {t : Tok} {v : Value} {Q : Unit → Shared → Prop} (ho : s.heap.get? l = some (listOf vs.toArray n)) (h1 : 1 ≤ vs.length)
    (hQ : Q () { s with heap := s.heap.update l (Obj.mapSeq (·.setIfInBounds (vs.length - 1) v)) }) : wpAny (model prog w) A (setItem (.ref l) (.int (-1) t) v) Q E s := by
  have hl : s.heap.IsList l vs.toArray := ⟨_, ho, rfl, n, rfl⟩
  unfold setItem
  try with_reducible refine wpAny_holding ?_
  first | refine wpAny_bind (wpAny_pure ?_) | skip
  refine wpAny_bind (wpAny_sequenceKey hl.typeIs (by decide) ?_)
  refine wpAny_bind (wpAny_callSpecial?_slot (name := Str.ofString "__setitem__") hl.typeIs PySem.slot_list_setitem
    (wpAny_call_entry PySem.slot_list_setitem hl.typeIs PySem.entry_list_setitem ?_ (PySem.args_list_setitem _ _ _)))
  show wpAny _ _ (Builtin.List.listSubscript? (.int (-1) t) >>= _) _ _ s
  refine wpAny_bind (wpAny_listSubscript_int (fitsIndex_neg (by decide) (by decide)) ?_)
  show wpAny _ _ ((Builtin.List.listItems (.ref l) >>= fun xs => pure ((seqIndex? (Int.negSucc 0) xs.size).bind fun i => xs[i]?.map (i, ·))) >>= _) _ _ s
  refine wpAny_bind (wpAny_bind ?_)
  show wpAny _ _ (seqItems? (.ref l) >>= _) _ _ s
  refine wpAny_bind (wpAny_seqItems ho rfl (wpAny_pure (wpAny_pure ?_)))
  have hidx : seqIndex? (Int.negSucc 0) vs.toArray.size = some (vs.length - 1) := by
    rw [seqIndex_neg (by decide) (by rw [List.size_toArray]; show -(vs.length : Int) ≤ -1; omega)]
    congr 1
    rw [List.size_toArray]
    show ((-1 : Int) + vs.length).toNat = _
    omega
  have hx : vs.toArray[vs.length - 1]? = some (vs[vs.length - 1]'(by omega)) := by simp
  rw [hidx]
  simp only [Option.bind_some, hx, Option.map_some]
  show wpAny _ _ (setSeqItemAt l (vs.length - 1) v >>= _) _ _ s
  refine wpAny_bind (wpAny_setSeqItemAt ho rfl ?_)
  first
    | exact wpAny_bind (wpAny_pure (wpAny_pure ⟨.none, rfl, wpAny_pure hQ⟩))
    | exact wpAny_pure ⟨.none, rfl, wpAny_pure hQ⟩
/-- the first two of a tuple -/
theorem applied_two {sl : Addr} {n : Nat} {u : Tok} {Q : Int × Int × Nat → Shared → Prop} (hs : s.heap.IsSliceOf sl .none (.int 2 u) .none) (h : Q (0, 1, min 2 n) s) :
    wpAny (model prog w) A (Builtin.Slice.sliceApplied (.ref sl) (pure (n : Int))) Q E s := by
  obtain ⟨os, hos, hcs, hds⟩ := id hs
  unfold Builtin.Slice.sliceApplied Builtin.Slice.sliceFields
  refine wpAny_bind (wpAny_bind (wpAny_field hos hds (x := .none) rfl (wpAny_bind (wpAny_field hos hds (x := .int 2 u) rfl (wpAny_bind (wpAny_field hos hds (x := .none) rfl (wpAny_pure ?_)))))))
  refine wpAny_bind (slicePart_none ?_)
  show wpAny _ _ (if ((1 : Int) == 0) = true then _ else _) _ _ s
  rw [if_neg (by decide)]
  refine wpAny_bind (slicePart_none (wpAny_bind (slicePart_int (wpAny_bind (wpAny_pure ?_)))))
  have e1 : Builtin.Slice.sliceAdjust none (some (2 : Int)) 1 (n : Int) = (0, ((min 2 n : Nat) : Int)) := by
    unfold Builtin.Slice.sliceAdjust
    have h1 : ¬ ((1 : Int) < 0) := by omega
    have h2 : ¬ ((2 : Int) < 0) := by omega
    simp only [h1, h2, if_false]
    congr 1
    omega
  have e2 : Builtin.Slice.slicePlaces (0 : Int) ((min 2 n : Nat) : Int) 1 = min 2 n := by
    unfold Builtin.Slice.slicePlaces
    have h1 : (1 : Int) > 0 := by omega
    simp only [h1, if_true, Int.ediv_one]
    split <;> omega
  show wpAny _ _ (match Builtin.Slice.sliceAdjust none (some (2 : Int)) 1 (n : Int) with | (lo, hi) => pure (lo, (1 : Int), Builtin.Slice.slicePlaces lo hi 1)) _ _ s
  rw [e1]
  show wpAny _ _ (pure ((0 : Int), (1 : Int), Builtin.Slice.slicePlaces (0 : Int) ((min 2 n : Nat) : Int) 1)) _ _ s
  rw [e2]
  exact wpAny_pure h
theorem getItem_two {t sl : Addr} {vs : List Value} {u : Tok} {Q : Value → Shared → Prop} (ht : IsTup s.heap t vs.toArray) (hs : s.heap.IsSliceOf sl .none (.int 2 u) .none)
    (h : if vs.length ≤ 2 then Q (.ref t) s else Q (.ref s.heap.objs.size) { s with heap := s.heap.push (tupObj (vs.take 2)) }) : wpAny (model prog w) A (getItem (.ref t) (.ref sl)) Q E s := by
  obtain ⟨os, hos, hcs, hds⟩ := id hs
  have hTs : s.TypeIs (.ref sl) "slice" := ⟨os, hos, hcs⟩
  unfold getItem
  try with_reducible refine wpAny_holding ?_
  first | refine wpAny_bind (wpAny_pure ?_) | skip
  refine wpAny_bind (wpAny_sequenceKey ht.typeIs (by decide) ?_)
  refine wpAny_bind (wpAny_callSpecial?_slot (name := Str.ofString "__getitem__") ht.typeIs PyProof.Rows.slot_tuple_getitem
    (wpAny_call_entry PyProof.Rows.slot_tuple_getitem ht.typeIs PyProof.Rows.entry_tuple_getitem ?_ (PyProof.Rows.args_tuple_getitem _ _)))
  show wpAny _ _ (Builtin.Tuple.tupleItemsOf (.ref t) >>= _) _ _ s
  refine wpAny_bind (tupleItemsOf_ ht ?_)
  refine wpAny_bind (wpAny_typeOf hTs ?_)
  rw [if_pos (by decide)]
  refine wpAny_bind (applied_two hs ?_)
  show wpAny _ _ (if ((0 : Int) == 0 && (1 : Int) == 1 && (min 2 vs.toArray.size) == vs.toArray.size) = true then _ else _) _ _ s
  by_cases q : vs.length ≤ 2
  · have e : (((0 : Int) == 0 && (1 : Int) == 1 && (min 2 vs.toArray.size) == vs.toArray.size) = true) := by
      have : min 2 vs.length = vs.length := by omega
      simp [this]
    rw [if_pos e]
    rw [if_pos q] at h
    refine wpAny_bind (m := Builtin.Tuple.tupleIsExact _) (wpAny_bind (wpAny_typeOf ht.typeIs (wpAny_pure ?_)))
    rw [if_pos (by decide)]
    first
      | exact wpAny_bind (wpAny_rule (wpAny_bind (wpAny_pure (wpAny_pure ⟨_, rfl, wpAny_pure h⟩))))
      | exact wpAny_bind (wpAny_rule (wpAny_pure ⟨_, rfl, wpAny_pure h⟩))
  · have e : ¬ (((0 : Int) == 0 && (1 : Int) == 1 && (min 2 vs.toArray.size) == vs.toArray.size) = true) := by
      have : min 2 vs.toArray.size = 2 := by rw [List.size_toArray]; omega
      have h2 : vs.toArray.size ≠ 2 := by rw [List.size_toArray]; omega
      rw [this]
      simp
      exact fun z => h2 (by rw [List.size_toArray]; exact z.symm)
    rw [if_neg e]
    rw [if_neg q] at h
    have hp : ((List.range (min 2 vs.toArray.size)).filterMap fun (k : Nat) => vs.toArray[((0 : Int) + (k : Int) * 1).toNat]?).toArray = (vs.take 2).toArray := by
      have : min 2 vs.toArray.size = 2 := by rw [List.size_toArray]; omega
      rw [this]
      match vs, q with
      | a :: b :: r, _ => rfl
      | [a], q => exact absurd (by simp) q
      | [], q => exact absurd (by simp) q
    rw [hp]
    have hz : sizeOk (.seq (vs.take 2).toArray) := by
      show (vs.take 2).toArray.size ≤ sizeLine
      rw [List.size_toArray, List.length_take]
      exact Nat.le_trans (Nat.min_le_left _ _) (by decide)
    first
      | exact wpAny_bind (m := Builtin.Tuple.tupleExact _) (wpAny_newObj_type (wpAny_pure ⟨_, rfl, wpAny_pure h⟩) hz)
      | exact wpAny_bind (m := Builtin.Tuple.tupleExact _) (wpAny_newObj_type (wpAny_bind (wpAny_pure (wpAny_pure ⟨_, rfl, wpAny_pure h⟩))) hz)
      | exact wpAny_bind (wpAny_bind (m := Builtin.Tuple.tupleExact _) (wpAny_newObj_type (wpAny_pure (wpAny_pure ⟨_, rfl, wpAny_pure h⟩)) hz))
      | exact wpAny_bind (wpAny_bind (m := Builtin.Tuple.tupleExact _) (wpAny_newObj_type (wpAny_pure ⟨_, rfl, wpAny_pure h⟩) hz))
end
section
variable {M : Amb} {d : Nat} {sc : Scope} {cl : List (Str × Loc)} {ml : List (Str × V)} {H : MH}
theorem OP_setlast (hpu : M.pu = false) {l : Loc} {xs : List V} {x y : V} (hc : H.c l = some (.list (xs ++ [y]))) {A : Around} {base h₀ : Heap} {outer : List Env} {fenv env : Env} {L : Addr} {m mm : Str → Option Value} {s : Shared} {wd : WD} {Qm : Unit → Shared → Prop} {o' i' x' : Value}
    (c : CX M d A base h₀ outer fenv env L m mm cl ml s wd H) (r1 : VR M.K wd (.cell l) o') (r2 : VR M.K wd (.int (-1)) i') (r3 : VR M.K wd x x')
    (k : ∀ wd' h' tk', Ext M.pu wd wd' → CX M d A base h₀ outer fenv env L m mm cl ml { s with heap := h', toks := tk' } wd' (H.put l (.list (xs ++ [x]))) → Qm () { s with heap := h', toks := tk' }) :
    wpAny (model M.prog M.w) A (setItem o' i' x') Qm (fun _ _ => False) s := by
  obtain ⟨a, vs, n, rfl, e1, e2, e3, e4, e5⟩ := isList_of c hc r1
  cases r2
  obtain ⟨us, v, rfl, q1, q2⟩ := e3.unsnoc
  obtain ⟨news', U, E, R⟩ := set_list hpu (n' := n) c hc e1 e2 (q1.append _ (.cons r3 .nil))
  obtain ⟨pre, post, hw, rfl, p1, p2⟩ := U.split
  have z := c.N _ e2
  refine store_last z.1 (by simp) (k ⟨wd.ρ, _⟩ _ s.toks E (c.go (c.F.change (Heap.SameBut.update ..) z.2.1 z.2.2) ?_ E R))
  have N := c.N
  rw [hw] at N
  refine ki_turn _ N p1 p2 ?_ ?_
  · show (us ++ [v]).toArray.setIfInBounds ((us ++ [v]).length - 1) x' = (us ++ [x']).toArray
    apply Array.toList_inj.mp
    simp
  · simp
theorem OP_setdict (hpu : M.pu = false) {l : Loc} {es : List (Str × V)} {key : Str} {x : V} (hc : H.c l = some (.dict es)) (hz : es.length ≤ 1000) {A : Around} {base h₀ : Heap} {outer : List Env} {fenv env : Env} {L : Addr} {m mm : Str → Option Value} {s : Shared} {wd : WD} {Qm : Unit → Shared → Prop} {o' i' x' : Value}
    (c : CX M d A base h₀ outer fenv env L m mm cl ml s wd H) (r1 : VR M.K wd (.cell l) o') (r2 : VR M.K wd (.str key) i') (r3 : VR M.K wd x x')
    (k : ∀ wd' h' tk', Ext M.pu wd wd' → CX M d A base h₀ outer fenv env L m mm cl ml { s with heap := h', toks := tk' } wd' (H.put l (.dict (putE es key x))) → Qm () { s with heap := h', toks := tk' }) :
    wpAny (model M.prog M.w) A (setItem o' i' x') Qm (fun _ _ => False) s := by
  obtain ⟨a, o, kvs, rfl, e1, e2, e3, e4, e5, e6⟩ := isDict_of c hc r1
  cases r2
  obtain ⟨g, U, hg⟩ := Rel.setF hpu c.rel e1 e2
  refine kda_set c.F c.N U e4 (strKind_is M.prog M.w key _) (by rw [e5.length]; exact Nat.le_trans hz (by decide)) fun h' o' F' N' hd' => ?_
  obtain ⟨E, R⟩ := hg o' (.dict (putE es key x)) fun news' h1 _ E => ⟨a, o', _, e1, h1, e3, hd', (e5.ext _ E.vex).put _ (r3.ext _ E)⟩
  exact k ⟨wd.ρ, g o'⟩ h' _ E (c.go F' N' E R)
theorem B_get2 {l : Loc} {es : List (Str × V)} {key : Str} {x : V} {Q : V → MH → Prop} (hc : H.c l = some (.dict es)) (h : Q ((getE es key).getD x) H) : CALB M d cl ml H (.builtin "dict.get") [.cell l, .str key, x] Q := by
  intro A base h₀ outer fenv env L m mm s wd Qm xs' c r k
  obtain ⟨x', y', z', rfl, r1, r2, r3⟩ := three_of r
  obtain ⟨a, o, kvs, rfl, e1, e2, e3, e4, e5, e6⟩ := isDict_of c hc r1
  cases r2
  have g := e5.get (k := key)
  have hv : VR M.K wd ((getE es key).getD x) ((valueAt kvs key).getD z') := by
    cases q : getE es key with
    | none => rw [q] at g; rw [g]; exact r3
    | some y => rw [q] at g; obtain ⟨v, g1, g2⟩ := g; rw [g1]; exact g2
  exact call_meetsIn PySem.F.slot_dict_get e6.typeIs PySem.F.entry_dict_get (PySem.F.args_dict_get_3 _ _ _) (meets_dict_get_default (PySem.strKind M.prog M.w) a (strKind_is M.prog M.w key _) e3 z')
    ⟨_, e6.mapOf, k _ _ H wd s.heap _ h (Ext.refl _) hv (c.tok _)⟩
theorem vrs_strs {w : WD} : ∀ l : List (Str × Tok), VRs M.K w ((l.map (·.1)).map .str) (strValues l)
  | [] => .nil
  | (y, t) :: r => .cons (.str y t) (vrs_strs r)
theorem B_split {x : Str} {ys : List Str} {l : Loc} {Q : V → MH → Prop} (hz : x.length ≤ 1000) (hw : Txt.words x = ys) (hf : H.free l) (h : Q (.cell l) (H.add l (.list (ys.map .str)))) : CALB M d cl ml H (.builtin "str.split") [.str x] Q := by
  intro A base h₀ outer fenv env L m mm s wd Qm xs' c r k
  obtain ⟨x', rfl, r1⟩ := one_of r
  cases r1
  refine splitN0 c.F c.N (fun p h' tk e F' N' => ?_) (Nat.le_trans (Nat.add_le_add_right hz 2) (by decide))
  have r := vrs_strs (M := M) (w := wd) p
  rw [e, hw] at r
  obtain ⟨E, R, C⟩ := new_list (tk := tk) (n := 0) c hf r F' N' fun p hp => Heap.lt_size (c.N p hp).1
  exact k _ _ _ _ h' tk h E R C
theorem OP_cat {l l₁ l₂ : Loc} {xs ys : List V} {Q : V → MH → Prop} (h1 : H.c l₁ = some (.list xs)) (h2 : H.c l₂ = some (.list ys)) (hf : H.free l) (hz : xs.length + ys.length ≤ 1000) (h : Q (.cell l) (H.add l (.list (xs ++ ys)))) :
    OP2 VR M d cl ml H (binaryOp .Add) (.cell l₁) (.cell l₂) Q := by
  intro A base h₀ outer fenv env L m mm s wd Qm x' y' c r1 r2 k
  obtain ⟨a, vs, n, rfl, e1, e2, e3, e4, e5⟩ := isList_of c h1 r1
  obtain ⟨b, us, n', rfl, f1, f2, f3, f4, f5⟩ := isList_of c h2 r2
  refine add_arrays c.F c.N e4 f4 (fun h' F' N' => ?_) (by rw [List.size_toArray, List.size_toArray, e5, f5]; exact Nat.le_trans hz (by decide))
  obtain ⟨E, R, C⟩ := new_list (tk := s.toks) (n := 0) c hf (e3.append _ f3) F' N' fun p hp => Heap.lt_size (c.N p hp).1
  exact k _ _ _ _ h' _ h E R C
theorem TE_list {es : List Expr} {pos : Pos} {l : Loc} {Q : V → MH → Prop} (ha : ∀ env, starEach es env = argTrees es env)
    (h : TEs M d sc cl ml H es fun vs H1 => vs.length ≤ 1000 ∧ H1.free l ∧ Q (.cell l) (H1.add l (.list vs))) : TE M d sc cl ml H (.List es pos) Q := by
  intro A base h₀ outer fenv env L m mm s wd Qm hs c k
  refine List_ ?_
  rw [ha, back_args]
  refine h hs c fun a a' H1 w1 h1 t1 q1 x1 r1 c1 => ?_
  refine newList_K c1.F c1.N (fun D h' F' N' hn => ?_) (by rw [r1.length]; exact Nat.le_trans q1.1 (by decide))
  obtain ⟨E, R, C⟩ := new_list (tk := t1) (n := 0) c1 q1.2.1 r1 F' N' hn
  exact k _ _ _ _ h' t1 q1.2.2 (x1.trans E) R C
/- slices -/
theorem TE_butlast {value upper : Expr} {p pos : Pos} {l : Loc} {Q : V → MH → Prop} (ht : ∀ o r, letTemporaryGo value o r = pure ())
    (h : TE M d sc cl ml H value fun o H1 => TE M d sc cl ml H1 upper fun i H2 => ∃ l₁ xs, o = .cell l₁ ∧ i = .int (-1) ∧ H2.c l₁ = some (.list xs) ∧ xs.length ≤ 1000 ∧ H2.free l ∧ Q (.cell l) (H2.add l (.list xs.dropLast))) :
    TE M d sc cl ml H (.Subscript value (.Slice none (some upper) none p) pos) Q := by
  intro A base h₀ outer fenv env L m mm s wd Qm hs c k
  refine wpAny_Subscript_list_slice (h hs c fun o o' H1 w1 h1 t1 q1 x1 r1 c1 => evalPart_none_step (evalPart_some_step (q1 hs c1 fun i i' H2 w2 h2 t2 q2 x2 r2 c2 => ?_))) ht
  obtain ⟨l₁, xs, rfl, rfl, hc, hz, hf, hq⟩ := q2
  obtain ⟨a, vs, n, rfl, e1, e2, e3, e4, e5⟩ := isList_of c2 hc (r1.ext _ x2)
  obtain ⟨t9, rfl⟩ : ∃ t, i' = .int (-1) t := by cases r2; exact ⟨_, rfl⟩
  refine ⟨a, vs.toArray, none, some (-1), rfl, e4, by rw [List.size_toArray, e5]; exact Nat.le_trans hz (by decide), .none, .int _ _, ?_⟩
  have hp : slicePick vs.toArray none (some (-1)) none = vs.dropLast.toArray := by
    rw [kms_pick_eq]
    unfold kms_pick kms_lo kms_hi
    simp [List.dropLast_eq_take]
  rw [hp]
  have rd : VRs M.K w2 xs.dropLast vs.dropLast := by
    rw [List.dropLast_eq_take, List.dropLast_eq_take, e5]; exact e3.take _ _
  have F2 := c2.F.push { cls := .type "slice", data := .fields #[Value.none, Value.int (-1) t9, Value.none] }
  have N2 := News.push F2 (c2.N.grown fun _ _ e => Heap.get?_push_of_some _ e) (listOf vs.dropLast.toArray 0)
  rw [Heap.size_push] at N2
  obtain ⟨E, R, C⟩ := new_list (tk := t2) (n := 0) c2 hf rd (F2.push _) N2 fun p hp => Nat.lt_succ_of_lt (Heap.lt_size (c2.N p hp).1)
  exact k _ _ _ _ _ t2 hq ((x1.trans x2).trans E) R C
theorem TE_two {value upper : Expr} {p pos : Pos} {Q : V → MH → Prop} (ht : ∀ o r, letTemporaryGo value o r = pure ())
    (h : TE M d sc cl ml H value fun o H1 => TE M d sc cl ml H1 upper fun i H2 => ∃ xs, o = .tup xs ∧ i = .int 2 ∧ Q (.tup (xs.take 2)) H2) :
    TE M d sc cl ml H (.Subscript value (.Slice none (some upper) none p) pos) Q := by
  intro A base h₀ outer fenv env L m mm s wd Qm hs c k
  refine wpAny_Subscript_Slice (T := "tuple") PyProof.Rows.slot_tuple_getitem.lookup (h hs c fun o o' H1 w1 h1 t1 q1 x1 r1 c1 => wpAny_Slice (evalPart_none_step (evalPart_some_step (q1 hs c1 fun i i' H2 w2 h2 t2 q2 x2 r2 c2 => ?_)))) ht
  obtain ⟨xs, rfl, rfl, hq⟩ := q2
  obtain ⟨a, vs, rfl, e1, e2, e3⟩ := isTup_of c2 (r1.ext _ x2)
  obtain ⟨t9, rfl⟩ : ∃ t, i' = .int 2 t := by cases r2; exact ⟨_, rfl⟩
  rw [evalPart_none]
  refine wpAny_pure ?_
  have F2 := c2.F.push { cls := .type "slice", data := .fields #[Value.none, Value.int 2 t9, Value.none] }
  have N2 := c2.N.grown (h' := h2.push { cls := .type "slice", data := .fields #[Value.none, Value.int 2 t9, Value.none] }) fun _ _ e => Heap.get?_push_of_some _ e
  have T2 := e2.keeps (h' := h2.push { cls := .type "slice", data := .fields #[Value.none, Value.int 2 t9, Value.none] }) fun _ _ e => Heap.get?_push_of_some _ e
  refine ⟨T2.typeIs, getItem_two T2 (Heap.IsSliceOf.new ..) ?_⟩
  split
  · rename_i q
    have e : xs.take 2 = xs := List.take_of_length_le (by rw [← e3]; exact q)
    rw [e] at hq
    exact k _ _ H2 w2 _ t2 hq (x1.trans x2) (r1.ext _ x2) (c2.go F2 N2 (Ext.refl _) c2.rel)
  · have N3 := News.push F2 N2 (tupObj (vs.take 2))
    have nk : (h2.push { cls := .type "slice", data := .fields #[Value.none, Value.int 2 t9, Value.none] }).objs.size ∉ w2.keys := fresh_of fun p hp => Heap.lt_size (N2 p hp).1
    refine k _ _ H2 (w2.more _ (tupObj (vs.take 2))) _ t2 hq ((x1.trans x2).trans (.more _ _ _)) (.tup (.head _) ?_ ((e1.take _ 2).ext _ (Ext.more (pu := M.pu) _ _ _))) (c2.go (F2.push _) N3 (.more _ _ _) (c2.rel.more _ nk))
    rintro ⟨l, b, hb⟩
    exact nk (c2.rel.dom l b _ hb)
end
/- the flow of a statement -/
inductive FV where
  | next | brk | cont
  | ret (v : V)
inductive FR (K : Frag) (w : WD) : FV → Flow → Prop
  | next : FR K w .next .next
  | brk : FR K w .brk .brk
  | cont : FR K w .cont .cont
  | ret {v : V} {v' : Value} : VR K w v v' → FR K w (.ret v) (.ret v')
theorem FR.ext {pu : Bool} {K : Frag} {w w' : WD} (e : Ext pu w w') {f : FV} {f' : Flow} (h : FR K w f f') : FR K w' f f' := by
  cases h with
  | next => exact .next
  | brk => exact .brk
  | cont => exact .cont
  | ret r => exact .ret (r.ext _ e)
/-- the triple of statements -/
def TX (M : Amb) (d : Nat) (sc : Scope) (cl : List (Str × Loc)) (ml : List (Str × V)) (H : MH) (t : Env → Sem Flow) (Q : FV → List (Str × V) → MH → Prop) : Prop :=
  ∀ ⦃A : Around⦄ ⦃base h₀ : Heap⦄ ⦃outer : List Env⦄ ⦃env : Env⦄ ⦃L : Addr⦄ ⦃m : Str → Option Value⦄ ⦃s : Shared⦄ ⦃wd : WD⦄ ⦃Qm : Flow → Shared → Prop⦄,
    env.scope = sc → env.locals = L → CX M d A base h₀ outer env env L m m cl ml s wd H →
    (∀ f f' ml' H' wd' h' tk' m', Q f ml' H' → Ext M.pu wd wd' → FR M.K wd' f f' → CX M d A base h₀ outer env env L m' m' cl ml' { s with heap := h', toks := tk' } wd' H' → Qm f' { s with heap := h', toks := tk' }) →
    wpAny (model M.prog M.w) A (t env) Qm (fun _ _ => False) s
abbrev TS (M : Amb) (d : Nat) (sc : Scope) (cl : List (Str × Loc)) (ml : List (Str × V)) (H : MH) (b : List Stmt) (Q : FV → List (Str × V) → MH → Prop) : Prop := TX M d sc cl ml H (execs b) Q
abbrev T1 (M : Amb) (d : Nat) (sc : Scope) (cl : List (Str × Loc)) (ml : List (Str × V)) (H : MH) (b : Stmt) (Q : FV → List (Str × V) → MH → Prop) : Prop := TX M d sc cl ml H (exec b) Q
section
variable {M : Amb} {d : Nat} {sc : Scope} {cl : List (Str × Loc)} {ml : List (Str × V)} {H : MH}
theorem TX.mono {t : Env → Sem Flow} {Q Q' : FV → List (Str × V) → MH → Prop} (h : TX M d sc cl ml H t Q) (hq : ∀ f ml' H', Q f ml' H' → Q' f ml' H') : TX M d sc cl ml H t Q' := by
  intro A base h₀ outer env L m s wd Qm hs hl c k
  exact h hs hl c fun f f' ml' H' wd' h' tk' m' q => k f f' ml' H' wd' h' tk' m' (hq f ml' H' q)
theorem TS_nil {Q : FV → List (Str × V) → MH → Prop} (h : Q .next ml H) : TS M d sc cl ml H [] Q := by
  intro A base h₀ outer env L m s wd Qm hs hl c k
  exact wpAny_execs_nil (k _ _ ml H wd s.heap s.toks m h (Ext.refl _) .next (c.tok _))
def thenS (M : Amb) (d : Nat) (sc : Scope) (cl : List (Str × Loc)) (rest : List Stmt) (Q : FV → List (Str × V) → MH → Prop) : FV → List (Str × V) → MH → Prop
  | .next, ml, H => TS M d sc cl ml H rest Q
  | f, ml, H => Q f ml H
theorem TS_cons {st : Stmt} {rest : List Stmt} {Q : FV → List (Str × V) → MH → Prop} (h : T1 M d sc cl ml H st (thenS M d sc cl rest Q)) : TS M d sc cl ml H (st :: rest) Q := by
  intro A base h₀ outer env L m s wd Qm hs hl c k
  refine wpAny_execs_cons (h hs hl c fun f f' ml' H' wd' h' tk' m' q x r c' => ?_)
  cases r with
  | next => exact q hs hl c' fun f2 f2' ml2 H2 wd2 h2 tk2 m2 q2 x2 r2 c2 => k f2 f2' ml2 H2 wd2 h2 tk2 m2 q2 (x.trans x2) r2 c2
  | brk => exact k _ _ ml' H' wd' h' tk' m' q x .brk c'
  | cont => exact k _ _ ml' H' wd' h' tk' m' q x .cont c'
  | ret r => exact k _ _ ml' H' wd' h' tk' m' q x (.ret r) c'
theorem T1_expr {e : Expr} {pos : Pos} {Q : FV → List (Str × V) → MH → Prop} (hw : ∀ env, swapsWith e none pos.line env = pure false) (hi : sc.kind = .function)
    (h : TE M d sc cl ml H e fun _ H' => Q .next ml H') : T1 M d sc cl ml H (.Expr e pos) Q := by
  intro A base h₀ outer env L m s wd Qm hs hl c k
  refine wpAny_Expr_any (h hs c fun v v' H1 w1 h1 t1 q1 x1 r1 c1 => k _ _ ml H1 w1 h1 t1 m q1 x1 .next c1) ?_ (hw _)
  unfold interactive
  rw [hs, hi]
  rfl
theorem T1_ret {e : Expr} {pos : Pos} {Q : FV → List (Str × V) → MH → Prop} (h : TE M d sc cl ml H e fun v H' => Q (.ret v) ml H') : T1 M d sc cl ml H (.Return (some e) pos) Q := by
  intro A base h₀ outer env L m s wd Qm hs hl c k
  exact wpAny_Return_some (h hs c fun v v' H1 w1 h1 t1 q1 x1 r1 c1 => k _ _ ml H1 w1 h1 t1 m q1 x1 (.ret r1) c1)
theorem T1_ret_none {pos : Pos} {Q : FV → List (Str × V) → MH → Prop} (he : ∀ env, exec (.Return none pos) env = (do standAt pos; pure (.ret .none))) (h : Q (.ret .none) ml H) : T1 M d sc cl ml H (.Return none pos) Q := by
  intro A base h₀ outer env L m s wd Qm hs hl c k
  show wpAny _ _ (exec (.Return none pos) env) _ _ _
  rw [he]
  exact wpAny_bind (wpAny_standAt (wpAny_pure (k _ _ ml H wd s.heap s.toks m h (Ext.refl _) (.ret .none) (c.tok _))))
theorem T1_if {test : Expr} {body orelse : List Stmt} {pos : Pos} {Q : FV → List (Str × V) → MH → Prop} (h : TB M d sc cl ml H test fun b H1 => if b = true then TS M d sc cl ml H1 body Q else TS M d sc cl ml H1 orelse Q) :
    T1 M d sc cl ml H (.If test body orelse pos) Q := by
  intro A base h₀ outer env L m s wd Qm hs hl c k
  refine wpAny_If (h hs c fun b a H1 w1 h1 t1 q1 x1 r1 c1 => ?_)
  cases r1
  cases b with
  | true => exact q1 hs hl c1 fun f f' ml' H' wd' h' tk' m' q x r c' => k f f' ml' H' wd' h' tk' m' q (x1.trans x) r c'
  | false => exact q1 hs hl c1 fun f f' ml' H' wd' h' tk' m' q x r c' => k f f' ml' H' wd' h' tk' m' q (x1.trans x) r c'
end
/- storing a name -/
section
variable {M : Amb} {d : Nat} {A : Around} {base h₀ : Heap} {outer : List Env} {env : Env} {L : Addr} {m : Str → Option Value} {cl : List (Str × Loc)} {ml : List (Str × V)} {s : Shared} {wd : WD} {H : MH}
theorem CX.store (c : CX M d A base h₀ outer env env L m m cl ml s wd H) (hl : env.locals = L) {x : Str} {v : V} {v' : Value} (hv : VR M.K wd v v') {h' : Heap} {tk : Tok} (F : Fr h₀ L h' (fun y => if y = x then some v' else m y)) (N : News h₀ L h' wd.news) :
    CX M d A base h₀ outer env env L (fun y => if y = x then some v' else m y) (fun y => if y = x then some v' else m y) cl ((x, v) :: ml) { s with heap := h', toks := tk } wd H :=
  { c with
    F := F
    N := N
    loc := .inl ⟨hl, rfl⟩
    lr := fun y u hy => by
      rw [List.lookup_cons] at hy
      by_cases q : y = x
      · subst q
        rw [show (y == y) = true from beq_self_eq_true y] at hy
        cases hy
        exact ⟨v', by rw [if_pos rfl], hv⟩
      · have q' : (y == x) = false := by simpa using q
        rw [q'] at hy
        obtain ⟨u', h1, h2⟩ := c.lr y u hy
        exact ⟨u', by rw [if_neg q]; exact h1, h2⟩ }
theorem wp_store (c : CX M d A base h₀ outer env env L m m cl ml s wd H) (hl : env.locals = L) {x : Str} {v : V} {v' : Value} (hv : VR M.K wd v v') (hk : env.scope.names.lookup x = some .local) {Q : Unit → Shared → Prop}
    (k : ∀ h' tk' m', CX M d A base h₀ outer env env L m' m' cl ((x, v) :: ml) { s with heap := h', toks := tk' } wd H → Q () { s with heap := h', toks := tk' }) :
    wpAny (model M.prog M.w) A (storeName env x v') Q (fun _ _ => False) s := by
  refine wpAny_storeName_local (m := m) (by unfold Env.kindOf; exact hk) (by rw [hl]; exact c.F.ns) (fun h' hn hs => ?_) ?_
  · rw [hl] at hn hs
    exact k h' _ _ (c.store hl hv (c.F.set hn hs) (c.N.set hs))
  · rw [c.ek]; rfl
end
section
variable {M : Amb} {d : Nat} {sc : Scope} {cl : List (Str × Loc)} {ml : List (Str × V)} {H : MH}
theorem T1_assign {x : Str} {xp pos : Pos} {value : Expr} {Q : FV → List (Str × V) → MH → Prop} (hw : ∀ env, swapsWith value (some (.Name x xp)) pos.line env = pure false) (hk : sc.names.lookup x = some .local)
    (h : TE M d sc cl ml H value fun v H' => Q .next ((x, v) :: ml) H') : T1 M d sc cl ml H (.Assign [.Name x xp] value pos) Q := by
  intro A base h₀ outer env L m s wd Qm hs hl c k
  refine wpAny_Assign_Name (h hs c fun v v' H1 w1 h1 t1 q1 x1 r1 c1 => ?_) (hw _)
  exact wp_store c1 hl r1 (by rw [hs]; exact hk) fun h' tk' m' c2 => k _ _ _ H1 w1 h' tk' m' q1 x1 .next c2
theorem T1_setattr {o value : Expr} {attr : Str} {ap pos : Pos} {Q : FV → List (Str × V) → MH → Prop} (hw : ∀ env, swapsWith value (some (.Attribute o attr ap)) pos.line env = pure false)
    (h : TE M d sc cl ml H value fun v H1 => TE M d sc cl ml H1 o fun ov H2 => OP2 (fun _ _ _ _ => True) M d cl ml H2 (fun o v => setAttr o attr v) ov v fun (_ : Unit) H3 => Q .next ml H3) : T1 M d sc cl ml H (.Assign [.Attribute o attr ap] value pos) Q := by
  intro A base h₀ outer env L m s wd Qm hs hl c k
  refine plainObj_wpAny_Assign_Attribute (h hs c fun v v' H1 w1 h1 t1 q1 x1 r1 c1 => q1 hs c1 fun o o' H2 w2 h2 t2 q2 x2 r2 c2 => ?_) (hw _)
  exact q2 c2 r2 (r1.ext _ x2) fun _ _ H3 w3 h3 t3 q3 x3 _ c3 => k _ _ ml H3 w3 h3 t3 m q3 ((x1.trans x2).trans x3) .next c3
/-- what storing an item does -/
inductive Stored (H : MH) : V → V → V → MH → Prop
  | item {l : Loc} {xs : List V} {i : Int} {x : V} : H.c l = some (.list xs) → 0 ≤ i → i < xs.length → xs.length ≤ 1000 → Stored H (.cell l) (.int i) x (H.put l (.list (xs.set i.toNat x)))
  | last {l : Loc} {xs : List V} {x y : V} : H.c l = some (.list (xs ++ [y])) → Stored H (.cell l) (.int (-1)) x (H.put l (.list (xs ++ [x])))
  | dict {l : Loc} {es : List (Str × V)} {key : Str} {x : V} : H.c l = some (.dict es) → es.length ≤ 1000 → Stored H (.cell l) (.str key) x (H.put l (.dict (putE es key x)))
theorem T1_setitem (hpu : M.pu = false) {o i value : Expr} {ap pos : Pos} {Q : FV → List (Str × V) → MH → Prop} (hw : ∀ env, swapsWith value (some (.Subscript o i ap)) pos.line env = pure false)
    (h : TE M d sc cl ml H value fun v H1 => TE M d sc cl ml H1 o fun ov H2 => TE M d sc cl ml H2 i fun iv H3 => ∃ H4, Stored H3 ov iv v H4 ∧ Q .next ml H4) : T1 M d sc cl ml H (.Assign [.Subscript o i ap] value pos) Q := by
  intro A base h₀ outer env L m s wd Qm hs hl c k
  refine wpAny_Assign_Subscript (h hs c fun v v' H1 w1 h1 t1 q1 x1 r1 c1 => q1 hs c1 fun o o' H2 w2 h2 t2 q2 x2 r2 c2 => q2 hs c2 fun i i' H3 w3 h3 t3 q3 x3 r3 c3 => ?_) (hw _)
  obtain ⟨H4, st, q⟩ := q3
  have x13 := (x1.trans x2).trans x3
  cases st with
  | item a1 a2 a3 a4 => exact OP_setitem hpu a1 a2 a3 a4 c3 (r2.ext _ x3) r3 (r1.ext _ (x2.trans x3)) fun w4 h4 t4 x4 c4 => k _ _ ml _ w4 h4 t4 m q (x13.trans x4) .next c4
  | last a1 => exact OP_setlast hpu a1 c3 (r2.ext _ x3) r3 (r1.ext _ (x2.trans x3)) fun w4 h4 t4 x4 c4 => k _ _ ml _ w4 h4 t4 m q (x13.trans x4) .next c4
  | dict a1 a2 => exact OP_setdict hpu a1 a2 c3 (r2.ext _ x3) r3 (r1.ext _ (x2.trans x3)) fun w4 h4 t4 x4 c4 => k _ _ ml _ w4 h4 t4 m q (x13.trans x4) .next c4
end
/- calls of the text's defs -/
inductive BR (K : Frag) (w : WD) : List (Str × V) → List (Str × Value) → Prop
  | nil : BR K w [] []
  | cons {k : Str} {x : V} {v : Value} {es : List (Str × V)} {ds : List (Str × Value)} : VR K w x v → BR K w es ds → BR K w ((k, x) :: es) ((k, v) :: ds)
theorem BR.append {K : Frag} {w : WD} : ∀ {a b : List (Str × V)} {a' b' : List (Str × Value)}, BR K w a a' → BR K w b b' → BR K w (a ++ b) (a' ++ b')
  | _, _, _, _, .nil, h => h
  | _, _, _, _, .cons x r, h => .cons x (r.append h)
theorem BR.reverse {K : Frag} {w : WD} : ∀ {a : List (Str × V)} {a' : List (Str × Value)}, BR K w a a' → BR K w a.reverse a'.reverse
  | _, _, .nil => .nil
  | _, _, .cons x r => by rw [List.reverse_cons, List.reverse_cons]; exact r.reverse.append (.cons x .nil)
theorem BR.lookup {K : Frag} {w : WD} {y : Str} {u : V} : ∀ {a : List (Str × V)} {a' : List (Str × Value)}, BR K w a a' → a.lookup y = some u → ∃ u', a'.lookup y = some u' ∧ VR K w u u'
  | _, _, .nil, h => by cases h
  | _, _, .cons (k := k) x r, h => by
    rw [List.lookup_cons] at h ⊢
    cases q : (y == k) with
    | true => rw [q] at h; cases h; exact ⟨_, rfl, x⟩
    | false => rw [q] at h; exact r.lookup h
theorem BR.names {K : Frag} {w : WD} : ∀ {a : List (Str × V)} {a' : List (Str × Value)}, BR K w a a' → a'.map (·.1) = a.map (·.1)
  | _, _, .nil => rfl
  | _, _, .cons _ r => by rw [List.map_cons, List.map_cons, r.names]
/-- what is handed back -/
def backS (Q : V → MH → Prop) : FV → List (Str × V) → MH → Prop
  | .ret v, _, H => Q v H
  | .next, _, H => Q .none H
  | _, _, _ => False
section
variable {M : Amb} {d : Nat} {cl : List (Str × Loc)} {ml : List (Str × V)} {H : MH}
theorem CALL_def {name qual : Str} {params : Arguments} {body : List Stmt} {scope : Scope} {dV kV doc pm cdv ct oc : Value} {an od : Option Addr} {osl : Array (Option Value)} {f : Addr} {xs : List V} {binds : List (Str × V)} {Q : V → MH → Prop}
    (ho : M.K.lookup f = some ⟨oc, od, .func (fnOf name qual params body scope dV kV doc pm an cdv ct), osl⟩) (hcd : codeIn M.K cdv qual = true)
    (hb : ∀ (s : Shared) (wd : WD) (vals : List Value), VRs M.K wd xs vals → M.K.In s.heap → ∃ bs, BindsTo s (fnOf name qual params body scope dV kV doc pm an cdv ct) ⟨vals, []⟩ bs ∧ BR M.K wd binds bs)
    (hloc : (binds.all fun y => decide (scope.names.lookup y.1 = some .local)) = true) (hco : scope.isCoroutine = false) (hgen : scope.isGenerator = false) (hk : scope.kind = .function) (hcell : (scope.names.all fun x => decide (x.2 ≠ .cell)) = true)
    (h : TS M d scope [] binds.reverse H body (backS Q)) : CALL M (d + 1) cl ml H f xs Q := by
  intro A base h₀ outer fenv env L m mm s wd R xs' c r k
  obtain ⟨bs, hb1, hb2⟩ := hb s wd xs' r (c.X.keeps c.F.keep)
  obtain ⟨A₀, B⟩ := c.bel
  have hloc' : ∀ y ∈ bs, scope.names.lookup y.1 = some .local := fun y hy => by
    have hm : y.1 ∈ binds.map (·.1) := by rw [← hb2.names]; exact List.mem_map_of_mem hy
    obtain ⟨z, hz, e⟩ := List.mem_map.mp hm
    rw [← e]
    exact of_decide_eq_true (List.all_eq_true.mp hloc z hz)
  refine PySem.W.code_def B c.F c.X c.N c.T c.hA c.ff c.fk ho hcd (by have := c.room; show _ < 1000; omega) hb1 hloc' (fun g L' h₁ FG F' N' B' X' T' => ?_) hco hgen hk (fun x hx => of_decide_eq_true (List.all_eq_true.mp hcell x hx))
  have C' : CX M d (A.deeper (envOf qual scope L' f cdv)) base g (fenv :: outer) (envOf qual scope L' f cdv) (envOf qual scope L' f cdv) L' (fun y => bs.reverse.lookup y) (fun y => bs.reverse.lookup y) [] binds.reverse { s with heap := h₁, toks := s.toks + bs.length } wd H :=
    { hA := Around.frames_deeper c.hA
      bel := ⟨_, B'⟩
      ff := rfl
      fk := hk
      F := F'
      N := N'
      X := X'
      Z := fun p hp => FG.keep _ _ (c.Z p hp)
      T := T'
      hh := c.hh
      room := by have := c.room; show A.depth + 1 + 4 * d ≤ 600; omega
      units := by have := c.units; show A.units + 3 + 20 * d ≤ 9000; omega
      ek := hk
      eg := rfl
      eb := rfl
      loc := .inl ⟨rfl, rfl⟩
      lr := fun x v hx => hb2.reverse.lookup hx
      cr := fun x l hx => by cases hx
      rel := c.rel }
  refine wpAny_mono (h rfl rfl C' (Qm := fun fl s' => LeaveK h₀ L m g R (match fl with | .ret v => v | _ => .none) s') fun fl fl' ml' H' wd' h' tk' m' q x rr c' => ?_) (fun _ _ y => y) fun _ _ y => y.elim
  have fin : ∀ v v', Q v H' → VR M.K wd' v v' → LeaveK h₀ L m g R v' { s with heap := h', toks := tk' } := fun v v' qv rv =>
    ⟨L', m', wd'.news, c'.F, c'.N, fun Fb Nb => k v v' H' wd' h' tk' qv x rv (c.go Fb Nb x c'.rel)⟩
  cases rr with
  | ret rv => exact fin _ _ q rv
  | next => exact fin _ _ q .none
  | brk => exact q.elim
  | cont => exact q.elim
/-- an object of a class is made -/
theorem CALL_cls {C fI : Addr} {xs : List V} {l : Loc} {Q : V → MH → Prop} (hm : makesIn M.K C = true) (hi : findIn M.K (.ref C) "__init__" = some (some (.ref fI))) (hf : isFn M.K (.ref fI) = true) (hl : H.free l)
    (h : CALL M d cl ml (H.add l (.inst C [])) fI (.cell l :: xs) fun v H' => v = .none ∧ Q (.cell l) H') : CALL M (d + 1) cl ml H C xs Q := by
  intro A base h₀ outer fenv env L m mm s wd R xs' c r k
  refine make_K c.F c.N (c.X.keeps c.F.keep) hm hi (beq_iff_eq.mp hf) fun x dx h' F' N' lt1 lt2 => ?_
  have nd : dx ∉ wd.keys := fresh_of lt1
  have nx : x ∉ wd.keys := fresh_of fun p hp => Nat.lt_trans (lt1 p hp) lt2
  have E : Ext M.pu wd (wd.inst l x dx C) := Ext.inst (fun b => c.rel.free l b hl) nx nd
  have RR := c.rel.inst (C := C) hl nx nd (Nat.ne_of_gt lt2)
  have c1 := c.go (tk' := s.toks) F' N' E RR
  have hx : (wd.inst l x dx C).ρ l false = some x := by show (if _ then _ else _) = _; rw [if_pos rfl]; rfl
  have c2 : CX M d (A.under (.builtin "type.__call__" ⟨.ref C :: xs', []⟩)) base h₀ outer fenv env L m mm cl ml { s with heap := h', toks := s.toks } (wd.inst l x dx C) (H.add l (.inst C [])) :=
    { c1 with
      hA := c.hA
      hh := c.hh
      room := by have := c.room; show A.depth + 1 + 4 * d ≤ 600; omega
      units := by
        have := c.units
        show A.units + (1 + 3 * 0) + 20 * d ≤ 9000
        omega }
  refine h c2 (.cons (.cell hx) (r.ext _ E)) fun v v' H' wd' h2 tk2 q x2 rv c3 => ?_
  obtain ⟨rfl, q⟩ := q
  cases rv
  refine ⟨rfl, k (.cell l) (.ref x) H' wd' h2 tk2 q (E.trans x2) (.cell (x2.sub _ _ _ hx)) ?_⟩
  exact { c3 with hA := c.hA, hh := c.hh, room := c.room, units := c.units }
end
/-- an entry without a name is left out -/
def WD.less (w : WD) (I : Addr) : WD := ⟨w.ρ, w.news.filter fun p => p.1 ≠ I⟩
theorem mem_less {w : WD} {I : Addr} {p : Addr × Obj} : p ∈ (w.less I).news ↔ p ∈ w.news ∧ p.1 ≠ I := by
  show p ∈ w.news.filter _ ↔ _
  rw [List.mem_filter]
  simp
theorem Vex.less {w : WD} {I : Addr} {it : Obj} (hn : w.keys.Nodup) (hm : (I, it) ∈ w.news) (ht : it.cls ≠ .type "tuple") : Vex w (w.less I) :=
  ⟨fun _ _ _ h => h, fun a vs h n => ⟨mem_less.mpr ⟨h, fun e => ht (by
    have e : a = I := e
    subst e
    rw [nodup_eq hn hm h])⟩, n⟩⟩
theorem Rel.less {K : Frag} {prog : Program} {wo : World} {w : WD} {H : MH} (r : Rel K prog wo w H) {I : Addr} {it : Obj} (hm : (I, it) ∈ w.news) (ht : it.cls ≠ .type "tuple") (hn : ¬ w.im I) : Rel K prog wo (w.less I) H where
  cells l c h := (r.cells l c h).keep (Vex.less r.nod hm ht) fun b a o h1 h2 => mem_less.mpr ⟨h2, fun e => hn ⟨l, b, by rw [h1]; exact congrArg some e⟩⟩
  inj := r.inj
  nod := (List.filter_sublist.map _).nodup r.nod
  dom l b a h := by
    obtain ⟨p, hp, e⟩ := List.mem_map.mp (r.dom l b a h)
    exact key_mem (mem_less.mpr ⟨hp, fun q => hn ⟨l, b, by have h2 : w.ρ l b = some a := h; rw [h2, ← e, q]⟩⟩) e
  free := r.free
theorem Ext.less {pu : Bool} {w w2 : WD} {I : Addr} {it : Obj} (e : Ext pu (w.more I it) w2) (hI : I ∉ w.keys) : Ext pu w (w2.less I) where
  sub := e.sub
  new l b a h := by
    rcases e.new l b a h with h | h
    · exact .inl h
    · exact .inr fun z => h (.tail _ z)
  pers p hp hn := mem_less.mpr ⟨e.pers p (.tail _ hp) hn, fun q => hI (q ▸ mem_keys hp)⟩
  kin a ha := by
    obtain ⟨p, hp, q⟩ := List.mem_map.mp (e.kin a (.tail _ ha))
    exact key_mem (mem_less.mpr ⟨hp, fun z => hI (by rw [← z, q]; exact ha)⟩) q
  pure z p hp := mem_less.mpr ⟨e.pure z p (.tail _ hp), fun q => hI (q ▸ mem_keys hp)⟩
/-- a turn's end -/
def loopS (Q : FV → List (Str × V) → MH → Prop) (G : List (Str × V) → MH → Prop) : FV → List (Str × V) → MH → Prop
  | .next, ml, H => G ml H
  | .cont, ml, H => G ml H
  | .brk, ml, H => Q .next ml H
  | .ret v, ml, H => Q (.ret v) ml H
section
variable {M : Amb} {d : Nat} {A : Around} {base h₀ : Heap} {outer : List Env} {env : Env} {L : Addr} {m : Str → Option Value} {cl : List (Str × Loc)} {ml : List (Str × V)} {s : Shared} {wd : WD} {H : MH}
theorem CX.go2 (c : CX M d A base h₀ outer env env L m m cl ml s wd H) (hl : env.locals = L) {wd' : WD} {H' : MH} {m' : Str → Option Value} {ml' : List (Str × V)} {h' : Heap} {tk' : Tok} (F : Fr h₀ L h' m') (N : News h₀ L h' wd'.news) (e : Ext M.pu wd wd') (R : Rel M.K M.prog M.w wd' H')
    (lr : ∀ x v, ml'.lookup x = some v → ∃ v', m' x = some v' ∧ VR M.K wd' v v') : CX M d A base h₀ outer env env L m' m' cl ml' { s with heap := h', toks := tk' } wd' H' :=
  { c with
    F := F
    N := N
    loc := .inl ⟨hl, rfl⟩
    lr := lr
    cr := fun x l hx => let ⟨a, h1, h2⟩ := c.cr x l hx; ⟨a, h1, e.sub _ _ _ h2⟩
    rel := R }
theorem for_core {x : Str} {body : List Stmt} {sc : Scope} {Q : FV → List (Str × V) → MH → Prop} {Qm : Flow → Shared → Prop} (hs : env.scope = sc) (hl : env.locals = L) (c : CX M d A base h₀ outer env env L m m cl ml s wd H)
    {I : Addr} {fp : List Addr} {n : Nat} {P : Nat → Value → Prop} {St : Nat → Heap → Prop} (W : Walks M.prog M.w A I fp [I] n P St) (hI : I ∉ wd.keys) (hIL : I ≠ L) (hI0 : h₀.get? I = none)
    (hfp : ∀ b ∈ fp, b = I ∨ ∃ o, (b, o) ∈ wd.news ∧ ¬ wd.im b) (hit : ∀ i h, St i h → ∃ it : Obj, h.get? I = some it ∧ it.cls ≠ .type "tuple") (hst : St 0 s.heap) (xv : Nat → V)
    (hP : ∀ i v wd', P i v → Ext M.pu wd wd' → VR M.K wd' (xv i) v) (G : Nat → List (Str × V) → MH → Prop) (h0 : G 0 ml H)
    (step : ∀ i ml₁ H₁, i < n → G i ml₁ H₁ → TS M d sc cl ((x, xv i) :: ml₁) H₁ body (loopS Q (G (i + 1)))) (hend : ∀ ml' H', G n ml' H' → Q .next ml' H')
    (k : ∀ f f' ml' H' wd' h' tk' m', Q f ml' H' → Ext M.pu wd wd' → FR M.K wd' f f' → CX M d A base h₀ outer env env L m' m' cl ml' { s with heap := h', toks := tk' } wd' H' → Qm f' { s with heap := h', toks := tk' }) :
    LoopAtV M.prog M.w A h₀ env x body Qm (fun _ _ => False) (.ref I) s := by
  have hfpL : env.locals ∉ fp := fun hm => by
    rcases hfp _ hm with e | ⟨o, h1, _⟩
    · exact hIL (e ▸ hl)
    · exact (c.N _ h1).2.1 hl
  refine ⟨I, fp, [I], n, P, St, m, wd.news, fun i m₁ news₁ => ∃ ml₁ H₁ ρ₁, G i ml₁ H₁ ∧ Rel M.K M.prog M.w ⟨ρ₁, news₁⟩ H₁ ∧ Ext M.pu wd ⟨ρ₁, news₁⟩ ∧ ∀ y v, ml₁.lookup y = some v → ∃ v', m₁ y = some v' ∧ VR M.K ⟨ρ₁, news₁⟩ v v', rfl, W, hfpL, ?_, ?_, hst, by rw [hl]; exact c.F, by rw [hl]; exact c.N, ?_, ?_, ?_⟩
  · intro b hb
    rw [List.mem_singleton.mp hb]
    exact hI0
  · intro p hp hb
    exact hI (List.mem_singleton.mp hb ▸ mem_keys hp)
  · exact ⟨ml, H, wd.ρ, h0, c.rel, Ext.refl _, c.lr⟩
  · rintro i v m₁ news₁ s₁ own ⟨hh', tk', rfl⟩ hin hPv ⟨ml₁, H₁, ρ₁, hG, R₁, E₁, lr₁⟩ hoff hown hget hall hst' F₁ N₁
    rw [hl] at F₁ N₁ ⊢
    obtain ⟨it, hit1, hit2⟩ := hit _ _ hst'
    have hI1 : I ∉ (⟨ρ₁, news₁⟩ : WD).keys := fun hm => by
      obtain ⟨p, hp, e⟩ := List.mem_map.mp hm
      exact hoff p hp (by rw [e]; exact List.mem_singleton.mpr rfl)
    have Em : Ext M.pu (⟨ρ₁, news₁⟩ : WD) ((⟨ρ₁, news₁⟩ : WD).more I it) := Ext.more _ _ _
    have N₂ : News h₀ L hh' ((⟨ρ₁, news₁⟩ : WD).more I it).news := fun p hp => by
      rcases List.mem_cons.mp hp with rfl | hp
      · exact ⟨hit1, hIL, hI0⟩
      · exact N₁ _ (List.mem_append_right _ hp)
    have c₁ := c.go2 (tk' := tk') (ml' := (x, xv i) :: ml₁) (H' := H₁) (wd' := (⟨ρ₁, news₁⟩ : WD).more I it) hl F₁ N₂ (E₁.trans Em) (R₁.more it hI1) (fun y u hy => by
      rw [List.lookup_cons] at hy
      by_cases q : y = x
      · subst q
        rw [show (y == y) = true from beq_self_eq_true y] at hy
        cases hy
        exact ⟨v, by rw [if_pos rfl], hP i v _ hPv (E₁.trans Em)⟩
      · have q' : (y == x) = false := by simpa using q
        rw [q'] at hy
        obtain ⟨u', h1, h2⟩ := lr₁ y u hy
        exact ⟨u', by rw [if_neg q]; exact h1, h2.ext _ Em⟩)
    refine step i ml₁ H₁ hin hG hs hl c₁ fun f f' ml' H' wd' h' tk2 m' q x2 r c' => ?_
    have nI : ¬ ((⟨ρ₁, news₁⟩ : WD).more I it).im I := fun ⟨l, b, hb⟩ => hI1 (R₁.dom l b I hb)
    have hI2 : (I, it) ∈ wd'.news := x2.pers _ (.head _) nI
    have nI2 : ¬ wd'.im I := x2.im (.head _) nI
    have fin : G (i + 1) ml' H' → LoopStepU h₀ L [I] own (fun m₁ news₁ => ∃ ml₁ H₁ ρ₁, G (i + 1) ml₁ H₁ ∧ Rel M.K M.prog M.w ⟨ρ₁, news₁⟩ H₁ ∧ Ext M.pu wd ⟨ρ₁, news₁⟩ ∧ ∀ y v, ml₁.lookup y = some v → ∃ v', m₁ y = some v' ∧ VR M.K ⟨ρ₁, news₁⟩ v v') { s with heap := hh', toks := tk' } .next { s with heap := h', toks := tk2 } := fun g => by
      refine ⟨rfl, h', tk2, m', (wd'.less I).news, rfl, c'.F, fun p hp => ?_, fun p hp hb => ?_, ml', H', wd'.ρ, g, c'.rel.less hI2 hit2 nI2, E₁.trans (Ext.less x2 hI1), fun y u hy => ?_⟩
      · rcases List.mem_append.mp hp with hp | hp
        · have e2 := hget p hp
          rcases hfp _ (hown p hp) with e | ⟨o, h1, h2⟩
          · have : p = (I, it) := by
              have e3 : hh'.get? p.1 = some p.2 := e2
              rw [e, hit1] at e3
              exact Prod.ext e (Option.some.inj e3).symm
            rw [this]; exact c'.N _ hI2
          · have h3 := E₁.pers _ h1 h2
            have e3 : hh'.get? p.1 = some p.2 := e2
            have e4 := (N₂ _ (.tail _ h3)).1
            have : p = (p.1, o) := by
              refine Prod.ext rfl ?_
              have : hh'.get? p.1 = some o := e4
              rw [e3] at this
              exact Option.some.inj this
            rw [this]
            exact c'.N _ (x2.pers _ (.tail _ h3) (Em.im (mem_keys h3) (E₁.im (mem_keys h1) h2)))
        · exact c'.N _ (mem_less.mp hp).1
      · exact (mem_less.mp hp).2 (List.mem_singleton.mp hb)
      · obtain ⟨u', h1, h2⟩ := c'.lr y u hy
        exact ⟨u', h1, h2.vex _ (Vex.less c'.rel.nod hI2 hit2)⟩
    cases r with
    | next => exact .next (fin q)
    | cont => exact .cont (fin q)
    | brk => exact .brk (k _ _ ml' H' wd' h' tk2 m' q ((E₁.trans Em).trans x2) .next c')
    | ret r => exact .ret (k _ _ ml' H' wd' h' tk2 m' q ((E₁.trans Em).trans x2) (.ret r) c')
  · rintro h' tk m' news' F' N' hoff ⟨ml₁, H₁, ρ₁, hG, R₁, E₁, lr₁⟩
    rw [hl] at F' N'
    exact k _ _ ml₁ H₁ ⟨ρ₁, news'⟩ h' tk m' (hend _ _ hG) E₁ .next (c.go2 hl F' N' E₁ R₁ lr₁)
end
theorem passes_false {prog : Program} {w : World} {A : Around} {env : Env} : PassesOwn (model prog w) A env (fun _ _ => False) := fun _ _ h => h.elim
section
variable {M : Amb} {d : Nat} {sc : Scope} {cl : List (Str × Loc)} {ml : List (Str × V)} {H : MH}
theorem T1_range {x rn : Str} {xp rp cp pos : Pos} {arg : Expr} {body : List Stmt} {Q : FV → List (Str × V) → MH → Prop}
    (he : ∀ env, eval (.Call (.Name rn rp) [arg] [] cp) env = (do callWith cp (← eval (.Name rn rp) env) [] (backTo cp (starEach [arg] env)) (backToKw cp (keywordEach [] env))))
    (ha : ∀ env, starEach [arg] env = [(false, eval arg env)]) (hk : sc.names.lookup x = some .local) (hse : ∀ env v, foldedSetIterable (.Call (.Name rn rp) [arg] [] cp) env v = pure v) (G : Nat → List (Str × V) → MH → Prop)
    (h : TE M d sc cl ml H (.Name rn rp) fun v H1 => v = .ty "range" ∧ TE M d sc cl ml H1 arg fun iv H2 => ∃ n : Nat, iv = .int n ∧ n ≤ 1000 ∧ G 0 ml H2 ∧
      (∀ i ml₁ H₁, i < n → G i ml₁ H₁ → TS M d sc cl ((x, .int i) :: ml₁) H₁ body (loopS Q (G (i + 1)))) ∧ ∀ ml' H', G n ml' H' → Q .next ml' H') :
    T1 M d sc cl ml H (.For (.Name x xp) (.Call (.Name rn rp) [arg] [] cp) body [] pos) Q := by
  intro A base h₀ outer env L m s wd Qm hs hl c k
  have hkx : env.kindOf x = some .local := by unfold Env.kindOf; rw [hs]; exact hk
  refine For_invV h₀ hkx (by rw [c.ek]; rfl) ?_ (hse env) passes_false
  refine Call_ (h hs c fun f f' H1 w1 h1 t1 q1 x1 r1 c1 => ?_) (he _)
  obtain ⟨rfl, q1⟩ := q1
  cases r1
  refine PyProof.Rows.callWith_type1 ?_ (ha _) rfl
  rw [ha]
  show wpAny _ _ (spliced (backTo cp (argTrees [arg] env))) _ _ _
  rw [back_args]
  refine TEs_cons (Q := fun vs H2 => ∃ iv, vs = [iv] ∧ ∃ n : Nat, iv = V.int n ∧ n ≤ 1000 ∧ G 0 ml H2 ∧ (∀ i ml₁ H₁, i < n → G i ml₁ H₁ → TS M d sc cl ((x, .int i) :: ml₁) H₁ body (loopS Q (G (i + 1)))) ∧ ∀ ml' H', G n ml' H' → Q .next ml' H') (q1.mono fun iv H2 q => TEs_nil ⟨iv, rfl, q⟩) hs c1 fun vs vs' H2 w2 h2 t2 q2 x2 r2 c2 => ?_
  obtain ⟨iv, rfl, n, rfl, hz, g0, step, hend⟩ := q2
  obtain ⟨i', rfl, r3⟩ := one_of r2
  obtain ⟨t9, rfl⟩ : ∃ t, i' = .int (n : Int) t := by cases r3; exact ⟨_, rfl⟩
  refine range1_rows c2.F c2.N fun h' tk t₁ u₁ v₁ hr F' N' hkeep => ?_
  have hrs : Builtin.Range.rangeSize 0 (n : Int) 1 = (n : Int) := by
    unfold Builtin.Range.rangeSize
    simp
    omega
  have hsm : Builtin.Range.small 0 (n : Int) 1 = true := by
    unfold Builtin.Range.small Builtin.Range.rangeFitsLong
    rw [hrs]
    simp
    omega
  refine wpAny_pyIter_range hr hsm ?_
  have hIlt : ∀ p ∈ w2.news, p.1 < h'.objs.size := fun p hp => Heap.lt_size (N' p hp).1
  have hL : L < h'.objs.size := F'.ns.lt
  have c3 : CX M d A base h₀ outer env env L m m cl ml { s with heap := h'.push { cls := .type "range_iterator", data := .fields #[rawInt 0, rawInt (Builtin.Range.rangeSize 0 (n : Int) 1), rawInt 1] }, toks := tk } w2 H2 := c2.go (F'.push _) (N'.grown fun _ _ e => Heap.get?_push_of_some _ e) (Ext.refl _) c2.rel
  refine for_core hs hl c3 (Walks.range c.hh _ 0 1 n) (fresh_of hIlt) (Nat.ne_of_gt hL) ?_ (fun b hb => .inl (List.mem_singleton.mp hb)) (fun i h st => ⟨_, st, by simp⟩) ?_ (fun i => .int i) (fun i v wd' hP _ => ?_) G g0 step hend fun f f' ml' H' wd' h' tk' m' q x r c' => k f f' ml' H' wd' h' tk' m' q ((x1.trans x2).trans x) r c'
  · cases q : h₀.get? h'.objs.size with
    | none => rfl
    | some o => exact absurd (Heap.lt_size (F'.keep _ _ q)) (Nat.lt_irrefl _)
  · show IsRangeIter _ _ _ _ _
    rw [hrs]
    simpa using Heap.get?_push_size _ rfl
  · obtain ⟨t, rfl⟩ := hP
    have : (0 : Int) + (i : Int) * 1 = (i : Int) := by omega
    rw [this]
    exact .int _ _
end
section
variable {M : Amb} {d : Nat} {sc : Scope} {cl : List (Str × Loc)} {ml : List (Str × V)} {H : MH}
theorem T1_unpack2 {a b : Str} {pa pb tp pos : Pos} {n : Nat} {value : Expr} {Q : FV → List (Str × V) → MH → Prop}
    (hw : ∀ env, swapsWithSole [Expr.Tuple [.Name a pa, .Name b pb] n tp] value pos.line env = pure false) (hsw : ∀ env, swappedStores [Expr.Tuple [.Name a pa, .Name b pb] n tp] value env = pure none)
    (ha : sc.names.lookup a = some .local) (hb : sc.names.lookup b = some .local)
    (h : TE M d sc cl ml H value fun v H' => ∃ x y, v = .tup [x, y] ∧ Q .next ((b, y) :: (a, x) :: ml) H') : T1 M d sc cl ml H (.Assign [Expr.Tuple [.Name a pa, .Name b pb] n tp] value pos) Q := by
  intro A base h₀ outer env L m s wd Qm hs hl c k
  refine Assign_Tuple (h hs c fun v v' H1 w1 h1 t1 q1 x1 r1 c1 => ?_) (hw _) (hsw _)
  obtain ⟨x, y, rfl, q⟩ := q1
  obtain ⟨ad, vs, rfl, e1, e2, e3⟩ := isTup_of c1 r1
  obtain ⟨x', y', rfl, rx, ry⟩ := two_of e1
  refine assign_Tuple_tuple c1.hh e2 rfl rfl fun h' he => ?_
  have c2 := c1.go (tk' := t1) (c1.F.extBut he (Nat.le_refl _)) (c1.N.extBut he (Nat.le_refl _)) (Ext.refl _) c1.rel
  refine assignInOrder_cons (wpAny_assign_Name (wp_store c2 hl rx (by rw [hs]; exact ha) fun h2 t2 m2 c3 => ?_))
  refine assignInOrder_cons (wpAny_assign_Name (wp_store c3 hl ry (by rw [hs]; exact hb) fun h3 t3 m3 c4 => ?_))
  exact assignInOrder_nil (k _ _ _ H1 w1 h3 t3 m3 q x1 .next c4)
theorem T1_unpack3 {a b e : Str} {pa pb pe tp pos : Pos} {n : Nat} {value : Expr} {Q : FV → List (Str × V) → MH → Prop}
    (hw : ∀ env, swapsWithSole [Expr.Tuple [.Name a pa, .Name b pb, .Name e pe] n tp] value pos.line env = pure false) (hsw : ∀ env, swappedStores [Expr.Tuple [.Name a pa, .Name b pb, .Name e pe] n tp] value env = pure none)
    (ha : sc.names.lookup a = some .local) (hb : sc.names.lookup b = some .local) (he : sc.names.lookup e = some .local)
    (h : TE M d sc cl ml H value fun v H' => ∃ x y z, v = .tup [x, y, z] ∧ Q .next ((e, z) :: (b, y) :: (a, x) :: ml) H') : T1 M d sc cl ml H (.Assign [Expr.Tuple [.Name a pa, .Name b pb, .Name e pe] n tp] value pos) Q := by
  intro A base h₀ outer env L m s wd Qm hs hl c k
  refine Assign_Tuple (h hs c fun v v' H1 w1 h1 t1 q1 x1 r1 c1 => ?_) (hw _) (hsw _)
  obtain ⟨x, y, z, rfl, q⟩ := q1
  obtain ⟨ad, vs, rfl, e1, e2, e3⟩ := isTup_of c1 r1
  obtain ⟨x', y', z', rfl, rx, ry, rz⟩ := three_of e1
  refine assign_Tuple_tuple c1.hh e2 rfl rfl fun h' he' => ?_
  have c2 := c1.go (tk' := t1) (c1.F.extBut he' (Nat.le_refl _)) (c1.N.extBut he' (Nat.le_refl _)) (Ext.refl _) c1.rel
  refine assignInOrder_cons (wpAny_assign_Name (wp_store c2 hl rx (by rw [hs]; exact ha) fun h2 t2 m2 c3 => ?_))
  refine assignInOrder_cons (wpAny_assign_Name (wp_store c3 hl ry (by rw [hs]; exact hb) fun h3 t3 m3 c4 => ?_))
  refine assignInOrder_cons (wpAny_assign_Name (wp_store c4 hl rz (by rw [hs]; exact he) fun h4 t4 m4 c5 => ?_))
  exact assignInOrder_nil (k _ _ _ H1 w1 h4 t4 m4 q x1 .next c5)
theorem T1_while {test : Expr} {body : List Stmt} {pos : Pos} {Q : FV → List (Str × V) → MH → Prop} (G : Nat → List (Str × V) → MH → Prop) (n : Nat) (h0 : G n ml H)
    (h : ∀ n ml H, G n ml H → TB M d sc cl ml H test fun b H1 => if b = true then TS M d sc cl ml H1 body (loopS Q fun ml' H' => ∃ m, m < n ∧ G m ml' H') else Q .next ml H1) :
    T1 M d sc cl ml H (.While test body [] pos) Q := by
  intro A base h₀ outer env L m s wd Qm hs hl c k
  refine wpAny_While (codeAny_whileLoop (fun n s' => ∃ ml' H' wd' h' tk' m', G n ml' H' ∧ Ext M.pu wd wd' ∧ CX M d A base h₀ outer env env L m' m' cl ml' { s with heap := h', toks := tk' } wd' H' ∧ s' = { s with heap := h', toks := tk' }) ?_ n ⟨ml, H, wd, s.heap, s.toks, m, h0, Ext.refl _, c.tok _, rfl⟩)
  rintro n s' ⟨ml', H', wd', h', tk', m', hG, E, c', rfl⟩
  refine wpAny_mono (h n ml' H' hG hs c' (Qm := _) fun b a H1 w1 h1 t1 q1 x1 r1 c1 => ?_) (fun _ _ y => y) fun _ _ y => y.elim
  cases r1
  cases b with
  | false =>
    show wpAny _ _ (execs [] env) _ _ _
    exact wpAny_execs_nil (k _ _ ml' H1 w1 h1 t1 m' q1 (E.trans x1) .next c1)
  | true =>
    refine wpAny_mono (q1 hs hl c1 (Qm := _) fun f f' ml2 H2 w2 h2 t2 m2 q2 x2 r2 c2 => ?_) (fun _ _ y => y) fun _ _ y => y.elim
    cases r2 with
    | next => obtain ⟨j, hj, g⟩ := q2; exact ⟨j, hj, ml2, H2, w2, h2, t2, m2, g, (E.trans x1).trans x2, c2, rfl⟩
    | cont => obtain ⟨j, hj, g⟩ := q2; exact ⟨j, hj, ml2, H2, w2, h2, t2, m2, g, (E.trans x1).trans x2, c2, rfl⟩
    | brk => exact k _ _ ml2 H2 w2 h2 t2 m2 q2 ((E.trans x1).trans x2) .next c2
    | ret r => exact k _ _ ml2 H2 w2 h2 t2 m2 q2 ((E.trans x1).trans x2) (.ret r) c2
/-- a cell variable is stored -/
theorem T1_assign_cell (hpu : M.pu = false) {x : Str} {l : Loc} {xp pos : Pos} {value : Expr} {Q : FV → List (Str × V) → MH → Prop} (hw : ∀ env, swapsWith value (some (.Name x xp)) pos.line env = pure false) (hk : sc.names.lookup x = some .cell)
    (hl : cl.lookup x = some l) (h : TE M d sc cl ml H value fun v H' => (∃ o, H'.c l = some (.var o)) ∧ Q .next ml (H'.put l (.var (some v)))) : T1 M d sc cl ml H (.Assign [.Name x xp] value pos) Q := by
  intro A base h₀ outer env L m s wd Qm hs hL c k
  refine wpAny_Assign_Name (h hs c fun v v' H1 w1 h1 t1 q1 x1 r1 c1 => ?_) (hw _)
  obtain ⟨⟨ov, hc⟩, q⟩ := q1
  obtain ⟨a, g1, g2⟩ := c1.cr x l hl
  obtain ⟨a', o, ov', e1, e2, e3, e4⟩ := c1.rel.cells l _ hc
  obtain rfl : a = a' := Option.some.inj (g2.symm.trans e1)
  have hget := (c1.N _ e2)
  refine wpAny_storeName_cell c1.ek (by unfold Env.kindOf; rw [hs]; exact hk) g1 ⟨o, hget.1, e3⟩ fun h' hc' hsb => ?_
  obtain ⟨o', ho', hd'⟩ := hc'
  obtain ⟨news', U, E, R⟩ := Rel.set hpu c1.rel (o' := o') (c := .var (some v)) g2 e2 fun news' hm' hp E => ⟨a, o', some v', E.sub _ _ _ g2, hm', hd', v', rfl, r1.ext _ E⟩
  refine k _ _ ml _ ⟨w1.ρ, news'⟩ h' t1 m q (x1.trans E) .next (c1.go (c1.F.change hsb hget.2.1 hget.2.2) ?_ E R)
  obtain ⟨pre, post, hw', rfl, p1, p2⟩ := U.split
  have N := c1.N
  rw [hw'] at N
  intro p hp
  rcases List.mem_append.mp hp with q | q
  · have := N _ (List.mem_append_left _ q)
    exact ⟨hsb.2 _ (p1 _ q) ▸ this.1, this.2⟩
  · rcases List.mem_cons.mp q with rfl | q
    · exact ⟨ho', hget.2⟩
    · have := N _ (List.mem_append_right _ (.tail _ q))
      exact ⟨hsb.2 _ (p2 _ q) ▸ this.1, this.2⟩
end
theorem VRs.get' {K : Frag} {w : WD} : ∀ {xs : List V} {vs : List Value} {i : Nat} {v : Value}, VRs K w xs vs → vs[i]? = some v → ∃ x, xs[i]? = some x ∧ VR K w x v
  | _, _, 0, _, .cons h _, e => by cases e; exact ⟨_, rfl, h⟩
  | _, _, i + 1, _, .cons _ r, e => by
    simp only [List.getElem?_cons_succ] at e ⊢
    exact r.get' e
  | _, _, _, _, .nil, e => by simp at e
section
variable {M : Amb} {d : Nat} {sc : Scope} {cl : List (Str × Loc)} {ml : List (Str × V)} {H : MH}
theorem T1_forsplit {x : Str} {xp apos cp pos : Pos} {o : Expr} {name : Str} {body : List Stmt} {pl : Env → Sem Bool} {Q : FV → List (Str × V) → MH → Prop}
    (he : ∀ env, eval (.Call (.Attribute o name apos) [] [] cp) env = (do
      let ov ← eval o env
      standAt apos.atName
      let (f, first) ← holding [ov] (getMethod ov name (pl env))
      callWith cp f first (backTo cp (starEach [] env)) []))
    (slot : Slot "str" name "str.split") (pa : PlainAttrs "str") (hty : typeOf (.builtin "str.split") = pure (.type "method_descriptor"))
    (hk : sc.names.lookup x = some .local) (hse : ∀ env v, foldedSetIterable (.Call (.Attribute o name apos) [] [] cp) env v = pure v) (ys : List Str) (G : Nat → List (Str × V) → MH → Prop)
    (h : TE M d sc cl ml H o fun v H1 => ∃ w, v = .str w ∧ w.length ≤ 1000 ∧ Txt.words w = ys ∧ G 0 ml H1 ∧
      (∀ i ml₁ H₁, i < ys.length → G i ml₁ H₁ → TS M d sc cl ((x, .str (ys.getD i "")) :: ml₁) H₁ body (loopS Q (G (i + 1)))) ∧ ∀ ml' H', G ys.length ml' H' → Q .next ml' H') :
    T1 M d sc cl ml H (.For (.Name x xp) (.Call (.Attribute o name apos) [] [] cp) body [] pos) Q := by
  intro A base h₀ outer env L m s wd Qm hs hl c k
  have hkx : env.kindOf x = some .local := by unfold Env.kindOf; rw [hs]; exact hk
  refine For_invV h₀ hkx (by rw [c.ek]; rfl) ?_ (hse env) passes_false
  refine MethodCall_ (h hs c fun f f' H1 w1 h1 t1 q1 x1 r1 c1 => ?_) (he _)
  obtain ⟨wd0, rfl, hz, hw, g0, step, hend⟩ := q1
  have ty : V.isTy H1 (.str wd0) "str" := rfl
  obtain ⟨i1, i2⟩ := isTy_of c1 r1 ty
  refine getMethod_builtin i1 pa slot hty i2 ?_
  dsimp only
  rw [show starEach [] env = argTrees [] env by rfl, back_args]
  refine Calls.callWith_builtin (args_any _ _) (evalArgs_trees ?_)
  refine wpAny_pure ?_
  cases r1
  refine splitN0 c1.F c1.N (fun p h' tk e F' N' => ?_) (Nat.le_trans (Nat.add_le_add_right hz 2) (by decide))
  have r := vrs_strs (M := M) (w := w1) p
  rw [e, hw] at r
  have hl2 : h'.IsList h1.objs.size (strValues p).toArray := ⟨_, (N' _ (.head _)).1, rfl, 0, rfl⟩
  have nk := c1.fresh
  have c2 := c1.go (tk' := tk) F' N' (Ext.more _ _ _) (c1.rel.more _ nk)
  refine wpAny_pyIter_list (s := { s with heap := h', toks := tk }) hl2 ?_
  have hIlt : ∀ p' ∈ (w1.more h1.objs.size (listOf (strValues p).toArray 0)).news, p'.1 < h'.objs.size := fun p hp => Heap.lt_size (c2.N p hp).1
  have hL : L < h'.objs.size := F'.ns.lt
  have hax : h1.objs.size < h'.objs.size := Heap.lt_size (N' _ (.head _)).1
  have c3 := c2.go (tk' := tk) (c2.F.push { cls := .type "list_iterator", data := .fields #[.ref h1.objs.size, .int 0 0] }) (c2.N.grown fun _ _ e => Heap.get?_push_of_some _ e) (Ext.refl _) c2.rel
  have hlen : (strValues p).toArray.size = ys.length := by
    rw [List.size_toArray, r.length, List.length_map]
  have nim : ¬ (w1.more h1.objs.size (listOf (strValues p).toArray 0)).im h1.objs.size := fun ⟨l, b, hb⟩ => nk (c1.rel.dom l b _ hb)
  have W := Walks.list (prog := M.prog) (w := M.w) c.hh h'.objs.size h1.objs.size (Nat.ne_of_lt hax) (strValues p).toArray
  rw [hlen] at W
  refine for_core hs hl c3 W (fresh_of hIlt) (Nat.ne_of_gt hL) ?_ (fun b hb => ?_) (fun i h st => ?_) ⟨⟨_, Heap.get?_push_size _ rfl, rfl, rfl⟩, hl2.push _⟩ (fun i => .str (ys.getD i "")) (fun i v wd' hP E' => ?_) G g0 step hend fun f f' ml' H' wd' h' tk' m' q x r c' => k f f' ml' H' wd' h' tk' m' q ((x1.trans (Ext.more _ _ _)).trans x) r c'
  · cases q : h₀.get? h'.objs.size with
    | none => rfl
    | some o => exact absurd (Heap.lt_size (F'.keep _ _ q)) (Nat.lt_irrefl _)
  · rcases List.mem_cons.mp hb with rfl | hb
    · exact .inl rfl
    · rw [List.mem_singleton.mp hb]
      exact .inr ⟨_, .head _, nim⟩
  · obtain ⟨⟨o, h1, h2, _⟩, _⟩ := st
    exact ⟨o, h1, by rw [h2]; decide⟩
  · have hP' : (strValues p)[i]? = some v := by simpa using hP
    obtain ⟨y, y1, y2⟩ := r.get' hP'
    rw [List.getElem?_map] at y1
    cases hy : ys[i]? with
    | none => rw [hy] at y1; cases y1
    | some z =>
      rw [hy] at y1; cases y1
      have : ys.getD i "" = z := by rw [List.getD_eq_getElem?_getD, hy]; rfl
      rw [this]
      exact (y2.vex _ (Ext.more (pu := true) _ _ _).vex).ext _ E'
end
/-- evaluated pairs of a display -/
inductive PRs (K : Frag) (w : WD) : List (Str × V) → List (Value × Value) → Prop
  | nil : PRs K w [] []
  | cons {k : Str} {t : Tok} {x : V} {v : Value} {es : List (Str × V)} {ds : List (Value × Value)} : VR K w x v → PRs K w es ds → PRs K w ((k, x) :: es) ((.str k t, v) :: ds)
theorem PRs.ext {K : Frag} {w w' : WD} (e : Vex w w') : ∀ {es : List (Str × V)} {ds : List (Value × Value)}, PRs K w es ds → PRs K w' es ds
  | _, _, .nil => .nil
  | _, _, .cons h r => .cons (VR.vex K e h) (r.ext e)
theorem PRs.keys {K : Frag} {w : WD} : ∀ {es : List (Str × V)} {ds : List (Value × Value)}, PRs K w es ds → allStrKeys ds = true
  | _, _, .nil => rfl
  | _, _, .cons _ r => r.keys
theorem PRs.names {K : Frag} {w : WD} : ∀ {es : List (Str × V)} {ds : List (Value × Value)}, PRs K w es ds → (strPairs ds).map (·.1) = es.map (·.1)
  | _, _, .nil => rfl
  | _, _, .cons _ r => by show _ :: _ = _; rw [r.names]; rfl
theorem PRs.dr {K : Frag} {w : WD} : ∀ {es : List (Str × V)} {ds : List (Value × Value)}, PRs K w es ds → DR K w es (strPairs ds)
  | _, _, .nil => .nil
  | _, _, .cons h r => .cons h r.dr
abbrev TEd (M : Amb) (d : Nat) (sc : Scope) (cl : List (Str × Loc)) (ml : List (Str × V)) (H : MH) (keys : List (Option Expr)) (values : List Expr) (pos : Pos) (Q : List (Str × V) → MH → Prop) : Prop :=
  TG PRs M d sc cl ml H (fun env => evalPairs (pairTrees keys values env pos)) Q
section
variable {M : Amb} {d : Nat} {sc : Scope} {cl : List (Str × Loc)} {ml : List (Str × V)} {H : MH}
theorem TEd_nil {pos : Pos} {Q : List (Str × V) → MH → Prop} (h : Q [] H) : TEd M d sc cl ml H [] [] pos Q := by
  intro A base h₀ outer fenv env L m mm s wd Qm hs c k
  exact evalPairs_nil (k _ _ H wd s.heap s.toks h (Ext.refl _) .nil (c.tok _))
theorem TEd_cons {x : Str} {n : Nat} {kp pos : Pos} {keys : List (Option Expr)} {e : Expr} {values : List Expr} {Q : List (Str × V) → MH → Prop} (h : TE M d sc cl ml H e fun v H1 => TEd M d sc cl ml H1 keys values pos fun es H2 => Q ((x, v) :: es) H2) :
    TEd M d sc cl ml H (some (.Constant (.str x) n kp) :: keys) (e :: values) pos Q := by
  intro A base h₀ outer fenv env L m mm s wd Qm hs c k
  refine evalPairs_cons (wpAny_Constant_str ?_)
  refine wpAny_bind (h hs (c.tok (s.toks + 1)) fun v v' H1 w1 h1 t1 q1 x1 r1 c1 => wpAny_bind (wpAny_standAt (wpAny_pure (q1 hs c1 fun es ds H2 w2 h2 t2 q2 x2 r2 c2 => ?_))))
  exact k _ _ H2 w2 h2 t2 q2 (x1.trans x2) (.cons (r1.ext _ x2) r2) c2
theorem TE_dict {keys : List (Option Expr)} {values : List Expr} {pos : Pos} {l : Loc} {Q : V → MH → Prop} (hsl : strLits keys = true) (hall : keys.all (·.isSome) = true) (hlen : keys.length = values.length) (h0 : keys ≠ []) (hle : keys.length ≤ 15)
    (h : TEd M d sc cl ml H keys values pos fun es H1 => (es.map (·.1)).Nodup ∧ H1.free l ∧ Q (.cell l) (H1.add l (.dict es))) : TE M d sc cl ml H (.Dict keys values pos) Q := by
  intro A base h₀ outer fenv env L m mm s wd Qm hs c k
  refine kdn_str hsl c.F c.N c.T.nolimit hall hlen h0 hle fun dd h' o F' N' hlt hsys ho => ?_
  have nk : dd ∉ wd.keys := fresh_of hlt
  have c1 := c.go (tk' := s.toks) F' N' (Ext.more (pu := M.pu) wd dd o) (c.rel.more o nk)
  refine h hs c1 fun es ds H2 w2 h2 t2 q2 x2 r2 c2 => ?_
  obtain ⟨hnd, hf, q⟩ := q2
  have nim0 : ¬ (wd.more dd o).im dd := fun ⟨l, b, hb⟩ => nk (c.rel.dom l b _ hb)
  have hm := x2.pers (dd, o) (.head _) nim0
  have nim := x2.im (mem_keys (p := (dd, o)) (.head _)) nim0
  have hcls : o.cls ≠ .type "tuple" := by
    obtain ⟨es, ep, h1, h2, h3, h4, h5⟩ := ho
    rw [h1.1]; decide
  obtain ⟨g, U, hg⟩ := c2.rel.adopt hf hm nim hcls
  refine kdn_made_str c2.F c2.N U ho r2.keys (by rw [r2.names]; exact hnd) fun h3 o' F3 N3 ho' => ?_
  obtain ⟨hk, hp, hc⟩ := hg o'
  obtain ⟨E, R⟩ := hc (.dict es) fun w' hw hm' E => ⟨dd, o', _, hw, hm', hsys, ho', r2.dr.ext _ E⟩
  have E2 : Ext M.pu wd _ := Ext.adopt x2 nk (fun b => c2.rel.free l b hf) hk hp
  exact k _ _ _ _ h3 _ q E2 (.cell (name_at ..)) (c.go F3 N3 E2 R)
theorem TE_dict_nil {pos : Pos} {l : Loc} {Q : V → MH → Prop} (hf : H.free l) (h : Q (.cell l) (H.add l (.dict []))) : TE M d sc cl ml H (.Dict [] [] pos) Q := by
  intro A base h₀ outer fenv env L m mm s wd Qm hs c k
  refine newDict_K c.F c.N c.T.nolimit fun dd h' o F' N' hlt hsys ho _ _ _ => ?_
  have nk : dd ∉ wd.keys := fresh_of hlt
  have E : Ext M.pu wd ((wd.more dd o).name l false dd) := Ext.name (c.rel.free l false hf) nk
  exact k _ _ _ _ h' s.toks h E (.cell (name_at ..)) (c.go F' N' E (c.rel.name hf nk ⟨dd, o, [], name_at .., .head _, hsys, ho, .nil⟩))
end
section
variable {M : Amb} {d : Nat} {cl : List (Str × Loc)} {ml : List (Str × V)} {H : MH}
/-- a def with one cell variable -/
theorem CALL_cells {name qual : Str} {params : Arguments} {body : List Stmt} {scope : Scope} {dV kV doc pm cdv ct oc : Value} {an od : Option Addr} {osl : Array (Option Value)} {f : Addr} {xs : List V} {x : Str} {l : Loc} {binds : List (Str × V)} {lb : List (Str × V)} {cv : Option V} {Q : V → MH → Prop}
    (ho : M.K.lookup f = some ⟨oc, od, .func (fnOf name qual params body scope dV kV doc pm an cdv ct), osl⟩) (hcd : codeIn M.K cdv qual = true)
    (hb : ∀ (s : Shared) (wd : WD) (vals : List Value), VRs M.K wd xs vals → M.K.In s.heap → ∃ bs, BindsTo s (fnOf name qual params body scope dV kV doc pm an cdv ct) ⟨vals, []⟩ bs ∧ BR M.K wd binds bs)
    (hkind : (binds.all fun y => scope.names.lookup y.1 == some .local || scope.names.lookup y.1 == some .cell) = true)
    (hcf : ∀ n, cellsFrom n scope.names [] = [(x, n)]) (hco : scope.isCoroutine = false) (hgen : scope.isGenerator = false) (hk : scope.kind = .function)
    (hL : ∀ (wd : WD) (bs : List (Str × Value)) (L' : Addr), BR M.K wd binds bs → (∀ y u, lb.lookup y = some u → ∃ u', bindL (envOfC qual scope L' f cdv).kindOf bs (fun _ => none) y = some u' ∧ VR M.K wd u u') ∧
      (match cv with | some u => ∃ u', bindC (envOfC qual scope L' f cdv).kindOf bs (fun _ => none) x = some u' ∧ VR M.K wd u u' | none => True))
    (hl : H.free l) (h : TS M d scope [(x, l)] lb (H.add l (.var cv)) body (backS Q)) : CALL M (d + 1) cl ml H f xs Q := by
  intro A base h₀ outer fenv env L m mm s wd R xs' c r k
  obtain ⟨bs, hb1, hb2⟩ := hb s wd xs' r (c.X.keeps c.F.keep)
  obtain ⟨A₀, B⟩ := c.bel
  have hkind' : (bs.all fun y => scope.names.lookup y.1 == some .local || scope.names.lookup y.1 == some .cell) = true := by
    refine List.all_eq_true.mpr fun y hy => ?_
    have hm : y.1 ∈ binds.map (·.1) := by rw [← hb2.names]; exact List.mem_map_of_mem hy
    obtain ⟨z, hz, e⟩ := List.mem_map.mp hm
    rw [← e]
    exact List.all_eq_true.mp hkind z hz
  refine PySem.W.code_defC B c.F c.X c.N c.T c.hA c.ff c.fk ho hcd (by have := c.room; show _ < 1000; omega) hb1 hkind' (by rw [hcf]; simp) (fun g L' h₁ tk cells FG F' N' Y B' X' T' lt => ?_) hco hgen hk
  rw [hcf] at Y
  obtain ⟨o', rfl, hd⟩ := CellsAre.one Y
  obtain ⟨hl1, hl2⟩ := hL wd bs L' hb2
  have nk : L' + 1 ∉ wd.keys := fun hm => by
    obtain ⟨p, hp, e⟩ := List.mem_map.mp hm
    have := lt p hp
    rw [e] at this
    exact absurd this (Nat.not_lt_of_le (Nat.le_succ _))
  have E : Ext M.pu wd ((wd.more (L' + 1) o').name l false (L' + 1)) := Ext.name (c.rel.free l false hl) nk
  have R' : Rel M.K M.prog M.w ((wd.more (L' + 1) o').name l false (L' + 1)) (H.add l (.var cv)) := c.rel.name hl nk ⟨L' + 1, o', _, name_at .., .head _, hd, by
    cases cv with
    | none => trivial
    | some u => obtain ⟨u', e1, e2⟩ := hl2; exact ⟨u', e1, e2.ext _ E⟩⟩
  have C' : CX M d (A.deeper (envOfC qual scope L' f cdv)) base g (fenv :: outer) (envOfC qual scope L' f cdv) (envOfC qual scope L' f cdv) L' (bindL (envOfC qual scope L' f cdv).kindOf bs fun _ => none) (bindL (envOfC qual scope L' f cdv).kindOf bs fun _ => none) [(x, l)] lb { s with heap := h₁, toks := tk } ((wd.more (L' + 1) o').name l false (L' + 1)) (H.add l (.var cv)) :=
    { hA := Around.frames_deeper c.hA
      bel := ⟨_, B'⟩
      ff := rfl
      fk := hk
      F := F'
      N := N'
      X := X'
      Z := fun p hp => FG.keep _ _ (c.Z p hp)
      T := T'
      hh := c.hh
      room := by have := c.room; show A.depth + 1 + 4 * d ≤ 600; omega
      units := by have := c.units; show A.units + 3 + 20 * d ≤ 9000; omega
      ek := hk
      eg := rfl
      eb := rfl
      loc := .inl ⟨rfl, rfl⟩
      lr := fun y u hy => let ⟨u', e1, e2⟩ := hl1 y u hy; ⟨u', e1, e2.ext _ E⟩
      cr := fun y l' hy => by
        rw [List.lookup_cons] at hy
        cases q : (y == x) with
        | false => rw [q] at hy; cases hy
        | true =>
          rw [q] at hy; cases hy
          refine ⟨L' + 1, ?_, name_at ..⟩
          show (cellsFrom (L' + 1) scope.names []).lookup y = _
          rw [hcf, List.lookup_cons, q]
      rel := R' }
  refine wpAny_mono (h rfl rfl C' (Qm := fun fl s' => LeaveK h₀ L m g R (match fl with | .ret v => v | _ => .none) s') fun fl fl' ml' H' wd' h' tk' m' q x rr c' => ?_) (fun _ _ y => y) fun _ _ y => y.elim
  have fin : ∀ v v', Q v H' → VR M.K wd' v v' → LeaveK h₀ L m g R v' { s with heap := h', toks := tk' } := fun v v' qv rv =>
    ⟨L', m', wd'.news, c'.F, c'.N, fun Fb Nb => k v v' H' wd' h' tk' qv (E.trans x) rv (c.go Fb Nb (E.trans x) c'.rel)⟩
  cases rr with
  | ret rv => exact fin _ _ q rv
  | next => exact fin _ _ q .none
  | brk => exact q.elim
  | cont => exact q.elim
end
/- an entry without a name goes: any object that is no tuple's -/
def NoTup (it : Obj) : Prop := ∀ vs, it ≠ tupObj vs
theorem noTup_cls {it : Obj} (h : it.cls ≠ .type "tuple") : NoTup it := fun vs e => h (by rw [e])
theorem noTup_dict {it : Obj} {es ep} (h : it.data = .dict es ep) : NoTup it := fun vs e => by rw [e] at h; cases h
theorem Vex.less' {w : WD} {I : Addr} {it : Obj} (hn : w.keys.Nodup) (hm : (I, it) ∈ w.news) (ht : NoTup it) : Vex w (w.less I) :=
  ⟨fun _ _ _ h => h, fun a vs h n => ⟨mem_less.mpr ⟨h, fun e => by
    have e : a = I := e
    subst e
    exact ht vs (nodup_eq hn hm h)⟩, n⟩⟩
theorem Rel.less' {K : Frag} {prog : Program} {wo : World} {w : WD} {H : MH} (r : Rel K prog wo w H) {I : Addr} {it : Obj} (hm : (I, it) ∈ w.news) (ht : NoTup it) (hn : ¬ w.im I) : Rel K prog wo (w.less I) H where
  cells l c h := (r.cells l c h).keep (Vex.less' r.nod hm ht) fun b a o h1 h2 => mem_less.mpr ⟨h2, fun e => hn ⟨l, b, by rw [h1]; exact congrArg some e⟩⟩
  inj := r.inj
  nod := (List.filter_sublist.map _).nodup r.nod
  dom l b a h := by
    obtain ⟨p, hp, e⟩ := List.mem_map.mp (r.dom l b a h)
    exact key_mem (mem_less.mpr ⟨hp, fun q => hn ⟨l, b, by have h2 : w.ρ l b = some a := h; rw [h2, ← e, q]⟩⟩) e
  free := r.free
theorem Ext.weak {pu : Bool} {w w' : WD} (e : Ext true w w') : Ext pu w w' := ⟨e.sub, e.new, e.pers, e.kin, fun _ => e.pure rfl⟩
def Amb.pur (M : Amb) : Amb := { M with pu := true }
def relS (scope sc : Scope) : Scope := { scope with names := scope.names.map fun (n, k) => if (k == .free && sc.kind == .function && sc.names.lookup n == some .cell) then (n, .cell) else (n, k) }
theorem relabel_eq {scope sc : Scope} {env : Env} (h : env.scope = sc) : relabel scope env = relS scope sc := by subst h; rfl
section
variable {M : Amb} {d : Nat} {A : Around} {base h₀ : Heap} {outer : List Env} {fenv env : Env} {L : Addr} {m mm : Str → Option Value} {cl : List (Str × Loc)} {ml : List (Str × V)} {s : Shared} {wd : WD} {H : MH} {R : Result → Shared → Prop}
theorem comp_loop {sc : Scope} {elt iter : Expr} {x : Str} {px : Pos} {scope : Scope} {ccl : List (Str × Addr)} {cl' : List (Str × Loc)} {pos : Pos} {I D C : Addr} {l : Loc} {xs : List V} {mC : Str → Option Value}
    (hs : env.scope = sc) (c : CX M d A base h₀ outer fenv env L m mm cl ml s wd H) (hlist : H.c l = some (.list xs)) (hz : xs.length ≤ 1000)
    (hkind : scope.kind = .function) (hx : (relS scope sc).names.lookup x = some .local)
    (hcc : ∀ y l', cl'.lookup y = some l' → ∃ a, ccl.lookup y = some a ∧ wd.ρ l' false = some a)
    {ax : Addr} (hax : wd.ρ l false = some ax) (hI : s.heap.IsListIter I ax 0) (hD : s.heap.PlainList D #[]) (hC : s.heap.Ns C mC)
    (kI : I ∉ wd.keys) (kD : D ∉ wd.keys) (kC : C ∉ wd.keys) (lI : I ≠ L) (lD : D ≠ L) (lC : C ≠ L) (oI : h₀.get? I = none) (oD : h₀.get? D = none) (oC : h₀.get? C = none) (ID : I ≠ D) (IC : I ≠ C) (DC : D ≠ C)
    (G : Nat → List V → MH → Prop) (g0 : G 0 [] H)
    (step : ∀ i ys H₁ xi, xs[i]? = some xi → G i ys H₁ → TE M.pur d (relS scope sc) cl' [(x, xi)] H₁ elt fun y H₂ => G (i + 1) (ys ++ [y]) H₂)
    (hR : ∀ h' tk wd' H' ys us mC', G xs.length ys H' → Ext M.pu wd wd' → VRs M.K wd' ys us → CX M d A base h₀ outer fenv env L m mm cl ml { s with heap := h', toks := tk } wd' H' → D ∉ wd'.keys → C ∉ wd'.keys → h'.PlainList D us.toArray → h'.Ns C mC' →
      R (.ok .next) { s with heap := h', toks := tk }) :
    codeAny (model M.prog M.w) A (.compLoop (.ListComp elt [⟨.Name x px, iter, [], 0⟩] scope pos) 0 (.ref I) (.ref D) (compEnvC scope ccl C env)) R s := by
  obtain ⟨a0, vs, n0, e1, e2, e3⟩ := c.rel.cells l _ hlist
  obtain rfl : ax = a0 := Option.some.inj (hax.symm.trans e1)
  have hn : vs.length = xs.length := e3.length
  have haxI : ax ≠ I := fun e => kI (e ▸ mem_keys e2)
  have W := Walks.list (prog := M.prog) (w := M.w) c.hh I ax haxI vs.toArray
  have hkx : (compEnvC scope ccl C env).kindOf x = some .local := by
    show (relabel scope env).names.lookup x = _
    rw [relabel_eq hs]; exact hx
  refine codeAny_compLoop_tests (fun k s' => ∃ i h' tk wd' H' ys us mC', s' = { s with heap := h', toks := tk } ∧ k = vs.length + 1 - i ∧ i ≤ vs.length ∧ G i ys H' ∧ Ext true wd wd' ∧ VRs M.K wd' ys us ∧
      CX M d A base h₀ outer fenv env L m mm cl ml { s with heap := h', toks := tk } wd' H' ∧ I ∉ wd'.keys ∧ D ∉ wd'.keys ∧ C ∉ wd'.keys ∧ h'.PlainList D us.toArray ∧ h'.Ns C mC' ∧ h'.IsListIter I ax i ∧ us.length = i) ?_ (vs.length + 1)
    ⟨0, s.heap, s.toks, wd, H, [], [], mC, rfl, rfl, Nat.zero_le _, g0, Ext.refl _, .nil, c.tok _, kI, kD, kC, hD, hC, hI, rfl⟩
  rintro k s' ⟨i, h', tk, wd', H', ys, us, mC', rfl, rfl, hi, hG, E, hus, c', kI', kD', kC', hD', hC', hI', hul⟩
  have hmem : (ax, listOf vs.toArray n0) ∈ wd'.news := E.pure rfl _ e2
  have hlst : h'.IsList ax vs.toArray := ⟨_, (c'.N _ hmem).1, rfl, n0, rfl⟩
  -- other entries stand while I changes
  have keepI : ∀ h1 : Heap, (∀ b o, b ∉ [I] → h'.get? b = some o → h1.get? b = some o) → Fr h₀ L h1 m ∧ News h₀ L h1 wd'.news := fun h1 hk =>
    ⟨⟨c'.F.ns.at' fun o e => hk _ _ (by simpa using lI.symm) e, fun b o e => hk b o (fun hm => by rw [List.mem_singleton.mp hm, oI] at e; cases e) (c'.F.keep b o e), c'.F.above⟩,
      fun p hp => ⟨hk _ _ (fun hm => kI' (List.mem_singleton.mp hm ▸ mem_keys hp)) (c'.N p hp).1, (c'.N p hp).2⟩⟩
  by_cases hlt : i < vs.length
  · refine W.item i _ _ _ (by simpa using hlt) ⟨hI', hlst⟩ fun v h1 tk1 hPv hst1 hk1 => ?_
    obtain ⟨F1, N1⟩ := keepI h1 hk1
    have hC1 : h1.Ns C mC' := hC'.at' fun o e => hk1 _ _ (by simpa using IC.symm) e
    have hD1 : h1.PlainList D us.toArray := hD'.at fun o e => hk1 _ _ (by simpa using ID.symm) e
    refine wpAny_assign_Name (wpAny_storeName_local hkx hC1 (fun h2 hC2 hs2 => ?_) (by
      have : (compEnvC scope ccl C env).scope.kind = .function := hkind
      rw [this]; rfl))
    have hC2 : h2.Ns C _ := hC2
    have hs2 : Heap.SameBut C h1 h2 := hs2
    have F2 : Fr h₀ L h2 m := F1.change hs2 lC oC
    have N2 : News h₀ L h2 wd'.news := fun p hp => ⟨(hs2.2 _ fun e => kC' (e ▸ mem_keys hp)).trans (N1 p hp).1, (N1 p hp).2⟩
    have hD2 : h2.PlainList D us.toArray := hD1.at fun o e => (hs2.2 _ DC).trans e
    have hI2 : h2.IsListIter I ax (i + 1) := by
      obtain ⟨o, q1, q2⟩ := hst1.1
      exact ⟨o, (hs2.2 _ IC).trans q1, q2⟩
    rw [List.forIn_nil]
    refine wpAny_pure ?_
    rw [if_pos rfl]
    obtain ⟨itO, i1, i2, _⟩ := id hI2
    obtain ⟨nD, d1⟩ := id hD2
    obtain ⟨cO, ces, cep, c1, c2, c3, c4n⟩ := id hC2
    have tI : NoTup itO := noTup_cls (by rw [i2]; decide)
    have tD : NoTup (listOf us.toArray nD) := noTup_cls (by show Value.type "list" ≠ _; decide)
    have tC : NoTup cO := noTup_dict c2
    -- the ledger with the three
    have nI : I ∉ wd'.keys := kI'
    have nD' : D ∉ (wd'.more I itO).keys := fun hm => by
      rcases List.mem_cons.mp hm with e | hm
      · exact ID e.symm
      · exact kD' hm
    have nC' : C ∉ ((wd'.more I itO).more D (listOf us.toArray nD)).keys := fun hm => by
      rcases List.mem_cons.mp hm with e | hm
      · exact DC e.symm
      · rcases List.mem_cons.mp hm with e | hm
        · exact IC e.symm
        · exact kC' hm
    have E3 : Ext true wd' (((wd'.more I itO).more D (listOf us.toArray nD)).more C cO) := ((Ext.more _ _ _).trans (Ext.more _ _ _)).trans (Ext.more _ _ _)
    have R3 := ((c'.rel.more itO nI).more (listOf us.toArray nD) nD').more cO nC'
    have N3 : News h₀ L h2 (((wd'.more I itO).more D (listOf us.toArray nD)).more C cO).news := fun p hp => by
      rcases List.mem_cons.mp hp with rfl | hp
      · exact ⟨c1, lC, oC⟩
      · rcases List.mem_cons.mp hp with rfl | hp
        · exact ⟨d1, lD, oD⟩
        · rcases List.mem_cons.mp hp with rfl | hp
          · exact ⟨i1, lI, oI⟩
          · exact N2 p hp
    have imn : ∀ a, a ∉ wd'.keys → ¬ (((wd'.more I itO).more D (listOf us.toArray nD)).more C cO).im a := fun a ha ⟨l, b, hb⟩ => ha (c'.rel.dom l b a hb)
    have hPv : vs[i]? = some v := by simpa using hPv
    obtain ⟨xi, hxi, hrv⟩ := e3.get' hPv
    have cx : ∀ tk2, CX M.pur d A base h₀ outer fenv (compEnvC scope ccl C env) L m (fun y => if y = x then some v else mC' y) cl' [(x, xi)] { s with heap := h2, toks := tk2 } (((wd'.more I itO).more D (listOf us.toArray nD)).more C cO) H' := fun tk2 =>
      { hA := c'.hA
        bel := c'.bel
        ff := c'.ff
        fk := c'.fk
        F := F2
        N := N3
        X := c'.X
        Z := c'.Z
        T := c'.T
        hh := c'.hh
        room := c'.room
        units := c'.units
        ek := hkind
        eg := c'.eg
        eb := c'.eb
        loc := .inr ⟨cO, ces, cep, .head _, imn C kC', c2, c3, c4n⟩
        lr := fun y u hy => by
          rw [List.lookup_cons] at hy
          cases q : (y == x) with
          | false => rw [q] at hy; cases hy
          | true =>
            rw [q] at hy; cases hy
            exact ⟨v, by rw [if_pos (by simpa using q)], hrv.vex _ (E.trans E3).vex⟩
        cr := fun y l' hy => let ⟨a, a1, a2⟩ := hcc y l' hy; ⟨a, a1, (E.trans E3).sub _ _ _ a2⟩
        rel := R3 }
    refine wpAny_mono (step i ys H' xi hxi hG (relabel_eq hs) (cx _) (Qm := _) fun y y' H4 wd4 h4 tk4 g4 x4 r4 c4 => ?_) (fun _ _ q => q) (fun _ _ q => q.elim)
    have x4 : Ext true _ wd4 := x4
    have mC4 := x4.pers _ (.head _) (imn C kC')
    have mD4 := x4.pers _ (.tail _ (.head _)) (imn D kD')
    have mI4 := x4.pers _ (.tail _ (.tail _ (.head _))) (imn I kI')
    have iC4 := x4.im (mem_keys (p := (C, cO)) (.head _)) (imn C kC')
    have iD4 := x4.im (mem_keys (p := (D, listOf us.toArray nD)) (.tail _ (.head _))) (imn D kD')
    have iI4 := x4.im (mem_keys (p := (I, itO)) (.tail _ (.tail _ (.head _)))) (imn I kI')
    have hD4 : h4.PlainList D us.toArray := ⟨nD, (c4.N _ mD4).1⟩
    refine wpAny_list_append_plain (hsz := by rw [List.size_toArray, hul]; exact Nat.le_trans (Nat.le_trans hi (hn ▸ hz)) (by decide)) hD4 fun h5 hl5 hs5 => ?_
    -- the ledger without the three
    have n4 : wd4.keys.Nodup := c4.rel.nod
    have RC := c4.rel.less' mC4 tC iC4
    have mD5 : (D, listOf us.toArray nD) ∈ (wd4.less C).news := mem_less.mpr ⟨mD4, DC⟩
    have mI5 : (I, itO) ∈ (wd4.less C).news := mem_less.mpr ⟨mI4, IC⟩
    have RD := RC.less' mD5 tD iD4
    have mI6 : (I, itO) ∈ ((wd4.less C).less D).news := mem_less.mpr ⟨mI5, ID⟩
    have RI := RD.less' mI6 tI iI4
    have V4 : Vex wd4 (((wd4.less C).less D).less I) := by
      have v1 := Vex.less' n4 mC4 tC
      have v2 := Vex.less' RC.nod mD5 tD
      have v3 := Vex.less' RD.nod mI6 tI
      exact ⟨fun l b a h => v3.sub l b a (v2.sub l b a (v1.sub l b a h)), fun a vs h n => let q1 := v1.tup a vs h n; let q2 := v2.tup a vs q1.1 q1.2; v3.tup a vs q2.1 q2.2⟩
    have E4 : Ext true wd' (((wd4.less C).less D).less I) := Ext.less (Ext.less (Ext.less x4 nC') nD') nI
    have hLD : ∀ p ∈ (((wd4.less C).less D).less I).news, p ∈ wd4.news ∧ p.1 ≠ D := fun p hp => ⟨(mem_less.mp (mem_less.mp (mem_less.mp hp).1).1).1, (mem_less.mp (mem_less.mp hp).1).2⟩
    have F5 : Fr h₀ L h5 m := c4.F.change hs5 lD oD
    have N5 : News h₀ L h5 (((wd4.less C).less D).less I).news := fun p hp => ⟨(hs5.2 _ (hLD p hp).2).trans (c4.N p (hLD p hp).1).1, (c4.N p (hLD p hp).1).2⟩
    have kk : ∀ a, a ∈ (((wd4.less C).less D).less I).keys → a ≠ C ∧ a ≠ D ∧ a ≠ I := fun a ha => by
      obtain ⟨p, hp, rfl⟩ := List.mem_map.mp ha
      exact ⟨(mem_less.mp (mem_less.mp (mem_less.mp hp).1).1).2, (mem_less.mp (mem_less.mp hp).1).2, (mem_less.mp hp).2⟩
    refine ⟨vs.length + 1 - (i + 1), by omega, i + 1, h5, tk4, (((wd4.less C).less D).less I), H4, ys ++ [y], us ++ [y'], (fun y => if y = x then some v else mC' y), rfl, rfl, hlt, g4, E.trans E4, (hus.vex _ E4.vex).append _ (.cons (r4.vex _ V4) .nil), c'.go F5 N5 E4.weak RI, fun h => (kk I h).2.2 rfl, fun h => (kk D h).2.1 rfl, fun h => (kk C h).1 rfl, ?_, ?_, ?_, by rw [List.length_append, hul]; rfl⟩
    · rw [← List.push_toArray]; exact hl5
    · exact ⟨cO, ces, cep, (hs5.2 _ DC.symm).trans (c4.N _ mC4).1, c2, c3, c4n⟩
    · obtain ⟨o, q1, q2⟩ := hI2
      have : o = itO := Option.some.inj (q1.symm.trans i1)
      subst this
      exact ⟨o, (hs5.2 _ ID).trans (c4.N _ mI4).1, q2⟩
  · have hin : i = vs.length := by omega
    subst hin
    refine W.done _ _ _ (by simpa using (⟨hI', hlst⟩ : h'.IsListIter I ax vs.length ∧ h'.IsList ax vs.toArray)) fun h1 tk1 hk1 => ?_
    obtain ⟨F1, N1⟩ := keepI h1 hk1
    refine hR h1 tk1 wd' H' ys us mC' (hn ▸ hG) E.weak hus (c'.go F1 N1 (Ext.refl _) c'.rel) kD' kC' (hD'.at fun o e => hk1 _ _ (by simpa using ID.symm) e) (hC'.at' fun o e => hk1 _ _ (by simpa using IC.symm) e)
end
section
variable {M : Amb} {d : Nat} {A : Around} {base h₀ : Heap} {outer : List Env} {fenv env : Env} {L : Addr} {m mm : Str → Option Value} {cl : List (Str × Loc)} {ml : List (Str × V)} {s : Shared} {wd : WD} {H : MH} {E : Value → Shared → Prop}
theorem comp_block {sc : Scope} {elt iter : Expr} {x : Str} {px : Pos} {scope : Scope} {ccl : List (Str × Addr)} {cl' : List (Str × Loc)} {pos : Pos} {l : Loc} {xs : List V} {RR : Value → Addr → Result → Shared → Prop}
    (hs : env.scope = sc) (c : CX M d A base h₀ outer fenv env L m mm cl ml s wd H) (hlist : H.c l = some (.list xs)) (hz : xs.length ≤ 1000)
    (hkind : scope.kind = .function) (hcell : ∀ y ∈ scope.names, y.2 ≠ .cell) (hx : (relS scope sc).names.lookup x = some .local)
    (hcc : ∀ y l', cl'.lookup y = some l' → ∃ a, ccl.lookup y = some a ∧ wd.ρ l' false = some a)
    {ax : Addr} (hax : wd.ρ l false = some ax)
    (G : Nat → List V → MH → Prop) (g0 : G 0 [] H)
    (step : ∀ i ys H₁ xi, xs[i]? = some xi → G i ys H₁ → TE M.pur d (relS scope sc) cl' [(x, xi)] H₁ elt fun y H₂ => G (i + 1) (ys ++ [y]) H₂)
    (hR : ∀ D C h' tk wd' H' ys us mC', G xs.length ys H' → Ext M.pu wd wd' → VRs M.K wd' ys us → CX M d A base h₀ outer fenv env L m mm cl ml { s with heap := h', toks := tk } wd' H' → D ∉ wd'.keys → C ∉ wd'.keys → h'.PlainList D us.toArray → h'.Ns C mC' →
      D ≠ L → h₀.get? D = none → C ≠ L → h₀.get? C = none → D ≠ C → RR (.ref D) C (.ok .next) { s with heap := h', toks := tk }) :
    wpAny (model M.prog M.w) A (pyIter (.ref ax)) (fun it s₂ => wpAny (model M.prog M.w) A (newList []) (fun acc s₃ => wpAny (model M.prog M.w) A (newFunctionEnv scope env.globals ccl [] env.qual none .none (some env)) (fun cenv s₄ =>
      codeAny (model M.prog M.w) A (.compStart (.ListComp elt [⟨.Name x px, iter, [], 0⟩] scope pos) 0 it acc { cenv with scope := relabel scope env }) (RR acc cenv.locals) s₄) E s₃) E s₂) E s := by
  obtain ⟨a0, vs, n0, e1, e2, e3⟩ := c.rel.cells l _ hlist
  obtain rfl : ax = a0 := Option.some.inj (hax.symm.trans e1)
  have hl0 : s.heap.IsList ax vs.toArray := ⟨_, (c.N _ e2).1, rfl, n0, rfl⟩
  refine wpAny_pyIter_list hl0 ?_
  refine wpAny_newObj_type (wpAny_newFunctionEnv hcell (by intro y hy; simp at hy) (fun h₁ hns₁ hsb₁ => ?_) hkind)
  dsimp only at hns₁ hsb₁ ⊢
  have sz : s.heap.objs.size < s.heap.objs.size + 1 := Nat.lt_succ_self _
  -- the three addresses
  have e1' : (s.heap.push { cls := .type "list_iterator", data := .fields #[.ref ax, .int 0 0] }).objs.size = s.heap.objs.size + 1 := Heap.size_push ..
  generalize hH1 : s.heap.push { cls := .type "list_iterator", data := .fields #[.ref ax, .int 0 0] } = H1 at hns₁ hsb₁ e1' ⊢
  have e2' : (H1.push { cls := .type "list", dict := none, data := .seq ([] : List Value).toArray }).objs.size = H1.objs.size + 1 := Heap.size_push ..
  generalize hH2 : H1.push { cls := .type "list", dict := none, data := .seq ([] : List Value).toArray } = H2 at hns₁ hsb₁ e2' ⊢
  have hC : H2.objs.size = s.heap.objs.size + 2 := by rw [e2', e1']
  have up : ∀ b o, s.heap.get? b = some o → h₁.get? b = some o := fun b o e => by
    have hb := Heap.lt_size e
    refine hsb₁.extBut b o (Nat.ne_of_lt (by rw [hC]; exact Nat.lt_of_lt_of_le hb (Nat.le_add_right _ _))) (Heap.get?_push_of_some _ ?_)
    rw [← hH2]
    refine Heap.get?_push_of_some _ ?_
    rw [← hH1]
    exact Heap.get?_push_of_some _ e
  have F3 : Fr h₀ L h₁ m := ⟨c.F.ns.at' fun o e => up _ _ e, fun b o e => up b o (c.F.keep b o e), c.F.above⟩
  have N3 : News h₀ L h₁ wd.news := c.N.grown up
  have c3 := fun tk => c.go (tk' := tk) F3 N3 (Ext.refl _) c.rel
  have lt : ∀ p ∈ wd.news, p.1 < s.heap.objs.size := fun p hp => Heap.lt_size (c.N p hp).1
  have nk : ∀ a, s.heap.objs.size ≤ a → a ∉ wd.keys := fun a ha => fresh_of fun p hp => Nat.lt_of_lt_of_le (lt p hp) ha
  have nL : ∀ a, s.heap.objs.size ≤ a → a ≠ L := fun a ha => Nat.ne_of_gt (Nat.lt_of_lt_of_le c.F.ns.lt ha)
  have n0 : ∀ a, s.heap.objs.size ≤ a → h₀.get? a = none := fun a ha => by
    cases q : h₀.get? a with
    | none => rfl
    | some o => exact absurd (Heap.lt_size (c.F.keep _ _ q)) (Nat.not_lt.mpr ha)
  have gI : h₁.get? s.heap.objs.size = some { cls := .type "list_iterator", data := .fields #[.ref ax, .int 0 0] } := by
    refine hsb₁.extBut _ _ (Nat.ne_of_lt (by rw [hC]; omega)) (Heap.get?_push_of_some _ ?_)
    rw [← hH2]
    refine Heap.get?_push_of_some _ ?_
    rw [← hH1]
    exact Heap.get?_push_size _ rfl
  have gD : h₁.get? H1.objs.size = some { cls := .type "list", dict := none, data := .seq ([] : List Value).toArray } := by
    refine hsb₁.extBut _ _ (Nat.ne_of_lt (by rw [e2']; omega)) (Heap.get?_push_of_some _ ?_)
    rw [← hH2]
    exact Heap.get?_push_size _ rfl
  have a1 : s.heap.objs.size ≤ H1.objs.size := by omega
  have a2 : s.heap.objs.size ≤ H2.objs.size := by omega
  have loop : ∀ tk, codeAny (model M.prog M.w) A (.compLoop (.ListComp elt [⟨.Name x px, iter, [], 0⟩] scope pos) 0 (.ref s.heap.objs.size) (.ref H1.objs.size) (compEnvC scope ccl H2.objs.size env)) (RR (.ref H1.objs.size) H2.objs.size) { s with heap := h₁, toks := tk } := fun tk => by
    refine comp_loop (d := d) (C := H2.objs.size) hs (c3 tk) hlist hz hkind hx hcc hax ⟨_, gI, rfl, rfl⟩ ⟨0, gD⟩ hns₁ (nk _ (Nat.le_refl _)) (nk _ a1) (nk _ a2) (nL _ (Nat.le_refl _)) (nL _ a1) (nL _ a2) (n0 _ (Nat.le_refl _)) (n0 _ a1) (n0 _ a2) (Nat.ne_of_lt (by omega)) (Nat.ne_of_lt (by omega)) (Nat.ne_of_lt (by omega)) G g0 step
      fun h' tk wd' H' ys us mC' g E v c' kD kC p n => hR _ _ h' tk wd' H' ys us mC' g E v c' kD kC p n (nL _ a1) (n0 _ a1) (nL _ a2) (n0 _ a2) (Nat.ne_of_lt (by omega))
  exact codeAny_compStart_list (loop _) (wpAny_pyIter_listiter (i := 0) (l := ax) ⟨_, gI, rfl, rfl⟩ (loop _))
end
section
variable {M : Amb} {d : Nat} {sc : Scope} {cl : List (Str × Loc)} {ml : List (Str × V)} {H : MH}
theorem TE_comp {elt iter : Expr} {x : Str} {px : Pos} {scope : Scope} {cl' : List (Str × Loc)} {pos : Pos} {l' : Loc} {Q : V → MH → Prop}
    (hkind : scope.kind = .function) (hcell : ∀ y ∈ scope.names, y.2 ≠ .cell) (hnames : ∀ y ∈ scope.names, y.2 = .local → scope.names.lookup y.1 = some .local) (hx : (relS scope sc).names.lookup x = some .local)
    (hse : ∀ env v, foldedSetIterable iter env v = pure v)
    (hclos : ∀ env : Env, (∀ y l, cl.lookup y = some l → ∃ a, env.cells.lookup y = some a) → ∃ ccl, closureFor scope env = pure ccl ∧ ∀ y l, cl'.lookup y = some l → cl.lookup y = some l ∧ ccl.lookup y = env.cells.lookup y)
    (G : MH → Nat → List V → MH → Prop)
    (h : TE M d sc cl ml H iter fun v H1 => ∃ l xs, v = .cell l ∧ H1.c l = some (.list xs) ∧ xs.length ≤ 1000 ∧ G H1 0 [] H1 ∧
      (∀ i ys H₁ xi, xs[i]? = some xi → G H1 i ys H₁ → TE M.pur d (relS scope sc) cl' [(x, xi)] H₁ elt fun y H₂ => G H1 (i + 1) (ys ++ [y]) H₂) ∧
      ∀ ys H', G H1 xs.length ys H' → H'.free l' ∧ Q (.cell l') (H'.add l' (.list ys))) :
    TE M d sc cl ml H (.ListComp elt [⟨.Name x px, iter, [], 0⟩] scope pos) Q := by
  intro A base h₀ outer fenv env L m mm s wd Qm hs c k
  show wpAny _ _ (eval (.ListComp elt [⟨.Name x px, iter, [], 0⟩] scope pos) env) _ _ _
  rw [eval_ListComp]
  obtain ⟨ccl, hc1, hc2⟩ := hclos env fun y l hy => let ⟨a, a1, _⟩ := c.cr y l hy; ⟨a, a1⟩
  refine wpAny_comprehension_free (use := none) rfl (hse env) hc1 hkind hnames (h hs c fun v v' H1 w1 h1 t1 q1 x1 r1 c1 => ?_)
  obtain ⟨l, xs, rfl, hlist, hz, g0, step, hend⟩ := q1
  cases r1 with
  | cell hax =>
    refine comp_block (RR := fun acc C => compPost (model M.prog M.w) A (fun _ _ => False) none Qm acc C) hs c1 hlist hz hkind hcell hx (fun y l1 hy => ?_) hax (G H1) g0 step
      fun D C h' tk wd' H' ys us mC' g E v c' kD kC p n lD oD lC oC DC => ⟨mC', n, fun h2 hs2 => ?_⟩
    · obtain ⟨i1, i2⟩ := hc2 y l1 hy
      obtain ⟨a, a1, a2⟩ := c1.cr y l1 i1
      exact ⟨a, i2.trans a1, a2⟩
    · obtain ⟨hf, q⟩ := hend ys H' g
      obtain ⟨nD, gD⟩ := p
      have E2 : Ext M.pu wd' ((wd'.more D (listOf us.toArray nD)).name l' false D) := Ext.name (c'.rel.free l' false hf) kD
      have F2 : Fr h₀ L h2 m := c'.F.change hs2 lC oC
      have N2 : News h₀ L h2 ((D, listOf us.toArray nD) :: wd'.news) := fun p hp => by
        rcases List.mem_cons.mp hp with rfl | hp
        · exact ⟨(hs2.2 _ DC).trans gD, lD, oD⟩
        · exact ⟨(hs2.2 _ fun e => kC (e ▸ mem_keys hp)).trans (c'.N p hp).1, (c'.N p hp).2⟩
      exact k _ _ _ _ h2 tk q ((x1.trans E).trans E2) (.cell (name_at ..)) (c'.go F2 N2 E2 (c'.rel.name hf kD ⟨D, us, nD, name_at .., .head _, v.ext _ E2⟩))
/-- the comprehension's list is stored at once -/
theorem T1_assign_comp {elt iter : Expr} {x y : Str} {px py : Pos} {scope : Scope} {cl' : List (Str × Loc)} {pos spos : Pos} {l' : Loc} {Q : FV → List (Str × V) → MH → Prop}
    (hsw : ∀ env, swapsWith (.ListComp elt [⟨.Name x px, iter, [], 0⟩] scope pos) (some (.Name y py)) spos.line env = pure true) (hy : sc.names.lookup y = some .local)
    (hkind : scope.kind = .function) (hcell : ∀ y ∈ scope.names, y.2 ≠ .cell) (hnames : ∀ y ∈ scope.names, y.2 = .local → scope.names.lookup y.1 = some .local) (hx : (relS scope sc).names.lookup x = some .local)
    (hse : ∀ env v, foldedSetIterable iter env v = pure v)
    (hclos : ∀ env : Env, (∀ y l, cl.lookup y = some l → ∃ a, env.cells.lookup y = some a) → ∃ ccl, closureFor scope env = pure ccl ∧ ∀ y l, cl'.lookup y = some l → cl.lookup y = some l ∧ ccl.lookup y = env.cells.lookup y)
    (G : MH → Nat → List V → MH → Prop)
    (h : TE M d sc cl ml H iter fun v H1 => ∃ l xs, v = .cell l ∧ H1.c l = some (.list xs) ∧ xs.length ≤ 1000 ∧ G H1 0 [] H1 ∧
      (∀ i ys H₁ xi, xs[i]? = some xi → G H1 i ys H₁ → TE M.pur d (relS scope sc) cl' [(x, xi)] H₁ elt fun y H₂ => G H1 (i + 1) (ys ++ [y]) H₂) ∧
      ∀ ys H', G H1 xs.length ys H' → H'.free l' ∧ Q .next ((y, .cell l') :: ml) (H'.add l' (.list ys))) :
    T1 M d sc cl ml H (.Assign [.Name y py] (.ListComp elt [⟨.Name x px, iter, [], 0⟩] scope pos) spos) Q := by
  intro A base h₀ outer env L m s wd Qm hs hL c k
  show wpAny _ _ (exec (.Assign [.Name y py] (.ListComp elt [⟨.Name x px, iter, [], 0⟩] scope pos) spos) env) _ _ _
  rw [exec_Assign_Name_used _ _ _ _ (hsw env)]
  obtain ⟨ccl, hc1, hc2⟩ := hclos env fun y l hy => let ⟨a, a1, _⟩ := c.cr y l hy; ⟨a, a1⟩
  refine wpAny_bind (wpAny_standAt (wpAny_bind ?_))
  show wpAny _ A (do let _ ← comprehension (.ListComp elt [⟨.Name x px, iter, [], 0⟩] scope pos) scope env _ (newList []) false (eval iter env) (some (assign (.Name y py) env))) _ _ s
  refine wpAny_bind (wpAny_mono (wpAny_comprehension_free (use := some (assign (.Name y py) env)) (Q := fun _ s' => Qm .next s') (E := fun _ _ => False) rfl (hse env) hc1 hkind hnames
    (h hs c fun v v' H1 w1 h1 t1 q1 x1 r1 c1 => ?_)) (fun _ s' hq => wpAny_pure (wpAny_pure hq)) fun _ _ e => e)
  obtain ⟨l, xs, rfl, hlist, hz, g0, step, hend⟩ := q1
  cases r1 with
  | cell hax =>
    refine comp_block (RR := fun acc C => compPost (model M.prog M.w) A (fun _ _ => False) (some (assign (.Name y py) env)) (fun _ s' => Qm .next s') acc C) hs c1 hlist hz hkind hcell hx (fun y l1 hy => ?_) hax (G H1) g0 step
      fun D C h' tk wd' H' ys us mC' g E v c' kD kC p n lD oD lC oC DC => ?_
    · obtain ⟨i1, i2⟩ := hc2 y l1 hy
      obtain ⟨a, a1, a2⟩ := c1.cr y l1 i1
      exact ⟨a, i2.trans a1, a2⟩
    · obtain ⟨hf, q⟩ := hend ys H' g
      obtain ⟨nD, gD⟩ := p
      have E2 : Ext M.pu wd' ((wd'.more D (listOf us.toArray nD)).name l' false D) := Ext.name (c'.rel.free l' false hf) kD
      have N2 : News h₀ L h' ((D, listOf us.toArray nD) :: wd'.news) := fun p hp => by
        rcases List.mem_cons.mp hp with rfl | hp
        · exact ⟨gD, lD, oD⟩
        · exact c'.N p hp
      have c2 := c'.go (tk' := tk) c'.F N2 E2 (c'.rel.name (c := .list ys) hf kD ⟨D, us, nD, name_at .., .head _, v.ext _ E2⟩)
      show wpAny _ A (assign (.Name y py) env (.ref D)) _ _ _
      refine wpAny_assign_Name (wpAny_storeName_local (m := m) (by unfold Env.kindOf; rw [hs]; exact hy) (by rw [hL]; exact c2.F.ns) (fun h3 hn3 hs3 => ?_) (by rw [c2.ek]; rfl))
      rw [hL] at hn3 hs3
      have c3 := c2.store (x := y) (v := .cell l') (tk := tk) hL (.cell (name_at ..)) (c2.F.set hn3 hs3) (c2.N.set hs3)
      refine ⟨_, n.at' fun o e => (hs3.2 _ lC).trans e, fun h4 hs4 => ?_⟩
      have F4 := c3.F.change hs4 lC oC
      have N4 : News h₀ L h4 ((D, listOf us.toArray nD) :: wd'.news) := fun p hp => by
        refine ⟨(hs4.2 _ fun e => ?_).trans (c3.N p hp).1, (c3.N p hp).2⟩
        rcases List.mem_cons.mp hp with rfl | hp
        · exact DC e
        · exact kC (e ▸ mem_keys hp)
      exact k _ _ _ _ _ h4 _ _ q ((x1.trans E).trans E2) .next (c3.go2 hL F4 N4 (Ext.refl _) c3.rel c3.lr)
end
mutual
/-- a value that is data -/
inductive DV (H : MH) : V → PyData → Prop
  | none : DV H .none .none
  | bool (b : Bool) : DV H (.bool b) (.bool b)
  | int (i : Int) : DV H (.int i) (.int i)
  | str (s : Str) : DV H (.str s) (.str s)
  | tup {xs : List V} {ds : List PyData} : DVs H xs ds → DV H (.tup xs) (.tuple ds)
  | list {l : Loc} {xs : List V} {ds : List PyData} : H.c l = some (.list xs) → DVs H xs ds → DV H (.cell l) (.list ds)
inductive DVs (H : MH) : List V → List PyData → Prop
  | nil : DVs H [] []
  | cons {x : V} {d : PyData} {xs : List V} {ds : List PyData} : DV H x d → DVs H xs ds → DVs H (x :: xs) (d :: ds)
end
theorem DVs.append {H : MH} : ∀ {xs ys : List V} {ds es : List PyData}, DVs H xs ds → DVs H ys es → DVs H (xs ++ ys) (ds ++ es)
  | _, _, _, _, .nil, h => h
  | _, _, _, _, .cons a r, h => .cons a (r.append h)
section
variable {M : Amb} {d : Nat} {A : Around} {base h₀ : Heap} {outer : List Env} {fenv env : Env} {L : Addr} {m mm : Str → Option Value} {cl : List (Str × Loc)} {ml : List (Str × V)} {s : Shared} {wd : WD} {H : MH}
mutual
theorem reads_of (c : CX M d A base h₀ outer fenv env L m mm cl ml s wd H) : ∀ {x : V} {dt : PyData} {x' : Value}, DV H x dt → VR M.K wd x x' → ∃ as, Reads s.heap x' dt as
  | _, _, _, .none, .none => ⟨[], .none⟩
  | _, _, _, .bool _, .bool b => ⟨[], .bool b⟩
  | _, _, _, .int _, .int i t => ⟨[], .int i t⟩
  | _, _, _, .str _, .str x t => ⟨[], .str x t⟩
  | _, _, _, .tup q, .tup h1 h2 h3 => by
    obtain ⟨as, r⟩ := readsAll_of c q h3
    exact ⟨as, .tuple (c.N _ h1).1 rfl rfl r⟩
  | _, _, _, .tup q, .ktup h => by
    cases q
    have := (c.X.keeps c.F.keep) _ _ h
    exact ⟨[], .tuple this rfl rfl .nil⟩
  | _, _, _, .list hc q, .cell hl => by
    obtain ⟨a, vs, n, e1, e2, e3⟩ := c.rel.cells _ _ hc
    obtain rfl := Option.some.inj (hl.symm.trans e1)
    obtain ⟨as, r⟩ := readsAll_of c q e3
    exact ⟨_ :: as, .list (c.N _ e2).1 rfl rfl r⟩
theorem readsAll_of (c : CX M d A base h₀ outer fenv env L m mm cl ml s wd H) : ∀ {xs : List V} {ds : List PyData} {vs : List Value}, DVs H xs ds → VRs M.K wd xs vs → ∃ as, ReadsAll s.heap vs ds as
  | _, _, _, .nil, .nil => ⟨[], .nil⟩
  | _, _, _, .cons q r, .cons h t => by
    obtain ⟨as, i⟩ := reads_of c q h
    obtain ⟨bs, j⟩ := readsAll_of c r t
    exact ⟨as ++ bs, .cons i j⟩
end
end
section
variable {M : Amb} {d : Nat} {sc : Scope} {cl : List (Str × Loc)} {ml : List (Str × V)} {H : MH}
theorem OP_eq_data {x y : V} {da db : PyData} {Q : V → MH → Prop} (ha : DV H x da) (hb : DV H y db) (sa : SeqAt.shaped da = true) (sb : SeqAt.shaped db = true) (h : Q (.bool (PyData.eqv da db)) H) : OP2 VR M d cl ml H (compareOp .Eq) x y Q := by
  intro A base h₀ outer fenv env L m mm s wd Qm x' y' c hx hy k
  obtain ⟨as, ra⟩ := reads_of c ha hx
  obtain ⟨bs, rb⟩ := reads_of c hb hy
  exact eq_dataH ra rb sa sb (by have := c.units; show _ < 9900; omega) (k _ _ H wd s.heap s.toks h (Ext.refl _) (.bool _) (c.tok _))
theorem OP_ne_data {x y : V} {da db : PyData} {Q : V → MH → Prop} (ha : DV H x da) (hb : DV H y db) (sa : SeqAt.shaped da = true) (sb : SeqAt.shaped db = true) (h : Q (.bool (!PyData.eqv da db)) H) : OP2 VR M d cl ml H (compareOp .NotEq) x y Q := by
  intro A base h₀ outer fenv env L m mm s wd Qm x' y' c hx hy k
  obtain ⟨as, ra⟩ := reads_of c ha hx
  obtain ⟨bs, rb⟩ := reads_of c hb hy
  exact ne_dataH ra rb sa sb (by have := c.units; show _ < 9900; omega) (k _ _ H wd s.heap s.toks h (Ext.refl _) (.bool _) (c.tok _))
theorem dict_nil_all {prog prog' : Program} {w w' : World} {o : Obj} (h : o.IsDictOf (PySem.strKind prog w) []) : o.IsDictOf (PySem.strKind prog' w') [] := by
  obtain ⟨es, ep, h1, h2, h3, h4, h5⟩ := h
  cases hes : es.toList with
  | nil =>
    refine ⟨es, ep, h1, h2, fun e he => ?_, by rw [hes]; exact .nil, List.nodup_nil⟩
    have : e ∈ es.toList := Array.mem_toList_iff.mpr he
    rw [hes] at this
    cases this
  | cons e r => rw [hes] at h4; cases h4
theorem eqAt_nil {A : Around} {s : Shared} {l b : Addr} (hl : s.heap.IsList l #[]) (hb : s.heap.IsList b #[]) (hu : A.units < cLine) : SeqAt.EqAt A s (.ref l) (.ref b) true := by
  by_cases e : l = b
  · subst e; exact SeqAt.EqAt.same _
  · refine SeqAt.EqAt.of_refs e ?_
    exact SeqAt.RcAt.lists (e := fun _ => true) hl hb rfl hu (fun j h1 => absurd h1 (Nat.not_lt_zero _))
theorem eqAt_dict {prog : Program} {w : World} {A : Around} {s : Shared} {l b : Addr} {o o' : Obj} (hl : s.heap.get? l = some o) (hb : s.heap.get? b = some o') (dl : o.IsDictOf (PySem.strKind prog w) []) (db : o'.IsDictOf (PySem.strKind prog w) [])
    (nl : (l == sysModules) = false) (nb : (b == sysModules) = false) (hu : A.units < cLine) : SeqAt.EqAt A s (.ref l) (.ref b) true := by
  by_cases e : l = b
  · subst e; exact SeqAt.EqAt.same _
  · refine SeqAt.EqAt.of_refs e fun prog' w' E Q h => ?_
    exact keq_eq (knd := PySem.strKind prog' w') (r := true) nl nb (Heap.dictOf_iff.mpr ⟨o, hl, dict_nil_all dl⟩) (Heap.dictOf_iff.mpr ⟨o', hb, dict_nil_all db⟩) hu (fun _ => .nil) h
theorem OP_eq_rest {l1 l2 l3 k1 k2 k3 : Loc} {Q : V → MH → Prop} (h1 : H.c l1 = some (.list [])) (h2 : H.c l2 = some (.dict [])) (h3 : H.c l3 = some (.list [])) (g1 : H.c k1 = some (.list [])) (g2 : H.c k2 = some (.dict [])) (g3 : H.c k3 = some (.list []))
    (h : Q (.bool true) H) : OP2 VR M d cl ml H (compareOp .Eq) (.tup [.cell l1, .cell l2, .cell l3, .bool true]) (.tup [.cell k1, .cell k2, .cell k3, .bool true]) Q := by
  intro A base h₀ outer fenv env L m mm s wd Qm x' y' c hx hy k
  obtain ⟨a, vs, rfl, e1, e2, e3⟩ := isTup_of c hx
  obtain ⟨b, us, rfl, f1, f2, f3⟩ := isTup_of c hy
  obtain ⟨v1, v2, v3, v4, rfl, e8, e5, e6, e7⟩ : ∃ v1 v2 v3 v4, vs = [v1, v2, v3, v4] ∧ VR M.K wd (.cell l1) v1 ∧ VR M.K wd (.cell l2) v2 ∧ VR M.K wd (.cell l3) v3 ∧ VR M.K wd (.bool true) v4 := by
    cases e1 with | cons a b => obtain ⟨x, y, z, rfl, q⟩ := three_of b; exact ⟨_, _, _, _, rfl, a, q⟩
  obtain ⟨u1, u2, u3, u4, rfl, f8, f5, f6, f7⟩ : ∃ v1 v2 v3 v4, us = [v1, v2, v3, v4] ∧ VR M.K wd (.cell k1) v1 ∧ VR M.K wd (.cell k2) v2 ∧ VR M.K wd (.cell k3) v3 ∧ VR M.K wd (.bool true) v4 := by
    cases f1 with | cons a b => obtain ⟨x, y, z, rfl, q⟩ := three_of b; exact ⟨_, _, _, _, rfl, a, q⟩
  cases e7; cases f7
  obtain ⟨a1, vs1, n1, rfl, _, _, z1, w1, l1⟩ := isList_of c h1 e8
  obtain ⟨a3, vs3, n3, rfl, _, _, z3, w3, l3⟩ := isList_of c h3 e6
  obtain ⟨b1, us1, m1, rfl, _, _, y1, x1, j1⟩ := isList_of c g1 f8
  obtain ⟨b3, us3, m3, rfl, _, _, y3, x3, j3⟩ := isList_of c g3 f6
  cases z1; cases z3; cases y1; cases y3
  obtain ⟨a2, o, kvs, rfl, i1, i2, i3, i4, i5, i6⟩ := isDict_of c h2 e5
  obtain ⟨b2, o', kvs', rfl, i1', i2', i3', i4', i5', i6'⟩ := isDict_of c g2 f5
  cases i5; cases i5'
  have hu : A.in1.units < cLine := by have := c.units; show A.units + 1 < 9900; omega
  refine SeqAt.eq_tupleAt (e := fun _ => true) e2 f2 (by have := c.units; show A.units < 9900; omega) (fun j hj _ => ?_) ?_
  · match j, hj with
    | 0, _ => exact eqAt_nil w1 x1 hu
    | 1, _ => exact eqAt_dict (c.N _ i2).1 (c.N _ i2').1 i4 i4' i3 i3' hu
    | 2, _ => exact eqAt_nil w3 x3 hu
    | 3, _ => exact SeqAt.EqAt.same _
  · exact k _ _ H wd s.heap s.toks h (Ext.refl _) (.bool _) (c.tok _)
end
/- the text's parts -/
def nthS : List Stmt → Nat → Stmt
  | s :: _, 0 => s
  | _ :: r, n + 1 => nthS r n
  | [], _ => .Pass default
def nm : Stmt → Str
  | .FunctionDef n .. => n
  | _ => ""
def pr : Stmt → Arguments
  | .FunctionDef _ a .. => a
  | _ => ⟨[], [], none, [], [], none, []⟩
def bd : Stmt → List Stmt
  | .FunctionDef _ _ b .. => b
  | .ClassDef _ _ _ b .. => b
  | _ => []
def sco : Stmt → Scope
  | .FunctionDef _ _ _ _ _ _ s .. => s
  | _ => default
def tS (i : Nat) : Stmt := nthS PySem.Challenge.pw_nz0099_01.main.body i
def mS (i j : Nat) : Stmt := nthS (bd (tS i)) j
def FnAt (K : Frag) (f : Addr) (qual : Str) (s : Stmt) (dV : Value) : Prop :=
  ∃ kV doc pm cdv ct oc an od osl, K.lookup f = some ⟨oc, od, .func (fnOf (nm s) qual (pr s) (bd s) (sco s) dV kV doc pm an cdv ct), osl⟩ ∧ codeIn K cdv qual = true
theorem fnAt_mk {K : Frag} {f : Addr} {qual : Str} {s : Stmt} {dV kV doc pm cdv ct oc : Value} {an od : Option Addr} {osl : Array (Option Value)} (ho : K.lookup f = some ⟨oc, od, .func (fnOf (nm s) qual (pr s) (bd s) (sco s) dV kV doc pm an cdv ct), osl⟩) (hcd : codeIn K cdv qual = true) : FnAt K f qual s dV :=
  ⟨_, _, _, _, _, _, _, _, _, ho, hcd⟩
theorem attrOK_mk {K : Frag} {C : Addr} {name : Str} {at' : Option Value} (a : plainGet K C name = true) (b : hasDictIn K C = true) (c : findIn K (.ref C) name = some at') (d : noGet K at' = true) : AttrOK K C name := ⟨a, b, _, c, d⟩
def AllT {α : Type} (P : α → Prop) : List α → Prop
  | [] => True
  | x :: r => P x ∧ AllT P r
theorem AllT.mem {α : Type} {P : α → Prop} : ∀ {l : List α}, AllT P l → ∀ x ∈ l, P x
  | _ :: _, h, _, .head _ => h.1
  | _ :: _, h, _, .tail _ q => h.2.mem _ q
def globTab0 : List (String × Addr) := [("Tree", 411), ("OpenStack", 294), ("Formatting", 133), ("Builder", 489), ("is_space", 151), ("above", 422), ("is_html_turn", 500), ("finish", 507), ("place_for", 522), ("insert_sign", 529), ("insert_comment", 537), ("make", 545)]
def globTab1 : List (String × Addr) := [("insert_element", 554), ("insert_token", 561), ("insert_void", 568), ("associate", 575), ("is_space_token", 582), ("is_start_of", 589), ("is_end_of", 596), ("refuse", 603), ("back_to_body", 610), ("after_body", 617), ("is_at_root", 624), ("close_frameset", 631)]
def globTab2 : List (String × Addr) := [("in_frameset", 638), ("after_frameset", 645), ("is_of_body", 652), ("after_after_body", 659), ("after_after_frameset", 666), ("end_rules", 673), ("_law_places", 680), ("_law_bases", 687), ("_law_rows", 694), ("_law_token", 701), ("_law_body", 708), ("_law_head", 715)]
def globTab3 : List (String × Addr) := [("_law_sort", 722), ("_law_put", 729), ("_law_grow", 736), ("_law_stop", 743), ("_law_body_due", 750), ("_law_refuse", 757), ("_law_leave", 764), ("_law_due", 771), ("_law_plain", 776), ("_law_scene", 781)]
def globTab : List (String × Addr) := globTab0 ++ (globTab1 ++ (globTab2 ++ (globTab3)))
def bltTab : List String := ["len", "isinstance", "str", "list", "range"]
def attrTab0 : List (Addr × String) := [(489, "rules"), (489, "tree"), (489, "stack"), (489, "formatting"), (489, "mode"), (489, "modes"), (489, "form"), (489, "owners"), (489, "is_frameset_ok"), (489, "is_foster"), (489, "context"), (489, "errors")]
def attrTab1 : List (Addr × String) := [(489, "is_skipping"), (489, "is_acknowledged"), (489, "is_done"), (411, "kinds"), (411, "spaces"), (411, "names"), (411, "attrs"), (411, "texts"), (411, "parents"), (411, "children"), (411, "contents"), (294, "tree")]
def attrTab2 : List (Addr × String) := [(294, "items"), (133, "items")]
def attrTab : List (Addr × String) := attrTab0 ++ (attrTab1 ++ (attrTab2))
def setTab0 : List (Addr × String) := [(489, "rules"), (489, "tree"), (489, "stack"), (489, "formatting"), (489, "mode"), (489, "original"), (489, "modes"), (489, "head"), (489, "form"), (489, "owners"), (489, "is_frameset_ok"), (489, "is_scripting")]
def setTab1 : List (Addr × String) := [(489, "is_foster"), (489, "context"), (489, "quirks"), (489, "errors"), (489, "pending"), (489, "wish"), (489, "is_skipping"), (489, "is_acknowledged"), (489, "is_done"), (411, "kinds"), (411, "spaces"), (411, "names")]
def setTab2 : List (Addr × String) := [(411, "attrs"), (411, "texts"), (411, "parents"), (411, "children"), (411, "contents"), (294, "tree"), (294, "items"), (133, "tree"), (133, "items")]
def setTab : List (Addr × String) := setTab0 ++ (setTab1 ++ (setTab2))
def methTab0 : List (Addr × String × Addr) := [(294, "push", 214), (294, "pop", 221), (294, "current", 228), (294, "many", 235), (294, "name", 270), (411, "add", 321), (411, "element", 330), (411, "text", 337), (411, "comment", 344), (411, "insert", 359), (411, "remove", 373), (411, "last", 394)]
def methTab1 : List (Addr × String × Addr) := [(489, "error", 444), (489, "to", 451), (489, "use", 458), (489, "process", 465), (489, "feed", 472), (489, "adjusted", 479), (489, "is_foreign", 486)]
def methTab : List (Addr × String × Addr) := methTab0 ++ (methTab1)
def clsTab : List (Addr × Addr) := [(133, 67), (294, 207), (411, 312), (489, 437)]
def dfTab : List (Addr × List Value) := [(313, []), (322, []), (546, []), (314, [Value.str "" 564, Value.str "" 565, Value.ref 313, Value.str "" 566]), (323, [Value.str "html" 579, Value.ref 322]), (352, [Value.int (-1) 618]),
  (430, [Value.bool false]), (515, [Value.int (-1) 857]), (530, [Value.int (-1) 883]), (538, [Value.str "html" 894]), (547, [Value.ref 546, Value.str "html" 905])]
/-- address, qualified name, class or top and place in it, defaults -/
def fnTab0 : List (Addr × String × Stmt × Value) := [(67, "Formatting.__init__", mS 5 0, Value.none), (151, "is_space", tS 8, Value.none), (207, "OpenStack.__init__", mS 17 0, Value.none), (214, "OpenStack.push", mS 17 1, Value.none), (221, "OpenStack.pop", mS 17 2, Value.none), (228, "OpenStack.current", mS 17 3, Value.none), (235, "OpenStack.many", mS 17 4, Value.none), (270, "OpenStack.name", mS 17 9, Value.none), (312, "Tree.__init__", mS 19 0, Value.none), (321, "Tree.add", mS 19 1, Value.ref 314), (330, "Tree.element", mS 19 2, Value.ref 323), (337, "Tree.text", mS 19 3, Value.none)]
def fnTab1 : List (Addr × String × Stmt × Value) := [(344, "Tree.comment", mS 19 4, Value.none), (359, "Tree.insert", mS 19 6, Value.ref 352), (373, "Tree.remove", mS 19 8, Value.none), (394, "Tree.last", mS 19 11, Value.none), (422, "above", tS 20, Value.none), (437, "Builder.__init__", mS 22 0, Value.ref 430), (444, "Builder.error", mS 22 1, Value.none), (451, "Builder.to", mS 22 2, Value.none), (458, "Builder.use", mS 22 3, Value.none), (465, "Builder.process", mS 22 4, Value.none), (472, "Builder.feed", mS 22 5, Value.none), (479, "Builder.adjusted", mS 22 6, Value.none)]
def fnTab2 : List (Addr × String × Stmt × Value) := [(486, "Builder.is_foreign", mS 22 7, Value.none), (500, "is_html_turn", tS 23, Value.none), (507, "finish", tS 24, Value.none), (522, "place_for", tS 27, Value.ref 515), (529, "insert_sign", tS 28, Value.none), (537, "insert_comment", tS 29, Value.ref 530), (545, "make", tS 30, Value.ref 538), (554, "insert_element", tS 31, Value.ref 547), (561, "insert_token", tS 32, Value.none), (568, "insert_void", tS 33, Value.none), (575, "associate", tS 34, Value.none), (582, "is_space_token", tS 36, Value.none)]
def fnTab3 : List (Addr × String × Stmt × Value) := [(589, "is_start_of", tS 38, Value.none), (596, "is_end_of", tS 39, Value.none), (603, "refuse", tS 40, Value.none), (610, "back_to_body", tS 41, Value.none), (617, "after_body", tS 42, Value.none), (624, "is_at_root", tS 43, Value.none), (631, "close_frameset", tS 44, Value.none), (638, "in_frameset", tS 45, Value.none), (645, "after_frameset", tS 46, Value.none), (652, "is_of_body", tS 47, Value.none), (659, "after_after_body", tS 48, Value.none), (666, "after_after_frameset", tS 49, Value.none)]
def fnTab4 : List (Addr × String × Stmt × Value) := [(673, "end_rules", tS 50, Value.none), (680, "_law_places", tS 52, Value.none), (687, "_law_bases", tS 53, Value.none), (694, "_law_rows", tS 54, Value.none), (701, "_law_token", tS 55, Value.none), (708, "_law_body", tS 56, Value.none), (715, "_law_head", tS 57, Value.none), (722, "_law_sort", tS 58, Value.none), (729, "_law_put", tS 59, Value.none), (736, "_law_grow", tS 60, Value.none), (743, "_law_stop", tS 61, Value.none), (750, "_law_body_due", tS 62, Value.none)]
def fnTab5 : List (Addr × String × Stmt × Value) := [(757, "_law_refuse", tS 63, Value.none), (764, "_law_leave", tS 64, Value.none), (771, "_law_due", tS 65, Value.none), (776, "_law_plain", tS 66, Value.none), (781, "_law_scene", tS 67, Value.none)]
def fnTab : List (Addr × String × Stmt × Value) := fnTab0 ++ (fnTab1 ++ (fnTab2 ++ (fnTab3 ++ (fnTab4 ++ (fnTab5)))))
/-- what the top left -/
structure Facts (K : Frag) : Prop where
  glob : AllT (fun p => nsIn K mainGlobals (Str.ofString p.1) = some (some (.ref p.2)) ∧ keepIn K (.ref p.2) = true) globTab
  blt : AllT (fun p => nsIn K mainGlobals (Str.ofString p) = some none) bltTab
  attr : AllT (fun p => AttrOK K p.1 (Str.ofString p.2)) attrTab
  set : AllT (fun p => SetOK K p.1 (Str.ofString p.2)) setTab
  meth : AllT (fun p => MethOK K p.1 (Str.ofString p.2.1) p.2.2) methTab
  cls : AllT (fun p => makesIn K p.1 = true ∧ findIn K (.ref p.1) "__init__" = some (some (.ref p.2)) ∧ isFn K (.ref p.2) = true) clsTab
  dfl : AllT (fun p => K.lookup p.1 = some ⟨.type "tuple", none, .seq p.2.toArray, #[]⟩) dfTab
  fn : AllT (fun p => FnAt K p.1 (Str.ofString p.2.1) p.2.2.1 p.2.2.2) fnTab
/-- names and values meet -/
def Bound (K : Frag) (qual : Str) (st : Stmt) (dV : Value) (xs : List V) (binds : List (Str × V)) : Prop :=
  ∀ (kV doc pm cdv ct : Value) (an : Option Addr) (s : Shared) (wd : WD) (vals : List Value), VRs K wd xs vals → K.In s.heap → ∃ bs, BindsTo s (fnOf (nm st) qual (pr st) (bd st) (sco st) dV kV doc pm an cdv ct) ⟨vals, []⟩ bs ∧ BR K wd binds bs
section
variable {M : Amb} {d : Nat} {cl : List (Str × Loc)} {ml : List (Str × V)} {H : MH}
theorem CALL_fn {f : Addr} {qual : Str} {st : Stmt} {dV : Value} {xs : List V} {binds : List (Str × V)} {Q : V → MH → Prop} (hf : FnAt M.K f qual st dV) (hb : Bound M.K qual st dV xs binds)
    (hok : ((binds.all fun y => decide ((sco st).names.lookup y.1 = some .local)) && !(sco st).isCoroutine && !(sco st).isGenerator && decide ((sco st).kind = .function) && ((sco st).names.all fun x => decide (x.2 ≠ .cell))) = true)
    (h : TS M d (sco st) [] binds.reverse H (bd st) (backS Q)) : CALL M (d + 1) cl ml H f xs Q := by
  obtain ⟨kV, doc, pm, cdv, ct, oc, an, od, osl, ho, hcd⟩ := hf
  simp only [Bool.and_eq_true, Bool.not_eq_true'] at hok
  obtain ⟨⟨⟨⟨h1, h2⟩, h3⟩, h4⟩, h5⟩ := hok
  exact CALL_def ho hcd (hb _ _ _ _ _ _) h1 h2 h3 (of_decide_eq_true h4) h5 h
end
theorem at_Formatting_init {K : Frag} (F : Facts K) : FnAt K 67 "Formatting.__init__" (mS 5 0) .none := F.fn.1
theorem b_Formatting_init {K : Frag} {x0 x1 : V} : Bound K "Formatting.__init__" (mS 5 0) .none [x0, x1] [("self", x0), ("tree", x1)] := fun _ _ _ _ _ _ _ _ _ r _ => match r with | .cons r0 (.cons r1 .nil) => ⟨[("self", _), ("tree", _)], BindsTo.of_eq rfl, .cons r0 (.cons r1 .nil)⟩
theorem at_is_space {K : Frag} (F : Facts K) : FnAt K 151 "is_space" (tS 8) .none := F.fn.2.1
theorem b_is_space {K : Frag} {x0 : V} : Bound K "is_space" (tS 8) .none [x0] [("c", x0)] := fun _ _ _ _ _ _ _ _ _ r _ => match r with | .cons r0 .nil => ⟨[("c", _)], BindsTo.of_eq rfl, .cons r0 .nil⟩
theorem at_OpenStack_init {K : Frag} (F : Facts K) : FnAt K 207 "OpenStack.__init__" (mS 17 0) .none := F.fn.2.2.1
theorem b_OpenStack_init {K : Frag} {x0 x1 : V} : Bound K "OpenStack.__init__" (mS 17 0) .none [x0, x1] [("self", x0), ("tree", x1)] := fun _ _ _ _ _ _ _ _ _ r _ => match r with | .cons r0 (.cons r1 .nil) => ⟨[("self", _), ("tree", _)], BindsTo.of_eq rfl, .cons r0 (.cons r1 .nil)⟩
theorem at_OpenStack_push {K : Frag} (F : Facts K) : FnAt K 214 "OpenStack.push" (mS 17 1) .none := F.fn.2.2.2.1
theorem b_OpenStack_push {K : Frag} {x0 x1 : V} : Bound K "OpenStack.push" (mS 17 1) .none [x0, x1] [("self", x0), ("node", x1)] := fun _ _ _ _ _ _ _ _ _ r _ => match r with | .cons r0 (.cons r1 .nil) => ⟨[("self", _), ("node", _)], BindsTo.of_eq rfl, .cons r0 (.cons r1 .nil)⟩
theorem at_OpenStack_pop {K : Frag} (F : Facts K) : FnAt K 221 "OpenStack.pop" (mS 17 2) .none := F.fn.2.2.2.2.1
theorem b_OpenStack_pop {K : Frag} {x0 : V} : Bound K "OpenStack.pop" (mS 17 2) .none [x0] [("self", x0)] := fun _ _ _ _ _ _ _ _ _ r _ => match r with | .cons r0 .nil => ⟨[("self", _)], BindsTo.of_eq rfl, .cons r0 .nil⟩
theorem at_OpenStack_current {K : Frag} (F : Facts K) : FnAt K 228 "OpenStack.current" (mS 17 3) .none := F.fn.2.2.2.2.2.1
theorem b_OpenStack_current {K : Frag} {x0 : V} : Bound K "OpenStack.current" (mS 17 3) .none [x0] [("self", x0)] := fun _ _ _ _ _ _ _ _ _ r _ => match r with | .cons r0 .nil => ⟨[("self", _)], BindsTo.of_eq rfl, .cons r0 .nil⟩
theorem at_OpenStack_many {K : Frag} (F : Facts K) : FnAt K 235 "OpenStack.many" (mS 17 4) .none := F.fn.2.2.2.2.2.2.1
theorem b_OpenStack_many {K : Frag} {x0 : V} : Bound K "OpenStack.many" (mS 17 4) .none [x0] [("self", x0)] := fun _ _ _ _ _ _ _ _ _ r _ => match r with | .cons r0 .nil => ⟨[("self", _)], BindsTo.of_eq rfl, .cons r0 .nil⟩
theorem at_OpenStack_name {K : Frag} (F : Facts K) : FnAt K 270 "OpenStack.name" (mS 17 9) .none := F.fn.2.2.2.2.2.2.2.1
theorem b_OpenStack_name {K : Frag} {x0 : V} : Bound K "OpenStack.name" (mS 17 9) .none [x0] [("self", x0)] := fun _ _ _ _ _ _ _ _ _ r _ => match r with | .cons r0 .nil => ⟨[("self", _)], BindsTo.of_eq rfl, .cons r0 .nil⟩
theorem at_Tree_init {K : Frag} (F : Facts K) : FnAt K 312 "Tree.__init__" (mS 19 0) .none := F.fn.2.2.2.2.2.2.2.2.1
theorem b_Tree_init {K : Frag} {x0 : V} : Bound K "Tree.__init__" (mS 19 0) .none [x0] [("self", x0)] := fun _ _ _ _ _ _ _ _ _ r _ => match r with | .cons r0 .nil => ⟨[("self", _)], BindsTo.of_eq rfl, .cons r0 .nil⟩
theorem at_Tree_add {K : Frag} (F : Facts K) : FnAt K 321 "Tree.add" (mS 19 1) (.ref 314) := F.fn.2.2.2.2.2.2.2.2.2.1
theorem b_Tree_add2 {K : Frag} (F : Facts K) {x0 x1 : V} : Bound K "Tree.add" (mS 19 1) (.ref 314) [x0, x1] [("self", x0), ("kind", x1), ("space", .str ""), ("name", .str ""), ("attrs", .tup []), ("text", .str "")] := fun _ _ _ _ _ _ _ _ _ r X => match r with | .cons r0 (.cons r1 .nil) => ⟨[("self", _), ("kind", _), ("space", _), ("name", _), ("attrs", _), ("text", _)], BindsTo.of_defaults rfl (X _ _ (F.dfl.2.2.2.1)) rfl rfl rfl, .cons r0 (.cons r1 (.cons (.str _ _) (.cons (.str _ _) (.cons (.ktup (F.dfl.1)) (.cons (.str _ _) .nil)))))⟩
theorem b_Tree_add5 {K : Frag} (F : Facts K) {x0 x1 x2 x3 x4 : V} : Bound K "Tree.add" (mS 19 1) (.ref 314) [x0, x1, x2, x3, x4] [("self", x0), ("kind", x1), ("space", x2), ("name", x3), ("attrs", x4), ("text", .str "")] := fun _ _ _ _ _ _ _ _ _ r X => match r with | .cons r0 (.cons r1 (.cons r2 (.cons r3 (.cons r4 .nil)))) => ⟨[("self", _), ("kind", _), ("space", _), ("name", _), ("attrs", _), ("text", _)], BindsTo.of_defaults rfl (X _ _ (F.dfl.2.2.2.1)) rfl rfl rfl, .cons r0 (.cons r1 (.cons r2 (.cons r3 (.cons r4 (.cons (.str _ _) .nil)))))⟩
theorem b_Tree_add6 {K : Frag} (F : Facts K) {x0 x1 x2 x3 x4 x5 : V} : Bound K "Tree.add" (mS 19 1) (.ref 314) [x0, x1, x2, x3, x4, x5] [("self", x0), ("kind", x1), ("space", x2), ("name", x3), ("attrs", x4), ("text", x5)] := fun _ _ _ _ _ _ _ _ _ r X => match r with | .cons r0 (.cons r1 (.cons r2 (.cons r3 (.cons r4 (.cons r5 .nil))))) => ⟨[("self", _), ("kind", _), ("space", _), ("name", _), ("attrs", _), ("text", _)], BindsTo.of_defaults rfl (X _ _ (F.dfl.2.2.2.1)) rfl rfl rfl, .cons r0 (.cons r1 (.cons r2 (.cons r3 (.cons r4 (.cons r5 .nil)))))⟩
theorem at_Tree_element {K : Frag} (F : Facts K) : FnAt K 330 "Tree.element" (mS 19 2) (.ref 323) := F.fn.2.2.2.2.2.2.2.2.2.2.1
theorem b_Tree_element2 {K : Frag} (F : Facts K) {x0 x1 : V} : Bound K "Tree.element" (mS 19 2) (.ref 323) [x0, x1] [("self", x0), ("name", x1), ("space", .str "html"), ("attrs", .tup [])] := fun _ _ _ _ _ _ _ _ _ r X => match r with | .cons r0 (.cons r1 .nil) => ⟨[("self", _), ("name", _), ("space", _), ("attrs", _)], BindsTo.of_defaults rfl (X _ _ (F.dfl.2.2.2.2.1)) rfl rfl rfl, .cons r0 (.cons r1 (.cons (.str _ _) (.cons (.ktup (F.dfl.2.1)) .nil)))⟩
theorem b_Tree_element4 {K : Frag} (F : Facts K) {x0 x1 x2 x3 : V} : Bound K "Tree.element" (mS 19 2) (.ref 323) [x0, x1, x2, x3] [("self", x0), ("name", x1), ("space", x2), ("attrs", x3)] := fun _ _ _ _ _ _ _ _ _ r X => match r with | .cons r0 (.cons r1 (.cons r2 (.cons r3 .nil))) => ⟨[("self", _), ("name", _), ("space", _), ("attrs", _)], BindsTo.of_defaults rfl (X _ _ (F.dfl.2.2.2.2.1)) rfl rfl rfl, .cons r0 (.cons r1 (.cons r2 (.cons r3 .nil)))⟩
theorem at_Tree_text {K : Frag} (F : Facts K) : FnAt K 337 "Tree.text" (mS 19 3) .none := F.fn.2.2.2.2.2.2.2.2.2.2.2.1
theorem b_Tree_text {K : Frag} {x0 x1 : V} : Bound K "Tree.text" (mS 19 3) .none [x0, x1] [("self", x0), ("text", x1)] := fun _ _ _ _ _ _ _ _ _ r _ => match r with | .cons r0 (.cons r1 .nil) => ⟨[("self", _), ("text", _)], BindsTo.of_eq rfl, .cons r0 (.cons r1 .nil)⟩
theorem at_Tree_comment {K : Frag} (F : Facts K) : FnAt K 344 "Tree.comment" (mS 19 4) .none := F.fn.2.2.2.2.2.2.2.2.2.2.2.2.1
theorem b_Tree_comment {K : Frag} {x0 x1 : V} : Bound K "Tree.comment" (mS 19 4) .none [x0, x1] [("self", x0), ("text", x1)] := fun _ _ _ _ _ _ _ _ _ r _ => match r with | .cons r0 (.cons r1 .nil) => ⟨[("self", _), ("text", _)], BindsTo.of_eq rfl, .cons r0 (.cons r1 .nil)⟩
theorem at_Tree_insert {K : Frag} (F : Facts K) : FnAt K 359 "Tree.insert" (mS 19 6) (.ref 352) := F.fn.2.2.2.2.2.2.2.2.2.2.2.2.2.1
theorem b_Tree_insert {K : Frag} (F : Facts K) {x0 x1 x2 x3 : V} : Bound K "Tree.insert" (mS 19 6) (.ref 352) [x0, x1, x2, x3] [("self", x0), ("parent", x1), ("node", x2), ("before", x3)] := fun _ _ _ _ _ _ _ _ _ r X => match r with | .cons r0 (.cons r1 (.cons r2 (.cons r3 .nil))) => ⟨[("self", _), ("parent", _), ("node", _), ("before", _)], BindsTo.of_defaults rfl (X _ _ (F.dfl.2.2.2.2.2.1)) rfl rfl rfl, .cons r0 (.cons r1 (.cons r2 (.cons r3 .nil)))⟩
theorem at_Tree_remove {K : Frag} (F : Facts K) : FnAt K 373 "Tree.remove" (mS 19 8) .none := F.fn.2.2.2.2.2.2.2.2.2.2.2.2.2.2.1
theorem b_Tree_remove {K : Frag} {x0 x1 : V} : Bound K "Tree.remove" (mS 19 8) .none [x0, x1] [("self", x0), ("node", x1)] := fun _ _ _ _ _ _ _ _ _ r _ => match r with | .cons r0 (.cons r1 .nil) => ⟨[("self", _), ("node", _)], BindsTo.of_eq rfl, .cons r0 (.cons r1 .nil)⟩
theorem at_Tree_last {K : Frag} (F : Facts K) : FnAt K 394 "Tree.last" (mS 19 11) .none := F.fn.2.2.2.2.2.2.2.2.2.2.2.2.2.2.2.1
theorem b_Tree_last {K : Frag} {x0 x1 : V} : Bound K "Tree.last" (mS 19 11) .none [x0, x1] [("self", x0), ("parent", x1)] := fun _ _ _ _ _ _ _ _ _ r _ => match r with | .cons r0 (.cons r1 .nil) => ⟨[("self", _), ("parent", _)], BindsTo.of_eq rfl, .cons r0 (.cons r1 .nil)⟩
theorem at_above {K : Frag} (F : Facts K) : FnAt K 422 "above" (tS 20) .none := F.fn.2.2.2.2.2.2.2.2.2.2.2.2.2.2.2.2.1
theorem b_above {K : Frag} {x0 x1 : V} : Bound K "above" (tS 20) .none [x0, x1] [("tree", x0), ("node", x1)] := fun _ _ _ _ _ _ _ _ _ r _ => match r with | .cons r0 (.cons r1 .nil) => ⟨[("tree", _), ("node", _)], BindsTo.of_eq rfl, .cons r0 (.cons r1 .nil)⟩
theorem at_Builder_init {K : Frag} (F : Facts K) : FnAt K 437 "Builder.__init__" (mS 22 0) (.ref 430) := F.fn.2.2.2.2.2.2.2.2.2.2.2.2.2.2.2.2.2.1
theorem b_Builder_init {K : Frag} (F : Facts K) {x0 x1 : V} : Bound K "Builder.__init__" (mS 22 0) (.ref 430) [x0, x1] [("self", x0), ("rules", x1), ("is_scripting", .bool false)] := fun _ _ _ _ _ _ _ _ _ r X => match r with | .cons r0 (.cons r1 .nil) => ⟨[("self", _), ("rules", _), ("is_scripting", _)], BindsTo.of_defaults rfl (X _ _ (F.dfl.2.2.2.2.2.2.1)) rfl rfl rfl, .cons r0 (.cons r1 (.cons (.bool _) .nil))⟩
theorem at_Builder_error {K : Frag} (F : Facts K) : FnAt K 444 "Builder.error" (mS 22 1) .none := F.fn.2.2.2.2.2.2.2.2.2.2.2.2.2.2.2.2.2.2.1
theorem b_Builder_error {K : Frag} {x0 x1 : V} : Bound K "Builder.error" (mS 22 1) .none [x0, x1] [("self", x0), ("word", x1)] := fun _ _ _ _ _ _ _ _ _ r _ => match r with | .cons r0 (.cons r1 .nil) => ⟨[("self", _), ("word", _)], BindsTo.of_eq rfl, .cons r0 (.cons r1 .nil)⟩
theorem at_Builder_to {K : Frag} (F : Facts K) : FnAt K 451 "Builder.to" (mS 22 2) .none := F.fn.2.2.2.2.2.2.2.2.2.2.2.2.2.2.2.2.2.2.2.1
theorem b_Builder_to {K : Frag} {x0 x1 : V} : Bound K "Builder.to" (mS 22 2) .none [x0, x1] [("self", x0), ("mode", x1)] := fun _ _ _ _ _ _ _ _ _ r _ => match r with | .cons r0 (.cons r1 .nil) => ⟨[("self", _), ("mode", _)], BindsTo.of_eq rfl, .cons r0 (.cons r1 .nil)⟩
theorem at_Builder_use {K : Frag} (F : Facts K) : FnAt K 458 "Builder.use" (mS 22 3) .none := F.fn.2.2.2.2.2.2.2.2.2.2.2.2.2.2.2.2.2.2.2.2.1
theorem b_Builder_use {K : Frag} {x0 x1 x2 : V} : Bound K "Builder.use" (mS 22 3) .none [x0, x1, x2] [("self", x0), ("name", x1), ("token", x2)] := fun _ _ _ _ _ _ _ _ _ r _ => match r with | .cons r0 (.cons r1 (.cons r2 .nil)) => ⟨[("self", _), ("name", _), ("token", _)], BindsTo.of_eq rfl, .cons r0 (.cons r1 (.cons r2 .nil))⟩
theorem at_Builder_process {K : Frag} (F : Facts K) : FnAt K 465 "Builder.process" (mS 22 4) .none := F.fn.2.2.2.2.2.2.2.2.2.2.2.2.2.2.2.2.2.2.2.2.2.1
theorem b_Builder_process {K : Frag} {x0 x1 : V} : Bound K "Builder.process" (mS 22 4) .none [x0, x1] [("self", x0), ("token", x1)] := fun _ _ _ _ _ _ _ _ _ r _ => match r with | .cons r0 (.cons r1 .nil) => ⟨[("self", _), ("token", _)], BindsTo.of_eq rfl, .cons r0 (.cons r1 .nil)⟩
theorem at_Builder_feed {K : Frag} (F : Facts K) : FnAt K 472 "Builder.feed" (mS 22 5) .none := F.fn.2.2.2.2.2.2.2.2.2.2.2.2.2.2.2.2.2.2.2.2.2.2.1
theorem b_Builder_feed {K : Frag} {x0 x1 : V} : Bound K "Builder.feed" (mS 22 5) .none [x0, x1] [("self", x0), ("token", x1)] := fun _ _ _ _ _ _ _ _ _ r _ => match r with | .cons r0 (.cons r1 .nil) => ⟨[("self", _), ("token", _)], BindsTo.of_eq rfl, .cons r0 (.cons r1 .nil)⟩
theorem at_Builder_adjusted {K : Frag} (F : Facts K) : FnAt K 479 "Builder.adjusted" (mS 22 6) .none := F.fn.2.2.2.2.2.2.2.2.2.2.2.2.2.2.2.2.2.2.2.2.2.2.2.1
theorem b_Builder_adjusted {K : Frag} {x0 : V} : Bound K "Builder.adjusted" (mS 22 6) .none [x0] [("self", x0)] := fun _ _ _ _ _ _ _ _ _ r _ => match r with | .cons r0 .nil => ⟨[("self", _)], BindsTo.of_eq rfl, .cons r0 .nil⟩
theorem at_Builder_is_foreign {K : Frag} (F : Facts K) : FnAt K 486 "Builder.is_foreign" (mS 22 7) .none := F.fn.2.2.2.2.2.2.2.2.2.2.2.2.2.2.2.2.2.2.2.2.2.2.2.2.1
theorem b_Builder_is_foreign {K : Frag} {x0 : V} : Bound K "Builder.is_foreign" (mS 22 7) .none [x0] [("self", x0)] := fun _ _ _ _ _ _ _ _ _ r _ => match r with | .cons r0 .nil => ⟨[("self", _)], BindsTo.of_eq rfl, .cons r0 .nil⟩
theorem at_is_html_turn {K : Frag} (F : Facts K) : FnAt K 500 "is_html_turn" (tS 23) .none := F.fn.2.2.2.2.2.2.2.2.2.2.2.2.2.2.2.2.2.2.2.2.2.2.2.2.2.1
theorem b_is_html_turn {K : Frag} {x0 x1 : V} : Bound K "is_html_turn" (tS 23) .none [x0, x1] [("builder", x0), ("token", x1)] := fun _ _ _ _ _ _ _ _ _ r _ => match r with | .cons r0 (.cons r1 .nil) => ⟨[("builder", _), ("token", _)], BindsTo.of_eq rfl, .cons r0 (.cons r1 .nil)⟩
theorem at_finish {K : Frag} (F : Facts K) : FnAt K 507 "finish" (tS 24) .none := F.fn.2.2.2.2.2.2.2.2.2.2.2.2.2.2.2.2.2.2.2.2.2.2.2.2.2.2.1
theorem b_finish {K : Frag} {x0 : V} : Bound K "finish" (tS 24) .none [x0] [("builder", x0)] := fun _ _ _ _ _ _ _ _ _ r _ => match r with | .cons r0 .nil => ⟨[("builder", _)], BindsTo.of_eq rfl, .cons r0 .nil⟩
theorem at_place_for {K : Frag} (F : Facts K) : FnAt K 522 "place_for" (tS 27) (.ref 515) := F.fn.2.2.2.2.2.2.2.2.2.2.2.2.2.2.2.2.2.2.2.2.2.2.2.2.2.2.2.1
theorem b_place_for {K : Frag} (F : Facts K) {x0 : V} : Bound K "place_for" (tS 27) (.ref 515) [x0] [("builder", x0), ("target", .int (-1))] := fun _ _ _ _ _ _ _ _ _ r X => match r with | .cons r0 .nil => ⟨[("builder", _), ("target", _)], BindsTo.of_defaults rfl (X _ _ (F.dfl.2.2.2.2.2.2.2.1)) rfl rfl rfl, .cons r0 (.cons (.int _ _) .nil)⟩
theorem at_insert_sign {K : Frag} (F : Facts K) : FnAt K 529 "insert_sign" (tS 28) .none := F.fn.2.2.2.2.2.2.2.2.2.2.2.2.2.2.2.2.2.2.2.2.2.2.2.2.2.2.2.2.1
theorem b_insert_sign {K : Frag} {x0 x1 : V} : Bound K "insert_sign" (tS 28) .none [x0, x1] [("builder", x0), ("sign", x1)] := fun _ _ _ _ _ _ _ _ _ r _ => match r with | .cons r0 (.cons r1 .nil) => ⟨[("builder", _), ("sign", _)], BindsTo.of_eq rfl, .cons r0 (.cons r1 .nil)⟩
theorem at_insert_comment {K : Frag} (F : Facts K) : FnAt K 537 "insert_comment" (tS 29) (.ref 530) := F.fn.2.2.2.2.2.2.2.2.2.2.2.2.2.2.2.2.2.2.2.2.2.2.2.2.2.2.2.2.2.1
theorem b_insert_comment2 {K : Frag} (F : Facts K) {x0 x1 : V} : Bound K "insert_comment" (tS 29) (.ref 530) [x0, x1] [("builder", x0), ("text", x1), ("parent", .int (-1))] := fun _ _ _ _ _ _ _ _ _ r X => match r with | .cons r0 (.cons r1 .nil) => ⟨[("builder", _), ("text", _), ("parent", _)], BindsTo.of_defaults rfl (X _ _ (F.dfl.2.2.2.2.2.2.2.2.1)) rfl rfl rfl, .cons r0 (.cons r1 (.cons (.int _ _) .nil))⟩
theorem b_insert_comment3 {K : Frag} (F : Facts K) {x0 x1 x2 : V} : Bound K "insert_comment" (tS 29) (.ref 530) [x0, x1, x2] [("builder", x0), ("text", x1), ("parent", x2)] := fun _ _ _ _ _ _ _ _ _ r X => match r with | .cons r0 (.cons r1 (.cons r2 .nil)) => ⟨[("builder", _), ("text", _), ("parent", _)], BindsTo.of_defaults rfl (X _ _ (F.dfl.2.2.2.2.2.2.2.2.1)) rfl rfl rfl, .cons r0 (.cons r1 (.cons r2 .nil))⟩
theorem at_make {K : Frag} (F : Facts K) : FnAt K 545 "make" (tS 30) (.ref 538) := F.fn.2.2.2.2.2.2.2.2.2.2.2.2.2.2.2.2.2.2.2.2.2.2.2.2.2.2.2.2.2.2.1
theorem b_make {K : Frag} (F : Facts K) {x0 x1 x2 x3 : V} : Bound K "make" (tS 30) (.ref 538) [x0, x1, x2, x3] [("builder", x0), ("name", x1), ("attrs", x2), ("space", x3)] := fun _ _ _ _ _ _ _ _ _ r X => match r with | .cons r0 (.cons r1 (.cons r2 (.cons r3 .nil))) => ⟨[("builder", _), ("name", _), ("attrs", _), ("space", _)], BindsTo.of_defaults rfl (X _ _ (F.dfl.2.2.2.2.2.2.2.2.2.1)) rfl rfl rfl, .cons r0 (.cons r1 (.cons r2 (.cons r3 .nil)))⟩
theorem at_insert_element {K : Frag} (F : Facts K) : FnAt K 554 "insert_element" (tS 31) (.ref 547) := F.fn.2.2.2.2.2.2.2.2.2.2.2.2.2.2.2.2.2.2.2.2.2.2.2.2.2.2.2.2.2.2.2.1
theorem b_insert_element2 {K : Frag} (F : Facts K) {x0 x1 : V} : Bound K "insert_element" (tS 31) (.ref 547) [x0, x1] [("builder", x0), ("name", x1), ("attrs", .tup []), ("space", .str "html")] := fun _ _ _ _ _ _ _ _ _ r X => match r with | .cons r0 (.cons r1 .nil) => ⟨[("builder", _), ("name", _), ("attrs", _), ("space", _)], BindsTo.of_defaults rfl (X _ _ (F.dfl.2.2.2.2.2.2.2.2.2.2.1)) rfl rfl rfl, .cons r0 (.cons r1 (.cons (.ktup (F.dfl.2.2.1)) (.cons (.str _ _) .nil)))⟩
theorem b_insert_element3 {K : Frag} (F : Facts K) {x0 x1 x2 : V} : Bound K "insert_element" (tS 31) (.ref 547) [x0, x1, x2] [("builder", x0), ("name", x1), ("attrs", x2), ("space", .str "html")] := fun _ _ _ _ _ _ _ _ _ r X => match r with | .cons r0 (.cons r1 (.cons r2 .nil)) => ⟨[("builder", _), ("name", _), ("attrs", _), ("space", _)], BindsTo.of_defaults rfl (X _ _ (F.dfl.2.2.2.2.2.2.2.2.2.2.1)) rfl rfl rfl, .cons r0 (.cons r1 (.cons r2 (.cons (.str _ _) .nil)))⟩
theorem at_insert_token {K : Frag} (F : Facts K) : FnAt K 561 "insert_token" (tS 32) .none := F.fn.2.2.2.2.2.2.2.2.2.2.2.2.2.2.2.2.2.2.2.2.2.2.2.2.2.2.2.2.2.2.2.2.1
theorem b_insert_token {K : Frag} {x0 x1 : V} : Bound K "insert_token" (tS 32) .none [x0, x1] [("builder", x0), ("token", x1)] := fun _ _ _ _ _ _ _ _ _ r _ => match r with | .cons r0 (.cons r1 .nil) => ⟨[("builder", _), ("token", _)], BindsTo.of_eq rfl, .cons r0 (.cons r1 .nil)⟩
theorem at_insert_void {K : Frag} (F : Facts K) : FnAt K 568 "insert_void" (tS 33) .none := F.fn.2.2.2.2.2.2.2.2.2.2.2.2.2.2.2.2.2.2.2.2.2.2.2.2.2.2.2.2.2.2.2.2.2.1
theorem b_insert_void {K : Frag} {x0 x1 : V} : Bound K "insert_void" (tS 33) .none [x0, x1] [("builder", x0), ("token", x1)] := fun _ _ _ _ _ _ _ _ _ r _ => match r with | .cons r0 (.cons r1 .nil) => ⟨[("builder", _), ("token", _)], BindsTo.of_eq rfl, .cons r0 (.cons r1 .nil)⟩
theorem at_associate {K : Frag} (F : Facts K) : FnAt K 575 "associate" (tS 34) .none := F.fn.2.2.2.2.2.2.2.2.2.2.2.2.2.2.2.2.2.2.2.2.2.2.2.2.2.2.2.2.2.2.2.2.2.2.1
theorem b_associate {K : Frag} {x0 x1 : V} : Bound K "associate" (tS 34) .none [x0, x1] [("builder", x0), ("node", x1)] := fun _ _ _ _ _ _ _ _ _ r _ => match r with | .cons r0 (.cons r1 .nil) => ⟨[("builder", _), ("node", _)], BindsTo.of_eq rfl, .cons r0 (.cons r1 .nil)⟩
theorem at_is_space_token {K : Frag} (F : Facts K) : FnAt K 582 "is_space_token" (tS 36) .none := F.fn.2.2.2.2.2.2.2.2.2.2.2.2.2.2.2.2.2.2.2.2.2.2.2.2.2.2.2.2.2.2.2.2.2.2.2.1
theorem b_is_space_token {K : Frag} {x0 : V} : Bound K "is_space_token" (tS 36) .none [x0] [("token", x0)] := fun _ _ _ _ _ _ _ _ _ r _ => match r with | .cons r0 .nil => ⟨[("token", _)], BindsTo.of_eq rfl, .cons r0 .nil⟩
theorem at_is_start_of {K : Frag} (F : Facts K) : FnAt K 589 "is_start_of" (tS 38) .none := F.fn.2.2.2.2.2.2.2.2.2.2.2.2.2.2.2.2.2.2.2.2.2.2.2.2.2.2.2.2.2.2.2.2.2.2.2.2.1
theorem b_is_start_of {K : Frag} {x0 x1 : V} : Bound K "is_start_of" (tS 38) .none [x0, x1] [("token", x0), ("name", x1)] := fun _ _ _ _ _ _ _ _ _ r _ => match r with | .cons r0 (.cons r1 .nil) => ⟨[("token", _), ("name", _)], BindsTo.of_eq rfl, .cons r0 (.cons r1 .nil)⟩
theorem at_is_end_of {K : Frag} (F : Facts K) : FnAt K 596 "is_end_of" (tS 39) .none := F.fn.2.2.2.2.2.2.2.2.2.2.2.2.2.2.2.2.2.2.2.2.2.2.2.2.2.2.2.2.2.2.2.2.2.2.2.2.2.1
theorem b_is_end_of {K : Frag} {x0 x1 : V} : Bound K "is_end_of" (tS 39) .none [x0, x1] [("token", x0), ("name", x1)] := fun _ _ _ _ _ _ _ _ _ r _ => match r with | .cons r0 (.cons r1 .nil) => ⟨[("token", _), ("name", _)], BindsTo.of_eq rfl, .cons r0 (.cons r1 .nil)⟩
theorem at_refuse {K : Frag} (F : Facts K) : FnAt K 603 "refuse" (tS 40) .none := F.fn.2.2.2.2.2.2.2.2.2.2.2.2.2.2.2.2.2.2.2.2.2.2.2.2.2.2.2.2.2.2.2.2.2.2.2.2.2.2.1
theorem b_refuse {K : Frag} {x0 x1 : V} : Bound K "refuse" (tS 40) .none [x0, x1] [("builder", x0), ("token", x1)] := fun _ _ _ _ _ _ _ _ _ r _ => match r with | .cons r0 (.cons r1 .nil) => ⟨[("builder", _), ("token", _)], BindsTo.of_eq rfl, .cons r0 (.cons r1 .nil)⟩
theorem at_back_to_body {K : Frag} (F : Facts K) : FnAt K 610 "back_to_body" (tS 41) .none := F.fn.2.2.2.2.2.2.2.2.2.2.2.2.2.2.2.2.2.2.2.2.2.2.2.2.2.2.2.2.2.2.2.2.2.2.2.2.2.2.2.1
theorem b_back_to_body {K : Frag} {x0 x1 : V} : Bound K "back_to_body" (tS 41) .none [x0, x1] [("builder", x0), ("token", x1)] := fun _ _ _ _ _ _ _ _ _ r _ => match r with | .cons r0 (.cons r1 .nil) => ⟨[("builder", _), ("token", _)], BindsTo.of_eq rfl, .cons r0 (.cons r1 .nil)⟩
theorem at_after_body {K : Frag} (F : Facts K) : FnAt K 617 "after_body" (tS 42) .none := F.fn.2.2.2.2.2.2.2.2.2.2.2.2.2.2.2.2.2.2.2.2.2.2.2.2.2.2.2.2.2.2.2.2.2.2.2.2.2.2.2.2.1
theorem b_after_body {K : Frag} {x0 x1 : V} : Bound K "after_body" (tS 42) .none [x0, x1] [("builder", x0), ("token", x1)] := fun _ _ _ _ _ _ _ _ _ r _ => match r with | .cons r0 (.cons r1 .nil) => ⟨[("builder", _), ("token", _)], BindsTo.of_eq rfl, .cons r0 (.cons r1 .nil)⟩
theorem at_is_at_root {K : Frag} (F : Facts K) : FnAt K 624 "is_at_root" (tS 43) .none := F.fn.2.2.2.2.2.2.2.2.2.2.2.2.2.2.2.2.2.2.2.2.2.2.2.2.2.2.2.2.2.2.2.2.2.2.2.2.2.2.2.2.2.1
theorem b_is_at_root {K : Frag} {x0 : V} : Bound K "is_at_root" (tS 43) .none [x0] [("builder", x0)] := fun _ _ _ _ _ _ _ _ _ r _ => match r with | .cons r0 .nil => ⟨[("builder", _)], BindsTo.of_eq rfl, .cons r0 .nil⟩
theorem at_close_frameset {K : Frag} (F : Facts K) : FnAt K 631 "close_frameset" (tS 44) .none := F.fn.2.2.2.2.2.2.2.2.2.2.2.2.2.2.2.2.2.2.2.2.2.2.2.2.2.2.2.2.2.2.2.2.2.2.2.2.2.2.2.2.2.2.1
theorem b_close_frameset {K : Frag} {x0 x1 : V} : Bound K "close_frameset" (tS 44) .none [x0, x1] [("builder", x0), ("token", x1)] := fun _ _ _ _ _ _ _ _ _ r _ => match r with | .cons r0 (.cons r1 .nil) => ⟨[("builder", _), ("token", _)], BindsTo.of_eq rfl, .cons r0 (.cons r1 .nil)⟩
theorem at_in_frameset {K : Frag} (F : Facts K) : FnAt K 638 "in_frameset" (tS 45) .none := F.fn.2.2.2.2.2.2.2.2.2.2.2.2.2.2.2.2.2.2.2.2.2.2.2.2.2.2.2.2.2.2.2.2.2.2.2.2.2.2.2.2.2.2.2.1
theorem b_in_frameset {K : Frag} {x0 x1 : V} : Bound K "in_frameset" (tS 45) .none [x0, x1] [("builder", x0), ("token", x1)] := fun _ _ _ _ _ _ _ _ _ r _ => match r with | .cons r0 (.cons r1 .nil) => ⟨[("builder", _), ("token", _)], BindsTo.of_eq rfl, .cons r0 (.cons r1 .nil)⟩
theorem at_after_frameset {K : Frag} (F : Facts K) : FnAt K 645 "after_frameset" (tS 46) .none := F.fn.2.2.2.2.2.2.2.2.2.2.2.2.2.2.2.2.2.2.2.2.2.2.2.2.2.2.2.2.2.2.2.2.2.2.2.2.2.2.2.2.2.2.2.2.1
theorem b_after_frameset {K : Frag} {x0 x1 : V} : Bound K "after_frameset" (tS 46) .none [x0, x1] [("builder", x0), ("token", x1)] := fun _ _ _ _ _ _ _ _ _ r _ => match r with | .cons r0 (.cons r1 .nil) => ⟨[("builder", _), ("token", _)], BindsTo.of_eq rfl, .cons r0 (.cons r1 .nil)⟩
theorem at_is_of_body {K : Frag} (F : Facts K) : FnAt K 652 "is_of_body" (tS 47) .none := F.fn.2.2.2.2.2.2.2.2.2.2.2.2.2.2.2.2.2.2.2.2.2.2.2.2.2.2.2.2.2.2.2.2.2.2.2.2.2.2.2.2.2.2.2.2.2.1
theorem b_is_of_body {K : Frag} {x0 : V} : Bound K "is_of_body" (tS 47) .none [x0] [("token", x0)] := fun _ _ _ _ _ _ _ _ _ r _ => match r with | .cons r0 .nil => ⟨[("token", _)], BindsTo.of_eq rfl, .cons r0 .nil⟩
theorem at_after_after_body {K : Frag} (F : Facts K) : FnAt K 659 "after_after_body" (tS 48) .none := F.fn.2.2.2.2.2.2.2.2.2.2.2.2.2.2.2.2.2.2.2.2.2.2.2.2.2.2.2.2.2.2.2.2.2.2.2.2.2.2.2.2.2.2.2.2.2.2.1
theorem b_after_after_body {K : Frag} {x0 x1 : V} : Bound K "after_after_body" (tS 48) .none [x0, x1] [("builder", x0), ("token", x1)] := fun _ _ _ _ _ _ _ _ _ r _ => match r with | .cons r0 (.cons r1 .nil) => ⟨[("builder", _), ("token", _)], BindsTo.of_eq rfl, .cons r0 (.cons r1 .nil)⟩
theorem at_after_after_frameset {K : Frag} (F : Facts K) : FnAt K 666 "after_after_frameset" (tS 49) .none := F.fn.2.2.2.2.2.2.2.2.2.2.2.2.2.2.2.2.2.2.2.2.2.2.2.2.2.2.2.2.2.2.2.2.2.2.2.2.2.2.2.2.2.2.2.2.2.2.2.1
theorem b_after_after_frameset {K : Frag} {x0 x1 : V} : Bound K "after_after_frameset" (tS 49) .none [x0, x1] [("builder", x0), ("token", x1)] := fun _ _ _ _ _ _ _ _ _ r _ => match r with | .cons r0 (.cons r1 .nil) => ⟨[("builder", _), ("token", _)], BindsTo.of_eq rfl, .cons r0 (.cons r1 .nil)⟩
theorem at_end_rules {K : Frag} (F : Facts K) : FnAt K 673 "end_rules" (tS 50) .none := F.fn.2.2.2.2.2.2.2.2.2.2.2.2.2.2.2.2.2.2.2.2.2.2.2.2.2.2.2.2.2.2.2.2.2.2.2.2.2.2.2.2.2.2.2.2.2.2.2.2.1
theorem b_end_rules {K : Frag} : Bound K "end_rules" (tS 50) .none [] [] := fun _ _ _ _ _ _ _ _ _ r _ => match r with | .nil => ⟨[], BindsTo.of_eq rfl, .nil⟩
theorem at_law_places {K : Frag} (F : Facts K) : FnAt K 680 "_law_places" (tS 52) .none := F.fn.2.2.2.2.2.2.2.2.2.2.2.2.2.2.2.2.2.2.2.2.2.2.2.2.2.2.2.2.2.2.2.2.2.2.2.2.2.2.2.2.2.2.2.2.2.2.2.2.2.1
theorem b_law_places {K : Frag} : Bound K "_law_places" (tS 52) .none [] [] := fun _ _ _ _ _ _ _ _ _ r _ => match r with | .nil => ⟨[], BindsTo.of_eq rfl, .nil⟩
theorem at_law_bases {K : Frag} (F : Facts K) : FnAt K 687 "_law_bases" (tS 53) .none := F.fn.2.2.2.2.2.2.2.2.2.2.2.2.2.2.2.2.2.2.2.2.2.2.2.2.2.2.2.2.2.2.2.2.2.2.2.2.2.2.2.2.2.2.2.2.2.2.2.2.2.2.1
theorem b_law_bases {K : Frag} : Bound K "_law_bases" (tS 53) .none [] [] := fun _ _ _ _ _ _ _ _ _ r _ => match r with | .nil => ⟨[], BindsTo.of_eq rfl, .nil⟩
theorem at_law_rows {K : Frag} (F : Facts K) : FnAt K 694 "_law_rows" (tS 54) .none := F.fn.2.2.2.2.2.2.2.2.2.2.2.2.2.2.2.2.2.2.2.2.2.2.2.2.2.2.2.2.2.2.2.2.2.2.2.2.2.2.2.2.2.2.2.2.2.2.2.2.2.2.2.1
theorem b_law_rows {K : Frag} : Bound K "_law_rows" (tS 54) .none [] [] := fun _ _ _ _ _ _ _ _ _ r _ => match r with | .nil => ⟨[], BindsTo.of_eq rfl, .nil⟩
theorem at_law_token {K : Frag} (F : Facts K) : FnAt K 701 "_law_token" (tS 55) .none := F.fn.2.2.2.2.2.2.2.2.2.2.2.2.2.2.2.2.2.2.2.2.2.2.2.2.2.2.2.2.2.2.2.2.2.2.2.2.2.2.2.2.2.2.2.2.2.2.2.2.2.2.2.2.1
theorem b_law_token {K : Frag} {x0 x1 : V} : Bound K "_law_token" (tS 55) .none [x0, x1] [("number", x0), ("place", x1)] := fun _ _ _ _ _ _ _ _ _ r _ => match r with | .cons r0 (.cons r1 .nil) => ⟨[("number", _), ("place", _)], BindsTo.of_eq rfl, .cons r0 (.cons r1 .nil)⟩
theorem at_law_body {K : Frag} (F : Facts K) : FnAt K 708 "_law_body" (tS 56) .none := F.fn.2.2.2.2.2.2.2.2.2.2.2.2.2.2.2.2.2.2.2.2.2.2.2.2.2.2.2.2.2.2.2.2.2.2.2.2.2.2.2.2.2.2.2.2.2.2.2.2.2.2.2.2.2.1
theorem b_law_body {K : Frag} {x0 x1 : V} : Bound K "_law_body" (tS 56) .none [x0, x1] [("builder", x0), ("token", x1)] := fun _ _ _ _ _ _ _ _ _ r _ => match r with | .cons r0 (.cons r1 .nil) => ⟨[("builder", _), ("token", _)], BindsTo.of_eq rfl, .cons r0 (.cons r1 .nil)⟩
theorem at_law_head {K : Frag} (F : Facts K) : FnAt K 715 "_law_head" (tS 57) .none := F.fn.2.2.2.2.2.2.2.2.2.2.2.2.2.2.2.2.2.2.2.2.2.2.2.2.2.2.2.2.2.2.2.2.2.2.2.2.2.2.2.2.2.2.2.2.2.2.2.2.2.2.2.2.2.2.1
theorem b_law_head {K : Frag} {x0 x1 : V} : Bound K "_law_head" (tS 57) .none [x0, x1] [("builder", x0), ("token", x1)] := fun _ _ _ _ _ _ _ _ _ r _ => match r with | .cons r0 (.cons r1 .nil) => ⟨[("builder", _), ("token", _)], BindsTo.of_eq rfl, .cons r0 (.cons r1 .nil)⟩
theorem at_law_sort {K : Frag} (F : Facts K) : FnAt K 722 "_law_sort" (tS 58) .none := F.fn.2.2.2.2.2.2.2.2.2.2.2.2.2.2.2.2.2.2.2.2.2.2.2.2.2.2.2.2.2.2.2.2.2.2.2.2.2.2.2.2.2.2.2.2.2.2.2.2.2.2.2.2.2.2.2.1
theorem b_law_sort {K : Frag} {x0 : V} : Bound K "_law_sort" (tS 58) .none [x0] [("token", x0)] := fun _ _ _ _ _ _ _ _ _ r _ => match r with | .cons r0 .nil => ⟨[("token", _)], BindsTo.of_eq rfl, .cons r0 .nil⟩
theorem at_law_put {K : Frag} (F : Facts K) : FnAt K 729 "_law_put" (tS 59) .none := F.fn.2.2.2.2.2.2.2.2.2.2.2.2.2.2.2.2.2.2.2.2.2.2.2.2.2.2.2.2.2.2.2.2.2.2.2.2.2.2.2.2.2.2.2.2.2.2.2.2.2.2.2.2.2.2.2.2.1
theorem b_law_put {K : Frag} {x0 x1 : V} : Bound K "_law_put" (tS 59) .none [x0, x1] [("node", x0), ("sign", x1)] := fun _ _ _ _ _ _ _ _ _ r _ => match r with | .cons r0 (.cons r1 .nil) => ⟨[("node", _), ("sign", _)], BindsTo.of_eq rfl, .cons r0 (.cons r1 .nil)⟩
theorem at_law_grow {K : Frag} (F : Facts K) : FnAt K 736 "_law_grow" (tS 60) .none := F.fn.2.2.2.2.2.2.2.2.2.2.2.2.2.2.2.2.2.2.2.2.2.2.2.2.2.2.2.2.2.2.2.2.2.2.2.2.2.2.2.2.2.2.2.2.2.2.2.2.2.2.2.2.2.2.2.2.2.1
theorem b_law_grow {K : Frag} {x0 x1 x2 x3 : V} : Bound K "_law_grow" (tS 60) .none [x0, x1, x2, x3] [("state", x0), ("name", x1), ("attrs", x2), ("keeps", x3)] := fun _ _ _ _ _ _ _ _ _ r _ => match r with | .cons r0 (.cons r1 (.cons r2 (.cons r3 .nil))) => ⟨[("state", _), ("name", _), ("attrs", _), ("keeps", _)], BindsTo.of_eq rfl, .cons r0 (.cons r1 (.cons r2 (.cons r3 .nil)))⟩
theorem at_law_stop {K : Frag} (F : Facts K) : FnAt K 743 "_law_stop" (tS 61) .none := F.fn.2.2.2.2.2.2.2.2.2.2.2.2.2.2.2.2.2.2.2.2.2.2.2.2.2.2.2.2.2.2.2.2.2.2.2.2.2.2.2.2.2.2.2.2.2.2.2.2.2.2.2.2.2.2.2.2.2.2.1
theorem b_law_stop {K : Frag} {x0 : V} : Bound K "_law_stop" (tS 61) .none [x0] [("state", x0)] := fun _ _ _ _ _ _ _ _ _ r _ => match r with | .cons r0 .nil => ⟨[("state", _)], BindsTo.of_eq rfl, .cons r0 .nil⟩
theorem at_law_body_due {K : Frag} (F : Facts K) : FnAt K 750 "_law_body_due" (tS 62) .none := F.fn.2.2.2.2.2.2.2.2.2.2.2.2.2.2.2.2.2.2.2.2.2.2.2.2.2.2.2.2.2.2.2.2.2.2.2.2.2.2.2.2.2.2.2.2.2.2.2.2.2.2.2.2.2.2.2.2.2.2.2.1
theorem b_law_body_due {K : Frag} {x0 x1 : V} : Bound K "_law_body_due" (tS 62) .none [x0, x1] [("state", x0), ("token", x1)] := fun _ _ _ _ _ _ _ _ _ r _ => match r with | .cons r0 (.cons r1 .nil) => ⟨[("state", _), ("token", _)], BindsTo.of_eq rfl, .cons r0 (.cons r1 .nil)⟩
theorem at_law_refuse {K : Frag} (F : Facts K) : FnAt K 757 "_law_refuse" (tS 63) .none := F.fn.2.2.2.2.2.2.2.2.2.2.2.2.2.2.2.2.2.2.2.2.2.2.2.2.2.2.2.2.2.2.2.2.2.2.2.2.2.2.2.2.2.2.2.2.2.2.2.2.2.2.2.2.2.2.2.2.2.2.2.2.1
theorem b_law_refuse {K : Frag} {x0 x1 : V} : Bound K "_law_refuse" (tS 63) .none [x0, x1] [("state", x0), ("token", x1)] := fun _ _ _ _ _ _ _ _ _ r _ => match r with | .cons r0 (.cons r1 .nil) => ⟨[("state", _), ("token", _)], BindsTo.of_eq rfl, .cons r0 (.cons r1 .nil)⟩
theorem at_law_leave {K : Frag} (F : Facts K) : FnAt K 764 "_law_leave" (tS 64) .none := F.fn.2.2.2.2.2.2.2.2.2.2.2.2.2.2.2.2.2.2.2.2.2.2.2.2.2.2.2.2.2.2.2.2.2.2.2.2.2.2.2.2.2.2.2.2.2.2.2.2.2.2.2.2.2.2.2.2.2.2.2.2.2.1
theorem b_law_leave {K : Frag} {x0 x1 : V} : Bound K "_law_leave" (tS 64) .none [x0, x1] [("state", x0), ("token", x1)] := fun _ _ _ _ _ _ _ _ _ r _ => match r with | .cons r0 (.cons r1 .nil) => ⟨[("state", _), ("token", _)], BindsTo.of_eq rfl, .cons r0 (.cons r1 .nil)⟩
theorem at_law_due {K : Frag} (F : Facts K) : FnAt K 771 "_law_due" (tS 65) .none := F.fn.2.2.2.2.2.2.2.2.2.2.2.2.2.2.2.2.2.2.2.2.2.2.2.2.2.2.2.2.2.2.2.2.2.2.2.2.2.2.2.2.2.2.2.2.2.2.2.2.2.2.2.2.2.2.2.2.2.2.2.2.2.2.1
theorem b_law_due {K : Frag} {x0 x1 : V} : Bound K "_law_due" (tS 65) .none [x0, x1] [("state", x0), ("token", x1)] := fun _ _ _ _ _ _ _ _ _ r _ => match r with | .cons r0 (.cons r1 .nil) => ⟨[("state", _), ("token", _)], BindsTo.of_eq rfl, .cons r0 (.cons r1 .nil)⟩
theorem at_law_plain {K : Frag} (F : Facts K) : FnAt K 776 "_law_plain" (tS 66) .none := F.fn.2.2.2.2.2.2.2.2.2.2.2.2.2.2.2.2.2.2.2.2.2.2.2.2.2.2.2.2.2.2.2.2.2.2.2.2.2.2.2.2.2.2.2.2.2.2.2.2.2.2.2.2.2.2.2.2.2.2.2.2.2.2.2.1
theorem b_law_plain {K : Frag} {x0 x1 : V} : Bound K "_law_plain" (tS 66) .none [x0, x1] [("tree", x0), ("node", x1)] := fun _ _ _ _ _ _ _ _ _ r _ => match r with | .cons r0 (.cons r1 .nil) => ⟨[("tree", _), ("node", _)], BindsTo.of_eq rfl, .cons r0 (.cons r1 .nil)⟩
theorem at_law_scene {K : Frag} (F : Facts K) : FnAt K 781 "_law_scene" (tS 67) .none := F.fn.2.2.2.2.2.2.2.2.2.2.2.2.2.2.2.2.2.2.2.2.2.2.2.2.2.2.2.2.2.2.2.2.2.2.2.2.2.2.2.2.2.2.2.2.2.2.2.2.2.2.2.2.2.2.2.2.2.2.2.2.2.2.2.2.1
theorem b_law_scene {K : Frag} {x0 : V} : Bound K "_law_scene" (tS 67) .none [x0] [("digits", x0)] := fun _ _ _ _ _ _ _ _ _ r _ => match r with | .cons r0 .nil => ⟨[("digits", _)], BindsTo.of_eq rfl, .cons r0 .nil⟩
/- facts by name -/
theorem AllT.at {α : Type} {P : α → Prop} {l : List α} (h : AllT P l) {x : α} (n : Nat) (hx : l[n]? = some x) : P x := h.mem x (List.mem_of_getElem? hx)
theorem Facts.gl {K : Frag} (F : Facts K) {n : String} {a : Addr} (h : globTab.lookup n = some a) : nsIn K mainGlobals (Str.ofString n) = some (some (.ref a)) ∧ keepIn K (.ref a) = true := by
  have : ∀ l : List (String × Addr), AllT (fun p => nsIn K mainGlobals (Str.ofString p.1) = some (some (.ref p.2)) ∧ keepIn K (.ref p.2) = true) l → l.lookup n = some a → nsIn K mainGlobals (Str.ofString n) = some (some (.ref a)) ∧ keepIn K (.ref a) = true := by
    intro l
    induction l with
    | nil => intro _ h; cases h
    | cons p r ih =>
      intro hp h
      rw [List.lookup_cons] at h
      cases q : (n == p.1) with
      | true => rw [q] at h; cases h; have := eq_of_beq q; subst this; exact hp.1
      | false => rw [q] at h; exact ih hp.2 h
  exact this _ F.glob h
theorem Facts.kp {K : Frag} (F : Facts K) {a : Addr} (h : (globTab.any fun p => p.2 == a) = true) : keepIn K (.ref a) = true := by
  obtain ⟨p, hp, e⟩ := List.any_eq_true.mp h
  have := (F.glob.mem p hp).2
  rw [eq_of_beq e] at this
  exact this
theorem Facts.bl {K : Frag} (F : Facts K) {n : String} (h : bltTab.contains n = true) : nsIn K mainGlobals (Str.ofString n) = some none := F.blt.mem n (by simpa using h)
theorem Facts.at {K : Frag} (F : Facts K) {C : Addr} {n : String} (h : attrTab.contains (C, n) = true) : AttrOK K C (Str.ofString n) := F.attr.mem (C, n) (by simpa using h)
theorem Facts.st {K : Frag} (F : Facts K) {C : Addr} {n : String} (h : setTab.contains (C, n) = true) : SetOK K C (Str.ofString n) := F.set.mem (C, n) (by simpa using h)
def methOf (C : Addr) (n : String) : Option Addr := (methTab.find? fun p => p.1 == C && p.2.1 == n).map (·.2.2)
theorem Facts.mt {K : Frag} (F : Facts K) {C : Addr} {n : String} {f : Addr} (h : methOf C n = some f) : MethOK K C (Str.ofString n) f := by
  unfold methOf at h
  cases q : methTab.find? (fun p => p.1 == C && p.2.1 == n) with
  | none => rw [q] at h; cases h
  | some p =>
    rw [q] at h; cases h
    have h1 := List.find?_some q
    simp only [Bool.and_eq_true, beq_iff_eq] at h1
    have := F.meth.mem p (List.mem_of_find?_eq_some q)
    rw [h1.1, h1.2] at this
    exact this
theorem put_same {H : MH} {l : Loc} {x : Cell} : (H.put l x).c l = some x := by show (if l = l then _ else _) = _; rw [if_pos rfl]
theorem put_other {H : MH} {l l' : Loc} {x : Cell} {r : Option Cell} (hn : l' ≠ l) (h : H.c l' = r) : (H.put l x).c l' = r := by show (if l' = l then _ else _) = _; rw [if_neg hn]; exact h
theorem add_same {H : MH} {l : Loc} {x : Cell} : (H.add l x).c l = some x := by show (if l = l then _ else _) = _; rw [if_pos rfl]
theorem add_other {H : MH} {l l' : Loc} {x : Cell} {r : Option Cell} (hn : l' ≠ l) (h : H.c l' = r) : (H.add l x).c l' = r := by show (if l' = l then _ else _) = _; rw [if_neg hn]; exact h
section
variable {M : Amb} {d : Nat} {sc : Scope} {cl : List (Str × Loc)} {ml : List (Str × V)} {H : MH}
theorem TE_glob' (F : Facts M.K) {x : String} {pos : Pos} {a : Addr} {Q : V → MH → Prop} (e : globTab.lookup x = some a) (hk : sc.names.lookup (Str.ofString x) = some .globalImplicit) (hd : (Str.ofString x == ("__debug__" : Str)) = false) (h : Q (.glob a) H) : TE M d sc cl ml H (.Name (Str.ofString x) pos) Q :=
  TE_global (F.gl e).1 hk hd h
theorem TE_bty' (F : Facts M.K) {x : String} {pos : Pos} {n : String} {Q : V → MH → Prop} (e : bltTab.contains x = true) (hv : bootBuiltins (Str.ofString x) = some (.type n)) (hn : Str.ofString x ≠ "__name__") (hk : sc.names.lookup (Str.ofString x) = some .globalImplicit) (hd : (Str.ofString x == ("__debug__" : Str)) = false) (h : Q (.ty n) H) : TE M d sc cl ml H (.Name (Str.ofString x) pos) Q :=
  TE_bty (F.bl e) hv hn hk hd h
theorem TE_bblt' (F : Facts M.K) {x : String} {pos : Pos} {n : String} {Q : V → MH → Prop} (e : bltTab.contains x = true) (hv : bootBuiltins (Str.ofString x) = some (.builtin n)) (hn : Str.ofString x ≠ "__name__") (hk : sc.names.lookup (Str.ofString x) = some .globalImplicit) (hd : (Str.ofString x == ("__debug__" : Str)) = false) (h : Q (.blt n) H) : TE M d sc cl ml H (.Name (Str.ofString x) pos) Q :=
  TE_bblt (F.bl e) hv hn hk hd h
/-- the body and the scope written out -/
theorem CALL_go {f : Addr} {qual : Str} {st : Stmt} {dV : Value} {xs : List V} {binds : List (Str × V)} {s0 : Stmt} {rest : List Stmt} {k : ScopeKind} {nms : List (Str × NameKind)} {g co : Bool} {mo} {Q : V → MH → Prop} (hf : FnAt M.K f qual st dV) (hb : Bound M.K qual st dV xs binds)
    (hbd : bd st = s0 :: rest) (hsc : sco st = { kind := k, names := nms, isGenerator := g, isCoroutine := co, more := mo })
    (hok : ((binds.all fun y => decide (nms.lookup y.1 = some .local)) && !co && !g && decide (k = .function) && (nms.all fun x => decide (x.2 ≠ .cell))) = true)
    (h : TS M d { kind := k, names := nms, isGenerator := g, isCoroutine := co, more := mo } [] binds.reverse H (s0 :: rest) (backS Q)) : CALL M (d + 1) cl ml H f xs Q := by
  refine CALL_fn hf hb (by rw [hsc]; exact hok) ?_
  rw [hsc, hbd]
  exact h
/-- tuples of strs -/
def strsOf : List V → Option (List Str)
  | [] => some []
  | .str x :: r => (strsOf r).map (x :: ·)
  | _ :: _ => none
theorem strsOf_eq : ∀ {xs : List V} {ys : List Str}, strsOf xs = some ys → xs = ys.map .str
  | [], ys, h => by cases h; rfl
  | .str x :: r, ys, h => by
    unfold strsOf at h
    cases q : strsOf r with
    | none => rw [q] at h; cases h
    | some zs => rw [q] at h; cases h; rw [strsOf_eq q]; rfl
  | .none :: _, _, h => by cases h
  | .bool _ :: _, _, h => by cases h
  | .int _ :: _, _, h => by cases h
  | .tup _ :: _, _, h => by cases h
  | .cell _ :: _, _, h => by cases h
  | .glob _ :: _, _, h => by cases h
  | .ty _ :: _, _, h => by cases h
  | .blt _ :: _, _, h => by cases h
theorem OP_in_strs' {xs : List V} {ys : List Str} {x : Str} {Q : V → MH → Prop} (hx : strsOf xs = some ys) (h : Q (.bool (ys.any (· == x))) H) : OP2 VR M d cl ml H (compareOp .In) (.str x) (.tup xs) Q := by
  rw [strsOf_eq hx]
  exact OP_in_strs h
end
/-- a node of the tree -/
structure Nd where
  kind : Str
  space : Str
  name : Str
  attrs : List V
  text : Str
  par : Int
  kids : List Nat
/-- one scene's state: of the builder, and of the law's own -/
structure St where
  nodes : List Nd
  stack : List Nat
  mode : Str
  errs : List V
  done : Bool
  ack : Bool
  ctx : Int
  form : Int
def Loc.isB : Loc → Bool
  | .builder | .tree | .stack | .fmt | .kinds | .spaces | .names | .attrs | .texts | .parents | .children | .contents | .items | .fitems | .owners | .modes | .errors | .pending | .rules | .kid _ | .att _ => true
  | _ => false
def Loc.isL : Loc → Bool
  | .state | .notes | .lnode _ | .latt _ | .lkid _ => true
  | _ => false
abbrev vi (n : Nat) : V := .int n
def rulesD : List (Str × V) := [("after body", .glob 617), ("in frameset", .glob 638), ("after frameset", .glob 645), ("after after body", .glob 659), ("after after frameset", .glob 666), ("in body", .glob 708), ("in head", .glob 715)]
def bflds (σ : St) : List (Str × V) :=
  [("rules", .cell .rules), ("tree", .cell .tree), ("stack", .cell .stack), ("formatting", .cell .fmt), ("mode", .str σ.mode), ("original", .str ""), ("modes", .cell .modes), ("head", .int (-1)), ("form", .int σ.form), ("owners", .cell .owners),
   ("is_frameset_ok", .bool true), ("is_scripting", .bool false), ("is_foster", .bool false), ("context", .int σ.ctx), ("quirks", .str "no-quirks"), ("errors", .cell .errors), ("pending", .cell .pending), ("wish", .str ""), ("is_skipping", .bool false),
   ("is_acknowledged", .bool σ.ack), ("is_done", .bool σ.done)]
def tflds : List (Str × V) := [("kinds", .cell .kinds), ("spaces", .cell .spaces), ("names", .cell .names), ("attrs", .cell .attrs), ("texts", .cell .texts), ("parents", .cell .parents), ("children", .cell .children), ("contents", .cell .contents)]
/-- the builder's cells -/
def bh (σ : St) : Loc → Option Cell
  | .builder => some (.inst 489 (bflds σ))
  | .tree => some (.inst 411 tflds)
  | .stack => some (.inst 294 [("tree", .cell .tree), ("items", .cell .items)])
  | .fmt => some (.inst 133 [("tree", .cell .tree), ("items", .cell .fitems)])
  | .kinds => some (.list (σ.nodes.map fun n => .str n.kind))
  | .spaces => some (.list (σ.nodes.map fun n => .str n.space))
  | .names => some (.list (σ.nodes.map fun n => .str n.name))
  | .attrs => some (.list ((List.range σ.nodes.length).map fun i => .cell (.att i)))
  | .texts => some (.list (σ.nodes.map fun n => .str n.text))
  | .parents => some (.list (σ.nodes.map fun n => .int n.par))
  | .children => some (.list ((List.range σ.nodes.length).map fun i => .cell (.kid i)))
  | .contents => some (.dict [])
  | .items => some (.list (σ.stack.map vi))
  | .fitems => some (.list [])
  | .owners => some (.dict [])
  | .modes => some (.list [])
  | .errors => some (.list σ.errs)
  | .pending => some (.list [])
  | .rules => some (.dict rulesD)
  | .kid i => (σ.nodes[i]?).map fun n => .list (n.kids.map vi)
  | .att i => (σ.nodes[i]?).map fun n => .list n.attrs
  | _ => none
def BH (H : MH) (σ : St) : Prop := ∀ l, l.isB = true → H.c l = bh σ l
theorem BH.at {H : MH} {σ : St} (hB : BH H σ) {l : Loc} {c : Cell} (e : bh σ l = some c) (hl : l.isB = true) : H.c l = some c := (hB l hl).trans e
/-- what else stands -/
def Keep (p : Loc → Bool) (H H' : MH) : Prop := H.nx ≤ H'.nx ∧ ∀ l, p l = false → (∀ k, l = .tmp k → k < H.nx) → H'.c l = H.c l
theorem Keep.refl {p : Loc → Bool} (H : MH) : Keep p H H := ⟨Nat.le_refl _, fun _ _ _ => rfl⟩
theorem Keep.trans {p : Loc → Bool} {H H' H'' : MH} (a : Keep p H H') (b : Keep p H' H'') : Keep p H H'' :=
  ⟨Nat.le_trans a.1 b.1, fun l h k => (b.2 l h fun i e => Nat.lt_of_lt_of_le (k i e) a.1).trans (a.2 l h k)⟩
theorem Keep.put {p : Loc → Bool} {H : MH} {l : Loc} {x : Cell} (h : p l = true) : Keep p H (H.put l x) :=
  ⟨Nat.le_refl _, fun l' h' _ => put_other (fun e => by subst e; rw [h] at h'; cases h') rfl⟩
theorem Keep.add {p : Loc → Bool} {H : MH} {l : Loc} {x : Cell} (h : p l = true) : Keep p H (H.add l x) :=
  ⟨le_bump _ _, fun l' h' _ => add_other (fun e => by subst e; rw [h] at h'; cases h') rfl⟩
theorem Keep.tmp {p : Loc → Bool} {H : MH} {k : Nat} {x : Cell} (h : H.nx ≤ k) : Keep p H (H.add (.tmp k) x) :=
  ⟨le_bump (.tmp k) H.nx, fun l' _ h' => add_other (fun e => by have := h' k e; omega) rfl⟩
/-- a kid as the law sees it -/
def kidV (ns : List Nd) (i : Nat) : V := match ns[i]? with
  | some n => if n.kind = "text" then .str n.text else if n.kind = "comment" then .tup [.str "comment", .str n.text] else .cell (.lnode i)
  | none => .none
def isEl (σ : St) (i : Nat) : Option Nd := match σ.nodes[i]? with
  | some n => if (n.kind = "element" ∨ n.kind = "document") ∧ (i : Int) ≠ σ.ctx then some n else none
  | none => none
def lh (pl : Loc) (σ : St) : Loc → Option Cell
  | .state => some (.dict [("page", .cell (.lnode 0)), ("path", .cell pl), ("mode", .str σ.mode), ("notes", .cell .notes), ("is_done", .bool σ.done), ("is_part", .bool (σ.ctx != -1))])
  | .notes => some (.list σ.errs)
  | .lnode i => (isEl σ i).map fun n => .list [.str n.name, .cell (.latt i), .cell (.lkid i)]
  | .latt i => (isEl σ i).map fun n => .list n.attrs
  | .lkid i => (isEl σ i).map fun n => .list (n.kids.map (kidV σ.nodes))
  | _ => none
structure LH (H : MH) (σ : St) : Prop where
  ex : ∃ k, k < H.nx ∧ H.c (.tmp k) = some (.list (σ.stack.map fun i => .cell (.lnode i))) ∧ ∀ l, l.isL = true → H.c l = lh (.tmp k) σ l
theorem BH.keep {p : Loc → Bool} {H H' : MH} {σ : St} (h : BH H σ) (k : Keep p H H') (hp : ∀ l, l.isB = true → p l = false) : BH H' σ := fun l hl => (k.2 l (hp l hl) fun i e => by subst e; cases hl).trans (h l hl)
theorem LH.keep {p : Loc → Bool} {H H' : MH} {σ : St} (h : LH H σ) (k : Keep p H H') (hp : ∀ l, l.isL = true → p l = false) (ht : ∀ i, p (.tmp i) = false) : LH H' σ := by
  obtain ⟨i, h1, h2, h3⟩ := h.ex
  exact ⟨i, Nat.lt_of_lt_of_le h1 k.1, (k.2 _ (ht i) fun j e => by cases e; exact h1).trans h2, fun l hl => (k.2 l (hp l hl) fun j e => by subst e; cases hl).trans (h3 l hl)⟩
theorem b_not_l : ∀ l : Loc, l.isB = true → l.isL = false := by intro l; cases l <;> simp [Loc.isB, Loc.isL]
theorem l_not_b : ∀ l : Loc, l.isL = true → l.isB = false := by intro l; cases l <;> simp [Loc.isB, Loc.isL]
theorem AllT.app {α : Type} {P : α → Prop} : ∀ {a b : List α}, AllT P (a ++ b) → AllT P a ∧ AllT P b
  | [], _, h => ⟨trivial, h⟩
  | _ :: _, _, h => ⟨⟨h.1, (AllT.app h.2).1⟩, (AllT.app h.2).2⟩
section
variable {K : Frag} (F : Facts K)
include F
theorem F_glob0 : AllT (fun p => nsIn K mainGlobals (Str.ofString p.1) = some (some (.ref p.2)) ∧ keepIn K (.ref p.2) = true) globTab0 := (AllT.app F.glob).1
theorem F_glob1 : AllT (fun p => nsIn K mainGlobals (Str.ofString p.1) = some (some (.ref p.2)) ∧ keepIn K (.ref p.2) = true) globTab1 := (AllT.app (AllT.app F.glob).2).1
theorem F_glob2 : AllT (fun p => nsIn K mainGlobals (Str.ofString p.1) = some (some (.ref p.2)) ∧ keepIn K (.ref p.2) = true) globTab2 := (AllT.app (AllT.app (AllT.app F.glob).2).2).1
theorem F_glob3 : AllT (fun p => nsIn K mainGlobals (Str.ofString p.1) = some (some (.ref p.2)) ∧ keepIn K (.ref p.2) = true) globTab3 := (AllT.app (AllT.app (AllT.app F.glob).2).2).2
theorem F_attr0 : AllT (fun p => AttrOK K p.1 (Str.ofString p.2)) attrTab0 := (AllT.app F.attr).1
theorem F_attr1 : AllT (fun p => AttrOK K p.1 (Str.ofString p.2)) attrTab1 := (AllT.app (AllT.app F.attr).2).1
theorem F_attr2 : AllT (fun p => AttrOK K p.1 (Str.ofString p.2)) attrTab2 := (AllT.app (AllT.app F.attr).2).2
theorem F_set0 : AllT (fun p => SetOK K p.1 (Str.ofString p.2)) setTab0 := (AllT.app F.set).1
theorem F_set1 : AllT (fun p => SetOK K p.1 (Str.ofString p.2)) setTab1 := (AllT.app (AllT.app F.set).2).1
theorem F_set2 : AllT (fun p => SetOK K p.1 (Str.ofString p.2)) setTab2 := (AllT.app (AllT.app F.set).2).2
theorem F_meth0 : AllT (fun p => MethOK K p.1 (Str.ofString p.2.1) p.2.2) methTab0 := (AllT.app F.meth).1
theorem F_meth1 : AllT (fun p => MethOK K p.1 (Str.ofString p.2.1) p.2.2) methTab1 := (AllT.app F.meth).2
theorem g_Tree : nsIn K mainGlobals (Str.ofString "Tree") = some (some (.ref 411)) := (F_glob0 F).1.1
theorem g_OpenStack : nsIn K mainGlobals (Str.ofString "OpenStack") = some (some (.ref 294)) := (F_glob0 F).2.1.1
theorem g_Formatting : nsIn K mainGlobals (Str.ofString "Formatting") = some (some (.ref 133)) := (F_glob0 F).2.2.1.1
theorem g_Builder : nsIn K mainGlobals (Str.ofString "Builder") = some (some (.ref 489)) := (F_glob0 F).2.2.2.1.1
theorem g_is_space : nsIn K mainGlobals (Str.ofString "is_space") = some (some (.ref 151)) := (F_glob0 F).2.2.2.2.1.1
theorem g_above : nsIn K mainGlobals (Str.ofString "above") = some (some (.ref 422)) := (F_glob0 F).2.2.2.2.2.1.1
theorem g_is_html_turn : nsIn K mainGlobals (Str.ofString "is_html_turn") = some (some (.ref 500)) := (F_glob0 F).2.2.2.2.2.2.1.1
theorem g_finish : nsIn K mainGlobals (Str.ofString "finish") = some (some (.ref 507)) := (F_glob0 F).2.2.2.2.2.2.2.1.1
theorem g_place_for : nsIn K mainGlobals (Str.ofString "place_for") = some (some (.ref 522)) := (F_glob0 F).2.2.2.2.2.2.2.2.1.1
theorem g_insert_sign : nsIn K mainGlobals (Str.ofString "insert_sign") = some (some (.ref 529)) := (F_glob0 F).2.2.2.2.2.2.2.2.2.1.1
theorem g_insert_comment : nsIn K mainGlobals (Str.ofString "insert_comment") = some (some (.ref 537)) := (F_glob0 F).2.2.2.2.2.2.2.2.2.2.1.1
theorem g_make : nsIn K mainGlobals (Str.ofString "make") = some (some (.ref 545)) := (F_glob0 F).2.2.2.2.2.2.2.2.2.2.2.1.1
theorem g_insert_element : nsIn K mainGlobals (Str.ofString "insert_element") = some (some (.ref 554)) := (F_glob1 F).1.1
theorem g_insert_token : nsIn K mainGlobals (Str.ofString "insert_token") = some (some (.ref 561)) := (F_glob1 F).2.1.1
theorem g_insert_void : nsIn K mainGlobals (Str.ofString "insert_void") = some (some (.ref 568)) := (F_glob1 F).2.2.1.1
theorem g_associate : nsIn K mainGlobals (Str.ofString "associate") = some (some (.ref 575)) := (F_glob1 F).2.2.2.1.1
theorem g_is_space_token : nsIn K mainGlobals (Str.ofString "is_space_token") = some (some (.ref 582)) := (F_glob1 F).2.2.2.2.1.1
theorem g_is_start_of : nsIn K mainGlobals (Str.ofString "is_start_of") = some (some (.ref 589)) := (F_glob1 F).2.2.2.2.2.1.1
theorem g_is_end_of : nsIn K mainGlobals (Str.ofString "is_end_of") = some (some (.ref 596)) := (F_glob1 F).2.2.2.2.2.2.1.1
theorem g_refuse : nsIn K mainGlobals (Str.ofString "refuse") = some (some (.ref 603)) := (F_glob1 F).2.2.2.2.2.2.2.1.1
theorem g_back_to_body : nsIn K mainGlobals (Str.ofString "back_to_body") = some (some (.ref 610)) := (F_glob1 F).2.2.2.2.2.2.2.2.1.1
theorem g_after_body : nsIn K mainGlobals (Str.ofString "after_body") = some (some (.ref 617)) := (F_glob1 F).2.2.2.2.2.2.2.2.2.1.1
theorem g_is_at_root : nsIn K mainGlobals (Str.ofString "is_at_root") = some (some (.ref 624)) := (F_glob1 F).2.2.2.2.2.2.2.2.2.2.1.1
theorem g_close_frameset : nsIn K mainGlobals (Str.ofString "close_frameset") = some (some (.ref 631)) := (F_glob1 F).2.2.2.2.2.2.2.2.2.2.2.1.1
theorem g_in_frameset : nsIn K mainGlobals (Str.ofString "in_frameset") = some (some (.ref 638)) := (F_glob2 F).1.1
theorem g_after_frameset : nsIn K mainGlobals (Str.ofString "after_frameset") = some (some (.ref 645)) := (F_glob2 F).2.1.1
theorem g_is_of_body : nsIn K mainGlobals (Str.ofString "is_of_body") = some (some (.ref 652)) := (F_glob2 F).2.2.1.1
theorem g_after_after_body : nsIn K mainGlobals (Str.ofString "after_after_body") = some (some (.ref 659)) := (F_glob2 F).2.2.2.1.1
theorem g_after_after_frameset : nsIn K mainGlobals (Str.ofString "after_after_frameset") = some (some (.ref 666)) := (F_glob2 F).2.2.2.2.1.1
theorem g_end_rules : nsIn K mainGlobals (Str.ofString "end_rules") = some (some (.ref 673)) := (F_glob2 F).2.2.2.2.2.1.1
theorem g_law_places : nsIn K mainGlobals (Str.ofString "_law_places") = some (some (.ref 680)) := (F_glob2 F).2.2.2.2.2.2.1.1
theorem g_law_bases : nsIn K mainGlobals (Str.ofString "_law_bases") = some (some (.ref 687)) := (F_glob2 F).2.2.2.2.2.2.2.1.1
theorem g_law_rows : nsIn K mainGlobals (Str.ofString "_law_rows") = some (some (.ref 694)) := (F_glob2 F).2.2.2.2.2.2.2.2.1.1
theorem g_law_token : nsIn K mainGlobals (Str.ofString "_law_token") = some (some (.ref 701)) := (F_glob2 F).2.2.2.2.2.2.2.2.2.1.1
theorem g_law_body : nsIn K mainGlobals (Str.ofString "_law_body") = some (some (.ref 708)) := (F_glob2 F).2.2.2.2.2.2.2.2.2.2.1.1
theorem g_law_head : nsIn K mainGlobals (Str.ofString "_law_head") = some (some (.ref 715)) := (F_glob2 F).2.2.2.2.2.2.2.2.2.2.2.1.1
theorem g_law_sort : nsIn K mainGlobals (Str.ofString "_law_sort") = some (some (.ref 722)) := (F_glob3 F).1.1
theorem g_law_put : nsIn K mainGlobals (Str.ofString "_law_put") = some (some (.ref 729)) := (F_glob3 F).2.1.1
theorem g_law_grow : nsIn K mainGlobals (Str.ofString "_law_grow") = some (some (.ref 736)) := (F_glob3 F).2.2.1.1
theorem g_law_stop : nsIn K mainGlobals (Str.ofString "_law_stop") = some (some (.ref 743)) := (F_glob3 F).2.2.2.1.1
theorem g_law_body_due : nsIn K mainGlobals (Str.ofString "_law_body_due") = some (some (.ref 750)) := (F_glob3 F).2.2.2.2.1.1
theorem g_law_refuse : nsIn K mainGlobals (Str.ofString "_law_refuse") = some (some (.ref 757)) := (F_glob3 F).2.2.2.2.2.1.1
theorem g_law_leave : nsIn K mainGlobals (Str.ofString "_law_leave") = some (some (.ref 764)) := (F_glob3 F).2.2.2.2.2.2.1.1
theorem g_law_due : nsIn K mainGlobals (Str.ofString "_law_due") = some (some (.ref 771)) := (F_glob3 F).2.2.2.2.2.2.2.1.1
theorem g_law_plain : nsIn K mainGlobals (Str.ofString "_law_plain") = some (some (.ref 776)) := (F_glob3 F).2.2.2.2.2.2.2.2.1.1
theorem g_law_scene : nsIn K mainGlobals (Str.ofString "_law_scene") = some (some (.ref 781)) := (F_glob3 F).2.2.2.2.2.2.2.2.2.1.1
theorem a489_rules : AttrOK K 489 (Str.ofString "rules") := (F_attr0 F).1
theorem a489_tree : AttrOK K 489 (Str.ofString "tree") := (F_attr0 F).2.1
theorem a489_stack : AttrOK K 489 (Str.ofString "stack") := (F_attr0 F).2.2.1
theorem a489_formatting : AttrOK K 489 (Str.ofString "formatting") := (F_attr0 F).2.2.2.1
theorem a489_mode : AttrOK K 489 (Str.ofString "mode") := (F_attr0 F).2.2.2.2.1
theorem a489_modes : AttrOK K 489 (Str.ofString "modes") := (F_attr0 F).2.2.2.2.2.1
theorem a489_form : AttrOK K 489 (Str.ofString "form") := (F_attr0 F).2.2.2.2.2.2.1
theorem a489_owners : AttrOK K 489 (Str.ofString "owners") := (F_attr0 F).2.2.2.2.2.2.2.1
theorem a489_is_frameset_ok : AttrOK K 489 (Str.ofString "is_frameset_ok") := (F_attr0 F).2.2.2.2.2.2.2.2.1
theorem a489_is_foster : AttrOK K 489 (Str.ofString "is_foster") := (F_attr0 F).2.2.2.2.2.2.2.2.2.1
theorem a489_context : AttrOK K 489 (Str.ofString "context") := (F_attr0 F).2.2.2.2.2.2.2.2.2.2.1
theorem a489_errors : AttrOK K 489 (Str.ofString "errors") := (F_attr0 F).2.2.2.2.2.2.2.2.2.2.2.1
theorem a489_is_skipping : AttrOK K 489 (Str.ofString "is_skipping") := (F_attr1 F).1
theorem a489_is_acknowledged : AttrOK K 489 (Str.ofString "is_acknowledged") := (F_attr1 F).2.1
theorem a489_is_done : AttrOK K 489 (Str.ofString "is_done") := (F_attr1 F).2.2.1
theorem a411_kinds : AttrOK K 411 (Str.ofString "kinds") := (F_attr1 F).2.2.2.1
theorem a411_spaces : AttrOK K 411 (Str.ofString "spaces") := (F_attr1 F).2.2.2.2.1
theorem a411_names : AttrOK K 411 (Str.ofString "names") := (F_attr1 F).2.2.2.2.2.1
theorem a411_attrs : AttrOK K 411 (Str.ofString "attrs") := (F_attr1 F).2.2.2.2.2.2.1
theorem a411_texts : AttrOK K 411 (Str.ofString "texts") := (F_attr1 F).2.2.2.2.2.2.2.1
theorem a411_parents : AttrOK K 411 (Str.ofString "parents") := (F_attr1 F).2.2.2.2.2.2.2.2.1
theorem a411_children : AttrOK K 411 (Str.ofString "children") := (F_attr1 F).2.2.2.2.2.2.2.2.2.1
theorem a411_contents : AttrOK K 411 (Str.ofString "contents") := (F_attr1 F).2.2.2.2.2.2.2.2.2.2.1
theorem a294_tree : AttrOK K 294 (Str.ofString "tree") := (F_attr1 F).2.2.2.2.2.2.2.2.2.2.2.1
theorem a294_items : AttrOK K 294 (Str.ofString "items") := (F_attr2 F).1
theorem a133_items : AttrOK K 133 (Str.ofString "items") := (F_attr2 F).2.1
theorem s489_rules : SetOK K 489 (Str.ofString "rules") := (F_set0 F).1
theorem s489_tree : SetOK K 489 (Str.ofString "tree") := (F_set0 F).2.1
theorem s489_stack : SetOK K 489 (Str.ofString "stack") := (F_set0 F).2.2.1
theorem s489_formatting : SetOK K 489 (Str.ofString "formatting") := (F_set0 F).2.2.2.1
theorem s489_mode : SetOK K 489 (Str.ofString "mode") := (F_set0 F).2.2.2.2.1
theorem s489_original : SetOK K 489 (Str.ofString "original") := (F_set0 F).2.2.2.2.2.1
theorem s489_modes : SetOK K 489 (Str.ofString "modes") := (F_set0 F).2.2.2.2.2.2.1
theorem s489_head : SetOK K 489 (Str.ofString "head") := (F_set0 F).2.2.2.2.2.2.2.1
theorem s489_form : SetOK K 489 (Str.ofString "form") := (F_set0 F).2.2.2.2.2.2.2.2.1
theorem s489_owners : SetOK K 489 (Str.ofString "owners") := (F_set0 F).2.2.2.2.2.2.2.2.2.1
theorem s489_is_frameset_ok : SetOK K 489 (Str.ofString "is_frameset_ok") := (F_set0 F).2.2.2.2.2.2.2.2.2.2.1
theorem s489_is_scripting : SetOK K 489 (Str.ofString "is_scripting") := (F_set0 F).2.2.2.2.2.2.2.2.2.2.2.1
theorem s489_is_foster : SetOK K 489 (Str.ofString "is_foster") := (F_set1 F).1
theorem s489_context : SetOK K 489 (Str.ofString "context") := (F_set1 F).2.1
theorem s489_quirks : SetOK K 489 (Str.ofString "quirks") := (F_set1 F).2.2.1
theorem s489_errors : SetOK K 489 (Str.ofString "errors") := (F_set1 F).2.2.2.1
theorem s489_pending : SetOK K 489 (Str.ofString "pending") := (F_set1 F).2.2.2.2.1
theorem s489_wish : SetOK K 489 (Str.ofString "wish") := (F_set1 F).2.2.2.2.2.1
theorem s489_is_skipping : SetOK K 489 (Str.ofString "is_skipping") := (F_set1 F).2.2.2.2.2.2.1
theorem s489_is_acknowledged : SetOK K 489 (Str.ofString "is_acknowledged") := (F_set1 F).2.2.2.2.2.2.2.1
theorem s489_is_done : SetOK K 489 (Str.ofString "is_done") := (F_set1 F).2.2.2.2.2.2.2.2.1
theorem s411_kinds : SetOK K 411 (Str.ofString "kinds") := (F_set1 F).2.2.2.2.2.2.2.2.2.1
theorem s411_spaces : SetOK K 411 (Str.ofString "spaces") := (F_set1 F).2.2.2.2.2.2.2.2.2.2.1
theorem s411_names : SetOK K 411 (Str.ofString "names") := (F_set1 F).2.2.2.2.2.2.2.2.2.2.2.1
theorem s411_attrs : SetOK K 411 (Str.ofString "attrs") := (F_set2 F).1
theorem s411_texts : SetOK K 411 (Str.ofString "texts") := (F_set2 F).2.1
theorem s411_parents : SetOK K 411 (Str.ofString "parents") := (F_set2 F).2.2.1
theorem s411_children : SetOK K 411 (Str.ofString "children") := (F_set2 F).2.2.2.1
theorem s411_contents : SetOK K 411 (Str.ofString "contents") := (F_set2 F).2.2.2.2.1
theorem s294_tree : SetOK K 294 (Str.ofString "tree") := (F_set2 F).2.2.2.2.2.1
theorem s294_items : SetOK K 294 (Str.ofString "items") := (F_set2 F).2.2.2.2.2.2.1
theorem s133_tree : SetOK K 133 (Str.ofString "tree") := (F_set2 F).2.2.2.2.2.2.2.1
theorem s133_items : SetOK K 133 (Str.ofString "items") := (F_set2 F).2.2.2.2.2.2.2.2.1
theorem m294_push : MethOK K 294 (Str.ofString "push") 214 := (F_meth0 F).1
theorem m294_pop : MethOK K 294 (Str.ofString "pop") 221 := (F_meth0 F).2.1
theorem m294_current : MethOK K 294 (Str.ofString "current") 228 := (F_meth0 F).2.2.1
theorem m294_many : MethOK K 294 (Str.ofString "many") 235 := (F_meth0 F).2.2.2.1
theorem m294_name : MethOK K 294 (Str.ofString "name") 270 := (F_meth0 F).2.2.2.2.1
theorem m411_add : MethOK K 411 (Str.ofString "add") 321 := (F_meth0 F).2.2.2.2.2.1
theorem m411_element : MethOK K 411 (Str.ofString "element") 330 := (F_meth0 F).2.2.2.2.2.2.1
theorem m411_text : MethOK K 411 (Str.ofString "text") 337 := (F_meth0 F).2.2.2.2.2.2.2.1
theorem m411_comment : MethOK K 411 (Str.ofString "comment") 344 := (F_meth0 F).2.2.2.2.2.2.2.2.1
theorem m411_insert : MethOK K 411 (Str.ofString "insert") 359 := (F_meth0 F).2.2.2.2.2.2.2.2.2.1
theorem m411_remove : MethOK K 411 (Str.ofString "remove") 373 := (F_meth0 F).2.2.2.2.2.2.2.2.2.2.1
theorem m411_last : MethOK K 411 (Str.ofString "last") 394 := (F_meth0 F).2.2.2.2.2.2.2.2.2.2.2.1
theorem m489_error : MethOK K 489 (Str.ofString "error") 444 := (F_meth1 F).1
theorem m489_to : MethOK K 489 (Str.ofString "to") 451 := (F_meth1 F).2.1
theorem m489_use : MethOK K 489 (Str.ofString "use") 458 := (F_meth1 F).2.2.1
theorem m489_process : MethOK K 489 (Str.ofString "process") 465 := (F_meth1 F).2.2.2.1
theorem m489_feed : MethOK K 489 (Str.ofString "feed") 472 := (F_meth1 F).2.2.2.2.1
theorem m489_adjusted : MethOK K 489 (Str.ofString "adjusted") 479 := (F_meth1 F).2.2.2.2.2.1
theorem m489_is_foreign : MethOK K 489 (Str.ofString "is_foreign") 486 := (F_meth1 F).2.2.2.2.2.2.1
theorem n_len : nsIn K mainGlobals (Str.ofString "len") = some none := F.blt.1
theorem n_isinstance : nsIn K mainGlobals (Str.ofString "isinstance") = some none := F.blt.2.1
theorem n_str : nsIn K mainGlobals (Str.ofString "str") = some none := F.blt.2.2.1
theorem n_list : nsIn K mainGlobals (Str.ofString "list") = some none := F.blt.2.2.2.1
theorem n_range : nsIn K mainGlobals (Str.ofString "range") = some none := F.blt.2.2.2.2.1
end
section
variable {M : Amb} {d : Nat} {sc : Scope} {cl : List (Str × Loc)} {ml : List (Str × V)} {H : MH} {pos : Pos} {Q : V → MH → Prop} (F : Facts M.K)
include F
theorem TE_n_len (hk : sc.names.lookup (Str.ofString "len") = some .globalImplicit) (h : Q (.blt "len") H) : TE M d sc cl ml H (.Name (Str.ofString "len") pos) Q := TE_bblt (n_len F) boot_len (by decide) hk rfl h
theorem TE_n_isinstance (hk : sc.names.lookup (Str.ofString "isinstance") = some .globalImplicit) (h : Q (.blt "isinstance") H) : TE M d sc cl ml H (.Name (Str.ofString "isinstance") pos) Q := TE_bblt (n_isinstance F) boot_isinstance (by decide) hk rfl h
theorem TE_n_str (hk : sc.names.lookup (Str.ofString "str") = some .globalImplicit) (h : Q (.ty "str") H) : TE M d sc cl ml H (.Name (Str.ofString "str") pos) Q := TE_bty (n_str F) boot_str (by decide) hk rfl h
theorem TE_n_list (hk : sc.names.lookup (Str.ofString "list") = some .globalImplicit) (h : Q (.ty "list") H) : TE M d sc cl ml H (.Name (Str.ofString "list") pos) Q := TE_bty (n_list F) boot_list (by decide) hk rfl h
theorem TE_n_range (hk : sc.names.lookup (Str.ofString "range") = some .globalImplicit) (h : Q (.ty "range") H) : TE M d sc cl ml H (.Name (Str.ofString "range") pos) Q := TE_bty (n_range F) boot_range (by decide) hk rfl h
end
section
variable {M : Amb} {d : Nat} {sc : Scope} {cl : List (Str × Loc)} {ml : List (Str × V)} {H : MH}
theorem TS_go {st : Stmt} {s0 : Stmt} {rest : List Stmt} {k : ScopeKind} {nms : List (Str × NameKind)} {g co : Bool} {mo} {Q : FV → List (Str × V) → MH → Prop} (hbd : bd st = s0 :: rest) (hsc : sco st = { kind := k, names := nms, isGenerator := g, isCoroutine := co, more := mo }) (h : TS M d { kind := k, names := nms, isGenerator := g, isCoroutine := co, more := mo } cl ml H (s0 :: rest) Q) : TS M d (sco st) cl ml H (bd st) Q := by
  rw [hsc, hbd]; exact h
theorem thenS_ret {rest : List Stmt} {Q : FV → List (Str × V) → MH → Prop} {v : V} (h : Q (.ret v) ml H) : thenS M d sc cl rest Q (.ret v) ml H := h
theorem thenS_brk {rest : List Stmt} {Q : FV → List (Str × V) → MH → Prop} (h : Q .brk ml H) : thenS M d sc cl rest Q .brk ml H := h
theorem thenS_cont {rest : List Stmt} {Q : FV → List (Str × V) → MH → Prop} (h : Q .cont ml H) : thenS M d sc cl rest Q .cont ml H := h
end
theorem backS_ret {Q : V → MH → Prop} {v : V} {ml : List (Str × V)} {H : MH} (h : Q v H) : backS Q (.ret v) ml H := h
theorem backS_next {Q : V → MH → Prop} {ml : List (Str × V)} {H : MH} (h : Q .none H) : backS Q .next ml H := h
theorem loopS_next {Q : FV → List (Str × V) → MH → Prop} {G : List (Str × V) → MH → Prop} {ml : List (Str × V)} {H : MH} (h : G ml H) : loopS Q G .next ml H := h
theorem loopS_cont {Q : FV → List (Str × V) → MH → Prop} {G : List (Str × V) → MH → Prop} {ml : List (Str × V)} {H : MH} (h : G ml H) : loopS Q G .cont ml H := h
theorem loopS_brk {Q : FV → List (Str × V) → MH → Prop} {G : List (Str × V) → MH → Prop} {ml : List (Str × V)} {H : MH} (h : Q .next ml H) : loopS Q G .brk ml H := h
theorem loopS_ret {Q : FV → List (Str × V) → MH → Prop} {G : List (Str × V) → MH → Prop} {v : V} {ml : List (Str × V)} {H : MH} (h : Q (.ret v) ml H) : loopS Q G (.ret v) ml H := h
theorem BH.free_att {H : MH} {σ : St} (hB : BH H σ) : H.c (.att σ.nodes.length) = none := (hB _ rfl).trans (by show Option.map _ _ = _; simp)
theorem BH.free_kid {H : MH} {σ : St} (hB : BH H σ) : H.c (.kid σ.nodes.length) = none := (hB _ rfl).trans (by show Option.map _ _ = _; simp)
theorem Keep.put' {p : Loc → Bool} {H₀ H : MH} {l : Loc} {x : Cell} (k : Keep p H₀ H) (h : p l = true) : Keep p H₀ (H.put l x) := k.trans (Keep.put h)
theorem Keep.add' {p : Loc → Bool} {H₀ H : MH} {l : Loc} {x : Cell} (k : Keep p H₀ H) (h : p l = true) : Keep p H₀ (H.add l x) := k.trans (Keep.add h)
theorem Keep.tmp' {p : Loc → Bool} {H₀ H : MH} {k : Nat} {x : Cell} (a : Keep p H₀ H) (h : H.nx ≤ k) : Keep p H₀ (H.add (.tmp k) x) := a.trans (Keep.tmp h)
theorem Keep.ptmp {p : Loc → Bool} {H₀ H : MH} {k : Nat} {x : Cell} (a : Keep p H₀ H) (h : H₀.nx ≤ k) : Keep p H₀ (H.put (.tmp k) x) :=
  ⟨a.1, fun l' h1 h' => (put_other (fun e => by have := h' k e; omega) rfl).trans (a.2 l' h1 h')⟩
theorem ne_m1 (n : Nat) : ((n : Int) != -1) = true := by simp [bne_iff_ne]
theorem eq_m1 (n : Nat) : ¬ ((n : Int) == -1) = true := by simp
theorem str_ne {a b : Str} (h : a ≠ b) : (a != b) = true := by simp [h]
theorem str_nb {a b : Str} (h : a ≠ b) : ¬ (a == b) = true := by simp [h]
theorem str_nn {a b : Str} (h : a = b) : ¬ (a != b) = true := by simp [h]
theorem pair_t {a b e : Str} (h : b = e) : ((a == a) && b == e) = true := by simp [h]
theorem pair_f {a c b e : Str} (h : b ≠ e) : ¬ ((a == c) && b == e) = true := by simp [h]
theorem str_eb {a b : Str} (h : a = b) : (a == b) = true := by simp [h]
section
variable {M : Amb} {d : Nat} {cl : List (Str × Loc)} {ml : List (Str × V)} {H : MH}
theorem I_map {value slice : Expr} {f : Nd → V} {l : Loc} {ns : List Nd} {p : Nat} {x : Nd} {Q : V → MH → Prop} (hc : H.c l = some (.list (ns.map f))) (hp : ns[p]? = some x) (hz : ns.length ≤ 1000)
    (hs : ∀ a u, subscripted slice false (.ref a) (.int p u) = operate [.ref a, .int p u] (getItem (.ref a) (.int p u))) (h : Q (f x) H) : OP2 VR M d cl ml H (subscriptTail value slice) (.cell l) (.int p) Q := by
  have hl : p < ns.length := by
    rcases Nat.lt_or_ge p ns.length with q | q
    · exact q
    · rw [List.getElem?_eq_none q] at hp; cases hp
  exact OP_item_list hc (by omega) (by omega) (by rw [Int.toNat_natCast, List.getElem?_map, hp]; rfl) hs h
theorem I_range {value slice : Expr} {f : Nat → V} {l : Loc} {n p : Nat} {Q : V → MH → Prop} (hc : H.c l = some (.list ((List.range n).map f))) (hp : p < n) (hz : n ≤ 1000)
    (hs : ∀ a u, subscripted slice false (.ref a) (.int p u) = operate [.ref a, .int p u] (getItem (.ref a) (.int p u))) (h : Q (f p) H) : OP2 VR M d cl ml H (subscriptTail value slice) (.cell l) (.int p) Q :=
  OP_item_list hc (by omega) (by omega) (by rw [Int.toNat_natCast, List.getElem?_map, List.getElem?_range hp]; rfl) hs h
theorem OP_notin_strs {xs : List V} {ys : List Str} {x : Str} {Q : V → MH → Prop} (hx : strsOf xs = some ys) (h : Q (.bool (!(ys.any (· == x)))) H) : OP2 VR M d cl ml H (compareOp .NotIn) (.str x) (.tup xs) Q := by
  rw [strsOf_eq hx]
  intro A base h₀ outer fenv env L m mm s wd Qm x' y' c r1 r2 k
  obtain ⟨a, vs, rfl, e1, e2, e3⟩ := isTup_of c r2
  cases r1
  exact notin_tuple_strs e2 (strs_of (by simpa using e1)) (k _ _ H wd s.heap s.toks h (Ext.refl _) (.bool _) (c.tok _))
theorem OP_eq_pair {a b c e : Str} {Q : V → MH → Prop} (oa : PyData.strOk a = true) (ob : PyData.strOk b = true) (oc : PyData.strOk c = true) (oe : PyData.strOk e = true) (h : Q (.bool (a == c && b == e)) H) : OP2 VR M d cl ml H (compareOp .Eq) (.tup [.str a, .str b]) (.tup [.str c, .str e]) Q := by
  have key : PyData.eqv (.tuple [.str a, .str b]) (.tuple [.str c, .str e]) = (a == c && b == e) := by simp [PyData.eqv, PyData.eqvAll]
  have sh : ∀ a b : Str, PyData.strOk a = true → PyData.strOk b = true → SeqAt.shaped (.tuple [.str a, .str b]) = true := fun a b h1 h2 => by simp [SeqAt.shaped, PyData.canLay0, PyData.canLayAll0, PyData.depth, PyData.depthAll, h1, h2]
  exact OP_eq_data (.tup (.cons (.str _) (.cons (.str _) .nil))) (.tup (.cons (.str _) (.cons (.str _) .nil))) (sh _ _ oa ob) (sh _ _ oc oe) (by rw [key]; exact h)
theorem OP_truth_bool' {b : Bool} {Q : Bool → MH → Prop} (h : Q b H) : OP1 eqR M d cl ml H truthy (.bool b) Q := OP_truth_bool h
end
/-- fewer names -/
def SubL (ml ml' : List (Str × V)) : Prop := AllT (fun p => ml'.lookup p.1 = some p.2) ml
theorem mem_of_lookup {x : Str} {v : V} : ∀ {ml : List (Str × V)}, ml.lookup x = some v → (x, v) ∈ ml
  | (y, w) :: r, h => by
    rw [List.lookup_cons] at h
    cases q : (x == y) with
    | true => rw [q] at h; cases h; rw [eq_of_beq q]; exact .head _
    | false => rw [q] at h; exact .tail _ (mem_of_lookup h)
theorem SubL.look {ml ml' : List (Str × V)} (s : SubL ml ml') : ∀ x v, ml.lookup x = some v → ml'.lookup x = some v := fun x v h => AllT.mem s (x, v) (mem_of_lookup h)
section
variable {M : Amb} {d : Nat} {sc : Scope} {cl : List (Str × Loc)} {ml ml' : List (Str × V)} {H : MH}
theorem TG.sub {α β : Type} {rel : Frag → WD → β → α → Prop} {t : Env → Sem α} {Q : β → MH → Prop} (s : SubL ml ml') (h : TG rel M d sc cl ml H t Q) : TG rel M d sc cl ml' H t Q := by
  intro A base h₀ outer fenv env L m mm s' wd Qm hs c k
  refine h hs { c with lr := fun x v hx => c.lr x v (s.look x v hx) } fun b a H' wd' h' tk' hb e r c' => k b a H' wd' h' tk' hb e r { c' with lr := fun x v hx => ?_ }
  obtain ⟨v', h1, h2⟩ := c.lr x v hx
  exact ⟨v', h1, h2.ext _ e⟩
theorem TX.sub' {t : Env → Sem Flow} {Q : FV → List (Str × V) → MH → Prop} (s : ∀ x v, ml.lookup x = some v → ml'.lookup x = some v) (h : TX M d sc cl ml H t Q) : TX M d sc cl ml' H t Q := by
  intro A base h₀ outer env L m s' wd Qm hs hl c k
  exact h hs hl { c with lr := fun x v hx => c.lr x v (s x v hx) } k
theorem TX.sub {t : Env → Sem Flow} {Q : FV → List (Str × V) → MH → Prop} (s : SubL ml ml') (h : TX M d sc cl ml H t Q) : TX M d sc cl ml' H t Q := TX.sub' s.look h
theorem T1_while' {α : Type} {test : Expr} {body : List Stmt} {pos : Pos} {Q : FV → List (Str × V) → MH → Prop} (G : α → MH → Prop) (fr : α → List (Str × V)) (μ : α → Nat) (a₀ : α) (h0 : G a₀ H) (hf : SubL (fr a₀) ml)
    (hq : ∀ ml ml' H, SubL ml ml' → Q .next ml H → Q .next ml' H)
    (h : ∀ a H, G a H → TB M d sc cl (fr a) H test fun b H1 => if b = true then TS M d sc cl (fr a) H1 body (loopS Q fun ml' H' => ∃ a', μ a' < μ a ∧ G a' H' ∧ SubL (fr a') ml') else Q .next (fr a) H1) :
    T1 M d sc cl ml H (.While test body [] pos) Q := by
  refine T1_while (fun n ml H => ∃ a, μ a = n ∧ G a H ∧ SubL (fr a) ml) (μ a₀) ⟨a₀, rfl, h0, hf⟩ ?_
  rintro n ml H ⟨a, rfl, g, s⟩
  refine TG.sub s ((h a H g).mono fun b H1 q => ?_)
  split
  · rename_i e
    rw [if_pos e] at q
    refine TX.sub s (TX.mono q fun f ml' H' r => ?_)
    cases f with
    | next => obtain ⟨a', e1, e2, e3⟩ := r; exact ⟨_, e1, a', rfl, e2, e3⟩
    | cont => obtain ⟨a', e1, e2, e3⟩ := r; exact ⟨_, e1, a', rfl, e2, e3⟩
    | brk => exact r
    | ret v => exact r
  · rename_i e
    rw [if_neg e] at q
    exact hq _ _ _ s q
theorem T1_range' {x rn : Str} {xp rp cp pos : Pos} {arg : Expr} {body : List Stmt} {Q : FV → List (Str × V) → MH → Prop}
    (he : ∀ env, eval (.Call (.Name rn rp) [arg] [] cp) env = (do callWith cp (← eval (.Name rn rp) env) [] (backTo cp (starEach [arg] env)) (backToKw cp (keywordEach [] env))))
    (ha : ∀ env, starEach [arg] env = [(false, eval arg env)]) (hk : sc.names.lookup x = some .local) (hse : ∀ env v, foldedSetIterable (.Call (.Name rn rp) [arg] [] cp) env v = pure v)
    {α : Type} (G : Nat → α → MH → Prop) (fr : Nat → α → List (Str × V)) (n : Nat) (a₀ : α) (hn : n ≤ 1000)
    (hq : ∀ ml ml' H, SubL ml ml' → Q .next ml H → Q .next ml' H)
    (hrn : TE M d sc cl ml H (.Name rn rp) fun v H1 => v = .ty "range" ∧ TE M d sc cl ml H1 arg fun iv H2 => iv = .int n ∧ G 0 a₀ H2 ∧ SubL (fr 0 a₀) ml)
    (step : ∀ i a H₁, i < n → G i a H₁ → TS M d sc cl ((x, .int i) :: fr i a) H₁ body (loopS Q fun ml' H' => ∃ a', G (i + 1) a' H' ∧ SubL (fr (i + 1) a') ml'))
    (hend : ∀ a H', G n a H' → Q .next (fr n a) H') :
    T1 M d sc cl ml H (.For (.Name x xp) (.Call (.Name rn rp) [arg] [] cp) body [] pos) Q := by
  refine T1_range he ha hk hse (fun i ml H => ∃ a, G i a H ∧ SubL (fr i a) ml) (TG.mono hrn fun v H1 h1 => ⟨h1.1, TG.mono h1.2 fun iv H2 h2 => ⟨n, h2.1, hn, ⟨a₀, h2.2⟩, ?_, ?_⟩⟩)
  · rintro i ml₁ H₁ hi ⟨a, g, s⟩
    refine TX.sub' (fun y v h => ?_) (step i a H₁ hi g)
    rw [List.lookup_cons] at h ⊢
    split
    · rename_i e; rw [e] at h; exact h
    · rename_i e; rw [e] at h; exact s.look _ _ h
  · rintro ml' H' ⟨a, g, s⟩
    exact hq _ _ _ s (hend a H' g)
theorem TE_two2 {value upper : Expr} {p pos : Pos} {Q : V → MH → Prop} (ht : ∀ o r, letTemporaryGo value o r = pure ())
    (h : TE M d sc cl ml H value fun o H1 => TE M d sc cl ml H1 upper fun i H2 => ∃ a b r, o = .tup (a :: b :: r) ∧ i = .int 2 ∧ Q (.tup [a, b]) H2) :
    TE M d sc cl ml H (.Subscript value (.Slice none (some upper) none p) pos) Q :=
  TE_two ht (TG.mono h fun o H1 h1 => TG.mono h1 fun i H2 ⟨a, b, r, e1, e2, q⟩ => ⟨_, e1, e2, q⟩)
end
section
/- the walk's steps -/
local macro_rules | `(tactic| walk_at "m.cell") => `(tactic| ((repeat' (first | assumption | exact put_same | exact add_same | ((refine' BH.at ?x ?e ?l); (case x => assumption); (case e => exact rfl); (case l => exact rfl)) | (refine' put_other ?_ ?_) | (refine' add_other ?_ ?_) | (intro e; cases e; done) | (intro e; cases e; omega) | fail "cell")); done))
local macro_rules | `(tactic| walk_at "m.cell2") => `(tactic| ((repeat' (first | assumption | exact BH.free_att (by assumption) | exact BH.free_kid (by assumption) | (refine' put_other ?_ ?_) | (refine' add_other ?_ ?_) | (intro e; cases e; done) | (intro e; cases e; omega) | fail "cell")); done))
local macro_rules | `(tactic| walk_at "m.le") => `(tactic| (first | assumption | exact Nat.le_of_ble_eq_true rfl | omega | (simp only [List.length_map, List.length_append, List.length_cons, List.length_nil, List.length_range]; omega)))
local macro_rules | `(tactic| walk_at "m.galt") => `(tactic| (first | (with_reducible (first | exact g_Tree (by assumption) | exact g_OpenStack (by assumption) | exact g_Formatting (by assumption) | exact g_Builder (by assumption) | exact g_is_space (by assumption) | exact g_above (by assumption) | exact g_is_html_turn (by assumption) | exact g_finish (by assumption) | exact g_place_for (by assumption) | exact g_insert_sign (by assumption) | exact g_insert_comment (by assumption) | exact g_make (by assumption) | exact g_insert_element (by assumption) | exact g_insert_token (by assumption) | exact g_insert_void (by assumption) | exact g_associate (by assumption) | exact g_is_space_token (by assumption) | exact g_is_start_of (by assumption) | exact g_is_end_of (by assumption) | exact g_refuse (by assumption) | exact g_back_to_body (by assumption) | exact g_after_body (by assumption) | exact g_is_at_root (by assumption) | exact g_close_frameset (by assumption) | exact g_in_frameset (by assumption) | exact g_after_frameset (by assumption) | exact g_is_of_body (by assumption) | exact g_after_after_body (by assumption) | exact g_after_after_frameset (by assumption) | exact g_end_rules (by assumption) | exact g_law_places (by assumption) | exact g_law_bases (by assumption) | exact g_law_rows (by assumption) | exact g_law_token (by assumption) | exact g_law_body (by assumption) | exact g_law_head (by assumption) | exact g_law_sort (by assumption) | exact g_law_put (by assumption) | exact g_law_grow (by assumption) | exact g_law_stop (by assumption) | exact g_law_body_due (by assumption) | exact g_law_refuse (by assumption) | exact g_law_leave (by assumption) | exact g_law_due (by assumption) | exact g_law_plain (by assumption) | exact g_law_scene (by assumption)))))
local macro_rules | `(tactic| walk_at "m.aok") => `(tactic| (first | (with_reducible (first | exact a489_rules (by assumption) | exact a489_tree (by assumption) | exact a489_stack (by assumption) | exact a489_formatting (by assumption) | exact a489_mode (by assumption) | exact a489_modes (by assumption) | exact a489_form (by assumption) | exact a489_owners (by assumption) | exact a489_is_frameset_ok (by assumption) | exact a489_is_foster (by assumption) | exact a489_context (by assumption) | exact a489_errors (by assumption) | exact a489_is_skipping (by assumption) | exact a489_is_acknowledged (by assumption) | exact a489_is_done (by assumption) | exact a411_kinds (by assumption) | exact a411_spaces (by assumption) | exact a411_names (by assumption) | exact a411_attrs (by assumption) | exact a411_texts (by assumption) | exact a411_parents (by assumption) | exact a411_children (by assumption) | exact a411_contents (by assumption) | exact a294_tree (by assumption) | exact a294_items (by assumption) | exact a133_items (by assumption)))))
local macro_rules | `(tactic| walk_at "m.sok") => `(tactic| (first | (with_reducible (first | exact s489_rules (by assumption) | exact s489_tree (by assumption) | exact s489_stack (by assumption) | exact s489_formatting (by assumption) | exact s489_mode (by assumption) | exact s489_original (by assumption) | exact s489_modes (by assumption) | exact s489_head (by assumption) | exact s489_form (by assumption) | exact s489_owners (by assumption) | exact s489_is_frameset_ok (by assumption) | exact s489_is_scripting (by assumption) | exact s489_is_foster (by assumption) | exact s489_context (by assumption) | exact s489_quirks (by assumption) | exact s489_errors (by assumption) | exact s489_pending (by assumption) | exact s489_wish (by assumption) | exact s489_is_skipping (by assumption) | exact s489_is_acknowledged (by assumption) | exact s489_is_done (by assumption) | exact s411_kinds (by assumption) | exact s411_spaces (by assumption) | exact s411_names (by assumption) | exact s411_attrs (by assumption) | exact s411_texts (by assumption) | exact s411_parents (by assumption) | exact s411_children (by assumption) | exact s411_contents (by assumption) | exact s294_tree (by assumption) | exact s294_items (by assumption) | exact s133_tree (by assumption) | exact s133_items (by assumption)))))
local macro_rules | `(tactic| walk_at "m.mok") => `(tactic| (first | (with_reducible (first | exact m294_push (by assumption) | exact m294_pop (by assumption) | exact m294_current (by assumption) | exact m294_many (by assumption) | exact m294_name (by assumption) | exact m411_add (by assumption) | exact m411_element (by assumption) | exact m411_text (by assumption) | exact m411_comment (by assumption) | exact m411_insert (by assumption) | exact m411_remove (by assumption) | exact m411_last (by assumption) | exact m489_error (by assumption) | exact m489_to (by assumption) | exact m489_use (by assumption) | exact m489_process (by assumption) | exact m489_feed (by assumption) | exact m489_adjusted (by assumption) | exact m489_is_foreign (by assumption)))))
local macro_rules | `(tactic| walk_at "m.name") => `(tactic| (first | ((with_reducible refine' TE_local ?a ?b ?c ?_); (case b => exact rfl); (case a => exact rfl); (case c => exact rfl)) | ((with_reducible refine' TE_global ?e ?b ?c ?_); (case b => exact rfl); (case e => (walk_at "m.galt")); (case c => exact rfl)) | ((with_reducible refine' TE_n_len ?f ?b ?_); (case f => assumption); (case b => exact rfl)) | ((with_reducible refine' TE_n_isinstance ?f ?b ?_); (case f => assumption); (case b => exact rfl)) | ((with_reducible refine' TE_n_str ?f ?b ?_); (case f => assumption); (case b => exact rfl)) | ((with_reducible refine' TE_n_list ?f ?b ?_); (case f => assumption); (case b => exact rfl)) | ((with_reducible refine' TE_n_range ?f ?b ?_); (case f => assumption); (case b => exact rfl)) | ((with_reducible refine' TE_cellvar ?a ?h ?b ?c ?_); (case b => exact rfl); (case a => exact rfl); (case h => (walk_at "m.cell")); (case c => exact rfl)) | ((with_reducible refine' TE_freevar ?a ?h ?b ?c ?g ?_); (case b => exact rfl); (case a => exact rfl); (case h => (walk_at "m.cell")); (case c => exact rfl); (case g => exact rfl)) | fail "name"))
local macro_rules | `(tactic| walk_at "m.obj") => `(tactic| (repeat' (first | (walk_at "m.name") | ((with_reducible refine' OP_attr ?hc ?ok ?hx ?nb ?_); (case hc => (walk_at "m.cell")); (case ok => (walk_at "m.aok")); (case hx => exact rfl); (case nb => exact trivial)) | ((with_reducible refine' TE_attr ?he ?_); (case he => exact fun _ => rfl)) | fail "obj")))
local macro_rules | `(tactic| walk_at "m.free") => `(tactic| (first | assumption | exact free_tmp (Nat.le_refl _) | exact free_of (by walk_at "m.cell2") (fun _ => nofun)))
local macro_rules | `(tactic| walk_at "m.keep") => `(tactic| ((repeat' (first | assumption | exact Keep.refl _ | (refine' Keep.put' ?_ rfl) | (refine' Keep.add' ?_ rfl) | (refine' Keep.tmp' ?_ (Nat.le_refl _)) | fail "keep")); done))
local macro_rules | `(tactic| walk_at "m.tt") => `(tactic| (first | assumption | exact ne_m1 _ | exact rfl | decide +kernel | exact str_ne (by assumption) | exact str_eb (by assumption) | exact pair_t (by assumption)))
local macro_rules | `(tactic| walk_at "m.ff") => `(tactic| (first | assumption | exact eq_m1 _ | exact Bool.false_ne_true | decide +kernel | exact str_nb (by assumption) | exact str_nn (by assumption) | exact pair_f (by assumption)))
local macro_rules | `(tactic| walk_at "m.run") => `(tactic| repeat' (first | ((with_reducible show TX _ _ _ _ _ _ _ _); first | (with_reducible refine' TS_nil ?_) | (with_reducible refine' TS_cons ?_) | (with_reducible refine' T1_if ?_) | (with_reducible refine' T1_ret ?_) | ((with_reducible refine' T1_ret_none ?he ?_); (case he => exact fun _ => rfl)) | ((with_reducible refine' T1_expr ?hw ?hi ?_); (case hw => exact fun _ => rfl); (case hi => exact rfl)) | ((with_reducible refine' T1_assign ?hw ?hk ?_); (case hk => exact rfl); (case hw => exact fun _ => rfl)) | ((with_reducible refine' T1_unpack2 ?hw ?hsw ?ha ?hb ?_); (case ha => exact rfl); (case hb => exact rfl); (case hw => exact fun _ => rfl); (case hsw => exact fun _ => rfl)) | ((with_reducible refine' T1_setattr ?hw ?_); (case hw => exact fun _ => rfl)) | ((with_reducible refine' T1_setitem ?hp ?hw ?_); (case hp => assumption); (case hw => exact fun _ => rfl)) | fail "s") | ((with_reducible show TG _ _ _ _ _ _ _ _ _); first | ((with_reducible show TE _ _ _ _ _ _ (.Name _ _) _); first | (first | ((with_reducible refine' TE_local ?a ?b ?c ?_); (case b => exact rfl); (case a => exact rfl); (case c => exact rfl)) | ((with_reducible refine' TE_global ?e ?b ?c ?_); (case b => exact rfl); (case e => (walk_at "m.galt")); (case c => exact rfl)) | ((with_reducible refine' TE_n_len ?f ?b ?_); (case f => assumption); (case b => exact rfl)) | ((with_reducible refine' TE_n_isinstance ?f ?b ?_); (case f => assumption); (case b => exact rfl)) | ((with_reducible refine' TE_n_str ?f ?b ?_); (case f => assumption); (case b => exact rfl)) | ((with_reducible refine' TE_n_list ?f ?b ?_); (case f => assumption); (case b => exact rfl)) | ((with_reducible refine' TE_n_range ?f ?b ?_); (case f => assumption); (case b => exact rfl)) | ((with_reducible refine' TE_cellvar ?a ?h ?b ?c ?_); (case b => exact rfl); (case a => exact rfl); (case h => (walk_at "m.cell")); (case c => exact rfl)) | ((with_reducible refine' TE_freevar ?a ?h ?b ?c ?g ?_); (case b => exact rfl); (case a => exact rfl); (case h => (walk_at "m.cell")); (case c => exact rfl); (case g => exact rfl)) | fail "name") | fail "e") | ((with_reducible show TE _ _ _ _ _ _ (.Constant _ _ _) _); first | (with_reducible refine' TE_str ?_) | (with_reducible refine' TE_int ?_) | (with_reducible refine' TE_none ?_) | (with_reducible refine' TE_bool ?_) | fail "e") | ((with_reducible show TE _ _ _ _ _ _ (.Attribute _ _ _) _); first | ((with_reducible refine' TE_attr ?he ?_); (case he => exact fun _ => rfl)) | fail "e") | ((with_reducible show TE _ _ _ _ _ _ (.Call _ _ _ _) _); first | ((with_reducible refine' TE_meth ?he ?ha ?_); (case he => exact fun _ => rfl); (case ha => exact fun _ => rfl); (walk_at "m.obj"); (refine' ⟨_, _, _, _, rfl, ?hc, ?hg, ?hm, ?_⟩); (case hc => (walk_at "m.cell")); (case hg => exact rfl); (case hm => (walk_at "m.mok"))) | ((with_reducible refine' TE_bmeth (name := Str.ofString "append") ?he ?ha PySem.F.slot_list_append PySem.F.plainAttrs_list PySem.F.type_list_append ?_); (case he => exact fun _ => rfl); (case ha => exact fun _ => rfl)) | ((with_reducible refine' TE_bmeth (name := Str.ofString "pop") ?he ?ha PySem.F.slot_list_pop PySem.F.plainAttrs_list PySem.F.type_list_pop ?_); (case he => exact fun _ => rfl); (case ha => exact fun _ => rfl)) | ((with_reducible refine' TE_bmeth (name := Str.ofString "insert") ?he ?ha PySem.F.slot_list_insert PySem.F.plainAttrs_list PySem.F.type_list_insert ?_); (case he => exact fun _ => rfl); (case ha => exact fun _ => rfl)) | ((with_reducible refine' TE_bmeth (name := Str.ofString "get") ?he ?ha PySem.F.slot_dict_get PySem.F.plainAttrs_dict PySem.F.type_dict_get ?_); (case he => exact fun _ => rfl); (case ha => exact fun _ => rfl)) | ((with_reducible refine' TE_bcall ?he ?ha ?_); (case he => exact fun _ => rfl); (case ha => exact fun _ => rfl); (walk_at "m.name"); refine ⟨_, rfl, ?_⟩) | ((with_reducible refine' TE_tcall ?he ?ha ?hb ?_); (case he => exact fun _ => rfl); (case ha => exact fun _ => rfl); (case hb => exact fun _ => rfl); (walk_at "m.name"); refine ⟨_, rfl, ?_⟩) | ((with_reducible refine' TE_call ?he ?ha ?_); (case he => exact fun _ => rfl); (case ha => exact fun _ => rfl); (walk_at "m.name"); (refine' ⟨_, rfl, ?k, ?_⟩); (case k => first | exact Facts.kp (by assumption) rfl | assumption)) | fail "e") | (with_reducible refine' TEs_nil ?_) | (with_reducible refine' TEs_cons ?_) | ((with_reducible refine' TE_cmp ?hb ?_); (case hb => exact rfl)) | (with_reducible refine' TE_bin ?_) | (with_reducible refine' TE_un ?_) | (with_reducible refine' TE_and ?_) | (with_reducible refine' TE_or ?_) | (with_reducible refine' TE_one ?_) | (with_reducible refine' TE_if ?_) | ((with_reducible refine' TE_two2 ?t ?_); (case t => exact fun _ _ => rfl)) | (with_reducible refine' TE_sub ?_) | ((with_reducible refine' TE_tuple ?ha ?hz ?_); (case ha => exact fun _ => rfl); (case hz => decide)) | (with_reducible refine' TB_not ?_) | (with_reducible refine' TB_and ?_) | (with_reducible refine' TB_and_nil ?_) | (with_reducible refine' TB_or ?_) | (with_reducible refine' TB_or_nil ?_) | ((with_reducible refine' TB_cmp ?hb ?_); (case hb => exact rfl)) | ((with_reducible refine' TB_plain ?hp ?_); (case hp => exact fun _ _ => rfl)) | fail "e") | ((with_reducible show OP1 _ _ _ _ _ _ _ _ _); first | ((with_reducible refine' OP_attr ?hc ?ok ?hx ?nb ?_); (case hc => (walk_at "m.cell")); (case ok => (walk_at "m.aok")); (case hx => exact rfl); (case nb => exact trivial)) | (with_reducible refine' OP_truth_bool ?_) | (with_reducible refine' OP_neg ?_) | fail "o1") | ((with_reducible show OP2 _ _ _ _ _ _ _ _ _ _); first | ((with_reducible refine' I_map ?hc ?hp ?hz ?hs ?_); (case hc => (walk_at "m.cell")); (case hp => assumption); (case hz => (walk_at "m.le")); (case hs => exact fun _ _ => rfl)) | ((with_reducible refine' I_range ?hc ?hp ?hz ?hs ?_); (case hc => (walk_at "m.cell")); (case hp => first | assumption | omega); (case hz => (walk_at "m.le")); (case hs => exact fun _ _ => rfl)) | (with_reducible refine' OP_eq_str ?_) | (with_reducible refine' OP_eq_int ?_) | (with_reducible refine' OP_ne_str ?_) | (with_reducible refine' OP_ne_int ?_) | ((with_reducible refine' OP_item_tup ?a ?b ?j ?x ?s ?_); (case a => decide); (case b => decide); (case j => exact rfl); (case x => exact rfl); (case s => exact fun _ _ => rfl)) | ((with_reducible refine' OP_in_empty ?hc ?_); (case hc => (walk_at "m.cell"))) | ((with_reducible refine' OP_item_dict ?hc ?hx ?hs ?_); (case hc => (walk_at "m.cell")); (case hx => exact rfl); (case hs => exact fun _ _ => rfl)) | ((with_reducible refine' OP_notin_dict ?hc ?_); (case hc => (walk_at "m.cell"))) | ((with_reducible refine' OP_in_strs' ?hx ?_); (case hx => exact rfl)) | ((with_reducible refine' OP_eq_pair ?oa ?ob ?oc ?oe ?_); (case oa => decide +kernel); (case ob => first | assumption | decide +kernel); (case oc => decide +kernel); (case oe => decide +kernel)) | ((with_reducible refine' OP_notin_strs ?hx ?_); (case hx => exact rfl)) | ((with_reducible refine' OP_setattr ?hpu ?hc ?ok ?hz ?_); (case hpu => assumption); (case hc => (walk_at "m.cell")); (case ok => (walk_at "m.sok")); (case hz => (walk_at "m.le"))) | (with_reducible refine' OP_lt_int ?_) | (with_reducible refine' OP_le_int ?_) | (with_reducible refine' OP_gt_int ?_) | (with_reducible refine' OP_add ?_) | (with_reducible refine' OP_sub ?_) | fail "o2") | ((with_reducible show OPs _ _ _ _ _ _ _ _ _); first | ((with_reducible refine' B_len_list ?a ?b ?_); (case a => (walk_at "m.cell")); (case b => (walk_at "m.le"))) | ((with_reducible refine' B_append ?hpu ?a ?b ?_); (case hpu => assumption); (case a => (walk_at "m.cell")); (case b => (walk_at "m.le"))) | ((with_reducible refine' B_len_tup ?b ?_); (case b => (walk_at "m.le"))) | fail "p") | ((with_reducible show thenS _ _ _ _ _ _ FV.next _ _); show TS _ _ _ _ _ _ _ _) | (with_reducible refine' thenS_ret ?_) | (with_reducible refine' backS_ret ?_) | (with_reducible refine' backS_next ?_) | (with_reducible refine' loopS_ret ?_) | (with_reducible refine' loopS_next ?_) | (with_reducible refine' thenS_brk ?_) | (with_reducible refine' thenS_cont ?_) | (with_reducible refine' loopS_brk ?_) | (with_reducible refine' loopS_cont ?_) | ((with_reducible show Exists _); first | refine ⟨_, _, _, rfl, rfl, ?_⟩ | refine ⟨_, _, rfl, ?_⟩ | refine ⟨_, rfl, ?_⟩) | ((with_reducible show V.isTy _ _ _ ∧ _); (refine' And.intro (Or.inl ⟨_, ?a, rfl⟩) ?_); (case a => (walk_at "m.cell"))) | ((with_reducible show _ ∧ _); (refine' And.intro ?a ?_); (case a => first | exact Nat.le_of_ble_eq_true rfl | exact rfl)) | ((with_reducible refine' ite_pos ?a ?_); (case a => (walk_at "m.tt"))) | ((with_reducible refine' ite_neg ?a ?_); (case a => (walk_at "m.ff"))) | fail "stop"))
/-- the last of the open elements, as the builder's `current` tells it -/
def lastI (l : List Nat) : Int := match l.getLast? with | some i => i | none => -1
theorem lastI_nil : lastI [] = -1 := rfl
theorem lastI_snoc (l : List Nat) (n : Nat) : lastI (l ++ [n]) = n := by unfold lastI; rw [List.getLast?_concat]
theorem BH.put1 {H : MH} {σ σ' : St} {l : Loc} {c : Cell} (hB : BH H σ) (h1 : bh σ' l = some c) (h2 : ∀ l', l' ≠ l → l'.isB = true → bh σ' l' = bh σ l') : BH (H.put l c) σ' := fun l' hl' => by
  by_cases e : l' = l
  · subst e; rw [put_same, h1]
  · rw [h2 l' e hl']; exact put_other e (hB l' hl')
theorem BH.stack {H : MH} {σ : St} (hB : BH H σ) (st : List Nat) : BH (H.put .items (.list (st.map vi))) { σ with stack := st } :=
  hB.put1 rfl fun l' hn hl => by cases l' <;> first | rfl | exact absurd rfl hn | (cases hl; done)
theorem BH.errs {H : MH} {σ : St} (hB : BH H σ) (es : List V) : BH (H.put .errors (.list es)) { σ with errs := es } :=
  hB.put1 rfl fun l' hn hl => by cases l' <;> first | rfl | exact absurd rfl hn | (cases hl; done)
theorem BH.bld {H : MH} {σ σ' : St} (hB : BH H σ) (e1 : σ'.nodes = σ.nodes) (e2 : σ'.stack = σ.stack) (e3 : σ'.errs = σ.errs) : BH (H.put .builder (.inst 489 (bflds σ'))) σ' :=
  hB.put1 rfl fun l' hn hl => by
    cases l' <;> first | exact absurd rfl hn | (cases hl; done) | rfl | simp only [bh, e1, e2, e3]
section
variable {M : Amb} {d : Nat} {cl : List (Str × Loc)} {ml : List (Str × V)} {H : MH}
theorem w_many (F : Facts M.K) {σ : St} (hB : BH H σ) (hz : σ.stack.length ≤ 1000) {Q : V → MH → Prop} (h : Q (.int σ.stack.length) H) : CALL M (d + 1) cl ml H 235 [.cell .stack] Q := by
  refine CALL_go (at_OpenStack_many F) b_OpenStack_many rfl rfl rfl ?_
  walk_at "m.run"
  rw [List.length_map]
  exact h
theorem w_current (F : Facts M.K) {σ : St} (hB : BH H σ) (hz : σ.stack.length ≤ 1000) {Q : V → MH → Prop} (h : Q (.int (lastI σ.stack)) H) : CALL M (d + 1) cl ml H 228 [.cell .stack] Q := by
  refine CALL_go (at_OpenStack_current F) b_OpenStack_current rfl rfl rfl ?_
  rcases List.eq_nil_or_concat σ.stack with e | ⟨l, n, e⟩
  · walk_at "m.run"
    refine ite_pos (by rw [e]; rfl) ?_
    walk_at "m.run"
    rw [e, lastI_nil] at h
    exact h
  · have e : σ.stack = l ++ [n] := e.trans (List.concat_eq_append ..)
    walk_at "m.run"
    refine ite_neg (by rw [e]; simp <;> omega) ?_
    walk_at "m.run"
    rw [e, lastI_snoc] at h
    rw [e] at hz
    simp only [List.length_append, List.length_singleton] at hz
    refine OP_item_list (x := vi n) (by walk_at "m.cell") (by rw [e]; simp <;> omega) (by rw [e]; simp <;> omega) ?_ (fun _ _ => rfl) ?_
    · rw [e]; simp
    · exact h
theorem w_push (hpu : M.pu = false) (F : Facts M.K) {σ : St} (hB : BH H σ) (hz : σ.stack.length ≤ 900) {n : Nat} {Q : V → MH → Prop} (h : ∀ H', BH H' { σ with stack := σ.stack ++ [n] } → Keep Loc.isB H H' → Q .none H') : CALL M (d + 1) cl ml H 214 [.cell .stack, vi n] Q := by
  refine CALL_go (at_OpenStack_push F) b_OpenStack_push rfl rfl rfl ?_
  walk_at "m.run"
  refine h _ ?_ (Keep.put rfl)
  have := hB.stack (σ.stack ++ [n])
  rw [List.map_append] at this
  exact this
theorem w_pop (hpu : M.pu = false) (F : Facts M.K) {σ : St} (hB : BH H σ) (hz : σ.stack.length ≤ 900) {l : List Nat} {n : Nat} (e : σ.stack = l ++ [n]) {Q : V → MH → Prop} (h : ∀ H', BH H' { σ with stack := l } → Keep Loc.isB H H' → Q (vi n) H') : CALL M (d + 1) cl ml H 221 [.cell .stack] Q := by
  refine CALL_go (at_OpenStack_pop F) b_OpenStack_pop rfl rfl rfl ?_
  walk_at "m.run"
  refine ite_neg (by rw [e]; simp <;> omega) ?_
  walk_at "m.run"
  refine B_pop (xs := l.map vi) (x := vi n) hpu ?_ ?_ ?_
  · have := hB .items rfl
    rw [this]; show some (Cell.list (σ.stack.map vi)) = _; rw [e, List.map_append]; rfl
  · rw [e] at hz; simp at hz; rw [List.length_map]; omega
  · exact h _ (hB.stack l) (Keep.put rfl)
theorem w_error (hpu : M.pu = false) (F : Facts M.K) {σ : St} (hB : BH H σ) (hz : σ.errs.length ≤ 900) {w : Str} {Q : V → MH → Prop} (h : ∀ H', BH H' { σ with errs := σ.errs ++ [.tup [.str w, .str σ.mode]] } → Keep Loc.isB H H' → Q .none H') : CALL M (d + 1) cl ml H 444 [.cell .builder, .str w] Q := by
  refine CALL_go (at_Builder_error F) b_Builder_error rfl rfl rfl ?_
  walk_at "m.run"
  exact h _ (hB.errs _) (Keep.put rfl)
theorem w_to (hpu : M.pu = false) (F : Facts M.K) {σ : St} (hB : BH H σ) {w : Str} {Q : V → MH → Prop} (h : ∀ H', BH H' { σ with mode := w } → Keep Loc.isB H H' → Q .none H') : CALL M (d + 1) cl ml H 451 [.cell .builder, .str w] Q := by
  refine CALL_go (at_Builder_to F) b_Builder_to rfl rfl rfl ?_
  walk_at "m.run"
  exact h _ (hB.bld (σ' := { σ with mode := w }) rfl rfl rfl) (Keep.put rfl)
end
def addN (σ : St) (nd : Nd) : St := { σ with nodes := σ.nodes ++ [nd] }
section
variable {M : Amb} {d : Nat} {cl : List (Str × Loc)} {ml : List (Str × V)} {H : MH}
theorem w_add_body (hpu : M.pu = false) (F : Facts M.K) {σ : St} (hB : BH H σ) (hz : σ.nodes.length ≤ 900) {kind space name text : Str} {attrs : List V} (ha : attrs.length ≤ 900) {Q : V → MH → Prop}
    (h : ∀ H', BH H' (addN σ ⟨kind, space, name, attrs, text, -1, []⟩) → Keep Loc.isB H H' → Q (vi σ.nodes.length) H') :
    TS M d (sco (mS 19 1)) cl [("text", .str text), ("attrs", .tup attrs), ("name", .str name), ("space", .str space), ("kind", .str kind), ("self", .cell .tree)] H (bd (mS 19 1)) (backS Q) := by
  refine TS_go rfl rfl ?_
  walk_at "m.run"
  refine B_list_copy (l := .att σ.nodes.length) (free_of (by walk_at "m.cell2") (fun _ => nofun)) (by omega) ?_
  walk_at "m.run"
  refine TE_list (l := .kid σ.nodes.length) (fun _ => rfl) ?_
  walk_at "m.run"
  refine ⟨free_of (by walk_at "m.cell2") (fun _ => nofun), ?_⟩
  walk_at "m.run"
  have hn : (↑(List.map (fun n : Nd => V.str n.kind) σ.nodes ++ [V.str kind]).length - 1 : Int) = (σ.nodes.length : Int) := by simp
  rw [hn]
  refine h _ (fun l hl => ?_) (by walk_at "m.keep")
  cases l
  case kid i =>
    by_cases e : i = σ.nodes.length
    · subst e
      refine' Eq.trans (b := some _) ?h1 ?h2
      case h1 => walk_at "m.cell"
      case h2 => simp [bh, addN]
    · have e' : Loc.kid i ≠ Loc.kid σ.nodes.length := fun z => e (Loc.kid.inj z)
      refine Eq.trans (b := bh σ (.kid i)) ?h1 ?h2
      case h1 => (repeat' (first | exact hB _ rfl | (refine' put_other ?_ ?_) | (refine' add_other ?_ ?_) | exact e' | (intro e; cases e; done)))
      case h2 =>
        show Option.map _ _ = Option.map _ _
        rw [show (addN σ _).nodes = σ.nodes ++ [_] from rfl]
        by_cases q : i < σ.nodes.length
        · rw [List.getElem?_append_left q]
        · rw [List.getElem?_eq_none (by omega), List.getElem?_eq_none (by simp; omega)]
  case att i =>
    by_cases e : i = σ.nodes.length
    · subst e
      refine' Eq.trans (b := some _) ?h1 ?h2
      case h1 => walk_at "m.cell"
      case h2 => simp [bh, addN]
    · have e' : Loc.att i ≠ Loc.att σ.nodes.length := fun z => e (Loc.att.inj z)
      refine Eq.trans (b := bh σ (.att i)) ?h1 ?h2
      case h1 => (repeat' (first | exact hB _ rfl | (refine' put_other ?_ ?_) | (refine' add_other ?_ ?_) | exact e' | (intro e; cases e; done)))
      case h2 =>
        show Option.map _ _ = Option.map _ _
        rw [show (addN σ _).nodes = σ.nodes ++ [_] from rfl]
        by_cases q : i < σ.nodes.length
        · rw [List.getElem?_append_left q]
        · rw [List.getElem?_eq_none (by omega), List.getElem?_eq_none (by simp; omega)]
  all_goals first | (cases hl; done) | ((refine' Eq.trans (b := some _) ?h1 ?h2); (case h1 => walk_at "m.cell"); (case h2 => first | exact rfl | (simp [bh, addN, List.range_succ]; done)))
end
theorem BH.kid {H : MH} {σ : St} (hB : BH H σ) {p : Nat} {x : Nd} (hp : σ.nodes[p]? = some x) : H.c (.kid p) = some (.list (x.kids.map vi)) := (hB _ rfl).trans (by show Option.map _ _ = _; rw [hp]; rfl)
theorem BH.att {H : MH} {σ : St} (hB : BH H σ) {p : Nat} {x : Nd} (hp : σ.nodes[p]? = some x) : H.c (.att p) = some (.list x.attrs) := (hB _ rfl).trans (by show Option.map _ _ = _; rw [hp]; rfl)
theorem lt_of_get {ns : List Nd} {p : Nat} {x : Nd} (hp : ns[p]? = some x) : p < ns.length := by
  rcases Nat.lt_or_ge p ns.length with q | q
  · exact q
  · rw [List.getElem?_eq_none q] at hp; cases hp
def insN (σ : St) (nd : Nd) (p : Nat) : St := { σ with nodes := (σ.nodes.modify p fun x => { x with kids := x.kids ++ [σ.nodes.length] }) ++ [{ nd with par := p }] }
section
variable {M : Amb} {d : Nat} {cl : List (Str × Loc)} {ml : List (Str × V)} {H : MH}
theorem w_add2 (hpu : M.pu = false) (F : Facts M.K) {σ : St} (hB : BH H σ) (hz : σ.nodes.length ≤ 900) {kind : Str} {Q : V → MH → Prop}
    (h : ∀ H', BH H' (addN σ ⟨kind, "", "", [], "", -1, []⟩) → Keep Loc.isB H H' → Q (vi σ.nodes.length) H') : CALL M (d + 1) cl ml H 321 [.cell .tree, .str kind] Q :=
  CALL_fn (at_Tree_add F) (b_Tree_add2 F) rfl (w_add_body hpu F hB hz (Nat.zero_le _) h)
theorem w_add5 (hpu : M.pu = false) (F : Facts M.K) {σ : St} (hB : BH H σ) (hz : σ.nodes.length ≤ 900) {kind space name : Str} {attrs : List V} (ha : attrs.length ≤ 900) {Q : V → MH → Prop}
    (h : ∀ H', BH H' (addN σ ⟨kind, space, name, attrs, "", -1, []⟩) → Keep Loc.isB H H' → Q (vi σ.nodes.length) H') : CALL M (d + 1) cl ml H 321 [.cell .tree, .str kind, .str space, .str name, .tup attrs] Q :=
  CALL_fn (at_Tree_add F) (b_Tree_add5 F) rfl (w_add_body hpu F hB hz ha h)
theorem w_add6 (hpu : M.pu = false) (F : Facts M.K) {σ : St} (hB : BH H σ) (hz : σ.nodes.length ≤ 900) {kind space name text : Str} {attrs : List V} (ha : attrs.length ≤ 900) {Q : V → MH → Prop}
    (h : ∀ H', BH H' (addN σ ⟨kind, space, name, attrs, text, -1, []⟩) → Keep Loc.isB H H' → Q (vi σ.nodes.length) H') : CALL M (d + 1) cl ml H 321 [.cell .tree, .str kind, .str space, .str name, .tup attrs, .str text] Q :=
  CALL_fn (at_Tree_add F) (b_Tree_add6 F) rfl (w_add_body hpu F hB hz ha h)
theorem w_element4 (hpu : M.pu = false) (F : Facts M.K) {σ : St} (hB : BH H σ) (hz : σ.nodes.length ≤ 900) {name : Str} (hn : name ≠ "template") {attrs : List V} (ha : attrs.length ≤ 900) {Q : V → MH → Prop}
    (h : ∀ H', BH H' (addN σ ⟨"element", "html", name, attrs, "", -1, []⟩) → Keep Loc.isB H H' → Q (vi σ.nodes.length) H') : CALL M (d + 2) cl ml H 330 [.cell .tree, .str name, .str "html", .tup attrs] Q := by
  refine CALL_go (at_Tree_element F) (b_Tree_element4 F) rfl rfl rfl ?_
  walk_at "m.run"
  refine w_add5 hpu F hB hz ha fun H' hB' k' => ?_
  walk_at "m.run"
  exact h H' hB' k'
theorem w_element2 (hpu : M.pu = false) (F : Facts M.K) {σ : St} (hB : BH H σ) (hz : σ.nodes.length ≤ 900) {name : Str} (hn : name ≠ "template") {Q : V → MH → Prop}
    (h : ∀ H', BH H' (addN σ ⟨"element", "html", name, [], "", -1, []⟩) → Keep Loc.isB H H' → Q (vi σ.nodes.length) H') : CALL M (d + 2) cl ml H 330 [.cell .tree, .str name] Q := by
  refine CALL_go (at_Tree_element F) (b_Tree_element2 F) rfl rfl rfl ?_
  walk_at "m.run"
  refine w_add5 hpu F hB hz (Nat.zero_le _) fun H' hB' k' => ?_
  walk_at "m.run"
  exact h H' hB' k'
theorem w_text (hpu : M.pu = false) (F : Facts M.K) {σ : St} (hB : BH H σ) (hz : σ.nodes.length ≤ 900) {text : Str} {Q : V → MH → Prop}
    (h : ∀ H', BH H' (addN σ ⟨"text", "", "", [], text, -1, []⟩) → Keep Loc.isB H H' → Q (vi σ.nodes.length) H') : CALL M (d + 2) cl ml H 337 [.cell .tree, .str text] Q := by
  refine CALL_go (at_Tree_text F) b_Tree_text rfl rfl rfl ?_
  walk_at "m.run"
  refine w_add6 hpu F hB hz (Nat.zero_le _) fun H' hB' k' => ?_
  walk_at "m.run"
  exact h H' hB' k'
theorem w_comment (hpu : M.pu = false) (F : Facts M.K) {σ : St} (hB : BH H σ) (hz : σ.nodes.length ≤ 900) {text : Str} {Q : V → MH → Prop}
    (h : ∀ H', BH H' (addN σ ⟨"comment", "", "", [], text, -1, []⟩) → Keep Loc.isB H H' → Q (vi σ.nodes.length) H') : CALL M (d + 2) cl ml H 344 [.cell .tree, .str text] Q := by
  refine CALL_go (at_Tree_comment F) b_Tree_comment rfl rfl rfl ?_
  walk_at "m.run"
  refine w_add6 hpu F hB hz (Nat.zero_le _) fun H' hB' k' => ?_
  walk_at "m.run"
  exact h H' hB' k'
theorem w_last (F : Facts M.K) {σ : St} (hB : BH H σ) (hz : σ.nodes.length ≤ 900) {p : Nat} {x : Nd} (hp : σ.nodes[p]? = some x) (hx : x.kids.length ≤ 900) {Q : V → MH → Prop}
    (h : Q (.int (lastI x.kids)) H) : CALL M (d + 1) cl ml H 394 [.cell .tree, vi p] Q := by
  refine CALL_go (at_Tree_last F) b_Tree_last rfl rfl rfl ?_
  have hk := hB.kid hp
  have hpl := lt_of_get hp
  walk_at "m.run"
  refine OP_truth_list hk (by walk_at "m.le") ?_
  rcases List.eq_nil_or_concat x.kids with e | ⟨l, n, e⟩
  · refine ite_pos (by rw [e]; rfl) ?_
    walk_at "m.run"
    rw [e, lastI_nil] at h
    exact h
  · have e : x.kids = l ++ [n] := e.trans (List.concat_eq_append ..)
    refine ite_neg (by rw [e]; simp) ?_
    walk_at "m.run"
    refine OP_item_last (x := vi n) hk (by walk_at "m.le") (by rw [e]; simp) (fun _ _ => rfl) ?_
    walk_at "m.run"
    rw [e, lastI_snoc] at h
    exact h
end
theorem BH.ptmp {H : MH} {σ : St} (hB : BH H σ) {k : Nat} {x : Cell} : BH (H.put (.tmp k) x) σ := fun l hl => (put_other (fun e => by subst e; cases hl) rfl).trans (hB l hl)
theorem BH.atmp {H : MH} {σ : St} (hB : BH H σ) {k : Nat} {x : Cell} : BH (H.add (.tmp k) x) σ := fun l hl => (add_other (fun e => by subst e; cases hl) rfl).trans (hB l hl)
/-- parents stand ahead of their kids -/
def ParOK (ns : List Nd) : Prop := ∀ (i : Nat) (x : Nd), ns[i]? = some x → -1 ≤ x.par ∧ x.par < i
section
variable {M : Amb} {d : Nat} {cl : List (Str × Loc)} {ml : List (Str × V)} {H : MH}
theorem w_above (hpu : M.pu = false) (F : Facts M.K) {σ : St} (hB : BH H σ) (hz : σ.nodes.length ≤ 900) (hw : ParOK σ.nodes) {p : Nat} {x : Nd} (hp : σ.nodes[p]? = some x) {Q : V → MH → Prop}
    (h : ∀ (H' : MH) (ys : List Int) (k : Nat), BH H' σ → Keep Loc.isB H H' → H'.c (.tmp k) = some (.list (ys.map .int)) → (∀ y ∈ ys, y < (p : Int)) → Q (.cell (.tmp k)) H') : CALL M (d + 1) cl ml H 422 [.cell .tree, vi p] Q := by
  refine CALL_go (at_above F) b_above rfl rfl rfl ?_
  walk_at "m.run"
  refine TE_list (l := .tmp H.nx) (fun _ => rfl) ?_
  walk_at "m.run"
  refine ⟨by walk_at "m.free", ?_⟩
  have hB1 : BH (H.add (.tmp H.nx) (.list [])) σ := hB.atmp
  walk_at "m.run"
  refine T1_while' (α := Int × List Int) (fun a H' => BH H' σ ∧ Keep Loc.isB H H' ∧ H'.c (.tmp H.nx) = some (.list (a.2.map .int)) ∧ -1 ≤ a.1 ∧ a.1 < p ∧ (∀ y ∈ a.2, y < (p : Int)) ∧ (a.2.length : Int) + a.1 ≤ p)
    (fun a => [("up", .int a.1), ("out", .cell (.tmp H.nx)), ("node", vi p), ("tree", .cell .tree)]) (fun a => (a.1 + 1).toNat) (x.par, [])
    ⟨hB1, by walk_at "m.keep", add_same, (hw p x hp).1, (hw p x hp).2, by simp, by have := (hw p x hp).2; simp; omega⟩ ⟨rfl, rfl, rfl, rfl, trivial⟩ (fun _ _ _ s h => TX.sub s h) ?_
  rintro ⟨u, ys⟩ H' ⟨hB', k', hy, h1, h2, h3, h4⟩
  simp only at hy h1 h2 h3 h4
  have hpl := lt_of_get hp
  walk_at "m.run"
  by_cases e : u = -1
  · subst e
    refine ite_neg (by simp) ?_
    walk_at "m.run"
    exact h H' ys _ hB' k' hy h3
  · obtain ⟨q, rfl⟩ : ∃ q : Nat, u = q := ⟨u.toNat, by omega⟩
    refine ite_pos (by simp) ?_
    obtain ⟨z, hq⟩ : ∃ z, σ.nodes[q]? = some z := ⟨_, List.getElem?_eq_getElem (by omega)⟩
    have hyl : (ys.map V.int).length ≤ 1000 := by rw [List.length_map]; omega
    walk_at "m.run"
    have := hw q z hq
    refine ⟨(z.par, ys ++ [(q : Int)]), ?_, ⟨hB'.ptmp, k'.ptmp (Nat.le_refl _), ?_, this.1, ?_, ?_, ?_⟩, ⟨rfl, rfl, rfl, rfl, trivial⟩⟩
    · show (z.par + 1).toNat < ((q : Int) + 1).toNat; omega
    · rw [put_same, List.map_append]; rfl
    · show z.par < p; omega
    · intro y hy
      rcases List.mem_append.mp hy with hy | hy
      · exact h3 y hy
      · rw [List.mem_singleton.mp hy]; omega
    · simp only [List.length_append, List.length_singleton]; omega
theorem w_remove (F : Facts M.K) {σ : St} (hB : BH H σ) (hz : σ.nodes.length ≤ 900) {p : Nat} {x : Nd} (hp : σ.nodes[p]? = some x) (hx : x.par = -1) {Q : V → MH → Prop} (h : Q .none H) : CALL M (d + 1) cl ml H 373 [.cell .tree, vi p] Q := by
  refine CALL_go (at_Tree_remove F) b_Tree_remove rfl rfl rfl ?_
  have hpl := lt_of_get hp
  walk_at "m.run"
  refine ite_neg (by rw [hx]; decide) ?_
  walk_at "m.run"
  exact h
theorem map_modify_same {α β : Type} {f : α → β} {g : α → α} (h : ∀ y, f (g y) = f y) (p : Nat) (l : List α) : (l.modify p g).map f = l.map f := by
  refine List.ext_getElem? fun i => ?_
  rw [List.getElem?_map, List.getElem?_map, List.getElem?_modify]
  split
  · cases l[i]? with
    | none => rfl
    | some y => simp [h]
  · simp
theorem insN_get {σ : St} {nd : Nd} {p i : Nat} : (insN σ nd p).nodes[i]? = if i < σ.nodes.length then (if p = i then σ.nodes[i]?.map fun x => { x with kids := x.kids ++ [σ.nodes.length] } else σ.nodes[i]?) else if i = σ.nodes.length then some { nd with par := p } else none := by
  show (σ.nodes.modify p _ ++ [_])[i]? = _
  rw [List.getElem?_append, List.length_modify]
  split
  · rw [List.getElem?_modify]
    split
    · rfl
    · cases σ.nodes[i]? <;> rfl
  · split
    · rename_i e; subst e; simp
    · rename_i h1 h2; rw [List.getElem?_eq_none]; simp; omega
theorem addN_get {σ : St} {nd : Nd} {i : Nat} : (addN σ nd).nodes[i]? = if i < σ.nodes.length then σ.nodes[i]? else if i = σ.nodes.length then some nd else none := by
  show (σ.nodes ++ [_])[i]? = _
  rw [List.getElem?_append]
  split
  · rfl
  · split
    · rename_i e; subst e; simp
    · rename_i h1 h2; rw [List.getElem?_eq_none]; simp; omega
theorem BH.insN {H H' : MH} {σ : St} {nd x : Nd} {p : Nat} (hp : σ.nodes[p]? = some x) (hB : BH H (addN σ nd)) (h1 : H'.c (.kid p) = some (.list (x.kids.map vi ++ [vi σ.nodes.length])))
    (h2 : H'.c .parents = some (.list (((σ.nodes ++ [nd]).map fun n => V.int n.par).set σ.nodes.length (vi p)))) (h3 : ∀ l, l ≠ .kid p → l ≠ .parents → H'.c l = H.c l) : BH H' (insN σ nd p) := by
  intro l hl
  have hpl := lt_of_get hp
  have key : ∀ f : Nd → V, (∀ (y : Nd) ks, f { y with kids := ks } = f y) → f { nd with par := p } = f nd → (Mine.insN σ nd p).nodes.map f = (addN σ nd).nodes.map f := by
    intro f hf he
    show ((σ.nodes.modify p _) ++ [_]).map f = (σ.nodes ++ [_]).map f
    rw [List.map_append, List.map_append, map_modify_same (fun y => hf y _)]
    simp [he]
  have kl : (Mine.insN σ nd p).nodes.length = (addN σ nd).nodes.length := by
    show ((σ.nodes.modify p _) ++ [_]).length = (σ.nodes ++ [_]).length
    simp
  have go : ∀ l, l.isB = true → l ≠ .kid p → l ≠ .parents → bh (addN σ nd) l = bh (Mine.insN σ nd p) l → H'.c l = bh (Mine.insN σ nd p) l := fun l a b c e => (h3 l b c).trans ((hB l a).trans e)
  cases l
  case kid i =>
    by_cases e : i = p
    · subst e
      rw [h1]
      show _ = Option.map _ _
      rw [insN_get, if_pos hpl, if_pos rfl, hp]
      simp
    · refine go _ hl (fun z => e (Loc.kid.inj z)) (by intro e; cases e) ?_
      show Option.map _ _ = Option.map _ _
      rw [insN_get, addN_get]
      split
      · rw [if_neg (fun z => e z.symm)]
      · split <;> rfl
  case att i =>
    refine go _ hl (by intro e; cases e) (by intro e; cases e) ?_
    show Option.map _ _ = Option.map _ _
    rw [insN_get, addN_get]
    split
    · split
      · cases σ.nodes[i]? <;> rfl
      · rfl
    · split <;> rfl
  case parents =>
    rw [h2]
    show _ = some (Cell.list ((σ.nodes.modify p _ ++ [_]).map _))
    rw [List.map_append, List.map_append, map_modify_same (f := fun n : Nd => V.int n.par) (g := fun x : Nd => { x with kids := x.kids ++ [σ.nodes.length] }) (fun _ => rfl)]
    simp
  all_goals first | (cases hl; done) | (exact go _ hl (by intro e; cases e) (by intro e; cases e) rfl) | (refine go _ hl (by intro e; cases e) (by intro e; cases e) ?_; show some (Cell.list _) = some (Cell.list _); first | rw [key _ (fun _ _ => rfl) rfl] | (show some (Cell.list ((List.range _).map _)) = some (Cell.list ((List.range _).map _)); rw [kl]))
theorem w_insert (hpu : M.pu = false) (F : Facts M.K) {σ : St} {nd : Nd} (hB : BH H (addN σ nd)) (hz : σ.nodes.length ≤ 890) (hw : ParOK σ.nodes) {p : Nat} {x : Nd} (hp : σ.nodes[p]? = some x) (hkl : x.kids.length ≤ 900) (hn : nd.par = -1) {Q : V → MH → Prop}
    (h : ∀ H', BH H' (insN σ nd p) → Keep Loc.isB H H' → Q .none H') : CALL M (d + 2) cl ml H 359 [.cell .tree, vi p, vi σ.nodes.length, .int (-1)] Q := by
  refine CALL_go (at_Tree_insert F) (b_Tree_insert F) rfl rfl rfl ?_
  have hpl := lt_of_get hp
  have hp' : (addN σ nd).nodes[p]? = some x := by show (σ.nodes ++ [nd])[p]? = _; rw [List.getElem?_append_left hpl]; exact hp
  have hn' : (addN σ nd).nodes[σ.nodes.length]? = some nd := by show (σ.nodes ++ [nd])[_]? = _; simp
  have hz' : (addN σ nd).nodes.length ≤ 900 := by show (σ.nodes ++ [nd]).length ≤ 900; simp; omega
  have hw' : ParOK (addN σ nd).nodes := by
    intro i y hy
    have hy : (σ.nodes ++ [nd])[i]? = some y := hy
    rw [List.getElem?_append] at hy
    split at hy
    · exact hw i y hy
    · cases q : i - σ.nodes.length with
      | zero => rw [q] at hy; cases hy; rw [hn]; omega
      | succ j => rw [q] at hy; simp at hy
  walk_at "m.run"
  refine ite_neg (by simp; omega) ?_
  walk_at "m.run"
  refine w_above hpu F hB hz' hw' hp' fun H1 ys k hB1 k1 hy hys => ?_
  walk_at "m.run"
  refine OP_in_ints hy ?_
  have hno : (ys.any (· == (σ.nodes.length : Int))) = false := by
    rw [List.any_eq_false]
    intro y hy
    have := hys y hy
    simp; omega
  rw [hno]
  walk_at "m.run"
  refine w_remove F hB1 hz' hn' hn ?_
  have hk := hB1.kid hp'
  have hpl' := lt_of_get hp'
  have hpar : H1.c .parents = some (.list ((σ.nodes ++ [nd]).map fun n => V.int n.par)) := hB1 .parents rfl
  walk_at "m.run"
  refine B_insert_end hpu hk (by walk_at "m.le") rfl ?_
  walk_at "m.run"
  refine ⟨_, Stored.item (by walk_at "m.cell") (by omega) (by simp; omega) (by walk_at "m.le"), ?_⟩
  walk_at "m.run"
  refine h _ (BH.insN hp hB1 ?_ put_same fun l a b => (put_other b rfl).trans (put_other a rfl)) (by walk_at "m.keep")
  exact put_other (by intro e; cases e) put_same
end
/-- where things go: the last open element, or the document -/
def curP (l : List Nat) : Nat := match l.getLast? with | some i => i | none => 0
theorem curP_snoc (l : List Nat) (n : Nat) : curP (l ++ [n]) = n := by unfold curP; rw [List.getLast?_concat]
theorem curP_nil : curP [] = 0 := rfl
def pushN (σ : St) (n : Nat) : St := { σ with stack := σ.stack ++ [n] }
def elN (name : Str) (attrs : List V) : Nd := ⟨"element", "html", name, attrs, "", -1, []⟩
def txtN (t : Str) : Nd := ⟨"text", "", "", [], t, -1, []⟩
def comN (t : Str) : Nd := ⟨"comment", "", "", [], t, -1, []⟩
/-- an element is put in and stays open -/
def growN (σ : St) (name : Str) (attrs : List V) : St := { insN σ (elN name attrs) (curP σ.stack) with stack := σ.stack ++ [σ.nodes.length] }
def setText (σ : St) (k : Nat) (c : Str) : St := { σ with nodes := σ.nodes.modify k fun x => { x with text := x.text ++ c } }
def signN (σ : St) (p : Nat) (x : Nd) (c : Str) : St := match x.kids.getLast? with
  | some k => match σ.nodes[k]? with
    | some y => if y.kind = "text" then setText σ k c else insN σ (txtN c) p
    | none => insN σ (txtN c) p
  | none => insN σ (txtN c) p
section
variable {M : Amb} {d : Nat} {cl : List (Str × Loc)} {ml : List (Str × V)} {H : MH}
theorem w_place_for (F : Facts M.K) {σ : St} (hB : BH H σ) (hz : σ.stack.length ≤ 900) {Q : V → MH → Prop} (h : Q (.tup [vi (curP σ.stack), .int (-1)]) H) : CALL M (d + 2) cl ml H 522 [.cell .builder] Q := by
  refine CALL_go (at_place_for F) (b_place_for F) rfl rfl rfl ?_
  walk_at "m.run"
  refine w_current F hB (by omega) ?_
  walk_at "m.run"
  rcases List.eq_nil_or_concat σ.stack with e | ⟨l, n, e⟩
  · rw [e] at h
    refine ite_pos (by rw [e]; rfl) ?_
    walk_at "m.run"
    exact h
  · have e : σ.stack = l ++ [n] := e.trans (List.concat_eq_append ..)
    rw [e, curP_snoc] at h
    rw [e, lastI_snoc]
    walk_at "m.run"
    exact h
theorem w_make (hpu : M.pu = false) (F : Facts M.K) {σ : St} (hB : BH H σ) (hz : σ.nodes.length ≤ 900) {name : Str} (hn : name ≠ "template") {attrs : List V} (ha : attrs.length ≤ 900) {Q : V → MH → Prop}
    (h : ∀ H', BH H' (addN σ (elN name attrs)) → Keep Loc.isB H H' → Q (vi σ.nodes.length) H') : CALL M (d + 3) cl ml H 545 [.cell .builder, .str name, .tup attrs, .str "html"] Q := by
  refine CALL_go (at_make F) (b_make F) rfl rfl rfl ?_
  walk_at "m.run"
  refine w_element4 hpu F hB hz hn ha fun H' hB' k' => ?_
  walk_at "m.run"
  exact h H' hB' k'
theorem w_insert_element_body (hpu : M.pu = false) (F : Facts M.K) {σ : St} (hB : BH H σ) (hz : σ.nodes.length ≤ 880) (hs : σ.stack.length ≤ 890) (hw : ParOK σ.nodes) {x : Nd} (hp : σ.nodes[curP σ.stack]? = some x) (hkl : x.kids.length ≤ 900) {name : Str} (hn : name ≠ "template") {attrs : List V} (ha : attrs.length ≤ 900) {Q : V → MH → Prop}
    (h : ∀ H', BH H' (growN σ name attrs) → Keep Loc.isB H H' → Q (vi σ.nodes.length) H') :
    TS M (d + 3) (sco (tS 31)) cl [("space", .str "html"), ("attrs", .tup attrs), ("name", .str name), ("builder", .cell .builder)] H (bd (tS 31)) (backS Q) := by
  refine TS_go rfl rfl ?_
  walk_at "m.run"
  refine w_place_for F hB (by omega) ?_
  walk_at "m.run"
  refine w_make hpu F hB (by omega) hn ha fun H1 hB1 k1 => ?_
  walk_at "m.run"
  refine w_insert hpu F hB1 (by omega) hw hp hkl rfl fun H2 hB2 k2 => ?_
  walk_at "m.run"
  refine w_push hpu F hB2 (by show σ.stack.length ≤ 900; omega) fun H3 hB3 k3 => ?_
  walk_at "m.run"
  exact h H3 hB3 ((k1.trans k2).trans k3)
end
theorem BH.setText {H : MH} {σ : St} (hB : BH H σ) {k : Nat} {y : Nd} (hk : σ.nodes[k]? = some y) {c : Str} : BH (H.put .texts (.list ((σ.nodes.map fun n => V.str n.text).set k (.str (y.text ++ c))))) (setText σ k c) := by
  have key : ∀ f : Nd → V, (∀ (y : Nd) t, f { y with text := t } = f y) → (Mine.setText σ k c).nodes.map f = σ.nodes.map f := fun f hf => map_modify_same (fun y => hf y _) k σ.nodes
  have kl : (Mine.setText σ k c).nodes.length = σ.nodes.length := List.length_modify ..
  have gt : ∀ i, (Mine.setText σ k c).nodes[i]? = if k = i then σ.nodes[i]?.map (fun x => { x with text := x.text ++ c }) else σ.nodes[i]? := fun i => by
    show (σ.nodes.modify k _)[i]? = _
    rw [List.getElem?_modify]
    split
    · rfl
    · cases σ.nodes[i]? <;> rfl
  refine hB.put1 ?_ fun l hn hl => ?_
  · show some (Cell.list ((σ.nodes.modify k _).map _)) = _
    congr 2
    refine List.ext_getElem? fun i => ?_
    rw [List.getElem?_map, List.getElem?_modify, List.getElem?_set, List.length_map, List.getElem?_map]
    by_cases e : k = i
    · subst e
      have hg : σ.nodes[k]'(lt_of_get hk) = y := by rw [List.getElem?_eq_getElem (lt_of_get hk)] at hk; exact Option.some.inj hk
      simp [lt_of_get hk, hg]
    · simp [e]
  · cases l
    case kid i =>
      show Option.map _ _ = Option.map _ _
      rw [gt]; split
      · cases σ.nodes[i]? <;> rfl
      · rfl
    case att i =>
      show Option.map _ _ = Option.map _ _
      rw [gt]; split
      · cases σ.nodes[i]? <;> rfl
      · rfl
    all_goals first | (cases hl; done) | rfl | (exact absurd rfl hn) | (show some (Cell.list _) = some (Cell.list _); first | rw [key _ (fun _ _ => rfl)] | (show some (Cell.list ((List.range _).map _)) = some (Cell.list ((List.range _).map _)); rw [kl]))
section
variable {M : Amb} {d : Nat} {cl : List (Str × Loc)} {ml : List (Str × V)} {H : MH}
theorem w_insert_element2 (hpu : M.pu = false) (F : Facts M.K) {σ : St} (hB : BH H σ) (hz : σ.nodes.length ≤ 880) (hs : σ.stack.length ≤ 890) (hw : ParOK σ.nodes) {x : Nd} (hp : σ.nodes[curP σ.stack]? = some x) (hkl : x.kids.length ≤ 900) {name : Str} (hn : name ≠ "template") {Q : V → MH → Prop}
    (h : ∀ H', BH H' (growN σ name []) → Keep Loc.isB H H' → Q (vi σ.nodes.length) H') : CALL M (d + 4) cl ml H 554 [.cell .builder, .str name] Q :=
  CALL_fn (at_insert_element F) (b_insert_element2 F) rfl (w_insert_element_body hpu F hB hz hs hw hp hkl hn (Nat.zero_le _) h)
theorem w_insert_element3 (hpu : M.pu = false) (F : Facts M.K) {σ : St} (hB : BH H σ) (hz : σ.nodes.length ≤ 880) (hs : σ.stack.length ≤ 890) (hw : ParOK σ.nodes) {x : Nd} (hp : σ.nodes[curP σ.stack]? = some x) (hkl : x.kids.length ≤ 900) {name : Str} (hn : name ≠ "template") {attrs : List V} (ha : attrs.length ≤ 900) {Q : V → MH → Prop}
    (h : ∀ H', BH H' (growN σ name attrs) → Keep Loc.isB H H' → Q (vi σ.nodes.length) H') : CALL M (d + 4) cl ml H 554 [.cell .builder, .str name, .tup attrs] Q :=
  CALL_fn (at_insert_element F) (b_insert_element3 F) rfl (w_insert_element_body hpu F hB hz hs hw hp hkl hn ha h)
theorem w_associate (F : Facts M.K) {σ : St} (hB : BH H σ) (hz : σ.nodes.length ≤ 900) {p : Nat} {x : Nd} (hp : σ.nodes[p]? = some x) (hn : x.name = "frameset" ∨ x.name = "frame") {Q : V → MH → Prop}
    (h : Q .none H) : CALL M (d + 1) cl ml H 575 [.cell .builder, vi p] Q := by
  refine CALL_go (at_associate F) b_associate rfl rfl rfl ?_
  walk_at "m.run"
  by_cases e1 : (σ.form == -1) = true
  · walk_at "m.run"
    exact h
  · walk_at "m.run"
    by_cases e2 : (σ.form == σ.ctx) = true
    · walk_at "m.run"
      exact h
    · walk_at "m.run"
      have : (!(["button", "fieldset", "input", "object", "output", "select", "textarea", "img"] : List Str).any (· == x.name)) = true := by
        rcases hn with e | e <;> rw [e] <;> decide +kernel
      walk_at "m.run"
      exact h
theorem w_insert_sign (hpu : M.pu = false) (F : Facts M.K) {σ : St} (hB : BH H σ) (hz : σ.nodes.length ≤ 880) (hs : σ.stack.length ≤ 890) (hw : ParOK σ.nodes) {x : Nd} (hp : σ.nodes[curP σ.stack]? = some x) (hkl : x.kids.length ≤ 900) (hxk : x.kind ≠ "document")
    (hkid : ∀ k ∈ x.kids, ∃ y, σ.nodes[k]? = some y) {c : Str} (hc : c.length ≤ 10) (ht : ∀ (i : Nat) (y : Nd), σ.nodes[i]? = some y → y.text.length ≤ 900) {Q : V → MH → Prop}
    (h : ∀ H', BH H' (signN σ (curP σ.stack) x c) → Keep Loc.isB H H' → Q .none H') : CALL M (d + 3) cl ml H 529 [.cell .builder, .str c] Q := by
  refine CALL_go (at_insert_sign F) b_insert_sign rfl rfl rfl ?_
  walk_at "m.run"
  refine w_place_for F hB (by omega) ?_
  walk_at "m.run"
  refine w_last F hB (by omega) hp hkl ?_
  have hxk' : ¬ (x.kind == "document") = true := str_nb hxk
  have hpl := lt_of_get hp
  walk_at "m.run"
  rcases List.eq_nil_or_concat x.kids with e | ⟨l, k, e⟩
  · have hq : signN σ (curP σ.stack) x c = insN σ (txtN c) (curP σ.stack) := by unfold signN; rw [e]; rfl
    rw [hq] at h
    rw [e, lastI_nil]
    walk_at "m.run"
    refine w_text hpu F hB (by omega) fun H1 hB1 k1 => ?_
    walk_at "m.run"
    refine w_insert hpu F hB1 (by omega) hw hp hkl rfl fun H2 hB2 k2 => ?_
    walk_at "m.run"
    exact h H2 hB2 (k1.trans k2)
  · have e : x.kids = l ++ [k] := e.trans (List.concat_eq_append ..)
    obtain ⟨y, hy⟩ := hkid k (by rw [e]; simp)
    have hkl2 := lt_of_get hy
    have hty := ht k y hy
    rw [e, lastI_snoc]
    walk_at "m.run"
    by_cases e2 : y.kind = "text"
    · have hq : signN σ (curP σ.stack) x c = setText σ k c := by unfold signN; rw [e, List.getLast?_concat]; simp only [hy, if_pos e2]
      rw [hq] at h
      walk_at "m.run"
      refine OP_add_str (by omega) ?_
      walk_at "m.run"
      refine ⟨_, Stored.item (by walk_at "m.cell") (by omega) (by simp; omega) (by walk_at "m.le"), ?_⟩
      walk_at "m.run"
      exact h _ (hB.setText hy) (Keep.put rfl)
    · have hq : signN σ (curP σ.stack) x c = insN σ (txtN c) (curP σ.stack) := by unfold signN; rw [e, List.getLast?_concat]; simp only [hy, if_neg e2]
      rw [hq] at h
      walk_at "m.run"
      refine w_text hpu F hB (by omega) fun H1 hB1 k1 => ?_
      walk_at "m.run"
      refine w_insert hpu F hB1 (by omega) hw hp hkl rfl fun H2 hB2 k2 => ?_
      walk_at "m.run"
      exact h H2 hB2 (k1.trans k2)
theorem w_insert_comment2 (hpu : M.pu = false) (F : Facts M.K) {σ : St} (hB : BH H σ) (hz : σ.nodes.length ≤ 880) (hs : σ.stack.length ≤ 890) (hw : ParOK σ.nodes) {x : Nd} (hp : σ.nodes[curP σ.stack]? = some x) (hkl : x.kids.length ≤ 900) {c : Str} {Q : V → MH → Prop}
    (h : ∀ H', BH H' (insN σ (comN c) (curP σ.stack)) → Keep Loc.isB H H' → Q .none H') : CALL M (d + 3) cl ml H 537 [.cell .builder, .str c] Q := by
  refine CALL_go (at_insert_comment F) (b_insert_comment2 F) rfl rfl rfl ?_
  walk_at "m.run"
  refine w_place_for F hB (by omega) ?_
  walk_at "m.run"
  refine w_comment hpu F hB (by omega) fun H1 hB1 k1 => ?_
  walk_at "m.run"
  refine w_insert hpu F hB1 (by omega) hw hp hkl rfl fun H2 hB2 k2 => ?_
  walk_at "m.run"
  exact h H2 hB2 (k1.trans k2)
theorem w_insert_comment3 (hpu : M.pu = false) (F : Facts M.K) {σ : St} (hB : BH H σ) (hz : σ.nodes.length ≤ 880) (hw : ParOK σ.nodes) {p : Nat} {x : Nd} (hp : σ.nodes[p]? = some x) (hkl : x.kids.length ≤ 900) {c : Str} {Q : V → MH → Prop}
    (h : ∀ H', BH H' (insN σ (comN c) p) → Keep Loc.isB H H' → Q .none H') : CALL M (d + 3) cl ml H 537 [.cell .builder, .str c, vi p] Q := by
  refine CALL_go (at_insert_comment F) (b_insert_comment3 F) rfl rfl rfl ?_
  walk_at "m.run"
  refine w_comment hpu F hB (by omega) fun H1 hB1 k1 => ?_
  walk_at "m.run"
  refine w_insert hpu F hB1 (by omega) hw hp hkl rfl fun H2 hB2 k2 => ?_
  walk_at "m.run"
  exact h H2 hB2 (k1.trans k2)
end
/-- the law's tokens -/
inductive Tk where
  | start (n : Str) (a : Str) (s : Bool)
  | fin (n : Str)
  | ch (c : Str)
  | com (t : Str)
  | doc
  | eof
def tAttrs (a : Str) : List V := [.tup [.str "n", .str a]]
def tkV : Tk → V
  | .start n a s => .tup [.str "start", .str n, .tup (tAttrs a), .bool s]
  | .fin n => .tup [.str "end", .str n, .tup [], .bool false]
  | .ch c => .tup [.str "char", .str c]
  | .com t => .tup [.str "comment", .str t]
  | .doc => .tup [.str "doctype", .str "html", .none, .none, .bool false]
  | .eof => .tup [.str "eof"]
def spaces : List Str := ["\t", "\n", "\x0c", "\r", " "]
def Tk.spc : Tk → Bool
  | .ch c => spaces.any (· == c)
  | _ => false
def Tk.st (n : Str) : Tk → Bool
  | .start m _ _ => m == n
  | _ => false
def Tk.en (n : Str) : Tk → Bool
  | .fin m => m == n
  | _ => false
def Tk.word : Tk → Str
  | .doc => "unexpected-doctype"
  | .start .. => "unexpected-start-tag"
  | .fin _ => "unexpected-end-tag"
  | _ => "unexpected-text"
def errN (σ : St) (v : V) : St := { σ with errs := σ.errs ++ [v] }
def refN (σ : St) (t : Tk) : St := errN σ (.tup [.str t.word, .str σ.mode])
def stopN (σ : St) : St := { σ with stack := [], done := true }
section
variable {M : Amb} {d : Nat} {cl : List (Str × Loc)} {ml : List (Str × V)} {H : MH}
theorem w_is_space (F : Facts M.K) {c : Str} {Q : V → MH → Prop} (h : Q (.bool (spaces.any (· == c))) H) : CALL M (d + 1) cl ml H 151 [.str c] Q := by
  refine CALL_go (at_is_space F) b_is_space rfl rfl rfl ?_
  walk_at "m.run"
  exact h
theorem w_is_space_token (F : Facts M.K) {t : Tk} {Q : V → MH → Prop} (h : Q (.bool t.spc) H) : CALL M (d + 2) cl ml H 582 [tkV t] Q := by
  refine CALL_go (at_is_space_token F) b_is_space_token rfl rfl rfl ?_
  cases t <;> simp only [tkV] <;> walk_at "m.run"
  case ch c =>
    refine w_is_space F ?_
    exact h
  all_goals exact h
theorem w_is_start_of (F : Facts M.K) {t : Tk} {n : Str} {Q : V → MH → Prop} (h : Q (.bool (t.st n)) H) : CALL M (d + 1) cl ml H 589 [tkV t, .str n] Q := by
  refine CALL_go (at_is_start_of F) b_is_start_of rfl rfl rfl ?_
  cases t <;> simp only [tkV] <;> walk_at "m.run" <;> exact h
theorem w_is_end_of (F : Facts M.K) {t : Tk} {n : Str} {Q : V → MH → Prop} (h : Q (.bool (t.en n)) H) : CALL M (d + 1) cl ml H 596 [tkV t, .str n] Q := by
  refine CALL_go (at_is_end_of F) b_is_end_of rfl rfl rfl ?_
  cases t <;> simp only [tkV] <;> walk_at "m.run" <;> exact h
theorem w_refuse (hpu : M.pu = false) (F : Facts M.K) {σ : St} (hB : BH H σ) (hz : σ.errs.length ≤ 900) {t : Tk} {Q : V → MH → Prop} (h : ∀ H', BH H' (refN σ t) → Keep Loc.isB H H' → Q .none H') : CALL M (d + 2) cl ml H 603 [.cell .builder, tkV t] Q := by
  refine CALL_go (at_refuse F) b_refuse rfl rfl rfl ?_
  cases t <;> simp only [tkV] <;> walk_at "m.run" <;> refine w_error hpu F hB hz fun H' hB' k' => ?_ <;> walk_at "m.run" <;> exact h H' hB' k'
theorem w_is_at_root (F : Facts M.K) {σ : St} (hB : BH H σ) (hz : σ.stack.length ≤ 1000) {Q : V → MH → Prop} (h : Q (.bool (decide ((σ.stack.length : Int) ≤ 1))) H) : CALL M (d + 2) cl ml H 624 [.cell .builder] Q := by
  refine CALL_go (at_is_at_root F) b_is_at_root rfl rfl rfl ?_
  walk_at "m.run"
  refine w_many F hB hz ?_
  walk_at "m.run"
  exact h
theorem w_finish (hpu : M.pu = false) (F : Facts M.K) {σ : St} (hB : BH H σ) (hz : σ.stack.length ≤ 900) {Q : V → MH → Prop} (h : ∀ H', BH H' (stopN σ) → Keep Loc.isB H H' → Q .none H') : CALL M (d + 2) cl ml H 507 [.cell .builder] Q := by
  refine CALL_go (at_finish F) b_finish rfl rfl rfl ?_
  walk_at "m.run"
  refine T1_while' (α := List Nat) (fun l H' => BH H' { σ with stack := l } ∧ Keep Loc.isB H H' ∧ l.length ≤ 900) (fun _ => [("builder", .cell .builder)]) List.length σ.stack ⟨hB, Keep.refl _, hz⟩ ⟨rfl, trivial⟩ (fun _ _ _ s h => TX.sub s h) ?_
  rintro l H' ⟨hB', k', hl⟩
  walk_at "m.run"
  refine w_many F hB' (by show l.length ≤ 1000; omega) ?_
  walk_at "m.run"
  rcases List.eq_nil_or_concat l with e | ⟨l2, n, e⟩
  · subst e
    walk_at "m.run"
    refine h _ (hB'.bld (σ' := stopN σ) rfl rfl rfl) (k'.put' rfl)
  · have e : l = l2 ++ [n] := e.trans (List.concat_eq_append ..)
    subst e
    refine ite_pos (by simp <;> omega) ?_
    walk_at "m.run"
    refine w_pop (l := l2) (n := n) hpu F hB' hl rfl fun H2 hB2 k2 => ?_
    walk_at "m.run"
    refine ⟨l2, by simp, ⟨hB2, k'.trans k2, ?_⟩, ⟨rfl, trivial⟩⟩
    simp at hl; omega
end
theorem CALL.imp {M : Amb} {d : Nat} {cl : List (Str × Loc)} {ml : List (Str × V)} {H : MH} {a : Addr} {xs : List V} {Q Q' : V → MH → Prop} (h : CALL M d cl ml H a xs Q) (hq : ∀ v H', Q v H' → Q' v H') : CALL M d cl ml H a xs Q' := by
  intro A base h₀ outer fenv env L m mm s wd R xs' c r k
  exact h c r fun v v' H' wd' h' tk' q => k v v' H' wd' h' tk' (hq v H' q)
structure NdOK (N : Nat) (σ : St) (i : Nat) (x : Nd) : Prop where
  p1 : -1 ≤ x.par
  p2 : x.par < i
  kl : x.kids.length ≤ N
  tl : x.text.length ≤ N
  so : PyData.strOk x.text = true
  sn : PyData.strOk x.name = true
  ao : x.attrs = [] ∨ ∃ a, x.attrs = tAttrs a ∧ PyData.strOk a = true
  nod : x.kids.Nodup
  kid : ∀ k ∈ x.kids, ∃ y : Nd, σ.nodes[k]? = some y ∧ y.par = i ∧ (k : Int) ≠ σ.ctx ∧ (y.kind = "element" ∨ y.kind = "text" ∨ y.kind = "comment")
/-- a note is data -/
def ErrOK (v : V) : Prop := ∃ dt : PyData, (∀ H, DV H v dt) ∧ dt.canLay0 = true ∧ dt.depth ≤ 10
def modesL : List Str := ["after body", "in frameset", "after frameset", "after after body", "after after frameset", "in body"]
/-- what holds of a scene's state after at most N steps -/
structure WF (N E : Nat) (σ : St) : Prop where
  zn : σ.nodes.length ≤ N
  zs : σ.stack.length ≤ N
  ze : σ.errs.length ≤ E
  er : ∀ v ∈ σ.errs, ErrOK v
  md : σ.mode ∈ modesL
  nd : ∀ (i : Nat) (x : Nd), σ.nodes[i]? = some x → NdOK N σ i x
  doc : ∃ x : Nd, σ.nodes[0]? = some x ∧ x.kind = "document" ∧ x.name = "" ∧ x.attrs = []
  stk : ∀ i ∈ σ.stack, ∃ x : Nd, σ.nodes[i]? = some x ∧ x.kind = "element" ∧ x.space = "html" ∧ (i : Int) ≠ σ.ctx
  ctx : σ.ctx = -1 ∨ ∃ (c : Nat) (x : Nd), σ.ctx = c ∧ σ.nodes[c]? = some x ∧ x.kind = "element" ∧ x.space = "html"
theorem WF.par {N E : Nat} {σ : St} (w : WF N E σ) : ParOK σ.nodes := fun i x h => ⟨(w.nd i x h).p1, (w.nd i x h).p2⟩
theorem WF.cur {N E : Nat} {σ : St} (w : WF N E σ) : ∃ x : Nd, σ.nodes[curP σ.stack]? = some x ∧ x.kids.length ≤ N := by
  rcases List.eq_nil_or_concat σ.stack with e | ⟨l, n, e⟩
  · obtain ⟨x, hx, _⟩ := w.doc
    rw [e]
    exact ⟨x, hx, (w.nd _ _ hx).kl⟩
  · have e : σ.stack = l ++ [n] := e.trans (List.concat_eq_append ..)
    obtain ⟨x, hx, _⟩ := w.stk n (by rw [e]; simp)
    rw [e, curP_snoc]
    exact ⟨x, hx, (w.nd _ _ hx).kl⟩
theorem WF.cur' {N E : Nat} {σ : St} (w : WF N E σ) (h : σ.stack ≠ []) : ∃ x : Nd, σ.nodes[curP σ.stack]? = some x ∧ x.kids.length ≤ N ∧ x.kind = "element" ∧ x.space = "html" ∧ ((curP σ.stack : Nat) : Int) ≠ σ.ctx ∧ ∃ l, σ.stack = l ++ [curP σ.stack] := by
  rcases List.eq_nil_or_concat σ.stack with e | ⟨l, n, e⟩
  · exact absurd e h
  · have e : σ.stack = l ++ [n] := e.trans (List.concat_eq_append ..)
    obtain ⟨x, hx, h1, h2, h3⟩ := w.stk n (by rw [e]; simp)
    rw [e, curP_snoc]
    exact ⟨x, hx, (w.nd _ _ hx).kl, h1, h2, h3, l, rfl⟩
def adjI (σ : St) : Int := if ((σ.stack.length : Int) == 1) = true then (if (σ.ctx != -1) = true then σ.ctx else lastI σ.stack) else lastI σ.stack
theorem WF.adj {N E : Nat} {σ : St} (w : WF N E σ) : adjI σ = -1 ∨ ∃ (c : Nat) (x : Nd), adjI σ = c ∧ σ.nodes[c]? = some x ∧ x.space = "html" := by
  have hl : lastI σ.stack = -1 ∨ ∃ (c : Nat) (x : Nd), lastI σ.stack = c ∧ σ.nodes[c]? = some x ∧ x.space = "html" := by
    rcases List.eq_nil_or_concat σ.stack with e | ⟨l, n, e⟩
    · rw [e]; exact .inl rfl
    · have e : σ.stack = l ++ [n] := e.trans (List.concat_eq_append ..)
      obtain ⟨x, hx, h1, h2, _⟩ := w.stk n (by rw [e]; simp)
      rw [e, lastI_snoc]
      exact .inr ⟨n, x, rfl, hx, h2⟩
  unfold adjI
  split
  · split
    · rcases w.ctx with h | ⟨c, x, h1, h2, _, h3⟩
      · exact .inl h
      · exact .inr ⟨c, x, h1, h2, h3⟩
    · exact hl
  · exact hl
/-- an element put in that does not stay open -/
def voidN (σ : St) (name : Str) (attrs : List V) : St := { insN σ (elN name attrs) (curP σ.stack) with ack := true }
section
variable {M : Amb} {d : Nat} {cl : List (Str × Loc)} {ml : List (Str × V)} {H : MH}
theorem w_name (F : Facts M.K) {σ : St} (hB : BH H σ) (hz : σ.stack.length ≤ 900) (hzn : σ.nodes.length ≤ 900) {l : List Nat} {n : Nat} (e : σ.stack = l ++ [n]) {x : Nd} (hx : σ.nodes[n]? = some x) (hs : x.space = "html") {Q : V → MH → Prop} (h : Q (.str x.name) H) : CALL M (d + 2) cl ml H 270 [.cell .stack] Q := by
  refine CALL_go (at_OpenStack_name F) b_OpenStack_name rfl rfl rfl ?_
  walk_at "m.run"
  refine w_current F hB (by omega) ?_
  rw [e, lastI_snoc]
  walk_at "m.run"
  exact h
theorem w_adjusted (F : Facts M.K) {σ : St} (hB : BH H σ) (hz : σ.stack.length ≤ 900) {Q : V → MH → Prop} (h : Q (.int (adjI σ)) H) : CALL M (d + 2) cl ml H 479 [.cell .builder] Q := by
  refine CALL_go (at_Builder_adjusted F) b_Builder_adjusted rfl rfl rfl ?_
  walk_at "m.run"
  refine w_many F hB (by omega) ?_
  walk_at "m.run"
  unfold adjI at h
  by_cases e1 : ((σ.stack.length : Int) == 1) = true
  · rw [if_pos e1] at h
    walk_at "m.run"
    by_cases e2 : (σ.ctx != -1) = true
    · rw [if_pos e2] at h
      walk_at "m.run"
      exact h
    · rw [if_neg e2] at h
      walk_at "m.run"
      refine w_current F hB (by omega) ?_
      walk_at "m.run"
      exact h
  · rw [if_neg e1] at h
    walk_at "m.run"
    refine w_current F hB (by omega) ?_
    walk_at "m.run"
    exact h
theorem w_is_foreign (F : Facts M.K) {N E : Nat} {σ : St} (hB : BH H σ) (w : WF N E σ) (hN : N ≤ 800) {Q : V → MH → Prop} (h : Q (.bool false) H) : CALL M (d + 3) cl ml H 486 [.cell .builder] Q := by
  refine CALL_go (at_Builder_is_foreign F) b_Builder_is_foreign rfl rfl rfl ?_
  have hz1 := w.zs
  have hz2 := w.zn
  walk_at "m.run"
  refine w_adjusted F hB (by omega) ?_
  walk_at "m.run"
  rcases w.adj with e | ⟨c, x, e, hx, hs⟩
  · rw [e]
    walk_at "m.run"
    exact h
  · rw [e]
    walk_at "m.run"
    rw [hs]
    exact h
theorem w_is_html_turn (F : Facts M.K) {N E : Nat} {σ : St} (hB : BH H σ) (w : WF N E σ) (hN : N ≤ 800) {t : Tk} {Q : V → MH → Prop} (h : Q (.bool true) H) : CALL M (d + 4) cl ml H 500 [.cell .builder, tkV t] Q := by
  refine CALL_go (at_is_html_turn F) b_is_html_turn rfl rfl rfl ?_
  walk_at "m.run"
  refine w_is_foreign F hB w hN ?_
  walk_at "m.run"
  exact h
theorem w_use (F : Facts M.K) {σ : St} (hB : BH H σ) {name : Str} {a : Addr} (hg : getE rulesD name = some (.glob a)) (hk : keepIn M.K (.ref a) = true) {t : V} {Q : V → MH → Prop}
    (h : ∀ cl ml, CALL M d cl ml H a [.cell .builder, t] fun _ H' => Q .none H') : CALL M (d + 1) cl ml H 458 [.cell .builder, .str name, t] Q := by
  refine CALL_go (at_Builder_use F) b_Builder_use rfl rfl rfl ?_
  walk_at "m.run"
  refine ite_neg (by rw [hg]; simp) ?_
  walk_at "m.run"
  refine OP_item_dict (by walk_at "m.cell") hg (fun _ _ => rfl) ?_
  walk_at "m.run"
  refine CALL.imp (h _ _) fun v H' q => ?_
  walk_at "m.run"
  exact q
theorem w_process (F : Facts M.K) {N E : Nat} {σ : St} (hB : BH H σ) (w : WF N E σ) (hN : N ≤ 800) {a : Addr} (hg : getE rulesD σ.mode = some (.glob a)) (hk : keepIn M.K (.ref a) = true) {t : Tk} {Q : V → MH → Prop}
    (h : ∀ cl ml, CALL M (d + 3) cl ml H a [.cell .builder, tkV t] fun _ H' => Q .none H') : CALL M (d + 5) cl ml H 465 [.cell .builder, tkV t] Q := by
  refine CALL_go (at_Builder_process F) b_Builder_process rfl rfl rfl ?_
  walk_at "m.run"
  refine w_is_html_turn F hB w hN ?_
  walk_at "m.run"
  refine w_use F hB hg hk fun cl ml => ?_
  refine CALL.imp (h _ _) fun v H' q => ?_
  walk_at "m.run"
  exact q
theorem insN_new {σ : St} {nd : Nd} {p : Nat} : (insN σ nd p).nodes[σ.nodes.length]? = some { nd with par := p } := by
  rw [insN_get, if_neg (by omega), if_pos rfl]
theorem insN_len {σ : St} {nd : Nd} {p : Nat} : (insN σ nd p).nodes.length = σ.nodes.length + 1 := by
  show (σ.nodes.modify p _ ++ [_]).length = _
  simp
theorem w_insert_token (hpu : M.pu = false) (F : Facts M.K) {N E : Nat} {σ : St} (hB : BH H σ) (w : WF N E σ) (hN : N ≤ 800) {n a : Str} {s : Bool} (hn : n = "frameset" ∨ n = "frame") {Q : V → MH → Prop}
    (h : ∀ H', BH H' (growN σ n (tAttrs a)) → Keep Loc.isB H H' → Q (vi σ.nodes.length) H') : CALL M (d + 5) cl ml H 561 [.cell .builder, tkV (.start n a s)] Q := by
  refine CALL_go (at_insert_token F) b_insert_token rfl rfl rfl ?_
  have hz1 := w.zs
  have hz2 := w.zn
  obtain ⟨x, hx, hxl⟩ := w.cur
  simp only [tkV]
  walk_at "m.run"
  refine w_insert_element3 hpu F hB (by omega) (by omega) w.par hx (by omega) (by rcases hn with e | e <;> rw [e] <;> decide) (Nat.le_of_ble_eq_true rfl) fun H1 hB1 k1 => ?_
  walk_at "m.run"
  refine w_associate (x := { elN n (tAttrs a) with par := curP σ.stack }) F hB1 (by show (insN σ _ _).nodes.length ≤ 900; rw [insN_len]; omega) insN_new hn ?_
  walk_at "m.run"
  exact h H1 hB1 k1
theorem w_insert_void (hpu : M.pu = false) (F : Facts M.K) {N E : Nat} {σ : St} (hB : BH H σ) (w : WF N E σ) (hN : N ≤ 800) {n a : Str} {s : Bool} (hn : n = "frameset" ∨ n = "frame") {Q : V → MH → Prop}
    (h : ∀ H', BH H' (voidN σ n (tAttrs a)) → Keep Loc.isB H H' → Q (vi σ.nodes.length) H') : CALL M (d + 6) cl ml H 568 [.cell .builder, tkV (.start n a s)] Q := by
  refine CALL_go (at_insert_void F) b_insert_void rfl rfl rfl ?_
  have hz1 := w.zs
  walk_at "m.run"
  refine w_insert_token hpu F hB w hN hn fun H1 hB1 k1 => ?_
  walk_at "m.run"
  refine w_pop hpu F hB1 (by show (σ.stack ++ [_]).length ≤ 900; simp; omega) rfl fun H2 hB2 k2 => ?_
  walk_at "m.run"
  exact h _ (hB2.bld (σ' := voidN σ n (tAttrs a)) rfl rfl rfl) ((k1.trans k2).put' rfl)
end
theorem str_len (x y : Str) : (x ++ y).length = x.length + y.length := by
  show (x.cps ++ y.cps).size = x.cps.size + y.cps.size
  exact Array.size_append
theorem NdOK.mono {N N' : Nat} {σ : St} {i : Nat} {x : Nd} (h : NdOK N σ i x) (a : N ≤ N') : NdOK N' σ i x := { h with kl := Nat.le_trans h.kl a, tl := Nat.le_trans h.tl a }
theorem WF.mono {N E N' E' : Nat} {σ : St} (w : WF N E σ) (a : N ≤ N') (b : E ≤ E') : WF N' E' σ :=
  { w with zn := Nat.le_trans w.zn a, zs := Nat.le_trans w.zs a, ze := Nat.le_trans w.ze b, nd := fun i x h => (w.nd i x h).mono a }
theorem NdOK.of {N : Nat} {σ σ' : St} {i : Nat} {x : Nd} (h : NdOK N σ i x) (e1 : σ'.nodes = σ.nodes) (e2 : σ'.ctx = σ.ctx) : NdOK N σ' i x := { h with kid := fun k hk => by rw [e1, e2]; exact h.kid k hk }
theorem strOk_nil : PyData.strOk ("" : Str) = true := by decide +kernel
theorem strOk_append {x y : Str} (h : PyData.strOk x = true) (g : PyData.strOk y = true) : PyData.strOk (x ++ y) = true := by
  show (x.cps ++ y.cps).all _ = true
  rw [Array.all_append, Bool.and_eq_true]
  exact ⟨h, g⟩
theorem WF.err {N E : Nat} {σ : St} (w : WF N E σ) {v : V} (hv : ErrOK v) : WF N (E + 1) (errN σ v) :=
  { er := fun u hu => by
      rcases List.mem_append.mp hu with hu | hu
      · exact w.er u hu
      · rw [List.mem_singleton.mp hu]; exact hv
    md := w.md, zn := w.zn, zs := w.zs, ze := by show (σ.errs ++ [v]).length ≤ E + 1; have := w.ze; simp; omega, nd := fun i x h => (w.nd i x h).of rfl rfl, doc := w.doc, stk := w.stk, ctx := w.ctx }
theorem WF.mode {N E : Nat} {σ : St} (w : WF N E σ) {m : Str} (hm : m ∈ modesL) : WF N E { σ with mode := m } :=
  { er := w.er, md := hm, zn := w.zn, zs := w.zs, ze := w.ze, nd := fun i x h => (w.nd i x h).of rfl rfl, doc := w.doc, stk := w.stk, ctx := w.ctx }
theorem WF.ack {N E : Nat} {σ : St} (w : WF N E σ) (m : Bool) : WF N E { σ with ack := m } :=
  { er := w.er, md := w.md, zn := w.zn, zs := w.zs, ze := w.ze, nd := fun i x h => (w.nd i x h).of rfl rfl, doc := w.doc, stk := w.stk, ctx := w.ctx }
theorem WF.stk' {N E : Nat} {σ : St} (w : WF N E σ) {l : List Nat} (h : ∀ i ∈ l, i ∈ σ.stack) (hl : l.length ≤ N) (dn : Bool) : WF N E { σ with stack := l, done := dn } :=
  { er := w.er, md := w.md, zn := w.zn, zs := hl, ze := w.ze, nd := fun i x h => (w.nd i x h).of rfl rfl, doc := w.doc, stk := fun i hi => w.stk i (h i hi), ctx := w.ctx }
theorem WF.stop {N E : Nat} {σ : St} (w : WF N E σ) : WF N E (stopN σ) := w.stk' (l := []) (fun _ h => nomatch h) (Nat.zero_le _) true
theorem WF.pop {N E : Nat} {σ : St} (w : WF N E σ) {l : List Nat} {n : Nat} (e : σ.stack = l ++ [n]) : WF N E { σ with stack := l } := by
  have := w.stk' (l := l) (fun i hi => by rw [e]; simp [hi]) (by have := w.zs; rw [e] at this; simp at this; omega) σ.done
  exact this
theorem insN_old {σ : St} {nd : Nd} {p i : Nat} {x : Nd} (h : σ.nodes[i]? = some x) : ∃ ks, (insN σ nd p).nodes[i]? = some { x with kids := ks } := by
  rw [insN_get, if_pos (lt_of_get h)]
  split
  · rw [h]; exact ⟨_, rfl⟩
  · rw [h]; exact ⟨x.kids, rfl⟩
theorem WF.ins {N E : Nat} {σ : St} (w : WF N E σ) {nd : Nd} {p : Nat} {x : Nd} (hp : σ.nodes[p]? = some x) (h1 : nd.kids = []) (h2 : nd.text.length ≤ N + 1) (h3 : nd.attrs = [] ∨ ∃ a, nd.attrs = tAttrs a ∧ PyData.strOk a = true) (h5 : PyData.strOk nd.text = true) (h6 : PyData.strOk nd.name = true) (h4 : nd.kind = "element" ∨ nd.kind = "text" ∨ nd.kind = "comment") : WF (N + 1) E (insN σ nd p) where
  zn := by have := w.zn; rw [insN_len]; omega
  zs := Nat.le_succ_of_le w.zs
  ze := w.ze
  er := w.er
  md := w.md
  nd i y hy := by
    have hpl := lt_of_get hp
    have hc : (σ.nodes.length : Int) ≠ σ.ctx := by
      rcases w.ctx with e | ⟨c, z, e, hz, _⟩
      · rw [e]; omega
      · have := lt_of_get hz; omega
    rw [insN_get] at hy
    split at hy
    · rename_i hi
      split at hy
      · rename_i e
        subst e
        rw [hp] at hy; cases hy
        have o := w.nd p x hp
        refine { p1 := o.p1, p2 := o.p2, kl := ?_, tl := Nat.le_succ_of_le o.tl, so := o.so, sn := o.sn, ao := o.ao, nod := ?_, kid := ?_ }
        · show (x.kids ++ [_]).length ≤ _; have := o.kl; simp; omega
        · show (x.kids ++ [_]).Nodup
          rw [List.nodup_append]
          refine ⟨o.nod, by simp, fun a ha b hb => ?_⟩
          rw [List.mem_singleton.mp hb]
          obtain ⟨z, hz, _⟩ := o.kid a ha
          have := lt_of_get hz
          omega
        · intro k hk
          rcases List.mem_append.mp hk with hk | hk
          · obtain ⟨z, hz, z1, z2, z3⟩ := o.kid k hk
            obtain ⟨ks, g⟩ := insN_old (nd := nd) (p := p) hz
            exact ⟨_, g, z1, z2, z3⟩
          · rw [List.mem_singleton.mp hk]
            exact ⟨_, insN_new, rfl, hc, h4⟩
      · have o := w.nd i y hy
        refine { p1 := o.p1, p2 := o.p2, kl := Nat.le_succ_of_le o.kl, tl := Nat.le_succ_of_le o.tl, so := o.so, sn := o.sn, ao := o.ao, nod := o.nod, kid := fun k hk => ?_ }
        obtain ⟨z, hz, z1, z2, z3⟩ := o.kid k hk
        obtain ⟨ks, g⟩ := insN_old (nd := nd) (p := p) hz
        exact ⟨_, g, z1, z2, z3⟩
    · split at hy
      · rename_i e
        subst e
        cases hy
        refine { p1 := by show (-1 : Int) ≤ (p : Int); omega, p2 := by show (p : Int) < _; omega, kl := by show nd.kids.length ≤ _; rw [h1]; simp, tl := h2, so := h5, sn := h6, ao := h3, nod := by show nd.kids.Nodup; rw [h1]; simp, kid := fun k hk => ?_ }
        have hk : k ∈ nd.kids := hk
        rw [h1] at hk; cases hk
      · cases hy
  doc := by
    obtain ⟨z, hz, a, b, c⟩ := w.doc
    obtain ⟨ks, g⟩ := insN_old (nd := nd) (p := p) hz
    exact ⟨_, g, a, b, c⟩
  stk i hi := by
    obtain ⟨z, hz, a⟩ := w.stk i hi
    obtain ⟨ks, g⟩ := insN_old (nd := nd) (p := p) hz
    exact ⟨_, g, a⟩
  ctx := by
    rcases w.ctx with e | ⟨c, z, e, hz, a⟩
    · exact .inl e
    · obtain ⟨ks, g⟩ := insN_old (nd := nd) (p := p) hz
      exact .inr ⟨c, _, e, g, a⟩
theorem WF.grow {N E : Nat} {σ : St} (w : WF N E σ) {n : Str} (hn : PyData.strOk n = true) {a : List V} (ha : a = [] ∨ ∃ b, a = tAttrs b ∧ PyData.strOk b = true) : WF (N + 1) E (growN σ n a) := by
  obtain ⟨x, hx, _⟩ := w.cur
  have w' := w.ins (nd := elN n a) hx rfl (Nat.zero_le _) ha strOk_nil hn (.inl rfl)
  refine { er := w'.er, md := w'.md, zn := w'.zn, zs := ?_, ze := w'.ze, nd := fun i x h => (w'.nd i x h).of rfl rfl, doc := w'.doc, stk := fun i hi => ?_, ctx := w'.ctx }
  · show (σ.stack ++ [_]).length ≤ _; have := w.zs; simp; omega
  · rcases List.mem_append.mp hi with hi | hi
    · exact w'.stk i hi
    · rw [List.mem_singleton.mp hi]
      refine ⟨_, insN_new, rfl, rfl, ?_⟩
      show (σ.nodes.length : Int) ≠ σ.ctx
      rcases w.ctx with e | ⟨c, z, e, hz, _⟩
      · rw [e]; omega
      · have := lt_of_get hz; omega
theorem setText_get {σ : St} {k i : Nat} {c : Str} : (setText σ k c).nodes[i]? = if k = i then σ.nodes[i]?.map (fun x => { x with text := x.text ++ c }) else σ.nodes[i]? := by
  show (σ.nodes.modify k _)[i]? = _
  rw [List.getElem?_modify]
  split
  · rfl
  · cases σ.nodes[i]? <;> rfl
theorem setText_old {σ : St} {k i : Nat} {c : Str} {x : Nd} (h : σ.nodes[i]? = some x) : ∃ t, (setText σ k c).nodes[i]? = some { x with text := t } ∧ t.length ≤ x.text.length + c.length ∧ (PyData.strOk x.text = true → PyData.strOk c = true → PyData.strOk t = true) := by
  rw [setText_get, h]
  split
  · exact ⟨_, rfl, by rw [str_len]; omega, fun h hc => strOk_append h hc⟩
  · exact ⟨x.text, rfl, by omega, fun h _ => h⟩
theorem WF.setText {N E : Nat} {σ : St} (w : WF N E σ) (k : Nat) {c : Str} (hc : c.length ≤ 1) (ho : PyData.strOk c = true) : WF (N + 1) E (setText σ k c) where
  zn := by have := w.zn; show (σ.nodes.modify k _).length ≤ _; simp; omega
  zs := Nat.le_succ_of_le w.zs
  ze := w.ze
  er := w.er
  md := w.md
  nd i y hy := by
    cases q : σ.nodes[i]? with
    | none => rw [setText_get, q] at hy; simp at hy
    | some x =>
      obtain ⟨t, g, ht, hs⟩ := setText_old (k := k) (c := c) q
      rw [g] at hy; cases hy
      have o := w.nd i x q
      refine { p1 := o.p1, p2 := o.p2, kl := Nat.le_succ_of_le o.kl, tl := ?_, so := hs o.so ho, sn := o.sn, ao := o.ao, nod := o.nod, kid := fun j hj => ?_ }
      · have := o.tl; show t.length ≤ _; omega
      · obtain ⟨z, hz, z1⟩ := o.kid j hj
        obtain ⟨t, g, _⟩ := setText_old (k := k) (c := c) hz
        exact ⟨_, g, z1⟩
  doc := by
    obtain ⟨z, hz, a⟩ := w.doc
    obtain ⟨t, g, _⟩ := setText_old (k := k) (c := c) hz
    exact ⟨_, g, a⟩
  stk i hi := by
    obtain ⟨z, hz, a⟩ := w.stk i hi
    obtain ⟨t, g, _⟩ := setText_old (k := k) (c := c) hz
    exact ⟨_, g, a⟩
  ctx := by
    rcases w.ctx with e | ⟨j, z, e, hz, a⟩
    · exact .inl e
    · obtain ⟨t, g, _⟩ := setText_old (k := k) (c := c) hz
      exact .inr ⟨j, _, e, g, a⟩
/-- a sign behind the last open element -/
def sigN (σ : St) (c : Str) : St := match σ.nodes[curP σ.stack]? with
  | some x => signN σ (curP σ.stack) x c
  | none => σ
theorem WF.sign {N E : Nat} {σ : St} (w : WF N E σ) {c : Str} (hc : c.length ≤ 1) (ho : PyData.strOk c = true) : WF (N + 1) E (sigN σ c) := by
  obtain ⟨x, hx, _⟩ := w.cur
  have i := w.ins (nd := txtN c) hx rfl (by show c.length ≤ _; omega) (.inl rfl) ho strOk_nil (.inr (.inl rfl))
  unfold sigN
  rw [hx]
  show WF _ _ (signN _ _ _ _)
  unfold signN
  split
  · split
    · split
      · exact w.setText _ hc ho
      · exact i
    · exact i
  · exact i
def startsL : List Str := ["frameset", "frame", "html", "noframes", "p", "head"]
def endsL : List Str := ["frameset", "html", "p", "body", "frame", "noframes"]
def signsL : List Str := [" ", "x", "\n", "\t", "\x0c", "\x0d", "\x00", "\u00a0", "\x0b"]
def Tk.ok : Tk → Prop
  | .start n a _ => n ∈ startsL ∧ PyData.strOk a = true
  | .fin n => n ∈ endsL
  | .ch c => c ∈ signsL
  | .com t => PyData.strOk t = true ∧ t.length ≤ 5
  | _ => True
theorem all_of {α : Type} {l : List α} {p : α → Bool} (h : l.all p = true) {x : α} (hx : x ∈ l) : p x = true := List.all_eq_true.mp h x hx
theorem start_ok {n : Str} (h : n ∈ startsL) : PyData.strOk n = true ∧ n ≠ "template" := by
  have := all_of (p := fun n => PyData.strOk n && n != "template") (by decide +kernel : startsL.all _ = true) h
  simp only [Bool.and_eq_true, bne_iff_ne] at this
  exact this
theorem end_ok {n : Str} (h : n ∈ endsL) : PyData.strOk n = true := all_of (p := fun n => PyData.strOk n) (by decide +kernel) h
theorem mode_ok {n : Str} (h : n ∈ modesL) : PyData.strOk n = true := all_of (p := fun n => PyData.strOk n) (by decide +kernel) h
theorem sign_ok {n : Str} (h : n ∈ signsL) : PyData.strOk n = true ∧ n.length ≤ 1 := by
  have := all_of (p := fun n => PyData.strOk n && decide (n.length ≤ 1)) (by decide +kernel : signsL.all _ = true) h
  simp only [Bool.and_eq_true, decide_eq_true_eq] at this
  exact this
theorem ErrOK.pair {a b : Str} (ha : PyData.strOk a = true) (hb : PyData.strOk b = true) : ErrOK (.tup [.str a, .str b]) :=
  ⟨.tuple [.str a, .str b], fun _ => .tup (.cons (.str _) (.cons (.str _) .nil)), by simp [PyData.canLay0, PyData.canLayAll0, ha, hb], by simp [PyData.depth, PyData.depthAll]⟩
theorem tk_data {t : Tk} (ht : t.ok) : ∃ dt : PyData, (∀ H, DV H (tkV t) dt) ∧ dt.canLay0 = true ∧ dt.depth ≤ 4 := by
  have k : ∀ x : Str, PyData.strOk x = true → (PyData.str x).canLay0 = true := fun x h => by simp [PyData.canLay0, h]
  have c : ∀ s : String, PyData.strOk (Str.ofString s) = true → PyData.strOk (Str.ofString s) = true := fun _ h => h
  cases t with
  | start n a s =>
    refine ⟨.tuple [.str "start", .str n, .tuple [.tuple [.str "n", .str a]], .bool s], fun _ => .tup (.cons (.str _) (.cons (.str _) (.cons (.tup (.cons (.tup (.cons (.str _) (.cons (.str _) .nil))) .nil)) (.cons (.bool _) .nil)))), ?_, by simp [PyData.depth, PyData.depthAll]⟩
    simp [PyData.canLay0, PyData.canLayAll0, (start_ok ht.1).1, ht.2]
    decide +kernel
  | fin n =>
    refine ⟨.tuple [.str "end", .str n, .tuple [], .bool false], fun _ => .tup (.cons (.str _) (.cons (.str _) (.cons (.tup .nil) (.cons (.bool _) .nil)))), ?_, by simp [PyData.depth, PyData.depthAll]⟩
    simp [PyData.canLay0, PyData.canLayAll0, end_ok ht]
    decide +kernel
  | ch n =>
    refine ⟨.tuple [.str "char", .str n], fun _ => .tup (.cons (.str _) (.cons (.str _) .nil)), ?_, by simp [PyData.depth, PyData.depthAll]⟩
    simp [PyData.canLay0, PyData.canLayAll0, (sign_ok ht).1]
    decide +kernel
  | com n =>
    refine ⟨.tuple [.str "comment", .str n], fun _ => .tup (.cons (.str _) (.cons (.str _) .nil)), ?_, by simp [PyData.depth, PyData.depthAll]⟩
    simp [PyData.canLay0, PyData.canLayAll0, ht.1]
    decide +kernel
  | doc => exact ⟨.tuple [.str "doctype", .str "html", .none, .none, .bool false], fun _ => .tup (.cons (.str _) (.cons (.str _) (.cons .none (.cons .none (.cons (.bool _) .nil))))), by decide +kernel, by simp [PyData.depth, PyData.depthAll]⟩
  | eof => exact ⟨.tuple [.str "eof"], fun _ => .tup (.cons (.str _) .nil), by decide +kernel, by simp [PyData.depth, PyData.depthAll]⟩
theorem ErrOK.tok {a : Str} (ha : PyData.strOk a = true) {t : Tk} (ht : t.ok) : ErrOK (.tup [.str a, tkV t]) := by
  obtain ⟨dt, h1, h2, h3⟩ := tk_data ht
  refine ⟨.tuple [.str a, dt], fun H => .tup (.cons (.str _) (.cons (h1 H) .nil)), by simp [PyData.canLay0, PyData.canLayAll0, ha, h2], ?_⟩
  simp only [PyData.depth, PyData.depthAll]; omega
theorem word_ok (t : Tk) : PyData.strOk t.word = true := by cases t <;> simp only [Tk.word] <;> decide +kernel
theorem WF.ref {N E : Nat} {σ : St} (w : WF N E σ) (t : Tk) : WF N (E + 1) (refN σ t) := w.err (.pair (word_ok t) (mode_ok w.md))
/-- the name of the last open element -/
def curName (σ : St) : Str := match σ.nodes[curP σ.stack]? with
  | some x => x.name
  | none => ""
def popN (σ : St) : St := { σ with stack := σ.stack.dropLast }
/-- an end of html behind the body -/
def abhN (σ : St) (t : Tk) : St := if (σ.ctx != -1) = true then refN σ t else { σ with mode := "after after body" }
/-- what the law's own body does, behind its note -/
def bodyN1 (σ : St) : Tk → St
  | .ch c => sigN σ c
  | .eof => stopN σ
  | .start n a _ => if n = "p" then growN σ "p" (tAttrs a) else σ
  | .fin n => if n = "p" then (if curName σ = "p" then popN σ else σ) else if n = "body" then { σ with mode := "after body" } else if n = "html" then abhN { σ with mode := "after body" } (.fin n) else σ
  | _ => σ
def noteN (σ : St) (a : Str) (t : Tk) : St := errN σ (.tup [.str a, tkV t])
def bodyN (σ : St) (t : Tk) : St := bodyN1 (noteN σ σ.mode t) t
def headN (σ : St) (t : Tk) : St := match t with
  | .start n a _ => insN (noteN σ "head" t) (elN n (tAttrs a)) (curP σ.stack)
  | _ => σ
theorem WF.note {N E : Nat} {σ : St} (w : WF N E σ) {a : Str} (ha : PyData.strOk a = true) {t : Tk} (ht : t.ok) : WF N (E + 1) (noteN σ a t) := w.err (.tok ha ht)
theorem WF.abh {N E : Nat} {σ : St} (w : WF N E σ) (t : Tk) : WF N (E + 1) (abhN σ t) := by
  unfold abhN
  split
  · exact w.ref t
  · exact (w.mode (m := "after after body") (by decide +kernel)).mono (Nat.le_refl _) (Nat.le_succ _)
theorem WF.popN {N E : Nat} {σ : St} (w : WF N E σ) : WF N E (popN σ) := by
  have := w.stk' (l := σ.stack.dropLast) (fun i hi => (List.dropLast_sublist _).subset hi) (by have := w.zs; simp; omega) σ.done
  exact this
theorem WF.body1 {N E : Nat} {σ : St} (w : WF N E σ) {t : Tk} (ht : t.ok) : WF (N + 1) (E + 1) (bodyN1 σ t) := by
  cases t with
  | ch c => exact (w.sign (sign_ok ht).2 (sign_ok ht).1).mono (Nat.le_refl _) (Nat.le_succ _)
  | eof => exact w.stop.mono (Nat.le_succ _) (Nat.le_succ _)
  | start n a s =>
    show WF _ _ (if _ then _ else _)
    split
    · exact (w.grow (n := "p") (by decide +kernel) (.inr ⟨a, rfl, ht.2⟩)).mono (Nat.le_refl _) (Nat.le_succ _)
    · exact w.mono (Nat.le_succ _) (Nat.le_succ _)
  | fin n =>
    show WF _ _ (if _ then (if _ then _ else _) else if _ then _ else if _ then _ else _)
    split
    · split
      · exact w.popN.mono (Nat.le_succ _) (Nat.le_succ _)
      · exact w.mono (Nat.le_succ _) (Nat.le_succ _)
    · split
      · exact (w.mode (m := "after body") (by decide +kernel)).mono (Nat.le_succ _) (Nat.le_succ _)
      · split
        · exact ((w.mode (m := "after body") (by decide +kernel)).abh _).mono (Nat.le_succ _) (Nat.le_refl _)
        · exact w.mono (Nat.le_succ _) (Nat.le_succ _)
  | com t => exact w.mono (Nat.le_succ _) (Nat.le_succ _)
  | doc => exact w.mono (Nat.le_succ _) (Nat.le_succ _)
theorem WF.body {N E : Nat} {σ : St} (w : WF N E σ) {t : Tk} (ht : t.ok) : WF (N + 1) (E + 2) (bodyN σ t) := (w.note (mode_ok w.md) ht).body1 ht
theorem WF.head {N E : Nat} {σ : St} (w : WF N E σ) {t : Tk} (ht : t.ok) : WF (N + 1) (E + 1) (headN σ t) := by
  cases t with
  | start n a s =>
    obtain ⟨x, hx, _⟩ := w.cur
    exact (w.note (a := "head") (by decide +kernel) (t := .start n a s) ht).ins (nd := elN n (tAttrs a)) hx rfl (Nat.zero_le _) (.inr ⟨a, rfl, ht.2⟩) strOk_nil (start_ok ht.1).1 (.inl rfl)
  | _ => exact w.mono (Nat.le_succ _) (Nat.le_succ _)
section
variable {M : Amb} {d : Nat} {cl : List (Str × Loc)} {ml : List (Str × V)} {H : MH}
/-- a sign, under the invariant -/
theorem w_sign (hpu : M.pu = false) (F : Facts M.K) {N E : Nat} {σ : St} (hB : BH H σ) (w : WF N E σ) (hN : N ≤ 800) (hne : σ.stack ≠ []) {c : Str} (hc : c.length ≤ 10) {Q : V → MH → Prop}
    (h : ∀ H', BH H' (sigN σ c) → Keep Loc.isB H H' → Q .none H') : CALL M (d + 3) cl ml H 529 [.cell .builder, .str c] Q := by
  have h1 := w.zn
  have h2 := w.zs
  obtain ⟨x, hx, hkl, hk, _⟩ := w.cur' hne
  have e : sigN σ c = signN σ (curP σ.stack) x c := by unfold sigN; rw [hx]
  rw [e] at h
  refine w_insert_sign hpu F hB (by omega) (by omega) w.par hx (by omega) (by rw [hk]; decide) (fun k hk => ?_) hc (fun i y hy => ?_) h
  · obtain ⟨y, hy, _⟩ := (w.nd _ _ hx).kid k hk; exact ⟨y, hy⟩
  · have := (w.nd i y hy).tl; omega
theorem w_abh (hpu : M.pu = false) (F : Facts M.K) {N E : Nat} {σ : St} (hB : BH H σ) (w : WF N E σ) (hN : N ≤ 800) (hE : E ≤ 800) {Q : V → MH → Prop}
    (h : ∀ H', BH H' (abhN σ (.fin "html")) → Keep Loc.isB H H' → Q .none H') : CALL M (d + 6) cl ml H 617 [.cell .builder, tkV (.fin "html")] Q := by
  refine CALL_go (at_after_body F) b_after_body rfl rfl rfl ?_
  have h3 := w.ze
  unfold abhN at h
  walk_at "m.run"
  refine w_is_space_token F ?_
  walk_at "m.run"
  refine w_is_start_of F ?_
  simp only [tkV]
  walk_at "m.run"
  refine w_is_end_of (t := .fin "html") F ?_
  walk_at "m.run"
  by_cases e : (σ.ctx != -1) = true
  · rw [if_pos e] at h
    walk_at "m.run"
    refine w_refuse (t := .fin "html") hpu F hB (by omega) fun H1 hB1 k1 => ?_
    walk_at "m.run"
    exact h H1 hB1 k1
  · rw [if_neg e] at h
    walk_at "m.run"
    refine w_to hpu F hB fun H1 hB1 k1 => ?_
    walk_at "m.run"
    exact h H1 hB1 k1
end
theorem getLast_dropLast {l : List Nat} (h : l ≠ []) : ∃ n, l = l.dropLast ++ [n] := ⟨l.getLast h, (List.dropLast_concat_getLast h).symm⟩
section
variable {M : Amb} {d : Nat} {cl : List (Str × Loc)} {ml : List (Str × V)} {H : MH}
theorem w_law_body (hpu : M.pu = false) (F : Facts M.K) {N E : Nat} {σ : St} (hB : BH H σ) (w : WF N E σ) (hN : N ≤ 790) (hE : E ≤ 790) (hne : σ.stack ≠ []) {t : Tk} (ht : t.ok) {Q : V → MH → Prop}
    (h : ∀ H', BH H' (bodyN σ t) → Keep Loc.isB H H' → Q .none H') : CALL M (d + 9) cl ml H 708 [.cell .builder, tkV t] Q := by
  refine CALL_go (at_law_body F) b_law_body rfl rfl rfl ?_
  have h3 := w.ze
  have h1 := w.zn
  have h2 := w.zs
  have w1 := w.note (mode_ok w.md) ht
  have hB1 : BH (H.put .errors (.list (σ.errs ++ [.tup [.str σ.mode, tkV t]]))) (noteN σ σ.mode t) := hB.errs _
  have k1 : Keep Loc.isB H (H.put .errors (.list (σ.errs ++ [.tup [.str σ.mode, tkV t]]))) := Keep.put rfl
  walk_at "m.run"
  generalize H.put .errors (.list (σ.errs ++ [.tup [.str σ.mode, tkV t]])) = H1 at *
  cases t with
  | ch c =>
    simp only [tkV]
    walk_at "m.run"
    refine w_sign hpu F hB1 w1 (by omega) hne (by have := (sign_ok ht).2; omega) fun H2 hB2 k2 => ?_
    walk_at "m.run"
    exact h H2 hB2 (k1.trans k2)
  | eof =>
    simp only [tkV]
    walk_at "m.run"
    refine w_finish hpu F hB1 (by show σ.stack.length ≤ 900; omega) fun H2 hB2 k2 => ?_
    walk_at "m.run"
    exact h H2 hB2 (k1.trans k2)
  | start n a s =>
    simp only [tkV]
    have hno := (start_ok ht.1).1
    by_cases e : n = "p"
    · have hq : bodyN σ (.start n a s) = growN (noteN σ σ.mode (.start n a s)) "p" (tAttrs a) := if_pos e
      rw [hq] at h
      obtain ⟨x, hx, hkl⟩ := w1.cur
      walk_at "m.run"
      refine w_insert_element3 hpu F hB1 (by have := w1.zn; omega) (by have := w1.zs; omega) w1.par hx (by omega) (by decide) (Nat.le_of_ble_eq_true rfl) fun H2 hB2 k2 => ?_
      walk_at "m.run"
      exact h H2 hB2 (k1.trans k2)
    · have hq : bodyN σ (.start n a s) = noteN σ σ.mode (.start n a s) := if_neg e
      rw [hq] at h
      walk_at "m.run"
      exact h H1 hB1 k1
  | fin n =>
    simp only [tkV]
    have hno := end_ok ht
    by_cases e : n = "p"
    · have hq : bodyN σ (.fin n) = if curName (noteN σ σ.mode (.fin n)) = "p" then popN (noteN σ σ.mode (.fin n)) else noteN σ σ.mode (.fin n) := if_pos e
      rw [hq] at h
      obtain ⟨x, hx, hkl, _, hs, _, l, hl⟩ := w1.cur' hne
      have hcn : curName (noteN σ σ.mode (.fin n)) = x.name := by unfold curName; rw [hx]
      rw [hcn] at h
      walk_at "m.run"
      refine w_name F hB1 (by have := w1.zs; omega) (by have := w1.zn; omega) hl hx hs ?_
      walk_at "m.run"
      by_cases e2 : x.name = "p"
      · rw [if_pos e2] at h
        walk_at "m.run"
        refine w_pop hpu F hB1 (by have := w1.zs; omega) hl fun H2 hB2 k2 => ?_
        walk_at "m.run"
        refine h H2 ?_ (k1.trans k2)
        have e3 : popN (noteN σ σ.mode (.fin n)) = { noteN σ σ.mode (.fin n) with stack := l } := by unfold popN; rw [hl, List.dropLast_concat]
        rw [e3]; exact hB2
      · rw [if_neg e2] at h
        walk_at "m.run"
        exact h H1 hB1 k1
    · by_cases e2 : n = "body"
      · have hq : bodyN σ (.fin n) = { noteN σ σ.mode (.fin n) with mode := "after body" } := (if_neg e).trans (if_pos e2)
        rw [hq] at h
        walk_at "m.run"
        refine w_to hpu F hB1 fun H2 hB2 k2 => ?_
        walk_at "m.run"
        exact h H2 hB2 (k1.trans k2)
      · by_cases e3 : n = "html"
        · subst e3
          have hq : bodyN σ (.fin "html") = abhN { noteN σ σ.mode (.fin "html") with mode := "after body" } (.fin "html") := by unfold bodyN bodyN1; dsimp only; rw [if_neg e, if_neg e2, if_pos rfl]
          rw [hq] at h
          walk_at "m.run"
          refine w_to hpu F hB1 fun H2 hB2 k2 => ?_
          walk_at "m.run"
          have w2 := w1.mode (m := "after body") (by decide +kernel)
          refine w_process (t := .fin "html") (a := 617) F hB2 w2 (by omega) rfl (Facts.kp F rfl) fun cl ml => ?_
          refine w_abh hpu F hB2 w2 (by omega) (by omega) fun H3 hB3 k3 => ?_
          walk_at "m.run"
          exact h H3 hB3 ((k1.trans k2).trans k3)
        · have hq : bodyN σ (.fin n) = noteN σ σ.mode (.fin n) := (if_neg e).trans ((if_neg e2).trans (if_neg e3))
          rw [hq] at h
          walk_at "m.run"
          exact h H1 hB1 k1
  | com c =>
    simp only [tkV]
    have hno := ht.1
    walk_at "m.run"
    exact h H1 hB1 k1
  | doc =>
    simp only [tkV]
    walk_at "m.run"
    exact h H1 hB1 k1
theorem w_law_head (hpu : M.pu = false) (F : Facts M.K) {N E : Nat} {σ : St} (hB : BH H σ) (w : WF N E σ) (hN : N ≤ 790) (hE : E ≤ 790) {n a : Str} {s : Bool} (ht : (Tk.start n a s).ok) {Q : V → MH → Prop}
    (h : ∀ H', BH H' (headN σ (.start n a s)) → Keep Loc.isB H H' → Q .none H') : CALL M (d + 9) cl ml H 715 [.cell .builder, tkV (.start n a s)] Q := by
  refine CALL_go (at_law_head F) b_law_head rfl rfl rfl ?_
  have h3 := w.ze
  have h1 := w.zn
  have h2 := w.zs
  have w1 := w.note (a := "head") (by decide +kernel) ht
  have hB1 : BH (H.put .errors (.list (σ.errs ++ [.tup [.str "head", tkV (.start n a s)]]))) (noteN σ "head" (.start n a s)) := hB.errs _
  have k1 : Keep Loc.isB H (H.put .errors (.list (σ.errs ++ [.tup [.str "head", tkV (.start n a s)]]))) := Keep.put rfl
  simp only [tkV] at hB1 k1 ⊢
  walk_at "m.run"
  generalize H.put .errors (.list (σ.errs ++ [.tup [.str "head", .tup [.str "start", .str n, .tup (tAttrs a), .bool s]]])) = H1 at *
  obtain ⟨x, hx, hkl⟩ := w1.cur
  refine w_insert_element3 hpu F hB1 (by have := w1.zn; omega) (by have := w1.zs; omega) w1.par hx (by omega) (start_ok ht.1).2 (Nat.le_of_ble_eq_true rfl) fun H2 hB2 k2 => ?_
  walk_at "m.run"
  refine w_pop hpu F hB2 (by show (σ.stack ++ [_]).length ≤ 900; simp; omega) rfl fun H3 hB3 k3 => ?_
  walk_at "m.run"
  exact h H3 hB3 ((k1.trans k2).trans k3)
end
def backN (σ : St) (t : Tk) : St := bodyN { refN σ t with mode := "in body" } t
def afterBodyN (σ : St) : Tk → St
  | .ch c => if spaces.any (· == c) = true then bodyN σ (.ch c) else backN σ (.ch c)
  | .start n a s => if n = "html" then bodyN σ (.start n a s) else backN σ (.start n a s)
  | .com c => insN σ (comN c) (σ.stack.headD 0)
  | .doc => refN σ .doc
  | .eof => stopN σ
  | .fin n => if n = "html" then abhN σ (.fin n) else backN σ (.fin n)
def leaveN (σ : St) (t : Tk) : St :=
  if decide ((σ.stack.length : Int) ≤ 1) = true then refN σ t
  else if (σ.ctx == -1) = true then (if (curName (popN σ) != "frameset") = true then { popN σ with mode := "after frameset" } else popN σ) else popN σ
def inFramesetN (σ : St) : Tk → St
  | .ch c => if spaces.any (· == c) = true then sigN σ c else refN σ (.ch c)
  | .com c => insN σ (comN c) (curP σ.stack)
  | .start n a s => if n = "html" then bodyN σ (.start n a s) else if n = "frameset" then growN σ n (tAttrs a) else if n = "frame" then voidN σ n (tAttrs a) else if n = "noframes" then headN σ (.start n a s) else refN σ (.start n a s)
  | .fin n => if n = "frameset" then leaveN σ (.fin n) else refN σ (.fin n)
  | .eof => if decide ((σ.stack.length : Int) ≤ 1) = true then stopN σ else stopN (errN σ (.tup [.str "open-elements", .str σ.mode]))
  | .doc => refN σ .doc
def afterFramesetN (σ : St) : Tk → St
  | .ch c => if spaces.any (· == c) = true then sigN σ c else refN σ (.ch c)
  | .com c => insN σ (comN c) (curP σ.stack)
  | .start n a s => if n = "html" then bodyN σ (.start n a s) else if n = "noframes" then headN σ (.start n a s) else refN σ (.start n a s)
  | .fin n => if n = "html" then { σ with mode := "after after frameset" } else refN σ (.fin n)
  | .eof => stopN σ
  | .doc => refN σ .doc
def afterAfterBodyN (σ : St) : Tk → St
  | .ch c => if spaces.any (· == c) = true then bodyN σ (.ch c) else backN σ (.ch c)
  | .com c => insN σ (comN c) 0
  | .start n a s => if n = "html" then bodyN σ (.start n a s) else backN σ (.start n a s)
  | .fin n => backN σ (.fin n)
  | .eof => stopN σ
  | .doc => bodyN σ .doc
def afterAfterFramesetN (σ : St) : Tk → St
  | .ch c => if spaces.any (· == c) = true then bodyN σ (.ch c) else refN σ (.ch c)
  | .com c => insN σ (comN c) 0
  | .start n a s => if n = "html" then bodyN σ (.start n a s) else if n = "noframes" then headN σ (.start n a s) else refN σ (.start n a s)
  | .fin n => refN σ (.fin n)
  | .eof => stopN σ
  | .doc => bodyN σ .doc
def runN (σ : St) (t : Tk) : St :=
  if σ.mode = "after body" then afterBodyN σ t
  else if σ.mode = "in frameset" then inFramesetN σ t
  else if σ.mode = "after frameset" then afterFramesetN σ t
  else if σ.mode = "after after body" then afterAfterBodyN σ t
  else if σ.mode = "after after frameset" then afterAfterFramesetN σ t
  else bodyN σ t
section
variable {N E : Nat} {σ : St}
theorem WF.com (w : WF N E σ) (hN : 5 ≤ N) {p : Nat} {x : Nd} (hp : σ.nodes[p]? = some x) {c : Str} (hc : (Tk.com c).ok) : WF (N + 1) E (insN σ (comN c) p) :=
  w.ins (nd := comN c) hp rfl (by have := hc.2; show c.length ≤ _; omega) (.inl rfl) hc.1 strOk_nil (.inr (.inr rfl))
theorem WF.void (w : WF N E σ) {n : Str} (hn : PyData.strOk n = true) {a : Str} (ha : PyData.strOk a = true) : WF (N + 1) E (voidN σ n (tAttrs a)) := by
  obtain ⟨x, hx, _⟩ := w.cur
  exact (w.ins (nd := elN n (tAttrs a)) hx rfl (Nat.zero_le _) (.inr ⟨a, rfl, ha⟩) strOk_nil hn (.inl rfl)).ack true
theorem WF.back (w : WF N E σ) {t : Tk} (ht : t.ok) : WF (N + 1) (E + 3) (backN σ t) := ((w.ref t).mode (m := "in body") (by decide +kernel)).body ht
theorem WF.leave (w : WF N E σ) (t : Tk) : WF N (E + 1) (leaveN σ t) := by
  unfold leaveN
  split
  · exact w.ref t
  · split
    · split
      · exact (w.popN.mode (m := "after frameset") (by decide +kernel)).mono (Nat.le_refl _) (Nat.le_succ _)
      · exact w.popN.mono (Nat.le_refl _) (Nat.le_succ _)
    · exact w.popN.mono (Nat.le_refl _) (Nat.le_succ _)
theorem WF.head0 (w : WF N E σ) (hne : σ.stack ≠ []) : ∃ x : Nd, σ.nodes[σ.stack.headD 0]? = some x ∧ x.kids.length ≤ N := by
  cases e : σ.stack with
  | nil => exact absurd e hne
  | cons i r =>
    obtain ⟨x, hx, _⟩ := w.stk i (by rw [e]; exact .head _)
    exact ⟨x, hx, (w.nd _ _ hx).kl⟩
theorem WF.run (w : WF N E σ) (hN : 5 ≤ N) (hne : σ.stack ≠ []) {t : Tk} (ht : t.ok) : WF (N + 1) (E + 3) (runN σ t) := by
  have e1 : ∀ {τ : St}, WF (N + 1) E τ → WF (N + 1) (E + 3) τ := fun h => h.mono (Nat.le_refl _) (by omega)
  have e2 : ∀ {τ : St}, WF N (E + 1) τ → WF (N + 1) (E + 3) τ := fun h => h.mono (by omega) (by omega)
  have e3 : ∀ {τ : St}, WF (N + 1) (E + 2) τ → WF (N + 1) (E + 3) τ := fun h => h.mono (Nat.le_refl _) (by omega)
  have e4 : ∀ {τ : St}, WF N E τ → WF (N + 1) (E + 3) τ := fun h => h.mono (by omega) (by omega)
  have e5 : ∀ {τ : St}, WF (N + 1) (E + 1) τ → WF (N + 1) (E + 3) τ := fun h => h.mono (by omega) (by omega)
  have eb := e3 (w.body ht)
  have ek := w.back ht
  have er := e2 (w.ref t)
  obtain ⟨xc, hxc, _⟩ := w.cur
  obtain ⟨xh, hxh, _⟩ := w.head0 hne
  obtain ⟨xd, hxd, _⟩ := w.doc
  unfold runN
  split
  · cases t <;> simp only [afterBodyN]
    · split <;> assumption
    · split
      · exact e5 ((w.abh _).mono (Nat.le_succ _) (Nat.le_refl _))
      · exact ek
    · split <;> assumption
    · exact e1 (w.com hN hxh ht)
    · exact er
    · exact e4 w.stop
  split
  · cases t <;> simp only [inFramesetN]
    · split
      · exact eb
      · split
        · exact e1 (w.grow (start_ok ht.1).1 (.inr ⟨_, rfl, ht.2⟩))
        · split
          · exact e1 (w.void (start_ok ht.1).1 ht.2)
          · split
            · exact e5 (w.head ht)
            · exact er
    · split
      · exact e2 (w.leave _)
      · exact er
    · split
      · exact e1 (w.sign (sign_ok ht).2 (sign_ok ht).1)
      · exact er
    · exact e1 (w.com hN hxc ht)
    · exact er
    · split
      · exact e4 w.stop
      · exact e2 (w.err (.pair (by decide +kernel) (mode_ok w.md))).stop
  split
  · cases t <;> simp only [afterFramesetN]
    · split
      · exact eb
      · split
        · exact e5 (w.head ht)
        · exact er
    · split
      · exact e4 (w.mode (by decide +kernel))
      · exact er
    · split
      · exact e1 (w.sign (sign_ok ht).2 (sign_ok ht).1)
      · exact er
    · exact e1 (w.com hN hxc ht)
    · exact er
    · exact e4 w.stop
  split
  · cases t <;> simp only [afterAfterBodyN]
    · split <;> assumption
    · exact ek
    · split <;> assumption
    · exact e1 (w.com hN hxd ht)
    · exact eb
    · exact e4 w.stop
  split
  · cases t <;> simp only [afterAfterFramesetN]
    · split
      · exact eb
      · split
        · exact e5 (w.head ht)
        · exact er
    · exact er
    · split <;> assumption
    · exact e1 (w.com hN hxd ht)
    · exact eb
    · exact e4 w.stop
  · exact eb
end
section
variable {M : Amb} {d : Nat} {cl : List (Str × Loc)} {ml : List (Str × V)} {H : MH}
variable (hpu : M.pu = false) (F : Facts M.K) {N E : Nat} {σ : St} (hB : BH H σ) (w : WF N E σ) (hN : N ≤ 700) (hE : E ≤ 700) (hne : σ.stack ≠ [])
include hpu F hB w hN hE hne
theorem w_use_body {t : Tk} (ht : t.ok) {Q : V → MH → Prop} (h : ∀ H', BH H' (bodyN σ t) → Keep Loc.isB H H' → Q .none H') : CALL M (d + 10) cl ml H 458 [.cell .builder, .str "in body", tkV t] Q := by
  refine w_use (name := "in body") (a := 708) F hB rfl (Facts.kp F rfl) fun cl ml => ?_
  exact w_law_body hpu F hB w (by omega) (by omega) hne ht h
theorem w_use_head {n a : Str} {s : Bool} (ht : (Tk.start n a s).ok) {Q : V → MH → Prop} (h : ∀ H', BH H' (headN σ (.start n a s)) → Keep Loc.isB H H' → Q .none H') : CALL M (d + 10) cl ml H 458 [.cell .builder, .str "in head", tkV (.start n a s)] Q := by
  refine w_use (name := "in head") (a := 715) F hB rfl (Facts.kp F rfl) fun cl ml => ?_
  exact w_law_head hpu F hB w (by omega) (by omega) ht h
theorem w_back {t : Tk} (ht : t.ok) {Q : V → MH → Prop} (h : ∀ H', BH H' (backN σ t) → Keep Loc.isB H H' → Q .none H') : CALL M (d + 12) cl ml H 610 [.cell .builder, tkV t] Q := by
  refine CALL_go (at_back_to_body F) b_back_to_body rfl rfl rfl ?_
  have h3 := w.ze
  walk_at "m.run"
  refine w_refuse hpu F hB (by omega) fun H1 hB1 k1 => ?_
  walk_at "m.run"
  refine w_to hpu F hB1 fun H2 hB2 k2 => ?_
  walk_at "m.run"
  have w2 := (w.ref t).mode (m := "in body") (by decide +kernel)
  refine w_process (a := 708) F hB2 w2 (by omega) rfl (Facts.kp F rfl) fun cl ml => ?_
  refine w_law_body hpu F hB2 w2 (by omega) (by omega) hne ht fun H3 hB3 k3 => ?_
  walk_at "m.run"
  exact h H3 hB3 ((k1.trans k2).trans k3)
theorem w_after_body {t : Tk} (ht : t.ok) {Q : V → MH → Prop} (h : ∀ H', BH H' (afterBodyN σ t) → Keep Loc.isB H H' → Q .none H') : CALL M (d + 13) cl ml H 617 [.cell .builder, tkV t] Q := by
  by_cases q : ∃ n, t = .fin n ∧ n = "html"
  · obtain ⟨_, rfl, rfl⟩ := q
    have hq : afterBodyN σ (.fin "html") = abhN σ (.fin "html") := by unfold afterBodyN; dsimp only; rw [if_pos rfl]
    rw [hq] at h
    exact w_abh hpu F hB w (by omega) (by omega) h
  refine CALL_go (at_after_body F) b_after_body rfl rfl rfl ?_
  have h1 := w.zn
  have h2 := w.zs
  have h3 := w.ze
  walk_at "m.run"
  refine w_is_space_token F ?_
  cases t with
  | ch c =>
    by_cases e : spaces.any (· == c) = true
    · have hq : afterBodyN σ (.ch c) = bodyN σ (.ch c) := if_pos e
      rw [hq] at h
      walk_at "m.run"
      refine w_use_body hpu F hB w hN hE hne ht fun H1 hB1 k1 => ?_
      walk_at "m.run"
      exact h H1 hB1 k1
    · have hq : afterBodyN σ (.ch c) = backN σ (.ch c) := if_neg e
      rw [hq] at h
      walk_at "m.run"
      refine w_is_start_of F ?_
      simp only [tkV]
      walk_at "m.run"
      refine w_is_end_of (t := .ch c) F ?_
      walk_at "m.run"
      refine w_back (t := .ch c) hpu F hB w hN hE hne ht fun H1 hB1 k1 => ?_
      walk_at "m.run"
      exact h H1 hB1 k1
  | start n a s =>
    walk_at "m.run"
    refine w_is_start_of F ?_
    by_cases e : n = "html"
    · have hq : afterBodyN σ (.start n a s) = bodyN σ (.start n a s) := if_pos e
      rw [hq] at h
      walk_at "m.run"
      refine w_use_body hpu F hB w hN hE hne ht fun H1 hB1 k1 => ?_
      walk_at "m.run"
      exact h H1 hB1 k1
    · have hq : afterBodyN σ (.start n a s) = backN σ (.start n a s) := if_neg e
      rw [hq] at h
      simp only [tkV]
      walk_at "m.run"
      refine w_is_end_of (t := .start n a s) F ?_
      walk_at "m.run"
      refine w_back (t := .start n a s) hpu F hB w hN hE hne ht fun H1 hB1 k1 => ?_
      walk_at "m.run"
      exact h H1 hB1 k1
  | fin n =>
    have e : n ≠ "html" := fun e => q ⟨n, rfl, e⟩
    have hq : afterBodyN σ (.fin n) = backN σ (.fin n) := if_neg e
    rw [hq] at h
    walk_at "m.run"
    refine w_is_start_of F ?_
    simp only [tkV]
    walk_at "m.run"
    refine w_is_end_of (t := .fin n) F ?_
    walk_at "m.run"
    refine w_back (t := .fin n) hpu F hB w hN hE hne ht fun H1 hB1 k1 => ?_
    walk_at "m.run"
    exact h H1 hB1 k1
  | com c =>
    walk_at "m.run"
    refine w_is_start_of F ?_
    simp only [tkV]
    walk_at "m.run"
    obtain ⟨x, hx, hxl⟩ := w.head0 hne
    have hit : σ.stack.map vi = vi (σ.stack.headD 0) :: (σ.stack.tail.map vi) := by
      cases q : σ.stack with
      | nil => exact absurd q hne
      | cons i r => rfl
    refine OP_item_list (x := vi (σ.stack.headD 0)) (by walk_at "m.cell") (by decide) (by decide) (by rw [hit]; rfl) (fun _ _ => rfl) ?_
    walk_at "m.run"
    refine w_insert_comment3 hpu F hB (by omega) w.par hx (by omega) fun H1 hB1 k1 => ?_
    walk_at "m.run"
    exact h H1 hB1 k1
  | doc =>
    walk_at "m.run"
    refine w_is_start_of F ?_
    simp only [tkV]
    walk_at "m.run"
    refine w_refuse (t := .doc) hpu F hB (by omega) fun H1 hB1 k1 => ?_
    walk_at "m.run"
    exact h H1 hB1 k1
  | eof =>
    walk_at "m.run"
    refine w_is_start_of F ?_
    simp only [tkV]
    walk_at "m.run"
    refine w_is_end_of (t := .eof) F ?_
    walk_at "m.run"
    refine w_finish hpu F hB (by omega) fun H1 hB1 k1 => ?_
    walk_at "m.run"
    exact h H1 hB1 k1
end
section
variable {M : Amb} {d : Nat} {cl : List (Str × Loc)} {ml : List (Str × V)} {H : MH}
variable (hpu : M.pu = false) (F : Facts M.K) {N E : Nat} {σ : St} (hB : BH H σ) (w : WF N E σ) (hN : N ≤ 700) (hE : E ≤ 700) (hne : σ.stack ≠ [])
include hpu F hB w hN hE hne
theorem w_close {t : Tk} {Q : V → MH → Prop} (h : ∀ H', BH H' (leaveN σ t) → Keep Loc.isB H H' → Q .none H') : CALL M (d + 3) cl ml H 631 [.cell .builder, tkV t] Q := by
  refine CALL_go (at_close_frameset F) b_close_frameset rfl rfl rfl ?_
  have h1 := w.zn
  have h2 := w.zs
  have h3 := w.ze
  unfold leaveN at h
  walk_at "m.run"
  refine w_is_at_root F hB (by omega) ?_
  by_cases e : decide ((σ.stack.length : Int) ≤ 1) = true
  · rw [if_pos e] at h
    walk_at "m.run"
    refine w_refuse hpu F hB (by omega) fun H1 hB1 k1 => ?_
    walk_at "m.run"
    exact h H1 hB1 k1
  · rw [if_neg e] at h
    walk_at "m.run"
    obtain ⟨n, hl⟩ := getLast_dropLast hne
    refine w_pop hpu F hB (by omega) hl fun H1 hB1 k1 => ?_
    walk_at "m.run"
    have hB1 : BH H1 (popN σ) := hB1
    by_cases e2 : (σ.ctx == -1) = true
    · rw [if_pos e2] at h
      walk_at "m.run"
      have hne1 : (popN σ).stack ≠ [] := by
        intro q
        have q : σ.stack.dropLast = [] := q
        rw [q] at hl
        rw [hl] at e
        exact e (by simp)
      obtain ⟨x, hx, hkl, _, hs, _, l, hl2⟩ := w.popN.cur' hne1
      have hcn : curName (popN σ) = x.name := by unfold curName; rw [hx]
      rw [hcn] at h
      refine w_name F hB1 (by have := w.popN.zs; omega) (by have := w.popN.zn; omega) hl2 hx hs ?_
      walk_at "m.run"
      by_cases e3 : (x.name != "frameset") = true
      · rw [if_pos e3] at h
        walk_at "m.run"
        refine w_to hpu F hB1 fun H2 hB2 k2 => ?_
        walk_at "m.run"
        exact h H2 hB2 (k1.trans k2)
      · rw [if_neg e3] at h
        walk_at "m.run"
        exact h H1 hB1 k1
    · rw [if_neg e2] at h
      walk_at "m.run"
      exact h H1 hB1 k1
theorem w_in_frameset {t : Tk} (ht : t.ok) {Q : V → MH → Prop} (h : ∀ H', BH H' (inFramesetN σ t) → Keep Loc.isB H H' → Q .none H') : CALL M (d + 13) cl ml H 638 [.cell .builder, tkV t] Q := by
  refine CALL_go (at_in_frameset F) b_in_frameset rfl rfl rfl ?_
  have h1 := w.zn
  have h2 := w.zs
  have h3 := w.ze
  walk_at "m.run"
  refine w_is_space_token F ?_
  cases t with
  | ch c =>
    simp only [tkV]
    by_cases e : spaces.any (· == c) = true
    · have hq : inFramesetN σ (.ch c) = sigN σ c := if_pos e
      rw [hq] at h
      walk_at "m.run"
      refine w_sign hpu F hB w (by omega) hne (by have := (sign_ok ht).2; omega) fun H1 hB1 k1 => ?_
      walk_at "m.run"
      exact h H1 hB1 k1
    · have hq : inFramesetN σ (.ch c) = refN σ (.ch c) := if_neg e
      rw [hq] at h
      walk_at "m.run"
      refine w_is_start_of (t := .ch c) F ?_
      walk_at "m.run"
      refine w_is_start_of (t := .ch c) F ?_
      walk_at "m.run"
      refine w_is_end_of (t := .ch c) F ?_
      walk_at "m.run"
      refine w_is_start_of (t := .ch c) F ?_
      walk_at "m.run"
      refine w_is_start_of (t := .ch c) F ?_
      walk_at "m.run"
      refine w_refuse (t := .ch c) hpu F hB (by omega) fun H1 hB1 k1 => ?_
      walk_at "m.run"
      exact h H1 hB1 k1
  | start n a s =>
    simp only [tkV]
    walk_at "m.run"
    refine w_is_start_of (t := .start n a s) F ?_
    by_cases e : n = "html"
    · have hq : inFramesetN σ (.start n a s) = bodyN σ (.start n a s) := if_pos e
      rw [hq] at h
      walk_at "m.run"
      refine w_use_body (t := .start n a s) hpu F hB w hN hE hne ht fun H1 hB1 k1 => ?_
      walk_at "m.run"
      exact h H1 hB1 k1
    · walk_at "m.run"
      refine w_is_start_of (t := .start n a s) F ?_
      by_cases e2 : n = "frameset"
      · have hq : inFramesetN σ (.start n a s) = growN σ n (tAttrs a) := (if_neg e).trans (if_pos e2)
        rw [hq] at h
        walk_at "m.run"
        refine w_insert_token (s := s) hpu F hB w (by omega) (.inl e2) fun H1 hB1 k1 => ?_
        walk_at "m.run"
        exact h H1 hB1 k1
      · walk_at "m.run"
        refine w_is_end_of (t := .start n a s) F ?_
        walk_at "m.run"
        refine w_is_start_of (t := .start n a s) F ?_
        by_cases e3 : n = "frame"
        · have hq : inFramesetN σ (.start n a s) = voidN σ n (tAttrs a) := (if_neg e).trans ((if_neg e2).trans (if_pos e3))
          rw [hq] at h
          walk_at "m.run"
          refine w_insert_void (s := s) hpu F hB w (by omega) (.inr e3) fun H1 hB1 k1 => ?_
          walk_at "m.run"
          exact h H1 hB1 k1
        · walk_at "m.run"
          refine w_is_start_of (t := .start n a s) F ?_
          by_cases e4 : n = "noframes"
          · have hq : inFramesetN σ (.start n a s) = headN σ (.start n a s) := (if_neg e).trans ((if_neg e2).trans ((if_neg e3).trans (if_pos e4)))
            rw [hq] at h
            walk_at "m.run"
            refine w_use_head (n := n) (a := a) (s := s) hpu F hB w hN hE hne ht fun H1 hB1 k1 => ?_
            walk_at "m.run"
            exact h H1 hB1 k1
          · have hq : inFramesetN σ (.start n a s) = refN σ (.start n a s) := (if_neg e).trans ((if_neg e2).trans ((if_neg e3).trans (if_neg e4)))
            rw [hq] at h
            walk_at "m.run"
            refine w_refuse (t := .start n a s) hpu F hB (by omega) fun H1 hB1 k1 => ?_
            walk_at "m.run"
            exact h H1 hB1 k1
  | fin n =>
    simp only [tkV]
    walk_at "m.run"
    refine w_is_start_of (t := .fin n) F ?_
    walk_at "m.run"
    refine w_is_start_of (t := .fin n) F ?_
    walk_at "m.run"
    refine w_is_end_of (t := .fin n) F ?_
    by_cases e : n = "frameset"
    · have hq : inFramesetN σ (.fin n) = leaveN σ (.fin n) := if_pos e
      rw [hq] at h
      walk_at "m.run"
      refine w_close (t := .fin n) hpu F hB w hN hE hne fun H1 hB1 k1 => ?_
      walk_at "m.run"
      exact h H1 hB1 k1
    · have hq : inFramesetN σ (.fin n) = refN σ (.fin n) := if_neg e
      rw [hq] at h
      walk_at "m.run"
      refine w_is_start_of (t := .fin n) F ?_
      walk_at "m.run"
      refine w_is_start_of (t := .fin n) F ?_
      walk_at "m.run"
      refine w_refuse (t := .fin n) hpu F hB (by omega) fun H1 hB1 k1 => ?_
      walk_at "m.run"
      exact h H1 hB1 k1
  | com c =>
    simp only [tkV]
    walk_at "m.run"
    obtain ⟨x, hx, hxl⟩ := w.cur
    refine w_insert_comment2 hpu F hB (by omega) (by omega) w.par hx (by omega) fun H1 hB1 k1 => ?_
    walk_at "m.run"
    exact h H1 hB1 k1
  | doc =>
    simp only [tkV]
    walk_at "m.run"
    refine w_is_start_of (t := .doc) F ?_
    walk_at "m.run"
    refine w_is_start_of (t := .doc) F ?_
    walk_at "m.run"
    refine w_is_end_of (t := .doc) F ?_
    walk_at "m.run"
    refine w_is_start_of (t := .doc) F ?_
    walk_at "m.run"
    refine w_is_start_of (t := .doc) F ?_
    walk_at "m.run"
    refine w_refuse (t := .doc) hpu F hB (by omega) fun H1 hB1 k1 => ?_
    walk_at "m.run"
    exact h H1 hB1 k1
  | eof =>
    simp only [tkV]
    walk_at "m.run"
    refine w_is_start_of (t := .eof) F ?_
    walk_at "m.run"
    refine w_is_start_of (t := .eof) F ?_
    walk_at "m.run"
    refine w_is_end_of (t := .eof) F ?_
    walk_at "m.run"
    refine w_is_start_of (t := .eof) F ?_
    walk_at "m.run"
    refine w_is_start_of (t := .eof) F ?_
    walk_at "m.run"
    refine w_is_at_root F hB (by omega) ?_
    by_cases e : decide ((σ.stack.length : Int) ≤ 1) = true
    · have hq : inFramesetN σ .eof = stopN σ := if_pos e
      rw [hq] at h
      rw [e]
      walk_at "m.run"
      refine w_finish hpu F hB (by omega) fun H1 hB1 k1 => ?_
      walk_at "m.run"
      exact h H1 hB1 k1
    · have hq : inFramesetN σ .eof = stopN (errN σ (.tup [.str "open-elements", .str σ.mode])) := if_neg e
      rw [hq] at h
      rw [Bool.eq_false_iff.mpr e]
      walk_at "m.run"
      refine w_error hpu F hB (by omega) fun H1 hB1 k1 => ?_
      walk_at "m.run"
      refine w_finish hpu F hB1 (by show σ.stack.length ≤ 900; omega) fun H2 hB2 k2 => ?_
      walk_at "m.run"
      exact h H2 hB2 (k1.trans k2)
end
def Tk.ofBody : Tk → Bool
  | .doc => true
  | .ch c => spaces.any (· == c)
  | .start n _ _ => n == "html"
  | _ => false
section
variable {M : Amb} {d : Nat} {cl : List (Str × Loc)} {ml : List (Str × V)} {H : MH}
theorem w_is_of_body (F : Facts M.K) {t : Tk} {Q : V → MH → Prop} (h : Q (.bool t.ofBody) H) : CALL M (d + 3) cl ml H 652 [tkV t] Q := by
  refine CALL_go (at_is_of_body F) b_is_of_body rfl rfl rfl ?_
  cases t with
  | doc =>
    simp only [tkV]
    walk_at "m.run"
    exact h
  | ch c =>
    simp only [tkV]
    walk_at "m.run"
    refine w_is_space_token (t := .ch c) F ?_
    by_cases e : spaces.any (· == c) = true
    · have e2 : Tk.ofBody (.ch c) = true := e
      rw [e2] at h
      have e3 : Tk.spc (.ch c) = true := e
      rw [e3]
      walk_at "m.run"
      exact h
    · have e2 : Tk.ofBody (.ch c) = false := Bool.eq_false_iff.mpr e
      rw [e2] at h
      have e3 : Tk.spc (.ch c) = false := Bool.eq_false_iff.mpr e
      rw [e3]
      walk_at "m.run"
      refine w_is_start_of (t := .ch c) F ?_
      walk_at "m.run"
      exact h
  | start n a s =>
    simp only [tkV]
    walk_at "m.run"
    refine w_is_space_token (t := .start n a s) F ?_
    walk_at "m.run"
    refine w_is_start_of (t := .start n a s) F ?_
    walk_at "m.run"
    exact h
  | fin n =>
    simp only [tkV]
    walk_at "m.run"
    refine w_is_space_token (t := .fin n) F ?_
    walk_at "m.run"
    refine w_is_start_of (t := .fin n) F ?_
    walk_at "m.run"
    exact h
  | com c =>
    simp only [tkV]
    walk_at "m.run"
    refine w_is_space_token (t := .com c) F ?_
    walk_at "m.run"
    refine w_is_start_of (t := .com c) F ?_
    walk_at "m.run"
    exact h
  | eof =>
    simp only [tkV]
    walk_at "m.run"
    refine w_is_space_token (t := .eof) F ?_
    walk_at "m.run"
    refine w_is_start_of (t := .eof) F ?_
    walk_at "m.run"
    exact h
variable (hpu : M.pu = false) (F : Facts M.K) {N E : Nat} {σ : St} (hB : BH H σ) (w : WF N E σ) (hN : N ≤ 700) (hE : E ≤ 700) (hne : σ.stack ≠ [])
include hpu F hB w hN hE hne
theorem w_after_frameset {t : Tk} (ht : t.ok) {Q : V → MH → Prop} (h : ∀ H', BH H' (afterFramesetN σ t) → Keep Loc.isB H H' → Q .none H') : CALL M (d + 13) cl ml H 645 [.cell .builder, tkV t] Q := by
  refine CALL_go (at_after_frameset F) b_after_frameset rfl rfl rfl ?_
  have h1 := w.zn
  have h2 := w.zs
  have h3 := w.ze
  obtain ⟨xc, hxc, hxcl⟩ := w.cur
  obtain ⟨xd, hxd, _⟩ := w.doc
  have hxdl := (w.nd _ _ hxd).kl
  cases t with
  | ch c =>
    simp only [tkV]
    walk_at "m.run"
    refine w_is_space_token (t := .ch c) F ?_
    by_cases e0 : spaces.any (· == c) = true
    · have hq : afterFramesetN σ (.ch c) = sigN σ c := if_pos e0
      rw [hq] at h
      walk_at "m.run"
      refine w_sign hpu F hB w (by omega) hne (by have := (sign_ok ht).2; omega) fun H1 hB1 k1 => ?_
      walk_at "m.run"
      exact h H1 hB1 k1
    · walk_at "m.run"
      refine w_is_start_of (t := .ch c) F ?_
      walk_at "m.run"
      refine w_is_end_of (t := .ch c) F ?_
      walk_at "m.run"
      refine w_is_start_of (t := .ch c) F ?_
      have hq : afterFramesetN σ (.ch c) = refN σ (.ch c) := if_neg e0
      rw [hq] at h
      walk_at "m.run"
      refine w_refuse (t := .ch c) hpu F hB (by omega) fun H1 hB1 k1 => ?_
      walk_at "m.run"
      exact h H1 hB1 k1
  | start n a s =>
    simp only [tkV]
    walk_at "m.run"
    refine w_is_space_token (t := .start n a s) F ?_
    walk_at "m.run"
    refine w_is_start_of (t := .start n a s) F ?_
    by_cases e0 : n = "html"
    · have hq : afterFramesetN σ (.start n a s) = bodyN σ (.start n a s) := if_pos e0
      rw [hq] at h
      walk_at "m.run"
      refine w_use_body (t := .start n a s) hpu F hB w hN hE hne ht fun H1 hB1 k1 => ?_
      walk_at "m.run"
      exact h H1 hB1 k1
    · walk_at "m.run"
      refine w_is_end_of (t := .start n a s) F ?_
      walk_at "m.run"
      refine w_is_start_of (t := .start n a s) F ?_
      by_cases e1 : n = "noframes"
      · have hq : afterFramesetN σ (.start n a s) = headN σ (.start n a s) := (if_neg e0).trans (if_pos e1)
        rw [hq] at h
        walk_at "m.run"
        refine w_use_head (n := n) (a := a) (s := s) hpu F hB w hN hE hne ht fun H1 hB1 k1 => ?_
        walk_at "m.run"
        exact h H1 hB1 k1
      · have hq : afterFramesetN σ (.start n a s) = refN σ (.start n a s) := (if_neg e0).trans (if_neg e1)
        rw [hq] at h
        walk_at "m.run"
        refine w_refuse (t := .start n a s) hpu F hB (by omega) fun H1 hB1 k1 => ?_
        walk_at "m.run"
        exact h H1 hB1 k1
  | fin n =>
    simp only [tkV]
    walk_at "m.run"
    refine w_is_space_token (t := .fin n) F ?_
    walk_at "m.run"
    refine w_is_start_of (t := .fin n) F ?_
    walk_at "m.run"
    refine w_is_end_of (t := .fin n) F ?_
    by_cases e0 : n = "html"
    · have hq : afterFramesetN σ (.fin n) = { σ with mode := "after after frameset" } := if_pos e0
      rw [hq] at h
      walk_at "m.run"
      refine w_to hpu F hB fun H1 hB1 k1 => ?_
      walk_at "m.run"
      exact h H1 hB1 k1
    · walk_at "m.run"
      refine w_is_start_of (t := .fin n) F ?_
      have hq : afterFramesetN σ (.fin n) = refN σ (.fin n) := if_neg e0
      rw [hq] at h
      walk_at "m.run"
      refine w_refuse (t := .fin n) hpu F hB (by omega) fun H1 hB1 k1 => ?_
      walk_at "m.run"
      exact h H1 hB1 k1
  | com c =>
    simp only [tkV]
    walk_at "m.run"
    refine w_is_space_token (t := .com c) F ?_
    have hq : afterFramesetN σ (.com c) = insN σ (comN c) (curP σ.stack) := rfl
    rw [hq] at h
    walk_at "m.run"
    refine w_insert_comment2 hpu F hB (by omega) (by omega) w.par hxc (by omega) fun H1 hB1 k1 => ?_
    walk_at "m.run"
    exact h H1 hB1 k1
  | doc =>
    simp only [tkV]
    walk_at "m.run"
    refine w_is_space_token (t := .doc) F ?_
    walk_at "m.run"
    refine w_is_start_of (t := .doc) F ?_
    walk_at "m.run"
    refine w_is_end_of (t := .doc) F ?_
    walk_at "m.run"
    refine w_is_start_of (t := .doc) F ?_
    have hq : afterFramesetN σ (.doc) = refN σ (.doc) := rfl
    rw [hq] at h
    walk_at "m.run"
    refine w_refuse (t := .doc) hpu F hB (by omega) fun H1 hB1 k1 => ?_
    walk_at "m.run"
    exact h H1 hB1 k1
  | eof =>
    simp only [tkV]
    walk_at "m.run"
    refine w_is_space_token (t := .eof) F ?_
    walk_at "m.run"
    refine w_is_start_of (t := .eof) F ?_
    walk_at "m.run"
    refine w_is_end_of (t := .eof) F ?_
    walk_at "m.run"
    refine w_is_start_of (t := .eof) F ?_
    have hq : afterFramesetN σ (.eof) = stopN σ := rfl
    rw [hq] at h
    walk_at "m.run"
    refine w_finish hpu F hB (by omega) fun H1 hB1 k1 => ?_
    walk_at "m.run"
    exact h H1 hB1 k1
theorem w_after_after_body {t : Tk} (ht : t.ok) {Q : V → MH → Prop} (h : ∀ H', BH H' (afterAfterBodyN σ t) → Keep Loc.isB H H' → Q .none H') : CALL M (d + 13) cl ml H 659 [.cell .builder, tkV t] Q := by
  refine CALL_go (at_after_after_body F) b_after_after_body rfl rfl rfl ?_
  have h1 := w.zn
  have h2 := w.zs
  have h3 := w.ze
  obtain ⟨xc, hxc, hxcl⟩ := w.cur
  obtain ⟨xd, hxd, _⟩ := w.doc
  have hxdl := (w.nd _ _ hxd).kl
  cases t with
  | ch c =>
    simp only [tkV]
    walk_at "m.run"
    refine w_is_of_body (t := .ch c) F ?_
    by_cases e0 : spaces.any (· == c) = true
    · have hq : afterAfterBodyN σ (.ch c) = bodyN σ (.ch c) := if_pos e0
      rw [hq] at h
      walk_at "m.run"
      refine w_use_body (t := .ch c) hpu F hB w hN hE hne ht fun H1 hB1 k1 => ?_
      walk_at "m.run"
      exact h H1 hB1 k1
    · have hq : afterAfterBodyN σ (.ch c) = backN σ (.ch c) := if_neg e0
      rw [hq] at h
      walk_at "m.run"
      refine w_back (t := .ch c) hpu F hB w hN hE hne ht fun H1 hB1 k1 => ?_
      walk_at "m.run"
      exact h H1 hB1 k1
  | start n a s =>
    simp only [tkV]
    walk_at "m.run"
    refine w_is_of_body (t := .start n a s) F ?_
    by_cases e0 : n = "html"
    · have hq : afterAfterBodyN σ (.start n a s) = bodyN σ (.start n a s) := if_pos e0
      rw [hq] at h
      walk_at "m.run"
      refine w_use_body (t := .start n a s) hpu F hB w hN hE hne ht fun H1 hB1 k1 => ?_
      walk_at "m.run"
      exact h H1 hB1 k1
    · have hq : afterAfterBodyN σ (.start n a s) = backN σ (.start n a s) := if_neg e0
      rw [hq] at h
      walk_at "m.run"
      refine w_back (t := .start n a s) hpu F hB w hN hE hne ht fun H1 hB1 k1 => ?_
      walk_at "m.run"
      exact h H1 hB1 k1
  | fin n =>
    simp only [tkV]
    walk_at "m.run"
    refine w_is_of_body (t := .fin n) F ?_
    have hq : afterAfterBodyN σ (.fin n) = backN σ (.fin n) := rfl
    rw [hq] at h
    walk_at "m.run"
    refine w_back (t := .fin n) hpu F hB w hN hE hne ht fun H1 hB1 k1 => ?_
    walk_at "m.run"
    exact h H1 hB1 k1
  | com c =>
    simp only [tkV]
    have hq : afterAfterBodyN σ (.com c) = insN σ (comN c) 0 := rfl
    rw [hq] at h
    walk_at "m.run"
    refine w_insert_comment3 (p := 0) hpu F hB (by omega) w.par hxd (by omega) fun H1 hB1 k1 => ?_
    walk_at "m.run"
    exact h H1 hB1 k1
  | doc =>
    simp only [tkV]
    walk_at "m.run"
    refine w_is_of_body (t := .doc) F ?_
    have hq : afterAfterBodyN σ (.doc) = bodyN σ (.doc) := rfl
    rw [hq] at h
    walk_at "m.run"
    refine w_use_body (t := .doc) hpu F hB w hN hE hne ht fun H1 hB1 k1 => ?_
    walk_at "m.run"
    exact h H1 hB1 k1
  | eof =>
    simp only [tkV]
    walk_at "m.run"
    refine w_is_of_body (t := .eof) F ?_
    have hq : afterAfterBodyN σ (.eof) = stopN σ := rfl
    rw [hq] at h
    walk_at "m.run"
    refine w_finish hpu F hB (by omega) fun H1 hB1 k1 => ?_
    walk_at "m.run"
    exact h H1 hB1 k1
theorem w_after_after_frameset {t : Tk} (ht : t.ok) {Q : V → MH → Prop} (h : ∀ H', BH H' (afterAfterFramesetN σ t) → Keep Loc.isB H H' → Q .none H') : CALL M (d + 13) cl ml H 666 [.cell .builder, tkV t] Q := by
  refine CALL_go (at_after_after_frameset F) b_after_after_frameset rfl rfl rfl ?_
  have h1 := w.zn
  have h2 := w.zs
  have h3 := w.ze
  obtain ⟨xc, hxc, hxcl⟩ := w.cur
  obtain ⟨xd, hxd, _⟩ := w.doc
  have hxdl := (w.nd _ _ hxd).kl
  cases t with
  | ch c =>
    simp only [tkV]
    walk_at "m.run"
    refine w_is_of_body (t := .ch c) F ?_
    by_cases e0 : spaces.any (· == c) = true
    · have hq : afterAfterFramesetN σ (.ch c) = bodyN σ (.ch c) := if_pos e0
      rw [hq] at h
      walk_at "m.run"
      refine w_use_body (t := .ch c) hpu F hB w hN hE hne ht fun H1 hB1 k1 => ?_
      walk_at "m.run"
      exact h H1 hB1 k1
    · walk_at "m.run"
      refine w_is_start_of (t := .ch c) F ?_
      have hq : afterAfterFramesetN σ (.ch c) = refN σ (.ch c) := if_neg e0
      rw [hq] at h
      walk_at "m.run"
      refine w_refuse (t := .ch c) hpu F hB (by omega) fun H1 hB1 k1 => ?_
      walk_at "m.run"
      exact h H1 hB1 k1
  | start n a s =>
    simp only [tkV]
    walk_at "m.run"
    refine w_is_of_body (t := .start n a s) F ?_
    by_cases e0 : n = "html"
    · have hq : afterAfterFramesetN σ (.start n a s) = bodyN σ (.start n a s) := if_pos e0
      rw [hq] at h
      walk_at "m.run"
      refine w_use_body (t := .start n a s) hpu F hB w hN hE hne ht fun H1 hB1 k1 => ?_
      walk_at "m.run"
      exact h H1 hB1 k1
    · walk_at "m.run"
      refine w_is_start_of (t := .start n a s) F ?_
      by_cases e1 : n = "noframes"
      · have hq : afterAfterFramesetN σ (.start n a s) = headN σ (.start n a s) := (if_neg e0).trans (if_pos e1)
        rw [hq] at h
        walk_at "m.run"
        refine w_use_head (n := n) (a := a) (s := s) hpu F hB w hN hE hne ht fun H1 hB1 k1 => ?_
        walk_at "m.run"
        exact h H1 hB1 k1
      · have hq : afterAfterFramesetN σ (.start n a s) = refN σ (.start n a s) := (if_neg e0).trans (if_neg e1)
        rw [hq] at h
        walk_at "m.run"
        refine w_refuse (t := .start n a s) hpu F hB (by omega) fun H1 hB1 k1 => ?_
        walk_at "m.run"
        exact h H1 hB1 k1
  | fin n =>
    simp only [tkV]
    walk_at "m.run"
    refine w_is_of_body (t := .fin n) F ?_
    walk_at "m.run"
    refine w_is_start_of (t := .fin n) F ?_
    have hq : afterAfterFramesetN σ (.fin n) = refN σ (.fin n) := rfl
    rw [hq] at h
    walk_at "m.run"
    refine w_refuse (t := .fin n) hpu F hB (by omega) fun H1 hB1 k1 => ?_
    walk_at "m.run"
    exact h H1 hB1 k1
  | com c =>
    simp only [tkV]
    have hq : afterAfterFramesetN σ (.com c) = insN σ (comN c) 0 := rfl
    rw [hq] at h
    walk_at "m.run"
    refine w_insert_comment3 (p := 0) hpu F hB (by omega) w.par hxd (by omega) fun H1 hB1 k1 => ?_
    walk_at "m.run"
    exact h H1 hB1 k1
  | doc =>
    simp only [tkV]
    walk_at "m.run"
    refine w_is_of_body (t := .doc) F ?_
    have hq : afterAfterFramesetN σ (.doc) = bodyN σ (.doc) := rfl
    rw [hq] at h
    walk_at "m.run"
    refine w_use_body (t := .doc) hpu F hB w hN hE hne ht fun H1 hB1 k1 => ?_
    walk_at "m.run"
    exact h H1 hB1 k1
  | eof =>
    simp only [tkV]
    walk_at "m.run"
    refine w_is_of_body (t := .eof) F ?_
    have hq : afterAfterFramesetN σ (.eof) = stopN σ := rfl
    rw [hq] at h
    walk_at "m.run"
    refine w_finish hpu F hB (by omega) fun H1 hB1 k1 => ?_
    walk_at "m.run"
    exact h H1 hB1 k1
end
def slashW : Str := "non-void-html-element-start-tag-with-trailing-solidus"
/-- one token through the builder -/
def feedN (σ : St) (t : Tk) : St :=
  match t with
  | .start _ _ s => if (s && !(runN { σ with ack := false } t).ack) = true then errN (runN { σ with ack := false } t) (.tup [.str slashW, .str (runN { σ with ack := false } t).mode]) else runN { σ with ack := false } t
  | _ => runN { σ with ack := false } t
section
variable {M : Amb} {d : Nat} {cl : List (Str × Loc)} {ml : List (Str × V)} {H : MH}
variable (hpu : M.pu = false) (F : Facts M.K) {N E : Nat} {σ : St} (hB : BH H σ) (w : WF N E σ) (hN : N ≤ 700) (hE : E ≤ 700)
include hpu F hB w hN hE
theorem w_run (hne : σ.stack ≠ []) {t : Tk} (ht : t.ok) {Q : V → MH → Prop} (h : ∀ H', BH H' (runN σ t) → Keep Loc.isB H H' → Q .none H') : CALL M (d + 15) cl ml H 465 [.cell .builder, tkV t] Q := by
  unfold runN at h
  by_cases e1 : σ.mode = "after body"
  · rw [if_pos e1] at h
    exact w_process (a := 617) F hB w (by omega) (by rw [e1]; rfl) (Facts.kp F rfl) fun cl ml => w_after_body hpu F hB w hN hE hne ht h
  rw [if_neg e1] at h
  by_cases e2 : σ.mode = "in frameset"
  · rw [if_pos e2] at h
    exact w_process (a := 638) F hB w (by omega) (by rw [e2]; rfl) (Facts.kp F rfl) fun cl ml => w_in_frameset hpu F hB w hN hE hne ht h
  rw [if_neg e2] at h
  by_cases e3 : σ.mode = "after frameset"
  · rw [if_pos e3] at h
    exact w_process (a := 645) F hB w (by omega) (by rw [e3]; rfl) (Facts.kp F rfl) fun cl ml => w_after_frameset hpu F hB w hN hE hne ht h
  rw [if_neg e3] at h
  by_cases e4 : σ.mode = "after after body"
  · rw [if_pos e4] at h
    exact w_process (a := 659) F hB w (by omega) (by rw [e4]; rfl) (Facts.kp F rfl) fun cl ml => w_after_after_body hpu F hB w hN hE hne ht h
  rw [if_neg e4] at h
  by_cases e5 : σ.mode = "after after frameset"
  · rw [if_pos e5] at h
    exact w_process (a := 666) F hB w (by omega) (by rw [e5]; rfl) (Facts.kp F rfl) fun cl ml => w_after_after_frameset hpu F hB w hN hE hne ht h
  rw [if_neg e5] at h
  have e6 : σ.mode = "in body" := by
    have := w.md
    simp only [modesL, List.mem_cons, List.not_mem_nil, or_false] at this
    rcases this with e | e | e | e | e | e
    · exact absurd e e1
    · exact absurd e e2
    · exact absurd e e3
    · exact absurd e e4
    · exact absurd e e5
    · exact e
  exact w_process (a := 708) F hB w (by omega) (by rw [e6]; rfl) (Facts.kp F rfl) fun cl ml => w_law_body hpu F hB w (by omega) (by omega) hne ht h
theorem w_feed (h5 : 5 ≤ N) (hne : σ.done = false → σ.stack ≠ []) {t : Tk} (ht : t.ok) {Q : V → MH → Prop} (h : ∀ H', BH H' (if σ.done = true then σ else feedN σ t) → Keep Loc.isB H H' → Q .none H') : CALL M (d + 16) cl ml H 472 [.cell .builder, tkV t] Q := by
  refine CALL_go (at_Builder_feed F) b_Builder_feed rfl rfl rfl ?_
  walk_at "m.run"
  cases hd : σ.done with
  | true =>
    rw [hd, if_pos rfl] at h
    walk_at "m.run"
    exact h H hB (Keep.refl _)
  | false =>
    rw [hd, if_neg (by decide)] at h
    have hne := hne hd
    have hq : bflds σ = bflds { σ with done := false } := by rw [← hd]
    walk_at "m.run"
    have hB1 : BH (H.put .builder (.inst 489 (bflds { σ with ack := false }))) { σ with ack := false } := hB.bld rfl rfl rfl
    have k1 : Keep Loc.isB H (H.put .builder (.inst 489 (bflds { σ with ack := false }))) := Keep.put rfl
    have w1 := w.ack false
    have key : ∀ Q : V → MH → Prop, (∀ H', BH H' (runN { σ with ack := false } t) → Keep Loc.isB H H' → Q .none H') → ∀ cl ml, CALL M (d + 15) cl ml (H.put .builder (.inst 489 (bflds { σ with ack := false }))) 465 [.cell .builder, tkV t] Q :=
      fun Q hQ cl ml => w_run hpu F hB1 w1 hN hE hne ht fun H1 hB2 k2 => hQ H1 hB2 (k1.trans k2)
    refine key _ (fun H1 hB2 k2 => ?_) _ _
    cases t with
    | start n a s =>
      simp only [tkV]
      walk_at "m.run"
      cases hs : s with
      | false =>
        have hq : feedN σ (.start n a s) = runN { σ with ack := false } (.start n a s) := by unfold feedN; dsimp only; rw [hs, if_neg (by simp)]
        rw [hq] at h
        walk_at "m.run"
        exact h H1 hB2 k2
      | true =>
        walk_at "m.run"
        cases hk : (runN { σ with ack := false } (.start n a s)).ack with
        | true =>
          have hq : feedN σ (.start n a s) = runN { σ with ack := false } (.start n a s) := by unfold feedN; dsimp only; rw [hk, hs, if_neg (by decide)]
          rw [hq] at h
          walk_at "m.run"
          exact h H1 hB2 k2
        | false =>
          have hq : feedN σ (.start n a s) = errN (runN { σ with ack := false } (.start n a s)) (.tup [.str slashW, .str (runN { σ with ack := false } (.start n a s)).mode]) := by unfold feedN; dsimp only; rw [hk, hs, if_pos (by decide)]
          rw [hq] at h
          walk_at "m.run"
          refine w_error hpu F hB2 (by have := (w1.run h5 hne ht).ze; omega) fun H2 hB3 k3 => ?_
          walk_at "m.run"
          exact h H2 hB3 (k2.trans k3)
    | fin n =>
      simp only [tkV]
      walk_at "m.run"
      exact h H1 hB2 k2
    | ch c =>
      simp only [tkV]
      walk_at "m.run"
      exact h H1 hB2 k2
    | com c =>
      simp only [tkV]
      walk_at "m.run"
      exact h H1 hB2 k2
    | doc =>
      simp only [tkV]
      walk_at "m.run"
      exact h H1 hB2 k2
    | eof =>
      simp only [tkV]
      walk_at "m.run"
      exact h H1 hB2 k2
end
def getE2 : List (Str × V) → Str → Option V
  | [], _ => none
  | (k, v) :: r, key => if k = key then some v else getE2 r key
theorem getE2_eq {key : Str} : ∀ {es : List (Str × V)}, getE es key = getE2 es key
  | [] => rfl
  | (k, v) :: r => by
    unfold getE getE2
    rw [List.find?_cons]
    by_cases q : k = key
    · simp [q]
    · simp only [q, decide_false, if_false]
      exact getE2_eq
section
variable {M : Amb} {d : Nat} {cl : List (Str × Loc)} {ml : List (Str × V)} {H : MH}
theorem OP_item_dict2 {value slice : Expr} {l : Loc} {es : List (Str × V)} {key : Str} {x : V} {Q : V → MH → Prop} (hc : H.c l = some (.dict es)) (hx : getE2 es key = some x)
    (hs : ∀ a t, subscripted slice false (.ref a) (.str key t) = operate [.ref a, .str key t] (getItem (.ref a) (.str key t))) (h : Q x H) : OP2 VR M d cl ml H (subscriptTail value slice) (.cell l) (.str key) Q :=
  OP_item_dict hc (getE2_eq.trans hx) hs h
theorem TE_two3 {sc : Scope} {value : Expr} {n : Nat} {cp p pos : Pos} {Q : V → MH → Prop} (ht : ∀ o r, letTemporaryGo value o r = pure ())
    (h : TE M d sc cl ml H value fun o H1 => TE M d sc cl ml H1 (.Constant (.int 2) n cp) fun i H2 => ∃ a b r, o = .tup (a :: b :: r) ∧ i = .int 2 ∧ Q (.tup [a, b]) H2) :
    TE M d sc cl ml H (.Subscript value (.Slice none (some (.Constant (.int 2) n cp)) none p) pos) Q := TE_two2 ht h
theorem B_get3 {l : Loc} {es : List (Str × V)} {key : Str} {x y : V} {Q : V → MH → Prop} (hc : H.c l = some (.dict es)) (hx : getE2 es key = some y) (h : Q y H) : CALB M d cl ml H (.builtin "dict.get") [.cell l, .str key, x] Q :=
  B_get2 hc (by rw [getE2_eq, hx]; exact h)
theorem B_get4 {l : Loc} {es : List (Str × V)} {key : Str} {x : V} {Q : V → MH → Prop} (hc : H.c l = some (.dict es)) (hx : getE2 es key = none) (h : Q x H) : CALB M d cl ml H (.builtin "dict.get") [.cell l, .str key, x] Q :=
  B_get2 hc (by rw [getE2_eq, hx]; exact h)
end
abbrev lnV (i : Nat) : V := .cell (.lnode i)
def stD (pl : Loc) (σ : St) : List (Str × V) := [("page", .cell (.lnode 0)), ("path", .cell pl), ("mode", .str σ.mode), ("notes", .cell .notes), ("is_done", .bool σ.done), ("is_part", .bool (σ.ctx != -1))]
/-- LH, with the path's list told -/
structure LK (k : Nat) (H : MH) (σ : St) : Prop where
  lt : k < H.nx
  pa : H.c (.tmp k) = some (.list (σ.stack.map lnV))
  ls : ∀ l, l.isL = true → H.c l = lh (.tmp k) σ l
theorem LH.lk {H : MH} {σ : St} (h : LH H σ) : ∃ k, LK k H σ := let ⟨k, a, b, c⟩ := h.ex; ⟨k, a, b, c⟩
theorem LK.lh' {k : Nat} {H : MH} {σ : St} (h : LK k H σ) : LH H σ := ⟨k, h.lt, h.pa, h.ls⟩
theorem LK.at {k : Nat} {H : MH} {σ : St} (h : LK k H σ) {l : Loc} {c : Cell} (e : lh (.tmp k) σ l = some c) (hl : l.isL = true) : H.c l = some c := (h.ls l hl).trans e
theorem LK.state {k : Nat} {H : MH} {σ : St} (h : LK k H σ) : H.c .state = some (.dict (stD (.tmp k) σ)) := h.ls _ rfl
theorem LK.notes {k : Nat} {H : MH} {σ : St} (h : LK k H σ) : H.c .notes = some (.list σ.errs) := h.ls _ rfl
theorem LK.node {k : Nat} {H : MH} {σ : St} (h : LK k H σ) {p : Nat} {x : Nd} (hp : isEl σ p = some x) : H.c (.lnode p) = some (.list [.str x.name, .cell (.latt p), .cell (.lkid p)]) := h.at (by show Option.map _ _ = _; rw [hp]; rfl) rfl
theorem LK.kid {k : Nat} {H : MH} {σ : St} (h : LK k H σ) {p : Nat} {x : Nd} (hp : isEl σ p = some x) : H.c (.lkid p) = some (.list (x.kids.map (kidV σ.nodes))) := h.at (by show Option.map _ _ = _; rw [hp]; rfl) rfl
theorem LK.same {k k' : Nat} {H H' : MH} {σ σ' : St} (L : LK k H σ) (e1 : σ'.nodes = σ.nodes) (e2 : σ'.ctx = σ.ctx) (lt : k' < H'.nx) (pa : H'.c (.tmp k') = some (.list (σ'.stack.map lnV)))
    (hs : H'.c .state = some (.dict (stD (.tmp k') σ'))) (hn : H'.c .notes = some (.list σ'.errs)) (ho : ∀ l, l.isL = true → l ≠ .state → l ≠ .notes → H'.c l = H.c l) : LK k' H' σ' := by
  refine ⟨lt, pa, fun l hl => ?_⟩
  have ie : ∀ i, isEl σ' i = isEl σ i := fun i => by unfold isEl; rw [e1, e2]
  cases l
  case state => exact hs
  case notes => exact hn
  case lnode i => rw [ho _ hl (by intro e; cases e) (by intro e; cases e), L.ls _ hl]; show Option.map _ _ = Option.map _ _; rw [ie]
  case latt i => rw [ho _ hl (by intro e; cases e) (by intro e; cases e), L.ls _ hl]; show Option.map _ _ = Option.map _ _; rw [ie]
  case lkid i => rw [ho _ hl (by intro e; cases e) (by intro e; cases e), L.ls _ hl]; show Option.map _ _ = Option.map _ _; rw [ie, e1]
  all_goals (cases hl; done)
theorem putE_mode {a b c dd e f x : V} : putE [("page", a), ("path", b), ("mode", c), ("notes", dd), ("is_done", e), ("is_part", f)] "mode" x = ([("page", a), ("path", b), ("mode", x), ("notes", dd), ("is_done", e), ("is_part", f)] : List (Str × V)) := rfl
theorem putE_path {a b c dd e f x : V} : putE [("page", a), ("path", b), ("mode", c), ("notes", dd), ("is_done", e), ("is_part", f)] "path" x = ([("page", a), ("path", x), ("mode", c), ("notes", dd), ("is_done", e), ("is_part", f)] : List (Str × V)) := rfl
theorem putE_done {a b c dd e f x : V} : putE [("page", a), ("path", b), ("mode", c), ("notes", dd), ("is_done", e), ("is_part", f)] "is_done" x = ([("page", a), ("path", b), ("mode", c), ("notes", dd), ("is_done", x), ("is_part", f)] : List (Str × V)) := rfl
theorem LK.mode {k : Nat} {H : MH} {σ : St} (L : LK k H σ) (m : Str) : LK k (H.put .state (.dict (putE (stD (.tmp k) σ) "mode" (.str m)))) { σ with mode := m } :=
  L.same rfl rfl L.lt (put_other (by intro e; cases e) L.pa) (by rw [put_same]; exact congrArg (fun z => some (Cell.dict z)) putE_mode) (put_other (by intro e; cases e) L.notes) fun l _ a _ => put_other a rfl
theorem LK.err {k : Nat} {H : MH} {σ : St} (L : LK k H σ) (v : V) : LK k (H.put .notes (.list (σ.errs ++ [v]))) (errN σ v) :=
  L.same rfl rfl L.lt (put_other (by intro e; cases e) L.pa) (put_other (by intro e; cases e) L.state) put_same fun l _ _ b => put_other b rfl
/-- another path -/
theorem LK.path {k j : Nat} {H H1 : MH} {σ : St} (L : LK k H σ) {st : List Nat} (k1 : Keep Loc.isL H H1) (k2 : ∀ l, l.isL = true → H1.c l = H.c l) (hj : j < H1.nx) (hp : H1.c (.tmp j) = some (.list (st.map lnV))) :
    LK j (H1.put .state (.dict (putE (stD (.tmp k) σ) "path" (.cell (.tmp j))))) { σ with stack := st } :=
  L.same rfl rfl hj (put_other (by intro e; cases e) hp) (by rw [put_same]; exact congrArg (fun z => some (Cell.dict z)) putE_path) (put_other (by intro e; cases e) ((k2 _ rfl).trans L.notes)) fun l hl a _ => put_other a (k2 l hl)
theorem LK.done {k : Nat} {H : MH} {σ : St} (L : LK k H σ) (b : Bool) : LK k (H.put .state (.dict (putE (stD (.tmp k) σ) "is_done" (.bool b)))) { σ with done := b } :=
  L.same rfl rfl L.lt (put_other (by intro e; cases e) L.pa) (by rw [put_same]; exact congrArg (fun z => some (Cell.dict z)) putE_done) (put_other (by intro e; cases e) L.notes) fun l _ a _ => put_other a rfl
theorem kidV_eq {ns ns' : List Nd} {i : Nat} {x x' : Nd} (h : ns[i]? = some x) (h' : ns'[i]? = some x') (e1 : x'.kind = x.kind) (e2 : x'.text = x.text) : kidV ns' i = kidV ns i := by
  unfold kidV; rw [h, h']; simp only [e1, e2]
theorem isEl_ins {σ : St} {nd : Nd} {p i : Nat} (hi : i < σ.nodes.length) : isEl (insN σ nd p) i = (isEl σ i).map fun x => if p = i then { x with kids := x.kids ++ [σ.nodes.length] } else x := by
  unfold isEl
  rw [insN_get, if_pos hi, List.getElem?_eq_getElem hi]
  show (match (if p = i then _ else _ : Option Nd) with | some n => if (_ ∧ (i : Int) ≠ σ.ctx) then _ else _ | none => _) = _
  by_cases e : p = i
  · simp only [if_pos e, Option.map_some]
    split <;> rfl
  · simp only [if_neg e]
    split <;> rfl
/-- kids lie in the tree -/
def KidOK (σ : St) : Prop := ∀ (i : Nat) (y : Nd), σ.nodes[i]? = some y → ∀ j ∈ y.kids, j < σ.nodes.length
theorem WF.kd {N E : Nat} {σ : St} (w : WF N E σ) : KidOK σ := fun i y hy j hj => let ⟨_, hz, _⟩ := (w.nd i y hy).kid j hj; lt_of_get hz
theorem WF.nc {N E : Nat} {σ : St} (w : WF N E σ) : (σ.nodes.length : Int) ≠ σ.ctx := by
  rcases w.ctx with e | ⟨c, z, e, hz, _⟩
  · rw [e]; omega
  · have := lt_of_get hz; omega
theorem LK.ins {k : Nat} {H H' : MH} {σ : St} (kd : KidOK σ) (L : LK k H σ) {nd x : Nd} {p : Nat} (hp : isEl σ p = some x) (hpl : p < σ.nodes.length)
    (h1 : H'.c (.lkid p) = some (.list (x.kids.map (kidV σ.nodes) ++ [kidV (insN σ nd p).nodes σ.nodes.length])))
    (h2 : H'.c (.lnode σ.nodes.length) = lh (.tmp k) (insN σ nd p) (.lnode σ.nodes.length)) (h3 : H'.c (.latt σ.nodes.length) = lh (.tmp k) (insN σ nd p) (.latt σ.nodes.length)) (h4 : H'.c (.lkid σ.nodes.length) = lh (.tmp k) (insN σ nd p) (.lkid σ.nodes.length))
    (lt : k < H'.nx) (pa : H'.c (.tmp k) = H.c (.tmp k)) (ho : ∀ l, l.isL = true → l ≠ .lkid p → l ≠ .lnode σ.nodes.length → l ≠ .latt σ.nodes.length → l ≠ .lkid σ.nodes.length → H'.c l = H.c l) : LK k H' (insN σ nd p) := by
  have kv : ∀ j, j < σ.nodes.length → kidV (insN σ nd p).nodes j = kidV σ.nodes j := fun j hj => by
    have g : σ.nodes[j]? = some σ.nodes[j] := List.getElem?_eq_getElem hj
    obtain ⟨ks, g'⟩ := insN_old (nd := nd) (p := p) g
    exact kidV_eq g g' rfl rfl
  have kvs : ∀ i (y : Nd), isEl σ i = some y → y.kids.map (kidV (insN σ nd p).nodes) = y.kids.map (kidV σ.nodes) := fun i y hy => by
    have hy : σ.nodes[i]? = some y := by
      unfold isEl at hy
      split at hy
      · split at hy
        · rename_i q _; rw [q]; exact hy
        · cases hy
      · cases hy
    refine List.map_congr_left fun j hj => ?_
    exact kv j (kd i y hy j hj)
  have big : ∀ i, ¬ i < σ.nodes.length → i ≠ σ.nodes.length → isEl (insN σ nd p) i = none ∧ isEl σ i = none := fun i a b => by
    unfold isEl
    rw [insN_get, if_neg a, if_neg b, List.getElem?_eq_none (by omega)]
    exact ⟨rfl, rfl⟩
  refine ⟨lt, pa.trans L.pa, fun l hl => ?_⟩
  cases l
  case state => exact (ho _ hl (by intro e; cases e) (by intro e; cases e) (by intro e; cases e) (by intro e; cases e)).trans (L.ls _ hl)
  case notes => exact (ho _ hl (by intro e; cases e) (by intro e; cases e) (by intro e; cases e) (by intro e; cases e)).trans (L.ls _ hl)
  case lnode i =>
    by_cases q : i = σ.nodes.length
    · subst q; exact h2
    rw [ho _ hl (by intro e; cases e) (fun e => q (Loc.lnode.inj e)) (by intro e; cases e) (by intro e; cases e), L.ls _ hl]
    show Option.map _ _ = Option.map _ _
    by_cases hi : i < σ.nodes.length
    · rw [isEl_ins hi]
      cases isEl σ i with
      | none => rfl
      | some y => simp only [Option.map_some]; split <;> rfl
    · rw [(big i hi q).1, (big i hi q).2]
  case latt i =>
    by_cases q : i = σ.nodes.length
    · subst q; exact h3
    rw [ho _ hl (by intro e; cases e) (by intro e; cases e) (fun e => q (Loc.latt.inj e)) (by intro e; cases e), L.ls _ hl]
    show Option.map _ _ = Option.map _ _
    by_cases hi : i < σ.nodes.length
    · rw [isEl_ins hi]
      cases isEl σ i with
      | none => rfl
      | some y => simp only [Option.map_some]; split <;> rfl
    · rw [(big i hi q).1, (big i hi q).2]
  case lkid i =>
    by_cases q : i = σ.nodes.length
    · subst q; exact h4
    by_cases e : i = p
    · subst e
      rw [h1]
      show _ = Option.map _ _
      rw [isEl_ins hpl, hp]
      simp only [Option.map_some, if_pos]
      rw [List.map_append, kvs i x hp]; rfl
    · rw [ho _ hl (fun z => e (Loc.lkid.inj z)) (by intro e; cases e) (by intro e; cases e) (fun e => q (Loc.lkid.inj e)), L.ls _ hl]
      show Option.map _ _ = Option.map _ _
      by_cases hi : i < σ.nodes.length
      · rw [isEl_ins hi]
        cases g : isEl σ i with
        | none => rfl
        | some y => simp only [Option.map_some]; rw [if_neg (fun z => e z.symm), kvs i y g]
      · rw [(big i hi q).1, (big i hi q).2]; rfl
  all_goals (cases hl; done)
theorem isEl_get {σ : St} {i : Nat} {y : Nd} (hy : isEl σ i = some y) : σ.nodes[i]? = some y ∧ (y.kind = "element" ∨ y.kind = "document") ∧ (i : Int) ≠ σ.ctx := by
  unfold isEl at hy
  split at hy
  · split at hy
    · rename_i q c; cases hy; exact ⟨q, c⟩
    · cases hy
  · cases hy
theorem isEl_of {σ : St} {i : Nat} {y : Nd} (h1 : σ.nodes[i]? = some y) (h2 : y.kind = "element" ∨ y.kind = "document") (h3 : (i : Int) ≠ σ.ctx) : isEl σ i = some y := by
  unfold isEl; rw [h1]; exact if_pos ⟨h2, h3⟩
/-- a text grows -/
theorem LK.setText {N E k : Nat} {H : MH} {σ : St} (w : WF N E σ) (L : LK k H σ) {x y : Nd} {p j : Nat} {l : List Nat} (hp : isEl σ p = some x) (hk : x.kids = l ++ [j]) (hj : σ.nodes[j]? = some y) (hy : y.kind = "text") (c : Str) :
    LK k (H.put (.lkid p) (.list (l.map (kidV σ.nodes) ++ [.str (y.text ++ c)]))) (setText σ j c) := by
  have gp := isEl_get hp
  have o := w.nd p x gp.1
  have par : ∀ i (z : Nd), σ.nodes[i]? = some z → j ∈ z.kids → i = p := fun i z hz hm => by
    obtain ⟨u, hu, hu2, _⟩ := (w.nd i z hz).kid j hm
    obtain ⟨v, hv, hv2, _⟩ := o.kid j (by rw [hk]; simp)
    rw [hj] at hu hv; cases hu; cases hv
    have : (i : Int) = p := hu2.symm.trans hv2
    omega
  have kv : ∀ i, i ≠ j → kidV (Mine.setText σ j c).nodes i = kidV σ.nodes i := fun i hi => by
    unfold kidV; rw [setText_get, if_neg (fun e => hi e.symm)]
  have kj : kidV (Mine.setText σ j c).nodes j = .str (y.text ++ c) := by
    unfold kidV; rw [setText_get, if_pos rfl, hj]; simp only [Option.map_some, if_pos hy]
  have ie : ∀ i, isEl (Mine.setText σ j c) i = isEl σ i := fun i => by
    unfold isEl
    rw [setText_get]
    show (match (_ : Option Nd) with | some n => if (_ ∧ (i : Int) ≠ σ.ctx) then _ else _ | none => _) = _
    by_cases e : j = i
    · subst e
      rw [if_pos rfl, hj]
      simp only [Option.map_some, hy]
      rw [if_neg (by rintro ⟨h | h, _⟩ <;> revert h <;> decide +kernel), if_neg (by rintro ⟨h | h, _⟩ <;> revert h <;> decide +kernel)]
    · (rw [if_neg e]) <;> (cases σ.nodes[i]? <;> rfl)
  refine ⟨L.lt, put_other (by intro e; cases e) L.pa, fun l' hl => ?_⟩
  cases l'
  case state => exact (put_other (by intro e; cases e) rfl).trans (L.ls _ hl)
  case notes => exact (put_other (by intro e; cases e) rfl).trans (L.ls _ hl)
  case lnode i => rw [put_other (by intro e; cases e) (L.ls _ hl)]; show Option.map _ _ = Option.map _ _; rw [ie]
  case latt i => rw [put_other (by intro e; cases e) (L.ls _ hl)]; show Option.map _ _ = Option.map _ _; rw [ie]
  case lkid i =>
    by_cases e : i = p
    · subst e
      rw [put_same]
      show _ = Option.map _ _
      rw [ie, hp]
      simp only [Option.map_some]
      rw [hk, List.map_append, List.map_cons, List.map_nil, kj]
      congr 3
      refine List.map_congr_left fun a ha => (kv a fun z => ?_).symm
      have nd := o.nod
      rw [hk, List.nodup_append] at nd
      exact nd.2.2 a ha j (by simp) z
    · rw [put_other (fun z => e (Loc.lkid.inj z)) (L.ls _ hl)]
      show Option.map _ _ = Option.map _ _
      rw [ie]
      cases g : isEl σ i with
      | none => rfl
      | some z =>
        simp only [Option.map_some]
        congr 2
        refine List.map_congr_left fun a ha => (kv a fun q => ?_).symm
        subst q
        exact e (par i z (isEl_get g).1 ha)
  all_goals (cases hl; done)
end
/- the walk's steps -/
local macro_rules | `(tactic| walk_at "m.cell") => `(tactic| ((repeat' (first | assumption | exact put_same | exact add_same | exact LK.pa (by assumption) | exact LK.state (by assumption) | exact LK.notes (by assumption) | ((refine' LK.at ?x ?e ?l); (case x => assumption); (case e => exact rfl); (case l => exact rfl)) | ((refine' BH.at ?x ?e ?l); (case x => assumption); (case e => exact rfl); (case l => exact rfl)) | (refine' put_other ?_ ?_) | (refine' add_other ?_ ?_) | (intro e; cases e; done) | (intro e; cases e; omega) | fail "cell")); done))
local macro_rules | `(tactic| walk_at "m.cell2") => `(tactic| ((repeat' (first | assumption | exact BH.free_att (by assumption) | exact BH.free_kid (by assumption) | (refine' put_other ?_ ?_) | (refine' add_other ?_ ?_) | (intro e; cases e; done) | (intro e; cases e; omega) | fail "cell")); done))
local macro_rules | `(tactic| walk_at "m.le") => `(tactic| (first | assumption | exact Nat.le_of_ble_eq_true rfl | omega | (simp only [List.length_map, List.length_append, List.length_cons, List.length_nil, List.length_range]; omega)))
local macro_rules | `(tactic| walk_at "m.galt") => `(tactic| (first | (with_reducible (first | exact g_Tree (by assumption) | exact g_OpenStack (by assumption) | exact g_Formatting (by assumption) | exact g_Builder (by assumption) | exact g_is_space (by assumption) | exact g_above (by assumption) | exact g_is_html_turn (by assumption) | exact g_finish (by assumption) | exact g_place_for (by assumption) | exact g_insert_sign (by assumption) | exact g_insert_comment (by assumption) | exact g_make (by assumption) | exact g_insert_element (by assumption) | exact g_insert_token (by assumption) | exact g_insert_void (by assumption) | exact g_associate (by assumption) | exact g_is_space_token (by assumption) | exact g_is_start_of (by assumption) | exact g_is_end_of (by assumption) | exact g_refuse (by assumption) | exact g_back_to_body (by assumption) | exact g_after_body (by assumption) | exact g_is_at_root (by assumption) | exact g_close_frameset (by assumption) | exact g_in_frameset (by assumption) | exact g_after_frameset (by assumption) | exact g_is_of_body (by assumption) | exact g_after_after_body (by assumption) | exact g_after_after_frameset (by assumption) | exact g_end_rules (by assumption) | exact g_law_places (by assumption) | exact g_law_bases (by assumption) | exact g_law_rows (by assumption) | exact g_law_token (by assumption) | exact g_law_body (by assumption) | exact g_law_head (by assumption) | exact g_law_sort (by assumption) | exact g_law_put (by assumption) | exact g_law_grow (by assumption) | exact g_law_stop (by assumption) | exact g_law_body_due (by assumption) | exact g_law_refuse (by assumption) | exact g_law_leave (by assumption) | exact g_law_due (by assumption) | exact g_law_plain (by assumption) | exact g_law_scene (by assumption)))))
local macro_rules | `(tactic| walk_at "m.aok") => `(tactic| (first | (with_reducible (first | exact a489_rules (by assumption) | exact a489_tree (by assumption) | exact a489_stack (by assumption) | exact a489_formatting (by assumption) | exact a489_mode (by assumption) | exact a489_modes (by assumption) | exact a489_form (by assumption) | exact a489_owners (by assumption) | exact a489_is_frameset_ok (by assumption) | exact a489_is_foster (by assumption) | exact a489_context (by assumption) | exact a489_errors (by assumption) | exact a489_is_skipping (by assumption) | exact a489_is_acknowledged (by assumption) | exact a489_is_done (by assumption) | exact a411_kinds (by assumption) | exact a411_spaces (by assumption) | exact a411_names (by assumption) | exact a411_attrs (by assumption) | exact a411_texts (by assumption) | exact a411_parents (by assumption) | exact a411_children (by assumption) | exact a411_contents (by assumption) | exact a294_tree (by assumption) | exact a294_items (by assumption) | exact a133_items (by assumption)))))
local macro_rules | `(tactic| walk_at "m.sok") => `(tactic| (first | (with_reducible (first | exact s489_rules (by assumption) | exact s489_tree (by assumption) | exact s489_stack (by assumption) | exact s489_formatting (by assumption) | exact s489_mode (by assumption) | exact s489_original (by assumption) | exact s489_modes (by assumption) | exact s489_head (by assumption) | exact s489_form (by assumption) | exact s489_owners (by assumption) | exact s489_is_frameset_ok (by assumption) | exact s489_is_scripting (by assumption) | exact s489_is_foster (by assumption) | exact s489_context (by assumption) | exact s489_quirks (by assumption) | exact s489_errors (by assumption) | exact s489_pending (by assumption) | exact s489_wish (by assumption) | exact s489_is_skipping (by assumption) | exact s489_is_acknowledged (by assumption) | exact s489_is_done (by assumption) | exact s411_kinds (by assumption) | exact s411_spaces (by assumption) | exact s411_names (by assumption) | exact s411_attrs (by assumption) | exact s411_texts (by assumption) | exact s411_parents (by assumption) | exact s411_children (by assumption) | exact s411_contents (by assumption) | exact s294_tree (by assumption) | exact s294_items (by assumption) | exact s133_tree (by assumption) | exact s133_items (by assumption)))))
local macro_rules | `(tactic| walk_at "m.mok") => `(tactic| (first | (with_reducible (first | exact m294_push (by assumption) | exact m294_pop (by assumption) | exact m294_current (by assumption) | exact m294_many (by assumption) | exact m294_name (by assumption) | exact m411_add (by assumption) | exact m411_element (by assumption) | exact m411_text (by assumption) | exact m411_comment (by assumption) | exact m411_insert (by assumption) | exact m411_remove (by assumption) | exact m411_last (by assumption) | exact m489_error (by assumption) | exact m489_to (by assumption) | exact m489_use (by assumption) | exact m489_process (by assumption) | exact m489_feed (by assumption) | exact m489_adjusted (by assumption) | exact m489_is_foreign (by assumption)))))
local macro_rules | `(tactic| walk_at "m.name") => `(tactic| (first | ((with_reducible refine' TE_local ?a ?b ?c ?_); (case b => exact rfl); (case a => exact rfl); (case c => exact rfl)) | ((with_reducible refine' TE_global ?e ?b ?c ?_); (case b => exact rfl); (case e => (walk_at "m.galt")); (case c => exact rfl)) | ((with_reducible refine' TE_n_len ?f ?b ?_); (case f => assumption); (case b => exact rfl)) | ((with_reducible refine' TE_n_isinstance ?f ?b ?_); (case f => assumption); (case b => exact rfl)) | ((with_reducible refine' TE_n_str ?f ?b ?_); (case f => assumption); (case b => exact rfl)) | ((with_reducible refine' TE_n_list ?f ?b ?_); (case f => assumption); (case b => exact rfl)) | ((with_reducible refine' TE_n_range ?f ?b ?_); (case f => assumption); (case b => exact rfl)) | ((with_reducible refine' TE_cellvar ?a ?h ?b ?c ?_); (case b => exact rfl); (case a => exact rfl); (case h => (walk_at "m.cell")); (case c => exact rfl)) | ((with_reducible refine' TE_freevar ?a ?h ?b ?c ?g ?_); (case b => exact rfl); (case a => exact rfl); (case h => (walk_at "m.cell")); (case c => exact rfl); (case g => exact rfl)) | fail "name"))
local macro_rules | `(tactic| walk_at "m.obj") => `(tactic| (repeat' (first | (walk_at "m.name") | ((with_reducible refine' OP_attr ?hc ?ok ?hx ?nb ?_); (case hc => (walk_at "m.cell")); (case ok => (walk_at "m.aok")); (case hx => exact rfl); (case nb => exact trivial)) | ((with_reducible refine' TE_attr ?he ?_); (case he => exact fun _ => rfl)) | fail "obj")))
local macro_rules | `(tactic| walk_at "m.free") => `(tactic| (first | assumption | exact free_tmp (Nat.le_refl _) | exact free_of (by walk_at "m.cell2") (fun _ => nofun)))
local macro_rules | `(tactic| walk_at "m.keep") => `(tactic| ((repeat' (first | assumption | exact Keep.refl _ | (refine' Keep.put' ?_ rfl) | (refine' Keep.add' ?_ rfl) | (refine' Keep.tmp' ?_ (Nat.le_refl _)) | (refine' Keep.ptmp ?_ (by assumption)) | fail "keep")); done))
local macro_rules | `(tactic| walk_at "m.tt") => `(tactic| (first | assumption | exact ne_m1 _ | exact rfl | decide +kernel | exact str_ne (by assumption) | exact str_eb (by assumption) | exact pair_t (by assumption)))
local macro_rules | `(tactic| walk_at "m.ff") => `(tactic| (first | assumption | exact eq_m1 _ | exact Bool.false_ne_true | decide +kernel | exact str_nb (by assumption) | exact str_nn (by assumption) | exact pair_f (by assumption)))
local macro_rules | `(tactic| walk_at "m.run") => `(tactic| repeat' (first | ((with_reducible show TX _ _ _ _ _ _ _ _); first | (with_reducible refine' TS_nil ?_) | (with_reducible refine' TS_cons ?_) | (with_reducible refine' T1_if ?_) | (with_reducible refine' T1_ret ?_) | ((with_reducible refine' T1_ret_none ?he ?_); (case he => exact fun _ => rfl)) | ((with_reducible refine' T1_expr ?hw ?hi ?_); (case hw => exact fun _ => rfl); (case hi => exact rfl)) | ((with_reducible refine' T1_assign ?hw ?hk ?_); (case hk => exact rfl); (case hw => exact fun _ => rfl)) | ((with_reducible refine' T1_unpack2 ?hw ?hsw ?ha ?hb ?_); (case ha => exact rfl); (case hb => exact rfl); (case hw => exact fun _ => rfl); (case hsw => exact fun _ => rfl)) | ((with_reducible refine' T1_setattr ?hw ?_); (case hw => exact fun _ => rfl)) | ((with_reducible refine' T1_setitem ?hp ?hw ?_); (case hp => assumption); (case hw => exact fun _ => rfl)) | fail "s") | ((with_reducible show TG _ _ _ _ _ _ _ _ _); first | ((with_reducible show TE _ _ _ _ _ _ (.Name _ _) _); first | (first | ((with_reducible refine' TE_local ?a ?b ?c ?_); (case b => exact rfl); (case a => exact rfl); (case c => exact rfl)) | ((with_reducible refine' TE_global ?e ?b ?c ?_); (case b => exact rfl); (case e => (walk_at "m.galt")); (case c => exact rfl)) | ((with_reducible refine' TE_n_len ?f ?b ?_); (case f => assumption); (case b => exact rfl)) | ((with_reducible refine' TE_n_isinstance ?f ?b ?_); (case f => assumption); (case b => exact rfl)) | ((with_reducible refine' TE_n_str ?f ?b ?_); (case f => assumption); (case b => exact rfl)) | ((with_reducible refine' TE_n_list ?f ?b ?_); (case f => assumption); (case b => exact rfl)) | ((with_reducible refine' TE_n_range ?f ?b ?_); (case f => assumption); (case b => exact rfl)) | ((with_reducible refine' TE_cellvar ?a ?h ?b ?c ?_); (case b => exact rfl); (case a => exact rfl); (case h => (walk_at "m.cell")); (case c => exact rfl)) | ((with_reducible refine' TE_freevar ?a ?h ?b ?c ?g ?_); (case b => exact rfl); (case a => exact rfl); (case h => (walk_at "m.cell")); (case c => exact rfl); (case g => exact rfl)) | fail "name") | fail "e") | ((with_reducible show TE _ _ _ _ _ _ (.Constant _ _ _) _); first | (with_reducible refine' TE_str ?_) | (with_reducible refine' TE_int ?_) | (with_reducible refine' TE_none ?_) | (with_reducible refine' TE_bool ?_) | fail "e") | ((with_reducible show TE _ _ _ _ _ _ (.Attribute _ _ _) _); first | ((with_reducible refine' TE_attr ?he ?_); (case he => exact fun _ => rfl)) | fail "e") | ((with_reducible show TE _ _ _ _ _ _ (.Call _ _ _ _) _); first | ((with_reducible refine' TE_meth ?he ?ha ?_); (case he => exact fun _ => rfl); (case ha => exact fun _ => rfl); (walk_at "m.obj"); (refine' ⟨_, _, _, _, rfl, ?hc, ?hg, ?hm, ?_⟩); (case hc => (walk_at "m.cell")); (case hg => exact rfl); (case hm => (walk_at "m.mok"))) | ((with_reducible refine' TE_bmeth (name := Str.ofString "append") ?he ?ha PySem.F.slot_list_append PySem.F.plainAttrs_list PySem.F.type_list_append ?_); (case he => exact fun _ => rfl); (case ha => exact fun _ => rfl)) | ((with_reducible refine' TE_bmeth (name := Str.ofString "pop") ?he ?ha PySem.F.slot_list_pop PySem.F.plainAttrs_list PySem.F.type_list_pop ?_); (case he => exact fun _ => rfl); (case ha => exact fun _ => rfl)) | ((with_reducible refine' TE_bmeth (name := Str.ofString "insert") ?he ?ha PySem.F.slot_list_insert PySem.F.plainAttrs_list PySem.F.type_list_insert ?_); (case he => exact fun _ => rfl); (case ha => exact fun _ => rfl)) | ((with_reducible refine' TE_bmeth (name := Str.ofString "get") ?he ?ha PySem.F.slot_dict_get PySem.F.plainAttrs_dict PySem.F.type_dict_get ?_); (case he => exact fun _ => rfl); (case ha => exact fun _ => rfl)) | ((with_reducible refine' TE_bmeth (name := Str.ofString "split") ?he ?ha PySem.F.slot_str_split PySem.F.plainAttrs_str PySem.F.type_str_split ?_); (case he => exact fun _ => rfl); (case ha => exact fun _ => rfl)) | ((with_reducible refine' TE_bcall ?he ?ha ?_); (case he => exact fun _ => rfl); (case ha => exact fun _ => rfl); (walk_at "m.name"); refine ⟨_, rfl, ?_⟩) | ((with_reducible refine' TE_tcall ?he ?ha ?hb ?_); (case he => exact fun _ => rfl); (case ha => exact fun _ => rfl); (case hb => exact fun _ => rfl); (walk_at "m.name"); refine ⟨_, rfl, ?_⟩) | ((with_reducible refine' TE_call ?he ?ha ?_); (case he => exact fun _ => rfl); (case ha => exact fun _ => rfl); (walk_at "m.name"); (refine' ⟨_, rfl, ?k, ?_⟩); (case k => first | exact Facts.kp (by assumption) rfl | assumption)) | fail "e") | (with_reducible refine' TEs_nil ?_) | (with_reducible refine' TEs_cons ?_) | ((with_reducible refine' TE_cmp ?hb ?_); (case hb => exact rfl)) | (with_reducible refine' TE_bin ?_) | (with_reducible refine' TE_un ?_) | (with_reducible refine' TE_and ?_) | (with_reducible refine' TE_or ?_) | (with_reducible refine' TE_one ?_) | (with_reducible refine' TE_if ?_) | ((with_reducible refine' TE_two3 ?t ?_); (case t => exact fun _ _ => rfl)) | ((fail_if_success (with_reducible show TE _ _ _ _ _ _ (.Subscript _ (.Slice _ _ _ _) _) _)); (with_reducible refine' TE_sub ?_)) | ((with_reducible refine' TE_tuple ?ha ?hz ?_); (case ha => exact fun _ => rfl); (case hz => decide)) | (with_reducible refine' TEd_nil ?_) | (with_reducible refine' TEd_cons ?_) | (with_reducible refine' TB_not ?_) | (with_reducible refine' TB_and ?_) | (with_reducible refine' TB_and_nil ?_) | (with_reducible refine' TB_or ?_) | (with_reducible refine' TB_or_nil ?_) | ((with_reducible refine' TB_cmp ?hb ?_); (case hb => exact rfl)) | ((with_reducible refine' TB_plain ?hp ?_); (case hp => exact fun _ _ => rfl)) | fail "e") | ((with_reducible show OP1 _ _ _ _ _ _ _ _ _); first | ((with_reducible refine' OP_attr ?hc ?ok ?hx ?nb ?_); (case hc => (walk_at "m.cell")); (case ok => (walk_at "m.aok")); (case hx => exact rfl); (case nb => exact trivial)) | (with_reducible refine' OP_truth_bool ?_) | (with_reducible refine' OP_neg ?_) | fail "o1") | ((with_reducible show OP2 _ _ _ _ _ _ _ _ _ _); first | ((with_reducible refine' I_map ?hc ?hp ?hz ?hs ?_); (case hc => (walk_at "m.cell")); (case hp => assumption); (case hz => (walk_at "m.le")); (case hs => exact fun _ _ => rfl)) | ((with_reducible refine' I_range ?hc ?hp ?hz ?hs ?_); (case hc => (walk_at "m.cell")); (case hp => first | assumption | omega); (case hz => (walk_at "m.le")); (case hs => exact fun _ _ => rfl)) | (with_reducible refine' OP_eq_str ?_) | (with_reducible refine' OP_eq_int ?_) | (with_reducible refine' OP_ne_str ?_) | (with_reducible refine' OP_ne_int ?_) | ((with_reducible refine' OP_item_tup ?a ?b ?j ?x ?s ?_); (case a => decide); (case b => decide); (case j => exact rfl); (case x => exact rfl); (case s => exact fun _ _ => rfl)) | ((with_reducible refine' OP_in_empty ?hc ?_); (case hc => (walk_at "m.cell"))) | ((with_reducible refine' OP_item_dict2 ?hc ?hx ?hs ?_); (case hc => (walk_at "m.cell")); (case hx => exact rfl); (case hs => exact fun _ _ => rfl)) | ((with_reducible refine' OP_notin_dict ?hc ?_); (case hc => (walk_at "m.cell"))) | ((with_reducible refine' OP_in_strs' ?hx ?_); (case hx => exact rfl)) | ((with_reducible refine' OP_eq_pair ?oa ?ob ?oc ?oe ?_); (case oa => decide +kernel); (case ob => first | assumption | decide +kernel); (case oc => decide +kernel); (case oe => decide +kernel)) | ((with_reducible refine' OP_notin_strs ?hx ?_); (case hx => exact rfl)) | ((with_reducible refine' OP_setattr ?hpu ?hc ?ok ?hz ?_); (case hpu => assumption); (case hc => (walk_at "m.cell")); (case ok => (walk_at "m.sok")); (case hz => (walk_at "m.le"))) | (with_reducible refine' OP_lt_int ?_) | (with_reducible refine' OP_le_int ?_) | (with_reducible refine' OP_gt_int ?_) | (with_reducible refine' OP_add ?_) | (with_reducible refine' OP_sub ?_) | ((with_reducible refine' OP_item_last ?hc ?hz ?hx ?hs ?_); (case hc => (walk_at "m.cell")); (case hz => (walk_at "m.le")); (case hx => assumption); (case hs => exact fun _ _ => rfl)) | ((with_reducible refine' OP_item_list ?hc ?a ?b ?x ?s ?_); (case hc => (walk_at "m.cell")); (case a => decide); (case b => decide); (case x => exact rfl); (case s => exact fun _ _ => rfl)) | fail "o2") | ((with_reducible show OPs _ _ _ _ _ _ _ _ _); first | ((with_reducible refine' B_len_list ?a ?b ?_); (case a => (walk_at "m.cell")); (case b => (walk_at "m.le"))) | ((with_reducible refine' B_append ?hpu ?a ?b ?_); (case hpu => assumption); (case a => (walk_at "m.cell")); (case b => (walk_at "m.le"))) | ((with_reducible refine' B_len_tup ?b ?_); (case b => (walk_at "m.le"))) | ((with_reducible refine' B_get3 ?hc ?hx ?_); (case hc => (walk_at "m.cell")); (case hx => first | assumption | exact rfl)) | ((with_reducible refine' B_get4 ?hc ?hx ?_); (case hc => (walk_at "m.cell")); (case hx => first | assumption | exact rfl)) | fail "p") | ((with_reducible show thenS _ _ _ _ _ _ FV.next _ _); show TS _ _ _ _ _ _ _ _) | (with_reducible refine' thenS_ret ?_) | (with_reducible refine' backS_ret ?_) | (with_reducible refine' backS_next ?_) | (with_reducible refine' loopS_ret ?_) | (with_reducible refine' loopS_next ?_) | (with_reducible refine' thenS_brk ?_) | (with_reducible refine' thenS_cont ?_) | (with_reducible refine' loopS_brk ?_) | (with_reducible refine' loopS_cont ?_) | ((with_reducible show Exists _); first | refine ⟨_, _, _, rfl, rfl, ?_⟩ | refine ⟨_, _, rfl, ?_⟩ | refine ⟨_, rfl, ?_⟩) | ((with_reducible show V.isTy _ _ _ ∧ _); (refine' And.intro (Or.inl ⟨_, ?a, rfl⟩) ?_); (case a => (walk_at "m.cell"))) | ((with_reducible show V.isTy _ (V.str _) _ ∧ _); (refine' And.intro rfl ?_)) | ((with_reducible show V.isTy _ _ _ ∧ _); (refine' And.intro (Or.inr ⟨_, ?a, rfl⟩) ?_); (case a => (walk_at "m.cell"))) | ((with_reducible show _ ∧ _); (refine' And.intro ?a ?_); (case a => first | exact Nat.le_of_ble_eq_true rfl | exact rfl)) | ((with_reducible refine' ite_pos ?a ?_); (case a => (walk_at "m.tt"))) | ((with_reducible refine' ite_neg ?a ?_); (case a => (walk_at "m.ff"))) | fail "stop"))
def spaces2 : List Str := ["\r", "\n", "\x0c", "\t", " "]
def Tk.sort : Tk → Str
  | .ch c => if spaces2.any (· == c) = true then "space" else "sign"
  | .start n _ _ => ("start" : Str) ++ " " ++ n
  | .fin n => ("end" : Str) ++ " " ++ n
  | .com _ => "comment"
  | .doc => "doctype"
  | .eof => "eof"
theorem start_len {n : Str} (h : n ∈ startsL) : n.length ≤ 10 := of_decide_eq_true (all_of (p := fun n => decide (n.length ≤ 10)) (by decide +kernel : startsL.all _ = true) h)
theorem end_len {n : Str} (h : n ∈ endsL) : n.length ≤ 10 := of_decide_eq_true (all_of (p := fun n => decide (n.length ≤ 10)) (by decide +kernel : endsL.all _ = true) h)
theorem Tk.word2 {t : Tk} : True := trivial
section
variable {M : Amb} {d : Nat} {cl : List (Str × Loc)} {ml : List (Str × V)} {H : MH}
theorem w_law_sort (F : Facts M.K) {t : Tk} (ht : t.ok) {Q : V → MH → Prop} (h : Q (.str t.sort) H) : CALL M (d + 1) cl ml H 722 [tkV t] Q := by
  refine CALL_go (at_law_sort F) b_law_sort rfl rfl rfl ?_
  cases t with
  | ch c =>
    simp only [tkV]
    by_cases e : spaces2.any (· == c) = true
    · have hq : Tk.sort (.ch c) = "space" := if_pos e
      rw [hq] at h
      walk_at "m.run"
      exact h
    · have hq : Tk.sort (.ch c) = "sign" := if_neg e
      rw [hq] at h
      walk_at "m.run"
      exact h
  | start n a s =>
    have hl := start_len ht.1
    simp only [tkV]
    walk_at "m.run"
    refine OP_add_str (by decide) ?_
    walk_at "m.run"
    refine OP_add_str (by rw [str_len]; have : (Str.ofString "start").length = 5 := by decide
                          have : (Str.ofString " ").length = 1 := by decide
                          omega) ?_
    walk_at "m.run"
    exact h
  | fin n =>
    have hl := end_len ht
    simp only [tkV]
    walk_at "m.run"
    refine OP_add_str (by decide) ?_
    walk_at "m.run"
    refine OP_add_str (by rw [str_len]; have : (Str.ofString "end").length = 3 := by decide
                          have : (Str.ofString " ").length = 1 := by decide
                          omega) ?_
    walk_at "m.run"
    exact h
  | com c =>
    simp only [tkV]
    walk_at "m.run"
    exact h
  | doc =>
    simp only [tkV]
    walk_at "m.run"
    exact h
  | eof =>
    simp only [tkV]
    walk_at "m.run"
    exact h
theorem w_law_stop (hpu : M.pu = false) (F : Facts M.K) {k : Nat} {σ : St} (L : LK k H σ) {Q : V → MH → Prop} (h : ∀ H' k', LK k' H' (stopN σ) → Keep Loc.isL H H' → Q .none H') : CALL M (d + 1) cl ml H 743 [.cell .state] Q := by
  refine CALL_go (at_law_stop F) b_law_stop rfl rfl rfl ?_
  walk_at "m.run"
  refine TE_list (l := .tmp H.nx) (fun _ => rfl) ?_
  walk_at "m.run"
  refine ⟨by walk_at "m.free", ?_⟩
  walk_at "m.run"
  refine ⟨_, Stored.dict (by walk_at "m.cell") (Nat.le_of_ble_eq_true rfl), ?_⟩
  have L1 := L.path (j := H.nx) (H1 := H.add (.tmp H.nx) (.list [])) (st := []) (by walk_at "m.keep") (fun l hl => add_other (fun e => by subst e; cases hl) rfl) (by show H.nx < max _ _; omega) add_same
  have k1 : Keep Loc.isL H ((H.add (.tmp H.nx) (.list [])).put .state (.dict (putE (stD (.tmp k) σ) "path" (.cell (.tmp H.nx))))) := by walk_at "m.keep"
  generalize (H.add (.tmp H.nx) (.list [])).put .state (.dict (putE (stD (.tmp k) σ) "path" (.cell (.tmp H.nx)))) = H1 at *
  walk_at "m.run"
  refine ⟨_, Stored.dict (by walk_at "m.cell") (Nat.le_of_ble_eq_true rfl), ?_⟩
  walk_at "m.run"
  exact h _ _ (L1.done true) (k1.put' rfl)
end
theorem LK.atmp {k j : Nat} {H : MH} {σ : St} {x : Cell} (L : LK k H σ) (hj : H.nx ≤ j) : LK k (H.add (.tmp j) x) σ :=
  L.same rfl rfl (Nat.lt_of_lt_of_le L.lt (le_bump (.tmp j) H.nx)) (add_other (fun e => by have := L.lt; cases e; omega) L.pa) (add_other (by intro e; cases e) L.state) (add_other (by intro e; cases e) L.notes) fun l hl _ _ => add_other (fun e => by subst e; cases hl) rfl
theorem LK.none_at {k : Nat} {H : MH} {σ : St} (L : LK k H σ) : H.c (.lnode σ.nodes.length) = none ∧ H.c (.latt σ.nodes.length) = none ∧ H.c (.lkid σ.nodes.length) = none := by
  have e : isEl σ σ.nodes.length = none := by unfold isEl; rw [List.getElem?_eq_none (Nat.le_refl _)]
  refine ⟨(L.ls _ rfl).trans ?_, (L.ls _ rfl).trans ?_, (L.ls _ rfl).trans ?_⟩ <;> (show Option.map _ _ = _; rw [e]; rfl)
/-- what a refusal may meet -/
def Tk.refu : Tk → Prop
  | .com _ => False
  | .eof => False
  | _ => True
section
variable {M : Amb} {d : Nat} {cl : List (Str × Loc)} {ml : List (Str × V)} {H : MH}
theorem w_law_refuse (hpu : M.pu = false) (F : Facts M.K) {k : Nat} {σ : St} (L : LK k H σ) (hz : σ.errs.length ≤ 900) {t : Tk} (hr : t.refu) {Q : V → MH → Prop} (h : ∀ H', LK k H' (refN σ t) → Keep Loc.isL H H' → Q .none H') : CALL M (d + 1) cl ml H 757 [.cell .state, tkV t] Q := by
  refine CALL_go (at_law_refuse F) b_law_refuse rfl rfl rfl ?_
  walk_at "m.run"
  refine TE_dict (l := .tmp H.nx) rfl rfl rfl (by simp) (by decide) ?_
  walk_at "m.run"
  refine ⟨by decide +kernel, by walk_at "m.free", ?_⟩
  have L1 : LK k (H.add (.tmp H.nx) (.dict [("char", .str "unexpected-text"), ("doctype", .str "unexpected-doctype")])) σ :=
    L.atmp (Nat.le_refl _)
  have k1 : Keep Loc.isL H (H.add (.tmp H.nx) (.dict [("char", .str "unexpected-text"), ("doctype", .str "unexpected-doctype")])) := by walk_at "m.keep"
  have hw : (H.add (.tmp H.nx) (.dict [("char", .str "unexpected-text"), ("doctype", .str "unexpected-doctype")])).c (.tmp H.nx) = some (.dict [("char", .str "unexpected-text"), ("doctype", .str "unexpected-doctype")]) := add_same
  generalize H.add (.tmp H.nx) (.dict [("char", .str "unexpected-text"), ("doctype", .str "unexpected-doctype")]) = H1 at *
  cases t with
  | com c => exact hr.elim
  | eof => exact hr.elim
  | ch c =>
    simp only [tkV]
    walk_at "m.run"
    refine OP_add_str (by decide) ?_
    walk_at "m.run"
    refine OP_add_str (by decide +kernel) ?_
    walk_at "m.run"
    exact h _ (L1.err _) (k1.put' rfl)
  | doc =>
    simp only [tkV]
    walk_at "m.run"
    refine OP_add_str (by decide) ?_
    walk_at "m.run"
    refine OP_add_str (by decide +kernel) ?_
    walk_at "m.run"
    exact h _ (L1.err _) (k1.put' rfl)
  | start n a s =>
    simp only [tkV]
    walk_at "m.run"
    refine OP_add_str (by decide) ?_
    walk_at "m.run"
    refine OP_add_str (by decide +kernel) ?_
    walk_at "m.run"
    exact h _ (L1.err _) (k1.put' rfl)
  | fin n =>
    simp only [tkV]
    walk_at "m.run"
    refine OP_add_str (by decide) ?_
    walk_at "m.run"
    refine OP_add_str (by decide +kernel) ?_
    walk_at "m.run"
    exact h _ (L1.err _) (k1.put' rfl)
end
theorem LK.ptmp {k j : Nat} {H : MH} {σ : St} {x : Cell} (L : LK k H σ) (hj : j ≠ k) : LK k (H.put (.tmp j) x) σ :=
  L.same rfl rfl L.lt (put_other (fun e => hj (Loc.tmp.inj e).symm) L.pa) (put_other (by intro e; cases e) L.state) (put_other (by intro e; cases e) L.notes) fun l hl _ _ => put_other (fun e => by subst e; cases hl) rfl
/-- a sign or a comment joins the kids -/
theorem LK.leaf {N E k : Nat} {H : MH} {σ : St} (w : WF N E σ) (L : LK k H σ) {nd x : Nd} {p : Nat} (hp : isEl σ p = some x) (hk : nd.kind ≠ "element") (hk2 : nd.kind ≠ "document") {v : V} (hv : ∀ ns : List Nd, ∀ i, ns[i]? = some { nd with par := p } → kidV ns i = v) :
    LK k (H.put (.lkid p) (.list (x.kids.map (kidV σ.nodes) ++ [v]))) (insN σ nd p) := by
  have hpl := lt_of_get (isEl_get hp).1
  have e : isEl (insN σ nd p) σ.nodes.length = none := by
    unfold isEl
    rw [insN_new]
    exact if_neg fun h => h.1.elim hk hk2
  have n0 := L.none_at
  refine L.ins w.kd hp hpl ?_ ?_ ?_ ?_ L.lt (put_other (by intro e; cases e) rfl) fun l _ a _ _ _ => put_other a rfl
  · rw [put_same, hv _ _ insN_new]
  · rw [put_other (by intro e; cases e) n0.1]; show none = Option.map _ _; rw [e]; rfl
  · rw [put_other (by intro e; cases e) n0.2.1]; show none = Option.map _ _; rw [e]; rfl
  · rw [put_other (fun e => by cases e; omega) n0.2.2]; show none = Option.map _ _; rw [e]; rfl
section
variable {M : Amb} {d : Nat} {cl : List (Str × Loc)} {ml : List (Str × V)} {H : MH}
theorem w_law_put (hpu : M.pu = false) (F : Facts M.K) {N E k : Nat} {σ : St} (w : WF N E σ) (hN : N ≤ 800) (L : LK k H σ) {x : Nd} {p : Nat} (hp : isEl σ p = some x) {c : Str} (hc : c.length ≤ 10) {Q : V → MH → Prop} (h : ∀ H', LK k H' (signN σ p x c) → Keep Loc.isL H H' → Q .none H') : CALL M (d + 1) cl ml H 729 [lnV p, .str c] Q := by
  refine CALL_go (at_law_put F) b_law_put rfl rfl rfl ?_
  have hnode := L.node hp
  have hkid := L.kid hp
  have o := w.nd p x (isEl_get hp).1
  have hkl := o.kl
  have hleaf : LK k (H.put (.lkid p) (.list (x.kids.map (kidV σ.nodes) ++ [.str c]))) (insN σ (txtN c) p) := L.leaf w hp (by show ("text" : Str) ≠ "element"; decide) (by show ("text" : Str) ≠ "document"; decide) fun ns i e => by unfold kidV; rw [e]; exact if_pos rfl
  walk_at "m.run"
  rcases List.eq_nil_or_concat x.kids with e | ⟨l, j, e⟩
  · have hq : signN σ p x c = insN σ (txtN c) p := by unfold signN; rw [e]; rfl
    rw [hq] at h
    refine ite_neg (by rw [e]; simp) ?_
    walk_at "m.run"
    exact h _ hleaf (Keep.put rfl)
  · have e : x.kids = l ++ [j] := e.trans (List.concat_eq_append ..)
    obtain ⟨y, hy, _, hyc, hyk⟩ := o.kid j (by rw [e]; simp)
    refine ite_pos (by rw [e]; simp <;> omega) ?_
    have hlast : (x.kids.map (kidV σ.nodes)).getLast? = some (kidV σ.nodes j) := by rw [e]; simp
    walk_at "m.run"
    by_cases e2 : y.kind = "text"
    · have hq : signN σ p x c = setText σ j c := by unfold signN; rw [e, List.getLast?_concat]; simp only [hy, if_pos e2]
      rw [hq] at h
      have hkv : kidV σ.nodes j = .str y.text := by unfold kidV; rw [hy]; exact if_pos e2
      have hty := (w.nd j y hy).tl
      rw [hkv] at hlast ⊢
      refine B_isstr (b := true) rfl (by intro l e; cases e) ?_
      walk_at "m.run"
      refine OP_add_str (by omega) ?_
      walk_at "m.run"
      have hkid2 : H.c (.lkid p) = some (.list (l.map (kidV σ.nodes) ++ [.str y.text])) := by rw [hkid, e, List.map_append, List.map_cons, List.map_nil, hkv]
      refine ⟨_, Stored.last hkid2, ?_⟩
      walk_at "m.run"
      exact h _ (L.setText w hp e hy e2 c) (Keep.put rfl)
    · have hq : signN σ p x c = insN σ (txtN c) p := by unfold signN; rw [e, List.getLast?_concat]; simp only [hy, if_neg e2]
      rw [hq] at h
      refine B_isstr (b := false) ?_ ?_ ?_
      · unfold kidV; rw [hy]; simp only [if_neg e2]; split <;> rfl
      · intro l' hl'
        rcases hyk with q | q | q
        · have hj := isEl_of hy (.inl q) hyc
          unfold kidV at hl'
          rw [hy] at hl'
          simp only [if_neg e2] at hl'
          split at hl'
          · cases hl'
          · cases hl'; exact ⟨_, L.node hj⟩
        · exact absurd q e2
        · unfold kidV at hl'
          rw [hy] at hl'
          simp only [if_neg e2, if_pos q] at hl'
          cases hl'
      walk_at "m.run"
      exact h _ hleaf (Keep.put rfl)
theorem w_law_grow0 (hpu : M.pu = false) (F : Facts M.K) {N k : Nat} {σ : St} (h2 : σ.stack.length ≤ N) (kd : KidOK σ) (hc : (σ.nodes.length : Int) ≠ σ.ctx) (hN : N ≤ 800) (L : LK k H σ) {x : Nd} (hp : isEl σ (curP σ.stack) = some x) (hkl : x.kids.length ≤ N) {name : Str} {attrs : List V} (ha : attrs.length ≤ 900) {keeps : Bool} {Q : V → MH → Prop}
    (h : ∀ H' k', LK k' H' (if keeps = true then growN σ name attrs else insN σ (elN name attrs) (curP σ.stack)) → Keep Loc.isL H H' → Q .none H') : CALL M (d + 1) cl ml H 736 [.cell .state, .str name, .tup attrs, .bool keeps] Q := by
  refine CALL_go (at_law_grow F) b_law_grow rfl rfl rfl ?_
  have n0 := L.none_at
  have hnode := L.node hp
  have hkid := L.kid hp
  have hpl := lt_of_get (isEl_get hp).1
  walk_at "m.run"
  refine TE_list (l := .lnode σ.nodes.length) (fun _ => rfl) ?_
  walk_at "m.run"
  refine B_list_copy (l := .latt σ.nodes.length) (free_of n0.2.1 (fun _ => nofun)) (by omega) ?_
  walk_at "m.run"
  refine TE_list (l := .lkid σ.nodes.length) (fun _ => rfl) ?_
  walk_at "m.run"
  refine ⟨free_of (add_other (by intro e; cases e) n0.2.2) (fun _ => nofun), ?_⟩
  walk_at "m.run"
  refine ⟨free_of (add_other (by intro e; cases e) (add_other (by intro e; cases e) n0.1)) (fun _ => nofun), ?_⟩
  -- the new node's cells
  have c1 : (((H.add (.latt σ.nodes.length) (.list attrs)).add (.lkid σ.nodes.length) (.list [])).add (.lnode σ.nodes.length) (.list [.str name, .cell (.latt σ.nodes.length), .cell (.lkid σ.nodes.length)])).c (.lnode σ.nodes.length) = some (.list [.str name, .cell (.latt σ.nodes.length), .cell (.lkid σ.nodes.length)]) := add_same
  have c2 : (((H.add (.latt σ.nodes.length) (.list attrs)).add (.lkid σ.nodes.length) (.list [])).add (.lnode σ.nodes.length) (.list [.str name, .cell (.latt σ.nodes.length), .cell (.lkid σ.nodes.length)])).c (.latt σ.nodes.length) = some (.list attrs) := add_other (by intro e; cases e) (add_other (by intro e; cases e) add_same)
  have c3 : (((H.add (.latt σ.nodes.length) (.list attrs)).add (.lkid σ.nodes.length) (.list [])).add (.lnode σ.nodes.length) (.list [.str name, .cell (.latt σ.nodes.length), .cell (.lkid σ.nodes.length)])).c (.lkid σ.nodes.length) = some (.list []) := add_other (by intro e; cases e) add_same
  have c4 : ∀ l, l ≠ .lnode σ.nodes.length → l ≠ .latt σ.nodes.length → l ≠ .lkid σ.nodes.length → (((H.add (.latt σ.nodes.length) (.list attrs)).add (.lkid σ.nodes.length) (.list [])).add (.lnode σ.nodes.length) (.list [.str name, .cell (.latt σ.nodes.length), .cell (.lkid σ.nodes.length)])).c l = H.c l := fun l a b c => add_other a (add_other c (add_other b rfl))
  have c5 : (((H.add (.latt σ.nodes.length) (.list attrs)).add (.lkid σ.nodes.length) (.list [])).add (.lnode σ.nodes.length) (.list [.str name, .cell (.latt σ.nodes.length), .cell (.lkid σ.nodes.length)])).nx = H.nx := rfl
  have c6 : Keep Loc.isL H (((H.add (.latt σ.nodes.length) (.list attrs)).add (.lkid σ.nodes.length) (.list [])).add (.lnode σ.nodes.length) (.list [.str name, .cell (.latt σ.nodes.length), .cell (.lkid σ.nodes.length)])) := by walk_at "m.keep"
  generalize ((H.add (.latt σ.nodes.length) (.list attrs)).add (.lkid σ.nodes.length) (.list [])).add (.lnode σ.nodes.length) (.list [.str name, .cell (.latt σ.nodes.length), .cell (.lkid σ.nodes.length)]) = H1 at *
  have hst : H1.c .state = some (.dict (stD (.tmp k) σ)) := (c4 _ (by intro e; cases e) (by intro e; cases e) (by intro e; cases e)).trans L.state
  have hpa : H1.c (.tmp k) = some (.list (σ.stack.map lnV)) := (c4 _ (by intro e; cases e) (by intro e; cases e) (by intro e; cases e)).trans L.pa
  have hnode : H1.c (.lnode (curP σ.stack)) = some (.list [.str x.name, .cell (.latt (curP σ.stack)), .cell (.lkid (curP σ.stack))]) := (c4 _ (fun e => by have := Loc.lnode.inj e; omega) (by intro e; cases e) (by intro e; cases e)).trans hnode
  have hkid : H1.c (.lkid (curP σ.stack)) = some (.list (x.kids.map (kidV σ.nodes))) := (c4 _ (by intro e; cases e) (by intro e; cases e) (fun e => by have := Loc.lkid.inj e; omega)).trans hkid
  -- the last open element takes it
  have L2 : LK k (H1.put (.lkid (curP σ.stack)) (.list (x.kids.map (kidV σ.nodes) ++ [lnV σ.nodes.length]))) (insN σ (elN name attrs) (curP σ.stack)) := by
    have ie : isEl (insN σ (elN name attrs) (curP σ.stack)) σ.nodes.length = some { elN name attrs with par := curP σ.stack } := isEl_of insN_new (.inl rfl) hc
    refine L.ins kd hp hpl ?_ ?_ ?_ ?_ ?_ ?_ ?_
    · rw [put_same]
      have : kidV (insN σ (elN name attrs) (curP σ.stack)).nodes σ.nodes.length = lnV σ.nodes.length := by
        unfold kidV; rw [insN_new]; exact (if_neg (by show ¬ ("element" : Str) = "text"; decide)).trans (if_neg (by show ¬ ("element" : Str) = "comment"; decide))
      rw [this]
    · rw [put_other (by intro e; cases e) c1]; show _ = Option.map _ _; rw [ie]; rfl
    · rw [put_other (by intro e; cases e) c2]; show _ = Option.map _ _; rw [ie]; rfl
    · rw [put_other (fun e => by have := Loc.lkid.inj e; omega) c3]; show _ = Option.map _ _; rw [ie]; rfl
    · show k < H1.nx; rw [c5]; exact L.lt
    · rw [put_other (by intro e; cases e) hpa, L.pa]
    · intro l _ a b c dd
      rw [put_other a rfl, c4 l b c dd]
  have k2 : Keep Loc.isL H (H1.put (.lkid (curP σ.stack)) (.list (x.kids.map (kidV σ.nodes) ++ [lnV σ.nodes.length]))) := c6.put' rfl
  walk_at "m.run"
  rcases List.eq_nil_or_concat σ.stack with e | ⟨l, n, e⟩
  · refine ite_neg (by rw [e]; simp) ?_
    have hcp : curP σ.stack = 0 := by rw [e]; rfl
    walk_at "m.run"
    rw [show V.cell (Loc.lnode 0) = lnV (curP σ.stack) from by rw [hcp]]
    walk_at "m.run"
    revert L2 k2
    generalize H1.put (.lkid (curP σ.stack)) (.list (x.kids.map (kidV σ.nodes) ++ [lnV σ.nodes.length])) = H2
    intro L2 k2
    cases keeps with
    | false =>
      walk_at "m.run"
      exact h _ _ L2 k2
    | true =>
      walk_at "m.run"
      refine TE_list (l := .tmp H2.nx) (fun _ => rfl) ?_
      walk_at "m.run"
      refine ⟨by walk_at "m.free", ?_⟩
      walk_at "m.run"
      refine OP_cat (l := .tmp (H2.nx + 1)) (xs := σ.stack.map lnV) (ys := [lnV σ.nodes.length]) (add_other (fun e => by have := L2.lt; have := Loc.tmp.inj e; omega) L2.pa) add_same (free_tmp (by show max _ _ ≤ _; omega)) (by simp; omega) ?_
      walk_at "m.run"
      refine ⟨_, Stored.dict (add_other (by intro e; cases e) (add_other (by intro e; cases e) L2.state)) (Nat.le_of_ble_eq_true rfl), ?_⟩
      have k4 : Keep Loc.isL H ((H2.add (.tmp H2.nx) (.list [lnV σ.nodes.length])).add (.tmp (H2.nx + 1)) (.list (σ.stack.map lnV ++ [lnV σ.nodes.length]))) := (k2.tmp' (Nat.le_refl _)).tmp' (by show max _ _ ≤ _; omega)
      have L4 := L2.path (j := H2.nx + 1) (H1 := (H2.add (.tmp H2.nx) (.list [lnV σ.nodes.length])).add (.tmp (H2.nx + 1)) (.list (σ.stack.map lnV ++ [lnV σ.nodes.length]))) (st := σ.stack ++ [σ.nodes.length]) ((Keep.refl _).tmp' (Nat.le_refl _) |>.tmp' (by show max _ _ ≤ _; omega))
        (fun l hl => add_other (fun e => by subst e; cases hl) (add_other (fun e => by subst e; cases hl) rfl)) (by show _ < max _ _; omega) (by rw [add_same, List.map_append]; rfl)
      walk_at "m.run"
      exact h _ _ L4 (k4.put' rfl)
  · have e : σ.stack = l ++ [n] := e.trans (List.concat_eq_append ..)
    refine ite_pos (by rw [e]; simp <;> omega) ?_
    have hcp : curP σ.stack = n := by rw [e, curP_snoc]
    have hlast : (σ.stack.map lnV).getLast? = some (lnV (curP σ.stack)) := by rw [hcp, e]; simp
    walk_at "m.run"
    revert L2 k2
    generalize H1.put (.lkid (curP σ.stack)) (.list (x.kids.map (kidV σ.nodes) ++ [lnV σ.nodes.length])) = H2
    intro L2 k2
    cases keeps with
    | false =>
      walk_at "m.run"
      exact h _ _ L2 k2
    | true =>
      walk_at "m.run"
      refine TE_list (l := .tmp H2.nx) (fun _ => rfl) ?_
      walk_at "m.run"
      refine ⟨by walk_at "m.free", ?_⟩
      walk_at "m.run"
      refine OP_cat (l := .tmp (H2.nx + 1)) (xs := σ.stack.map lnV) (ys := [lnV σ.nodes.length]) (add_other (fun e => by have := L2.lt; have := Loc.tmp.inj e; omega) L2.pa) add_same (free_tmp (by show max _ _ ≤ _; omega)) (by simp; omega) ?_
      walk_at "m.run"
      refine ⟨_, Stored.dict (add_other (by intro e; cases e) (add_other (by intro e; cases e) L2.state)) (Nat.le_of_ble_eq_true rfl), ?_⟩
      have k4 : Keep Loc.isL H ((H2.add (.tmp H2.nx) (.list [lnV σ.nodes.length])).add (.tmp (H2.nx + 1)) (.list (σ.stack.map lnV ++ [lnV σ.nodes.length]))) := (k2.tmp' (Nat.le_refl _)).tmp' (by show max _ _ ≤ _; omega)
      have L4 := L2.path (j := H2.nx + 1) (H1 := (H2.add (.tmp H2.nx) (.list [lnV σ.nodes.length])).add (.tmp (H2.nx + 1)) (.list (σ.stack.map lnV ++ [lnV σ.nodes.length]))) (st := σ.stack ++ [σ.nodes.length]) ((Keep.refl _).tmp' (Nat.le_refl _) |>.tmp' (by show max _ _ ≤ _; omega))
        (fun l hl => add_other (fun e => by subst e; cases hl) (add_other (fun e => by subst e; cases hl) rfl)) (by show _ < max _ _; omega) (by rw [add_same, List.map_append]; rfl)
      walk_at "m.run"
      exact h _ _ L4 (k4.put' rfl)
theorem w_law_grow (hpu : M.pu = false) (F : Facts M.K) {N E k : Nat} {σ : St} (w : WF N E σ) (hN : N ≤ 800) (L : LK k H σ) {x : Nd} (hp : isEl σ (curP σ.stack) = some x) {name : Str} {attrs : List V} (ha : attrs.length ≤ 900) {keeps : Bool} {Q : V → MH → Prop}
    (h : ∀ H' k', LK k' H' (if keeps = true then growN σ name attrs else insN σ (elN name attrs) (curP σ.stack)) → Keep Loc.isL H H' → Q .none H') : CALL M (d + 1) cl ml H 736 [.cell .state, .str name, .tup attrs, .bool keeps] Q :=
  w_law_grow0 hpu F w.zs w.kd w.nc hN L hp (w.nd _ x (isEl_get hp).1).kl ha h
end
section
variable {M : Amb} {d : Nat} {sc : Scope} {cl : List (Str × Loc)} {ml : List (Str × V)} {H : MH}
/-- all but the last, of any list -/
theorem TE_butlast2 {value upper : Expr} {p pos : Pos} {l : Loc} {Q : V → MH → Prop}
    (h : TE M d sc cl ml H value fun o H1 => TE M d sc cl ml H1 upper fun i H2 => ∃ l₁ xs, o = .cell l₁ ∧ i = .int (-1) ∧ H2.c l₁ = some (.list xs) ∧ xs.length ≤ 1000 ∧ H2.free l ∧ Q (.cell l) (H2.add l (.list xs.dropLast))) :
    TE M d sc cl ml H (.Subscript value (.Slice none (some upper) none p) pos) Q := by
  intro A base h₀ outer fenv env L m mm s wd Qm hs c k
  refine Subscript_ (h hs c fun o o' H1 w1 h1 t1 q1 x1 r1 c1 => wpAny_Slice (evalPart_none_step (evalPart_some_step (q1 hs c1 fun i i' H2 w2 h2 t2 q2 x2 r2 c2 => ?_))))
  obtain ⟨l₁, xs, rfl, rfl, hc, hz, hf, hq⟩ := q2
  obtain ⟨a, vs, n, rfl, e1, e2, e3, e4, e5⟩ := isList_of c2 hc (r1.ext _ x2)
  obtain ⟨t9, rfl⟩ : ∃ t, i' = .int (-1) t := by cases r2; exact ⟨_, rfl⟩
  rw [evalPart_none]
  have hp : slicePick vs.toArray none (some (-1)) none = vs.dropLast.toArray := by
    rw [kms_pick_eq]
    unfold kms_pick kms_lo kms_hi
    simp [List.dropLast_eq_take]
  have rd : VRs M.K w2 xs.dropLast vs.dropLast := by
    rw [List.dropLast_eq_take, List.dropLast_eq_take, e5]; exact e3.take _ _
  have F2 := c2.F.push { cls := .type "slice", data := .fields #[Value.none, Value.int (-1) t9, Value.none] }
  have N2 := News.push F2 (c2.N.grown fun _ _ e => Heap.get?_push_of_some _ e) (listOf vs.dropLast.toArray 0)
  rw [Heap.size_push] at N2
  obtain ⟨E, R, C⟩ := new_list (tk := t2) (n := 0) c2 hf rd (F2.push _) N2 fun p hp => Nat.lt_succ_of_lt (Heap.lt_size (c2.N p hp).1)
  refine wpAny_pure (tail_any (T := "list") (e4.push _).typeIs slot_list_getitem.lookup (wpAny_getItem_list_slice (e4.push _) (Heap.IsSliceOf.new ..) .none (.int _ _) .none (by simp) ?_ (by rw [List.size_toArray, e5]; exact Nat.le_trans hz (by decide))) rfl)
  rw [hp, Heap.size_push]
  exact k _ _ _ _ _ t2 hq ((x1.trans x2).trans E) R C
end
theorem WF.curEl {N E : Nat} {σ : St} (w : WF N E σ) (h : σ.stack ≠ []) : ∃ x : Nd, isEl σ (curP σ.stack) = some x := by
  obtain ⟨x, hx, _, h1, _, h3, _⟩ := w.cur' h
  exact ⟨x, isEl_of hx (.inl h1) h3⟩
theorem last_cur {l : List Nat} (h : l ≠ []) : (l.map lnV).getLast? = some (lnV (curP l)) := by
  obtain ⟨n, e⟩ := getLast_dropLast h
  rw [e, curP_snoc]; simp
section
variable {M : Amb} {d : Nat} {cl : List (Str × Loc)} {ml : List (Str × V)} {H : MH}
theorem w_law_leave (hpu : M.pu = false) (F : Facts M.K) {N E k : Nat} {σ : St} (w : WF N E σ) (hN : N ≤ 800) (hE : E ≤ 800) (L : LK k H σ) (hne : σ.stack ≠ []) {t : Tk} (hr : t.refu) {Q : V → MH → Prop}
    (h : ∀ H' k', LK k' H' (leaveN σ t) → Keep Loc.isL H H' → Q .none H') : CALL M (d + 2) cl ml H 764 [.cell .state, tkV t] Q := by
  refine CALL_go (at_law_leave F) b_law_leave rfl rfl rfl ?_
  have h2 := w.zs
  have h3 := w.ze
  unfold leaveN at h
  walk_at "m.run"
  by_cases e : decide ((σ.stack.length : Int) ≤ 1) = true
  · rw [if_pos e] at h
    have hl1 : σ.stack.length = 1 := by
      have := List.length_pos_iff.mpr hne
      have := of_decide_eq_true e
      omega
    refine ite_pos (by simp [hl1]) ?_
    walk_at "m.run"
    refine w_law_refuse hpu F L (by omega) hr fun H1 L1 k1 => ?_
    walk_at "m.run"
    exact h _ _ L1 k1
  · rw [if_neg e] at h
    have hl1 : ¬ σ.stack.length = 1 := fun q => e (by rw [q]; rfl)
    refine ite_neg (by simp <;> omega) ?_
    walk_at "m.run"
    refine TE_butlast2 (l := .tmp H.nx) ?_
    walk_at "m.run"
    refine ⟨.tmp k, σ.stack.map lnV, rfl, rfl, L.pa, by rw [List.length_map]; omega, by walk_at "m.free", ?_⟩
    rw [show (σ.stack.map lnV).dropLast = (σ.stack.dropLast).map lnV from (List.map_dropLast).symm]
    walk_at "m.run"
    refine ⟨_, Stored.dict (by walk_at "m.cell") (Nat.le_of_ble_eq_true rfl), ?_⟩
    have L1 : LK H.nx _ (popN σ) := L.path (j := H.nx) (H1 := H.add (.tmp H.nx) (.list (σ.stack.dropLast.map lnV))) (st := σ.stack.dropLast) ((Keep.refl _).tmp' (Nat.le_refl _)) (fun l hl => add_other (fun e => by subst e; cases hl) rfl) (by show H.nx < max _ _; omega) add_same
    have k1 : Keep Loc.isL H ((H.add (.tmp H.nx) (.list (σ.stack.dropLast.map lnV))).put .state (.dict (putE (stD (.tmp k) σ) "path" (.cell (.tmp H.nx))))) := ((Keep.refl _).tmp' (Nat.le_refl _)).put' rfl
    generalize (H.add (.tmp H.nx) (.list (σ.stack.dropLast.map lnV))).put .state (.dict (putE (stD (.tmp k) σ) "path" (.cell (.tmp H.nx)))) = H1 at *
    have hne1 : (popN σ).stack ≠ [] := by
      intro q
      have q : σ.stack.dropLast = [] := q
      have : σ.stack.length - 1 = 0 := by rw [← List.length_dropLast, q]; rfl
      have := List.length_pos_iff.mpr hne
      omega
    have h4 := w.popN.zs
    walk_at "m.run"
    by_cases e2 : (σ.ctx == -1) = true
    · rw [if_pos e2] at h
      have e2' : (σ.ctx != -1) = false := by rw [bne, e2]; rfl
      refine ite_pos (by show (!(σ.ctx != -1)) = true; rw [e2']; rfl) ?_
      obtain ⟨x, hx⟩ := w.popN.curEl hne1
      have hcn : curName (popN σ) = x.name := by unfold curName; rw [(isEl_get hx).1]
      rw [hcn] at h
      have hlast := last_cur hne1
      have hnode := L1.node hx
      walk_at "m.run"
      by_cases e3 : (x.name != "frameset") = true
      · rw [if_pos e3] at h
        walk_at "m.run"
        refine ⟨_, Stored.dict (by walk_at "m.cell") (Nat.le_of_ble_eq_true rfl), ?_⟩
        walk_at "m.run"
        exact h _ _ (L1.mode "after frameset") (k1.put' rfl)
      · rw [if_neg e3] at h
        walk_at "m.run"
        exact h _ _ L1 k1
    · rw [if_neg e2] at h
      have e2' : (σ.ctx != -1) = true := by rw [bne, Bool.eq_false_iff.mpr e2]; rfl
      refine ite_neg (by show ¬ (!(σ.ctx != -1)) = true; rw [e2']; decide) ?_
      walk_at "m.run"
      exact h _ _ L1 k1
end
def toV (r : List (Str × Str)) : List (Str × V) := r.map fun p => (p.1, .str p.2)
def rAB : List (Str × Str) := [("", "back"), ("space", "body"), ("start html", "body"), ("comment", "root"), ("doctype", "refuse"), ("end html", "after"), ("eof", "done")]
def rIF : List (Str × Str) := [("", "refuse"), ("space", "here"), ("comment", "here"), ("start html", "body"), ("start frameset", "grow"), ("end frameset", "leave"), ("start frame", "void"), ("start noframes", "head"), ("eof", "stop")]
def rAF : List (Str × Str) := [("", "refuse"), ("space", "here"), ("comment", "here"), ("start html", "body"), ("end html", "after"), ("start noframes", "head"), ("eof", "done")]
def rAAB : List (Str × Str) := [("", "back"), ("comment", "document"), ("doctype", "body"), ("space", "body"), ("start html", "body"), ("eof", "done")]
def rAAF : List (Str × Str) := [("", "refuse"), ("comment", "document"), ("doctype", "body"), ("space", "body"), ("start html", "body"), ("start noframes", "head"), ("eof", "done")]
def rowT : List (Str × List (Str × Str)) := [("after body", rAB), ("in frameset", rIF), ("after frameset", rAF), ("after after body", rAAB), ("after after frameset", rAAF)]
/-- the rows as they are built -/
structure RInv (H₀ H : MH) (r : Nat) (ps : List (Str × Nat × List (Str × Str))) : Prop where
  lt : r < H.nx
  ge : H₀.nx ≤ r
  rc : H.c (.tmp r) = some (.dict (ps.map fun p => (p.1, .cell (.tmp p.2.1))))
  rows : ∀ p ∈ ps, H.c (.tmp p.2.1) = some (.dict (toV p.2.2)) ∧ p.2.1 < H.nx ∧ p.2.1 ≠ r
  ot : ∀ l, (∀ j, l = .tmp j → j < H₀.nx) → H.c l = H₀.c l
theorem RInv.start (H : MH) : RInv H (H.add (.tmp H.nx) (.dict [])) H.nx [] :=
  ⟨by show H.nx < max _ _; omega, Nat.le_refl _, add_same, fun _ h => (nomatch h), fun l h => add_other (fun e => by have := h _ e; omega) rfl⟩
theorem RInv.step {H₀ H : MH} {r : Nat} {ps : List (Str × Nat × List (Str × Str))} (R : RInv H₀ H r ps) {name : Str} {row : List (Str × Str)} {es : List (Str × V)} (hes : es = toV row) (hn : (ps.any fun p => decide (p.1 = name)) = false) :
    RInv H₀ ((H.add (.tmp H.nx) (.dict es)).put (.tmp r) (.dict (putE (ps.map fun p => (p.1, V.cell (.tmp p.2.1))) name (.cell (.tmp H.nx))))) r (ps ++ [(name, H.nx, row)]) := by
  subst hes
  have hr := R.lt
  refine ⟨by show r < max _ _; omega, R.ge, ?_, fun p hp => ?_, fun l h => ?_⟩
  · rw [put_same]
    congr 2
    unfold putE
    rw [if_neg, List.map_append]
    · rfl
    · rw [List.any_map]
      show ¬ (ps.any fun p => decide (p.1 = name)) = true
      rw [hn]; decide
  · rcases List.mem_append.mp hp with hp | hp
    · obtain ⟨a, b, c⟩ := R.rows p hp
      refine ⟨?_, by show _ < max _ _; omega, c⟩
      rw [put_other (fun e => c (Loc.tmp.inj e)) (add_other (fun e => by have := Loc.tmp.inj e; omega) a)]
    · rw [List.mem_singleton.mp hp]
      refine ⟨?_, by show H.nx < max _ _; omega, by show H.nx ≠ r; omega⟩
      rw [put_other (fun e => by have := Loc.tmp.inj e; omega) add_same]
  · have g := R.ge
    rw [put_other (fun e => by have := h _ e; omega) (add_other (fun e => by have := h _ e; omega) rfl)]
    exact R.ot l h
section
variable {M : Amb} {d : Nat} {cl : List (Str × Loc)} {ml : List (Str × V)} {H : MH}
theorem w_law_rows (hpu : M.pu = false) (F : Facts M.K) {Q : V → MH → Prop} (h : ∀ H' r a b c e f, RInv H H' r [("after body", a, rAB), ("in frameset", b, rIF), ("after frameset", c, rAF), ("after after body", e, rAAB), ("after after frameset", f, rAAF)] → Q (.cell (.tmp r)) H') : CALL M (d + 1) cl ml H 694 [] Q := by
  refine CALL_go (at_law_rows F) b_law_rows rfl rfl rfl ?_
  walk_at "m.run"
  refine TE_dict_nil (l := .tmp H.nx) (by walk_at "m.free") ?_
  have R := RInv.start H
  revert R
  generalize H.add (.tmp H.nx) (.dict []) = H0
  intro R
  walk_at "m.run"
  refine TE_dict (l := .tmp H0.nx) rfl rfl rfl (by simp) (by decide) ?_
  walk_at "m.run"
  refine ⟨by decide +kernel, by walk_at "m.free", ?_⟩
  walk_at "m.run"
  refine ⟨_, Stored.dict (add_other (fun e => by have := Loc.tmp.inj e; have := R.lt; omega) R.rc) (Nat.le_of_ble_eq_true rfl), ?_⟩
  replace R := R.step (name := "after body") (row := rAB) (es := [("", .str "back"), ("space", .str "body"), ("start html", .str "body"), ("comment", .str "root"), ("doctype", .str "refuse"), ("end html", .str "after"), ("eof", .str "done")]) rfl rfl
  revert R
  generalize MH.put (H0.add _ _) _ _ = H1
  intro R
  walk_at "m.run"
  refine TE_dict (l := .tmp H1.nx) rfl rfl rfl (by simp) (by decide) ?_
  walk_at "m.run"
  refine ⟨by decide +kernel, by walk_at "m.free", ?_⟩
  walk_at "m.run"
  refine ⟨_, Stored.dict (add_other (fun e => by have := Loc.tmp.inj e; have := R.lt; omega) R.rc) (Nat.le_of_ble_eq_true rfl), ?_⟩
  replace R := R.step (name := "in frameset") (row := rIF) (es := [("", .str "refuse"), ("space", .str "here"), ("comment", .str "here"), ("start html", .str "body"), ("start frameset", .str "grow"), ("end frameset", .str "leave"), ("start frame", .str "void"), ("start noframes", .str "head"), ("eof", .str "stop")]) rfl rfl
  revert R
  generalize MH.put (H1.add _ _) _ _ = H2
  intro R
  walk_at "m.run"
  refine TE_dict (l := .tmp H2.nx) rfl rfl rfl (by simp) (by decide) ?_
  walk_at "m.run"
  refine ⟨by decide +kernel, by walk_at "m.free", ?_⟩
  walk_at "m.run"
  refine ⟨_, Stored.dict (add_other (fun e => by have := Loc.tmp.inj e; have := R.lt; omega) R.rc) (Nat.le_of_ble_eq_true rfl), ?_⟩
  replace R := R.step (name := "after frameset") (row := rAF) (es := [("", .str "refuse"), ("space", .str "here"), ("comment", .str "here"), ("start html", .str "body"), ("end html", .str "after"), ("start noframes", .str "head"), ("eof", .str "done")]) rfl rfl
  revert R
  generalize MH.put (H2.add _ _) _ _ = H3
  intro R
  walk_at "m.run"
  refine TE_dict (l := .tmp H3.nx) rfl rfl rfl (by simp) (by decide) ?_
  walk_at "m.run"
  refine ⟨by decide +kernel, by walk_at "m.free", ?_⟩
  walk_at "m.run"
  refine ⟨_, Stored.dict (add_other (fun e => by have := Loc.tmp.inj e; have := R.lt; omega) R.rc) (Nat.le_of_ble_eq_true rfl), ?_⟩
  replace R := R.step (name := "after after body") (row := rAAB) (es := [("", .str "back"), ("comment", .str "document"), ("doctype", .str "body"), ("space", .str "body"), ("start html", .str "body"), ("eof", .str "done")]) rfl rfl
  revert R
  generalize MH.put (H3.add _ _) _ _ = H4
  intro R
  walk_at "m.run"
  refine TE_dict (l := .tmp H4.nx) rfl rfl rfl (by simp) (by decide) ?_
  walk_at "m.run"
  refine ⟨by decide +kernel, by walk_at "m.free", ?_⟩
  walk_at "m.run"
  refine ⟨_, Stored.dict (add_other (fun e => by have := Loc.tmp.inj e; have := R.lt; omega) R.rc) (Nat.le_of_ble_eq_true rfl), ?_⟩
  replace R := R.step (name := "after after frameset") (row := rAAF) (es := [("", .str "refuse"), ("comment", .str "document"), ("doctype", .str "body"), ("space", .str "body"), ("start html", .str "body"), ("start noframes", .str "head"), ("eof", .str "done")]) rfl rfl
  revert R
  generalize MH.put (H4.add _ _) _ _ = H5
  intro R
  walk_at "m.run"
  exact h _ _ _ _ _ _ _ R
end
theorem TS_at {M : Amb} {d : Nat} {cl : List (Str × Loc)} {ml : List (Str × V)} {H : MH} {scp : Scope} {b : List Stmt} {s0 : Stmt} {rest : List Stmt} {k : ScopeKind} {nms : List (Str × NameKind)} {g co : Bool} {mo} {Q : FV → List (Str × V) → MH → Prop} (hbd : b = s0 :: rest) (hsc : scp = { kind := k, names := nms, isGenerator := g, isCoroutine := co, more := mo }) (h : TS M d { kind := k, names := nms, isGenerator := g, isCoroutine := co, more := mo } cl ml H (s0 :: rest) Q) : TS M d scp cl ml H b Q := by
  rw [hsc, hbd]; exact h
def getS : List (Str × Str) → Str → Option Str
  | [], _ => none
  | (k, v) :: r, key => if k = key then some v else getS r key
theorem getE_toV {key : Str} : ∀ {r : List (Str × Str)}, getE (toV r) key = (getS r key).map .str
  | [] => rfl
  | (k, v) :: r => by
    rw [getE2_eq]
    show (if k = key then some (V.str v) else getE2 (toV r) key) = Option.map _ (if k = key then some v else getS r key)
    split
    · rfl
    · rw [← getE2_eq]; exact getE_toV
def dflS (m : Str) : Str := if m = "after body" then "back" else if m = "in frameset" then "refuse" else if m = "after frameset" then "refuse" else if m = "after after body" then "back" else if m = "after after frameset" then "refuse" else "body"
def restS (m : Str) : List (Str × Str) := if m = "after body" then rAB.tail else if m = "in frameset" then rIF.tail else if m = "after frameset" then rAF.tail else if m = "after after body" then rAAB.tail else if m = "after after frameset" then rAAF.tail else []
def rowS (m : Str) : List (Str × Str) := ("", dflS m) :: restS m
/-- what the law's table says -/
def actOf (m : Str) (t : Tk) : Str := (getS (rowS m) t.sort).getD (dflS m)
theorem modes_of {P : Str → Prop} {m : Str} (h : m ∈ modesL) (h1 : P "after body") (h2 : P "in frameset") (h3 : P "after frameset") (h4 : P "after after body") (h5 : P "after after frameset") (h6 : P "in body") : P m := by
  simp only [modesL, List.mem_cons, List.not_mem_nil, or_false] at h
  rcases h with e | e | e | e | e | e <;> rw [e] <;> assumption
theorem RInv.lk {H H' : MH} {r k : Nat} {ps : List (Str × Nat × List (Str × Str))} {σ : St} (R : RInv H H' r ps) (L : LK k H σ) : LK k H' σ ∧ Keep Loc.isL H H' := by
  have h1 := R.lt
  have h2 := R.ge
  have h3 := L.lt
  refine ⟨L.same rfl rfl (by omega) ((R.ot _ fun j e => by have := Loc.tmp.inj e; omega).trans L.pa) ((R.ot _ fun j e => by cases e).trans L.state) ((R.ot _ fun j e => by cases e).trans L.notes) (fun l hl _ _ => R.ot _ fun j e => by subst e; cases hl), ⟨by omega, fun l _ hl => R.ot l hl⟩⟩
section
variable {M : Amb} {d : Nat} {cl : List (Str × Loc)} {ml : List (Str × V)} {H : MH}
theorem B_get5 {l : Loc} {es : List (Str × V)} {key : Str} {x y : V} {Q : V → MH → Prop} (hc : H.c l = some (.dict es)) (hx : (getE es key).getD x = y) (h : Q y H) : CALB M d cl ml H (.builtin "dict.get") [.cell l, .str key, x] Q :=
  B_get2 hc (by rw [hx]; exact h)
theorem due_pre (hpu : M.pu = false) (F : Facts M.K) {k : Nat} {σ : St} (L : LK k H σ) (hm : σ.mode ∈ modesL) {t : Tk} (ht : t.ok) {Q : V → MH → Prop}
    (h : ∀ H' j, LK k H' σ → Keep Loc.isL H H' → TS M (d + 1) (sco (tS 65)) [] [("act", .str (actOf σ.mode t)), ("row", .cell (.tmp j)), ("mode", .str σ.mode), ("token", tkV t), ("state", .cell .state)] H' ((bd (tS 65)).drop 3) (backS Q)) : CALL M (d + 2) cl ml H 771 [.cell .state, tkV t] Q := by
  refine CALL_go (at_law_due F) b_law_due rfl rfl rfl ?_
  walk_at "m.run"
  refine w_law_rows hpu F fun H1 r i1 i2 i3 i4 i5 R => ?_
  obtain ⟨L1, k1⟩ := R.lk L
  have hrc := R.rc
  have hrow : ∃ j, (getE [("after body", V.cell (.tmp i1)), ("in frameset", .cell (.tmp i2)), ("after frameset", .cell (.tmp i3)), ("after after body", .cell (.tmp i4)), ("after after frameset", .cell (.tmp i5))] σ.mode).getD (.cell (.tmp H1.nx)) = .cell (.tmp j)
      ∧ (H1.add (.tmp H1.nx) (.dict [("", .str "body")])).c (.tmp j) = some (.dict (toV (rowS σ.mode))) := by
    have old : ∀ j row, H1.c (.tmp j) = some (.dict (toV row)) ∧ j < H1.nx ∧ j ≠ r → (H1.add (.tmp H1.nx) (.dict [("", .str "body")])).c (.tmp j) = some (.dict (toV row)) := fun j row ⟨a, b, _⟩ => add_other (fun e => by have := Loc.tmp.inj e; omega) a
    refine modes_of (P := fun m => ∃ j, (getE [("after body", V.cell (.tmp i1)), ("in frameset", .cell (.tmp i2)), ("after frameset", .cell (.tmp i3)), ("after after body", .cell (.tmp i4)), ("after after frameset", .cell (.tmp i5))] m).getD (.cell (.tmp H1.nx)) = .cell (.tmp j)
      ∧ (H1.add (.tmp H1.nx) (.dict [("", .str "body")])).c (.tmp j) = some (.dict (toV (rowS m)))) hm ?_ ?_ ?_ ?_ ?_ ?_
    · exact ⟨i1, rfl, old i1 rAB (R.rows _ (.head _))⟩
    · exact ⟨i2, rfl, old i2 rIF (R.rows _ (.tail _ (.head _)))⟩
    · exact ⟨i3, rfl, old i3 rAF (R.rows _ (.tail _ (.tail _ (.head _))))⟩
    · exact ⟨i4, rfl, old i4 rAAB (R.rows _ (.tail _ (.tail _ (.tail _ (.head _)))))⟩
    · exact ⟨i5, rfl, old i5 rAAF (R.rows _ (.tail _ (.tail _ (.tail _ (.tail _ (.head _))))))⟩
    · exact ⟨H1.nx, rfl, add_same⟩
  obtain ⟨j, hj1, hj2⟩ := hrow
  walk_at "m.run"
  refine TE_dict (l := .tmp H1.nx) rfl rfl rfl (by simp) (by decide) ?_
  walk_at "m.run"
  refine ⟨by decide +kernel, by walk_at "m.free", ?_⟩
  walk_at "m.run"
  refine B_get5 (add_other (fun e => by have := Loc.tmp.inj e; have := R.lt; omega) hrc) hj1 ?_
  have L2 : LK k (H1.add (.tmp H1.nx) (.dict [("", .str "body")])) σ := L1.atmp (Nat.le_refl _)
  have k2 : Keep Loc.isL H (H1.add (.tmp H1.nx) (.dict [("", .str "body")])) := k1.tmp' (Nat.le_refl _)
  revert hj2 L2 k2
  generalize H1.add (.tmp H1.nx) (.dict [("", .str "body")]) = H2
  intro hj2 L2 k2
  walk_at "m.run"
  refine w_law_sort F ht ?_
  walk_at "m.run"
  have ha : (getE (toV (rowS σ.mode)) t.sort).getD (.str (dflS σ.mode)) = .str (actOf σ.mode t) := by
    rw [getE_toV]; unfold actOf; cases getS (rowS σ.mode) t.sort <;> rfl
  refine B_get5 hj2 ha ?_
  exact h H2 j L2 k2
end
theorem starts_sort {n : Str} (h : n ∈ startsL) : ¬ (("start" : Str) ++ " " ++ n == "eof") = true ∧ ((("start" : Str) ++ " " ++ n == "start p") = (n == "p")) ∧ ¬ (("start" : Str) ++ " " ++ n == "end p") = true ∧ ¬ ((["end body", "end html"] : List Str).any (· == ("start" : Str) ++ " " ++ n)) = true := by
  have := all_of (p := fun n => !(("start" : Str) ++ " " ++ n == "eof") && ((("start" : Str) ++ " " ++ n == "start p") == (n == "p")) && !(("start" : Str) ++ " " ++ n == "end p") && !((["end body", "end html"] : List Str).any (· == ("start" : Str) ++ " " ++ n))) (by decide +kernel : startsL.all _ = true) h
  simp only [Bool.and_eq_true, Bool.not_eq_true'] at this
  obtain ⟨⟨⟨a, b⟩, c⟩, e⟩ := this
  exact ⟨by rw [a]; decide, eq_of_beq b, by rw [c]; decide, by rw [e]; decide⟩
theorem ends_sort {n : Str} (h : n ∈ endsL) : ¬ (("end" : Str) ++ " " ++ n == "eof") = true ∧ ¬ (("end" : Str) ++ " " ++ n == "start p") = true ∧ ((("end" : Str) ++ " " ++ n == "end p") = (n == "p")) ∧ ((["end body", "end html"] : List Str).any (· == ("end" : Str) ++ " " ++ n)) = (n == "body" || n == "html") ∧ ((("end" : Str) ++ " " ++ n == "end html") = (n == "html")) := by
  have := all_of (p := fun n => !(("end" : Str) ++ " " ++ n == "eof") && !(("end" : Str) ++ " " ++ n == "start p") && ((("end" : Str) ++ " " ++ n == "end p") == (n == "p")) && ((["end body", "end html"] : List Str).any (· == ("end" : Str) ++ " " ++ n) == (n == "body" || n == "html")) && ((("end" : Str) ++ " " ++ n == "end html") == (n == "html"))) (by decide +kernel : endsL.all _ = true) h
  simp only [Bool.and_eq_true, Bool.not_eq_true'] at this
  obtain ⟨⟨⟨⟨a, b⟩, c⟩, e⟩, f⟩ := this
  exact ⟨by rw [a]; decide, by rw [b]; decide, eq_of_beq c, eq_of_beq e, eq_of_beq f⟩
section
variable {M : Amb} {d : Nat} {cl : List (Str × Loc)} {ml : List (Str × V)} {H : MH}
theorem due_html (hpu : M.pu = false) (F : Facts M.K) {N E k : Nat} {σ : St} (w : WF N E σ) (hN : N ≤ 790) (hE : E ≤ 790) (L : LK k H σ) (hm : σ.mode = "after body") {Q : V → MH → Prop}
    (h : ∀ H' k' v, LK k' H' (abhN σ (.fin "html")) → Keep Loc.isL H H' → Q v H') : CALL M (d + 2) cl ml H 771 [.cell .state, tkV (.fin "html")] Q := by
  refine due_pre hpu F L w.md (t := .fin "html") (by show _ ∈ _; decide +kernel) fun H1 j L1 k1 => ?_
  have ha : actOf σ.mode (.fin "html") = "after" := by rw [hm]; decide +kernel
  have hz := w.ze
  rw [ha, hm]
  unfold abhN at h
  refine TS_at rfl rfl ?_
  simp only [tkV]
  walk_at "m.run"
  by_cases e : (σ.ctx != -1) = true
  · rw [if_pos e] at h
    walk_at "m.run"
    refine w_law_refuse (t := .fin "html") hpu F L1 (by omega) trivial fun H2 L2 k2 => ?_
    walk_at "m.run"
    exact h _ _ _ L2 (k1.trans k2)
  · rw [if_neg e] at h
    walk_at "m.run"
    refine OP_add_str (by decide) ?_
    walk_at "m.run"
    refine ⟨_, Stored.dict (by walk_at "m.cell") (Nat.le_of_ble_eq_true rfl), ?_⟩
    walk_at "m.run"
    have L2 := L1.mode (("after " : Str) ++ "after body")
    have e3 : ("after " : Str) ++ "after body" = "after after body" := by decide +kernel
    refine h _ k _ ?_ (k1.put' rfl)
    rw [e3] at L2
    rw [e3]
    exact L2
end
section
variable {M : Amb} {d : Nat} {cl : List (Str × Loc)} {ml : List (Str × V)} {H : MH}
theorem w_law_sign (hpu : M.pu = false) (F : Facts M.K) {N E k : Nat} {σ : St} (w : WF N E σ) (hN : N ≤ 800) (L : LK k H σ) (hne : σ.stack ≠ []) {c : Str} (hc : c.length ≤ 10) {Q : V → MH → Prop} (h : ∀ H', LK k H' (sigN σ c) → Keep Loc.isL H H' → Q .none H') : CALL M (d + 1) cl ml H 729 [lnV (curP σ.stack), .str c] Q := by
  obtain ⟨x, hx⟩ := w.curEl hne
  have e : sigN σ c = signN σ (curP σ.stack) x c := by unfold sigN; rw [(isEl_get hx).1]
  rw [e] at h
  exact w_law_put hpu F w hN L hx hc h
theorem w_body_due (hpu : M.pu = false) (F : Facts M.K) {N E k : Nat} {σ : St} (w : WF N E σ) (hN : N ≤ 780) (hE : E ≤ 780) (L : LK k H σ) (hne : σ.stack ≠ []) {t : Tk} (ht : t.ok) {Q : V → MH → Prop}
    (h : ∀ H' k', LK k' H' (bodyN σ t) → Keep Loc.isL H H' → Q .none H') : CALL M (d + 3) cl ml H 750 [.cell .state, tkV t] Q := by
  refine CALL_go (at_law_body_due F) b_law_body_due rfl rfl rfl ?_
  have h3 := w.ze
  have h1 := w.zn
  have h2 := w.zs
  have w1 := w.note (mode_ok w.md) ht
  have L1 : LK k (H.put .notes (.list (σ.errs ++ [.tup [.str σ.mode, tkV t]]))) (noteN σ σ.mode t) := L.err _
  have k1 : Keep Loc.isL H (H.put .notes (.list (σ.errs ++ [.tup [.str σ.mode, tkV t]]))) := Keep.put rfl
  walk_at "m.run"
  revert L1 k1
  generalize H.put .notes (.list (σ.errs ++ [.tup [.str σ.mode, tkV t]])) = H1
  intro L1 k1
  refine w_law_sort F ht ?_
  walk_at "m.run"
  obtain ⟨x, hx⟩ := w1.curEl hne
  have hlast := last_cur (l := (noteN σ σ.mode t).stack) hne
  have hz1 : (noteN σ σ.mode t).stack.length ≤ N := h2
  cases t with
  | ch c =>
    simp only [tkV]
    walk_at "m.run"
    refine w_law_sign hpu F w1 (by omega) L1 hne (by have := (sign_ok ht).2; omega) fun H2 L2 k2 => ?_
    walk_at "m.run"
    exact h _ _ L2 (k1.trans k2)
  | eof =>
    simp only [tkV]
    walk_at "m.run"
    refine w_law_stop hpu F L1 fun H2 k' L2 k2 => ?_
    walk_at "m.run"
    exact h _ _ L2 (k1.trans k2)
  | com c =>
    simp only [tkV]
    walk_at "m.run"
    exact h _ _ L1 k1
  | doc =>
    simp only [tkV]
    walk_at "m.run"
    exact h _ _ L1 k1
  | start n a s =>
    simp only [tkV]
    obtain ⟨g1, g2, g3, g4⟩ := starts_sort ht.1
    have g1 : ¬ (Tk.sort (.start n a s) == "eof") = true := g1
    have g2 : (Tk.sort (.start n a s) == "start p") = (n == "p") := g2
    have g3 : ¬ (Tk.sort (.start n a s) == "end p") = true := g3
    have g4 : ¬ ((["end body", "end html"] : List Str).any (· == Tk.sort (.start n a s))) = true := g4
    by_cases e : n = "p"
    · have hq : bodyN σ (.start n a s) = growN (noteN σ σ.mode (.start n a s)) "p" (tAttrs a) := if_pos e
      rw [hq] at h
      have g5 : (Tk.sort (.start n a s) == "start p") = true := by rw [g2]; exact str_eb e
      walk_at "m.run"
      refine w_law_grow (keeps := true) hpu F w1 (by omega) L1 hx (Nat.le_of_ble_eq_true rfl) fun H2 k' L2 k2 => ?_
      walk_at "m.run"
      exact h _ _ L2 (k1.trans k2)
    · have hq : bodyN σ (.start n a s) = noteN σ σ.mode (.start n a s) := if_neg e
      rw [hq] at h
      have g5 : ¬ (Tk.sort (.start n a s) == "start p") = true := by rw [g2]; exact str_nb e
      walk_at "m.run"
      exact h _ _ L1 k1
  | fin n =>
    simp only [tkV]
    obtain ⟨g1, g2, g3, g4, g6⟩ := ends_sort ht
    have g1 : ¬ (Tk.sort (.fin n) == "eof") = true := g1
    have g2 : ¬ (Tk.sort (.fin n) == "start p") = true := g2
    have g3 : (Tk.sort (.fin n) == "end p") = (n == "p") := g3
    have g4 : ((["end body", "end html"] : List Str).any (· == Tk.sort (.fin n))) = (n == "body" || n == "html") := g4
    have g6 : (Tk.sort (.fin n) == "end html") = (n == "html") := g6
    by_cases e : n = "p"
    · have hq : bodyN σ (.fin n) = if curName (noteN σ σ.mode (.fin n)) = "p" then popN (noteN σ σ.mode (.fin n)) else noteN σ σ.mode (.fin n) := if_pos e
      rw [hq] at h
      have hcn : curName (noteN σ σ.mode (.fin n)) = x.name := by unfold curName; rw [(isEl_get hx).1]
      rw [hcn] at h
      have g5 : (Tk.sort (.fin n) == "end p") = true := by rw [g3]; exact str_eb e
      have g7 : ¬ ((["end body", "end html"] : List Str).any (· == Tk.sort (.fin n))) = true := by rw [g4, e]; decide +kernel
      have hnode := L1.node hx
      walk_at "m.run"
      by_cases e2 : x.name = "p"
      · rw [if_pos e2] at h
        walk_at "m.run"
        refine TE_butlast2 (l := .tmp H1.nx) ?_
        walk_at "m.run"
        refine ⟨.tmp k, (noteN σ σ.mode (.fin n)).stack.map lnV, rfl, rfl, L1.pa, by rw [List.length_map]; omega, by walk_at "m.free", ?_⟩
        rw [show ((noteN σ σ.mode (.fin n)).stack.map lnV).dropLast = (σ.stack.dropLast).map lnV from (List.map_dropLast).symm]
        walk_at "m.run"
        refine ⟨_, Stored.dict (by walk_at "m.cell") (Nat.le_of_ble_eq_true rfl), ?_⟩
        have L2 : LK H1.nx _ (popN (noteN σ σ.mode (.fin n))) := L1.path (j := H1.nx) (H1 := H1.add (.tmp H1.nx) (.list (σ.stack.dropLast.map lnV))) (st := σ.stack.dropLast) ((Keep.refl _).tmp' (Nat.le_refl _)) (fun l hl => add_other (fun e => by subst e; cases hl) rfl) (by show H1.nx < max _ _; omega) add_same
        have k2 : Keep Loc.isL H ((H1.add (.tmp H1.nx) (.list (σ.stack.dropLast.map lnV))).put .state (.dict (putE (stD (.tmp k) (noteN σ σ.mode (.fin n))) "path" (.cell (.tmp H1.nx))))) := (k1.tmp' (Nat.le_refl _)).put' rfl
        walk_at "m.run"
        exact h _ _ L2 k2
      · rw [if_neg e2] at h
        walk_at "m.run"
        exact h _ _ L1 k1
    · have g5 : ¬ (Tk.sort (.fin n) == "end p") = true := by rw [g3]; exact str_nb e
      by_cases e2 : n = "body"
      · have hq : bodyN σ (.fin n) = { noteN σ σ.mode (.fin n) with mode := "after body" } := (if_neg e).trans (if_pos e2)
        rw [hq] at h
        have g7 : ((["end body", "end html"] : List Str).any (· == Tk.sort (.fin n))) = true := by rw [g4, e2]; decide +kernel
        have g8 : ¬ (Tk.sort (.fin n) == "end html") = true := by rw [g6, e2]; decide +kernel
        walk_at "m.run"
        refine ⟨_, Stored.dict (by walk_at "m.cell") (Nat.le_of_ble_eq_true rfl), ?_⟩
        walk_at "m.run"
        exact h _ _ (L1.mode "after body") (k1.put' rfl)
      · by_cases e3 : n = "html"
        · subst e3
          have hq : bodyN σ (.fin "html") = abhN { noteN σ σ.mode (.fin "html") with mode := "after body" } (.fin "html") := by unfold bodyN bodyN1; dsimp only; rw [if_neg e, if_neg e2, if_pos rfl]
          rw [hq] at h
          have g7 : ((["end body", "end html"] : List Str).any (· == Tk.sort (.fin "html"))) = true := by rw [g4]; decide +kernel
          have g8 : (Tk.sort (.fin "html") == "end html") = true := by rw [g6]; decide +kernel
          walk_at "m.run"
          refine ⟨_, Stored.dict (by walk_at "m.cell") (Nat.le_of_ble_eq_true rfl), ?_⟩
          have L2 := L1.mode "after body"
          have k2 : Keep Loc.isL H (H1.put .state (.dict (putE (stD (.tmp k) (noteN σ σ.mode (.fin "html"))) "mode" (.str "after body")))) := k1.put' rfl
          revert L2 k2
          generalize H1.put .state (.dict (putE (stD (.tmp k) (noteN σ σ.mode (.fin "html"))) "mode" (.str "after body"))) = H2
          intro L2 k2
          walk_at "m.run"
          refine due_html hpu F (w1.mode (m := "after body") (by decide +kernel)) (by omega) (by omega) L2 rfl fun H3 k' v L3 k3 => ?_
          walk_at "m.run"
          exact h _ _ L3 (k2.trans k3)
        · have hq : bodyN σ (.fin n) = noteN σ σ.mode (.fin n) := (if_neg e).trans ((if_neg e2).trans (if_neg e3))
          rw [hq] at h
          have g7 : ¬ ((["end body", "end html"] : List Str).any (· == Tk.sort (.fin n))) = true := by rw [g4]; simp [e2, e3]
          walk_at "m.run"
          exact h _ _ L1 k1
end
/-- which acts may meet which token -/
def okAct (a : Str) (k : Nat) : Bool :=
  (a == "refuse" && k != 3 && k != 5) || (a == "after" && k == 1) || (a == "back" && k != 3 && k != 5) || a == "body" || (a == "here" && (k == 2 || k == 3)) || (a == "leave" && k == 1) || a == "done" || a == "stop"
    || (a == "grow" && k == 0) || (a == "void" && k == 0) || (a == "head" && k == 0) || (a == "root" && k == 3) || (a == "document" && k == 3)
def Tk.num : Tk → Nat
  | .start .. => 0
  | .fin _ => 1
  | .ch _ => 2
  | .com _ => 3
  | .doc => 4
  | .eof => 5
theorem act_ok {m : Str} (hm : m ∈ modesL) {t : Tk} (ht : t.ok) : okAct (actOf m t) t.num = true := by
  cases t with
  | start n a s =>
    have := all_of (p := fun m => startsL.all fun n => okAct (actOf m (.start n "" false)) 0) (by decide +kernel : modesL.all _ = true) hm
    exact all_of this ht.1
  | fin n =>
    have := all_of (p := fun m => endsL.all fun n => okAct (actOf m (.fin n)) 1) (by decide +kernel : modesL.all _ = true) hm
    exact all_of this ht
  | ch c =>
    have := all_of (p := fun m => signsL.all fun n => okAct (actOf m (.ch n)) 2) (by decide +kernel : modesL.all _ = true) hm
    exact all_of this ht
  | com c => exact all_of (p := fun m => okAct (actOf m (.com "")) 3) (by decide +kernel : modesL.all _ = true) hm
  | doc => exact all_of (p := fun m => okAct (actOf m .doc) 4) (by decide +kernel : modesL.all _ = true) hm
  | eof => exact all_of (p := fun m => okAct (actOf m .eof) 5) (by decide +kernel : modesL.all _ = true) hm
/-- what an act does -/
def actN (σ : St) (t : Tk) (a : Str) : St :=
  if a = "refuse" then refN σ t
  else if a = "after" then (if σ.mode = "after body" then (if (σ.ctx != -1) = true then refN σ t else { σ with mode := "after " ++ σ.mode }) else { σ with mode := "after " ++ σ.mode })
  else if a = "back" then backN σ t
  else if a = "body" then bodyN σ t
  else if a = "here" then (match t with | .ch c => sigN σ c | .com c => insN σ (comN c) (curP σ.stack) | _ => σ)
  else if a = "leave" then leaveN σ t
  else if a = "done" then stopN σ
  else if a = "stop" then (if decide ((σ.stack.length : Int) ≤ 1) = true then stopN σ else stopN (errN σ (.tup [.str "open-elements", .str σ.mode])))
  else if a = "grow" then (match t with | .start n b _ => growN σ n (tAttrs b) | _ => σ)
  else if a = "void" then (match t with | .start n b _ => voidN σ n (tAttrs b) | _ => σ)
  else if a = "head" then headN σ t
  else if a = "root" then (match t with | .com c => insN σ (comN c) (σ.stack.headD 0) | _ => σ)
  else (match t with | .com c => insN σ (comN c) 0 | _ => σ)
theorem acts_of {P : Str → Prop} {t : Tk} {a : Str} (h : okAct a t.num = true) (h1 : t.refu → P "refuse") (h2 : ∀ n, t = .fin n → P "after") (h3 : t.refu → P "back") (h4 : P "body") (h5 : ∀ c, t = .ch c → P "here") (h5' : ∀ c, t = .com c → P "here") (h6 : ∀ n, t = .fin n → P "leave") (h7 : P "done") (h8 : P "stop")
    (h9 : ∀ n b s, t = .start n b s → P "grow") (h10 : ∀ n b s, t = .start n b s → P "void") (h11 : ∀ n b s, t = .start n b s → P "head") (h12 : ∀ c, t = .com c → P "root") (h13 : ∀ c, t = .com c → P "document") : P a := by
  have refu : t.num ≠ 3 → t.num ≠ 5 → t.refu := fun a b => by cases t <;> first | trivial | (exact absurd rfl a) | (exact absurd rfl b)
  have start : t.num = 0 → ∃ n b s, t = .start n b s := fun a => by cases t <;> first | (exact ⟨_, _, _, rfl⟩) | (cases a; done)
  have fin : t.num = 1 → ∃ n, t = .fin n := fun a => by cases t <;> first | (exact ⟨_, rfl⟩) | (cases a; done)
  have ch : t.num = 2 → ∃ n, t = .ch n := fun a => by cases t <;> first | (exact ⟨_, rfl⟩) | (cases a; done)
  have com : t.num = 3 → ∃ n, t = .com n := fun a => by cases t <;> first | (exact ⟨_, rfl⟩) | (cases a; done)
  unfold okAct at h
  simp only [Bool.or_eq_true, Bool.and_eq_true, beq_iff_eq, bne_iff_ne, ne_eq] at h
  rcases h with (((((((((((⟨⟨rfl, a⟩, b⟩ | ⟨rfl, a⟩) | ⟨⟨rfl, a⟩, b⟩) | rfl) | ⟨rfl, a | a⟩) | ⟨rfl, a⟩) | rfl) | rfl) | ⟨rfl, a⟩) | ⟨rfl, a⟩) | ⟨rfl, a⟩) | ⟨rfl, a⟩) | ⟨rfl, a⟩
  · exact h1 (refu a b)
  · obtain ⟨n, e⟩ := fin a; exact h2 n e
  · exact h3 (refu a b)
  · exact h4
  · obtain ⟨n, e⟩ := ch a; exact h5 n e
  · obtain ⟨n, e⟩ := com a; exact h5' n e
  · obtain ⟨n, e⟩ := fin a; exact h6 n e
  · exact h7
  · exact h8
  · obtain ⟨n, b, s, e⟩ := start a; exact h9 n b s e
  · obtain ⟨n, b, s, e⟩ := start a; exact h10 n b s e
  · obtain ⟨n, b, s, e⟩ := start a; exact h11 n b s e
  · obtain ⟨n, e⟩ := com a; exact h12 n e
  · obtain ⟨n, e⟩ := com a; exact h13 n e
/- the table, mode by mode -/
theorem sp_eq {c : Str} (hc : c ∈ signsL) : (spaces2.any (· == c)) = (spaces.any (· == c)) := eq_of_beq (all_of (p := fun c => (spaces2.any (· == c)) == (spaces.any (· == c))) (by decide +kernel : signsL.all _ = true) hc)
theorem act_ch {c : Str} (hc : c ∈ signsL) (m : Str) : actOf m (.ch c) = if spaces.any (· == c) = true then (getS (rowS m) "space").getD (dflS m) else (getS (rowS m) "sign").getD (dflS m) := by
  show (getS (rowS m) (if spaces2.any (· == c) = true then "space" else "sign")).getD _ = _
  rw [sp_eq hc]
  split <;> rfl
theorem act_run {N E : Nat} {σ : St} (w : WF N E σ) {t : Tk} (ht : t.ok) : actN σ t (actOf σ.mode t) = runN σ t := by
  have key : ∀ m, m ∈ modesL → σ.mode = m → actN σ t (actOf m t) = runN σ t := by
    intro m hm
    refine modes_of (P := fun m => σ.mode = m → actN σ t (actOf m t) = runN σ t) hm ?_ ?_ ?_ ?_ ?_ ?_ <;> intro e
    · have er : runN σ t = afterBodyN σ t := if_pos e
      rw [er]
      cases t with
      | ch c =>
        rw [act_ch ht]
        show _ = if _ then _ else _
        split <;> rfl
      | start n a s =>
        have g : actOf "after body" (.start n a s) = if n = "html" then "body" else "back" := of_decide_eq_true (all_of (p := fun n => decide (actOf "after body" (.start n "" false) = if n = "html" then "body" else "back")) (by decide +kernel : startsL.all _ = true) ht.1)
        rw [g]
        show _ = if _ then _ else _
        split <;> rfl
      | fin n =>
        have g : actOf "after body" (.fin n) = if n = "html" then "after" else "back" := of_decide_eq_true (all_of (p := fun n => decide (actOf "after body" (.fin n) = if n = "html" then "after" else "back")) (by decide +kernel : endsL.all _ = true) ht)
        rw [g]
        show _ = if _ then _ else _
        split
        · show (if σ.mode = "after body" then (if (σ.ctx != -1) = true then refN σ (.fin n) else _) else _) = _
          rw [if_pos e]
          unfold abhN
          split
          · rfl
          · rw [e]
            have : ("after " : Str) ++ "after body" = "after after body" := by decide +kernel
            rw [this]
        · rfl
      | com c => rfl
      | doc => rfl
      | eof => rfl
    · have er : runN σ t = inFramesetN σ t := by unfold runN; rw [e, if_neg (by decide), if_pos rfl]
      rw [er]
      cases t with
      | ch c =>
        rw [act_ch ht]
        show _ = if _ then _ else _
        split <;> rfl
      | start n a s =>
        have g : actOf "in frameset" (.start n a s) = if n = "html" then "body" else if n = "frameset" then "grow" else if n = "frame" then "void" else if n = "noframes" then "head" else "refuse" := of_decide_eq_true (all_of (p := fun n => decide (actOf "in frameset" (.start n "" false) = if n = "html" then "body" else if n = "frameset" then "grow" else if n = "frame" then "void" else if n = "noframes" then "head" else "refuse")) (by decide +kernel : startsL.all _ = true) ht.1)
        rw [g]
        show _ = if _ then _ else if _ then _ else if _ then _ else if _ then _ else _
        split
        · rfl
        split
        · rfl
        split
        · rfl
        split <;> rfl
      | fin n =>
        have g : actOf "in frameset" (.fin n) = if n = "frameset" then "leave" else "refuse" := of_decide_eq_true (all_of (p := fun n => decide (actOf "in frameset" (.fin n) = if n = "frameset" then "leave" else "refuse")) (by decide +kernel : endsL.all _ = true) ht)
        rw [g]
        show _ = if _ then _ else _
        split <;> rfl
      | com c => rfl
      | doc => rfl
      | eof => rfl
    · have er : runN σ t = afterFramesetN σ t := by unfold runN; rw [e, if_neg (by decide), if_neg (by decide), if_pos rfl]
      rw [er]
      cases t with
      | ch c =>
        rw [act_ch ht]
        show _ = if _ then _ else _
        split <;> rfl
      | start n a s =>
        have g : actOf "after frameset" (.start n a s) = if n = "html" then "body" else if n = "noframes" then "head" else "refuse" := of_decide_eq_true (all_of (p := fun n => decide (actOf "after frameset" (.start n "" false) = if n = "html" then "body" else if n = "noframes" then "head" else "refuse")) (by decide +kernel : startsL.all _ = true) ht.1)
        rw [g]
        show _ = if _ then _ else if _ then _ else _
        split
        · rfl
        split <;> rfl
      | fin n =>
        have g : actOf "after frameset" (.fin n) = if n = "html" then "after" else "refuse" := of_decide_eq_true (all_of (p := fun n => decide (actOf "after frameset" (.fin n) = if n = "html" then "after" else "refuse")) (by decide +kernel : endsL.all _ = true) ht)
        rw [g]
        show _ = if _ then _ else _
        split
        · show (if σ.mode = "after body" then _ else _) = _
          rw [if_neg (by rw [e]; decide), e]
          have : ("after " : Str) ++ "after frameset" = "after after frameset" := by decide +kernel
          rw [this]
        · rfl
      | com c => rfl
      | doc => rfl
      | eof => rfl
    · have er : runN σ t = afterAfterBodyN σ t := by unfold runN; rw [e, if_neg (by decide), if_neg (by decide), if_neg (by decide), if_pos rfl]
      rw [er]
      cases t with
      | ch c =>
        rw [act_ch ht]
        show _ = if _ then _ else _
        split <;> rfl
      | start n a s =>
        have g : actOf "after after body" (.start n a s) = if n = "html" then "body" else "back" := of_decide_eq_true (all_of (p := fun n => decide (actOf "after after body" (.start n "" false) = if n = "html" then "body" else "back")) (by decide +kernel : startsL.all _ = true) ht.1)
        rw [g]
        show _ = if _ then _ else _
        split <;> rfl
      | fin n =>
        have g : actOf "after after body" (.fin n) = "back" := of_decide_eq_true (all_of (p := fun n => decide (actOf "after after body" (.fin n) = "back")) (by decide +kernel : endsL.all _ = true) ht)
        rw [g]
        rfl
      | com c => rfl
      | doc => rfl
      | eof => rfl
    · have er : runN σ t = afterAfterFramesetN σ t := by unfold runN; rw [e, if_neg (by decide), if_neg (by decide), if_neg (by decide), if_neg (by decide), if_pos rfl]
      rw [er]
      cases t with
      | ch c =>
        rw [act_ch ht]
        show _ = if _ then _ else _
        split <;> rfl
      | start n a s =>
        have g : actOf "after after frameset" (.start n a s) = if n = "html" then "body" else if n = "noframes" then "head" else "refuse" := of_decide_eq_true (all_of (p := fun n => decide (actOf "after after frameset" (.start n "" false) = if n = "html" then "body" else if n = "noframes" then "head" else "refuse")) (by decide +kernel : startsL.all _ = true) ht.1)
        rw [g]
        show _ = if _ then _ else if _ then _ else _
        split
        · rfl
        split <;> rfl
      | fin n =>
        have g : actOf "after after frameset" (.fin n) = "refuse" := of_decide_eq_true (all_of (p := fun n => decide (actOf "after after frameset" (.fin n) = "refuse")) (by decide +kernel : endsL.all _ = true) ht)
        rw [g]
        rfl
      | com c => rfl
      | doc => rfl
      | eof => rfl
    · have er : runN σ t = bodyN σ t := by unfold runN; rw [e, if_neg (by decide), if_neg (by decide), if_neg (by decide), if_neg (by decide), if_neg (by decide)]
      have g : ∀ t, actOf "in body" t = "body" := fun t => by
        show (if ("" : Str) = t.sort then some ("body" : Str) else none).getD "body" = "body"
        split <;> rfl
      rw [er, g]
      rfl
  exact key _ w.md rfl
theorem LK.ack {k : Nat} {H : MH} {σ : St} (L : LK k H σ) (b : Bool) : LK k H { σ with ack := b } := ⟨L.lt, L.pa, fun l hl => (L.ls l hl).trans rfl⟩
theorem WF.doc_el {N E : Nat} {σ : St} (w : WF N E σ) : ∃ x : Nd, isEl σ 0 = some x := by
  obtain ⟨x, hx, hk, _⟩ := w.doc
  refine ⟨x, isEl_of hx (.inr hk) ?_⟩
  rcases w.ctx with e | ⟨c, z, e, hz, hzk, _⟩
  · rw [e]; decide
  · intro q
    have : c = 0 := by omega
    subst this
    rw [hx] at hz; cases hz
    rw [hk] at hzk
    revert hzk; decide
theorem WF.head_el {N E : Nat} {σ : St} (w : WF N E σ) (hne : σ.stack ≠ []) : ∃ x : Nd, isEl σ (σ.stack.headD 0) = some x := by
  cases e : σ.stack with
  | nil => exact absurd e hne
  | cons i r =>
    obtain ⟨x, hx, h1, _, h3⟩ := w.stk i (by rw [e]; exact .head _)
    exact ⟨x, isEl_of hx (.inl h1) h3⟩
section
variable {M : Amb} {d : Nat} {cl : List (Str × Loc)} {ml : List (Str × V)} {H : MH}
theorem w_due (hpu : M.pu = false) (F : Facts M.K) {N E k : Nat} {σ : St} (w : WF N E σ) (hN : N ≤ 770) (hE : E ≤ 770) (L : LK k H σ) (hne : σ.stack ≠ []) {t : Tk} (ht : t.ok) {Q : V → MH → Prop}
    (h : ∀ H' k', LK k' H' (actN σ t (actOf σ.mode t)) → Keep Loc.isL H H' → Q (.str (actOf σ.mode t)) H') : CALL M (d + 5) cl ml H 771 [.cell .state, tkV t] Q := by
  refine due_pre hpu F L w.md ht fun H1 j L1 k1 => ?_
  have hz := w.ze
  have hz2 := w.zs
  obtain ⟨x, hx⟩ := w.curEl hne
  have hlast := last_cur hne
  revert h
  obtain ⟨xr, hr⟩ := w.head_el hne
  obtain ⟨xd, hd⟩ := w.doc_el
  have hit : σ.stack.map lnV = lnV (σ.stack.headD 0) :: (σ.stack.tail.map lnV) := by
    cases q : σ.stack with
    | nil => exact absurd q hne
    | cons i r => rfl
  have hxl := (w.nd _ _ (isEl_get hx).1).kl
  have hrl := (w.nd _ _ (isEl_get hr).1).kl
  have hdl := (w.nd _ _ (isEl_get hd).1).kl
  have hr1 := L1.node hr
  have hr2 := L1.kid hr
  have hd1 := L1.node hd
  have hd2 := L1.kid hd
  have leaf : ∀ {p : Nat} {y : Nd} (hp : isEl σ p = some y) (_ : y.kids.length ≤ N) {H2 : MH} (L2 : LK k H2 σ) {c : Str}, LK k (H2.put (.lkid p) (.list (y.kids.map (kidV σ.nodes) ++ [.tup [.str "comment", .str c]]))) (insN σ (comN c) p) :=
    fun hp _ _ L2 c => L2.leaf w hp (by show ("comment" : Str) ≠ "element"; decide) (by show ("comment" : Str) ≠ "document"; decide) fun ns i e => by unfold kidV; rw [e]; exact (if_neg (by show ¬ ("comment" : Str) = "text"; decide)).trans (if_pos rfl)
  have hx1 := L1.node hx
  have hx2 := L1.kid hx
  refine acts_of (P := fun a => (∀ H' k', LK k' H' (actN σ t a) → Keep Loc.isL H H' → Q (.str a) H') → TS M (d + 4) (sco (tS 65)) [] [("act", .str a), ("row", .cell (.tmp j)), ("mode", .str σ.mode), ("token", tkV t), ("state", .cell .state)] H1 ((bd (tS 65)).drop 3) (backS Q)) (act_ok w.md ht) ?_ ?_ ?_ ?_ ?_ ?_ ?_ ?_ ?_ ?_ ?_ ?_ ?_ ?_
  · intro hr h
    refine TS_at rfl rfl ?_
    walk_at "m.run"
    refine w_law_refuse hpu F L1 (by omega) hr fun H2 L2 k2 => ?_
    walk_at "m.run"
    exact h _ _ L2 (k1.trans k2)
  · rintro n rfl h
    refine TS_at rfl rfl ?_
    have hml : σ.mode.length ≤ 100 := of_decide_eq_true (all_of (p := fun n => decide (n.length ≤ 100)) (by decide +kernel : modesL.all _ = true) w.md)
    by_cases e : σ.mode = "after body"
    · by_cases e2 : (σ.ctx != -1) = true
      · have hq : actN σ (.fin n) "after" = refN σ (.fin n) := (if_pos e).trans (if_pos e2)
        rw [hq] at h
        walk_at "m.run"
        refine w_law_refuse (t := .fin n) hpu F L1 (by omega) trivial fun H2 L2 k2 => ?_
        walk_at "m.run"
        exact h _ _ L2 (k1.trans k2)
      · have hq : actN σ (.fin n) "after" = { σ with mode := "after " ++ σ.mode } := (if_pos e).trans (if_neg e2)
        rw [hq] at h
        walk_at "m.run"
        refine OP_add_str (by have : (Str.ofString "after ").length = 6 := by decide
                              omega) ?_
        walk_at "m.run"
        refine ⟨_, Stored.dict (by walk_at "m.cell") (Nat.le_of_ble_eq_true rfl), ?_⟩
        walk_at "m.run"
        exact h _ _ (L1.mode _) (k1.put' rfl)
    · have hq : actN σ (.fin n) "after" = { σ with mode := "after " ++ σ.mode } := if_neg e
      rw [hq] at h
      walk_at "m.run"
      refine OP_add_str (by have : (Str.ofString "after ").length = 6 := by decide
                            omega) ?_
      walk_at "m.run"
      refine ⟨_, Stored.dict (by walk_at "m.cell") (Nat.le_of_ble_eq_true rfl), ?_⟩
      walk_at "m.run"
      exact h _ _ (L1.mode _) (k1.put' rfl)
  · intro hr h
    refine TS_at rfl rfl ?_
    walk_at "m.run"
    refine w_law_refuse hpu F L1 (by omega) hr fun H2 L2 k2 => ?_
    walk_at "m.run"
    refine ⟨_, Stored.dict (by walk_at "m.cell") (Nat.le_of_ble_eq_true rfl), ?_⟩
    walk_at "m.run"
    have w3 := (w.ref t).mode (m := "in body") (by decide +kernel)
    refine w_body_due hpu F w3 (by omega) (by omega) (L2.mode "in body") hne ht fun H3 k' L3 k3 => ?_
    walk_at "m.run"
    exact h _ _ L3 ((k1.trans (k2.put' rfl)).trans k3)
  · intro h
    refine TS_at rfl rfl ?_
    walk_at "m.run"
    refine w_body_due hpu F w (by omega) (by omega) L1 hne ht fun H3 k' L3 k3 => ?_
    walk_at "m.run"
    exact h _ _ L3 (k1.trans k3)
  · rintro c rfl h
    refine TS_at rfl rfl ?_
    simp only [tkV]
    walk_at "m.run"
    refine w_law_sign hpu F w (by omega) L1 hne (by have := (sign_ok ht).2; omega) fun H2 L2 k2 => ?_
    walk_at "m.run"
    exact h _ _ L2 (k1.trans k2)
  · rintro c rfl h
    refine TS_at rfl rfl ?_
    simp only [tkV]
    walk_at "m.run"
    refine TE_dict (l := .tmp H1.nx) rfl rfl rfl (by simp) (by decide) ?_
    walk_at "m.run"
    refine OP_item_list (x := lnV (σ.stack.headD 0)) (by walk_at "m.cell") (by decide) (by decide) (by rw [hit]; rfl) (fun _ _ => rfl) ?_
    walk_at "m.run"
    refine ⟨by show (["here", "root", "document"] : List Str).Nodup; decide +kernel, by walk_at "m.free", ?_⟩
    walk_at "m.run"
    have L2 : LK k (H1.add (.tmp H1.nx) (.dict [("here", lnV (curP σ.stack)), ("root", lnV (σ.stack.headD 0)), ("document", lnV 0)])) σ := L1.atmp (Nat.le_refl _)
    have k2 : Keep Loc.isL H (H1.add (.tmp H1.nx) (.dict [("here", lnV (curP σ.stack)), ("root", lnV (σ.stack.headD 0)), ("document", lnV 0)])) := k1.tmp' (Nat.le_refl _)
    exact h _ _ (leaf hx hxl L2) (k2.put' rfl)
  · rintro n rfl h
    refine TS_at rfl rfl ?_
    walk_at "m.run"
    refine w_law_leave hpu F w (by omega) (by omega) L1 hne (t := .fin n) trivial fun H2 k' L2 k2 => ?_
    walk_at "m.run"
    exact h _ _ L2 (k1.trans k2)
  · intro h
    refine TS_at rfl rfl ?_
    walk_at "m.run"
    refine w_law_stop hpu F L1 fun H2 k' L2 k2 => ?_
    walk_at "m.run"
    exact h _ _ L2 (k1.trans k2)
  · intro h
    refine TS_at rfl rfl ?_
    walk_at "m.run"
    by_cases e : decide ((σ.stack.length : Int) ≤ 1) = true
    · have hq : actN σ t "stop" = stopN σ := if_pos e
      rw [hq] at h
      have := of_decide_eq_true e
      refine ite_neg (by simp; omega) ?_
      walk_at "m.run"
      refine w_law_stop hpu F L1 fun H2 k' L2 k2 => ?_
      walk_at "m.run"
      exact h _ _ L2 (k1.trans k2)
    · have hq : actN σ t "stop" = stopN (errN σ (.tup [.str "open-elements", .str σ.mode])) := if_neg e
      rw [hq] at h
      have : ¬ ((σ.stack.length : Int) ≤ 1) := fun q => e (decide_eq_true q)
      refine ite_pos (by simp; omega) ?_
      walk_at "m.run"
      refine w_law_stop hpu F (L1.err _) fun H2 k' L2 k2 => ?_
      walk_at "m.run"
      exact h _ _ L2 ((k1.put' rfl).trans k2)
  · rintro n b s rfl h
    refine TS_at rfl rfl ?_
    simp only [tkV]
    walk_at "m.run"
    refine w_law_grow (keeps := true) hpu F w (by omega) L1 hx (Nat.le_of_ble_eq_true rfl) fun H2 k' L2 k2 => ?_
    walk_at "m.run"
    exact h _ _ L2 (k1.trans k2)
  · rintro n b s rfl h
    refine TS_at rfl rfl ?_
    simp only [tkV]
    walk_at "m.run"
    refine w_law_grow (keeps := false) hpu F w (by omega) L1 hx (Nat.le_of_ble_eq_true rfl) fun H2 k' L2 k2 => ?_
    walk_at "m.run"
    exact h _ _ (LK.ack L2 true) (k1.trans k2)
  · rintro n b s rfl h
    refine TS_at rfl rfl ?_
    simp only [tkV]
    walk_at "m.run"
    have w2 := w.note (a := "head") (by decide +kernel) ht
    refine w_law_grow (keeps := false) hpu F w2 (by omega) (L1.err _) hx (Nat.le_of_ble_eq_true rfl) fun H2 k' L2 k2 => ?_
    walk_at "m.run"
    exact h _ _ L2 ((k1.put' rfl).trans k2)
  · rintro c rfl h
    refine TS_at rfl rfl ?_
    simp only [tkV]
    walk_at "m.run"
    refine TE_dict (l := .tmp H1.nx) rfl rfl rfl (by simp) (by decide) ?_
    walk_at "m.run"
    refine OP_item_list (x := lnV (σ.stack.headD 0)) (by walk_at "m.cell") (by decide) (by decide) (by rw [hit]; rfl) (fun _ _ => rfl) ?_
    walk_at "m.run"
    refine ⟨by show (["here", "root", "document"] : List Str).Nodup; decide +kernel, by walk_at "m.free", ?_⟩
    walk_at "m.run"
    have L2 : LK k (H1.add (.tmp H1.nx) (.dict [("here", lnV (curP σ.stack)), ("root", lnV (σ.stack.headD 0)), ("document", lnV 0)])) σ := L1.atmp (Nat.le_refl _)
    have k2 : Keep Loc.isL H (H1.add (.tmp H1.nx) (.dict [("here", lnV (curP σ.stack)), ("root", lnV (σ.stack.headD 0)), ("document", lnV 0)])) := k1.tmp' (Nat.le_refl _)
    exact h _ _ (leaf hr hrl L2) (k2.put' rfl)
  · rintro c rfl h
    refine TS_at rfl rfl ?_
    simp only [tkV]
    walk_at "m.run"
    refine TE_dict (l := .tmp H1.nx) rfl rfl rfl (by simp) (by decide) ?_
    walk_at "m.run"
    refine OP_item_list (x := lnV (σ.stack.headD 0)) (by walk_at "m.cell") (by decide) (by decide) (by rw [hit]; rfl) (fun _ _ => rfl) ?_
    walk_at "m.run"
    refine ⟨by show (["here", "root", "document"] : List Str).Nodup; decide +kernel, by walk_at "m.free", ?_⟩
    walk_at "m.run"
    have L2 : LK k (H1.add (.tmp H1.nx) (.dict [("here", lnV (curP σ.stack)), ("root", lnV (σ.stack.headD 0)), ("document", lnV 0)])) σ := L1.atmp (Nat.le_refl _)
    have k2 : Keep Loc.isL H (H1.add (.tmp H1.nx) (.dict [("here", lnV (curP σ.stack)), ("root", lnV (σ.stack.headD 0)), ("document", lnV 0)])) := k1.tmp' (Nat.le_refl _)
    exact h _ _ (leaf hd hdl L2) (k2.put' rfl)
end
def startsT : List Str := ["frameset", "frame", "html", "noframes", "frameset", "p", "head"]
def endsT : List Str := ["frameset", "html", "frameset", "p", "body", "frame", "noframes"]
def signC : List Nat := [32, 120, 10, 9, 12, 13, 0, 160, 11]
def sgS : Str := " x\n\t\x0c\x0d\x00\u00a0\x0b"
/-- the law's token of a number -/
def tokOf (i : Int) (p : Nat) : Tk :=
  let q := (i.fmod 26).toNat
  if q < 7 then .start (startsT.getD q "") (Str.ofString (toString (p : Int))) ((i.fdiv 26).fmod 2 == 1)
  else if q < 14 then .fin (endsT.getD (q - 7) "")
  else if q < 23 then .ch ⟨#[signC.getD (q - 14) 0]⟩
  else if q = 23 then .com (("c" : Str) ++ Str.ofString (toString (p : Int)))
  else if q = 24 then .doc else .eof
theorem fmod26 (i : Int) : ∃ q : Nat, i.fmod 26 = q ∧ q < 26 ∧ (i.fmod 26).toNat = q := by
  have h1 : 0 ≤ i.fmod 26 := Int.fmod_nonneg_of_pos i (by decide)
  have h2 : i.fmod 26 < 26 := Int.fmod_lt_of_pos i (by decide)
  exact ⟨(i.fmod 26).toNat, by omega, by omega, rfl⟩
theorem pylong26 (i : Int) : Builtin.divisionGoesByPylong i 26 = false := by
  unfold Builtin.divisionGoesByPylong
  show (decide (_ > 300) && _) = false
  rw [Bool.and_eq_false_iff]
  exact .inl (by decide +kernel)
theorem signs_at : ∀ q : Nat, q < 23 → 14 ≤ q → (seqIndex? ((q : Int) - 14) sgS.length).bind (sgS.cps[·]?) = some (signC.getD (q - 14) 0) := by decide +kernel
theorem signs_in : ∀ q : Nat, q < 23 → 14 ≤ q → (⟨#[signC.getD (q - 14) 0]⟩ : Str) ∈ signsL := by decide +kernel
theorem starts_in : ∀ q : Nat, q < 7 → startsT.getD q "" ∈ startsL := by decide +kernel
theorem ends_in : ∀ q : Nat, q < 14 → 7 ≤ q → endsT.getD (q - 7) "" ∈ endsL := by decide +kernel
theorem places_ok : ∀ p : Nat, p < 11 → PyData.strOk (Str.ofString (toString (p : Int))) = true ∧ (("c" : Str) ++ Str.ofString (toString (p : Int))).length ≤ 5 := by decide +kernel
theorem tokOf_ok (i : Int) {p : Nat} (hp : p < 11) : (tokOf i p).ok := by
  obtain ⟨q, h1, h2, h3⟩ := fmod26 i
  unfold tokOf
  simp only [h3]
  have po := places_ok p hp
  split
  · rename_i a; exact ⟨starts_in q a, po.1⟩
  · split
    · rename_i a b; exact ends_in q b (by omega)
    · split
      · rename_i a b c; exact signs_in q c (by omega)
      · split
        · exact ⟨strOk_append (by decide +kernel) po.1, po.2⟩
        · split <;> trivial
section
variable {M : Amb} {d : Nat} {cl : List (Str × Loc)} {ml : List (Str × V)} {H : MH}
theorem w_law_token (F : Facts M.K) {i : Int} {p : Nat} (hp : p < 11) {Q : V → MH → Prop} (h : ∀ H', (∀ l, (∀ j, l = .tmp j → j < H.nx) → H'.c l = H.c l) → H.nx ≤ H'.nx → Q (tkV (tokOf i p)) H') : CALL M (d + 1) cl ml H 701 [.int i, .int p] Q := by
  obtain ⟨q, h1, h2, h3⟩ := fmod26 i
  refine CALL_go (at_law_token F) b_law_token rfl rfl rfl ?_
  walk_at "m.run"
  refine B_split (l := .tmp H.nx) (by decide +kernel) (ys := startsT) (by decide +kernel) (by walk_at "m.free") ?_
  walk_at "m.run"
  refine B_split (l := .tmp (H.nx + 1)) (by decide +kernel) (ys := endsT) (by decide +kernel) (free_tmp (by show max _ _ ≤ _; omega)) ?_
  have hot : ∀ l, (∀ j, l = .tmp j → j < H.nx) → ((H.add (.tmp H.nx) (.list (startsT.map .str))).add (.tmp (H.nx + 1)) (.list (endsT.map .str))).c l = H.c l := fun l hl => add_other (fun e => by have := hl _ e; omega) (add_other (fun e => by have := hl _ e; omega) rfl)
  have hnx : H.nx ≤ ((H.add (.tmp H.nx) (.list (startsT.map .str))).add (.tmp (H.nx + 1)) (.list (endsT.map .str))).nx := by show _ ≤ max (max _ _) _; omega
  have c1 : ((H.add (.tmp H.nx) (.list (startsT.map .str))).add (.tmp (H.nx + 1)) (.list (endsT.map .str))).c (.tmp H.nx) = some (.list (startsT.map .str)) := add_other (fun e => by have := Loc.tmp.inj e; omega) add_same
  have c2 : ((H.add (.tmp H.nx) (.list (startsT.map .str))).add (.tmp (H.nx + 1)) (.list (endsT.map .str))).c (.tmp (H.nx + 1)) = some (.list (endsT.map .str)) := add_same
  revert hot hnx c1 c2
  generalize (H.add (.tmp H.nx) (.list (startsT.map .str))).add (.tmp (H.nx + 1)) (.list (endsT.map .str)) = H1
  intro hot hnx c1 c2
  replace h := h H1 hot hnx
  unfold tokOf at h
  simp only [h3] at h
  walk_at "m.run"
  refine OP_mod (by decide) ?_
  rw [h1]
  walk_at "m.run"
  by_cases e1 : q < 7
  · rw [if_pos e1] at h
    refine ite_pos (by simp; omega) ?_
    walk_at "m.run"
    refine OP_item_list (x := .str (startsT.getD q "")) c1 (by omega) (by omega) ?_ (fun _ _ => rfl) ?_
    · rw [Int.toNat_natCast, List.getElem?_map, List.getD_eq_getElem?_getD, List.getElem?_eq_getElem (by show q < 7; exact e1)]; rfl
    walk_at "m.run"
    refine B_str_int (by omega) ?_
    walk_at "m.run"
    refine OP_fdiv (by decide) (pylong26 i) ?_
    walk_at "m.run"
    refine OP_mod (by decide) ?_
    walk_at "m.run"
    exact h
  rw [if_neg e1] at h
  refine ite_neg (by simp; omega) ?_
  walk_at "m.run"
  by_cases e2 : q < 14
  · rw [if_pos e2] at h
    refine ite_pos (by simp; omega) ?_
    walk_at "m.run"
    refine OP_item_list (x := .str (endsT.getD (q - 7) "")) c2 (by omega) (by omega) ?_ (fun _ _ => rfl) ?_
    · rw [show ((q : Int) - 7).toNat = q - 7 from by omega, List.getElem?_map, List.getD_eq_getElem?_getD, List.getElem?_eq_getElem (by show q - 7 < 7; omega)]; rfl
    walk_at "m.run"
    exact h
  rw [if_neg e2] at h
  refine ite_neg (by simp; omega) ?_
  walk_at "m.run"
  by_cases e3 : q < 23
  · rw [if_pos e3] at h
    refine ite_pos (by simp; omega) ?_
    walk_at "m.run"
    refine OP_item_str (by simp; omega) (signs_at q e3 (by omega)) (fun _ _ => rfl) ?_
    walk_at "m.run"
    exact h
  rw [if_neg e3] at h
  refine ite_neg (by simp; omega) ?_
  walk_at "m.run"
  refine B_str_int (by omega) ?_
  walk_at "m.run"
  refine OP_add_str (by have := (places_ok p hp).2; rw [str_len] at this; omega) ?_
  walk_at "m.run"
  have hq : q = 23 ∨ q = 24 ∨ q = 25 := by omega
  rcases hq with rfl | rfl | rfl
  · rw [if_pos rfl] at h
    walk_at "m.run"
    exact h
  · rw [if_neg (by decide), if_pos rfl] at h
    walk_at "m.run"
    exact h
  · rw [if_neg (by decide), if_neg (by decide)] at h
    walk_at "m.run"
    exact h
end
def noStar : Expr → Bool
  | .Starred _ _ => false
  | _ => true
theorem star_args {env : Env} : ∀ es : List Expr, es.all noStar = true → starEach es env = argTrees es env
  | [], _ => rfl
  | e :: es, h => by
    rw [List.all_cons, Bool.and_eq_true] at h
    have hs : starEach (e :: es) env = (false, eval e env) :: starEach es env := by
      cases e <;> first | rfl | exact absurd h.1 (by simp [noStar])
    rw [hs, star_args es h.2]; rfl
section
variable {M : Amb} {d : Nat} {sc : Scope} {cl : List (Str × Loc)} {ml : List (Str × V)} {H : MH}
theorem TE_list2 {es : List Expr} {pos : Pos} {Q : V → MH → Prop} (ha : es.all noStar = true)
    (h : TEs M d sc cl ml H es fun vs H1 => vs.length ≤ 1000 ∧ H1.free (.tmp H1.nx) ∧ Q (.cell (.tmp H1.nx)) (H1.add (.tmp H1.nx) (.list vs))) : TE M d sc cl ml H (.List es pos) Q := by
  intro A base h₀ outer fenv env L m mm s wd Qm hs c k
  refine List_ ?_
  rw [star_args _ ha, back_args]
  refine h hs c fun a a' H1 w1 h1 t1 q1 x1 r1 c1 => ?_
  refine newList_K c1.F c1.N (fun D h' F' N' hn => ?_) (by rw [r1.length]; exact Nat.le_trans q1.1 (by decide))
  obtain ⟨E, R, C⟩ := new_list (tk := t1) (n := 0) c1 q1.2.1 r1 F' N' hn
  exact k _ _ _ _ h' t1 q1.2.2 (x1.trans E) R C
theorem TE_comp2 {elt iter : Expr} {x : Str} {px : Pos} {scope : Scope} {cl' : List (Str × Loc)} {pos : Pos} {Q : V → MH → Prop}
    (hkind : scope.kind = .function) (hcell : ∀ y ∈ scope.names, y.2 ≠ .cell) (hnames : ∀ y ∈ scope.names, y.2 = .local → scope.names.lookup y.1 = some .local) (hx : (relS scope sc).names.lookup x = some .local)
    (hse : ∀ env v, foldedSetIterable iter env v = pure v)
    (hclos : ∀ env : Env, (∀ y l, cl.lookup y = some l → ∃ a, env.cells.lookup y = some a) → ∃ ccl, closureFor scope env = pure ccl ∧ ∀ y l, cl'.lookup y = some l → cl.lookup y = some l ∧ ccl.lookup y = env.cells.lookup y)
    (G : MH → Nat → List V → MH → Prop)
    (h : TE M d sc cl ml H iter fun v H1 => ∃ l xs, v = .cell l ∧ H1.c l = some (.list xs) ∧ xs.length ≤ 1000 ∧ G H1 0 [] H1 ∧
      (∀ i ys H₁ xi, xs[i]? = some xi → G H1 i ys H₁ → TE M.pur d (relS scope sc) cl' [(x, xi)] H₁ elt fun y H₂ => G H1 (i + 1) (ys ++ [y]) H₂) ∧
      ∀ ys H', G H1 xs.length ys H' → H'.free (.tmp H'.nx) ∧ Q (.cell (.tmp H'.nx)) (H'.add (.tmp H'.nx) (.list ys))) :
    TE M d sc cl ml H (.ListComp elt [⟨.Name x px, iter, [], 0⟩] scope pos) Q := by
  intro A base h₀ outer fenv env L m mm s wd Qm hs c k
  show wpAny _ _ (eval (.ListComp elt [⟨.Name x px, iter, [], 0⟩] scope pos) env) _ _ _
  rw [eval_ListComp]
  obtain ⟨ccl, hc1, hc2⟩ := hclos env fun y l hy => let ⟨a, a1, _⟩ := c.cr y l hy; ⟨a, a1⟩
  refine wpAny_comprehension_free (use := none) rfl (hse env) hc1 hkind hnames (h hs c fun v v' H1 w1 h1 t1 q1 x1 r1 c1 => ?_)
  obtain ⟨l, xs, rfl, hlist, hz, g0, step, hend⟩ := q1
  cases r1 with
  | cell hax =>
    refine comp_block (RR := fun acc C => compPost (model M.prog M.w) A (fun _ _ => False) none Qm acc C) hs c1 hlist hz hkind hcell hx (fun y l1 hy => ?_) hax (G H1) g0 step
      fun D C h' tk wd' H' ys us mC' g E v c' kD kC p n lD oD lC oC DC => ⟨mC', n, fun h2 hs2 => ?_⟩
    · obtain ⟨i1, i2⟩ := hc2 y l1 hy
      obtain ⟨a, a1, a2⟩ := c1.cr y l1 i1
      exact ⟨a, i2.trans a1, a2⟩
    · obtain ⟨hf, q⟩ := hend ys H' g
      obtain ⟨nD, gD⟩ := p
      have E2 : Ext M.pu wd' ((wd'.more D (listOf us.toArray nD)).name (.tmp H'.nx) false D) := Ext.name (c'.rel.free (.tmp H'.nx) false hf) kD
      have F2 : Fr h₀ L h2 m := c'.F.change hs2 lC oC
      have N2 : News h₀ L h2 ((D, listOf us.toArray nD) :: wd'.news) := fun p hp => by
        rcases List.mem_cons.mp hp with rfl | hp
        · exact ⟨(hs2.2 _ DC).trans gD, lD, oD⟩
        · exact ⟨(hs2.2 _ fun e => kC (e ▸ mem_keys hp)).trans (c'.N p hp).1, (c'.N p hp).2⟩
      exact k _ _ _ _ h2 tk q ((x1.trans E).trans E2) (.cell (name_at ..)) (c'.go F2 N2 E2 (c'.rel.name hf kD ⟨D, us, nD, name_at .., .head _, v.ext _ E2⟩))
end
section
variable {M : Amb} {d : Nat} {cl : List (Str × Loc)} {ml : List (Str × V)} {H : MH}
theorem CALL_cells_go {f : Addr} {qual : Str} {st : Stmt} {dV : Value} {xs : List V} {x : Str} {l : Loc} {binds lb : List (Str × V)} {cv : Option V} {s0 : Stmt} {rest : List Stmt} {k : ScopeKind} {nms : List (Str × NameKind)} {g co : Bool} {mo} {Q : V → MH → Prop}
    (hf : FnAt M.K f qual st dV) (hb : Bound M.K qual st dV xs binds) (hbd : bd st = s0 :: rest) (hsc : sco st = { kind := k, names := nms, isGenerator := g, isCoroutine := co, more := mo })
    (hkind : (binds.all fun y => nms.lookup y.1 == some .local || nms.lookup y.1 == some .cell) = true)
    (hcf : ∀ n, cellsFrom n nms [] = [(x, n)]) (hco : co = false) (hgen : g = false) (hk : k = .function)
    (hL : ∀ (wd : WD) (bs : List (Str × Value)), BR M.K wd binds bs → (∀ y u, lb.lookup y = some u → ∃ u', bindL (fun z => nms.lookup z) bs (fun _ => none) y = some u' ∧ VR M.K wd u u') ∧
      (match cv with | some u => ∃ u', bindC (fun z => nms.lookup z) bs (fun _ => none) x = some u' ∧ VR M.K wd u u' | none => True))
    (hl : H.free l) (h : TS M d { kind := k, names := nms, isGenerator := g, isCoroutine := co, more := mo } [(x, l)] lb (H.add l (.var cv)) (s0 :: rest) (backS Q)) : CALL M (d + 1) cl ml H f xs Q := by
  obtain ⟨kV, doc, pm, cdv, ct, oc, an, od, osl, ho, hcd⟩ := hf
  have hb' := hb kV doc pm cdv ct an
  revert ho hb' hbd hsc
  generalize nm st = n
  generalize pr st = p
  generalize bd st = b
  generalize sco st = sc
  rintro rfl rfl ho hb'
  exact CALL_cells (x := x) (l := l) (binds := binds) (lb := lb) (cv := cv) ho hcd hb' hkind hcf hco hgen hk (fun wd bs L' r => hL wd bs r) hl h
/-- the first parameter is a cell's, the second a local -/
theorem CALL_cells2 {f : Addr} {qual : Str} {st : Stmt} {dV : Value} {u v : V} {x y : Str} {l : Loc} {s0 : Stmt} {rest : List Stmt} {k : ScopeKind} {nms : List (Str × NameKind)} {g co : Bool} {mo} {Q : V → MH → Prop}
    (hf : FnAt M.K f qual st dV) (hb : Bound M.K qual st dV [u, v] [(x, u), (y, v)]) (hbd : bd st = s0 :: rest) (hsc : sco st = { kind := k, names := nms, isGenerator := g, isCoroutine := co, more := mo })
    (hx : nms.lookup x = some .cell) (hy : nms.lookup y = some .local)
    (hcf : ∀ n, cellsFrom n nms [] = [(x, n)]) (hco : co = false) (hgen : g = false) (hk : k = .function)
    (hl : H.free l) (h : TS M d { kind := k, names := nms, isGenerator := g, isCoroutine := co, more := mo } [(x, l)] [(y, v)] (H.add l (.var (some u))) (s0 :: rest) (backS Q)) : CALL M (d + 1) cl ml H f [u, v] Q := by
  refine CALL_cells_go hf hb hbd hsc (by simp [hx, hy]) hcf hco hgen hk (fun wd bs r => ?_) hl h
  match r with
  | .cons (v := v0) r0 (.cons (v := v1) r1 .nil) =>
    refine ⟨fun z w hz => ?_, v0, by simp [bindC, hx, hy], r0⟩
    rw [List.lookup_cons] at hz
    split at hz
    · rename_i q
      cases hz
      rw [eq_of_beq q]
      exact ⟨v1, by simp [bindL, hx, hy], r1⟩
    · cases hz
/-- the parameter is a local, the cell is not stored yet -/
theorem CALL_cells1 {f : Addr} {qual : Str} {st : Stmt} {dV : Value} {v : V} {x y : Str} {l : Loc} {s0 : Stmt} {rest : List Stmt} {k : ScopeKind} {nms : List (Str × NameKind)} {g co : Bool} {mo} {Q : V → MH → Prop}
    (hf : FnAt M.K f qual st dV) (hb : Bound M.K qual st dV [v] [(y, v)]) (hbd : bd st = s0 :: rest) (hsc : sco st = { kind := k, names := nms, isGenerator := g, isCoroutine := co, more := mo })
    (hy : nms.lookup y = some .local)
    (hcf : ∀ n, cellsFrom n nms [] = [(x, n)]) (hco : co = false) (hgen : g = false) (hk : k = .function)
    (hl : H.free l) (h : TS M d { kind := k, names := nms, isGenerator := g, isCoroutine := co, more := mo } [(x, l)] [(y, v)] (H.add l (.var none)) (s0 :: rest) (backS Q)) : CALL M (d + 1) cl ml H f [v] Q := by
  refine CALL_cells_go (cv := none) hf hb hbd hsc (by simp [hy]) hcf hco hgen hk (fun wd bs r => ?_) hl h
  match r with
  | .cons (v := v1) r1 .nil =>
    refine ⟨fun z w hz => ?_, trivial⟩
    rw [List.lookup_cons] at hz
    split at hz
    · rename_i q
      cases hz
      rw [eq_of_beq q]
      exact ⟨v1, by simp [bindL, hy], r1⟩
    · cases hz
end
/-- one free name -/
theorem clos_one {x z : Str} {env : Env} {a : Addr} {k : ScopeKind} {g co : Bool} {mo} {p q : Str} (h : env.cells.lookup x = some a) :
    closureFor { kind := k, names := [(p, .local), (q, .local), (z, .globalImplicit), (x, .free)], isGenerator := g, isCoroutine := co, more := mo } env = pure [(x, a)] := by
  unfold closureFor cellOf
  simp [h]
theorem clos_one' {x : Str} {env : Env} {a : Addr} {k : ScopeKind} {g co : Bool} {mo} {p q : Str} (h : env.cells.lookup x = some a) :
    closureFor { kind := k, names := [(p, .local), (q, .local), (x, .free)], isGenerator := g, isCoroutine := co, more := mo } env = pure [(x, a)] := by
  unfold closureFor cellOf
  simp [h]
theorem clos_none {env : Env} {k : ScopeKind} {g co : Bool} {mo} {p q : Str} :
    closureFor { kind := k, names := [(p, .local), (q, .local)], isGenerator := g, isCoroutine := co, more := mo } env = pure [] := by
  unfold closureFor
  simp
mutual
/-- data that lies below the line -/
inductive DW (H : MH) : V → PyData → Prop
  | str (s : Str) : DW H (.str s) (.str s)
  | tup {xs : List V} {ds : List PyData} : DWs H xs ds → DW H (.tup xs) (.tuple ds)
  | list {l : Loc} {xs : List V} {ds : List PyData} : H.c l = some (.list xs) → (∀ k, l = .tmp k → k < H.nx) → DWs H xs ds → DW H (.cell l) (.list ds)
inductive DWs (H : MH) : List V → List PyData → Prop
  | nil : DWs H [] []
  | cons {x : V} {d : PyData} {xs : List V} {ds : List PyData} : DW H x d → DWs H xs ds → DWs H (x :: xs) (d :: ds)
end
mutual
theorem DW.dv {H : MH} : ∀ {x : V} {d : PyData}, DW H x d → DV H x d
  | _, _, .str s => .str s
  | _, _, .tup r => .tup r.dv
  | _, _, .list h _ r => .list h r.dv
theorem DWs.dv {H : MH} : ∀ {xs : List V} {ds : List PyData}, DWs H xs ds → DVs H xs ds
  | _, _, .nil => .nil
  | _, _, .cons a r => .cons a.dv r.dv
end
abbrev noL (_ : Loc) : Bool := false
mutual
theorem DW.keep {H H' : MH} (k : Keep noL H H') : ∀ {x : V} {d : PyData}, DW H x d → DW H' x d
  | _, _, .str s => .str s
  | _, _, .tup r => .tup (r.keep k)
  | _, _, .list h b r => .list ((k.2 _ rfl b).trans h) (fun j e => Nat.lt_of_lt_of_le (b j e) k.1) (r.keep k)
theorem DWs.keep {H H' : MH} (k : Keep noL H H') : ∀ {xs : List V} {ds : List PyData}, DWs H xs ds → DWs H' xs ds
  | _, _, .nil => .nil
  | _, _, .cons a r => .cons (a.keep k) (r.keep k)
end
theorem DWs.append {H : MH} : ∀ {xs ys : List V} {ds es : List PyData}, DWs H xs ds → DWs H ys es → DWs H (xs ++ ys) (ds ++ es)
  | _, _, _, _, .nil, h => h
  | _, _, _, _, .cons a r, h => .cons a (r.append h)
def vD : V → PyData
  | .tup [.str a, .str b] => .tuple [.str a, .str b]
  | _ => .none
/-- a node as data -/
def plainD : Nat → List Nd → Nat → PyData
  | 0, _, _ => .none
  | f + 1, ns, i => match ns[i]? with
    | none => .none
    | some x => if x.kind = "text" then .str x.text else if x.kind = "comment" then .tuple [.str "comment", .str x.text] else .list [.str x.name, .list (x.attrs.map vD), .list (x.kids.map (plainD f ns))]
theorem attrs_dw {N : Nat} {σ : St} {i : Nat} {x : Nd} (o : NdOK N σ i x) (H : MH) : DWs H x.attrs (x.attrs.map vD) := by
  rcases o.ao with e | ⟨a, e, _⟩
  · rw [e]; exact .nil
  · rw [e]; exact .cons (.tup (.cons (.str _) (.cons (.str _) .nil))) .nil
theorem BH.noL {H H' : MH} {σ : St} (h : BH H σ) (k : Keep noL H H') : BH H' σ := h.keep k fun _ _ => rfl
theorem w_plain : ∀ (n : Nat) {M : Amb} (_ : Facts M.K) {N E : Nat} {σ : St} (_ : WF N E σ) (_ : N ≤ 800) {H : MH} (_ : BH H σ) {i : Nat} {x : Nd} (_ : σ.nodes[i]? = some x) (_ : σ.nodes.length - i ≤ n) {d : Nat} {cl : List (Str × Loc)} {ml : List (Str × V)} {Q : V → MH → Prop}
    (_ : ∀ v H', DW H' v (plainD (n + 1) σ.nodes i) → Keep noL H H' → Q v H'), CALL M (d + n + 1) cl ml H 776 [.cell .tree, vi i] Q := by
  intro n
  induction n with
  | zero =>
    intro M F N E σ w hN H hB i x hx hn d cl ml Q h
    have := lt_of_get hx
    omega
  | succ n ih =>
    intro M F N E σ w hN H hB i x hx hn d cl ml Q h
    have hil := lt_of_get hx
    have hzn := w.zn
    have o := w.nd i x hx
    refine CALL_cells2 (l := .tmp H.nx) (at_law_plain F) b_law_plain rfl rfl rfl rfl (fun _ => rfl) rfl rfl rfl (free_tmp (Nat.le_refl _)) ?_
    have hB1 : BH (H.add (.tmp H.nx) (.var (some (.cell .tree)))) σ := hB.atmp
    have hv : (H.add (.tmp H.nx) (.var (some (.cell .tree)))).c (.tmp H.nx) = some (.var (some (.cell .tree))) := add_same
    have k1 : Keep noL H (H.add (.tmp H.nx) (.var (some (.cell .tree)))) := Keep.tmp (Nat.le_refl _)
    have hlt : H.nx < (H.add (.tmp H.nx) (.var (some (.cell .tree)))).nx := by show _ < max _ _; omega
    revert hB1 hv k1 hlt
    generalize H.add (.tmp H.nx) (.var (some (.cell .tree))) = H1
    intro hB1 hv k1 hlt
    have hpD : plainD (n + 1 + 1) σ.nodes i = if x.kind = "text" then .str x.text else if x.kind = "comment" then .tuple [.str "comment", .str x.text] else .list [.str x.name, .list (x.attrs.map vD), .list (x.kids.map (plainD (n + 1) σ.nodes))] := by
      show (match σ.nodes[i]? with | none => _ | some x => _) = _
      rw [hx]
    rw [hpD] at h
    walk_at "m.run"
    by_cases e : x.kind = "text"
    · rw [if_pos e] at h
      walk_at "m.run"
      exact h _ _ (.str _) k1
    rw [if_neg e] at h
    walk_at "m.run"
    by_cases e2 : x.kind = "comment"
    · rw [if_pos e2] at h
      walk_at "m.run"
      exact h _ _ (.tup (.cons (.str _) (.cons (.str _) .nil))) k1
    rw [if_neg e2] at h
    walk_at "m.run"
    refine TE_list2 rfl ?_
    walk_at "m.run"
    have F' : Facts M.pur.K := F
    have hk := hB1.kid hx
    have hkl := o.kl
    refine TE_comp2 (cl' := [("tree", .tmp H.nx)]) rfl (by decide +kernel) (by decide +kernel) (by decide +kernel) (fun _ _ => rfl) (fun env he => ?_) (fun H2 i ys H' => DWs H' ys ((x.kids.take i).map (plainD (n + 1) σ.nodes)) ∧ Keep noL H2 H') ?_
    · obtain ⟨a, ha⟩ := he "tree" (.tmp H.nx) rfl
      refine ⟨[("tree", a)], clos_one ha, fun y l hy => ⟨hy, ?_⟩⟩
      rw [List.lookup_cons] at hy ⊢
      split at hy
      · rename_i q; rw [eq_of_beq q, ha]
      · cases hy
    walk_at "m.run"
    refine ⟨.kid i, x.kids.map vi, rfl, hk, by rw [List.length_map]; omega, ⟨.nil, Keep.refl _⟩, ?_, ?_⟩
    · rintro j ys H2 xi hxi ⟨hys, k2⟩
      rw [List.getElem?_map] at hxi
      cases hj : x.kids[j]? with
      | none => rw [hj] at hxi; cases hxi
      | some y =>
        rw [hj] at hxi; cases hxi
        obtain ⟨z, hz, hzp, _⟩ := o.kid y (List.mem_of_getElem? hj)
        have hz2 := (w.nd y z hz).p2
        have hB2 : BH H2 σ := hB1.noL k2
        have hv2 : H2.c (.tmp H.nx) = some (.var (some (.cell .tree))) := (k2.2 _ rfl fun j e => by cases e; exact hlt).trans hv
        show TE _ _ { kind := _, names := _, isGenerator := _, isCoroutine := _, more := _ } _ _ _ _ _
        walk_at "m.run"
        refine ih F' w hN hB2 hz (by omega) fun v H3 dv k3 => ?_
        refine ⟨?_, k2.trans k3⟩
        rw [List.take_succ, hj, List.map_append]
        exact (hys.keep k3).append (.cons dv .nil)
    · rintro ys H2 ⟨hys, k2⟩
      rw [List.length_map, List.take_length] at hys
      refine ⟨free_tmp (Nat.le_refl _), ?_⟩
      walk_at "m.run"
      refine ⟨free_tmp (Nat.le_refl _), ?_⟩
      walk_at "m.run"
      have hB2 : BH H2 σ := hB1.noL k2
      have ka : Keep noL H2 (H2.add (.tmp H2.nx) (.list ys)) := (Keep.refl _).tmp' (Nat.le_refl _)
      have la : H2.nx < (H2.add (.tmp H2.nx) (.list ys)).nx := by show _ < max _ _; omega
      have ca : (H2.add (.tmp H2.nx) (.list ys)).c (.tmp H2.nx) = some (.list ys) := add_same
      revert ka la ca
      generalize H2.add (.tmp H2.nx) (.list ys) = H3
      intro ka la ca
      have kb : Keep noL H3 (H3.add (.tmp H3.nx) (.list [.str x.name, .cell (.att i), .cell (.tmp H2.nx)])) := (Keep.refl _).tmp' (Nat.le_refl _)
      have lb : H3.nx < (H3.add (.tmp H3.nx) (.list [.str x.name, .cell (.att i), .cell (.tmp H2.nx)])).nx := by show _ < max _ _; omega
      have cb : (H3.add (.tmp H3.nx) (.list [.str x.name, .cell (.att i), .cell (.tmp H2.nx)])).c (.tmp H3.nx) = some (.list [.str x.name, .cell (.att i), .cell (.tmp H2.nx)]) := add_same
      revert kb lb cb
      generalize H3.add (.tmp H3.nx) (.list [.str x.name, .cell (.att i), .cell (.tmp H2.nx)]) = H4
      intro kb lb cb
      have hB4 : BH H4 σ := (hB2.noL ka).noL kb
      refine h _ _ ?_ (((k1.trans k2).trans ka).trans kb)
      refine .list cb (fun j e => by cases e; exact lb) (.cons (.str _) (.cons (.list (hB4.att hx) (fun j e => by cases e) (attrs_dw o H4)) (.cons (.list ?_ (fun j e => by cases e; omega) (hys.keep (ka.trans kb))) .nil)))
      exact (kb.2 _ rfl fun j e => by cases e; exact la).trans ca
theorem ite_of {α : Type} {P : α → Prop} {c : Prop} [Decidable c] {a b : α} (ha : c → P a) (hb : ¬ c → P b) : P (if c then a else b) := by
  by_cases h : c
  · rw [if_pos h]; exact ha h
  · rw [if_neg h]; exact hb h
/- the flag «acknowledged» -/
theorem sigN_ack {σ : St} {c : Str} : (sigN σ c).ack = σ.ack := by
  unfold sigN
  split
  · unfold signN
    split
    · split
      · split <;> rfl
      · rfl
    · rfl
  · rfl
theorem abhN_ack {σ : St} {t : Tk} : (abhN σ t).ack = σ.ack := by unfold abhN; split <;> rfl
theorem bodyN1_ack {σ : St} {t : Tk} : (bodyN1 σ t).ack = σ.ack := by
  cases t with
  | ch c => exact sigN_ack
  | eof => rfl
  | start n a s => show St.ack (if _ then _ else _) = _; split <;> rfl
  | fin n =>
    show St.ack (if _ then (if _ then _ else _) else if _ then _ else if _ then _ else _) = _
    split
    · split <;> rfl
    · split
      · rfl
      · split
        · exact abhN_ack
        · rfl
  | com c => rfl
  | doc => rfl
theorem bodyN_ack {σ : St} {t : Tk} : (bodyN σ t).ack = σ.ack := bodyN1_ack
theorem backN_ack {σ : St} {t : Tk} : (backN σ t).ack = σ.ack := bodyN1_ack
theorem leaveN_ack {σ : St} {t : Tk} : (leaveN σ t).ack = σ.ack := by
  unfold leaveN
  split
  · rfl
  · split
    · split <;> rfl
    · rfl
theorem actN_ack {σ : St} {n b : Str} {s : Bool} {a : Str} (h : σ.ack = false) : (actN σ (.start n b s) a).ack = (a == "void") := by
  by_cases e : a = "void"
  · subst e; rfl
  · rw [show (a == "void") = false from by simp [e]]
    unfold actN
    refine ite_of (P := fun τ : St => τ.ack = false) (fun _ => h) fun _ => ite_of (P := fun τ : St => τ.ack = false) (fun _ => ite_of (P := fun τ : St => τ.ack = false) (fun _ => ite_of (P := fun τ : St => τ.ack = false) (fun _ => h) fun _ => h) fun _ => h) fun _ => ite_of (P := fun τ : St => τ.ack = false) (fun _ => backN_ack.trans h) fun _ => ite_of (P := fun τ : St => τ.ack = false) (fun _ => bodyN_ack.trans h) fun _ => ite_of (P := fun τ : St => τ.ack = false) (fun _ => h) fun _ => ?_
    refine ite_of (P := fun τ : St => τ.ack = false) (fun _ => leaveN_ack.trans h) fun _ => ite_of (P := fun τ : St => τ.ack = false) (fun _ => h) fun _ => ite_of (P := fun τ : St => τ.ack = false) (fun _ => ite_of (P := fun τ : St => τ.ack = false) (fun _ => h) fun _ => h) fun _ => ite_of (P := fun τ : St => τ.ack = false) (fun _ => h) fun _ => ite_of (P := fun τ : St => τ.ack = false) (fun q => absurd q e) fun _ => ite_of (P := fun τ : St => τ.ack = false) (fun _ => h) fun _ => ite_of (P := fun τ : St => τ.ack = false) (fun _ => h) fun _ => h
theorem slash_ok : PyData.strOk slashW = true := by decide +kernel
theorem WF.feed {N E : Nat} {σ : St} (w : WF N E σ) (hN : 5 ≤ N) (hne : σ.stack ≠ []) {t : Tk} (ht : t.ok) : WF (N + 1) (E + 4) (feedN σ t) := by
  have r := (w.ack false).run hN hne ht
  have r' := r.mono (Nat.le_refl _) (Nat.le_succ _)
  unfold feedN
  cases t with
  | start n a s =>
    dsimp only
    split
    · exact r.err (.pair slash_ok (mode_ok r.md))
    · exact r'
  | _ => exact r'
/-- the law's own way with one token -/
def lawN (σ : St) (t : Tk) : St :=
  match t with
  | .start _ _ s => if (s && (actOf σ.mode t != "void")) = true then errN (actN { σ with ack := false } t (actOf σ.mode t)) (.tup [.str slashW, .str (actN { σ with ack := false } t (actOf σ.mode t)).mode]) else actN { σ with ack := false } t (actOf σ.mode t)
  | _ => actN { σ with ack := false } t (actOf σ.mode t)
theorem feed_law {N E : Nat} {σ : St} (w : WF N E σ) {t : Tk} (ht : t.ok) : feedN σ t = lawN σ t := by
  have r : actN { σ with ack := false } t (actOf σ.mode t) = runN { σ with ack := false } t := act_run (w.ack false) ht
  unfold feedN lawN
  cases t with
  | start n a s =>
    dsimp only
    have q : (runN { σ with ack := false } (.start n a s)).ack = (actOf σ.mode (.start n a s) == "void") := by rw [← r]; exact actN_ack rfl
    rw [r, q]
    rfl
  | _ => exact r.symm
/- the html element stays at the bottom -/
def RootS (σ : St) : Prop := ∃ (i : Nat) (r : List Nat) (x : Nd), σ.stack = i :: r ∧ σ.nodes[i]? = some x ∧ x.name = "html"
def Rt (σ : St) : Prop := σ.done = true ∨ RootS σ
theorem RootS.ne {σ : St} (h : RootS σ) : σ.stack ≠ [] := by obtain ⟨i, r, x, e, _⟩ := h; rw [e]; exact List.cons_ne_nil _ _
theorem RootS.ins {σ : St} (h : RootS σ) {nd : Nd} {p : Nat} : RootS (insN σ nd p) := by
  obtain ⟨i, r, x, e, hx, hn⟩ := h
  obtain ⟨ks, g⟩ := insN_old (nd := nd) (p := p) hx
  exact ⟨i, r, _, e, g, hn⟩
theorem RootS.grow {σ : St} (h : RootS σ) {n : Str} {a : List V} : RootS (growN σ n a) := by
  obtain ⟨i, r, x, e, hx, hn⟩ := h
  obtain ⟨ks, g⟩ := insN_old (nd := elN n a) (p := curP σ.stack) hx
  exact ⟨i, r ++ [σ.nodes.length], _, by show σ.stack ++ _ = _; rw [e]; rfl, g, hn⟩
theorem RootS.text {σ : St} (h : RootS σ) {k : Nat} {c : Str} : RootS (setText σ k c) := by
  obtain ⟨i, r, x, e, hx, hn⟩ := h
  obtain ⟨t, g, _⟩ := setText_old (k := k) (c := c) hx
  exact ⟨i, r, _, e, g, hn⟩
theorem RootS.sign {σ : St} (h : RootS σ) {c : Str} : RootS (sigN σ c) := by
  unfold sigN
  split
  · unfold signN
    split
    · split
      · split
        · exact h.text
        · exact h.ins
      · exact h.ins
    · exact h.ins
  · exact h
theorem RootS.pop {σ : St} (h : RootS σ) (hl : 2 ≤ σ.stack.length) : RootS (popN σ) := by
  obtain ⟨i, r, x, e, hx, hn⟩ := h
  cases r with
  | nil => rw [e] at hl; simp at hl
  | cons j r => exact ⟨i, (j :: r).dropLast, x, by show σ.stack.dropLast = _; rw [e]; rfl, hx, hn⟩
theorem RootS.popP {σ : St} (h : RootS σ) (hp : curName σ = "p") : RootS (popN σ) := by
  refine h.pop ?_
  obtain ⟨i, r, x, e, hx, hn⟩ := h
  cases r with
  | nil =>
    exfalso
    have hc : curP σ.stack = i := by rw [e]; rfl
    unfold curName at hp
    rw [hc, hx] at hp
    have hp : x.name = "p" := hp
    rw [hn] at hp
    revert hp; decide
  | cons j r => rw [e]; simp
theorem RootS.abh {σ : St} (h : RootS σ) {t : Tk} : RootS (abhN σ t) := by unfold abhN; split <;> exact h
theorem RootS.body1 {σ : St} (h : RootS σ) {t : Tk} : Rt (bodyN1 σ t) := by
  cases t with
  | ch c => exact .inr h.sign
  | eof => exact .inl rfl
  | start n a s =>
    show Rt (if _ then _ else _)
    split
    · exact .inr h.grow
    · exact .inr h
  | fin n =>
    show Rt (if _ then (if _ then _ else _) else if _ then _ else if _ then _ else _)
    split
    · split
      · rename_i e; exact .inr (h.popP e)
      · exact .inr h
    · split
      · exact .inr h
      · split
        · exact .inr (RootS.abh (σ := { σ with mode := "after body" }) h)
        · exact .inr h
  | com c => exact .inr h
  | doc => exact .inr h
theorem RootS.body {σ : St} (h : RootS σ) {t : Tk} : Rt (bodyN σ t) := RootS.body1 (σ := noteN σ σ.mode t) h
theorem RootS.back {σ : St} (h : RootS σ) {t : Tk} : Rt (backN σ t) := RootS.body (σ := { refN σ t with mode := "in body" }) h
theorem RootS.head {σ : St} (h : RootS σ) {t : Tk} : RootS (headN σ t) := by
  cases t with
  | start n a s => exact RootS.ins (σ := noteN σ "head" (.start n a s)) h
  | _ => exact h
theorem RootS.leave {σ : St} (h : RootS σ) {t : Tk} : RootS (leaveN σ t) := by
  unfold leaveN
  split
  · exact h
  · rename_i e
    have hl : 2 ≤ σ.stack.length := by simp only [decide_eq_true_eq] at e; omega
    split
    · split <;> exact h.pop hl
    · exact h.pop hl
theorem RootS.act {σ : St} (h : RootS σ) {t : Tk} {a : Str} : Rt (actN σ t a) := by
  have h0 : Rt σ := .inr h
  unfold actN
  refine ite_of (fun _ => h0) fun _ => ite_of (fun _ => ite_of (fun _ => ite_of (fun _ => h0) fun _ => h0) fun _ => h0) fun _ => ite_of (fun _ => h.back) fun _ => ite_of (fun _ => h.body) fun _ => ite_of (fun _ => ?_) fun _ => ?_
  · cases t with
    | ch c => exact .inr h.sign
    | com c => exact .inr h.ins
    | _ => exact h0
  refine ite_of (fun _ => .inr h.leave) fun _ => ite_of (fun _ => .inl rfl) fun _ => ite_of (fun _ => ite_of (fun _ => .inl rfl) fun _ => .inl rfl) fun _ => ite_of (fun _ => ?_) fun _ => ite_of (fun _ => ?_) fun _ => ite_of (fun _ => .inr h.head) fun _ => ite_of (fun _ => ?_) fun _ => ?_
  · cases t with
    | start n b s => exact .inr h.grow
    | _ => exact h0
  · cases t with
    | start n b s => exact .inr (RootS.ins (σ := σ) h)
    | _ => exact h0
  · cases t with
    | com c => exact .inr h.ins
    | _ => exact h0
  · cases t with
    | com c => exact .inr h.ins
    | _ => exact h0
theorem RootS.law {σ : St} (h : RootS σ) {t : Tk} : Rt (lawN σ t) := by
  have r : Rt (actN { σ with ack := false } t (actOf σ.mode t)) := RootS.act (σ := { σ with ack := false }) h
  unfold lawN
  cases t with
  | start n a s => dsimp only; split <;> exact r
  | _ => exact r
/- the page as data -/
theorem depthAll_le {k : Nat} : ∀ {ds : List PyData}, (∀ d ∈ ds, d.depth ≤ k) → PyData.depthAll ds ≤ k
  | [], _ => by simp [PyData.depthAll]
  | d :: r, h => by
    have h1 := h d (.head _)
    have h2 := depthAll_le (ds := r) fun d hd => h d (.tail _ hd)
    simp only [PyData.depthAll]; omega
theorem layAll_of : ∀ {ds : List PyData}, (∀ d ∈ ds, d.canLay0 = true) → PyData.canLayAll0 ds = true
  | [], _ => rfl
  | d :: r, h => by
    have h1 := h d (.head _)
    have h2 := layAll_of (ds := r) fun d hd => h d (.tail _ hd)
    simp only [PyData.canLayAll0, h1, h2]; rfl
theorem attrs_ok {N : Nat} {σ : St} {i : Nat} {x : Nd} (o : NdOK N σ i x) : PyData.canLayAll0 (x.attrs.map vD) = true ∧ PyData.depthAll (x.attrs.map vD) ≤ 1 := by
  rcases o.ao with e | ⟨a, e, ha⟩
  · rw [e]; exact ⟨rfl, by simp [PyData.depthAll]⟩
  · rw [e]
    have hn : PyData.strOk ("n" : Str) = true := by decide +kernel
    refine ⟨?_, ?_⟩
    · show PyData.canLayAll0 [.tuple [.str "n", .str a]] = true
      simp [PyData.canLayAll0, PyData.canLay0, ha, hn]
    · show PyData.depthAll [.tuple [.str "n", .str a]] ≤ 1
      simp [PyData.depth, PyData.depthAll]
theorem plainD_at {f : Nat} {ns : List Nd} {i : Nat} {x : Nd} (hx : ns[i]? = some x) : plainD (f + 1) ns i = if x.kind = "text" then .str x.text else if x.kind = "comment" then .tuple [.str "comment", .str x.text] else .list [.str x.name, .list (x.attrs.map vD), .list (x.kids.map (plainD f ns))] := by
  show (match ns[i]? with | none => _ | some x => _) = _
  rw [hx]
theorem plain_ok {N E : Nat} {σ : St} (w : WF N E σ) : ∀ (n i : Nat), σ.nodes.length - i ≤ n → (plainD (n + 1) σ.nodes i).canLay0 = true ∧ (plainD (n + 1) σ.nodes i).depth ≤ 2 * n + 2 := by
  intro n
  induction n with
  | zero =>
    intro i hi
    have hx : σ.nodes[i]? = none := List.getElem?_eq_none (by omega)
    have : plainD (0 + 1) σ.nodes i = .none := by show (match σ.nodes[i]? with | none => _ | some x => _) = _; rw [hx]
    rw [this]
    exact ⟨rfl, by simp [PyData.depth]⟩
  | succ n ih =>
    intro i hi
    cases hx : σ.nodes[i]? with
    | none =>
      have : plainD (n + 1 + 1) σ.nodes i = .none := by show (match σ.nodes[i]? with | none => _ | some x => _) = _; rw [hx]
      rw [this]
      exact ⟨rfl, by simp [PyData.depth]⟩
    | some x =>
      have o := w.nd i x hx
      have hil := lt_of_get hx
      rw [plainD_at hx]
      split
      · exact ⟨o.so, by simp [PyData.depth]⟩
      split
      · refine ⟨?_, by simp [PyData.depth, PyData.depthAll]⟩
        have : PyData.strOk ("comment" : Str) = true := by decide +kernel
        simp [PyData.canLay0, PyData.canLayAll0, o.so, this]
      · obtain ⟨a1, a2⟩ := attrs_ok o
        have kk : ∀ d ∈ x.kids.map (plainD (n + 1) σ.nodes), d.canLay0 = true ∧ d.depth ≤ 2 * n + 2 := fun d hd => by
          obtain ⟨j, hj, rfl⟩ := List.mem_map.mp hd
          obtain ⟨y, hy, hp, _⟩ := o.kid j hj
          have := (w.nd j y hy).p2
          exact ih j (by omega)
        have k1 := layAll_of fun d hd => (kk d hd).1
        have k2 := depthAll_le fun d hd => (kk d hd).2
        refine ⟨?_, ?_⟩
        · simp [PyData.canLay0, PyData.canLayAll0, o.sn, a1, k1]
        · simp only [PyData.depth, PyData.depthAll]; omega
theorem LK.att {k : Nat} {H : MH} {σ : St} (h : LK k H σ) {p : Nat} {x : Nd} (hp : isEl σ p = some x) : H.c (.latt p) = some (.list x.attrs) := h.at (by show Option.map _ _ = _; rw [hp]; rfl) rfl
theorem DVs.map {H : MH} {α : Type} {f : α → V} {g : α → PyData} : ∀ {l : List α}, (∀ a ∈ l, DV H (f a) (g a)) → DVs H (l.map f) (l.map g)
  | [], _ => .nil
  | a :: r, h => .cons (h a (.head _)) (DVs.map fun a ha => h a (.tail _ ha))
theorem page_dv {N E k : Nat} {σ : St} {H : MH} (w : WF N E σ) (L : LK k H σ) : ∀ (n i : Nat) (x : Nd), isEl σ i = some x → σ.nodes.length - i ≤ n → DV H (lnV i) (plainD (n + 1) σ.nodes i) := by
  intro n
  induction n with
  | zero =>
    intro i x hi hn
    have := lt_of_get (isEl_get hi).1
    omega
  | succ n ih =>
    intro i x hi hn
    obtain ⟨hx, hk, hc⟩ := isEl_get hi
    have o := w.nd i x hx
    rw [plainD_at hx, if_neg (by rcases hk with e | e <;> rw [e] <;> decide), if_neg (by rcases hk with e | e <;> rw [e] <;> decide)]
    refine .list (L.node hi) (.cons (.str _) (.cons (.list (L.att hi) (attrs_dw o H).dv) (.cons (.list (L.kid hi) (DVs.map fun j hj => ?_)) .nil)))
    obtain ⟨y, hy, hp, hjc, hyk⟩ := o.kid j hj
    have hp2 := (w.nd j y hy).p2
    by_cases e1 : y.kind = "text"
    · rw [plainD_at hy, if_pos e1]
      have : kidV σ.nodes j = .str y.text := by unfold kidV; rw [hy]; exact if_pos e1
      rw [this]; exact .str _
    · by_cases e2 : y.kind = "comment"
      · rw [plainD_at hy, if_neg e1, if_pos e2]
        have : kidV σ.nodes j = .tup [.str "comment", .str y.text] := by unfold kidV; rw [hy]; exact (if_neg e1).trans (if_pos e2)
        rw [this]; exact .tup (.cons (.str _) (.cons (.str _) .nil))
      · have : kidV σ.nodes j = lnV j := by unfold kidV; rw [hy]; exact (if_neg e1).trans (if_neg e2)
        rw [this]
        refine ih j y (isEl_of hy (.inl ?_) hjc) (by omega)
        rcases hyk with h | h | h
        · exact h
        · exact absurd h e1
        · exact absurd h e2
/-- what a call named, and what is dropped behind it -/
def MH.forget (H : MH) (p : Loc → Bool) : MH := ⟨fun l => if p l = true then none else H.c l, H.nx⟩
def WD.forget (w : WD) (p : Loc → Bool) : WD := ⟨fun l b => if p l = true then none else w.ρ l b, w.news⟩
theorem ints_vr {K : Frag} {w w' : WD} : ∀ {ys : List Int} {vs : List Value}, VRs K w (ys.map .int) vs → VRs K w' (ys.map .int) vs
  | [], _, .nil => .nil
  | _ :: _, _, .cons (.int i t) r => .cons (.int i t) (ints_vr r)
theorem CALL_forget {M : Amb} {d : Nat} {cl : List (Str × Loc)} {ml : List (Str × V)} {H : MH} {a : Addr} {xs : List V} {Q : V → MH → Prop} (p : Loc → Bool) (hp : ∀ l, p l = true → H.free l)
    (hflat : ∀ l c, p l = false → H.c l = some c → ∃ ys : List Int, c = .list (ys.map .int))
    (h : CALL M d cl ml H a xs fun v H' => (∃ b, v = .bool b) ∧ (∀ l, p l = false → H'.c l = H.c l) ∧ Q v (H'.forget p)) : CALL M d cl ml H a xs Q := by
  intro A base h₀ outer fenv env L m mm s wd R xs' c r k
  refine h c r fun v v' H' wd' h' tk' q E rv c' => ?_
  obtain ⟨⟨b, rfl⟩, hk, q⟩ := q
  have ρe : ∀ l b, (wd'.forget p).ρ l b = if p l = true then none else wd'.ρ l b := fun _ _ => rfl
  have some_of : ∀ {l b a}, (wd'.forget p).ρ l b = some a → p l = false ∧ wd'.ρ l b = some a := fun {l b a} h => by
    rw [ρe] at h
    cases hq : p l with
    | true => rw [hq, if_pos rfl] at h; cases h
    | false => rw [hq, if_neg (by decide)] at h; exact ⟨rfl, h⟩
  have of_some : ∀ {l b a}, p l = false → wd'.ρ l b = some a → (wd'.forget p).ρ l b = some a := fun {l b a} hq h => by rw [ρe, hq, if_neg (by decide)]; exact h
  have E2 : Ext M.pu wd (wd'.forget p) := by
    refine ⟨fun l b a hl => ?_, fun l b a hl => E.new l b a (some_of hl).2, E.pers, E.kin, E.pure⟩
    cases hq : p l with
    | true => rw [c.rel.free l b (hp l hq)] at hl; cases hl
    | false => exact of_some hq (E.sub l b a hl)
  have R2 : Rel M.K M.prog M.w (wd'.forget p) (H'.forget p) := by
    refine ⟨fun l x hx => ?_, fun l b l' b' a h1 h2 => c'.rel.inj l b l' b' a (some_of h1).2 (some_of h2).2, c'.rel.nod, fun l b a hl => c'.rel.dom l b a (some_of hl).2, fun l b hf => ?_⟩
    · have hx : (if p l = true then none else H'.c l) = some x := hx
      cases hq : p l with
      | true => rw [hq, if_pos rfl] at hx; cases hx
      | false =>
        rw [hq, if_neg (by decide)] at hx
        obtain ⟨ys, rfl⟩ := hflat l x hq ((hk l hq).symm.trans hx)
        obtain ⟨a, vs, n, e1, e2, e3⟩ := c'.rel.cells l _ hx
        exact ⟨a, vs, n, of_some hq e1, e2, ints_vr e3⟩
    · rw [ρe]
      cases hq : p l with
      | true => rw [if_pos rfl]
      | false =>
        rw [if_neg (by decide)]
        refine c'.rel.free l b ⟨hf.1, fun n => ?_⟩
        have := hf.2 n
        have this : (if p l = true then none else H'.c l) = none := this
        rwa [hq, if_neg (by decide)] at this
  cases rv
  exact k (.bool b) _ (H'.forget p) (wd'.forget p) h' tk' q E2 (.bool b) (c.go c'.F c'.N E2 R2)
def Loc.isT : Loc → Bool
  | .tree | .kinds | .spaces | .names | .attrs | .texts | .parents | .children | .contents | .kid _ | .att _ => true
  | _ => false
/-- the builder as it is made -/
def st0 : St := ⟨[⟨"document", "", "", [], "", -1, []⟩], [], "initial", [], false, false, -1, -1⟩
section
variable {M : Amb} {d : Nat} {cl : List (Str × Loc)} {ml : List (Str × V)} {H : MH}
theorem w_tree (hpu : M.pu = false) (F : Facts M.K) (hT : ∀ l, l.isT = true → H.c l = none) {Q : V → MH → Prop}
    (h : ∀ H', (∀ l, l.isT = true → H'.c l = bh st0 l) → (∀ l, l.isT = false → H'.c l = H.c l) → H'.nx = H.nx → Q (.cell .tree) H') : CALL M (d + 3) cl ml H 411 [] Q := by
  refine CALL_cls F.cls.2.2.1.1 F.cls.2.2.1.2.1 F.cls.2.2.1.2.2 (free_of (hT .tree rfl) fun _ => nofun) ?_
  refine CALL_go (at_Tree_init F) b_Tree_init rfl rfl rfl ?_
  have t1 := hT .tree rfl
  have t2 := hT .kinds rfl
  have t3 := hT .spaces rfl
  have t4 := hT .names rfl
  have t5 := hT .attrs rfl
  have t6 := hT .texts rfl
  have t7 := hT .parents rfl
  have t8 := hT .children rfl
  have t9 := hT .contents rfl
  have t10 := hT (.kid 0) rfl
  have t11 := hT (.att 0) rfl
  walk_at "m.run"
  refine TE_list (l := .kinds) (fun _ => rfl) ?_
  walk_at "m.run"
  refine ⟨free_of (by walk_at "m.cell2") (fun _ => nofun), ?_⟩
  walk_at "m.run"
  refine TE_list (l := .spaces) (fun _ => rfl) ?_
  walk_at "m.run"
  refine ⟨free_of (by walk_at "m.cell2") (fun _ => nofun), ?_⟩
  walk_at "m.run"
  refine TE_list (l := .names) (fun _ => rfl) ?_
  walk_at "m.run"
  refine ⟨free_of (by walk_at "m.cell2") (fun _ => nofun), ?_⟩
  walk_at "m.run"
  refine TE_list (l := .attrs) (fun _ => rfl) ?_
  walk_at "m.run"
  refine ⟨free_of (by walk_at "m.cell2") (fun _ => nofun), ?_⟩
  walk_at "m.run"
  refine TE_list (l := .texts) (fun _ => rfl) ?_
  walk_at "m.run"
  refine ⟨free_of (by walk_at "m.cell2") (fun _ => nofun), ?_⟩
  walk_at "m.run"
  refine TE_list (l := .parents) (fun _ => rfl) ?_
  walk_at "m.run"
  refine ⟨free_of (by walk_at "m.cell2") (fun _ => nofun), ?_⟩
  walk_at "m.run"
  refine TE_list (l := .children) (fun _ => rfl) ?_
  walk_at "m.run"
  refine ⟨free_of (by walk_at "m.cell2") (fun _ => nofun), ?_⟩
  walk_at "m.run"
  refine TE_dict_nil (l := .contents) (free_of (by walk_at "m.cell2") fun _ => nofun) ?_
  walk_at "m.run"
  refine CALL_fn (at_Tree_add F) (b_Tree_add2 F) rfl ?_
  refine TS_go rfl rfl ?_
  walk_at "m.run"
  refine B_list_copy (l := .att 0) (free_of (by walk_at "m.cell2") (fun _ => nofun)) (by decide) ?_
  walk_at "m.run"
  refine TE_list (l := .kid 0) (fun _ => rfl) ?_
  walk_at "m.run"
  refine ⟨free_of (by walk_at "m.cell2") (fun _ => nofun), ?_⟩
  walk_at "m.run"
  refine h _ (fun l hl => ?_) (fun l hl => ?_) rfl
  · cases l
    case kid i =>
      by_cases e : i = 0
      · subst e; walk_at "m.cell"
      · have e' : Loc.kid i ≠ Loc.kid 0 := fun z => e (Loc.kid.inj z)
        have : bh st0 (.kid i) = none := by
          show Option.map _ _ = none
          rw [List.getElem?_eq_none (by show 1 ≤ i; omega)]; rfl
        rw [this]
        (repeat' (first | exact hT _ rfl | (refine' put_other ?_ ?_) | (refine' add_other ?_ ?_) | exact e' | (intro e; cases e; done)))
    case att i =>
      by_cases e : i = 0
      · subst e; walk_at "m.cell"
      · have e' : Loc.att i ≠ Loc.att 0 := fun z => e (Loc.att.inj z)
        have : bh st0 (.att i) = none := by
          show Option.map _ _ = none
          rw [List.getElem?_eq_none (by show 1 ≤ i; omega)]; rfl
        rw [this]
        (repeat' (first | exact hT _ rfl | (refine' put_other ?_ ?_) | (refine' add_other ?_ ?_) | exact e' | (intro e; cases e; done)))
    all_goals first | (cases hl; done) | ((refine' Eq.trans (b := some _) ?h1 ?h2); (case h1 => walk_at "m.cell"); (case h2 => exact rfl))
  · cases l <;> first | (cases hl; done) | (repeat' (first | exact rfl | (refine' put_other ?_ ?_) | (refine' add_other ?_ ?_) | (intro e; cases e; done)))
end
section
variable {M : Amb} {d : Nat} {cl : List (Str × Loc)} {ml : List (Str × V)} {H : MH}
def rules5 : List (Str × V) := [("after body", .glob 617), ("in frameset", .glob 638), ("after frameset", .glob 645), ("after after body", .glob 659), ("after after frameset", .glob 666)]
theorem w_end_rules (F : Facts M.K) (hf : H.c .rules = none) {Q : V → MH → Prop} (h : Q (.cell .rules) (H.add .rules (.dict rules5))) : CALL M (d + 1) cl ml H 673 [] Q := by
  refine CALL_go (at_end_rules F) b_end_rules rfl rfl rfl ?_
  walk_at "m.run"
  refine TE_dict (l := .rules) rfl rfl rfl (by simp) (by decide) ?_
  walk_at "m.run"
  refine ⟨by show (["after body", "in frameset", "after frameset", "after after body", "after after frameset"] : List Str).Nodup; decide +kernel, free_of hf (fun _ => nofun), ?_⟩
  walk_at "m.run"
  exact h
theorem w_stack_new (hpu : M.pu = false) (F : Facts M.K) (h1 : H.c .stack = none) (h2 : H.c .items = none) {Q : V → MH → Prop}
    (h : ∀ H', H'.c .stack = bh st0 .stack → H'.c .items = bh st0 .items → (∀ l, l ≠ .stack → l ≠ .items → H'.c l = H.c l) → H'.nx = H.nx → Q (.cell .stack) H') : CALL M (d + 2) cl ml H 294 [.cell .tree] Q := by
  refine CALL_cls F.cls.2.1.1 F.cls.2.1.2.1 F.cls.2.1.2.2 (free_of h1 fun _ => nofun) ?_
  refine CALL_go (at_OpenStack_init F) b_OpenStack_init rfl rfl rfl ?_
  walk_at "m.run"
  refine TE_list (l := .items) (fun _ => rfl) ?_
  walk_at "m.run"
  refine ⟨free_of (by walk_at "m.cell2") (fun _ => nofun), ?_⟩
  walk_at "m.run"
  refine h _ ?_ ?_ (fun l a b => ?_) rfl
  · (refine' Eq.trans (b := some _) ?h1 ?h2); (case h1 => walk_at "m.cell"); (case h2 => exact rfl)
  · (refine' Eq.trans (b := some _) ?h1 ?h2); (case h1 => walk_at "m.cell"); (case h2 => exact rfl)
  · (repeat' (first | exact rfl | assumption | (refine' put_other ?_ ?_) | (refine' add_other ?_ ?_)))
theorem w_fmt_new (hpu : M.pu = false) (F : Facts M.K) (h1 : H.c .fmt = none) (h2 : H.c .fitems = none) {Q : V → MH → Prop}
    (h : ∀ H', H'.c .fmt = bh st0 .fmt → H'.c .fitems = bh st0 .fitems → (∀ l, l ≠ .fmt → l ≠ .fitems → H'.c l = H.c l) → H'.nx = H.nx → Q (.cell .fmt) H') : CALL M (d + 2) cl ml H 133 [.cell .tree] Q := by
  refine CALL_cls F.cls.1.1 F.cls.1.2.1 F.cls.1.2.2 (free_of h1 fun _ => nofun) ?_
  refine CALL_go (at_Formatting_init F) b_Formatting_init rfl rfl rfl ?_
  walk_at "m.run"
  refine TE_list (l := .fitems) (fun _ => rfl) ?_
  walk_at "m.run"
  refine ⟨free_of (by walk_at "m.cell2") (fun _ => nofun), ?_⟩
  walk_at "m.run"
  refine h _ ?_ ?_ (fun l a b => ?_) rfl
  · (refine' Eq.trans (b := some _) ?h1 ?h2); (case h1 => walk_at "m.cell"); (case h2 => exact rfl)
  · (refine' Eq.trans (b := some _) ?h1 ?h2); (case h1 => walk_at "m.cell"); (case h2 => exact rfl)
  · (repeat' (first | exact rfl | assumption | (refine' put_other ?_ ?_) | (refine' add_other ?_ ?_)))
theorem w_builder (hpu : M.pu = false) (F : Facts M.K) (hr : H.c .rules = some (.dict rulesD)) (hf : ∀ l, l.isB = true → l ≠ .rules → H.c l = none) {Q : V → MH → Prop}
    (h : ∀ H', BH H' st0 → Keep Loc.isB H H' → Q (.cell .builder) H') : CALL M (d + 5) cl ml H 489 [.cell .rules] Q := by
  refine CALL_cls F.cls.2.2.2.1.1 F.cls.2.2.2.1.2.1 F.cls.2.2.2.1.2.2 (free_of (hf .builder rfl (by intro e; cases e)) fun _ => nofun) ?_
  refine CALL_go (at_Builder_init F) (b_Builder_init F) rfl rfl rfl ?_
  walk_at "m.run"
  refine w_tree hpu F (fun l hl => ?_) fun H1 hT1 hT2 hn1 => ?_
  · refine put_other (fun e => by subst e; cases hl) (add_other (fun e => by subst e; cases hl) (hf l (by cases l <;> first | rfl | (cases hl; done)) (fun e => by subst e; cases hl)))
  have hb1 : H1.c .builder = some (.inst 489 (setF [] "rules" (.cell .rules))) := (hT2 _ rfl).trans put_same
  have ho1 : ∀ l, l.isT = false → l ≠ .builder → H1.c l = H.c l := fun l a b => (hT2 l a).trans (put_other b (add_other b rfl))
  walk_at "m.run"
  refine w_stack_new hpu F (put_other (by intro e; cases e) ((ho1 _ rfl (by intro e; cases e)).trans (hf _ rfl (by intro e; cases e)))) (put_other (by intro e; cases e) ((ho1 _ rfl (by intro e; cases e)).trans (hf _ rfl (by intro e; cases e)))) fun H2 hs1 hs2 hs3 hn2 => ?_
  have hb2 : H2.c .builder = some (.inst 489 (setF (setF [] "rules" (.cell .rules)) "tree" (.cell .tree))) := (hs3 _ (by intro e; cases e) (by intro e; cases e)).trans put_same
  have ho2 : ∀ l, l.isT = false → l ≠ .builder → l ≠ .stack → l ≠ .items → H2.c l = H.c l := fun l a b c e => (hs3 l c e).trans ((put_other b rfl).trans (ho1 l a b))
  walk_at "m.run"
  refine w_fmt_new hpu F (put_other (by intro e; cases e) ((ho2 _ rfl (by intro e; cases e) (by intro e; cases e) (by intro e; cases e)).trans (hf _ rfl (by intro e; cases e)))) (put_other (by intro e; cases e) ((ho2 _ rfl (by intro e; cases e) (by intro e; cases e) (by intro e; cases e)).trans (hf _ rfl (by intro e; cases e)))) fun H3 hm1 hm2 hm3 hn3 => ?_
  have hb3 : H3.c .builder = some (.inst 489 (setF (setF (setF [] "rules" (.cell .rules)) "tree" (.cell .tree)) "stack" (.cell .stack))) := (hm3 _ (by intro e; cases e) (by intro e; cases e)).trans put_same
  have ho3 : ∀ l, l.isT = false → l ≠ .builder → l ≠ .stack → l ≠ .items → l ≠ .fmt → l ≠ .fitems → H3.c l = H.c l := fun l a b c e f g => (hm3 l f g).trans ((put_other b rfl).trans (ho2 l a b c e))
  have e1 : H3.c .modes = none := (ho3 _ rfl (by intro e; cases e) (by intro e; cases e) (by intro e; cases e) (by intro e; cases e) (by intro e; cases e)).trans (hf _ rfl (by intro e; cases e))
  have e2 : H3.c .owners = none := (ho3 _ rfl (by intro e; cases e) (by intro e; cases e) (by intro e; cases e) (by intro e; cases e) (by intro e; cases e)).trans (hf _ rfl (by intro e; cases e))
  have e3 : H3.c .errors = none := (ho3 _ rfl (by intro e; cases e) (by intro e; cases e) (by intro e; cases e) (by intro e; cases e) (by intro e; cases e)).trans (hf _ rfl (by intro e; cases e))
  have e4 : H3.c .pending = none := (ho3 _ rfl (by intro e; cases e) (by intro e; cases e) (by intro e; cases e) (by intro e; cases e) (by intro e; cases e)).trans (hf _ rfl (by intro e; cases e))
  have e5 : H3.c .rules = some (.dict rulesD) := (ho3 _ rfl (by intro e; cases e) (by intro e; cases e) (by intro e; cases e) (by intro e; cases e) (by intro e; cases e)).trans hr
  have e6 : H3.c .stack = bh st0 .stack := (hm3 _ (by intro e; cases e) (by intro e; cases e)).trans ((put_other (by intro e; cases e) rfl).trans hs1)
  have e7 : H3.c .items = bh st0 .items := (hm3 _ (by intro e; cases e) (by intro e; cases e)).trans ((put_other (by intro e; cases e) rfl).trans hs2)
  have e8 : ∀ l, l.isT = true → H3.c l = bh st0 l := fun l hl => (hm3 l (fun e => by subst e; cases hl) (fun e => by subst e; cases hl)).trans ((put_other (fun e => by subst e; cases hl) rfl).trans ((hs3 l (fun e => by subst e; cases hl) (fun e => by subst e; cases hl)).trans ((put_other (fun e => by subst e; cases hl) rfl).trans (hT1 l hl))))
  have hn : H3.nx = H.nx := hn3.trans (hn2.trans hn1)
  have ho4 : ∀ l, l.isB = false → H3.c l = H.c l := fun l hl => ho3 l (by cases l <;> first | rfl | (cases hl; done)) (fun e => by subst e; cases hl) (fun e => by subst e; cases hl) (fun e => by subst e; cases hl) (fun e => by subst e; cases hl) (fun e => by subst e; cases hl)
  clear hb1 hb2 hT1 hT2 ho1 ho2 ho3 hs1 hs2 hs3 hn1 hn2 hn3 hm3
  walk_at "m.run"
  refine TE_list (l := .modes) (fun _ => rfl) ?_
  walk_at "m.run"
  refine ⟨free_of (by walk_at "m.cell2") (fun _ => nofun), ?_⟩
  walk_at "m.run"
  refine TE_dict_nil (l := .owners) (free_of (by walk_at "m.cell2") fun _ => nofun) ?_
  walk_at "m.run"
  refine TE_list (l := .errors) (fun _ => rfl) ?_
  walk_at "m.run"
  refine ⟨free_of (by walk_at "m.cell2") (fun _ => nofun), ?_⟩
  walk_at "m.run"
  refine TE_list (l := .pending) (fun _ => rfl) ?_
  walk_at "m.run"
  refine ⟨free_of (by walk_at "m.cell2") (fun _ => nofun), ?_⟩
  walk_at "m.run"
  refine h _ (fun l hl => ?_) ⟨Nat.le_of_eq hn.symm, fun l hl _ => ?_⟩
  · by_cases ht : l.isT = true
    · rw [← e8 l ht]
      cases l <;> first | (cases ht; done) | (repeat' (first | exact rfl | (refine' put_other ?_ ?_) | (refine' add_other ?_ ?_) | (intro e; cases e; done)))
    · cases l <;> first | (cases hl; done) | (exact absurd rfl ht) | (rw [← hm1]; (repeat' (first | exact rfl | (refine' put_other ?_ ?_) | (refine' add_other ?_ ?_) | (intro e; cases e; done))); done) | (rw [← hm2]; (repeat' (first | exact rfl | (refine' put_other ?_ ?_) | (refine' add_other ?_ ?_) | (intro e; cases e; done))); done) | (rw [← e6]; (repeat' (first | exact rfl | (refine' put_other ?_ ?_) | (refine' add_other ?_ ?_) | (intro e; cases e; done))); done) | (rw [← e7]; (repeat' (first | exact rfl | (refine' put_other ?_ ?_) | (refine' add_other ?_ ?_) | (intro e; cases e; done))); done) | ((refine' Eq.trans (b := some _) ?h1 ?h2); (case h1 => walk_at "m.cell"); (case h2 => exact rfl))
  · refine Eq.trans ?_ (ho4 l hl)
    cases l <;> first | (cases hl; done) | (repeat' (first | exact rfl | (refine' put_other ?_ ?_) | (refine' add_other ?_ ?_) | (intro e; cases e; done)))
end
/- the script: a list of the base heap -/
section
variable {M : Amb} {d : Nat} {sc : Scope} {cl : List (Str × Loc)} {ml : List (Str × V)} {H : MH}
/-- a list of ints among the base's entries -/
structure ZList (M : Amb) (a : Addr) (vs : List Value) (ns : List Int) : Prop where
  ex : ∃ o n, (a, o) ∈ M.zs ∧ o.cls = .type "list" ∧ o.data = .seq vs.toArray n
  its : IntsAre vs ns
theorem zlist_of {a : Addr} {vs : List Value} {ns : List Int} (z : ZList M a vs ns) {A : Around} {base h₀ : Heap} {outer : List Env} {fenv env : Env} {L : Addr} {m mm : Str → Option Value} {s : Shared} {wd : WD}
    (c : CX M d A base h₀ outer fenv env L m mm cl ml s wd H) : s.heap.IsList a vs.toArray := by
  obtain ⟨o, n, h1, h2, h3⟩ := z.ex
  exact ⟨o, c.F.keep _ _ (c.Z _ h1), h2, n, h3⟩
theorem ints_get {vs : List Value} {ns : List Int} (h : IntsAre vs ns) : ∀ {i : Nat} {x : Int}, ns[i]? = some x → ∃ t, vs[i]? = some (.int x t) := by
  induction h with
  | nil => intro i x hx; simp at hx
  | cons v t r ih =>
    intro i x hx
    cases i with
    | zero => simp at hx; subst hx; exact ⟨t, rfl⟩
    | succ i => simp only [List.getElem?_cons_succ] at hx ⊢; exact ih hx
theorem B_len_z {a : Addr} {vs : List Value} {ns : List Int} (z : ZList M a vs ns) {Q : V → MH → Prop} (hz : ns.length ≤ 1000) (h : Q (.int ns.length) H) : CALB M d cl ml H (.builtin "len") [.glob a] Q := by
  intro A base h₀ outer fenv env L m mm s wd Qm xs' c r k
  obtain ⟨x', rfl, r1⟩ := one_of r
  cases r1
  have hl := z.its.length
  refine len_list (zlist_of z c) (by rw [List.size_toArray, hl]; omega) ?_
  rw [List.size_toArray, hl]
  exact k _ _ H wd s.heap _ h (Ext.refl _) (.int _ _) (c.tok _)
theorem OP_item_z {value slice : Expr} {a : Addr} {vs : List Value} {ns : List Int} (z : ZList M a vs ns) {i : Int} {x : Int} {Q : V → MH → Prop} (hlo : 0 ≤ i) (hhi : i < 2 ^ 63) (hx : ns[i.toNat]? = some x)
    (hs : ∀ a u, subscripted slice false (.ref a) (.int i u) = operate [.ref a, .int i u] (getItem (.ref a) (.int i u))) (h : Q (.int x) H) : OP2 VR M d cl ml H (subscriptTail value slice) (.glob a) (.int i) Q := by
  intro A base h₀ outer fenv env L m mm s wd Qm x' y' c r1 r2 k
  cases r1; cases r2
  obtain ⟨t, hv⟩ := ints_get z.its hx
  have hl := zlist_of z c
  exact tail_any hl.typeIs slot_list_getitem.lookup (wpAny_getItem_list hl hlo hhi (by simpa using hv) (k _ _ H wd s.heap s.toks h (Ext.refl _) (.int _ _) (c.tok _))) (hs _ _)
/-- a for over the words of a text, the names that stand told -/
theorem T1_forsplit' {x : Str} {xp apos cp pos : Pos} {o : Expr} {name : Str} {body : List Stmt} {pl : Env → Sem Bool} {Q : FV → List (Str × V) → MH → Prop}
    (he : ∀ env, eval (.Call (.Attribute o name apos) [] [] cp) env = (do
      let ov ← eval o env
      standAt apos.atName
      let (f, first) ← holding [ov] (getMethod ov name (pl env))
      callWith cp f first (backTo cp (starEach [] env)) []))
    (slot : Slot "str" name "str.split") (pa : PlainAttrs "str") (hty : typeOf (.builtin "str.split") = pure (.type "method_descriptor"))
    (hk : sc.names.lookup x = some .local) (hse : ∀ env v, foldedSetIterable (.Call (.Attribute o name apos) [] [] cp) env v = pure v) (ys : List Str) (G : Nat → MH → Prop) (fr : List (Str × V))
    (hq : ∀ ml ml' H, SubL ml ml' → Q .next ml H → Q .next ml' H)
    (h : TE M d sc cl ml H o fun v H1 => ∃ w, v = .str w ∧ w.length ≤ 1000 ∧ Txt.words w = ys ∧ G 0 H1 ∧ SubL fr ml)
    (step : ∀ i H₁, i < ys.length → G i H₁ → TS M d sc cl ((x, .str (ys.getD i "")) :: fr) H₁ body (loopS Q fun ml' H' => G (i + 1) H' ∧ SubL fr ml')) (hend : ∀ H', G ys.length H' → Q .next fr H') :
    T1 M d sc cl ml H (.For (.Name x xp) (.Call (.Attribute o name apos) [] [] cp) body [] pos) Q := by
  refine T1_forsplit he slot pa hty hk hse ys (fun i ml H => G i H ∧ SubL fr ml) (TG.mono h fun v H1 ⟨w, e1, e2, e3, g, s⟩ => ⟨w, e1, e2, e3, ⟨g, s⟩, ?_, ?_⟩)
  · rintro i ml₁ H₁ hi ⟨g, s⟩
    refine TX.sub' (fun y v h => ?_) (step i H₁ hi g)
    rw [List.lookup_cons] at h ⊢
    split
    · rename_i e; rw [e] at h; exact h
    · rename_i e; rw [e] at h; exact s.look _ _ h
  · rintro ml' H' ⟨g, s⟩
    exact hq _ _ _ s (hend H' g)
end
/- the context: an element that is no one's child -/
theorem kidV_snoc {ns : List Nd} {nd : Nd} {j : Nat} (hj : j < ns.length) : kidV (ns ++ [nd]) j = kidV ns j := by
  unfold kidV; rw [List.getElem?_append_left hj]
theorem LK.ctx {k : Nat} {H : MH} {σ : St} {nd : Nd} (L : LK k H { σ with ctx := 1000 }) (kd : KidOK σ) (hz : σ.nodes.length ≤ 900) (f : Int) : LK k H { σ with nodes := σ.nodes ++ [nd], ctx := σ.nodes.length, form := f } := by
  have ie : ∀ i, isEl { σ with nodes := σ.nodes ++ [nd], ctx := σ.nodes.length, form := f } i = isEl { σ with ctx := 1000 } i := fun i => by
    unfold isEl
    show (match (σ.nodes ++ [nd])[i]? with | some n => if (_ ∧ (i : Int) ≠ (σ.nodes.length : Int)) then _ else _ | none => _) = (match σ.nodes[i]? with | some n => if (_ ∧ (i : Int) ≠ 1000) then _ else _ | none => _)
    rw [List.getElem?_append]
    by_cases h : i < σ.nodes.length
    · rw [if_pos h, List.getElem?_eq_getElem h]
      have h1 : (i : Int) ≠ (σ.nodes.length : Int) := by omega
      have h2 : (i : Int) ≠ 1000 := by omega
      simp only [h1, h2, ne_eq, not_false_eq_true, and_true]
    · rw [if_neg h, List.getElem?_eq_none (l := σ.nodes) (by omega)]
      by_cases e : i = σ.nodes.length
      · subst e; simp
      · rw [List.getElem?_eq_none (l := [nd]) (by show 1 ≤ _; omega)]
  refine ⟨L.lt, L.pa, fun l hl => ?_⟩
  cases l
  case state =>
    rw [L.ls _ hl]
    have h1 : ((σ.nodes.length : Int) != -1) = true := ne_m1 _
    have h2 : ((1000 : Int) != -1) = true := by decide
    show some (Cell.dict [_, _, _, _, _, ("is_part", .bool ((1000 : Int) != -1))]) = some (Cell.dict [_, _, _, _, _, ("is_part", .bool ((σ.nodes.length : Int) != -1))])
    rw [h1, h2]
  case notes => exact L.ls _ hl
  case lnode i => rw [L.ls _ hl]; show Option.map _ _ = Option.map _ _; rw [ie]
  case latt i => rw [L.ls _ hl]; show Option.map _ _ = Option.map _ _; rw [ie]
  case lkid i =>
    rw [L.ls _ hl]; show Option.map _ _ = Option.map _ _; rw [ie]
    cases g : isEl { σ with ctx := 1000 } i with
    | none => rfl
    | some z =>
      simp only [Option.map_some]
      congr 2
      exact List.map_congr_left fun j hj => (kidV_snoc (kd i z (isEl_get g).1 j hj)).symm
  all_goals (cases hl; done)
theorem WF.ctx' {N E : Nat} {σ : St} (w : WF N E σ) (hc : σ.ctx = -1) {c : Str} (hs : PyData.strOk c = true) (f : Int) : WF (N + 1) E { σ with nodes := σ.nodes ++ [⟨"element", "html", c, [], "", -1, []⟩], ctx := σ.nodes.length, form := f } := by
  have up : ∀ {i : Nat} {x : Nd}, σ.nodes[i]? = some x → (σ.nodes ++ [(⟨"element", "html", c, [], "", -1, []⟩ : Nd)])[i]? = some x := fun {i x} h => by rw [List.getElem?_append_left (lt_of_get h)]; exact h
  refine { er := w.er, md := w.md, zn := ?_, zs := Nat.le_succ_of_le w.zs, ze := w.ze, nd := fun i x hx => ?_, doc := ?_, stk := fun i hi => ?_, ctx := .inr ⟨σ.nodes.length, ⟨"element", "html", c, [], "", -1, []⟩, rfl, ?_, rfl, rfl⟩ }
  · have := w.zn; show (σ.nodes ++ [_]).length ≤ _; simp; omega
  · have hx : (σ.nodes ++ [_])[i]? = some x := hx
    rw [List.getElem?_append] at hx
    split at hx
    · have o := w.nd i x hx
      refine { p1 := o.p1, p2 := o.p2, kl := Nat.le_succ_of_le o.kl, tl := Nat.le_succ_of_le o.tl, so := o.so, sn := o.sn, ao := o.ao, nod := o.nod, kid := fun j hj => ?_ }
      obtain ⟨z, hz, z1, z2, z3⟩ := o.kid j hj
      exact ⟨z, up hz, z1, by have := lt_of_get hz; show (j : Int) ≠ (σ.nodes.length : Int); omega, z3⟩
    · have hi : i - σ.nodes.length = 0 := by
        rcases Nat.eq_zero_or_pos (i - σ.nodes.length) with q | q
        · exact q
        · rw [List.getElem?_eq_none (by simp; omega)] at hx; cases hx
      rw [hi] at hx
      cases hx
      exact { p1 := by show (-1 : Int) ≤ -1; omega, p2 := by show (-1 : Int) < _; omega, kl := Nat.zero_le _, tl := Nat.zero_le _, so := strOk_nil, sn := hs, ao := .inl rfl, nod := List.nodup_nil, kid := fun j hj => nomatch hj }
  · obtain ⟨x, hx, q⟩ := w.doc
    exact ⟨x, up hx, q⟩
  · obtain ⟨x, hx, q1, q2, q3⟩ := w.stk i hi
    exact ⟨x, up hx, q1, q2, by have := lt_of_get hx; show (i : Int) ≠ (σ.nodes.length : Int); omega⟩
  · show (σ.nodes ++ [_])[σ.nodes.length]? = _; simp
theorem WF.form {N E : Nat} {σ : St} (w : WF N E σ) (m : Int) : WF N E { σ with form := m } :=
  { er := w.er, md := w.md, zn := w.zn, zs := w.zs, ze := w.ze, nd := fun i x h => (w.nd i x h).of rfl rfl, doc := w.doc, stk := w.stk, ctx := w.ctx }
/- the nine beginnings -/
structure Place (w c m : Str) (ys : List Str) : Prop where
  ws : Txt.words w = ys
  wl : w.length ≤ 1000
  yl : ys.length ≤ 3
  y0 : ys.getD 0 "" = "html"
  y1 : 0 < ys.length
  ok : ∀ y ∈ ys, PyData.strOk y = true ∧ y ≠ "template"
  md : m ∈ modesL
  cx : c = "" ∨ (c ≠ "" ∧ c ≠ "template" ∧ PyData.strOk c = true)
def pl3 (a b c : Str) : V := .tup [.str a, .str b, .str c]
def placesV : List V := [pl3 "html body" "" "after body", pl3 "html frameset" "" "in frameset", pl3 "html" "frameset" "in frameset", pl3 "html body" "html" "after body", pl3 "html body div" "" "after body", pl3 "html frameset frameset" "" "in frameset", pl3 "html" "" "after frameset", pl3 "html body" "" "after after body", pl3 "html" "" "after after frameset"]
theorem place_of (q : Nat) (h : q < 9) : ∃ w c m ys, placesV[q]? = some (pl3 w c m) ∧ Place w c m ys := by
  match q, h with
  | 0, _ => exact ⟨_, _, _, ["html", "body"], rfl, by decide +kernel, by decide +kernel, by decide, rfl, by decide, by decide +kernel, by decide +kernel, .inl rfl⟩
  | 1, _ => exact ⟨_, _, _, ["html", "frameset"], rfl, by decide +kernel, by decide +kernel, by decide, rfl, by decide, by decide +kernel, by decide +kernel, .inl rfl⟩
  | 2, _ => exact ⟨_, _, _, ["html"], rfl, by decide +kernel, by decide +kernel, by decide, rfl, by decide, by decide +kernel, by decide +kernel, .inr (by decide +kernel)⟩
  | 3, _ => exact ⟨_, _, _, ["html", "body"], rfl, by decide +kernel, by decide +kernel, by decide, rfl, by decide, by decide +kernel, by decide +kernel, .inr (by decide +kernel)⟩
  | 4, _ => exact ⟨_, _, _, ["html", "body", "div"], rfl, by decide +kernel, by decide +kernel, by decide, rfl, by decide, by decide +kernel, by decide +kernel, .inl rfl⟩
  | 5, _ => exact ⟨_, _, _, ["html", "frameset", "frameset"], rfl, by decide +kernel, by decide +kernel, by decide, rfl, by decide, by decide +kernel, by decide +kernel, .inl rfl⟩
  | 6, _ => exact ⟨_, _, _, ["html"], rfl, by decide +kernel, by decide +kernel, by decide, rfl, by decide, by decide +kernel, by decide +kernel, .inl rfl⟩
  | 7, _ => exact ⟨_, _, _, ["html", "body"], rfl, by decide +kernel, by decide +kernel, by decide, rfl, by decide, by decide +kernel, by decide +kernel, .inl rfl⟩
  | 8, _ => exact ⟨_, _, _, ["html"], rfl, by decide +kernel, by decide +kernel, by decide, rfl, by decide, by decide +kernel, by decide +kernel, .inl rfl⟩
/-- the places that a scene names -/
def Loc.isS : Loc → Bool
  | .cvar => true
  | l => l.isB || l.isL
theorem b_s {l : Loc} (h : l.isB = true) : l.isS = true := by cases l <;> first | rfl | (cases h; done)
theorem l_s {l : Loc} (h : l.isL = true) : l.isS = true := by cases l <;> first | rfl | (cases h; done)
theorem s_b {l : Loc} (h : l.isS = false) : l.isB = false := by cases l <;> first | rfl | (cases h; done)
theorem s_l {l : Loc} (h : l.isS = false) : l.isL = false := by cases l <;> first | rfl | (cases h; done)
theorem Keep.toS {H H' : MH} {p : Loc → Bool} (k : Keep p H H') (h : ∀ l, p l = true → l.isS = true) : Keep Loc.isS H H' :=
  ⟨k.1, fun l hl ht => k.2 l (by cases q : p l with | false => rfl | true => rw [h l q] at hl; cases hl) ht⟩
def CV (H : MH) : Prop := H.c .cvar = some (.var (some (.cell .builder)))
theorem seq9 : ∀ q : Nat, q < 9 → seqIndex? (q : Int) 9 = some q := by decide
theorem nth_of_drop {st : Stmt} {rest : List Stmt} : ∀ {n : Nat} {b : List Stmt}, b.drop n = st :: rest → nthS b n = st ∧ b.drop (n + 1) = rest
  | 0, [], h => by cases h
  | 0, _ :: _, h => by cases h; exact ⟨rfl, rfl⟩
  | n + 1, [], h => by cases h
  | n + 1, _ :: b, h => nth_of_drop (n := n) (b := b) h
theorem T1_at {M : Amb} {d : Nat} {cl : List (Str × Loc)} {ml : List (Str × V)} {H : MH} {scp : Scope} {b : List Stmt} {n : Nat} {st : Stmt} {rest : List Stmt} {k : ScopeKind} {nms : List (Str × NameKind)} {g co : Bool} {mo} {Q : FV → List (Str × V) → MH → Prop} (hbd : b.drop n = st :: rest) (hsc : scp = { kind := k, names := nms, isGenerator := g, isCoroutine := co, more := mo })
    (h : T1 M d { kind := k, names := nms, isGenerator := g, isCoroutine := co, more := mo } cl ml H st (thenS M d { kind := k, names := nms, isGenerator := g, isCoroutine := co, more := mo } cl rest Q)) : T1 M d scp cl ml H (nthS b n) (thenS M d scp cl (b.drop (n + 1)) Q) := by
  obtain ⟨h1, h2⟩ := nth_of_drop hbd
  rw [h1, h2, hsc]; exact h
section
variable {M : Amb} {d : Nat} {cl : List (Str × Loc)} {ml : List (Str × V)} {H : MH}
theorem w_law_places (F : Facts M.K) {Q : V → MH → Prop} (h : Q (.tup placesV) H) : CALL M (d + 1) cl ml H 680 [] Q := by
  refine CALL_go (at_law_places F) b_law_places rfl rfl rfl ?_
  walk_at "m.run"
  exact h
theorem scene_a (hpu : M.pu = false) (F : Facts M.K) {dg : Loc} {ds : List Int} (hdg : H.c dg = some (.list (ds.map .int))) (hds : ds.length = 12) (hdS : dg.isS = false) (hdt : ∀ j, dg = .tmp j → j < H.nx)
    (hf : ∀ l, l.isS = true → l ≠ .cvar → H.c l = none) (hcv : H.c .cvar = some (.var none)) {Q : FV → List (Str × V) → MH → Prop}
    (h : ∀ H' k w c m ys, Place w c m ys → BH H' st0 → LK k H' { st0 with mode := m, ctx := if c = "" then -1 else 1000 } → CV H' → Keep Loc.isS H H' →
      T1 M (d + 6) (sco (tS 67)) [("builder", .cvar)] [("state", .cell .state), ("rules", .cell .rules), ("mode", .str m), ("context", .str c), ("words", .str w), ("places", .tup placesV), ("digits", .cell dg)] H' (nthS (bd (tS 67)) 7) (thenS M (d + 6) (sco (tS 67)) [("builder", .cvar)] ((bd (tS 67)).drop 8) Q)) :
    TS M (d + 6) (sco (tS 67)) [("builder", .cvar)] [("digits", .cell dg)] H (bd (tS 67)) Q := by
  refine TS_at rfl rfl ?_
  walk_at "m.run"
  refine w_law_places F ?_
  walk_at "m.run"
  refine T1_unpack3 (fun _ => rfl) (fun _ => rfl) rfl rfl rfl ?_
  walk_at "m.run"
  obtain ⟨d0, hd0⟩ : ∃ d0, ds[0]? = some d0 := ⟨_, List.getElem?_eq_getElem (by omega)⟩
  refine OP_item_list (x := .int d0) hdg (by decide) (by decide) (by show (ds.map V.int)[0]? = _; rw [List.getElem?_map, hd0]; rfl) (fun _ _ => rfl) ?_
  walk_at "m.run"
  refine OP_mod (by decide) ?_
  obtain ⟨q, hq1, hq2⟩ : ∃ q : Nat, d0.fmod 9 = q ∧ q < 9 := by
    have h1 : 0 ≤ d0.fmod 9 := Int.fmod_nonneg_of_pos d0 (by decide)
    have h2 : d0.fmod 9 < 9 := Int.fmod_lt_of_pos d0 (by decide)
    exact ⟨(d0.fmod 9).toNat, by omega, by omega⟩
  obtain ⟨w, c, m, ys, hw, P⟩ := place_of q hq2
  refine OP_item_tup (j := q) (x := pl3 w c m) (by show _ ≤ d0.fmod 9; omega) (by show d0.fmod 9 < _; omega) (by show seqIndex? (d0.fmod 9) 9 = _; rw [hq1]; exact seq9 q hq2) hw (fun _ _ => rfl) ?_
  refine ⟨_, _, _, rfl, ?_⟩
  walk_at "m.run"
  refine w_end_rules F (hf _ rfl (by intro e; cases e)) ?_
  walk_at "m.run"
  refine ⟨_, Stored.dict (by walk_at "m.cell") (Nat.le_of_ble_eq_true rfl), ?_⟩
  walk_at "m.run"
  refine ⟨_, Stored.dict (by walk_at "m.cell") (Nat.le_of_ble_eq_true rfl), ?_⟩
  walk_at "m.run"
  refine T1_assign_cell (l := .cvar) hpu (fun _ => rfl) rfl rfl ?_
  walk_at "m.run"
  refine w_builder hpu F (put_same.trans rfl) (fun l hl hn => ?_) fun H1 hB1 k1 => ?_
  · exact put_other hn (put_other hn (add_other hn (hf l (b_s hl) (fun e => by subst e; cases hl))))
  have hot : ∀ l, l.isB = false → (∀ j, l = .tmp j → j < H.nx) → H1.c l = H.c l := fun l hl ht => (k1.2 l hl ht).trans (put_other (fun e => by subst e; cases hl) (put_other (fun e => by subst e; cases hl) (add_other (fun e => by subst e; cases hl) rfl)))
  have hnx : H.nx ≤ H1.nx := k1.1
  refine ⟨⟨_, (hot .cvar rfl nofun).trans hcv⟩, ?_⟩
  have hB2 : BH (H1.put .cvar (.var (some (.cell .builder)))) st0 := fun l hl => (put_other (fun e => by subst e; cases hl) rfl).trans (hB1 l hl)
  have hcv2 : CV (H1.put .cvar (.var (some (.cell .builder)))) := put_same
  have hL2 : ∀ l, l.isL = true → (H1.put .cvar (.var (some (.cell .builder)))).c l = none := fun l hl => (put_other (fun e => by subst e; cases hl) rfl).trans ((hot l (l_not_b l hl) (fun j e => by subst e; cases hl)).trans (hf l (l_s hl) (fun e => by subst e; cases hl)))
  have k2 : Keep Loc.isS H (H1.put .cvar (.var (some (.cell .builder)))) := ⟨hnx, fun l hl ht => (put_other (fun e => by subst e; cases hl) rfl).trans (hot l (s_b hl) ht)⟩
  revert hB2 hcv2 hL2 k2
  generalize H1.put .cvar (.var (some (.cell .builder))) = H2
  intro hB2 hcv2 hL2 k2
  have f1 := hL2 .state rfl
  have f2 := hL2 .notes rfl
  have f3 := hL2 (.lnode 0) rfl
  have f4 := hL2 (.latt 0) rfl
  have f5 := hL2 (.lkid 0) rfl
  walk_at "m.run"
  refine TE_dict (l := .state) rfl rfl rfl (by simp) (by decide) ?_
  walk_at "m.run"
  refine TE_list (l := .lnode 0) (fun _ => rfl) ?_
  walk_at "m.run"
  refine TE_list (l := .latt 0) (fun _ => rfl) ?_
  walk_at "m.run"
  refine ⟨free_of (by walk_at "m.cell2") (fun _ => nofun), ?_⟩
  walk_at "m.run"
  refine TE_list (l := .lkid 0) (fun _ => rfl) ?_
  walk_at "m.run"
  refine ⟨free_of (by walk_at "m.cell2") (fun _ => nofun), ?_⟩
  walk_at "m.run"
  refine ⟨free_of (by walk_at "m.cell2") (fun _ => nofun), ?_⟩
  walk_at "m.run"
  refine TE_list (l := .tmp H2.nx) (fun _ => rfl) ?_
  walk_at "m.run"
  refine ⟨by walk_at "m.free", ?_⟩
  walk_at "m.run"
  refine TE_list (l := .notes) (fun _ => rfl) ?_
  walk_at "m.run"
  refine ⟨free_of (by walk_at "m.cell2") (fun _ => nofun), ?_⟩
  walk_at "m.run"
  refine ⟨by show (["page", "path", "mode", "notes", "is_done", "is_part"] : List Str).Nodup; decide +kernel, free_of (by walk_at "m.cell2") (fun _ => nofun), ?_⟩
  walk_at "m.run"
  refine h _ H2.nx w c m ys P (fun l hl => ?_) ⟨?_, ?_, fun l hl => ?_⟩ ?_ ?_
  · rw [← hB2 l hl]
    (repeat' (first | exact rfl | (refine' add_other ?_ ?_) | (intro e; subst e; cases hl; done)))
  · show H2.nx < max _ _; omega
  · (repeat' (first | exact add_same | (refine' add_other ?_ ?_) | (intro e; cases e; done)))
  · have big : ∀ i : Nat, i ≠ 0 → isEl { st0 with mode := m, ctx := if c = "" then -1 else 1000 } i = none := fun i hi => by
      unfold isEl
      rw [show ({ st0 with mode := m, ctx := if c = "" then -1 else 1000 } : St).nodes[i]? = none from List.getElem?_eq_none (by show 1 ≤ i; omega)]
    have zero : isEl { st0 with mode := m, ctx := if c = "" then -1 else 1000 } 0 = some ⟨"document", "", "", [], "", -1, []⟩ := isEl_of rfl (.inr rfl) (by show ((0 : Nat) : Int) ≠ if c = "" then -1 else 1000; split <;> decide)
    cases l
    case state =>
      refine' Eq.trans (b := some _) ?h1 ?h2
      case h1 => exact add_same
      case h2 =>
        have hb : (c != "") = ((if c = "" then (-1 : Int) else 1000) != -1) := by
          by_cases e : c = ""
          · rw [if_pos e, e]; decide +kernel
          · rw [if_neg e]; simp [e]
        show some (Cell.dict [_, _, _, _, _, ("is_part", .bool (c != ""))]) = some (Cell.dict [_, _, _, _, _, ("is_part", .bool ((if c = "" then (-1 : Int) else 1000) != -1))])
        rw [hb]
        rfl
    case notes => (repeat' (first | exact add_same | (refine' add_other ?_ ?_) | (intro e; cases e; done)))
    case lnode i =>
      by_cases e : i = 0
      · subst e
        show _ = Option.map _ _
        rw [zero]
        (repeat' (first | exact add_same | (refine' add_other ?_ ?_) | (intro e; cases e; done)))
      · have e' : Loc.lnode i ≠ Loc.lnode 0 := fun z => e (Loc.lnode.inj z)
        show _ = Option.map _ _
        rw [big i e]
        (repeat' (first | exact hL2 _ rfl | (refine' add_other ?_ ?_) | exact e' | (intro e; cases e; done)))
    case latt i =>
      by_cases e : i = 0
      · subst e
        show _ = Option.map _ _
        rw [zero]
        (repeat' (first | exact add_same | (refine' add_other ?_ ?_) | (intro e; cases e; done)))
      · have e' : Loc.latt i ≠ Loc.latt 0 := fun z => e (Loc.latt.inj z)
        show _ = Option.map _ _
        rw [big i e]
        (repeat' (first | exact hL2 _ rfl | (refine' add_other ?_ ?_) | exact e' | (intro e; cases e; done)))
    case lkid i =>
      by_cases e : i = 0
      · subst e
        show _ = Option.map _ _
        rw [zero]
        (repeat' (first | exact add_same | (refine' add_other ?_ ?_) | (intro e; cases e; done)))
      · have e' : Loc.lkid i ≠ Loc.lkid 0 := fun z => e (Loc.lkid.inj z)
        show _ = Option.map _ _
        rw [big i e]
        (repeat' (first | exact hL2 _ rfl | (refine' add_other ?_ ?_) | exact e' | (intro e; cases e; done)))
    all_goals (cases hl; done)
  · exact (add_other (by intro e; cases e) (add_other (by intro e; cases e) (add_other (by intro e; cases e) (add_other (by intro e; cases e) (add_other (by intro e; cases e) (add_other (by intro e; cases e) hcv2))))))
  · refine ⟨Nat.le_trans k2.1 (by show _ ≤ max _ _; omega), fun l hl ht => Eq.trans ?_ (k2.2 l hl ht)⟩
    have k3 := k2.1
    refine add_other (fun e => by subst e; cases hl) (add_other (fun e => by subst e; cases hl) (add_other (fun e => ?_) (add_other (fun e => by subst e; cases hl) (add_other (fun e => by subst e; cases hl) (add_other (fun e => by subst e; cases hl) rfl)))))
    have := ht _ e
    omega
end
theorem LK.keep {p : Loc → Bool} {H H' : MH} {k : Nat} {σ : St} (L : LK k H σ) (kk : Keep p H H') (hp : ∀ l, l.isL = true → p l = false) (ht : ∀ i, p (.tmp i) = false) : LK k H' σ :=
  ⟨Nat.lt_of_lt_of_le L.lt kk.1, (kk.2 _ (ht k) fun j e => by cases e; exact L.lt).trans L.pa, fun l hl => (kk.2 l (hp l hl) fun j e => by subst e; cases hl).trans (L.ls l hl)⟩
theorem LK.form {k : Nat} {H : MH} {σ : St} (L : LK k H σ) (b : Int) : LK k H { σ with form := b } := ⟨L.lt, L.pa, fun l hl => (L.ls l hl).trans rfl⟩
theorem LK.keepB {H H' : MH} {k : Nat} {σ : St} (L : LK k H σ) (kk : Keep Loc.isB H H') : LK k H' σ := L.keep kk l_not_b fun _ => rfl
theorem BH.keepL {H H' : MH} {σ : St} (h : BH H σ) (kk : Keep Loc.isL H H') : BH H' σ := h.keep kk b_not_l
theorem CV.keepB {H H' : MH} (h : CV H) (kk : Keep Loc.isB H H') : CV H' := (kk.2 .cvar rfl nofun).trans h
theorem CV.keepL {H H' : MH} (h : CV H) (kk : Keep Loc.isL H H') : CV H' := (kk.2 .cvar rfl nofun).trans h
/-- what holds while the elements of the beginning are put in -/
structure Beg (H H' : MH) (m c : Str) (i k : Nat) (τ : St) : Prop where
  B : BH H' { τ with mode := "initial" }
  L : LK k H' { τ with ctx := if c = "" then -1 else 1000 }
  C : CV H'
  K : Keep Loc.isS H H'
  W : WF (5 + i) 0 τ
  m : τ.mode = m
  c : τ.ctx = -1
  d : τ.done = false
  r0 : i = 0 → τ.stack = []
  r1 : 0 < i → RootS τ
section
variable {M : Amb} {d : Nat} {cl : List (Str × Loc)} {ml : List (Str × V)} {H : MH}
theorem scene_b (hpu : M.pu = false) (F : Facts M.K) {dg : Loc} {w c m : Str} {ys : List Str} (P : Place w c m ys) {H : MH} {k : Nat} (hB : BH H st0) (hL : LK k H { st0 with mode := m, ctx := if c = "" then -1 else 1000 }) (hC : CV H) {Q : FV → List (Str × V) → MH → Prop}
    (h : ∀ H' k' σ, BH H' σ → LK k' H' σ → CV H' → Keep Loc.isS H H' → WF 9 0 σ → RootS σ → σ.done = false →
      T1 M (d + 6) (sco (tS 67)) [("builder", .cvar)] [("state", .cell .state), ("mode", .str m), ("context", .str c), ("digits", .cell dg)] H' (nthS (bd (tS 67)) 11) (thenS M (d + 6) (sco (tS 67)) [("builder", .cvar)] ((bd (tS 67)).drop 12) Q)) :
    T1 M (d + 6) (sco (tS 67)) [("builder", .cvar)] [("state", .cell .state), ("rules", .cell .rules), ("mode", .str m), ("context", .str c), ("words", .str w), ("places", .tup placesV), ("digits", .cell dg)] H (nthS (bd (tS 67)) 7) (thenS M (d + 6) (sco (tS 67)) [("builder", .cvar)] ((bd (tS 67)).drop 8) Q) := by
  refine T1_at rfl rfl ?_
  refine' T1_forsplit' (fun _ => rfl) PySem.F.slot_str_split PySem.F.plainAttrs_str PySem.F.type_str_split rfl (fun _ _ => rfl) ys (fun i H' => ∃ k τ, Beg H H' m c i k τ) [("state", .cell .state), ("mode", .str m), ("context", .str c), ("digits", .cell dg)] (fun _ _ _ s h => TX.sub s h) ?hh ?step ?hend
  case hh =>
    walk_at "m.run"
    refine ⟨P.wl, P.ws, ⟨k, { st0 with mode := m }, ?_⟩, ⟨rfl, rfl, rfl, rfl, trivial⟩⟩
    refine ⟨hB, hL, hC, Keep.refl _, ?_, rfl, rfl, rfl, fun _ => rfl, fun h => absurd h (by decide)⟩
    refine { er := fun v hv => (nomatch hv), md := P.md, zn := by show 1 ≤ _; omega, zs := Nat.zero_le _, ze := Nat.zero_le _, nd := fun i x hx => ?_, doc := ⟨_, rfl, rfl, rfl, rfl⟩, stk := fun i hi => (nomatch hi), ctx := .inl rfl }
    cases i with
    | zero =>
      cases hx
      exact { p1 := by show (-1 : Int) ≤ -1; omega, p2 := by show (-1 : Int) < _; omega, kl := Nat.zero_le _, tl := Nat.zero_le _, so := strOk_nil, sn := strOk_nil, ao := .inl rfl, nod := List.nodup_nil, kid := fun j hj => (nomatch hj) }
    | succ i => cases hx
  case step =>
    rintro i H1 hi ⟨k1, τ, b⟩
    have hyl := P.yl
    have hcv : H1.c .cvar = some (.var (some (.cell .builder))) := b.C
    have hW := b.W
    have z1 := hW.zn
    have z2 := hW.zs
    obtain ⟨x, hx, hxl⟩ := hW.cur
    have hy : PyData.strOk (ys.getD i "") = true ∧ ys.getD i "" ≠ "template" := by
      rw [List.getD_eq_getElem?_getD, List.getElem?_eq_getElem hi]
      exact P.ok _ (List.getElem_mem hi)
    revert hy
    have hy0 : i = 0 → ys.getD i "" = "html" := fun e => by rw [e]; exact P.y0
    revert hy0
    generalize ys.getD i "" = y
    intro hy0 hy
    walk_at "m.run"
    refine w_insert_element2 (σ := { τ with mode := "initial" }) hpu F b.B (by show τ.nodes.length ≤ 880; omega) (by show τ.stack.length ≤ 890; omega) hW.par hx (by omega) hy.2 fun H2 hB2 k2 => ?_
    walk_at "m.run"
    have hxe : isEl { τ with ctx := if c = "" then -1 else 1000 } (curP τ.stack) = some x := by
      have hlt := lt_of_get hx
      refine isEl_of hx ?_ ?_
      · rcases List.eq_nil_or_concat τ.stack with e | ⟨l, n, e⟩
        · have hx' := hx
          rw [e] at hx'
          obtain ⟨z, hz, hzk, _⟩ := hW.doc
          have hx' : τ.nodes[0]? = some x := hx'
          rw [hz] at hx'; cases hx'
          exact .inr hzk
        · obtain ⟨z, hz, _, hzk, _⟩ := hW.cur' (by rw [e]; simp)
          rw [hx] at hz; cases hz
          exact .inl hzk
      · show ((curP τ.stack : Nat) : Int) ≠ if c = "" then -1 else 1000
        split <;> omega
    refine w_law_grow0 (N := 5 + i) (σ := { τ with ctx := if c = "" then -1 else 1000 }) (keeps := true) (attrs := []) hpu F z2 hW.kd (by show (τ.nodes.length : Int) ≠ if c = "" then -1 else 1000; split <;> omega) (by omega) (b.L.keepB k2) hxe hxl (Nat.zero_le _) fun H3 k3 hL3 kk3 => ?_
    walk_at "m.run"
    refine ⟨⟨k3, growN τ y [], ?_⟩, ⟨rfl, rfl, rfl, rfl, trivial⟩⟩
    refine ⟨hB2.keepL kk3, hL3, (b.C.keepB k2).keepL kk3, (b.K.trans (k2.toS fun _ => b_s)).trans (kk3.toS fun _ => l_s), hW.grow hy.1 (.inl rfl), b.m, b.c, b.d, fun e => absurd e (Nat.succ_ne_zero i), fun _ => ?_⟩
    cases i with
    | zero => exact ⟨τ.nodes.length, [], _, by show τ.stack ++ _ = _; rw [b.r0 rfl]; rfl, insN_new, hy0 rfl⟩
    | succ i => exact (b.r1 (Nat.succ_pos i)).grow
  case hend =>
    rintro H1 ⟨k1, τ, b⟩
    obtain ⟨B, L, C, K, W, hm, hctx, hd, _, r1⟩ := b
    subst hm
    have hyl := P.yl
    have z1 := W.zn
    have z2 := W.zs
    have R := r1 P.y1
    have hcv : H1.c .cvar = some (.var (some (.cell .builder))) := C
    walk_at "m.run"
    rcases P.cx with e | ⟨e, e2, e3⟩
    · rw [if_pos e] at L
      have L : LK k1 H1 τ := by
        have : ({ τ with ctx := -1 } : St) = τ := by rw [← hctx]
        rw [this] at L; exact L
      walk_at "m.run"
      refine w_to hpu F B fun H2 hB2 k2 => ?_
      have hcv : H2.c .cvar = some (.var (some (.cell .builder))) := C.keepB k2
      have hB2 : BH H2 τ := hB2
      walk_at "m.run"
      refine h _ k1 { τ with form := 1 } (hB2.bld (σ' := { τ with form := 1 }) rfl rfl rfl) ?_ (put_other (by intro e; cases e) hcv) ((K.trans (k2.toS fun _ => b_s)).trans ((Keep.put (p := Loc.isB) (l := .builder) rfl).toS fun _ => b_s)) ((W.form 1).mono (by omega) (Nat.le_refl _)) R hd
      exact ((L.keepB k2).keepB (Keep.put (l := .builder) rfl)).form 1
    · rw [if_neg e] at L
      walk_at "m.run"
      refine w_element2 (σ := { τ with mode := "initial" }) hpu F B (by show τ.nodes.length ≤ 900; omega) e2 fun H2 hB2 k2 => ?_
      have hcv : H2.c .cvar = some (.var (some (.cell .builder))) := C.keepB k2
      walk_at "m.run"
      have hB3 : BH (H2.put .builder (.inst 489 (bflds { addN { τ with mode := "initial" } ⟨"element", "html", c, [], "", -1, []⟩ with ctx := τ.nodes.length }))) { addN { τ with mode := "initial" } ⟨"element", "html", c, [], "", -1, []⟩ with ctx := τ.nodes.length } := hB2.bld rfl rfl rfl
      have k3 : Keep Loc.isB H2 (H2.put .builder (.inst 489 (bflds { addN { τ with mode := "initial" } ⟨"element", "html", c, [], "", -1, []⟩ with ctx := τ.nodes.length }))) := Keep.put rfl
      have key : ∀ {H3 : MH} {Q : V → MH → Prop} {cl ml}, BH H3 { addN { τ with mode := "initial" } ⟨"element", "html", c, [], "", -1, []⟩ with ctx := τ.nodes.length } → (∀ H', BH H' { addN τ ⟨"element", "html", c, [], "", -1, []⟩ with ctx := τ.nodes.length } → Keep Loc.isB H3 H' → Q .none H') → CALL M (d + 5 + 1) cl ml H3 451 [.cell .builder, .str τ.mode] Q := fun b hQ => w_to hpu F b hQ
      refine key hB3 fun H4 hB4 k4 => ?_
      have kk : Keep Loc.isB H1 H4 := (k2.trans k3).trans k4
      have hcv : H4.c .cvar = some (.var (some (.cell .builder))) := C.keepB kk
      walk_at "m.run"
      have W' := (W.ctx' hctx e3 1).mono (N' := 9) (E' := 0) (by omega) (Nat.le_refl _)
      obtain ⟨i0, r0, x0, q1, q2, q3⟩ := R
      refine h _ k1 { τ with nodes := τ.nodes ++ [⟨"element", "html", c, [], "", -1, []⟩], ctx := τ.nodes.length, form := 1 } (hB4.bld (σ' := { τ with nodes := τ.nodes ++ [⟨"element", "html", c, [], "", -1, []⟩], ctx := τ.nodes.length, form := 1 }) rfl rfl rfl) ?_ (put_other (by intro e; cases e) hcv) ((K.trans (kk.toS fun _ => b_s)).trans ((Keep.put (p := Loc.isB) (l := .builder) rfl).toS fun _ => b_s)) W' ⟨i0, r0, x0, q1, ?_, q3⟩ hd
      · exact ((L.ctx W.kd (by omega) 1).keepB kk).keepB (Keep.put (l := .builder) rfl)
      · show (τ.nodes ++ [_])[i0]? = _
        rw [List.getElem?_append_left (lt_of_get q2)]; exact q2
end
def forB : Stmt → List Stmt
  | .For _ _ b _ _ => b
  | _ => []
def nameOf (τ : St) (j : Nat) : Str := match τ.nodes[j]? with | some x => x.name | none => ""
theorem nameOf_at {τ : St} {j : Nat} {x : Nd} (h : τ.nodes[j]? = some x) : nameOf τ j = x.name := by unfold nameOf; rw [h]
def lookD (τ : St) : PyData := .tuple [.str τ.mode, .list (τ.stack.map fun j => .str (nameOf τ j)), .bool τ.done]
theorem look_ok {N E : Nat} {τ : St} (W : WF N E τ) : SeqAt.shaped (lookD τ) = true ∧ (lookD τ).canLay0 = true := by
  have h1 : PyData.canLayAll0 (τ.stack.map fun j => PyData.str (nameOf τ j)) = true := layAll_of fun d hd => by
    obtain ⟨j, hj, rfl⟩ := List.mem_map.mp hd
    obtain ⟨x, hx, _⟩ := W.stk j hj
    rw [nameOf_at hx]
    exact (W.nd j x hx).sn
  have h2 : PyData.depthAll (τ.stack.map fun j => PyData.str (nameOf τ j)) ≤ 0 := depthAll_le fun d hd => by
    obtain ⟨j, hj, rfl⟩ := List.mem_map.mp hd
    simp [PyData.depth]
  have h3 := mode_ok W.md
  have h4 : (lookD τ).canLay0 = true := by unfold lookD; simp only [PyData.canLay0, PyData.canLayAll0, h1, h3]; rfl
  refine ⟨?_, h4⟩
  unfold SeqAt.shaped
  rw [h4, Bool.true_and, decide_eq_true_eq]
  unfold lookD
  simp only [PyData.depth, PyData.depthAll]; omega
theorem DVs.strs {H : MH} {α : Type} {f : α → Str} : ∀ {l : List α}, DVs H (l.map fun a => .str (f a)) (l.map fun a => .str (f a))
  | [] => .nil
  | _ :: _ => .cons (.str _) DVs.strs
section
variable {M : Amb} {d : Nat} {cl : List (Str × Loc)} {ml : List (Str × V)} {H : MH}
section
variable {sc : Scope}
theorem T1_assign_comp2 {elt iter : Expr} {x y : Str} {px py : Pos} {scope : Scope} {cl' : List (Str × Loc)} {pos spos : Pos} {l' : Loc} {Q : FV → List (Str × V) → MH → Prop}
    (hsw : ∀ env : Env, env.scope = sc → swapsWith (.ListComp elt [⟨.Name x px, iter, [], 0⟩] scope pos) (some (.Name y py)) spos.line env = pure true) (hy : sc.names.lookup y = some .local)
    (hkind : scope.kind = .function) (hcell : ∀ y ∈ scope.names, y.2 ≠ .cell) (hnames : ∀ y ∈ scope.names, y.2 = .local → scope.names.lookup y.1 = some .local) (hx : (relS scope sc).names.lookup x = some .local)
    (hse : ∀ env v, foldedSetIterable iter env v = pure v)
    (hclos : ∀ env : Env, (∀ y l, cl.lookup y = some l → ∃ a, env.cells.lookup y = some a) → ∃ ccl, closureFor scope env = pure ccl ∧ ∀ y l, cl'.lookup y = some l → cl.lookup y = some l ∧ ccl.lookup y = env.cells.lookup y)
    (G : MH → Nat → List V → MH → Prop)
    (h : TE M d sc cl ml H iter fun v H1 => ∃ l xs, v = .cell l ∧ H1.c l = some (.list xs) ∧ xs.length ≤ 1000 ∧ G H1 0 [] H1 ∧
      (∀ i ys H₁ xi, xs[i]? = some xi → G H1 i ys H₁ → TE M.pur d (relS scope sc) cl' [(x, xi)] H₁ elt fun y H₂ => G H1 (i + 1) (ys ++ [y]) H₂) ∧
      ∀ ys H', G H1 xs.length ys H' → H'.free l' ∧ Q .next ((y, .cell l') :: ml) (H'.add l' (.list ys))) :
    T1 M d sc cl ml H (.Assign [.Name y py] (.ListComp elt [⟨.Name x px, iter, [], 0⟩] scope pos) spos) Q := by
  intro A base h₀ outer env L m s wd Qm hs hL c k
  show wpAny _ _ (exec (.Assign [.Name y py] (.ListComp elt [⟨.Name x px, iter, [], 0⟩] scope pos) spos) env) _ _ _
  rw [exec_Assign_Name_used _ _ _ _ (hsw env hs)]
  obtain ⟨ccl, hc1, hc2⟩ := hclos env fun y l hy => let ⟨a, a1, _⟩ := c.cr y l hy; ⟨a, a1⟩
  refine wpAny_bind (wpAny_standAt (wpAny_bind ?_))
  show wpAny _ A (do let _ ← comprehension (.ListComp elt [⟨.Name x px, iter, [], 0⟩] scope pos) scope env _ (newList []) false (eval iter env) (some (assign (.Name y py) env))) _ _ s
  refine wpAny_bind (wpAny_mono (wpAny_comprehension_free (use := some (assign (.Name y py) env)) (Q := fun _ s' => Qm .next s') (E := fun _ _ => False) rfl (hse env) hc1 hkind hnames
    (h hs c fun v v' H1 w1 h1 t1 q1 x1 r1 c1 => ?_)) (fun _ s' hq => wpAny_pure (wpAny_pure hq)) fun _ _ e => e)
  obtain ⟨l, xs, rfl, hlist, hz, g0, step, hend⟩ := q1
  cases r1 with
  | cell hax =>
    refine comp_block (RR := fun acc C => compPost (model M.prog M.w) A (fun _ _ => False) (some (assign (.Name y py) env)) (fun _ s' => Qm .next s') acc C) hs c1 hlist hz hkind hcell hx (fun y l1 hy => ?_) hax (G H1) g0 step
      fun D C h' tk wd' H' ys us mC' g E v c' kD kC p n lD oD lC oC DC => ?_
    · obtain ⟨i1, i2⟩ := hc2 y l1 hy
      obtain ⟨a, a1, a2⟩ := c1.cr y l1 i1
      exact ⟨a, i2.trans a1, a2⟩
    · obtain ⟨hf, q⟩ := hend ys H' g
      obtain ⟨nD, gD⟩ := p
      have E2 : Ext M.pu wd' ((wd'.more D (listOf us.toArray nD)).name l' false D) := Ext.name (c'.rel.free l' false hf) kD
      have N2 : News h₀ L h' ((D, listOf us.toArray nD) :: wd'.news) := fun p hp => by
        rcases List.mem_cons.mp hp with rfl | hp
        · exact ⟨gD, lD, oD⟩
        · exact c'.N p hp
      have c2 := c'.go (tk' := tk) c'.F N2 E2 (c'.rel.name (c := .list ys) hf kD ⟨D, us, nD, name_at .., .head _, v.ext _ E2⟩)
      show wpAny _ A (assign (.Name y py) env (.ref D)) _ _ _
      refine wpAny_assign_Name (wpAny_storeName_local (m := m) (by unfold Env.kindOf; rw [hs]; exact hy) (by rw [hL]; exact c2.F.ns) (fun h3 hn3 hs3 => ?_) (by rw [c2.ek]; rfl))
      rw [hL] at hn3 hs3
      have c3 := c2.store (x := y) (v := .cell l') (tk := tk) hL (.cell (name_at ..)) (c2.F.set hn3 hs3) (c2.N.set hs3)
      refine ⟨_, n.at' fun o e => (hs3.2 _ lC).trans e, fun h4 hs4 => ?_⟩
      have F4 := c3.F.change hs4 lC oC
      have N4 : News h₀ L h4 ((D, listOf us.toArray nD) :: wd'.news) := fun p hp => by
        refine ⟨(hs4.2 _ fun e => ?_).trans (c3.N p hp).1, (c3.N p hp).2⟩
        rcases List.mem_cons.mp hp with rfl | hp
        · exact DC e
        · exact kC (e ▸ mem_keys hp)
      exact k _ _ _ _ _ h4 _ _ q ((x1.trans E).trans E2) .next (c3.go2 hL F4 N4 (Ext.refl _) c3.rel c3.lr)
end
theorem scene_r (hpu : M.pu = false) (F : Facts M.K) {dg : Loc} {k N E : Nat} {τ : St} (B : BH H τ) (L : LK k H τ) (C : CV H) (W : WF N E τ) (hN : N ≤ 900) {Q : FV → List (Str × V) → MH → Prop}
    (h : ∀ H' ml', Keep noL H H' → SubL [("state", .cell .state), ("digits", .cell dg)] ml' → Q .next ml' H') :
    T1 M (d + 2) (sco (tS 67)) [("builder", .cvar)] [("state", .cell .state), ("digits", .cell dg)] H (nthS (forB (nthS (bd (tS 67)) 11)) 3) (thenS M (d + 2) (sco (tS 67)) [("builder", .cvar)] ((forB (nthS (bd (tS 67)) 11)).drop 4) Q) := by
  refine T1_at rfl rfl ?_
  have F' : Facts M.pur.K := F
  have z1 := W.zs
  have z2 := W.zn
  have hcv : H.c .cvar = some (.var (some (.cell .builder))) := C
  refine' T1_assign_comp2 (l' := .tmp H.nx) (cl' := [("builder", .cvar)]) (fun env he => by unfold swapsWith Env.blockKind Env.kindOf; rw [he]; rfl) rfl rfl (by decide +kernel) (by decide +kernel) (by decide +kernel) (fun _ _ => rfl) (fun env he => ?_) (fun H1 i ys H' => H' = H ∧ ys = (τ.stack.take i).map fun j => V.str (nameOf τ j)) ?_
  · obtain ⟨a, ha⟩ := he "builder" .cvar rfl
    refine ⟨[("builder", a)], clos_one' ha, fun y l hy => ⟨hy, ?_⟩⟩
    rw [List.lookup_cons] at hy ⊢
    split at hy
    · rename_i q; rw [eq_of_beq q, ha]
    · cases hy
  walk_at "m.run"
  refine ⟨.items, τ.stack.map vi, rfl, by walk_at "m.cell", by rw [List.length_map]; omega, ⟨rfl, rfl⟩, ?_, ?_⟩
  · rintro i ys H1 xi hxi ⟨rfl, rfl⟩
    rw [List.getElem?_map] at hxi
    cases hj : τ.stack[i]? with
    | none => rw [hj] at hxi; cases hxi
    | some j =>
      rw [hj] at hxi; cases hxi
      obtain ⟨x, hx, _⟩ := W.stk j (List.mem_of_getElem? hj)
      show TE _ _ { kind := _, names := _, isGenerator := _, isCoroutine := _, more := _ } _ _ _ _ _
      walk_at "m.run"
      rw [List.take_succ, hj, List.map_append, ← nameOf_at hx]; rfl
  rintro ys H1 ⟨rfl, rfl⟩
  rw [List.length_map, List.take_length]
  refine ⟨free_tmp (Nat.le_refl _), ?_⟩
  have B2 : BH (H1.add (.tmp H1.nx) (.list (τ.stack.map fun j => V.str (nameOf τ j)))) τ := B.atmp
  have L2 : LK k (H1.add (.tmp H1.nx) (.list (τ.stack.map fun j => V.str (nameOf τ j)))) τ := L.atmp (Nat.le_refl _)
  have hcv2 : (H1.add (.tmp H1.nx) (.list (τ.stack.map fun j => V.str (nameOf τ j)))).c .cvar = some (.var (some (.cell .builder))) := add_other (by intro e; cases e) hcv
  have c2 : (H1.add (.tmp H1.nx) (.list (τ.stack.map fun j => V.str (nameOf τ j)))).c (.tmp H1.nx) = some (.list (τ.stack.map fun j => V.str (nameOf τ j))) := add_same
  have k2 : Keep noL H1 (H1.add (.tmp H1.nx) (.list (τ.stack.map fun j => V.str (nameOf τ j)))) := (Keep.refl _).tmp' (Nat.le_refl _)
  have n2 : H1.nx < (H1.add (.tmp H1.nx) (.list (τ.stack.map fun j => V.str (nameOf τ j)))).nx := by show _ < max _ _; omega
  revert B2 L2 hcv2 c2 k2 n2
  generalize H1.add (.tmp H1.nx) (.list (τ.stack.map fun j => V.str (nameOf τ j))) = H2
  intro B2 L2 hcv2 c2 k2 n2
  walk_at "m.run"
  refine' TE_comp (l' := .tmp H2.nx) (cl' := []) rfl (by decide +kernel) (by decide +kernel) (by decide +kernel) (fun _ _ => rfl) (fun env he => ⟨[], clos_none, fun y l hy => nomatch hy⟩) (fun H1 i ys H' => H' = H2 ∧ ys = (τ.stack.take i).map fun j => V.str (nameOf τ j)) ?_
  walk_at "m.run"
  refine ⟨.tmp k, τ.stack.map lnV, rfl, L2.pa, by rw [List.length_map]; omega, ⟨rfl, rfl⟩, ?_, ?_⟩
  · rintro i ys H3 xi hxi ⟨rfl, rfl⟩
    rw [List.getElem?_map] at hxi
    cases hj : τ.stack[i]? with
    | none => rw [hj] at hxi; cases hxi
    | some j =>
      rw [hj] at hxi; cases hxi
      obtain ⟨x, hx, h1, _, h3⟩ := W.stk j (List.mem_of_getElem? hj)
      have hnode := L2.node (isEl_of hx (.inl h1) h3)
      show TE _ _ { kind := _, names := _, isGenerator := _, isCoroutine := _, more := _ } _ _ _ _ _
      walk_at "m.run"
      rw [List.take_succ, hj, List.map_append, ← nameOf_at hx]; rfl
  rintro ys H3 ⟨rfl, rfl⟩
  rw [List.length_map, List.take_length]
  refine ⟨free_tmp (Nat.le_refl _), ?_⟩
  have B4 : BH (H3.add (.tmp H3.nx) (.list (τ.stack.map fun j => V.str (nameOf τ j)))) τ := B2.atmp
  have L4 : LK k (H3.add (.tmp H3.nx) (.list (τ.stack.map fun j => V.str (nameOf τ j)))) τ := L2.atmp (Nat.le_refl _)
  have hcv4 : (H3.add (.tmp H3.nx) (.list (τ.stack.map fun j => V.str (nameOf τ j)))).c .cvar = some (.var (some (.cell .builder))) := add_other (by intro e; cases e) hcv2
  have c4 : (H3.add (.tmp H3.nx) (.list (τ.stack.map fun j => V.str (nameOf τ j)))).c (.tmp H3.nx) = some (.list (τ.stack.map fun j => V.str (nameOf τ j))) := add_same
  have c5 : (H3.add (.tmp H3.nx) (.list (τ.stack.map fun j => V.str (nameOf τ j)))).c (.tmp H1.nx) = some (.list (τ.stack.map fun j => V.str (nameOf τ j))) := add_other (fun e => by have := Loc.tmp.inj e; omega) c2
  have k4 : Keep noL H1 (H3.add (.tmp H3.nx) (.list (τ.stack.map fun j => V.str (nameOf τ j)))) := k2.trans ((Keep.refl _).tmp' (Nat.le_refl _))
  revert B4 L4 hcv4 c4 c5 k4
  generalize H3.add (.tmp H3.nx) (.list (τ.stack.map fun j => V.str (nameOf τ j))) = H4
  intro B4 L4 hcv4 c4 c5 k4
  walk_at "m.run"
  refine OP_ne_data (da := lookD τ) (db := lookD τ) (.tup (.cons (.str _) (.cons (.list c5 DVs.strs) (.cons (.bool _) .nil)))) (.tup (.cons (.str _) (.cons (.list c4 DVs.strs) (.cons (.bool _) .nil)))) (look_ok W).1 (look_ok W).1 ?_
  rw [SeqAt.eqv_refl _ (look_ok W).2]
  walk_at "m.run"
  exact h _ _ k4 ⟨rfl, rfl, trivial⟩
end
structure Turn (H H' : MH) (i k : Nat) (σ : St) : Prop where
  B : BH H' σ
  L : LK k H' σ
  C : CV H'
  K : Keep Loc.isS H H'
  W : WF (9 + i) (4 * i) σ
  R : σ.done = false → RootS σ
theorem Keep.ofN {H H' : MH} {p : Loc → Bool} (k : Keep noL H H') : Keep p H H' := ⟨k.1, fun l _ ht => k.2 l rfl ht⟩
abbrev frS (dg : Loc) : List (Str × V) := [("state", .cell .state), ("digits", .cell dg)]
section
variable {M : Amb} {d : Nat} {cl : List (Str × Loc)} {ml : List (Str × V)} {H : MH}
theorem scene_t (hpu : M.pu = false) (F : Facts M.K) {dg : Loc} {i k : Nat} {H' : MH} {σ : St} (hi : i < 11) (t : Turn H H' (i + 1) k σ) {ml : List (Str × V)} (hml : SubL (frS dg) ml) {Q : FV → List (Str × V) → MH → Prop}
    (hQ : ∀ ml' H', (∃ a' : Unit, (∃ k σ, Turn H H' (i + 1) k σ) ∧ SubL (frS dg) ml') → Q .next ml' H') :
    T1 M (d + 20) (sco (tS 67)) [("builder", .cvar)] ml H' (nthS (forB (nthS (bd (tS 67)) 11)) 3) (thenS M (d + 20) (sco (tS 67)) [("builder", .cvar)] ((forB (nthS (bd (tS 67)) 11)).drop 4) Q) :=
  TX.sub hml (scene_r (dg := dg) hpu F t.B t.L t.C t.W (by omega) fun H2 ml' kk ss => hQ _ _ ⟨(), ⟨k, σ, t.B.noL kk, t.L.keep kk (fun _ _ => rfl) (fun _ => rfl), (kk.2 .cvar rfl nofun).trans t.C, t.K.trans kk.ofN, t.W, t.R⟩, ss⟩)
theorem scene_c (hpu : M.pu = false) (F : Facts M.K) {dg : Loc} {ds : List Int} (hds : ds.length = 12) (hdS : dg.isS = false) {k : Nat} {σ : St} {m c : Str} (B : BH H σ) (L : LK k H σ) (C : CV H) (W : WF 9 0 σ) (R : RootS σ)
    (hdg : H.c dg = some (.list (ds.map .int))) (hdt : ∀ j, dg = .tmp j → j < H.nx) {Q : FV → List (Str × V) → MH → Prop}
    (h : ∀ H' k' τ, BH H' τ → LK k' H' τ → CV H' → Keep Loc.isS H H' → WF 20 44 τ → thenS M (d + 20) (sco (tS 67)) [("builder", .cvar)] ((bd (tS 67)).drop 12) Q .next (frS dg) H') :
    T1 M (d + 20) (sco (tS 67)) [("builder", .cvar)] [("state", .cell .state), ("mode", .str m), ("context", .str c), ("digits", .cell dg)] H (nthS (bd (tS 67)) 11) (thenS M (d + 20) (sco (tS 67)) [("builder", .cvar)] ((bd (tS 67)).drop 12) Q) := by
  refine T1_at rfl rfl ?_
  refine' T1_range' (fun _ => rfl) (fun _ => rfl) rfl (fun _ _ => rfl) (fun i (_ : Unit) H' => ∃ k σ, Turn H H' i k σ) (fun _ _ => frS dg) 11 () (by decide) (fun _ _ _ s h => TX.sub s h) ?hrn ?step ?hend
  case hrn =>
    walk_at "m.run"
    exact ⟨⟨k, σ, B, L, C, Keep.refl _, W, fun _ => R⟩, ⟨rfl, rfl, trivial⟩⟩
  case hend =>
    rintro _ H' ⟨k', τ, t⟩
    exact h H' k' τ t.B t.L t.C t.K t.W
  case step =>
    rintro i _ H1 hi ⟨k1, σ, t⟩
    obtain ⟨B1, L1, C1, K1, W1, R1⟩ := t
    have hcv : H1.c .cvar = some (.var (some (.cell .builder))) := C1
    have hdg1 : H1.c dg = some (.list (ds.map .int)) := (K1.2 dg hdS hdt).trans hdg
    obtain ⟨di, hdi⟩ : ∃ di, ds[i + 1]? = some di := ⟨_, List.getElem?_eq_getElem (by omega)⟩
    walk_at "m.run"
    refine OP_item_list (x := .int di) hdg1 (by omega) (by omega) (by rw [show ((i : Int) + 1).toNat = i + 1 from by omega, List.getElem?_map, hdi]; rfl) (fun _ _ => rfl) ?_
    walk_at "m.run"
    refine w_law_token F hi fun H2 ho hn => ?_
    have k2 : Keep noL H1 H2 := ⟨hn, fun l _ h => ho l h⟩
    have ht := tokOf_ok di hi
    revert ht
    generalize tokOf di i = t
    intro ht
    have B2 := B1.noL k2
    have L2 : LK k1 H2 σ := L1.keep k2 (fun _ _ => rfl) fun _ => rfl
    have C2 : CV H2 := (k2.2 .cvar rfl nofun).trans C1
    have K2 := K1.trans (k2.ofN (p := Loc.isS))
    have hcv : H2.c .cvar = some (.var (some (.cell .builder))) := C2
    clear B1 L1 C1 K1 ho hn hdg1
    walk_at "m.run"
    refine w_feed hpu F B2 W1 (by omega) (by omega) (by omega) (fun e => (R1 e).ne) ht fun H3 B3 k3 => ?_
    have L3 := L2.keepB k3
    have C3 := C2.keepB k3
    have K3 := K2.trans (k3.toS fun _ => b_s)
    walk_at "m.run"
    cases hd : σ.done with
    | true =>
      rw [if_pos hd] at B3
      refine ite_neg (by decide) ?_
      walk_at "m.run"
      exact scene_t (dg := dg) hpu F hi ⟨B3, L3, C3, K3, W1.mono (by omega) (by omega), R1⟩ ⟨rfl, rfl, trivial⟩ fun _ _ g => g
    | false =>
      rw [if_neg (by rw [hd]; decide)] at B3
      have R2 := R1 hd
      have hfl := feed_law W1 ht
      rw [hfl] at B3
      have W2 : WF (9 + (i + 1)) (4 * (i + 1)) (lawN σ t) := by
        rw [← hfl]
        exact (W1.feed (by omega) R2.ne ht).mono (by omega) (by omega)
      have R3 : (lawN σ t).done = false → RootS (lawN σ t) := fun e => by
        rcases R2.law (t := t) with q | q
        · rw [q] at e; cases e
        · exact q
      refine ite_pos (by decide) ?_
      walk_at "m.run"
      refine w_due hpu F (W1.ack false) (by omega) (by omega) (L3.ack false) R2.ne ht fun H4 k4 L4 kk4 => ?_
      have B4 := B3.keepL kk4
      have C4 := C3.keepL kk4
      have K4 := K3.trans (kk4.toS fun _ => l_s)
      clear B3 L3 C3 K3 k3 B2 L2 C2 K2 hcv hfl
      cases t with
      | start n a s =>
        simp only [tkV]
        walk_at "m.run"
        cases s with
        | false =>
          walk_at "m.run"
          exact scene_t (dg := dg) hpu F hi ⟨B4, L4, C4, K4, W2, R3⟩ ⟨rfl, rfl, trivial⟩ fun _ _ g => g
        | true =>
          walk_at "m.run"
          by_cases hv : (actOf σ.mode (.start n a true) != "void") = true
          · have hq : lawN σ (.start n a true) = errN (actN { σ with ack := false } (.start n a true) (actOf σ.mode (.start n a true))) (.tup [.str slashW, .str (actN { σ with ack := false } (.start n a true) (actOf σ.mode (.start n a true))).mode]) := if_pos (by rw [hv]; rfl)
            rw [hq] at B4 W2 R3
            have hz : (actN { σ with ack := false } (.start n a true) (actOf σ.mode (.start n a true))).errs.length ≤ 900 := by
              have r : actN { σ with ack := false } (.start n a true) (actOf σ.mode (.start n a true)) = runN { σ with ack := false } (.start n a true) := act_run (W1.ack false) ht
              rw [r]
              have := ((W1.ack false).run (by omega) R2.ne ht).ze
              omega
            walk_at "m.run"
            have tt : Turn H (H4.put .notes (.list ((actN { σ with ack := false } (.start n a true) (actOf σ.mode (.start n a true))).errs ++ [.tup [.str slashW, .str (actN { σ with ack := false } (.start n a true) (actOf σ.mode (.start n a true))).mode]]))) (i + 1) k4 (errN (actN { σ with ack := false } (.start n a true) (actOf σ.mode (.start n a true))) (.tup [.str slashW, .str (actN { σ with ack := false } (.start n a true) (actOf σ.mode (.start n a true))).mode])) :=
              ⟨B4.keepL (Keep.put (l := .notes) rfl), L4.err _, C4.keepL (Keep.put (l := .notes) rfl), K4.trans ((Keep.put (p := Loc.isL) (l := .notes) rfl).toS fun _ => l_s), W2, R3⟩
            refine scene_t (dg := dg) hpu F hi tt ⟨rfl, rfl, trivial⟩ fun _ _ g => g
          · have hq : lawN σ (.start n a true) = actN { σ with ack := false } (.start n a true) (actOf σ.mode (.start n a true)) := if_neg (by rw [Bool.eq_false_iff.mpr hv]; decide)
            rw [hq] at B4 W2 R3
            walk_at "m.run"
            exact scene_t (dg := dg) hpu F hi ⟨B4, L4, C4, K4, W2, R3⟩ ⟨rfl, rfl, trivial⟩ fun _ _ g => g
      | fin n =>
        simp only [tkV]
        walk_at "m.run"
        exact scene_t (dg := dg) hpu F hi ⟨B4, L4, C4, K4, W2, R3⟩ ⟨rfl, rfl, trivial⟩ fun _ _ g => g
      | ch n =>
        simp only [tkV]
        walk_at "m.run"
        exact scene_t (dg := dg) hpu F hi ⟨B4, L4, C4, K4, W2, R3⟩ ⟨rfl, rfl, trivial⟩ fun _ _ g => g
      | com n =>
        simp only [tkV]
        walk_at "m.run"
        exact scene_t (dg := dg) hpu F hi ⟨B4, L4, C4, K4, W2, R3⟩ ⟨rfl, rfl, trivial⟩ fun _ _ g => g
      | doc =>
        simp only [tkV]
        walk_at "m.run"
        exact scene_t (dg := dg) hpu F hi ⟨B4, L4, C4, K4, W2, R3⟩ ⟨rfl, rfl, trivial⟩ fun _ _ g => g
      | eof =>
        simp only [tkV]
        walk_at "m.run"
        exact scene_t (dg := dg) hpu F hi ⟨B4, L4, C4, K4, W2, R3⟩ ⟨rfl, rfl, trivial⟩ fun _ _ g => g
end
theorem errs_dv : ∀ {l : List V}, (∀ v ∈ l, ErrOK v) → ∃ ds, (∀ H, DVs H l ds) ∧ PyData.canLayAll0 ds = true ∧ PyData.depthAll ds ≤ 10
  | [], _ => ⟨[], fun _ => .nil, rfl, by simp [PyData.depthAll]⟩
  | v :: r, h => by
    obtain ⟨dt, h1, h2, h3⟩ := h v (.head _)
    obtain ⟨ds, g1, g2, g3⟩ := errs_dv (l := r) fun v hv => h v (.tail _ hv)
    refine ⟨dt :: ds, fun H => .cons (h1 H) (g1 H), ?_, ?_⟩
    · simp only [PyData.canLayAll0, h2, g2]; rfl
    · simp only [PyData.depthAll]; omega
section
variable {M : Amb} {d : Nat} {cl : List (Str × Loc)} {ml : List (Str × V)} {H : MH}
theorem scene_d (hpu : M.pu = false) (F : Facts M.K) {dg : Loc} {k : Nat} {τ : St} (B : BH H τ) (L : LK k H τ) (C : CV H) (W : WF 20 44 τ) {Q : V → MH → Prop} (h : ∀ H', Keep Loc.isS H H' → Q (.bool true) H') :
    thenS M (d + 30) (sco (tS 67)) [("builder", .cvar)] ((bd (tS 67)).drop 12) (backS Q) .next (frS dg) H := by
  show TS M (d + 30) (sco (tS 67)) [("builder", .cvar)] (frS dg) H ((bd (tS 67)).drop 12) (backS Q)
  refine TS_at rfl rfl ?_
  have hcv : H.c .cvar = some (.var (some (.cell .builder))) := C
  have z1 := W.zn
  have z2 := W.ze
  obtain ⟨x0, hx0⟩ := W.doc_el
  have pk := plain_ok W 20 0 (by omega)
  have sh : SeqAt.shaped (plainD (20 + 1) τ.nodes 0) = true := by
    unfold SeqAt.shaped
    rw [pk.1, Bool.true_and, decide_eq_true_eq]
    exact Nat.le_trans pk.2 (by decide)
  walk_at "m.run"
  refine w_plain 20 (d := d + 9) F W (by omega) B (isEl_get hx0).1 (by omega) fun v H2 dv k2 => ?_
  have B2 := B.noL k2
  have L2 : LK k H2 τ := L.keep k2 (fun _ _ => rfl) fun _ => rfl
  have hcv2 : H2.c .cvar = some (.var (some (.cell .builder))) := (k2.2 .cvar rfl nofun).trans C
  walk_at "m.run"
  refine OP_ne_data dv.dv (page_dv W L2 20 0 x0 hx0 (by omega)) sh sh ?_
  rw [SeqAt.eqv_refl _ pk.1]
  walk_at "m.run"
  obtain ⟨ds, e1, e2, e3⟩ := errs_dv W.er
  have es : SeqAt.shaped (.list ds) = true := by
    unfold SeqAt.shaped
    rw [show (PyData.list ds).canLay0 = true from e2, Bool.true_and, decide_eq_true_eq]
    simp only [PyData.depth]; omega
  refine OP_eq_data (.list (B2 .errors rfl) (e1 _)) (.list L2.notes (e1 _)) es es ?_
  rw [SeqAt.eqv_refl _ (show (PyData.list ds).canLay0 = true from e2)]
  walk_at "m.run"
  refine TE_list (l := .tmp H2.nx) (fun _ => rfl) ?_
  walk_at "m.run"
  refine ⟨free_tmp (Nat.le_refl _), ?_⟩
  have g1 : (H2.add (.tmp H2.nx) (.list [])).c (.tmp H2.nx) = some (.list []) := add_same
  have n1 : H2.nx < (H2.add (.tmp H2.nx) (.list [])).nx := by show _ < max _ _; omega
  have k3 : Keep noL H2 (H2.add (.tmp H2.nx) (.list [])) := (Keep.refl _).tmp' (Nat.le_refl _)
  revert g1 n1 k3
  generalize H2.add (.tmp H2.nx) (.list []) = H3
  intro g1 n1 k3
  walk_at "m.run"
  refine TE_dict_nil (l := .tmp H3.nx) (free_tmp (Nat.le_refl _)) ?_
  have g2 : (H3.add (.tmp H3.nx) (.dict [])).c (.tmp H3.nx) = some (.dict []) := add_same
  have g3 : (H3.add (.tmp H3.nx) (.dict [])).c (.tmp H2.nx) = some (.list []) := add_other (fun e => by have := Loc.tmp.inj e; omega) g1
  have n2 : H3.nx < (H3.add (.tmp H3.nx) (.dict [])).nx := by show _ < max _ _; omega
  have k4 : Keep noL H3 (H3.add (.tmp H3.nx) (.dict [])) := (Keep.refl _).tmp' (Nat.le_refl _)
  revert g2 g3 n2 k4
  generalize H3.add (.tmp H3.nx) (.dict []) = H4
  intro g2 g3 n2 k4
  walk_at "m.run"
  refine TE_list (l := .tmp H4.nx) (fun _ => rfl) ?_
  walk_at "m.run"
  refine ⟨free_tmp (Nat.le_refl _), ?_⟩
  have g4 : (H4.add (.tmp H4.nx) (.list [])).c (.tmp H4.nx) = some (.list []) := add_same
  have g5 : (H4.add (.tmp H4.nx) (.list [])).c (.tmp H3.nx) = some (.dict []) := add_other (fun e => by have := Loc.tmp.inj e; omega) g2
  have g6 : (H4.add (.tmp H4.nx) (.list [])).c (.tmp H2.nx) = some (.list []) := add_other (fun e => by have := Loc.tmp.inj e; omega) g3
  have k5 : Keep noL H2 (H4.add (.tmp H4.nx) (.list [])) := (k3.trans k4).trans ((Keep.refl _).tmp' (Nat.le_refl _))
  revert g4 g5 g6 k5
  generalize H4.add (.tmp H4.nx) (.list []) = H5
  intro g4 g5 g6 k5
  have B5 := B2.noL k5
  walk_at "m.run"
  refine OP_eq_rest (B5 .fitems rfl) (B5 .owners rfl) (B5 .modes rfl) g6 g5 g4 ?_
  walk_at "m.run"
  exact h _ ((k2.trans k5).ofN)
end
section
variable {M : Amb} {d : Nat} {cl : List (Str × Loc)} {ml : List (Str × V)} {H : MH}
theorem w_law_scene (hpu : M.pu = false) (F : Facts M.K) {j : Nat} {ds : List Int} (hdg : H.c (.tmp j) = some (.list (ds.map .int))) (hds : ds.length = 12) (hj : j < H.nx) (hf : ∀ l, l.isS = true → H.c l = none) {Q : V → MH → Prop}
    (h : ∀ H', Keep Loc.isS H H' → Q (.bool true) H') : CALL M (d + 31) cl ml H 781 [.cell (.tmp j)] Q := by
  refine CALL_cells1 (l := .cvar) (at_law_scene F) b_law_scene rfl rfl rfl (fun _ => rfl) rfl rfl rfl (free_of (hf .cvar rfl) fun _ => nofun) ?_
  have k0 : Keep Loc.isS H (H.add .cvar (.var none)) := Keep.add rfl
  refine scene_a (d := d + 24) (dg := .tmp j) (ds := ds) hpu F (add_other (by intro e; cases e) hdg) hds rfl (fun i e => by cases e; exact hj) (fun l hl hn => add_other hn (hf l hl)) add_same fun H1 k1 w c m ys P B1 L1 C1 K1 => ?_
  refine scene_b (d := d + 24) hpu F P B1 L1 C1 fun H2 k2 σ B2 L2 C2 K2 W2 R2 hd => ?_
  have KK := (k0.trans K1).trans K2
  refine scene_c (d := d + 10) hpu F hds rfl B2 L2 C2 W2 R2 ((KK.2 _ rfl fun i e => by cases e; exact hj).trans hdg) (fun i e => by cases e; exact Nat.lt_of_lt_of_le hj KK.1) fun H3 k3 τ B3 L3 C3 K3 W3 => ?_
  exact scene_d hpu F B3 L3 C3 W3 fun H4 K4 => h H4 ((KK.trans K3).trans K4)
/- the law -/
def basesI : List (List Int) := [[0, 14, 23, 24, 2, 8, 23, 24, 15, 11, 5, 8], [1, 0, 27, 14, 15, 3, 7, 26, 23, 9, 7, 16], [2, 7, 0, 0, 7, 7, 24, 20, 2, 5, 0, 25], [4, 17, 23, 12, 8, 18, 6, 11, 19, 21, 8, 25], [6, 15, 3, 23, 2, 0, 8, 23, 14, 24, 29, 7]]
def basesV : List V := basesI.map fun r => .tup (r.map .int)
theorem w_law_bases (F : Facts M.K) {Q : V → MH → Prop} (h : Q (.tup basesV) H) : CALL M (d + 1) cl ml H 687 [] Q := by
  refine CALL_go (at_law_bases F) b_law_bases rfl rfl rfl ?_
  walk_at "m.run"
  exact h
theorem base_row (i : Nat) (hi : i < 5) : ∃ r : List Int, basesV[i]? = some (.tup (r.map .int)) ∧ r.length = 12 := by
  match i, hi with
  | 0, _ => exact ⟨[0, 14, 23, 24, 2, 8, 23, 24, 15, 11, 5, 8], rfl, rfl⟩
  | 1, _ => exact ⟨[1, 0, 27, 14, 15, 3, 7, 26, 23, 9, 7, 16], rfl, rfl⟩
  | 2, _ => exact ⟨[2, 7, 0, 0, 7, 7, 24, 20, 2, 5, 0, 25], rfl, rfl⟩
  | 3, _ => exact ⟨[4, 17, 23, 12, 8, 18, 6, 11, 19, 21, 8, 25], rfl, rfl⟩
  | 4, _ => exact ⟨[6, 15, 3, 23, 2, 0, 8, 23, 14, 24, 29, 7], rfl, rfl⟩
theorem seq_nat {q n : Nat} (h : q < n) : seqIndex? (q : Int) n = some q := by
  unfold seqIndex?
  simp
  omega
end
/-- nothing but lists of ints -/
structure Fl (H : MH) : Prop where
  n : ∀ l, (∀ j, l ≠ .tmp j) → H.c l = none
  i : ∀ l c, H.c l = some c → ∃ ys : List Int, c = .list (ys.map .int)
theorem Fl.add {H : MH} (f : Fl H) {j : Nat} {ys : List Int} : Fl (H.add (.tmp j) (.list (ys.map .int))) where
  n l hl := add_other (hl j) (f.n l hl)
  i l c h := by
    have h : (if l = .tmp j then some (Cell.list (ys.map .int)) else H.c l) = some c := h
    by_cases e : l = .tmp j
    · rw [if_pos e] at h; cases h; exact ⟨ys, rfl⟩
    · rw [if_neg e] at h; exact f.i l c h
theorem Fl.put {H : MH} (f : Fl H) {j : Nat} {ys : List Int} : Fl (H.put (.tmp j) (.list (ys.map .int))) where
  n l hl := put_other (hl j) (f.n l hl)
  i l c h := by
    have h : (if l = .tmp j then some (Cell.list (ys.map .int)) else H.c l) = some c := h
    by_cases e : l = .tmp j
    · rw [if_pos e] at h; cases h; exact ⟨ys, rfl⟩
    · rw [if_neg e] at h; exact f.i l c h
def dropP (n : Nat) : Loc → Bool
  | .tmp k => decide (n ≤ k)
  | l => l.isS
theorem dropP_s {n : Nat} {l : Loc} (h : dropP n l = false) : l.isS = false ∧ ∀ k, l = .tmp k → k < n := by
  cases l with
  | tmp k => exact ⟨rfl, fun j e => by cases e; have := of_decide_eq_false h; omega⟩
  | _ => exact ⟨h, fun j e => nomatch e⟩
theorem Fl.drop {H H' : MH} (f : Fl H) (k : Keep Loc.isS H H') : Fl (H'.forget (dropP H.nx)) where
  n l hl := by
    show (if dropP H.nx l = true then none else H'.c l) = none
    split
    · rfl
    · rename_i q
      have := dropP_s (Bool.eq_false_iff.mpr q)
      rw [k.2 l this.1 this.2]; exact f.n l hl
  i l c h := by
    have h : (if dropP H.nx l = true then none else H'.c l) = some c := h
    split at h
    · cases h
    · rename_i q
      have := dropP_s (Bool.eq_false_iff.mpr q)
      rw [k.2 l this.1 this.2] at h; exact f.i l c h
section
variable {M : Amb} {d : Nat} {cl : List (Str × Loc)} {ml : List (Str × V)} {H : MH}
theorem w_scene_drop (hpu : M.pu = false) (F : Facts M.K) (f : Fl H) {j : Nat} {ds : List Int} (hdg : H.c (.tmp j) = some (.list (ds.map .int))) (hds : ds.length = 12) (hj : j < H.nx) {Q : V → MH → Prop}
    (h : ∀ H', Fl H' → Q (.bool true) H') : CALL M (d + 31) cl ml H 781 [.cell (.tmp j)] Q := by
  refine CALL_forget (dropP H.nx) (fun l hl => ?_) (fun l c _ hc => f.i l c hc) ?_
  · cases l with
    | tmp k => exact free_tmp (of_decide_eq_true hl)
    | _ => exact free_of (f.n _ fun _ => nofun) fun _ => nofun
  · exact w_law_scene hpu F hdg hds hj (fun l hl => f.n l fun k e => by subst e; cases hl) fun H' k => ⟨⟨true, rfl⟩, fun l hl => let q := dropP_s hl; k.2 l q.1 q.2, h _ (f.drop k)⟩
theorem w_law (hpu : M.pu = false) (F : Facts M.K) {a : Addr} {vs : List Value} {ns : List Int} (z : ZList M a vs ns) (hn : ns.length ≤ 63) (f : Fl H) {Q : V → MH → Prop} (h : ∀ H', Q (.bool true) H') :
    TS M (d + 32) (sco (tS 68)) [] [("script", .glob a)] H (bd (tS 68)) (backS Q) := by
  refine TS_at rfl rfl ?_
  walk_at "m.run"
  refine w_law_bases F ?_
  walk_at "m.run"
  refine' T1_range' (fun _ => rfl) (fun _ => rfl) rfl (fun _ _ => rfl) (fun i (_ : Unit) H' => Fl H') (fun _ _ => [("bases", .tup basesV), ("script", .glob a)]) 5 () (by decide) (fun _ _ _ s h => TX.sub s h) ?hrn ?step ?hend
  case hrn =>
    walk_at "m.run"
    exact ⟨f, ⟨rfl, rfl, trivial⟩⟩
  case hend =>
    rintro _ H' f'
    walk_at "m.run"
    exact h H'
  case step =>
    rintro i _ H1 hi f1
    walk_at "m.run"
    refine TE_list (l := .tmp H1.nx) (fun _ => rfl) ?_
    walk_at "m.run"
    refine ⟨free_tmp (Nat.le_refl _), ?_⟩
    have f2 : Fl (H1.add (.tmp H1.nx) (.list [])) := f1.add (ys := [])
    have c2 : (H1.add (.tmp H1.nx) (.list [])).c (.tmp H1.nx) = some (.list []) := add_same
    have n2 : H1.nx < (H1.add (.tmp H1.nx) (.list [])).nx := by show _ < max _ _; omega
    revert f2 c2 n2
    generalize H1.add (.tmp H1.nx) (.list []) = H2
    generalize H1.nx = j
    intro f2 c2 n2
    walk_at "m.run"
    refine' T1_range' (fun _ => rfl) (fun _ => rfl) rfl (fun _ _ => rfl) (fun k (_ : Unit) H' => ∃ ds : List Int, H'.c (.tmp j) = some (.list (ds.map .int)) ∧ ds.length = k ∧ j < H'.nx ∧ Fl H') (fun _ _ => [("digits", .cell (.tmp j)), ("scene", .int i), ("bases", .tup basesV), ("script", .glob a)]) 12 () (by decide) (fun _ _ _ s h => TX.sub s h) ?hrn ?step ?hend
    case hrn =>
      walk_at "m.run"
      exact ⟨⟨[], c2, rfl, n2, f2⟩, ⟨rfl, rfl, rfl, rfl, trivial⟩⟩
    case hend =>
      rintro _ H3 ⟨ds, c3, hds, hj, f3⟩
      walk_at "m.run"
      refine w_scene_drop hpu F f3 c3 hds hj fun H4 f4 => ?_
      walk_at "m.run"
      exact ⟨(), f4, ⟨rfl, rfl, trivial⟩⟩
    case step =>
      rintro k _ H3 hk ⟨ds, c3, hds, hj, f3⟩
      walk_at "m.run"
      refine OP_mul (by decide) ?_
      walk_at "m.run"
      obtain ⟨r, hr, hrl⟩ := base_row i hi
      obtain ⟨b, hb⟩ : ∃ b, r[k]? = some b := ⟨_, List.getElem?_eq_getElem (by omega)⟩
      refine OP_item_tup (j := i) (x := .tup (r.map .int)) (by omega) (by omega) (seq_nat (by show i < 5; exact hi)) hr (fun _ _ => rfl) ?_
      walk_at "m.run"
      refine OP_item_tup (j := k) (x := .int b) (by omega) (by omega) (seq_nat (by rw [List.length_map]; omega)) (by rw [List.getElem?_map, hb]; rfl) (fun _ _ => rfl) ?_
      walk_at "m.run"
      refine B_len_z z (by omega) ?_
      walk_at "m.run"
      by_cases e : decide (12 * (i : Int) + (k : Int) < (ns.length : Int)) = true
      · have e' := of_decide_eq_true e
        obtain ⟨x, hx⟩ : ∃ x, ns[(12 * (i : Int) + (k : Int)).toNat]? = some x := ⟨_, List.getElem?_eq_getElem (by omega)⟩
        refine ite_pos e ?_
        walk_at "m.run"
        refine OP_item_z z (x := x) (by omega) (by omega) hx (fun _ _ => rfl) ?_
        walk_at "m.run"
        refine ⟨(), ⟨ds ++ [b + x], ?_, by simp [hds], hj, ?_⟩, ⟨rfl, rfl, rfl, rfl, trivial⟩⟩
        · rw [put_same, List.map_append]; rfl
        · have := f3.put (j := j) (ys := ds ++ [b + x])
          rw [List.map_append] at this
          exact this
      · refine ite_neg e ?_
        walk_at "m.run"
        refine ⟨(), ⟨ds ++ [b + 0], ?_, by simp [hds], hj, ?_⟩, ⟨rfl, rfl, rfl, rfl, trivial⟩⟩
        · rw [put_same, List.map_append]; rfl
        · have := f3.put (j := j) (ys := ds ++ [b + 0])
          rw [List.map_append] at this
          exact this
end
/-- the law's frame, from what the head gives -/
theorem law_join {prog : Program} {w : World} {K : Frag} {p : Program} {loose : List Str} {mean : ExcName → Option Value} {mg mb : Str → Option Value} {g h₁ : Heap} {a fa : Addr} {cd : Value} {name : Str} {vs : List Value} {ns : List Int} {s : Shared} {Q : Flow → Shared → Prop} {E : Value → Shared → Prop}
    (F : Facts K) (X : K.In g) (T : Top p loose mean mg mb g) (B : Below callerA g [] g) (hl : g.IsList a vs.toArray) (hI : IntsAre vs ns) (hn : ns.length ≤ 63)
    (Fr₀ : Fr g g.objs.size h₁ (fun x => List.lookup x [(("script" : Str), Value.ref a)].reverse)) (N : News g g.objs.size h₁ []) (hs : s.heap = h₁)
    (hQ : ∀ h' tk', (∀ b o, g.get? b = some o → h'.get? b = some o) → Q (.ret (.bool true)) { s with heap := h', toks := tk' }) :
    wpAny (model prog w) (callerA.deeper (envOf name (sco (tS 68)) g.objs.size fa cd)) (execs (bd (tS 68)) (envOf name (sco (tS 68)) g.objs.size fa cd)) Q E s := by
  subst hs
  obtain ⟨o, h1, h2, n, h3⟩ := hl
  have z : ZList { prog := prog, w := w, K := K, p := p, loose := loose, mean := mean, mg := mg, mb := mb, pu := false, zs := [(a, o)] } a vs ns := ⟨⟨o, n, .head _, h2, h3⟩, hI⟩
  have C : CX { prog := prog, w := w, K := K, p := p, loose := loose, mean := mean, mg := mg, mb := mb, pu := false, zs := [(a, o)] } 32 (callerA.deeper (envOf name (sco (tS 68)) g.objs.size fa cd)) g g [] (envOf name (sco (tS 68)) g.objs.size fa cd) (envOf name (sco (tS 68)) g.objs.size fa cd) g.objs.size
      (fun x => List.lookup x [(("script" : Str), Value.ref a)].reverse) (fun x => List.lookup x [(("script" : Str), Value.ref a)].reverse) [] [("script", .glob a)] s ⟨fun _ _ => none, []⟩ ⟨fun _ => none, 0⟩ :=
    { hA := rfl
      bel := ⟨_, B⟩
      ff := rfl
      fk := rfl
      F := Fr₀
      N := N
      X := X
      Z := fun q hq => by rw [List.mem_singleton.mp hq]; exact h1
      T := T
      hh := rfl
      room := by show callerA.depth + 1 + 4 * 32 ≤ 600; decide
      units := by show callerA.units + 3 + 20 * 32 ≤ 9000; decide
      ek := rfl
      eg := rfl
      eb := rfl
      loc := .inl ⟨rfl, rfl⟩
      lr := fun x v hx => by
        rw [List.lookup_cons] at hx
        split at hx
        · rename_i q
          cases hx
          refine ⟨.ref a, ?_, .glob a⟩
          show List.lookup x [(("script" : Str), Value.ref a)] = _
          rw [List.lookup_cons, q]
        · cases hx
      cr := fun x l hx => nomatch hx
      rel := ⟨fun l c h => (nomatch h), fun _ _ _ _ _ h => (nomatch h), List.nodup_nil, fun _ _ _ h => (nomatch h), fun _ _ _ => rfl⟩ }
  refine wpAny_mono (w_law (d := 0) rfl F z hn (H := ⟨fun _ => none, 0⟩) ⟨fun _ _ => rfl, fun _ _ h => (nomatch h)⟩ (Q := fun v _ => v = .bool true) (fun _ => rfl) rfl rfl C (Qm := Q) fun f f' ml' H' wd' h' tk' m' q x r c' => ?_) (fun _ _ y => y) fun _ _ y => y.elim
  cases r with
  | ret rv =>
    have q : _ = V.bool true := q
    subst q
    cases rv
    exact hQ h' tk' fun b o e => c'.F.keep b o e
  | next => have q : V.none = V.bool true := q; cases q
  | brk => exact q.elim
  | cont => exact q.elim

def hd.tw6818987989461384207 : Unit := ()
def hd.tw17311223219408574766 : Unit := ()
def hd.tw2845207389951388047 : Unit := ()
def hd.tw17087091549796120035 : Unit := ()
def hd.tw15616948245753086127 : Unit := ()
def hd.tw13047593935725612058 : Unit := ()
def hd.tw13293453174229064190 : Unit := ()
def hd.tw7519716089354478335 : Unit := ()
def hd.tw14892549342360969540 : Unit := ()
def hd.tw978945382295711627 : Unit := ()
def hd.tw7523672394736509286 : Unit := ()
def hd.tw11034497122203965937 : Unit := ()
def hd.tw4065347644161347641 : Unit := ()
def hd.tw5961118342813265553 : Unit := ()
def hd.tw9641152695372364146 : Unit := ()
def hd.tw17325209927041812611 : Unit := ()
def hd.tw11128854368766332075 : Unit := ()
def hd.tw12591134339009171964 : Unit := ()
def hd.tw4138081844389336918 : Unit := ()
def hd.tw17076082267592564974 : Unit := ()
def hd.tw8211384405938104136 : Unit := ()
def hd.tw3722166409189360004 : Unit := ()
def hd.tw4377701919642642989 : Unit := ()
def hd.tw13468300074154594103 : Unit := ()
def hd.tw8068729725432388964 : Unit := ()
def hd.tw9258712216579463092 : Unit := ()
def hd.tw9215827820722605749 : Unit := ()
def hd.tw9577689765879766989 : Unit := ()
def hd.tw4367455430839740993 : Unit := ()
def hd.tw10216474801634566288 : Unit := ()
def hd.tw12480425521718506038 : Unit := ()
def hd.tw4091639524402994376 : Unit := ()
def hd.tw5148922909946612681 : Unit := ()
def hd.tw5781342201191254626 : Unit := ()
def hd.tw17711083657039698284 : Unit := ()
def hd.tw5732804406350252772 : Unit := ()
def hd.tw1452849714261714991 : Unit := ()
def hd.tw16302227732802510677 : Unit := ()
def hd.tw14620637471214046174 : Unit := ()
def hd.tw4126306136578151734 : Unit := ()
def hd.tw12631932088317031055 : Unit := ()
def hd.tw137786328141462057 : Unit := ()
def hd.tw14176624398918483544 : Unit := ()
def hd.tw15043168886218598503 : Unit := ()
def hd.tw15179676742415161110 : Unit := ()
def hd.tw2867327485932766208 : Unit := ()
def hd.tw10752148897807903841 : Unit := ()
def hd.tw16649331688326792143 : Unit := ()
def hd.tw15103106377680225435 : Unit := ()
def hd.tw11652457597714270106 : Unit := ()
def hd.tw960944832710211464 : Unit := ()
def hd.tw7793673504863384051 : Unit := ()
def hd.tw17312999752573914782 : Unit := ()
def hd.tw3513125359445811510 : Unit := ()
def hd.tw13372043803930879067 : Unit := ()
def hd.tw4856431653887292112 : Unit := ()
def hd.tw307737655149646647 : Unit := ()
def hd.tw3953601041324332601 : Unit := ()
def hd.tw11117797201346649052 : Unit := ()
def hd.tw6046454685291232161 : Unit := ()
def hd.tw2216850387143573719 : Unit := ()
def hd.tw8684328023851190084 : Unit := ()
def hd.tw10543509907540572799 : Unit := ()
def hd.tw3481261680137367002 : Unit := ()
def hd.tw15427206886491885616 : Unit := ()
def hd.tw7752569895197466512 : Unit := ()
def hd.tw461538923250603899 : Unit := ()
def hd.tw6838551448383532254 : Unit := ()
def hd.tw18241275227582772068 : Unit := ()
def hd.tw5592360268479517082 : Unit := ()
def hd.tw9077708301081682751 : Unit := ()
def hd.tw13994979335412520660 : Unit := ()
def hd.tw1847840615245081061 : Unit := ()
def hd.tw13066319289922817542 : Unit := ()
def hd.tw8047900516022102942 : Unit := ()
def hd.tw368366308016060594 : Unit := ()
def hd.tw8671608845466749128 : Unit := ()
def hd.tw14896477498954680388 : Unit := ()
def hd.tw8343274005884668182 : Unit := ()
def hd.tw16202701480999543083 : Unit := ()
def hd.tw8801323125487838256 : Unit := ()
def hd.tw4724112764586752083 : Unit := ()
def hd.tw12509009523430927325 : Unit := ()
def hd.tw9087110039335098043 : Unit := ()
def hd.tw16772102934027710169 : Unit := ()
def hd.tw12936449754285732098 : Unit := ()
def hd.tw16301592386811335294 : Unit := ()
def hd.tw16332348944364537037 : Unit := ()
def hd.tw13330244855972007585 : Unit := ()
def hd.tw18087722134493236510 : Unit := ()
def hd.tw17599816209265215132 : Unit := ()
def hd.tw11915594877312485397 : Unit := ()
def hd.tw2114630138375439770 : Unit := ()
def hd.tw10012880186880212623 : Unit := ()
def hd.tw7752767780024739350 : Unit := ()
def hd.tw17577478241444706838 : Unit := ()
def hd.tw17583924267553061668 : Unit := ()
def hd.tw17650839729002327288 : Unit := ()
def hd.tw7540741092611519060 : Unit := ()
def hd.tw12092154237167983948 : Unit := ()
def hd.tw732345407407602841 : Unit := ()
def hd.tw11293185540015357738 : Unit := ()
def hd.tw17495340751864218003 : Unit := ()
def hd.tw6528754448969337418 : Unit := ()
def hd.tw5010264101278932077 : Unit := ()
def hd.tw14598272352848978880 : Unit := ()
def hd.tw9073681462420916055 : Unit := ()
def hd.tw9429285754427346401 : Unit := ()
def hd.tw16357263729072622229 : Unit := ()
def hd.tw5373601922739893978 : Unit := ()
def hd.tw8770205317985620760 : Unit := ()
def hd.tw7540655947842036084 : Unit := ()
def hd.tw7854228177987924090 : Unit := ()
def hd.tw14353793391729792155 : Unit := ()
def hd.tw7354087734392854552 : Unit := ()
def hd.tw7080932558258925280 : Unit := ()
def hd.tw8015326511298524721 : Unit := ()
def hd.tw7746578258024575070 : Unit := ()
def hd.tw12588582704262371052 : Unit := ()
def hd.tw5282504435634884242 : Unit := ()
def hd.tw11893437276241958245 : Unit := ()
def hd.tw11953376511379268794 : Unit := ()
def hd.tw1382963296337349011 : Unit := ()
def hd.tw3182187488490625086 : Unit := ()
def hd.tw18300207936620678264 : Unit := ()
def hd.tw15368132723985388332 : Unit := ()
def hd.tw13518370688599389936 : Unit := ()
def hd.tw9842699097658496709 : Unit := ()
def hd.tw5363564295841288755 : Unit := ()
def hd.tw5562173858411828344 : Unit := ()
def hd.tw2167537188350426706 : Unit := ()
def hd.tw7891253978561527248 : Unit := ()
def hd.tw5278057926702712004 : Unit := ()
def hd.tw13903934854276604550 : Unit := ()
def hd.tw2524978443121100084 : Unit := ()
def hd.tw6423634429210846174 : Unit := ()
def hd.tw4817003022231809500 : Unit := ()
def hd.tw7698358502638924378 : Unit := ()
def hd.tw6482722132109649516 : Unit := ()
def hd.tw3480954088277226078 : Unit := ()
def hd.tw14006173549557618073 : Unit := ()
def hd.tw16502264421070913907 : Unit := ()
def hd.tw526207354791536317 : Unit := ()
def hd.tw5464967688985200232 : Unit := ()
def hd.tw11912922877643110818 : Unit := ()
def hd.tw8081886968326746073 : Unit := ()
def hd.tw13609717118414637909 : Unit := ()
def hd.tw6636792957720756321 : Unit := ()
def hd.tw2799716289819351777 : Unit := ()
def hd.tw12173100003817136821 : Unit := ()
def hd.tw7082855905992002993 : Unit := ()
def hd.tw11631869004601391166 : Unit := ()
def hd.tw4478964076566166474 : Unit := ()
def hd.tw4115565904173853331 : Unit := ()
def hd.tw13566260322249332789 : Unit := ()
def hd.tw6761669909254768831 : Unit := ()
def hd.tw10111801491309104144 : Unit := ()
def hd.tw6982297934935202809 : Unit := ()
def hd.tw4768578896829404305 : Unit := ()
def hd.tw17454471701868102899 : Unit := ()
def hd.tw16456969618363192440 : Unit := ()
def hd.tw7721951785955056133 : Unit := ()
def hd.tw5715356086224469760 : Unit := ()
def hd.tw7792395482447073224 : Unit := ()
def hd.tw14294001040229213422 : Unit := ()
def hd.tw7510230149288206974 : Unit := ()
def hd.tw2502866573005156581 : Unit := ()
def hd.tw12901994302517312135 : Unit := ()
def hd.tw1299046323782801668 : Unit := ()
def hd.tw5987830557187376847 : Unit := ()
def hd.tw17901334829092211166 : Unit := ()
def hd.tw2195365466389143174 : Unit := ()
def hd.tw13225837485096350037 : Unit := ()
def hd.tw1208734638264122097 : Unit := ()
def hd.tw16037735763661986305 : Unit := ()
def hd.tw6598312636042714100 : Unit := ()
def hd.tw3759623122121258479 : Unit := ()
def hd.tw5873113503399164460 : Unit := ()
def hd.tw1088296927520436173 : Unit := ()
def hd.tw1865391376527767206 : Unit := ()
def hd.tw5513025101015932971 : Unit := ()
def hd.tw16155205043701107222 : Unit := ()
def hd.tw8117029840178788049 : Unit := ()
def hd.tw9427301549700849589 : Unit := ()
def hd.tw9421340871869096474 : Unit := ()
def hd.tw7610815399733428385 : Unit := ()
def hd.tw1882180444382439491 : Unit := ()
def hd.tw7292484366425897655 : Unit := ()
def hd.tw7303270361268845054 : Unit := ()
def hd.tw17183889307030395790 : Unit := ()
def hd.tw4136554803537287180 : Unit := ()
def hd.tw16053994301053490033 : Unit := ()
def hd.tw7914949630228597729 : Unit := ()
def hd.tw13474097485772985973 : Unit := ()
def hd.tw7676003278276379012 : Unit := ()
def hd.tw9942979801534940709 : Unit := ()
def hd.tw799355135909283525 : Unit := ()
def hd.tw4292457097857839397 : Unit := ()
def hd.tw11672842613191775419 : Unit := ()
def hd.tw3922637787740509324 : Unit := ()
def hd.tw10844753989422098599 : Unit := ()
def hd.tw16056359734778111409 : Unit := ()
def hd.tw17780116424223528106 : Unit := ()
def hd.tw11623594800819314181 : Unit := ()
def hd.tw920214292312260371 : Unit := ()
def hd.tw9277588360372424766 : Unit := ()
def hd.tw15463257786427224491 : Unit := ()
def hd.tw8773699223549846113 : Unit := ()
def hd.tw17047115858639842297 : Unit := ()
def hd.tw17420951861521290806 : Unit := ()
def hd.tw5978321128707920903 : Unit := ()
def hd.tw6060742912462422084 : Unit := ()
def hd.tw2457190517430149469 : Unit := ()
def hd.tw1118553966540926140 : Unit := ()
def hd.tw8965841893048198262 : Unit := ()
def hd.tw2263123870574935043 : Unit := ()
def hd.tw9783614193127449063 : Unit := ()
def hd.tw13483081372092288885 : Unit := ()
def hd.tw8977307856219701671 : Unit := ()
def hd.tw14060154772996877548 : Unit := ()
def hd.tw8727321023445011275 : Unit := ()
def hd.tw7654286748164834634 : Unit := ()
def hd.tw2274498078352570744 : Unit := ()
def hd.tw8538877666451538035 : Unit := ()
def hd.tw4993660671451451078 : Unit := ()
def hd.tw11729958736954745289 : Unit := ()
def hd.tw3085183777334472315 : Unit := ()
def hd.tw2134215046882385847 : Unit := ()
def hd.tw5318216170032084099 : Unit := ()
def hd.tw10516568530972986169 : Unit := ()
def hd.tw17628472586750557451 : Unit := ()
def hd.tw5716766192118558609 : Unit := ()
def hd.tw1563692795949630186 : Unit := ()
def hd.tw7085514621470718492 : Unit := ()
def hd.tw16006246977917349235 : Unit := ()
def hd.tw6830512106363814048 : Unit := ()
def hd.tw5245234834050458271 : Unit := ()
def hd.tw7541792107247259296 : Unit := ()
def hd.tw10258999931320997221 : Unit := ()
def hd.tw10170382586518783626 : Unit := ()
def hd.tw2284436838669742495 : Unit := ()
def hd.tw15166520500009309586 : Unit := ()
def hd.tw8351282476255451920 : Unit := ()
def hd.tw17574625026820762457 : Unit := ()
def hd.tw16794629799341752650 : Unit := ()
def hd.tw11011131195910976488 : Unit := ()
def hd.tw16412773359747925120 : Unit := ()
def hd.tw17673860158736603733 : Unit := ()
def hd.tw10403243965636340961 : Unit := ()
def hd.tw9557236495431379559 : Unit := ()
def hd.tw9753359207989701909 : Unit := ()
def hd.tw4172343393113369950 : Unit := ()
def hd.tw7366208706002141716 : Unit := ()
def hd.tw4015398097383911347 : Unit := ()
def hd.tw12393119488966705847 : Unit := ()
def hd.tw15277330632498426303 : Unit := ()
def hd.tw16945582573551092051 : Unit := ()
def hd.tw1425423193147277237 : Unit := ()
def hd.tw9430268157657104642 : Unit := ()
def hd.tw3828038474966422129 : Unit := ()
def hd.tw17386561741084979693 : Unit := ()
def hd.tw15987713032478767096 : Unit := ()
def hd.tw8004679753235328684 : Unit := ()
def hd.tw881544763273948857 : Unit := ()
def hd.tw12058812876911547015 : Unit := ()
def hd.tw17130151131035750659 : Unit := ()
def hd.tw16853341256802265648 : Unit := ()
def hd.tw13217225542625558698 : Unit := ()
def hd.tw2595994805191909183 : Unit := ()
def hd.tw9386895884608548742 : Unit := ()
def hd.tw11213053971927718326 : Unit := ()
def hd.tw1588505670450824345 : Unit := ()
def hd.tw15348815342697509953 : Unit := ()
def hd.tw3876449026389394717 : Unit := ()
def hd.tw15527848837575444561 : Unit := ()
def hd.tw4523669819894539328 : Unit := ()
def hd.tw14768889098011018680 : Unit := ()
def hd.tw13638418597567726942 : Unit := ()
def hd.tw14772383043592177042 : Unit := ()
def hd.tw3381375190539634487 : Unit := ()
def hd.tw9983995961361265002 : Unit := ()
def hd.tw9420132969298855359 : Unit := ()
def hd.tw9627899436633539337 : Unit := ()
def hd.tw17986969038992634876 : Unit := ()
def hd.tw13828106393651249627 : Unit := ()
def hd.tw17588044629489971554 : Unit := ()
def hd.tw6906073325868019850 : Unit := ()
def hd.tw14294344414604881677 : Unit := ()
def hd.tw10727248033764811480 : Unit := ()
def hd.tw2000490053193787569 : Unit := ()
def hd.tw16009884308244765898 : Unit := ()
def hd.tw16473244170626142550 : Unit := ()
def hd.tw14859038896228082724 : Unit := ()
def hd.tw4851647983119433812 : Unit := ()
def hd.tw226724450230711188 : Unit := ()
def hd.tw14960593345356199642 : Unit := ()
def hd.tw4182648748547736412 : Unit := ()
def hd.tw16138627921320673191 : Unit := ()
def hd.tw10784824025267889561 : Unit := ()
def hd.tw14705683404202351889 : Unit := ()
def hd.tw15508949281206285077 : Unit := ()
def hd.tw3404104791013757517 : Unit := ()
def hd.tw13171141561276507362 : Unit := ()
def hd.tw2304311442786299043 : Unit := ()
def hd.tw17172931820748874959 : Unit := ()
def hd.tw4272726840584523970 : Unit := ()
def hd.tw3109861748172591687 : Unit := ()
def hd.tw16257038226119295666 : Unit := ()
def hd.tw12487502673411948298 : Unit := ()
def hd.tw16828841361933241965 : Unit := ()
def hd.tw15595854959937240912 : Unit := ()
def hd.tw17737187407176874954 : Unit := ()
def hd.tw9390866547671247325 : Unit := ()
def hd.tw6196171512934965099 : Unit := ()
def hd.tw17950676927832955104 : Unit := ()
def hd.tw16169374299450900766 : Unit := ()
def hd.tw10458740792067480800 : Unit := ()
def hd.tw128412058910260475 : Unit := ()
def hd.tw12685813987229840507 : Unit := ()
def hd.tw1506431575118746342 : Unit := ()
def hd.tw17183224562656869120 : Unit := ()
def hd.tw13866372431405929976 : Unit := ()
def hd.tw4449123307109862055 : Unit := ()
def hd.tw12112201142124510154 : Unit := ()
def hd.tw8589211134812392127 : Unit := ()
def hd.tw11375277706881905925 : Unit := ()
def hd.tw12394076208661396346 : Unit := ()
def hd.tw17213754286329925777 : Unit := ()
def hd.tw4643362625855044894 : Unit := ()
def hd.tw16091413853298234908 : Unit := ()
def hd.tw2616952524820836436 : Unit := ()
def hd.tw2781682124601125471 : Unit := ()
def hd.tw13931416462566266981 : Unit := ()
def hd.tw3530705653197291679 : Unit := ()
def hd.tw84519696092419186 : Unit := ()
def hd.tw262745018181394680 : Unit := ()
def hd.tw10531373872144210542 : Unit := ()
def hd.tw16904818350239718627 : Unit := ()
def hd.tw4282304852377368616 : Unit := ()
def hd.tw1712922718373300912 : Unit := ()
def hd.tw9013056391748086436 : Unit := ()
def hd.tw6820862383352777685 : Unit := ()
def hd.tw2701402951725559080 : Unit := ()
def hd.tw402640490398009360 : Unit := ()
def hd.tw14991384322417631237 : Unit := ()
def hd.tw11632984921778587759 : Unit := ()
def hd.tw2951005344575393816 : Unit := ()
def hd.tw8716120427605611371 : Unit := ()
def hd.tw15837987909243819085 : Unit := ()
def hd.tw8960069828448710407 : Unit := ()
def hd.tw7120233287515763914 : Unit := ()
def hd.tw12364972598781006883 : Unit := ()
def hd.tw7763873220885509757 : Unit := ()
def hd.tw6882427118574961969 : Unit := ()
def hd.tw15642763164714097627 : Unit := ()
def hd.tw6276725880618359904 : Unit := ()
def hd.tw991583007596301734 : Unit := ()
def hd.tw17394231825005217808 : Unit := ()
def hd.tw11472165163037031739 : Unit := ()
def hd.tw17989097746536338734 : Unit := ()
def hd.tw5505005885091257285 : Unit := ()
def hd.tw3789350110615891812 : Unit := ()
def hd.tw18293851220164018083 : Unit := ()
def hd.tw13466754112058979494 : Unit := ()
def hd.tw9631708518359487223 : Unit := ()
def hd.tw4478166936697009375 : Unit := ()
def hd.tw15048261121198461528 : Unit := ()
def hd.tw17491280204586788870 : Unit := ()
def hd.tw1589133516308662214 : Unit := ()
def hd.tw15643275761693703936 : Unit := ()
def hd.tw10781468475247234061 : Unit := ()
def hd.tw13431754692932380062 : Unit := ()
def hd.tw5433107678231618845 : Unit := ()
def hd.tw1781861727890032366 : Unit := ()
def hd.tw11852641145169952659 : Unit := ()
def hd.tw10210669037155785340 : Unit := ()
def hd.tw13092906067662860646 : Unit := ()
def hd.tw15675198926951892251 : Unit := ()
def hd.tw1610171440888473627 : Unit := ()
def hd.tw9170477692918782315 : Unit := ()
def hd.tw4478177076189095293 : Unit := ()
def hd.tw18103342009636024947 : Unit := ()
def hd.tw1535757262459896012 : Unit := ()
def hd.tw6136932545381038964 : Unit := ()
def hd.tw1699103778626983548 : Unit := ()
def hd.tw432457690288141553 : Unit := ()
def hd.tw11210553801493137410 : Unit := ()
def hd.tw13220430256171166289 : Unit := ()
def hd.tw11507959949525687343 : Unit := ()
def hd.tw17387473266821786944 : Unit := ()
def hd.tw6123773746684550334 : Unit := ()
def hd.tw7068711184596962023 : Unit := ()
def hd.tw4367231431732253908 : Unit := ()
def hd.tw13285133528070534704 : Unit := ()
def hd.tw663384727985864361 : Unit := ()
def hd.tw13160604113216922460 : Unit := ()
def hd.tw9719896912496429819 : Unit := ()
def hd.tw5902613922787404954 : Unit := ()
def hd.tw442638132926106271 : Unit := ()
def hd.tw17845618019537910915 : Unit := ()
def hd.tw16919406825032445293 : Unit := ()
def hd.tw11115866451450875312 : Unit := ()
def hd.tw825126770350376351 : Unit := ()
def hd.tw11713075325732132258 : Unit := ()
def hd.tw10841399608879689956 : Unit := ()
def hd.tw8428860471423672150 : Unit := ()
def hd.tw8210421348078903774 : Unit := ()
def hd.tw3920623390966001496 : Unit := ()
def hd.tw9731375825926819010 : Unit := ()
def hd.tw14567429538950270057 : Unit := ()
def hd.tw1580110805410547442 : Unit := ()
def hd.tw10583446816852156582 : Unit := ()
def hd.tw2295870552580634182 : Unit := ()
def hd.tw6957150274394394060 : Unit := ()
def hd.tw10030107230732127627 : Unit := ()
def hd.tw12949589719889679912 : Unit := ()
def hd.tw250903467453971090 : Unit := ()
def hd.tw8268277133935991078 : Unit := ()
def hd.tw14955159897011116063 : Unit := ()
def hd.tw15278966056882409248 : Unit := ()
def hd.tw8242931771332617035 : Unit := ()
def hd.tw3419581819265744254 : Unit := ()
def hd.tw2579130931290207214 : Unit := ()
def hd.tw10404513684093684653 : Unit := ()
def hd.tw10246146449241189800 : Unit := ()
def hd.tw5130813555471234732 : Unit := ()
def hd.tw11364443708160879001 : Unit := ()
def hd.tw5505332120971382143 : Unit := ()
def hd.tw5983496337302601536 : Unit := ()
def hd.tw16259696140248634718 : Unit := ()
def hd.tw12590977762386282803 : Unit := ()
def hd.tw15089522573102190283 : Unit := ()
def hd.tw14683707025165767436 : Unit := ()
def hd.tw11917015161858427179 : Unit := ()
def hd.tw7382370116671421104 : Unit := ()
def hd.tw15924899543223041283 : Unit := ()
def hd.tw6879831473291441079 : Unit := ()
def hd.tw10292235466723388172 : Unit := ()
def hd.tw10286656452748174568 : Unit := ()
def hd.tw18166333605607142505 : Unit := ()
def hd.tw17895171251205151618 : Unit := ()
def hd.tw11513968764499736323 : Unit := ()
def hd.tw16299908979028503884 : Unit := ()
def hd.tw1359830224848277088 : Unit := ()
def hd.tw12744807935193187038 : Unit := ()
def hd.tw11079593142295127227 : Unit := ()
def hd.tw11054480109507316185 : Unit := ()
def hd.tw11631947586910100387 : Unit := ()
def hd.tw2386827423013361158 : Unit := ()
def hd.tw100483095206116625 : Unit := ()
def hd.tw5480042469492414594 : Unit := ()
def hd.tw16634568088961857937 : Unit := ()
def hd.tw6627881031435992008 : Unit := ()
def hd.tw9398405308114057262 : Unit := ()
def hd.tw7379015992945566340 : Unit := ()
def hd.tw5388632664720090651 : Unit := ()
def hd.tw7174315439194531881 : Unit := ()
def hd.tw5629675986466331604 : Unit := ()
def hd.tw13790719812936386609 : Unit := ()
def hd.tw6164396464334811476 : Unit := ()
def hd.tw8770659054964912022 : Unit := ()
def hd.tw17919194246423945575 : Unit := ()
def hd.tw2315301623876862497 : Unit := ()
def hd.tw2101469004524951375 : Unit := ()
def hd.tw10847404155465417027 : Unit := ()
def hd.tw9702936160620672325 : Unit := ()
def hd.tw16443024508289211202 : Unit := ()
def hd.tw15615537253650120727 : Unit := ()
def hd.tw15199589371867527261 : Unit := ()
def hd.tw6469175993241445255 : Unit := ()
def hd.tw7598622570094877466 : Unit := ()
def hd.tw15207398651663016943 : Unit := ()
def hd.tw8934143017859847078 : Unit := ()
def hd.tw12575139184659369484 : Unit := ()
def hd.tw6184208073178115725 : Unit := ()
def hd.tw15422856539912107476 : Unit := ()
def hd.tw3350930974749635488 : Unit := ()
def hd.tw464777395874653626 : Unit := ()
def hd.tw1013155817946168525 : Unit := ()
def hd.tw1836080755315867724 : Unit := ()
def hd.tw17330945745186091897 : Unit := ()
def hd.tw12861998865439983172 : Unit := ()
def hd.tw14137390275340422267 : Unit := ()
def hd.tw16970440968685349367 : Unit := ()
def hd.tw12690835874199464660 : Unit := ()
def hd.tw4870687313549177768 : Unit := ()
def hd.tw1666387254794493845 : Unit := ()
def hd.tw12350410155528471161 : Unit := ()
def hd.tw1011335219593555734 : Unit := ()
def hd.tw5292301768408028288 : Unit := ()
def hd.tw243823211424636713 : Unit := ()
def hd.tw5899666649113621702 : Unit := ()
def hd.tw6683769817339685419 : Unit := ()
def hd.tw4833718069199227053 : Unit := ()
def hd.tw162610821266807592 : Unit := ()
def hd.tw7006195865600381663 : Unit := ()
def hd.tw12659318050587179527 : Unit := ()
def hd.tw8609351116199087170 : Unit := ()
def hd.tw18093812233618175256 : Unit := ()
def hd.tw12399718760709695909 : Unit := ()
def hd.tw1222794163293265305 : Unit := ()
def hd.tw13409441903868389331 : Unit := ()
def hd.tw9763420282994701918 : Unit := ()
def hd.tw17672654358674132775 : Unit := ()
def hd.tw4360684699965382250 : Unit := ()
def hd.tw9155422001095189878 : Unit := ()
def hd.tw8735263284916673568 : Unit := ()
def hd.tw17893044597097874663 : Unit := ()
def hd.tw13267510147771200024 : Unit := ()
def hd.tw11032806212648032379 : Unit := ()
def hd.tw14906377314874228009 : Unit := ()
def hd.tw6931407450589930559 : Unit := ()
def hd.tw8112040973832200146 : Unit := ()
def hd.tw15910714762333108613 : Unit := ()
def hd.tw257007361410690125 : Unit := ()
def hd.tw16640546478005224243 : Unit := ()
def hd.tw8312999807965096350 : Unit := ()
def hd.tw17491317419825422843 : Unit := ()
def hd.tw18343703819029505601 : Unit := ()
def hd.tw16694946328126371552 : Unit := ()
def hd.tw17681399029576232318 : Unit := ()
def hd.tw10203026625882799534 : Unit := ()
def hd.tw16156708551869547534 : Unit := ()
def hd.tw9132557439983319658 : Unit := ()
def hd.tw2040990291671593033 : Unit := ()
def hd.tw7640094616464845771 : Unit := ()
def hd.tw12940713784782232206 : Unit := ()
def hd.tw2930668341846507884 : Unit := ()
def hd.tw13277076834127875243 : Unit := ()
def hd.tw689954013368505116 : Unit := ()
def hd.tw12900700647772717614 : Unit := ()
def hd.tw15220180469806662145 : Unit := ()
def hd.tw3484992998616243462 : Unit := ()
def hd.tw280609765759037681 : Unit := ()
def hd.tw16178712458983371728 : Unit := ()
def hd.tw7152984921513172624 : Unit := ()
def hd.tw13315533130655954831 : Unit := ()
def hd.tw7880807054014371918 : Unit := ()
def hd.tw7270182246851987180 : Unit := ()
def hd.tw3309697970292668127 : Unit := ()
def hd.tw12614811148066621264 : Unit := ()
def hd.tw14706022693812145444 : Unit := ()
def hd.tw13289513938125300765 : Unit := ()
def hd.tw6079173187612997037 : Unit := ()
def hd.tw12127338746724423809 : Unit := ()
def hd.tw6140570298594658328 : Unit := ()
def hd.tw9741134391959003819 : Unit := ()
def hd.tw15992342658441690333 : Unit := ()
def hd.tw16661405048812198066 : Unit := ()
def hd.tw5009564483982726761 : Unit := ()
def hd.tw4383666589626881386 : Unit := ()
def hd.tw17234923516513369237 : Unit := ()
def hd.tw10949625832625181284 : Unit := ()
def hd.tw8479784124755550697 : Unit := ()
def hd.tw17696971302532935780 : Unit := ()
def hd.tw11709330566771433103 : Unit := ()
def hd.tw2480057099694739299 : Unit := ()
def hd.tw15813434630575017362 : Unit := ()
def hd.tw15152743547302097792 : Unit := ()
def hd.tw5976792059365374437 : Unit := ()
def hd.tw16722109127936396110 : Unit := ()
def hd.tw354778512879773586 : Unit := ()
def hd.tw5535567543195554156 : Unit := ()
def hd.tw3940546777539579641 : Unit := ()
def hd.tw12070654863422294720 : Unit := ()
def hd.tw11402939732021071671 : Unit := ()
def hd.tw5608270528595127837 : Unit := ()
def hd.tw16713699803418581334 : Unit := ()
def hd.tw6555240042291301478 : Unit := ()
def hd.tw8977460988437922124 : Unit := ()
def hd.tw6411954120941647267 : Unit := ()
def hd.tw2001351230973187099 : Unit := ()
def hd.tw15625209780758371316 : Unit := ()
def hd.tw8516288146210602744 : Unit := ()
def hd.tw9131607905817354932 : Unit := ()
def hd.tw2391449824757734642 : Unit := ()
def hd.tw313027258313007627 : Unit := ()
def hd.tw16896567674234606475 : Unit := ()
def hd.tw12851660460077801712 : Unit := ()
def hd.tw6785817131721698500 : Unit := ()
def hd.tw17258206423299326598 : Unit := ()
def hd.tw11663481321943121269 : Unit := ()
def hd.tw15416985209724490359 : Unit := ()
def hd.tw9525452488782058459 : Unit := ()
def hd.tw9298403506768410418 : Unit := ()
def hd.tw12070051907170230399 : Unit := ()
def hd.tw12952509933414984302 : Unit := ()
def hd.tw11256106856564762260 : Unit := ()
def hd.tw9499510787657705874 : Unit := ()
def hd.tw3816877163431070358 : Unit := ()
def hd.tw11232374478483605306 : Unit := ()
def hd.tw17562767543260142214 : Unit := ()
def hd.tw9990345226319884068 : Unit := ()
def hd.tw10860895700388868024 : Unit := ()
def hd.tw7317836474542784337 : Unit := ()
def hd.tw9345676750909349944 : Unit := ()
def hd.tw11587034568685482758 : Unit := ()
def hd.tw16211521421427940678 : Unit := ()
def hd.tw2442259710966052079 : Unit := ()
def hd.tw2603259988358896889 : Unit := ()
def hd.tw14029546391885035639 : Unit := ()
def hd.tw2999033326186475339 : Unit := ()
def hd.tw8664936974563722654 : Unit := ()
def hd.tw185848376630758926 : Unit := ()
def hd.tw17843490464661113860 : Unit := ()
def hd.tw17714235663813219645 : Unit := ()
def hd.tw5366084841770067474 : Unit := ()
def hd.tw8789358453043137523 : Unit := ()
def hd.tw14745743045033390146 : Unit := ()
def hd.tw16547865195752855329 : Unit := ()
def hd.tw6896469178606551848 : Unit := ()
def hd.tw4021928978595405253 : Unit := ()
def hd.tw9960721518486171458 : Unit := ()
def hd.tw8990313861142287110 : Unit := ()
def hd.tw7339039647409124788 : Unit := ()
def hd.tw1005483496087919985 : Unit := ()
def hd.tw7153062008950511462 : Unit := ()
def hd.tw16007149819294483003 : Unit := ()
def hd.tw8134915037123179040 : Unit := ()
def hd.tw845060206244984605 : Unit := ()
def hd.tw4734902545126651661 : Unit := ()
def hd.tw14754404106442844205 : Unit := ()
def hd.tw2855845756224970109 : Unit := ()
def hd.tw17903497710992402801 : Unit := ()
def hd.tw10365702040365258594 : Unit := ()
def hd.tw701333769924781912 : Unit := ()
def hd.tw9345929723534960622 : Unit := ()
def hd.tw14462709497994964445 : Unit := ()
def hd.tw2808349399557158395 : Unit := ()
def hd.tw3919010098100093602 : Unit := ()
def hd.tw1997569388931296116 : Unit := ()
def hd.tw6449127861642672459 : Unit := ()
def hd.tw17948085552500728524 : Unit := ()
def hd.tw7563641570988238572 : Unit := ()
def hd.tw15064902949301533346 : Unit := ()
def hd.tw17054507655720011243 : Unit := ()
def hd.tw5416991563250132298 : Unit := ()
def hd.tw11389486352061984695 : Unit := ()
def hd.tw1760603350576429475 : Unit := ()
def hd.tw3008623586974134963 : Unit := ()
def hd.tw5927567313105069670 : Unit := ()
def hd.tw16920754564084929960 : Unit := ()
def hd.tw519851828213033955 : Unit := ()
def hd.tw9617658007855726926 : Unit := ()
def hd.tw14673209030070457562 : Unit := ()
def hd.tw10491609206876299696 : Unit := ()
def hd.tw4819202231147424091 : Unit := ()
def hd.tw17975533764899295144 : Unit := ()
def hd.tw6804821044290156842 : Unit := ()
def hd.tw4111692666942324129 : Unit := ()
def hd.tw9330943631129107780 : Unit := ()
def hd.tw13321331477185743149 : Unit := ()
def hd.tw13893168526513508166 : Unit := ()
def hd.tw9184186324627900627 : Unit := ()
def hd.tw13363553139645760527 : Unit := ()
def hd.tw15946356160694317329 : Unit := ()
def hd.tw8244733829118024811 : Unit := ()
def hd.tw17336936450418997793 : Unit := ()
def hd.tw13122850982685727845 : Unit := ()
def hd.tw1848646778235469078 : Unit := ()
def hd.tw6759412095888398321 : Unit := ()
def hd.tw4402725079659364252 : Unit := ()
def hd.tw1600037746751723098 : Unit := ()
def hd.tw15213948185873263833 : Unit := ()
def hd.tw500953250457666378 : Unit := ()
def hd.tw8458067239894703972 : Unit := ()
def hd.tw8226494294326810461 : Unit := ()
def hd.tw10778013660560245624 : Unit := ()
def hd.tw11251137523995926341 : Unit := ()
def hd.tw16858285156579221889 : Unit := ()
def hd.tw13770079208771991547 : Unit := ()
def hd.tw17739348878880393726 : Unit := ()
def hd.tw11319892378374348655 : Unit := ()
def hd.tw15790720579355451973 : Unit := ()
def hd.tw3452082135128663414 : Unit := ()
def hd.tw2042292140826266357 : Unit := ()
def hd.tw728884934406724761 : Unit := ()
def hd.tw13628142620392400109 : Unit := ()
def hd.tw12611767792052310623 : Unit := ()
def hd.tw15687388767607454252 : Unit := ()
def hd.tw833173182276230429 : Unit := ()
def hd.tw16684818696116721337 : Unit := ()
def hd.tw2051048951616859547 : Unit := ()
def hd.tw3196399650302076718 : Unit := ()
def hd.tw11465210709893060100 : Unit := ()
def hd.tw3451239065008710300 : Unit := ()
def hd.tw15344866539931968096 : Unit := ()
def hd.tw18291419657060728153 : Unit := ()
def hd.tw5859118754885311737 : Unit := ()
def hd.tw10738003575532504788 : Unit := ()
def hd.tw15759970867653108152 : Unit := ()
def hd.tw6407587892757256292 : Unit := ()
def hd.tw10955317050725887447 : Unit := ()
def hd.tw8184699220007379433 : Unit := ()
def hd.tw15411387601460861337 : Unit := ()
def hd.tw4086058157674990017 : Unit := ()
def hd.tw14446474709323646786 : Unit := ()
def hd.tw12239354291974867115 : Unit := ()
def hd.tw3333446698644548216 : Unit := ()
def hd.tw12521463284412890351 : Unit := ()
def hd.tw17429513623812275283 : Unit := ()
def hd.tw10905682514733158466 : Unit := ()
def hd.tw7494724483528729301 : Unit := ()
def hd.tw3793221421916198646 : Unit := ()
def hd.tw242841246431481386 : Unit := ()
def hd.tw13132618709999183898 : Unit := ()
def hd.tw3878383114103592795 : Unit := ()
def hd.tw4159134105002834734 : Unit := ()
def hd.tw9228397985900620932 : Unit := ()
def hd.tw8457440626546761165 : Unit := ()
def hd.tw9673543361469618366 : Unit := ()
def hd.tw8269573656231971908 : Unit := ()
def hd.tw2799067240506288376 : Unit := ()
def hd.tw9566141503761928105 : Unit := ()
def hd.tw16157073509204512506 : Unit := ()
def hd.tw14984183105004643987 : Unit := ()
def hd.tw3571134770919094901 : Unit := ()
def hd.tw15529170255622000948 : Unit := ()
def hd.tw4642405928176397000 : Unit := ()
def hd.tw15946388913382835224 : Unit := ()
def hd.tw13181700845877081190 : Unit := ()
def hd.tw16345102440705955213 : Unit := ()
def hd.tw12647368939536790636 : Unit := ()
def hd.tw11546794813071737295 : Unit := ()
def hd.tw16240987189780228909 : Unit := ()
def hd.tw7754304195085646258 : Unit := ()
def hd.tw1197925565968671727 : Unit := ()
def hd.tw15673258824015622330 : Unit := ()
def hd.tw11968265576560266318 : Unit := ()
def hd.tw17925215291927510665 : Unit := ()
def hd.tw11754176132448286083 : Unit := ()
def hd.tw8273930003744585626 : Unit := ()
def hd.tw3493717111155160527 : Unit := ()
def hd.tw18103420901670897651 : Unit := ()
def hd.tw12994019391074448376 : Unit := ()
def hd.tw22551697357593593 : Unit := ()
def hd.tw15578025631644234493 : Unit := ()
def hd.tw3795277891434052102 : Unit := ()
def hd.tw18176940659606848779 : Unit := ()
def hd.tw18268791191939849864 : Unit := ()
def hd.tw6868836192036940282 : Unit := ()
def hd.tw13365295217650922812 : Unit := ()
def hd.tw8683856772340465682 : Unit := ()
def hd.tw1603739661141634737 : Unit := ()
def hd.tw7534799579077118603 : Unit := ()
def hd.tw6547078798241139092 : Unit := ()
def hd.tw18163647496604598072 : Unit := ()
def hd.tw9533747618267967006 : Unit := ()
def hd.tw7355570028127101125 : Unit := ()
def hd.tw3694398316872202419 : Unit := ()
def hd.tw6767318904944593275 : Unit := ()
def hd.tw7296583596125217682 : Unit := ()
def hd.tw10678649693572172417 : Unit := ()
def hd.tw12268275109542032366 : Unit := ()
def hd.tw11778180911958503814 : Unit := ()
def hd.tw14478148883734587675 : Unit := ()
def hd.tw2608437505485318709 : Unit := ()
def hd.tw541196102884509978 : Unit := ()
def hd.tw8381844023166312768 : Unit := ()
def hd.tw15852365999677673905 : Unit := ()
def hd.tw3646829019195819677 : Unit := ()
def hd.tw18264374347568628810 : Unit := ()
def hd.tw4971549296188076032 : Unit := ()
def hd.tw7289634563603522867 : Unit := ()
def hd.tw1792636949448641307 : Unit := ()
def hd.tw17542962492245011380 : Unit := ()
def hd.tw14612060388864693735 : Unit := ()
def hd.tw17252143746492648416 : Unit := ()
def hd.tw12459740579856956213 : Unit := ()
def hd.tw17001982702790524580 : Unit := ()
def hd.tw13217827037086042188 : Unit := ()
def hd.tw6184460063843016694 : Unit := ()
def hd.tw14457593812595234344 : Unit := ()
def hd.tw5343241284826551009 : Unit := ()
def hd.tw12870888531099404533 : Unit := ()
def hd.tw16376525773666504680 : Unit := ()
def hd.tw6320253292602491972 : Unit := ()
def hd.tw2922222751358710265 : Unit := ()
def hd.tw1147470481896660410 : Unit := ()
def hd.tw3673020696563887462 : Unit := ()
def hd.tw7578210074245671484 : Unit := ()
def hd.tw6264232113106981867 : Unit := ()
def hd.tw18219297243305740317 : Unit := ()
def hd.tw4702841417184801058 : Unit := ()
def hd.tw2739504486584576224 : Unit := ()
def hd.tw3386092968808520798 : Unit := ()
def hd.tw940617070666608080 : Unit := ()
def hd.tw15367242080415987702 : Unit := ()
def hd.tw18293732401869909652 : Unit := ()
def hd.tw11660266114150955751 : Unit := ()
def hd.tw7191455744419660376 : Unit := ()
def hd.tw3704167492566942397 : Unit := ()
def hd.tw3496965988886986938 : Unit := ()
def hd.tw6442067068224118133 : Unit := ()
def hd.tw1379335367625716243 : Unit := ()
def hd.tw16477043939570097188 : Unit := ()
def hd.tw7712595579559962911 : Unit := ()
def hd.tw16171809288044610508 : Unit := ()
def hd.tw13262116225945230012 : Unit := ()
def hd.tw3229955645248102723 : Unit := ()
def hd.tw10603584201595350602 : Unit := ()
def hd.tw15948780112781908787 : Unit := ()
def hd.tw14980023328507725902 : Unit := ()
def hd.tw8317466277049474617 : Unit := ()
def hd.tw12602439190401603521 : Unit := ()
def hd.tw3221592705415737273 : Unit := ()
def hd.tw9449672872311958731 : Unit := ()
def hd.tw17143205804819765802 : Unit := ()
def hd.tw11151547217846952531 : Unit := ()
def hd.tw10806950440038215891 : Unit := ()
def hd.tw1051681510052472703 : Unit := ()
def hd.tw3608708970678896270 : Unit := ()
def hd.tw9657781627882305391 : Unit := ()
def hd.tw11905163887095721015 : Unit := ()
def hd.tw2068664650715991707 : Unit := ()
def hd.tw1241404454085649124 : Unit := ()
def hd.tw2329189449893159454 : Unit := ()
def hd.tw14060237666301923597 : Unit := ()
def hd.tw2788664435532181463 : Unit := ()
def hd.tw13532847315355080253 : Unit := ()
def hd.tw5190246844813560578 : Unit := ()
def hd.tw14439243815434019604 : Unit := ()
def hd.tw14492701947808656938 : Unit := ()
def hd.tw17956543221229664512 : Unit := ()
def hd.tw14852329139284432860 : Unit := ()
def hd.tw7372000682148998216 : Unit := ()
def hd.tw8356816923877370021 : Unit := ()
def hd.tw26425463804135960 : Unit := ()
def hd.tw3350844169311001129 : Unit := ()
def hd.tw9513423893830186035 : Unit := ()
def hd.tw15683763237869141255 : Unit := ()
def hd.tw17902569758825723728 : Unit := ()
def hd.tw10604169790165778682 : Unit := ()
def hd.tw4297731678662094536 : Unit := ()
def hd.tw16432713993328977331 : Unit := ()
def hd.tw6755925336976613232 : Unit := ()
def hd.tw16415028865518655546 : Unit := ()
def hd.tw5283464899586487735 : Unit := ()
def hd.tw876933089483189297 : Unit := ()
def hd.tw7028611270464810887 : Unit := ()
def hd.tw8438522148716505817 : Unit := ()
def hd.tw1194904439430580092 : Unit := ()
def hd.tw10264135568141901301 : Unit := ()
def hd.tw12113243949977362033 : Unit := ()
def hd.tw9153386212771759811 : Unit := ()
def hd.tw8228950375871286339 : Unit := ()
def hd.tw1043307727769730188 : Unit := ()
def hd.tw10879034167726328663 : Unit := ()
def hd.tw6578402527460240241 : Unit := ()
def hd.tw14667805832236412624 : Unit := ()
def hd.tw6394381022753523788 : Unit := ()
def hd.tw17062030032774818151 : Unit := ()
def hd.tw12337632362937886050 : Unit := ()
def hd.tw6305734824756694309 : Unit := ()
def hd.tw11283319371284918911 : Unit := ()
def hd.tw2252305205657439004 : Unit := ()
def hd.tw2708950531961675432 : Unit := ()
def hd.tw4494801613693538912 : Unit := ()
def hd.tw16487816990975572028 : Unit := ()
def hd.tw7526368328331116154 : Unit := ()
def hd.tw18095200977026478895 : Unit := ()
def hd.tw11551083187376567056 : Unit := ()
def hd.tw10424393626065333798 : Unit := ()
def hd.tw678209747344391502 : Unit := ()
def hd.tw6438293893037913957 : Unit := ()
def hd.tw5486487638281291605 : Unit := ()
def hd.tw14685462170515437407 : Unit := ()
set_option Elab.async true
theorem hd : PySem.Challenge.rw_nz0099_01.Holds := by
  w_on
  o_law
  k_head
  (case hw => w_witness2)
  k_go0
  refine law_join ?FF (by assumption) (by assumption) (below_caller _) (by assumption) (by assumption) ?hn (by assumption) (by assumption) rfl (fun h' tk' hk => ?_)
  case hn => omega
  case FF =>
    refine ⟨?_, ?_, ?_, ?_, ?_, ?_, ?_, ?_⟩
    · repeat' first | exact True.intro | refine And.intro ?_ ?_ | (show nsIn _ _ _ = _; k_is) | (show keepIn _ _ = _; k_is)
    · repeat' first | exact True.intro | refine And.intro ?_ ?_ | (show nsIn _ _ _ = _; k_is)
    · repeat' first | exact True.intro | refine And.intro ?_ ?_ | (show AttrOK _ _ _; dsimp only; exact attrOK_mk (by k_is) (by k_is) (by k_is) (by k_is))
    · repeat' first | exact True.intro | refine And.intro ?_ ?_ | (show SetOK _ _ _; dsimp only; refine ⟨?_, ?_, ?_, ?_⟩ <;> k_is)
    · repeat' first | exact True.intro | refine And.intro ?_ ?_ | (show MethOK _ _ _ _; dsimp only; refine ⟨?_, ?_, ?_, ?_⟩ <;> k_is)
    · repeat' first | exact True.intro | refine And.intro ?_ ?_ | (dsimp only; k_is)
    · repeat' first | exact True.intro | refine And.intro ?_ ?_ | (dsimp only; k_is)
    · repeat' first | exact True.intro | refine And.intro ?_ ?_ | (show FnAt _ _ _ _ _; dsimp only; exact fnAt_mk (by k_is) (by k_is))
  refine ⟨.inl ⟨.bool true, .bool true, [], rfl, fun _ => ?_, .bool true, ?_, fun _ => ⟨List.nodup_nil, fun _ h => (nomatch h)⟩⟩, hk, rfl, ?_⟩
  · rfl
  · wrow_post
  · assumption
set_option Elab.async false
end Mine
theorem PySem.Challenge.cw_nz0099_01_holds : PySem.Challenge.rw_nz0099_01.Holds := by
  exact Mine.hd
