import PyProof.Rows.All
import Wide.All
import OpenK.AllK
import Wide.FinOn
import PySem.Challenge.RW_tk0038_01
set_option Elab.async false
set_option compiler.extract_closed false
section
open PySem PySem.W PyProof.Rows PySem.Calls
set_option maxRecDepth 100000
set_option maxHeartbeats 0
set_option linter.unusedVariables false
namespace Mine
abbrev pw : Program := PySem.Challenge.pw_tk0038_01
noncomputable def viewOf (p : Program) : Program := { p with main := { p.main with body := p.main.body.filter fun s => match s with | .Assign _ (.Constant (.str _) _ _) _ => false | _ => true } }
noncomputable def myView : Program := viewOf pw
noncomputable def nCas : Str := Str.ofString "CasFail"
noncomputable def nInit : Str := Str.ofString "__init__"
noncomputable def casBody : List Stmt := match pw.theClass nCas with | some x => x.2.1 | none => []
noncomputable def casInit : FuncData := match theDefIn casBody nInit with
  | some x => methDef nInit (Str.ofString "CasFail.__init__") x.1 x.2.1 x.2.2 (.str (Str.ofString "cas.errors") 187) (.ref 27) .none
  | none => default
noncomputable def casNs : List (Str × Value) := [(Str.ofString "__module__", .str (Str.ofString "cas.errors") 187), (Str.ofString "__firstlineno__", .int 2 199), (nInit, .ref 28), (Str.ofString "__static_attributes__", .ref 29), (Str.ofString "__weakref__", .ref 32), (Str.ofString "__doc__", .none)]
noncomputable def casObj : Obj := excClassObj nCas nCas 31 30 [.type "Exception"] [.type "Exception", .type "BaseException", .type "object"] true [] [] false none none (some (.ref 15)) none (some (.str nCas 189)) (some (.str nCas 197)) (some (.bool true)) "Exception.__new__"
noncomputable def casFn : Obj := { cls := .type "function", data := .func casInit }
noncomputable def casObs (s : Shared) : Bool × Option Value × Option Obj × Bool × List (Str × Value) × Option Obj × Bool :=
  (s.heap.isNs mainGlobals, s.heap.nsMap mainGlobals nCas, s.heap.get? 31, s.heap.isNs 30, s.heap.nsPairs 30, s.heap.get? 28, s.heap.codeRecOk (.ref 27) (Str.ofString "CasFail.__init__"))
noncomputable def casVal : Bool × Option Value × Option Obj × Bool × List (Str × Value) × Option Obj × Bool := (true, some (.ref 31), some casObj, true, casNs, some casFn, true)
structure Cas (h : Heap) : Prop where
  g : ∃ m, h.Ns mainGlobals m ∧ m nCas = some (.ref 31)
  cls : h.get? 31 = some casObj
  ns : ∃ m, h.Ns 30 m ∧ ∀ x, m x = casNs.lookup x
  fn : h.get? 28 = some casFn
  code : h.CodeRec (.ref 27) (Str.ofString "CasFail.__init__")
theorem cas_of {s : Shared} (e : casObs s = casVal) : Cas s.heap where
  g := ⟨_, .of_isNs (congrArg (·.1) e), congrArg (·.2.1) e⟩
  cls := congrArg (·.2.2.1) e
  ns := ⟨_, .of_isNs (congrArg (·.2.2.2.1) e), fun x => by
    rw [Heap.nsMap_eq_lookup (congrArg (·.2.2.2.1) e), show s.heap.nsPairs 30 = casNs from congrArg (·.2.2.2.2.1) e]⟩
  fn := congrArg (·.2.2.2.2.2.1) e
  code := .of_ok (congrArg (·.2.2.2.2.2.2) e)
theorem Cas.keeps {h h' : Heap} (x : Cas h) (k : ∀ b o, h.get? b = some o → h'.get? b = some o) : Cas h' :=
  ⟨let ⟨m, a, b⟩ := x.g; ⟨m, a.keeps k, b⟩, k _ _ x.cls, let ⟨m, a, b⟩ := x.ns; ⟨m, a.keeps k, b⟩, k _ _ x.fn, x.code.keeps k⟩
end Mine
end
section
open PySem PySem.W PyProof.Rows PySem.Calls
set_option maxRecDepth 100000
set_option linter.unusedVariables false
namespace Mine
noncomputable section

/-! values as data over a view of the heap -/
mutual
inductive Is (g : Addr → Option Obj) : Value → PyData → Prop
  | none : Is g .none .none
  | bool (b) : Is g (.bool b) (.bool b)
  | int (i t) : Is g (.int i t) (.int i)
  | str (x t) : Is g (.str x t) (.str x)
  | tup {a o vs n ds} : g a = some o → o.cls = .type "tuple" → o.data = .seq vs n → IsAll g vs.toList ds → Is g (.ref a) (.tuple ds)
  | lst {a vs n ds} : g a = some { cls := .type "list", data := .seq vs n } → IsAll g vs.toList ds → Is g (.ref a) (.list ds)
inductive IsAll (g : Addr → Option Obj) : List Value → List PyData → Prop
  | nil : IsAll g [] []
  | cons {v vs d ds} : Is g v d → IsAll g vs ds → IsAll g (v :: vs) (d :: ds)
end

def SeqMono (g g' : Addr → Option Obj) : Prop := ∀ a o vs n, g a = some o → o.data = .seq vs n → g' a = some o

theorem IsAll.ind {g : Addr → Option Obj} {m : List Value → List PyData → Prop} (n : m [] []) (c : ∀ {v vs d ds}, Is g v d → IsAll g vs ds → m vs ds → m (v :: vs) (d :: ds)) {vs ds} (x : IsAll g vs ds) : m vs ds :=
  @IsAll.rec g (fun _ _ _ => True) (fun vs ds _ => m vs ds) trivial (fun _ => trivial) (fun _ _ => trivial) (fun _ _ => trivial) (fun _ _ _ _ _ => trivial) (fun _ _ _ => trivial) n (fun h1 h2 _ ih => c h1 h2 ih) vs ds x
theorem Is.mono {g g' : Addr → Option Obj} (k : SeqMono g g') {v d} (x : Is g v d) : Is g' v d :=
  @Is.rec g (fun v d _ => Is g' v d) (fun vs ds _ => IsAll g' vs ds) .none .bool .int .str (fun h1 h2 h3 _ ih => .tup (k _ _ _ _ h1 h3) h2 h3 ih) (fun h1 _ ih => .lst (k _ _ _ _ h1 rfl) ih) .nil (fun _ _ i1 i2 => .cons i1 i2) v d x
theorem IsAll.mono {g g' : Addr → Option Obj} (k : SeqMono g g') {v d} (x : IsAll g v d) : IsAll g' v d :=
  x.ind .nil fun h1 _ ih => .cons (h1.mono k) ih
theorem reads_cat {h : Heap} {v : Value} {d : PyData} {vs : List Value} {ds : List PyData} (x : ∃ as, Reads h v d as) (y : ∃ as, ReadsAll h vs ds as) : ∃ as, ReadsAll h (v :: vs) (d :: ds) as :=
  x.elim fun _ r1 => y.elim fun _ r2 => ⟨_, .cons r1 r2⟩
theorem Is.reads {h : Heap} {v d} (x : Is h.get? v d) : ∃ as, Reads h v d as :=
  @Is.rec h.get? (fun v d _ => ∃ as, Reads h v d as) (fun vs ds _ => ∃ as, ReadsAll h vs ds as) ⟨_, .none⟩ (fun b => ⟨_, .bool b⟩) (fun i t => ⟨_, .int i t⟩) (fun x t => ⟨_, .str x t⟩) (fun h1 h2 h3 _ ih => ih.elim fun _ r => ⟨_, .tuple h1 h2 h3 r⟩) (fun h1 _ ih => ih.elim fun _ r => ⟨_, .list h1 rfl rfl r⟩) ⟨_, .nil⟩ (fun _ _ => reads_cat) v d x
theorem IsAll.reads {h : Heap} {v d} (x : IsAll h.get? v d) : ∃ as, ReadsAll h v d as :=
  x.ind (m := fun vs ds => ∃ as, ReadsAll h vs ds as) ⟨_, .nil⟩ fun h1 _ ih => reads_cat h1.reads ih

theorem IsAll.length {g : Addr → Option Obj} {vs ds} (x : IsAll g vs ds) : vs.length = ds.length :=
  x.ind (m := fun vs ds => vs.length = ds.length) rfl fun _ _ ih => congrArg (· + 1) ih
theorem IsAll.get {g : Addr → Option Obj} {vs ds} (x : IsAll g vs ds) : ∀ (i : Nat) d, ds[i]? = some d → ∃ v, vs[i]? = some v ∧ Is g v d :=
  x.ind (m := fun vs ds => ∀ (i : Nat) d, ds[i]? = some d → ∃ v, vs[i]? = some v ∧ Is g v d) (fun i d h => nomatch h) fun h1 _ ih i d => Nat.casesOn i (fun h => ⟨_, rfl, Option.some.inj h ▸ h1⟩) fun i h => ih i d h
theorem IsAll.append {g : Addr → Option Obj} {vs ds ws es} (x : IsAll g vs ds) (h : IsAll g ws es) : IsAll g (vs ++ ws) (ds ++ es) :=
  x.ind (m := fun vs ds => IsAll g (vs ++ ws) (ds ++ es)) h fun h1 _ ih => .cons h1 ih
theorem IsAll.take {g : Addr → Option Obj} {vs ds} (x : IsAll g vs ds) : ∀ n, IsAll g (vs.take n) (ds.take n) :=
  x.ind (m := fun vs ds => ∀ n, IsAll g (vs.take n) (ds.take n)) (fun n => by rw [List.take_nil, List.take_nil]; exact .nil) fun h1 _ ih n => Nat.casesOn n .nil fun n => .cons h1 (ih n)
theorem IsAll.drop {g : Addr → Option Obj} {vs ds} (x : IsAll g vs ds) : ∀ n, IsAll g (vs.drop n) (ds.drop n) :=
  x.ind (m := fun vs ds => ∀ n, IsAll g (vs.drop n) (ds.drop n)) (fun n => by rw [List.drop_nil, List.drop_nil]; exact .nil) fun h1 h2 ih n => Nat.casesOn n (.cons h1 h2) ih
theorem IsAll.set {g : Addr → Option Obj} {vs ds} (x : IsAll g vs ds) : ∀ n v d, Is g v d → IsAll g (vs.set n v) (ds.set n d) :=
  x.ind (m := fun vs ds => ∀ n v d, Is g v d → IsAll g (vs.set n v) (ds.set n d)) (fun _ _ _ _ => .nil) fun h1 h2 ih n v d h => Nat.casesOn n (.cons h h2) fun n => .cons h1 (ih n v d h)

/-- what a hidden view shows -/
def hid (h : Heap) (ls : List Addr) : Addr → Option Obj := fun a => if a ∈ ls then none else h.get? a
theorem hid_le {h : Heap} {ls : List Addr} {a : Addr} {o : Obj} (e : hid h ls a = some o) : h.get? a = some o := by
  unfold hid at e; split at e
  · cases e
  · exact e
theorem hid_of {h : Heap} {ls : List Addr} {a : Addr} {o : Obj} (e : h.get? a = some o) (n : a ∉ ls) : hid h ls a = some o := by
  unfold hid; rw [if_neg n]; exact e
theorem hid_not {h : Heap} {ls : List Addr} {a : Addr} {o : Obj} (e : hid h ls a = some o) : a ∉ ls := by
  unfold hid at e; split at e
  · cases e
  · assumption
theorem Is.full {h : Heap} {ls : List Addr} {v : Value} {d : PyData} (x : Is (hid h ls) v d) : Is h.get? v d := x.mono fun _ _ _ _ e _ => hid_le e
theorem IsAll.full {h : Heap} {ls : List Addr} {v} {d} (x : IsAll (hid h ls) v d) : IsAll h.get? v d := x.mono fun _ _ _ _ e _ => hid_le e

def scalar : PyData → Bool
  | .none => true
  | .bool _ => true
  | .int _ => true
  | .str _ => true
  | _ => false
def flat : PyData → Bool
  | .tuple ds => ds.all scalar
  | d => scalar d

def Lists (h : Heap) (ls : List Addr) : Prop := ∀ l ∈ ls, ∃ o, h.get? l = some o ∧ o.cls = .type "list"

theorem Is.scalar {g g' : Addr → Option Obj} {v : Value} {d : PyData} (x : Is g v d) (f : scalar d = true) : Is g' v d := by
  cases x <;> first | exact .none | exact .bool _ | exact .int _ _ | exact .str _ _ | cases f
theorem all_cons {p : PyData → Bool} {d : PyData} {ds : List PyData} (f : (d :: ds).all p = true) : p d = true ∧ ds.all p = true := (Bool.and_eq_true _ _).mp f
theorem IsAll.scalars {g g' : Addr → Option Obj} {vs : List Value} {ds : List PyData} (x : IsAll g vs ds) : ds.all scalar = true → IsAll g' vs ds :=
  x.ind (m := fun vs ds => ds.all Mine.scalar = true → IsAll g' vs ds) (fun _ => .nil) fun h1 _ ih f => .cons (h1.scalar (all_cons f).1) (ih (all_cons f).2)
theorem Is.flat {h : Heap} {ls : List Addr} {v : Value} {d : PyData} (x : Is h.get? v d) (f : flat d = true) (k : Lists h ls) : Is (hid h ls) v d := by
  cases x with
  | tup h1 h2 h3 h4 =>
    refine .tup (hid_of h1 fun hm => ?_) h2 h3 (h4.scalars f)
    obtain ⟨o, e, c⟩ := k _ hm
    rw [h1] at e; cases e; rw [h2] at c; simp at c
  | lst => cases f
  | none => exact .none
  | bool => exact .bool _
  | int => exact .int _ _
  | str => exact .str _ _
theorem IsAll.flats {h : Heap} {ls : List Addr} (k : Lists h ls) {vs ds} (x : IsAll h.get? vs ds) : ds.all Mine.flat = true → IsAll (hid h ls) vs ds :=
  x.ind (m := fun vs ds => ds.all Mine.flat = true → IsAll (hid h ls) vs ds) (fun _ => .nil) fun h1 _ ih f => .cons (h1.flat (all_cons f).1 k) (ih (all_cons f).2)

def FlatMono (g g' : Addr → Option Obj) : Prop := ∀ a o vs n, g a = some o → o.cls = .type "tuple" → o.data = .seq vs n → g' a = some o
theorem Is.flatMono {g g' : Addr → Option Obj} (k : FlatMono g g') {v d} (x : Is g v d) (f : Mine.flat d = true) : Is g' v d := by
  cases x with
  | tup e c q i => exact .tup (k _ _ _ _ e c q) c q (i.scalars f)
  | lst => cases f
  | none => exact .none
  | bool => exact .bool _
  | int => exact .int _ _
  | str => exact .str _ _
theorem IsAll.flatMono {g g' : Addr → Option Obj} (k : FlatMono g g') {vs ds} (x : IsAll g vs ds) : ds.all Mine.flat = true → IsAll g' vs ds :=
  x.ind (m := fun vs ds => ds.all Mine.flat = true → IsAll g' vs ds) (fun _ => .nil) fun h1 _ ih f => .cons (h1.flatMono k (all_cons f).1) (ih (all_cons f).2)

/-! a call's frame -/
def Val (env : Env) (h : Heap) (x : Str) (v : Value) : Prop :=
  (env.kindOf x = some .local ∧ ∃ m, h.Ns env.locals m ∧ m x = some v) ∨
  (env.kindOf x = some .cell ∧ ∃ c, env.cells.lookup x = some c ∧ h.IsCell c (some v))

theorem Val.keeps {env : Env} {h h' : Heap} {x : Str} {v : Value} (y : Val env h x v) (k : ∀ a o, h.get? a = some o → h'.get? a = some o) : Val env h' x v :=
  y.imp (fun ⟨a, m, b, c⟩ => ⟨a, m, b.keeps k, c⟩) fun ⟨a, c, b, e⟩ => ⟨a, c, b, e.keeps k⟩

abbrev Vars := List (Str × PyData)
abbrev Owns := List (Str × List PyData × Addr)
def Owns.at (ω : Owns) : List Addr := ω.map (·.2.2)

/-- the heap that stays, and what counts as new -/
structure Base where
  h : Heap
  N : Addr → Prop
  ok : ∀ l, N l → h.get? l = none
def Base.at (h : Heap) : Base := ⟨h, fun l => h.get? l = none, fun _ x => x⟩

structure St (h₀ : Base) (env : Env) (ρ : Vars) (ω : Owns) (h : Heap) : Prop where
  ns : ∃ m, h.Ns env.locals m
  keep : ∀ a o, h₀.h.get? a = some o → h.get? a = some o
  fresh : h₀.h.get? env.locals = none
  cells : ∀ x c, env.cells.lookup x = some c → ∃ v, h.IsCell c v
  vars : ∀ x d, (x, d) ∈ ρ → ∃ v, Val env h x v ∧ Is (hid h ω.at) v d
  owns : ∀ x ds l, (x, ds, l) ∈ ω → Val env h x (.ref l) ∧ (∃ vs, h.PlainList l vs ∧ IsAll h.get? vs.toList ds) ∧ ds.all flat = true ∧ h₀.N l
  apart : ω.at.Nodup
  wide : ∀ a, h.get? a = none → h₀.N a

theorem hid_mono {h h' : Heap} {ls : List Addr} (k : ∀ a o, h.get? a = some o → h'.get? a = some o) : SeqMono (hid h ls) (hid h' ls) :=
  fun a o vs n e _ => hid_of (k _ _ (hid_le e)) (hid_not e)
theorem get_mono {h h' : Heap} (k : ∀ a o, h.get? a = some o → h'.get? a = some o) : SeqMono h.get? h'.get? := fun a o _ _ e _ => k a o e

section
variable {h₀ : Base} {h h' : Heap} {env : Env} {ρ : Vars} {ω : Owns}
theorem St.keeps (S : St h₀ env ρ ω h) (k : ∀ a o, h.get? a = some o → h'.get? a = some o) : St h₀ env ρ ω h' where
  ns := let ⟨m, e⟩ := S.ns; ⟨m, e.keeps k⟩
  keep := fun a o e => k a o (S.keep a o e)
  fresh := S.fresh
  cells := fun x c hm => let ⟨v, e⟩ := S.cells x c hm; ⟨v, e.keeps k⟩
  vars := fun x d hm => let ⟨v, a, b⟩ := S.vars x d hm; ⟨v, a.keeps k, b.mono (hid_mono k)⟩
  owns := fun x ds l hm => let ⟨a, ⟨vs, b, c⟩, d⟩ := S.owns x ds l hm; ⟨a.keeps k, ⟨vs, b.at fun o e => k _ o e, c.mono (get_mono k)⟩, d⟩
  apart := S.apart
  wide := fun a e => S.wide a (by
    cases q : h.get? a with
    | none => rfl
    | some o => rw [k _ _ q] at e; cases e)
theorem St.lists (S : St h₀ env ρ ω h) : Lists h ω.at := fun l hm => by
  obtain ⟨⟨x, ds, l'⟩, hp, rfl⟩ := List.mem_map.mp hm
  obtain ⟨_, ⟨vs, ⟨n, e⟩, _⟩, _⟩ := S.owns x ds l' hp
  exact ⟨_, e, rfl⟩
end

abbrev No : Value → Shared → Prop := fun _ _ => False

theorem wpAny_no {α : Type} {M : Model} {A : Around} {t : Sem α} {Q : α → Shared → Prop} {E : Value → Shared → Prop} {s : Shared} (h : wpAny M A t Q No s) : wpAny M A t Q E s :=
  wpAny_mono h (fun _ _ x => x) fun _ _ x => x.elim
theorem wpAny_q {α : Type} {M : Model} {A : Around} {t : Sem α} {Q Q' : α → Shared → Prop} {E : Value → Shared → Prop} {s : Shared} (h : wpAny M A t Q No s) (k : ∀ a s, Q a s → Q' a s) : wpAny M A t Q' E s :=
  wpAny_mono h k fun _ _ x => x.elim

/-- nothing that stood is turned -/
def Kp (s s' : Shared) : Prop := ∃ h' tk, s' = { s with heap := h', toks := tk } ∧ ∀ b o, s.heap.get? b = some o → h'.get? b = some o
theorem Kp.refl (s : Shared) : Kp s s := ⟨s.heap, s.toks, rfl, fun _ _ e => e⟩
theorem Kp.trans {s₁ s₂ s₃ : Shared} (x : Kp s₁ s₂) (y : Kp s₂ s₃) : Kp s₁ s₃ := by
  obtain ⟨h, t, rfl, k⟩ := x
  obtain ⟨h', t', rfl, k'⟩ := y
  exact ⟨h', t', rfl, fun b o e => k' b o (k b o e)⟩
theorem Kp.get {s s' : Shared} (x : Kp s s') : ∀ a o, s.heap.get? a = some o → s'.heap.get? a = some o := by
  obtain ⟨h, t, rfl, k⟩ := x; exact k
theorem Kp.tok (s : Shared) (t : Nat) : Kp s { s with toks := t } := ⟨s.heap, t, rfl, fun _ _ e => e⟩
theorem Kp.push (s : Shared) (o : Obj) : Kp s { s with heap := s.heap.push o } := ⟨_, s.toks, rfl, fun _ _ e => Heap.get?_push_of_some _ e⟩

def ratD (q : Rat) : PyData := .tuple [.int q.num, .int q.den]
def konsts : List (Str × PyData) := [(Str.ofString "R0", ratD 0), (Str.ofString "R1", ratD 1), (Str.ofString "MOST_BITS", .int 200000),
  (Str.ofString "_law_ratios", .tuple [ratD (mkRat 1 2), ratD (mkRat (-1) 3), ratD (mkRat 3 2), ratD (-2)])]
def kLoose : List Str := [Str.ofString "R0", Str.ofString "R1", Str.ofString "_law_ratios"]
def bFree (x : Str) : Bool := !startupNames.contains x && !kLoose.contains x && !((recsOf myView).map (·.name)).contains x && !((litsOf myView).map (·.1)).contains x && !((clssOf myView kLoose).map (·.name)).contains x
abbrev MG := Str → Option Value
/-- the world's part: the text's own objects, the built-ins -/
structure Wd (mg : MG) (w : World) (h : Heap) : Prop where
  T : ∃ mb, TopRead myView kLoose mg mb h
  fn : ∀ d ∈ recsOf myView, ∃ a o pm code doc, mg d.name = some (.ref a) ∧ h.get? a = some o ∧ o.data = .func (docDef d.name d.params d.body d.scope pm code doc) ∧ h.CodeRec code d.name
  kon : ∀ p ∈ konsts, ∃ v, mg p.1 = some v ∧ Is h.get? v p.2
  cas : Cas h
theorem Wd.keeps {mg : MG} {w : World} {h h' : Heap} (x : Wd mg w h) (k : ∀ a o, h.get? a = some o → h'.get? a = some o) : Wd mg w h' where
  T := let ⟨p, t⟩ := x.T; ⟨p, t.keeps k⟩
  fn := fun d hd => (x.fn d hd).imp fun _ => .imp fun _ => .imp fun _ => .imp fun _ => .imp fun _ => .imp id (.imp (k _ _) (.imp id fun c => c.keeps k))
  kon := fun p hp => let ⟨v, a, b⟩ := x.kon p hp; ⟨v, a, b.mono (get_mono k)⟩
  cas := x.cas.keeps k

structure EnvOk (env : Env) : Prop where
  kind : env.scope.kind = .function
  globals : env.globals = mainGlobals
  builtins : env.builtins = builtinsNs
  cell : ∀ x, env.kindOf x = some .cell → ∃ c, env.cells.lookup x = some c

section
variable {mg : MG} {w : World} {A : Around} {env : Env} {h₀ : Base} {ρ : Vars} {ω : Owns}

/-- the expression tells the datum d, and nothing that stood is turned -/
def Ev (mg : MG) (w : World) (A : Around) (env : Env) (h₀ : Base) (ρ : Vars) (ω : Owns) (e : Expr) (d : PyData) : Prop :=
  ∀ s, St h₀ env ρ ω s.heap → wpAny (model pw w) A (eval e env) (fun v s' => Kp s s' ∧ Is s'.heap.get? v d) No s
/-- a new list -/
def NewL (h h' : Heap) (v : Value) (ds : List PyData) : Prop := ∃ l vs, v = .ref l ∧ h.get? l = none ∧ h'.PlainList l vs ∧ IsAll h'.get? vs.toList ds
def EvN (mg : MG) (w : World) (A : Around) (env : Env) (h₀ : Base) (ρ : Vars) (ω : Owns) (e : Expr) (ds : List PyData) : Prop :=
  ∀ s, St h₀ env ρ ω s.heap → wpAny (model pw w) A (eval e env) (fun v s' => Kp s s' ∧ NewL s.heap s'.heap v ds) No s
def EvAll (mg : MG) (w : World) (A : Around) (env : Env) (h₀ : Base) (ρ : Vars) (ω : Owns) (pos : Pos) (es : List Expr) (ds : List PyData) : Prop :=
  ∀ s, St h₀ env ρ ω s.heap → wpAny (model pw w) A (spliced (backTo pos (starEach es env))) (fun vs s' => Kp s s' ∧ IsAll s'.heap.get? vs ds) No s
def Tr (mg : MG) (w : World) (A : Around) (env : Env) (h₀ : Base) (ρ : Vars) (ω : Owns) (e : Expr) (b : Bool) : Prop :=
  ∀ s, St h₀ env ρ ω s.heap → wpAny (model pw w) A (isTrue e env (eval e env)) (fun v s' => Kp s s' ∧ v = b) No s

theorem NewL.is {h h' : Heap} {v : Value} {ds : List PyData} (x : NewL h h' v ds) : Is h'.get? v (.list ds) := by
  obtain ⟨l, vs, rfl, _, ⟨n, e⟩, r⟩ := x
  exact .lst e r
theorem EvN.ev {e : Expr} {ds : List PyData} (x : EvN mg w A env h₀ ρ ω e ds) : Ev mg w A env h₀ ρ ω e (.list ds) :=
  fun s S => wpAny_q (x s S) fun v s' ⟨k, n⟩ => ⟨k, n.is⟩

theorem evAll_nil {pos : Pos} : EvAll mg w A env h₀ ρ ω pos [] [] := fun s _ => wpAny_items_nil ⟨Kp.refl s, .nil⟩
theorem evAll_cons {pos : Pos} {e : Expr} {es : List Expr} {d : PyData} {ds : List PyData} (x : Ev mg w A env h₀ ρ ω e d) (y : EvAll mg w A env h₀ ρ ω pos es ds)
    (he : starEach (e :: es) env = (false, eval e env) :: starEach es env := by rfl) : EvAll mg w A env h₀ ρ ω pos (e :: es) (d :: ds) := fun s S =>
  wpAny_items_cons (wpAny_q (x s S) fun v s₁ ⟨k₁, i₁⟩ => wpAny_q (y s₁ (S.keeps k₁.get)) fun vs s₂ ⟨k₂, i₂⟩ => ⟨k₁.trans k₂, .cons (i₁.mono (get_mono k₂.get)) i₂⟩) he

theorem ev_int {i k pos} : Ev mg w A env h₀ ρ ω (.Constant (.int i) k pos) (.int i) := fun s _ => wpAny_Constant_int ⟨Kp.tok _ _, .int _ _⟩
theorem ev_str {x k pos} : Ev mg w A env h₀ ρ ω (.Constant (.str x) k pos) (.str x) := fun s _ => wpAny_Constant_str ⟨Kp.tok _ _, .str _ _⟩
theorem ev_none {k pos} : Ev mg w A env h₀ ρ ω (.Constant .none k pos) .none := fun s _ => wpAny_Constant_none ⟨Kp.refl _, .none⟩
theorem ev_bool {b k pos} : Ev mg w A env h₀ ρ ω (.Constant (.bool b) k pos) (.bool b) := fun s _ => wpAny_Constant_bool ⟨Kp.refl _, .bool _⟩

theorem load_val {M : Model} {E : Value → Shared → Prop} {x : Str} {pos : Pos} {v : Value} {s : Shared} {Q : Value → Shared → Prop} (hk : env.scope.kind = .function) (V : Val env s.heap x v) (h : Q v s) (hd : (x == ("__debug__" : Str)) = false) :
    wpAny M A (eval (.Name x pos) env) Q E s := by
  rcases V with ⟨a, m, b, c⟩ | ⟨a, c, b, e⟩
  · exact wpAny_Name (wpAny_loadName_local hk a b c h) hd
  · exact wpAny_Name (wpAny_loadName_cell hk a b e h) hd
theorem ev_var {x pos d} (hk : EnvOk env) (hm : (x, d) ∈ ρ) (hd : (x == ("__debug__" : Str)) = false := by decide) : Ev mg w A env h₀ ρ ω (.Name x pos) d := fun s S => by
  obtain ⟨v, V, i⟩ := S.vars x d hm
  exact load_val hk.kind V ⟨Kp.refl _, i.full⟩ hd
theorem ev_own {x pos ds l} (hk : EnvOk env) (hm : (x, ds, l) ∈ ω) (hd : (x == ("__debug__" : Str)) = false := by decide) : Ev mg w A env h₀ ρ ω (.Name x pos) (.list ds) := fun s S => by
  obtain ⟨V, ⟨vs, ⟨n, e⟩, i⟩, _⟩ := S.owns x ds l hm
  exact load_val hk.kind V ⟨Kp.refl _, .lst e i⟩ hd

theorem load_global {M : Model} {E : Value → Shared → Prop} {x : Str} {pos : Pos} {v : Value} {s : Shared} {Q : Value → Shared → Prop} (hk : EnvOk env) (W : Wd mg w s.heap) (hx : env.kindOf x = some .globalImplicit) (e : mg x = some v) (h : Q v s)
    (hd : (x == ("__debug__" : Str)) = false) : wpAny M A (eval (.Name x pos) env) Q E s := by
  obtain ⟨mb, T⟩ := W.T
  exact Name_function_global hk.kind hx (loadGlobal_global (mg := mg) (by rw [hk.globals]; exact T.g) e h) hd
theorem load_builtin {M : Model} {E : Value → Shared → Prop} {x : Str} {pos : Pos} {v : Value} {s : Shared} {Q : Value → Shared → Prop} (hk : EnvOk env) (W : Wd mg w s.heap) (hx : env.kindOf x = some .globalImplicit) (e : bFree x = true)
    (hv : bootBuiltins x = some v) (hn : x ≠ "__name__") (h : Q v s) (hd : (x == ("__debug__" : Str)) = false) : wpAny M A (eval (.Name x pos) env) Q E s := by
  obtain ⟨mb, T⟩ := W.T
  simp only [bFree, Bool.and_eq_true, Bool.not_eq_true', List.contains_eq_mem, decide_eq_false_iff_not] at e
  exact Name_function_global hk.kind hx (loadGlobal_builtin (mg := mg) (mb := mb) (by rw [hk.globals]; exact T.g) (T.free x e.1.1.1.1 e.1.1.1.2 e.1.1.2 e.1.2 e.2) (by rw [hk.builtins]; exact T.b) ((T.builtins x hn).trans hv) h) hd
theorem ev_global {x pos d} (hk : EnvOk env) (W : Wd mg w h₀.h) (hx : env.kindOf x = some .globalImplicit) (e : (x, d) ∈ konsts)
    (hd : (x == ("__debug__" : Str)) = false := by decide) : Ev mg w A env h₀ ρ ω (.Name x pos) d := fun s S =>
  let ⟨_, a, i⟩ := W.kon _ e
  load_global hk (W.keeps S.keep) hx a ⟨Kp.refl _, i.mono (get_mono S.keep)⟩ hd
end
end
end Mine
end
section
open PySem PySem.W PyProof.Rows PySem.Calls PySem.SeqAt
set_option maxRecDepth 100000
set_option linter.unusedVariables false
namespace Mine
noncomputable section

structure Ro (A : Around) (n : Nat) : Prop where
  handled : A.handled = none
  depth : A.depth + n + 150 < recursionLimit
  units : A.units + 8 * n + 200 < cLine
theorem Ro.mono {A : Around} {n k : Nat} (x : Ro A n) (h : k ≤ n) : Ro A k := ⟨x.handled, by have := x.depth; lia, by have := x.units; lia⟩
theorem Ro.deeper {A : Around} {n : Nat} (x : Ro A (n + 1)) (env : Env) : Ro (A.deeper env) n :=
  ⟨x.handled, by have := x.depth; simp only [Around.deeper]; lia, by have := x.units; simp only [Around.deeper]; lia⟩

theorem none_of {s s₁ : Shared} {l : Addr} (k : Kp s s₁) (hn : s₁.heap.get? l = none) : s.heap.get? l = none := by
  cases q : s.heap.get? l with
  | none => rfl
  | some o => rw [k.get _ _ q] at hn; cases hn

theorem fn_at {mg : MG} {w : World} {f : Str} (hf : ((recsOf myView).any fun d => d.name == f) = true) {h : Heap} (W : Wd mg w h) : ∃ a o fd, mg f = some (.ref a) ∧ h.get? a = some o ∧ o.data = .func fd := by
  obtain ⟨d, hd, e⟩ := List.any_eq_true.mp hf
  obtain ⟨a, o, pm, cd, doc, h1, h2, h3, _⟩ := W.fn d hd
  exact ⟨a, o, _, beq_iff_eq.mp e ▸ h1, h2, h3⟩
theorem keeper_fn {M : Model} {h : Heap} {a : Addr} {o : Obj} {fd : FuncData} (e : h.get? a = some o) (d : o.data = .func fd) : Looks M h (keeperOf (.ref a)) .frame := by
  unfold keeperOf
  refine (Looks.ld e).andThen ?_
  rw [d]; exact Looks.now
/-- what a call of a def tells -/
def Tell (mg : MG) (w : World) (f : Str) (n : Nat) (ds : List PyData) (R : Heap → Heap → Value → Prop) : Prop :=
  ((recsOf myView).any fun d => d.name == f) = true ∧
  ∀ (A : Around) (s : Shared) (vs : List Value) (a : Addr), Ro A n → Wd mg w s.heap → mg f = some (.ref a) → IsAll s.heap.get? vs ds → wpAny (model pw w) A (call (.ref a) vs) (fun v s' => Kp s s' ∧ R s.heap s'.heap v) No s
def RV (d : PyData) : Heap → Heap → Value → Prop := fun _ h' v => Is h'.get? v d
def RN (ds : List PyData) : Heap → Heap → Value → Prop := fun h h' v => NewL h h' v ds
theorem Tell.more {mg : MG} {w : World} {f : Str} {n k : Nat} {ds : List PyData} {R} (t : Tell mg w f n ds R) (h : n ≤ k) : Tell mg w f k ds R :=
  ⟨t.1, fun A s vs a b c e => t.2 A s vs a (b.mono h) c e⟩

section
variable {mg : MG} {w : World} {A : Around} {env : Env} {h₀ : Base} {ρ : Vars} {ω : Owns}

theorem Is.int_inv {g : Addr → Option Obj} {v : Value} {i : Int} (x : Is g v (.int i)) : ∃ t, v = .int i t := by cases x; exact ⟨_, rfl⟩
theorem Is.bool_inv {g : Addr → Option Obj} {v : Value} {b : Bool} (x : Is g v (.bool b)) : v = .bool b := by cases x; rfl
theorem Is.tup_inv {h : Heap} {v : Value} {ds : List PyData} (x : Is h.get? v (.tuple ds)) : ∃ a vs, v = .ref a ∧ IsTup h a vs ∧ IsAll h.get? vs.toList ds := by
  cases x with | tup h1 h2 h3 h4 => exact ⟨_, _, rfl, ⟨_, h1, h2, _, h3⟩, h4⟩
theorem Is.lst_inv {h : Heap} {v : Value} {ds : List PyData} (x : Is h.get? v (.list ds)) : ∃ a vs, v = .ref a ∧ h.IsList a vs ∧ IsAll h.get? vs.toList ds := by
  cases x with | lst h1 h4 => exact ⟨_, _, rfl, ⟨_, h1, rfl, _, rfl⟩, h4⟩

theorem IsAll.one {g : Addr → Option Obj} {vs : List Value} {d : PyData} (x : IsAll g vs [d]) : ∃ v, vs = [v] ∧ Is g v d := by
  cases x with | cons h1 h2 => cases h2; exact ⟨_, rfl, h1⟩
theorem IsAll.two {g : Addr → Option Obj} {vs : List Value} {d e : PyData} (x : IsAll g vs [d, e]) : ∃ v u, vs = [v, u] ∧ Is g v d ∧ Is g u e := by
  cases x with | cons h1 h2 => cases h2 with | cons h3 h4 => cases h4; exact ⟨_, _, rfl, h1, h3⟩
theorem IsAll.int1 {g : Addr → Option Obj} {vs : List Value} {i : Int} (x : IsAll g vs [.int i]) : ∃ t, vs = [.int i t] := by
  obtain ⟨v, rfl, h⟩ := x.one; obtain ⟨t, rfl⟩ := h.int_inv; exact ⟨t, rfl⟩
theorem IsAll.int2 {g : Addr → Option Obj} {vs : List Value} {i j : Int} (x : IsAll g vs [.int i, .int j]) : ∃ t u, vs = [.int i t, .int j u] := by
  obtain ⟨v, u, rfl, h, h'⟩ := x.two; obtain ⟨t, rfl⟩ := h.int_inv; obtain ⟨u, rfl⟩ := h'.int_inv; exact ⟨t, u, rfl⟩

/-- an operator on two data -/
def OpTells (mg : MG) (w : World) (A : Around) (f : Value → Value → Sem Value) (a b r : PyData) : Prop :=
  ∀ s v u, Wd mg w s.heap → Is s.heap.get? v a → Is s.heap.get? u b → wpAny (model pw w) A (f v u) (fun x s' => Kp s s' ∧ Is s'.heap.get? x r) No s

theorem ev_binop {op l r pos a b d} (W : Wd mg w h₀.h) (x : Ev mg w A env h₀ ρ ω l a) (y : Ev mg w A env h₀ ρ ω r b) (o : OpTells mg w A (binaryOp op) a b d) : Ev mg w A env h₀ ρ ω (.BinOp l op r pos) d := fun s S =>
  wpAny_BinOp (wpAny_q (x s S) fun v s₁ ⟨k₁, i₁⟩ => wpAny_q (y s₁ (S.keeps k₁.get)) fun u s₂ ⟨k₂, i₂⟩ => wpAny_q (o s₂ v u (W.keeps (S.keeps (k₁.trans k₂).get).keep) (i₁.mono (get_mono k₂.get)) i₂) fun x s₃ ⟨k₃, i₃⟩ => ⟨(k₁.trans k₂).trans k₃, i₃⟩)
theorem ev_cmp {op l r pos a b d} (W : Wd mg w h₀.h) (x : Ev mg w A env h₀ ρ ω l a) (y : Ev mg w A env h₀ ρ ω r b) (o : OpTells mg w A (compareOp op) a b d)
    (hm : behindInMarks op r = false := by with_unfolding_all rfl) : Ev mg w A env h₀ ρ ω (.Compare l [op] [r] pos) d := fun s S =>
  wpAny_Compare1 (wpAny_q (x s S) fun v s₁ ⟨k₁, i₁⟩ => wpAny_q (y s₁ (S.keeps k₁.get)) fun u s₂ ⟨k₂, i₂⟩ => wpAny_q (o s₂ v u (W.keeps (S.keeps (k₁.trans k₂).get).keep) (i₁.mono (get_mono k₂.get)) i₂) fun x s₃ ⟨k₃, i₃⟩ => ⟨(k₁.trans k₂).trans k₃, i₃⟩) hm
theorem tr_cmp {op l r pos a b d} (W : Wd mg w h₀.h) (x : Ev mg w A env h₀ ρ ω l a) (y : Ev mg w A env h₀ ρ ω r b) (o : OpTells mg w A (compareOp op) a b (.bool d))
    (hm : behindInMarks op r = false := by with_unfolding_all rfl) : Tr mg w A env h₀ ρ ω (.Compare l [op] [r] pos) d := fun s S =>
  wpAny_isTrue_Compare1 (wpAny_q (x s S) fun v s₁ ⟨k₁, i₁⟩ => wpAny_q (y s₁ (S.keeps k₁.get)) fun u s₂ ⟨k₂, i₂⟩ => wpAny_q (o s₂ v u (W.keeps (S.keeps (k₁.trans k₂).get).keep) (i₁.mono (get_mono k₂.get)) i₂) fun x s₃ ⟨k₃, i₃⟩ => by
    cases i₃; exact wpAny_truthy_bool ⟨(k₁.trans k₂).trans k₃, rfl⟩) hm
theorem tr_value {e d} (x : Ev mg w A env h₀ ρ ω e (.bool d)) (he : isTrue e env (eval e env) = (do let v ← eval e env; standAt e.pos; holding [v] (truthy v)) := by rfl) : Tr mg w A env h₀ ρ ω e d := fun s S =>
  wpAny_isTrue_value (wpAny_q (x s S) fun v s₁ ⟨k₁, i₁⟩ => by cases i₁; exact wpAny_truthy_bool ⟨k₁, rfl⟩) he
theorem tr_and2 {x y pos a b} (p : Tr mg w A env h₀ ρ ω x a) (q : a = true → Tr mg w A env h₀ ρ ω y b) : Tr mg w A env h₀ ρ ω (.BoolOp .And [x, y] pos) (a && b) := fun s S =>
  wpAny_isTrue_BoolOp (wpAny_allTrue_And_cons (wpAny_q (p s S) fun v s₁ ⟨k₁, i₁⟩ => by
    subst i₁
    cases v with
    | false => exact ⟨k₁, rfl⟩
    | true => exact wpAny_allTrue_And_cons (wpAny_q (q rfl s₁ (S.keeps k₁.get)) fun u s₂ ⟨k₂, i₂⟩ => by
        subst i₂
        cases u with
        | false => exact ⟨k₁.trans k₂, rfl⟩
        | true => exact wpAny_allTrue_And_nil ⟨k₁.trans k₂, rfl⟩)))
theorem tr_or2 {x y pos a b} (p : Tr mg w A env h₀ ρ ω x a) (q : a = false → Tr mg w A env h₀ ρ ω y b) : Tr mg w A env h₀ ρ ω (.BoolOp .Or [x, y] pos) (a || b) := fun s S =>
  wpAny_isTrue_BoolOp (wpAny_allTrue_Or_cons (wpAny_q (p s S) fun v s₁ ⟨k₁, i₁⟩ => by
    subst i₁
    cases v with
    | true => exact ⟨k₁, rfl⟩
    | false => exact wpAny_allTrue_Or_cons (wpAny_q (q rfl s₁ (S.keeps k₁.get)) fun u s₂ ⟨k₂, i₂⟩ => by
        subst i₂
        cases u with
        | true => exact ⟨k₁.trans k₂, rfl⟩
        | false => exact wpAny_allTrue_Or_nil ⟨k₁.trans k₂, rfl⟩)))
theorem ev_and2 {x y pos a b} (p : Ev mg w A env h₀ ρ ω x (.bool a)) (q : a = true → Ev mg w A env h₀ ρ ω y (.bool b)) : Ev mg w A env h₀ ρ ω (.BoolOp .And [x, y] pos) (.bool (a && b)) := fun s S =>
  wpAny_And2 (wpAny_q (p s S) fun v s₁ ⟨k₁, i₁⟩ => by
    cases i₁
    refine wpAny_truthy_bool ?_
    cases a with
    | false => exact ⟨k₁, .bool _⟩
    | true => exact wpAny_q (q rfl s₁ (S.keeps k₁.get)) fun u s₂ ⟨k₂, i₂⟩ => ⟨k₁.trans k₂, i₂⟩)
theorem ev_ifexp {t x y pos b d} (p : Tr mg w A env h₀ ρ ω t b) (q : b = true → Ev mg w A env h₀ ρ ω x d) (r : b = false → Ev mg w A env h₀ ρ ω y d) : Ev mg w A env h₀ ρ ω (.IfExp t x y pos) d := fun s S =>
  wpAny_IfExp (wpAny_q (p s S) fun v s₁ ⟨k₁, i₁⟩ => by
    subst i₁
    cases v with
    | true => exact wpAny_q (q rfl s₁ (S.keeps k₁.get)) fun u s₂ ⟨k₂, i₂⟩ => ⟨k₁.trans k₂, i₂⟩
    | false => exact wpAny_q (r rfl s₁ (S.keeps k₁.get)) fun u s₂ ⟨k₂, i₂⟩ => ⟨k₁.trans k₂, i₂⟩)
theorem ev_neg {x pos i} (p : Ev mg w A env h₀ ρ ω x (.int i)) : Ev mg w A env h₀ ρ ω (.UnaryOp .USub x pos) (.int (-i)) := fun s S =>
  wpAny_UnaryOp (wpAny_q (p s S) fun v s₁ ⟨k₁, i₁⟩ => by
    cases i₁
    exact P.neg_int ⟨k₁.trans (Kp.tok _ _), .int _ _⟩)

/-! ints -/
theorem noPy {a b : Int} (hs : b.natAbs < 2 ^ 9000) : Builtin.divisionGoesByPylong a b = false := by
  unfold Builtin.divisionGoesByPylong
  have h : ¬ ((if b == 0 then 0 else b.natAbs.log2 / 30 + 1) > 300) := by
    split
    · lia
    · rename_i h0
      have h1 : b.natAbs ≠ 0 := by simpa using h0
      have h2 : b.natAbs.log2 < 9000 := (Nat.log2_lt h1).mpr hs
      lia
  simp only [decide_eq_false h, Bool.false_and]
theorem op_add {a b : Int} : OpTells mg w A (binaryOp .Add) (.int a) (.int b) (.int (a + b)) := fun s v u W x y => by
  cases x; cases y; exact P.add_int ⟨Kp.tok _ _, .int _ _⟩
theorem op_sub {a b : Int} : OpTells mg w A (binaryOp .Sub) (.int a) (.int b) (.int (a - b)) := fun s v u W x y => by
  cases x; cases y; exact P.sub_int ⟨Kp.tok _ _, .int _ _⟩
theorem op_mul {a b : Int} (hm : IntMulOk a b) : OpTells mg w A (binaryOp .Mult) (.int a) (.int b) (.int (a * b)) := fun s v u W x y => by
  cases x; cases y; exact P.mul_int ⟨Kp.tok _ _, .int _ _⟩ hm
theorem op_div {a b : Int} (hb : b ≠ 0) (hs : b.natAbs < 2 ^ 9000) : OpTells mg w A (binaryOp .FloorDiv) (.int a) (.int b) (.int (a.fdiv b)) := fun s v u W x y => by
  cases x; cases y; exact floordiv_int hb ⟨Kp.tok _ _, .int _ _⟩ (.inl (noPy hs))
theorem op_mod {a b : Int} (hb : b ≠ 0) : OpTells mg w A (binaryOp .Mod) (.int a) (.int b) (.int (a.fmod b)) := fun s v u W x y => by
  cases x; cases y; exact mod_int' hb ⟨Kp.tok _ _, .int _ _⟩
theorem op_pow {a n : Int} (hn : 0 ≤ n) (hz : (Builtin.Int.intBits a : Int) * n ≤ 2 ^ 27) : OpTells mg w A (binaryOp .Pow) (.int a) (.int n) (.int (a ^ n.toNat)) := fun s v u W x y => by
  cases x; cases y; exact pow_int hn hz ⟨Kp.tok _ _, .int _ _⟩
theorem op_subb {a b : Bool} : OpTells mg w A (binaryOp .Sub) (.bool a) (.bool b) (.int (b2i a - b2i b)) := fun s v u W x y => by
  cases x; cases y; exact sub_bool ⟨Kp.tok _ _, .int _ _⟩
theorem op_eq {a b : Int} : OpTells mg w A (compareOp .Eq) (.int a) (.int b) (.bool (a == b)) := fun s v u W x y => by
  cases x; cases y; exact P.eq_int ⟨Kp.refl _, .bool _⟩
theorem op_ne {a b : Int} : OpTells mg w A (compareOp .NotEq) (.int a) (.int b) (.bool (a != b)) := fun s v u W x y => by
  cases x; cases y; exact P.ne_int ⟨Kp.refl _, .bool _⟩
theorem op_lt {a b : Int} : OpTells mg w A (compareOp .Lt) (.int a) (.int b) (.bool (decide (a < b))) := fun s v u W x y => by
  cases x; cases y; exact P.lt_int ⟨Kp.refl _, .bool _⟩
theorem op_le {a b : Int} : OpTells mg w A (compareOp .LtE) (.int a) (.int b) (.bool (decide (a ≤ b))) := fun s v u W x y => by
  cases x; cases y; exact P.le_int ⟨Kp.refl _, .bool _⟩
theorem op_gt {a b : Int} : OpTells mg w A (compareOp .Gt) (.int a) (.int b) (.bool (decide (a > b))) := fun s v u W x y => by
  cases x; cases y; exact P.gt_int ⟨Kp.refl _, .bool _⟩
theorem op_ge {a b : Int} : OpTells mg w A (compareOp .GtE) (.int a) (.int b) (.bool (decide (a ≥ b))) := fun s v u W x y => by
  cases x; cases y; exact P.ge_int ⟨Kp.refl _, .bool _⟩
theorem op_eqd {a b : PyData} (hA : Ro A 0) (ha : shaped a = true) (hb : shaped b = true) : OpTells mg w A (compareOp .Eq) a b (.bool (PyData.eqv a b)) := fun s v u W x y => by
  obtain ⟨as, ra⟩ := x.reads
  obtain ⟨bs, rb⟩ := y.reads
  exact compareEq_shaped ra rb ha hb (by have := hA.units; lia) ⟨Kp.refl _, .bool _⟩
theorem op_ned {a b : PyData} (hA : Ro A 0) (ha : shaped a = true) (hb : shaped b = true) : OpTells mg w A (compareOp .NotEq) a b (.bool (!PyData.eqv a b)) := fun s v u W x y => by
  obtain ⟨as, ra⟩ := x.reads
  obtain ⟨bs, rb⟩ := y.reads
  exact compareNe_shaped ra rb ha hb (by have := hA.units; lia) ⟨Kp.refl _, .bool _⟩

/-! displays -/
theorem ev_tuple {es k pos ds} (x : EvAll mg w A env h₀ ρ ω pos es ds) (hz : ds.length ≤ sizeLine := by (simp only [List.length_cons, List.length_nil]; decide)) : Ev mg w A env h₀ ρ ω (.Tuple es k pos) (.tuple ds) := fun s S =>
  wpAny_Tuple (wpAny_q (x s S) fun vs s₁ ⟨k₁, i₁⟩ => ⟨i₁.length ▸ hz, k₁.trans (Kp.push _ _), .tup (Heap.get?_push_size _ rfl) rfl rfl (by simpa using i₁.mono (get_mono (Kp.push s₁ _).get))⟩)
theorem evN_list {es pos ds} (x : EvAll mg w A env h₀ ρ ω pos es ds) (hz : ds.length ≤ sizeLine := by (simp only [List.length_cons, List.length_nil]; decide)) : EvN mg w A env h₀ ρ ω (.List es pos) ds := fun s S =>
  wpAny_List (wpAny_q (x s S) fun vs s₁ ⟨k₁, i₁⟩ => ⟨i₁.length ▸ hz, k₁.trans (Kp.push _ _), _, vs.toArray, rfl, by
    exact none_of k₁ (Heap.get?_none_of_le (Nat.le_refl _)), ⟨0, Heap.get?_push_size _ rfl⟩, by simpa using i₁.mono (get_mono (Kp.push s₁ _).get)⟩)

/-! items -/
theorem ev_item_list {e i pos ds k d} (x : Ev mg w A env h₀ ρ ω e (.list ds)) (y : Ev mg w A env h₀ ρ ω i (.int k)) (h0 : 0 ≤ k) (hk : ds[k.toNat]? = some d) (hz : ds.length ≤ 2 ^ 62 := by (simp only [List.length_cons, List.length_nil]; decide))
    (hs : ∀ l u, subscripted i false (.ref l) (.int k u) = operate [.ref l, .int k u] (getItem (.ref l) (.int k u)) := by intro _ _; with_unfolding_all rfl) : Ev mg w A env h₀ ρ ω (.Subscript e i pos) d := fun s S =>
  Subscript_ (wpAny_q (x s S) fun v s₁ ⟨k₁, i₁⟩ => wpAny_q (y s₁ (S.keeps k₁.get)) fun u s₂ ⟨k₂, i₂⟩ => by
    obtain ⟨t, rfl⟩ := i₂.int_inv
    obtain ⟨a, vs, rfl, hl, ia⟩ := (i₁.mono (get_mono k₂.get)).lst_inv
    obtain ⟨z, ez, iz⟩ := ia.get _ _ hk
    have hlt : k.toNat < ds.length := (List.getElem?_eq_some_iff.mp hk).1
    exact tail_any hl.typeIs slot_list_getitem.lookup (wpAny_getItem_list hl h0 (by lia) (by simpa using ez) ⟨k₁.trans k₂, iz⟩) (hs _ _))
theorem ev_item_tup {e i pos ds k d} (x : Ev mg w A env h₀ ρ ω e (.tuple ds)) (y : Ev mg w A env h₀ ρ ω i (.int k)) (h0 : 0 ≤ k) (hk : ds[k.toNat]? = some d) (hz : ds.length ≤ 2 ^ 62 := by (simp only [List.length_cons, List.length_nil]; decide))
    (hs : ∀ l u, subscripted i false (.ref l) (.int k u) = operate [.ref l, .int k u] (getItem (.ref l) (.int k u)) := by intro _ _; with_unfolding_all rfl) : Ev mg w A env h₀ ρ ω (.Subscript e i pos) d := fun s S =>
  Subscript_ (wpAny_q (x s S) fun v s₁ ⟨k₁, i₁⟩ => wpAny_q (y s₁ (S.keeps k₁.get)) fun u s₂ ⟨k₂, i₂⟩ => by
    obtain ⟨t, rfl⟩ := i₂.int_inv
    obtain ⟨a, vs, rfl, hl, ia⟩ := (i₁.mono (get_mono k₂.get)).tup_inv
    obtain ⟨z, ez, iz⟩ := ia.get _ _ hk
    have hlt : k.toNat < ds.length := (List.getElem?_eq_some_iff.mp hk).1
    have hlen : vs.size = ds.length := by simpa using ia.length
    have hj : seqIndex? k vs.size = some k.toNat := by
      unfold seqIndex?
      have h1 : ¬ k < 0 := by lia
      simp only [h1, if_false]
      rw [if_pos (by simp only [Bool.and_eq_true, decide_eq_true_eq]; lia)]
    exact tail_any hl.typeIs slot_tuple_getitem.lookup (PyProof.Rows.getItem_tuple hl (by lia) (by lia) hj (by simpa using ez) ⟨k₁.trans k₂, iz⟩) (hs _ _))

/-! calls -/
theorem ev_call {fn np pos e es ds n R} (hk : EnvOk env) (W : Wd mg w h₀.h) (hx : env.kindOf fn = some .globalImplicit)
    (x : EvAll mg w A env h₀ ρ ω pos (e :: es) ds) (t : Tell mg w fn n ds R) (hA : Ro A n)
    (he : starEach (e :: es) env = (false, eval e env) :: starEach es env := by rfl) (hplain : (backTo pos (starEach es env)).any (·.1) = false := by rfl)
    (hdb : (fn == ("__debug__" : Str)) = false := by decide) :
    ∀ s, St h₀ env ρ ω s.heap → wpAny (model pw w) A (eval (.Call (.Name fn np) (e :: es) [] pos) env) (fun v s' => Kp s s' ∧ ∃ s₁, Kp s s₁ ∧ Kp s₁ s' ∧ R s₁.heap s'.heap v) No s := fun s S => by
  have W₀ := W.keeps S.keep
  obtain ⟨a, o, fd, hg, ho, hd⟩ := fn_at t.1 W₀
  refine wpAny_Call_ofName (load_global hk W₀ hx hg ?_ hdb)
  rw [he]
  refine callWith_of (P := fun h => h.get? a = some o) (by show ((false || (backTo pos (starEach es env)).any (·.1)) || false) = false; rw [hplain]; rfl) (fun h e => ⟨.frame, .inl rfl, keeper_fn e hd⟩) ?_
  refine evalArgs_plain ?_
  have y := x s S
  rw [he] at y
  refine wpAny_q y fun vs s₁ ⟨k₁, i₁⟩ => ⟨k₁.get _ _ ho, ?_⟩
  exact wpAny_q (t.2 A s₁ vs a hA (W₀.keeps k₁.get) hg i₁) fun v s' ⟨k₂, r⟩ => ⟨k₁.trans k₂, s₁, k₁, k₂, r⟩
/-- a built-in called by its name -/
def BTells (mg : MG) (w : World) (A : Around) (f : Value) (ds : List PyData) (R : Heap → Heap → Value → Prop) : Prop :=
  ∀ s vs, IsAll s.heap.get? vs ds → wpAny (model pw w) A (call f vs) (fun v s' => Kp s s' ∧ R s.heap s'.heap v) No s
theorem ev_builtin {fn np pos e es ds f R} (hk : EnvOk env) (W : Wd mg w h₀.h) (hx : env.kindOf fn = some .globalImplicit) (hg : bFree fn = true) (hb : bootBuiltins fn = some f) (hn : fn ≠ "__name__")
    (hf : keeperOf f = pure .machine) (x : EvAll mg w A env h₀ ρ ω pos (e :: es) ds) (t : BTells mg w A f ds R)
    (he : starEach (e :: es) env = (false, eval e env) :: starEach es env := by rfl) (hplain : (backTo pos (starEach es env)).any (·.1) = false := by rfl)
    (hdb : (fn == ("__debug__" : Str)) = false := by decide) :
    ∀ s, St h₀ env ρ ω s.heap → wpAny (model pw w) A (eval (.Call (.Name fn np) (e :: es) [] pos) env) (fun v s' => Kp s s' ∧ ∃ s₁, Kp s s₁ ∧ Kp s₁ s' ∧ R s₁.heap s'.heap v) No s := fun s S => by
  refine wpAny_Call_ofName (load_builtin hk (W.keeps S.keep) hx hg hb hn ?_ hdb)
  rw [he]
  refine callWith_of (P := fun _ => True) (by show ((false || (backTo pos (starEach es env)).any (·.1)) || false) = false; rw [hplain]; rfl) (fun h _ => ⟨.machine, .inr (.inl rfl), Looks.of_pure hf⟩) ?_
  refine evalArgs_plain ?_
  have y := x s S
  rw [he] at y
  refine wpAny_q y fun vs s₁ ⟨k₁, i₁⟩ => ⟨trivial, ?_⟩
  exact wpAny_q (t s₁ vs i₁) fun v s' ⟨k₂, r⟩ => ⟨k₁.trans k₂, s₁, k₁, k₂, r⟩
theorem b_abs {a : Int} : BTells mg w A (.builtin "abs") [.int a] (RV (.int (if a < 0 then -a else a))) := fun s vs i => by
  obtain ⟨t, rfl⟩ := i.int1
  exact call_abs_int fun u tk => ⟨Kp.tok _ _, .int _ _⟩
theorem b_max {a b : Int} (hA : Ro A 0) : BTells mg w A (.builtin "max") [.int a, .int b] (RV (.int (if b > a then b else a))) := fun s vs i => by
  obtain ⟨t, u, rfl⟩ := i.int2
  exact max_two_ints hA.handled fun h' tk hk => by
    by_cases c : b > a
    · simp only [if_pos c]; exact ⟨⟨h', tk, rfl, hk⟩, .int _ _⟩
    · simp only [if_neg c]; exact ⟨⟨h', tk, rfl, hk⟩, .int _ _⟩
theorem b_min {a b : Int} (hA : Ro A 0) : BTells mg w A (.builtin "min") [.int a, .int b] (RV (.int (if b < a then b else a))) := fun s vs i => by
  obtain ⟨t, u, rfl⟩ := i.int2
  exact min_two_ints hA.handled fun h' tk hk => by
    by_cases c : b < a
    · simp only [if_pos c]; exact ⟨⟨h', tk, rfl, hk⟩, .int _ _⟩
    · simp only [if_neg c]; exact ⟨⟨h', tk, rfl, hk⟩, .int _ _⟩
theorem b_len {ds : List PyData} (hz : ds.length ≤ 2 ^ 62) : BTells mg w A (.builtin "len") [.list ds] (RV (.int ds.length)) := fun s vs i => by
  obtain ⟨v, rfl, h1⟩ := i.one
  obtain ⟨a, vs, rfl, hl, ia⟩ := h1.lst_inv
  have hlen : vs.size = ds.length := by simpa using ia.length
  exact call_len_list hl (by lia) ⟨Kp.tok _ _, by rw [hlen]; exact .int _ _⟩
end
end
end Mine
end
section
open PySem PySem.W PyProof.Rows PySem.Calls PySem.SeqAt
set_option maxRecDepth 100000
set_option linter.unusedVariables false
namespace Mine
noncomputable section

theorem Is.lst_plain {h : Heap} {v : Value} {ds : List PyData} (x : Is h.get? v (.list ds)) : ∃ a vs n, v = .ref a ∧ h.get? a = some { cls := .type "list", data := .seq vs n } ∧ IsAll h.get? vs.toList ds := by
  cases x with | lst h1 h4 => exact ⟨_, _, _, rfl, h1, h4⟩
theorem NewL.push {s : Shared} {h : Heap} {vs : Array Value} {ds : List PyData} (k : ∀ a o, h.get? a = some o → s.heap.get? a = some o) (i : IsAll s.heap.get? vs.toList ds) :
    NewL h (s.heap.push { cls := .type "list", data := .seq vs }) (.ref s.heap.objs.size) ds :=
  ⟨_, vs, rfl, by
    cases q : h.get? s.heap.objs.size with
    | none => rfl
    | some o => exact absurd (Heap.lt_size (k _ _ q)) (Nat.lt_irrefl _), ⟨0, Heap.get?_push_size _ rfl⟩, i.mono (get_mono (Kp.push s _).get)⟩

section
variable {mg : MG} {w : World} {A : Around} {env : Env} {h₀ : Base} {ρ : Vars} {ω : Owns}

/-- an operator that makes a list -/
def OpMakes (mg : MG) (w : World) (A : Around) (f : Value → Value → Sem Value) (a b : PyData) (rs : List PyData) : Prop :=
  ∀ s v u, Wd mg w s.heap → Is s.heap.get? v a → Is s.heap.get? u b → wpAny (model pw w) A (f v u) (fun x s' => Kp s s' ∧ NewL s.heap s'.heap x rs) No s
theorem NewL.older {s s₁ : Shared} {h' : Heap} {v : Value} {ds : List PyData} (x : NewL s₁.heap h' v ds) (k : Kp s s₁) : NewL s.heap h' v ds :=
  let ⟨l, vs, e, hn, r⟩ := x; ⟨l, vs, e, none_of k hn, r⟩
theorem evN_binop {op l r pos a b ds} (W : Wd mg w h₀.h) (x : Ev mg w A env h₀ ρ ω l a) (y : Ev mg w A env h₀ ρ ω r b) (o : OpMakes mg w A (binaryOp op) a b ds) : EvN mg w A env h₀ ρ ω (.BinOp l op r pos) ds := fun s S =>
  wpAny_BinOp (wpAny_q (x s S) fun v s₁ ⟨k₁, i₁⟩ => wpAny_q (y s₁ (S.keeps k₁.get)) fun u s₂ ⟨k₂, i₂⟩ => wpAny_q (o s₂ v u (W.keeps (S.keeps (k₁.trans k₂).get).keep) (i₁.mono (get_mono k₂.get)) i₂) fun x s₃ ⟨k₃, i₃⟩ =>
    ⟨(k₁.trans k₂).trans k₃, i₃.older (k₁.trans k₂)⟩)
theorem om_cat {xs ys : List PyData} (hz : xs.length + ys.length ≤ sizeLine) : OpMakes mg w A (binaryOp .Add) (.list xs) (.list ys) (xs ++ ys) := fun s v u W x y => by
  obtain ⟨a, vs, n, rfl, e, i⟩ := x.lst_plain
  obtain ⟨b, us, k, rfl, e', j⟩ := y.lst_plain
  have h1 : vs.size = xs.length := by simpa using i.length
  have h2 : us.size = ys.length := by simpa using j.length
  exact P.add_list e e' ⟨Kp.push _ _, NewL.push (fun _ _ e => e) (by simpa using i.append j)⟩ (by rw [h1, h2]; exact hz)
theorem foldl_cat (x : Value) : ∀ (n : Nat) (acc : Array Value), (List.foldl (fun x1 x2 => x1 ++ x2) acc (List.replicate n #[x])).toList = acc.toList ++ List.replicate n x
  | 0, acc => by simp
  | n + 1, acc => by
    rw [List.replicate_succ, List.foldl_cons, foldl_cat x n]
    simp [List.replicate_succ]
theorem om_rep {d : PyData} {m : Int} (hz : m ≤ 1000) (hm : -1000 ≤ m) : OpMakes mg w A (binaryOp .Mult) (.list [d]) (.int m) (List.replicate m.toNat d) := fun s v u W x y => by
  obtain ⟨a, vs, n, rfl, e, i⟩ := x.lst_plain
  obtain ⟨t, rfl⟩ := y.int_inv
  obtain ⟨z, hv, iz⟩ := i.one
  have hvs : vs = #[z] := by
    obtain ⟨l⟩ := vs
    simp at hv; subst hv; rfl
  subst hvs
  have hlen : m.toNat ≤ 1000 := by lia
  have hsz : (#[z] : Array Value).size * m.toNat ≤ 1000 := by rw [show (#[z] : Array Value).size = 1 from rfl]; lia
  have hsz' : ((#[z] : Array Value).size : Int) * (m.toNat : Int) ≤ 1000 := by rw [show (#[z] : Array Value).size = 1 from rfl]; lia
  have key : (List.foldl (fun x1 x2 => x1 ++ x2) #[] (List.replicate (if (#[z] : Array Value).isEmpty = true then 0 else m.toNat) #[z])).toList = List.replicate m.toNat z := by
    rw [show (if (#[z] : Array Value).isEmpty = true then 0 else m.toNat) = m.toNat from rfl, foldl_cat]; simp
  have hrep : ∀ k : Nat, IsAll s.heap.get? (List.replicate k z) (List.replicate k d) := by
    intro k
    induction k with
    | zero => exact .nil
    | succ k ih => exact .cons iz ih
  exact wpAny_binaryOp_repeat_ref (T := "list") (U := "int") (by decide) ⟨_, e, rfl⟩ (fun s' => typeIs_int s' m t) noFill_list_mul F.fills_int_mul F.slot_int_rmul repeat_list F.slot_int_index.lookup
    (call_meets F.slot_int_rmul (typeIs_int s m t) F.entry_int_rmul (F.args_int_rmul_2 _ _) (int___rmul___int_list m t a #[z] n)
      ⟨e, rfl, ⟨_, e, rfl⟩, call_meets F.slot_list_mul ⟨_, e, rfl⟩ F.entry_list_mul (F.args_list_mul_2 _ _)
        (AutoListH.list___mul___list_int_3 a #[z] n m t (by simp [Builtin.List.listFitsIndex]; lia) (by lia) (by rw [show (#[z] : Array Value).size = 1 from rfl]; simp [Builtin.List.listTooLong, sizeLine]; lia))
        ⟨e, Kp.push _ _, NewL.push (fun _ _ e => e) (by rw [key]; exact hrep _)⟩⟩)

/-! slices, list(..) -/
theorem evPart_none (s : Shared) {Q : Value → Shared → Prop} {M : Model} {E : Value → Shared → Prop} (h : Q .none s) : wpAny M A (evalPart none env) Q E s := by rw [evalPart_none]; exact wpAny_pure h
theorem slice_end {w : World} {A : Around} {value : Expr} {lo up : Option Expr} {p : Pos} {s s₁ : Shared} {l sl : Addr} {vs : Array Value} {n : Nat} {vl vu : Value} {pl pu : Option Int} {rs : List PyData} (k : Kp s s₁)
    (e : s₁.heap.get? l = some { cls := .type "list", data := .seq vs n }) (hs : s₁.heap.IsSliceOf sl vl vu .none) (h1 : IsPart vl pl) (h2 : IsPart vu pu) (hz : vs.size ≤ sizeLine) (i : IsAll s₁.heap.get? (slicePick vs pl pu none).toList rs)
    (hsub : subscripted (.Slice lo up none p) false (.ref l) (.ref sl) = operate [.ref sl, .ref l] (getItem (.ref l) (.ref sl))) :
    wpAny (model pw w) A (subscriptTail value (.Slice lo up none p) (.ref l) (.ref sl)) (fun v s' => Kp s s' ∧ NewL s.heap s'.heap v rs) No s₁ :=
  tail_any (Heap.IsList.typeIs ⟨_, e, rfl, _, rfl⟩) slot_list_getitem.lookup (wpAny_getItem_list_slice (lo := pl) (hi := pu) (st := none) ⟨_, e, rfl, _, rfl⟩ hs h1 h2 .none (by simp) ⟨k.trans (Kp.push _ _), NewL.push k.get i⟩ hz) hsub
theorem b_list {ds : List PyData} (hz : ds.length ≤ sizeLine) : BTells mg w A (.type "list") [.list ds] (RN ds) := fun s vs i => by
  obtain ⟨v, rfl, h1⟩ := i.one
  obtain ⟨a, vs, n, rfl, e, i⟩ := h1.lst_plain
  have hlen : vs.size = ds.length := by simpa using i.length
  exact call_list_seq a (.inl rfl) e rfl rfl (fun h' c' hk hD => ⟨⟨h', s.toks, rfl, hk⟩, _, vs, rfl, Heap.get?_none_of_le (Nat.le_refl _), ⟨c', hD⟩, i.mono (get_mono hk)⟩) (hlen ▸ hz)

/-! what may be walked through -/
def IterAt (mg : MG) (w : World) (A : Around) (own : Bool) (h : Heap) (s₂ : Shared) (it : Value) (ds : List PyData) : Prop :=
  ∃ I fp wr P Stt, it = .ref I ∧ Walks pw w A I fp wr ds.length P Stt ∧ Stt 0 s₂.heap ∧ (∀ b ∈ fp, ∃ o, s₂.heap.get? b = some o) ∧ (∀ b ∈ fp, b ∈ wr ∨ (own = false ∧ ∃ o vs n, s₂.heap.get? b = some o ∧ o.data = .seq vs n)) ∧
    (∀ b ∈ wr, h.get? b = none) ∧ (∀ i h, Stt i h → ∀ b ∈ wr, ∃ o vs, h.get? b = some o ∧ o.data = .fields vs) ∧ (∀ i v d, P i v → ds[i]? = some d → Is s₂.heap.get? v d)
def EvIt (mg : MG) (w : World) (A : Around) (own : Bool) (env : Env) (h₀ : Base) (ρ : Vars) (ω : Owns) (e : Expr) (ds : List PyData) : Prop :=
  ∀ s, St h₀ env ρ ω s.heap → wpAny (model pw w) A (eval e env) (fun xv s₁ => wpAny (model pw w) A (pyIter xv) (fun it s₂ => Kp s s₂ ∧ IterAt mg w A own s.heap s₂ it ds) No s₁) No s
end
end
end Mine
end
section
open PySem PySem.W PyProof.Rows PySem.Calls PySem.SeqAt
set_option maxRecDepth 100000
set_option linter.unusedVariables false
namespace Mine
noncomputable section

def rangeD (a c : Int) (n : Nat) : List PyData := (List.range n).map fun (i : Nat) => .int (a + (i : Int) * c)
theorem rangeD_length (a c : Int) (n : Nat) : (rangeD a c n).length = n := by simp [rangeD]
theorem rangeD_get {a c : Int} {n i : Nat} {d : PyData} (h : (rangeD a c n)[i]? = some d) : i < n ∧ d = .int (a + (i : Int) * c) := by
  have hi : i < n := by
    have := (List.getElem?_eq_some_iff.mp h).1
    rwa [rangeD_length] at this
  refine ⟨hi, ?_⟩
  simp [rangeD, hi] at h
  exact h.symm

section
variable {mg : MG} {w : World} {A : Around} {env : Env} {h₀ : Base} {ρ : Vars} {ω : Owns}

theorem it_range {s s₁ : Shared} {r : Addr} {a b c : Int} {t u v : Tok} {n : Nat} (hh : A.handled = none) (k : Kp s s₁) (hr : IsRange s₁.heap r a b c t u v) (hsm : Builtin.Range.small a b c = true) (hn : Builtin.Range.rangeSize a b c = (n : Int)) :
    wpAny (model pw w) A (pyIter (.ref r)) (fun it s₂ => Kp s s₂ ∧ IterAt mg w A true s.heap s₂ it (rangeD a c n)) No s₁ := by
  refine wpAny_pyIter_range hr hsm ⟨k.trans (Kp.push _ _), s₁.heap.objs.size, [s₁.heap.objs.size], [s₁.heap.objs.size], _, _, rfl, (by rw [rangeD_length]; exact Walks.range hh _ a c n), ?_, ?_, ?_, ?_, ?_, ?_⟩
  · show IsRangeIter _ _ _ _ _
    rw [hn]
    simpa using Heap.get?_push_size s₁.heap rfl
  · intro b hb; rw [List.mem_singleton.mp hb]; exact ⟨_, Heap.get?_push_size _ rfl⟩
  · intro b hb; exact .inl hb
  · intro b hb; rw [List.mem_singleton.mp hb]; exact none_of k (Heap.get?_none_of_le (Nat.le_refl _))
  · intro i h hI b hb; rw [List.mem_singleton.mp hb]; exact ⟨_, _, hI, rfl⟩
  · rintro i v d ⟨t, rfl⟩ hd
    rw [(rangeD_get hd).2]; exact .int _ _
theorem it_list {s s₁ : Shared} {v : Value} {ds : List PyData} (hh : A.handled = none) (k : Kp s s₁) (i : Is s₁.heap.get? v (.list ds)) :
    wpAny (model pw w) A (pyIter v) (fun it s₂ => Kp s s₂ ∧ IterAt mg w A false s.heap s₂ it ds) No s₁ := by
  obtain ⟨a, vs, n, rfl, e, i⟩ := i.lst_plain
  have hlen : vs.size = ds.length := by simpa using i.length
  have hne : a ≠ s₁.heap.objs.size := Nat.ne_of_lt (Heap.lt_size e)
  have kp := Kp.push s₁ { cls := .type "list_iterator", data := .fields #[.ref a, .int 0 0] }
  refine wpAny_pyIter_list ⟨_, e, rfl, _, rfl⟩ ⟨k.trans kp, s₁.heap.objs.size, [s₁.heap.objs.size, a], [s₁.heap.objs.size], _, _, rfl, (by rw [← hlen]; exact Walks.list hh _ a hne vs), ?_, ?_, ?_, ?_, ?_, ?_⟩
  · exact ⟨⟨_, Heap.get?_push_size _ rfl, rfl, rfl⟩, ⟨_, kp.get _ _ e, rfl, _, rfl⟩⟩
  · intro b hb
    rcases List.mem_cons.mp hb with rfl | hb
    · exact ⟨_, Heap.get?_push_size _ rfl⟩
    · rw [List.mem_singleton.mp hb]; exact ⟨_, kp.get _ _ e⟩
  · intro b hb
    rcases List.mem_cons.mp hb with rfl | hb
    · exact .inl (.head _)
    · rw [List.mem_singleton.mp hb]; exact .inr ⟨rfl, _, _, _, kp.get _ _ e, rfl⟩
  · intro b hb; rw [List.mem_singleton.mp hb]; exact none_of k (Heap.get?_none_of_le (Nat.le_refl _))
  · intro i h hI b hb
    rw [List.mem_singleton.mp hb]
    obtain ⟨⟨o, ho, _, hd⟩, _⟩ := hI
    exact ⟨o, _, ho, hd⟩
  · intro j v d hv hd
    obtain ⟨z, hz, iz⟩ := i.get j d hd
    have : v = z := by
      have h1 : vs.toList[j]? = some v := by simpa using hv
      rw [hz] at h1; exact (Option.some.inj h1).symm
    subst this
    exact iz.mono (get_mono kp.get)
theorem it_tup {s s₁ : Shared} {v : Value} {ds : List PyData} (hh : A.handled = none) (k : Kp s s₁) (i : Is s₁.heap.get? v (.tuple ds)) :
    wpAny (model pw w) A (pyIter v) (fun it s₂ => Kp s s₂ ∧ IterAt mg w A false s.heap s₂ it ds) No s₁ := by
  obtain ⟨a, vs, rfl, ht, i⟩ := i.tup_inv
  obtain ⟨o, e, hc, n, hd⟩ := ht
  have hlen : vs.size = ds.length := by simpa using i.length
  have hne : a ≠ s₁.heap.objs.size := Nat.ne_of_lt (Heap.lt_size e)
  have kp := Kp.push s₁ { cls := .type "tuple_iterator", data := .fields #[.ref a, .int 0 0] }
  refine wpAny_pyIter_tuple ⟨_, e, hc, _, hd⟩ ⟨k.trans kp, s₁.heap.objs.size, [s₁.heap.objs.size, a], [s₁.heap.objs.size], _, _, rfl, (by rw [← hlen]; exact Walks.tuple hh _ a hne vs), ?_, ?_, ?_, ?_, ?_, ?_⟩
  · exact ⟨⟨_, Heap.get?_push_size _ rfl, rfl, rfl⟩, ⟨_, kp.get _ _ e, hc, _, hd⟩⟩
  · intro b hb
    rcases List.mem_cons.mp hb with rfl | hb
    · exact ⟨_, Heap.get?_push_size _ rfl⟩
    · rw [List.mem_singleton.mp hb]; exact ⟨_, kp.get _ _ e⟩
  · intro b hb
    rcases List.mem_cons.mp hb with rfl | hb
    · exact .inl (.head _)
    · rw [List.mem_singleton.mp hb]; exact .inr ⟨rfl, _, _, _, kp.get _ _ e, hd⟩
  · intro b hb; rw [List.mem_singleton.mp hb]; exact none_of k (Heap.get?_none_of_le (Nat.le_refl _))
  · intro i h hI b hb
    rw [List.mem_singleton.mp hb]
    obtain ⟨⟨o, ho, _, hd⟩, _⟩ := hI
    exact ⟨o, _, ho, hd⟩
  · intro j v d hv hd
    obtain ⟨z, hz, iz⟩ := i.get j d hd
    have : v = z := by
      have h1 : vs.toList[j]? = some v := by simpa using hv
      rw [hz] at h1; exact (Option.some.inj h1).symm
    subst this
    exact iz.mono (get_mono kp.get)
theorem evIt_tup {e ds} (hA : Ro A 0) (x : Ev mg w A env h₀ ρ ω e (.tuple ds)) : EvIt mg w A false env h₀ ρ ω e ds := fun s S =>
  wpAny_q (x s S) fun v s₁ ⟨k, i⟩ => it_tup hA.handled k i
theorem evIt_list {e ds} (hA : Ro A 0) (x : Ev mg w A env h₀ ρ ω e (.list ds)) : EvIt mg w A false env h₀ ρ ω e ds := fun s S =>
  wpAny_q (x s S) fun v s₁ ⟨k, i⟩ => it_list hA.handled k i

/-- the judgement of a range's making -/
def EvR (mg : MG) (w : World) (A : Around) (env : Env) (h₀ : Base) (ρ : Vars) (ω : Owns) (e : Expr) (a b c : Int) : Prop :=
  ∀ s, St h₀ env ρ ω s.heap → wpAny (model pw w) A (eval e env) (fun v s' => Kp s s' ∧ ∃ r t u z, v = .ref r ∧ IsRange s'.heap r a b c t u z) No s
theorem evR_of {fn np pos e es ds R} {a b c : Int} (hk : EnvOk env) (W : Wd mg w h₀.h) (hx : env.kindOf fn = some .globalImplicit) (hg : bFree fn = true) (hb : bootBuiltins fn = some (.type "range")) (hn : fn ≠ "__name__")
    (x : EvAll mg w A env h₀ ρ ω pos (e :: es) ds) (t : BTells mg w A (.type "range") ds R) (hR : ∀ h h' v, R h h' v → ∃ r t u z, v = .ref r ∧ IsRange h' r a b c t u z)
    (he : starEach (e :: es) env = (false, eval e env) :: starEach es env := by rfl) (hplain : (backTo pos (starEach es env)).any (·.1) = false := by rfl)
    (hdb : (fn == ("__debug__" : Str)) = false := by decide) : EvR mg w A env h₀ ρ ω (.Call (.Name fn np) (e :: es) [] pos) a b c := fun s S =>
  wpAny_q (ev_builtin hk W hx hg hb hn rfl x t he hplain hdb s S) fun v s' ⟨k, s₁, _, _, r⟩ => ⟨k, hR _ _ _ r⟩
theorem b_range1 {n : Int} : BTells mg w A (.type "range") [.int n] (fun _ h' v => ∃ r t u z, v = .ref r ∧ IsRange h' r 0 n 1 t u z) := fun s vs i => by
  obtain ⟨t, rfl⟩ := i.int1
  exact call_range_1 ⟨(Kp.push s _).trans (Kp.tok { s with heap := s.heap.push _ } _), _, _, _, _, rfl, Heap.get?_push_size _ rfl⟩
theorem b_range2 {m n : Int} : BTells mg w A (.type "range") [.int m, .int n] (fun _ h' v => ∃ r t u z, v = .ref r ∧ IsRange h' r m n 1 t u z) := fun s vs i => by
  obtain ⟨t, u, rfl⟩ := i.int2
  exact call_range_2 ⟨(Kp.push s _).trans (Kp.tok { s with heap := s.heap.push _ } _), _, _, _, _, rfl, Heap.get?_push_size _ rfl⟩
theorem b_range3 {m n c : Int} (hc : c ≠ 0) (hs : c.natAbs < 2 ^ 9000) : BTells mg w A (.type "range") [.int m, .int n, .int c] (fun _ h' v => ∃ r t u z, v = .ref r ∧ IsRange h' r m n c t u z) := fun s vs i => by
  cases i with
  | cons h1 h2 =>
    obtain ⟨t, rfl⟩ := h1.int_inv
    obtain ⟨u, z, rfl⟩ := h2.int2
    exact call_range_3 hc ⟨Kp.push s _, _, _, _, _, rfl, Heap.get?_push_size _ rfl⟩ (.inl (noPy hs))
theorem evIt_range {e} {a b : Int} {n : Nat} (hA : Ro A 0) (x : EvR mg w A env h₀ ρ ω e a b 1) (hn : n = (b - a).toNat) (ha : -1000 ≤ a) (ha' : a ≤ 1000) (hb : -1000 ≤ b) (hb' : b ≤ 1000) : EvIt mg w A true env h₀ ρ ω e (rangeD a 1 n) := fun s S =>
  wpAny_q (x s S) fun v s₁ ⟨k, r, t, u, z, e, hr⟩ => by
    subst e
    refine it_range hA.handled k hr (small_one (by lia) (by lia) (by lia) (by lia)) ?_
    rw [rangeSize_one]
    split <;> lia
theorem evIt_down {e} {a b : Int} {n : Nat} (hA : Ro A 0) (x : EvR mg w A env h₀ ρ ω e a b (-1)) (hn : n = (a - b).toNat) (ha : -1000 ≤ a) (ha' : a ≤ 1000) (hb : -1000 ≤ b) (hb' : b ≤ 1000) : EvIt mg w A true env h₀ ρ ω e (rangeD a (-1) n) := fun s S =>
  wpAny_q (x s S) fun v s₁ ⟨k, r, t, u, z, e, hr⟩ => by
    subst e
    refine it_range hA.handled k hr (small_down (by lia) (by lia) (by lia) (by lia)) ?_
    rw [rangeSize_downNat, hn]

/-! a comprehension over one name -/
/-- a comprehension's own list and frame stand apart from all that was -/
structure CompB (h h₂ H2 H : Heap) (fp wr : List Addr) : Prop where
  ne : h₂.objs.size ≠ H2.objs.size
  below : ∀ b o, h₂.get? b = some o → b ≠ H2.objs.size ∧ b ≠ h₂.objs.size
  old : ∀ b o, h₂.get? b = some o → H.get? b = some o
  acc : H.PlainList h₂.objs.size #[]
  Df : h₂.objs.size ∉ fp
  Cf : H2.objs.size ∉ fp
  Dw : h₂.objs.size ∉ wr
  Cw : H2.objs.size ∉ wr
  Ds : h.get? h₂.objs.size = none
  Cs : h.get? H2.objs.size = none
  oldS : ∀ b o, h.get? b = some o → b ≠ H2.objs.size ∧ b ≠ h₂.objs.size ∧ b ∉ wr ∧ h₂.get? b = some o
theorem backNone {h h' : Heap} {a : Addr} (k : ∀ b o, h.get? b = some o → h'.get? b = some o) (n : h'.get? a = none) : h.get? a = none := by
  cases q : h.get? a with
  | none => rfl
  | some o => rw [k _ _ q] at n; cases n
theorem compB {h h₂ H2 H : Heap} {fp wr : List Addr} {O : Obj} (k : ∀ b o, h.get? b = some o → h₂.get? b = some o) (hfp : ∀ b ∈ fp, ∃ o, h₂.get? b = some o) (hwr : ∀ b ∈ wr, h.get? b = none) (sub : ∀ b, b ∈ wr → b ∈ fp)
    (e : h₂.push { cls := .type "list", dict := none, data := .seq ([] : List Value).toArray } = H2) (ext : ∀ b o, b ≠ H2.objs.size → (H2.push O).get? b = some o → H.get? b = some o) : CompB h h₂ H2 H fp wr := by
  have hC : H2.objs.size = h₂.objs.size + 1 := by rw [← e, Heap.size_push]
  have ne : h₂.objs.size ≠ H2.objs.size := by rw [hC]; exact Nat.ne_of_lt (Nat.lt_succ_self _)
  have below : ∀ b o, h₂.get? b = some o → b ≠ H2.objs.size ∧ b ≠ h₂.objs.size := fun b o e => by
    have := Heap.lt_size e
    exact ⟨by rw [hC]; exact Nat.ne_of_lt (Nat.lt_succ_of_lt this), Nat.ne_of_lt this⟩
  have Df : h₂.objs.size ∉ fp := fun hm => (hfp _ hm).elim fun o e => (below _ o e).2 rfl
  have Cf : H2.objs.size ∉ fp := fun hm => (hfp _ hm).elim fun o e => (below _ o e).1 rfl
  have Ds : h.get? h₂.objs.size = none := backNone k (Heap.get?_none_of_le (Nat.le_refl _))
  have Cs : h.get? H2.objs.size = none := backNone k (Heap.get?_none_of_le (by rw [hC]; exact Nat.le_succ _))
  exact ⟨ne, below, fun b o q => ext b o (below b o q).1 (Heap.get?_push_of_some _ (e ▸ Heap.get?_push_of_some _ q)), ⟨_, ext _ _ ne (Heap.get?_push_of_some _ (e ▸ Heap.get?_push_size _ rfl))⟩, Df, Cf, fun q => Df (sub _ q), fun q => Cf (sub _ q), Ds, Cs,
    fun b o q => ⟨fun z => by (rw [z, Cs] at q; cases q), fun z => by (rw [z, Ds] at q; cases q), fun z => by (rw [hwr b z] at q; cases q), k _ _ q⟩⟩
theorem comp_St {scope : Scope} {cl : List (Str × Addr)} {C : Addr} {ρc news : Vars} {m : Str → Option Value} {h h₄ : Heap} (S : St h₀ env ρ ω h) (Cs : h.get? C = none) (hn : h₄.Ns C m) (kS : ∀ b o, h.get? b = some o → h₄.get? b = some o)
    (hcl : ∀ x c, cl.lookup x = some c → ∃ y, env.cells.lookup y = some c)
    (hρ : ∀ p ∈ ρc, p ∈ ρ ∧ env.kindOf p.1 = some .cell ∧ cl.lookup p.1 = env.cells.lookup p.1 ∧ (relabel scope env).names.lookup p.1 = some .cell)
    (hv : ∀ y d, (y, d) ∈ news → ∃ v, Val (compEnvC scope cl C env) h₄ y v ∧ Is h₄.get? v d) : St (Base.at h) (compEnvC scope cl C env) (news ++ ρc) [] h₄ := by
  have op : ∀ {v d}, Is h₄.get? v d → Is (hid h₄ (Owns.at [])) v d := fun i => i.mono fun b o _ _ e _ => hid_of e (by simp [Owns.at])
  refine ⟨⟨_, hn⟩, kS, Cs, fun y c hm => ?_, fun y dy hm => ?_, (fun x ds l hm => by simp at hm), List.nodup_nil, fun a e => backNone kS e⟩
  · obtain ⟨z, hz⟩ := hcl y c hm
    obtain ⟨u, hu⟩ := S.cells z c hz
    exact ⟨u, hu.keeps kS⟩
  · rcases List.mem_append.mp hm with q | q
    · exact (hv y dy q).imp fun v => .imp id op
    · obtain ⟨a1, a2, a3, a4⟩ := hρ _ q
      obtain ⟨u, hu, iu⟩ := S.vars y dy a1
      rcases hu with ⟨b1, _⟩ | ⟨b1, c, b2, b3⟩
      · rw [a2] at b1; cases b1
      · exact ⟨u, .inr ⟨a4, c, a3.trans b2, b3.keeps kS⟩, op (iu.full.mono (get_mono kS))⟩
theorem comp_new {h₅ h₆ : Heap} {C D : Addr} {wr : List Addr} {m : Str → Option Value} {vs : Array Value} {y : Value} {r : PyData} (i : Is h₅.get? y r) (fr : flat r = true) (hC : h₅.Ns C m) (hD : h₅.PlainList D vs) (hw : ∀ b ∈ wr, ∃ o zs, h₅.get? b = some o ∧ o.data = .fields zs)
    (k : ∀ b o, b ≠ D → h₅.get? b = some o → h₆.get? b = some o) : Is (hid h₆ (C :: D :: wr)) y r :=
  i.flatMono (fun b o zs n e hc hq => by
    have hb : b ∉ C :: D :: wr := fun hm => by
      rcases List.mem_cons.mp hm with rfl | hm
      · obtain ⟨oo, es, ep, hh, hh2, _⟩ := hC
        rw [e] at hh; cases hh; rw [hq] at hh2; cases hh2
      · rcases List.mem_cons.mp hm with rfl | hm
        · obtain ⟨nn, hh⟩ := hD
          rw [e] at hh; cases hh; simp at hc
        · obtain ⟨o', zs', e', q'⟩ := hw b hm
          rw [e] at e'; cases e'; rw [hq] at q'; cases q'
    exact hid_of (k b o (fun q => hb (q ▸ .tail _ (.head _))) e) hb) fr
theorem comp_up {h' h₆ : Heap} {C D : Addr} {wr : List Addr} {vs : List Value} {rs : List PyData} (i : IsAll (hid h' (C :: D :: wr)) vs rs) (k : ∀ b o, b ≠ C → b ≠ D → b ∉ wr → h'.get? b = some o → h₆.get? b = some o) : IsAll (hid h₆ (C :: D :: wr)) vs rs :=
  i.mono fun b o zs n e hq => by
    have hb := hid_not e
    have hb' := hb
    rw [List.mem_cons, List.mem_cons, not_or, not_or] at hb'
    exact hid_of (k b o hb'.1 hb'.2.1 hb'.2.2 (hid_le e)) hb
theorem evN_comp {own : Bool} {elt iter : Expr} {x : Str} {px : Pos} {scope : Scope} {pos : Pos} {ds rs : List PyData} {cl : List (Str × Addr)} {ρc : Vars}
    (hcell : ∀ y ∈ scope.names, y.2 ≠ .cell) (hkind : scope.kind = .function)
    (hnames : ∀ y ∈ scope.names, y.2 = .local → scope.names.lookup y.1 = some .local) (hx : scope.names.lookup x = some .local)
    (hclos : closureFor scope env = pure cl) (hcl : ∀ x c, cl.lookup x = some c → ∃ y, env.cells.lookup y = some c)
    (hi : EvIt mg w A own env h₀ ρ ω iter ds)
    (hρ : ∀ p ∈ ρc, p ∈ ρ ∧ env.kindOf p.1 = some .cell ∧ cl.lookup p.1 = env.cells.lookup p.1 ∧ (relabel scope env).names.lookup p.1 = some .cell)
    (hlen : rs.length = ds.length) (hfl : rs.all flat = true) (hz : ds.length ≤ sizeLine)
    (he : ∀ h₁ C (i : Nat) d r, (∀ a o, h₀.h.get? a = some o → h₁.h.get? a = some o) → ds[i]? = some d → rs[i]? = some r → Ev mg w A (compEnvC scope cl C env) h₁ ((x, d) :: ρc) [] elt r)
    (hs : ∀ x, foldedSetIterable iter env x = pure x := by intro _; rfl) :
    EvN mg w A env h₀ ρ ω (.ListComp elt [⟨.Name x px, iter, [], 0⟩] scope pos) rs := fun s S => by
  rw [eval_ListComp]
  refine wpAny_comprehension_free (use := none) rfl hs hclos hkind hnames (wpAny_q (hi s S) fun xv s₁ h₁ => wpAny_q h₁ fun it s₂ h₂ => ?_)
  obtain ⟨k₂, I, fp, wr, P, Stt, rfl, Wk, hst, hfp, hown, hwr, hfld, hP⟩ := h₂
  have S₂ := S.keeps k₂.get
  refine wpAny_newObj_type (wpAny_newFunctionEnv hcell (by intro y hy; simp at hy) (fun H hns hsb => ?_) hkind)
  dsimp only at hns hsb ⊢
  generalize hH2 : s₂.heap.push { cls := .type "list", dict := none, data := .seq ([] : List Value).toArray } = H2 at hns hsb ⊢
  have Z := compB k₂.get hfp hwr (fun _ => Wk.sub _) hH2 fun b o => hsb.extBut b o
  have hx' : (compEnvC scope cl H2.objs.size env).kindOf x = some .local := lookup_relabel_local hx
  have loop : ∀ s₃ : Shared, s₃ = { s₂ with heap := H, toks := s₂.toks + ([] : List (Str × Value)).length } →
      codeAny (model pw w) A (.compLoop (.ListComp elt [⟨.Name x px, iter, [], 0⟩] scope pos) 0 (.ref I) (.ref s₂.heap.objs.size) (compEnvC scope cl H2.objs.size env))
        (compPost (model pw w) A No none (fun v s' => Kp s s' ∧ NewL s.heap s'.heap v rs) (.ref s₂.heap.objs.size) H2.objs.size) s₃ := by
    rintro s₃ rfl
    refine codeAny_compLoop_tests
      (fun j s' => ∃ i h' tk m vs, s' = { s₂ with heap := h', toks := tk } ∧ j = ds.length + 1 - i ∧ i ≤ ds.length ∧ Stt i h' ∧ h'.PlainList s₂.heap.objs.size vs ∧ vs.size = i ∧ IsAll (hid h' (H2.objs.size :: s₂.heap.objs.size :: wr)) vs.toList (rs.take i) ∧ h'.Ns H2.objs.size m ∧
        (∀ b o, b ∉ wr → s₂.heap.get? b = some o → h'.get? b = some o)) ?_ (ds.length + 1)
      ⟨0, H, _, _, #[], rfl, rfl, Nat.zero_le _, Wk.frame _ _ _ hst (fun b _ o e => Z.old b o e), Z.acc, rfl, by simpa using IsAll.nil, hns, fun b o _ e => Z.old b o e⟩
    rintro j s' ⟨i, h', tk, m, vs, rfl, rfl, hi', hst', hpl, hvs, hia, hn, hk⟩
    by_cases hlt : i < ds.length
    · refine Wk.item i _ _ _ hlt hst' fun v h₃ tk₃ hPv hst₃ hk₃ => ?_
      obtain ⟨d, hd⟩ : ∃ d, ds[i]? = some d := ⟨ds[i], by simp [hlt]⟩
      obtain ⟨r, hr⟩ : ∃ r, rs[i]? = some r := ⟨rs[i]'(by lia), by simp [hlen, hlt]⟩
      refine wpAny_assign_Name (wpAny_storeName_local hx' (hn.at' fun o e => hk₃ _ o Z.Cw e) (fun h₄ hn₄ hs₄ => ?_) (by simp [compEnvC, relabel, hkind]))
      have hs₄ : Heap.SameBut H2.objs.size h₃ h₄ := hs₄
      have hn₄ : h₄.Ns H2.objs.size _ := hn₄
      refine wpAny_tests_nil ?_
      simp only [if_true]
      have k24 : ∀ b o, b ∉ wr → s₂.heap.get? b = some o → h₄.get? b = some o := fun b o hb e => hs₄.extBut b o (Z.below b o e).1 (hk₃ b o hb (hk b o hb e))
      have kS : ∀ b o, s.heap.get? b = some o → h₄.get? b = some o := fun b o e => let ⟨_, _, a, b'⟩ := Z.oldS b o e; k24 b o a b'
      have hpl₄ : h₄.PlainList s₂.heap.objs.size vs := (hpl.at fun o e => hk₃ _ o Z.Dw e).extBut hs₄.extBut Z.ne
      have iv : Is h₄.get? v d := (hP i v d hPv hd).mono fun b o zs n e hq => k24 b o (fun hm => by
        obtain ⟨o', zs', e', q'⟩ := hfld _ _ hst b hm
        rw [e] at e'; cases e'; rw [hq] at q'; cases q') e
      have St₄ : St (Base.at s.heap) (compEnvC scope cl H2.objs.size env) ([(x, d)] ++ ρc) [] h₄ := comp_St S Z.Cs hn₄ kS hcl hρ fun y dy q => by
        cases List.mem_singleton.mp q
        exact ⟨v, .inl ⟨hx', _, hn₄, by simp⟩, iv⟩
      refine wpAny_q (he (Base.at s.heap) H2.objs.size i d r S.keep hd hr _ St₄) fun y s₅ ⟨k₅, i₅⟩ => ?_
      obtain ⟨h₅, tk₅, rfl, k₅⟩ := k₅
      refine wpAny_list_append_plain (hpl₄.at fun o e => k₅ _ o e) (fun h₆ hl₆ hs₆ => ?_) (by lia)
      refine ⟨ds.length + 1 - (i + 1), by lia, i + 1, h₆, tk₅, _, vs.push y, rfl, rfl, hlt, ?_, hl₆, by simp [hvs], ?_, (hn₄.keeps k₅).sameBut hs₆ (Ne.symm Z.ne), ?_⟩
      · refine Wk.frame _ _ _ hst₃ fun b hb o e => hs₆.extBut b o (fun q => Z.Df (q ▸ hb)) (k₅ b o (hs₄.extBut b o (fun q => Z.Cf (q ▸ hb)) e))
      · have up := comp_up (h₆ := h₆) hia fun b o hC hD hw e => hs₆.extBut b o hD (k₅ b o (hs₄.extBut b o hC (hk₃ b o hw e)))
        have iy := comp_new (h₆ := h₆) i₅ (List.all_eq_true.mp hfl r (List.mem_of_getElem? hr)) (hn₄.keeps k₅) (hpl₄.at fun o e => k₅ _ o e) (hfld _ _ (Wk.frame _ _ _ hst₃ fun b hb o e => k₅ b o (hs₄.extBut b o (fun q => Z.Cf (q ▸ hb)) e))) hs₆.extBut
        rw [List.take_add_one, hr]
        simpa using up.append (.cons iy .nil)
      · intro b o hb e
        exact hs₆.extBut b o (Z.below b o e).2 (k₅ b o (k24 b o hb e))
    · have hin : i = ds.length := by lia
      subst hin
      refine Wk.done _ _ _ hst' fun h₃ tk₃ hk₃ => ?_
      refine ⟨m, hn.at' fun o e => hk₃ _ o Z.Cw e, fun h₄ hs₄ => ?_⟩
      have kS : ∀ b o, s.heap.get? b = some o → h₄.get? b = some o := fun b o e => let ⟨a0, _, a, b'⟩ := Z.oldS b o e; hs₄.extBut b o a0 (hk₃ b o a (hk b o a b'))
      refine ⟨?_, s₂.heap.objs.size, vs, rfl, Z.Ds, (hpl.at fun o e => hk₃ _ o Z.Dw e).extBut hs₄.extBut Z.ne, ?_⟩
      · obtain ⟨hh, tt, rfl, _⟩ := k₂
        exact ⟨h₄, tk₃, rfl, kS⟩
      · rw [List.take_of_length_le (by lia)] at hia
        exact hia.mono fun b o zs n e hq => by
          have hb := hid_not e
          simp only [List.mem_cons, not_or] at hb
          exact hs₄.extBut b o hb.1 (hk₃ b o hb.2.2 (hid_le e))
  exact codeAny_compStart_list (loop _ rfl) (Wk.self 0 _ _ _ (Wk.frame _ _ _ hst fun b _ o e => Z.old b o e) (loop _ rfl))
end
end
end Mine
end
section
open PySem PySem.W PyProof.Rows PySem.Calls PySem.SeqAt
set_option maxRecDepth 100000
set_option linter.unusedVariables false
namespace Mine
noncomputable section

def mov (env : Env) (ls : List Addr) (a : Addr) : Prop := a = env.locals ∨ (∃ x, env.cells.lookup x = some a) ∨ a ∈ ls
/-- only what may be moved is moved -/
def Mv (env : Env) (ls : List Addr) (s s' : Shared) : Prop := ∃ h' tk, s' = { s with heap := h', toks := tk } ∧ ∀ a o, ¬ mov env ls a → s.heap.get? a = some o → h'.get? a = some o
theorem Mv.refl {env ls} (s : Shared) : Mv env ls s s := ⟨s.heap, s.toks, rfl, fun _ _ _ e => e⟩
theorem Mv.of_kp {env ls} {s s' : Shared} (k : Kp s s') : Mv env ls s s' := let ⟨h, t, e, k⟩ := k; ⟨h, t, e, fun a o _ => k a o⟩
theorem Mv.trans {env ls ls'} {s s₁ s' : Shared} (x : Mv env ls s s₁) (y : Mv env ls' s₁ s') (h : ∀ l ∈ ls', l ∈ ls ∨ s.heap.get? l = none) : Mv env ls s s' := by
  obtain ⟨h₁, t₁, rfl, k₁⟩ := x
  obtain ⟨h₂, t₂, rfl, k₂⟩ := y
  refine ⟨h₂, t₂, rfl, fun a o n e => k₂ a o ?_ (k₁ a o n e)⟩
  rintro (q | q | q)
  · exact n (.inl q)
  · exact n (.inr (.inl q))
  · rcases h a q with q | q
    · exact n (.inr (.inr q))
    · rw [q] at e; cases e
theorem Kp.mv {env ls} {s s₁ s' : Shared} (k : Kp s s₁) (x : Mv env ls s₁ s') : Mv env ls s s' := by
  obtain ⟨h₁, t₁, rfl, k₁⟩ := k
  obtain ⟨h₂, t₂, rfl, k₂⟩ := x
  exact ⟨h₂, t₂, rfl, fun a o n e => k₂ a o n (k₁ a o e)⟩
theorem Mv.kp {env ls} {s s₁ s' : Shared} (x : Mv env ls s s₁) (k : Kp s₁ s') : Mv env ls s s' := by
  obtain ⟨h₁, t₁, rfl, k₁⟩ := x
  obtain ⟨h₂, t₂, rfl, k₂⟩ := k
  exact ⟨h₂, t₂, rfl, fun a o n e => k₂ a o (k₁ a o n e)⟩

section
variable {mg : MG} {w : World} {A : Around} {env : Env} {h₀ : Base} {ρ : Vars} {ω : Owns}

/-- the statements, from a frame on, end so -/
def Ex (mg : MG) (w : World) (A : Around) (env : Env) (h₀ : Base) (ρ : Vars) (ω : Owns) (b : List Stmt) (P : Flow → Heap → Prop) : Prop :=
  ∀ s, St h₀ env ρ ω s.heap → wpAny (model pw w) A (execs b env) (fun f s' => Mv env ω.at s s' ∧ P f s'.heap) No s

theorem ex_nil {P : Flow → Heap → Prop} (h : ∀ h, St h₀ env ρ ω h → P .next h) : Ex mg w A env h₀ ρ ω [] P := fun s S => wpAny_execs_nil ⟨Mv.refl _, h _ S⟩
theorem Ex.mono {b P P'} (x : Ex mg w A env h₀ ρ ω b P) (h : ∀ f h, P f h → P' f h) : Ex mg w A env h₀ ρ ω b P' := fun s S => wpAny_q (x s S) fun f s' ⟨a, p⟩ => ⟨a, h _ _ p⟩
theorem St.weak {h : Heap} {ρ' : Vars} (S : St h₀ env ρ ω h) (k : ∀ p ∈ ρ', p ∈ ρ) : St h₀ env ρ' ω h := ⟨S.ns, S.keep, S.fresh, S.cells, fun x d hm => S.vars x d (k _ hm), S.owns, S.apart, S.wide⟩
theorem Ex.weak {b P} {ρ' : Vars} (x : Ex mg w A env h₀ ρ' ω b P) (k : ∀ p ∈ ρ', p ∈ ρ) : Ex mg w A env h₀ ρ ω b P := fun s S => x s (S.weak k)

theorem St.notOld {h : Heap} {l : Addr} (S : St h₀ env ρ ω h) (hn : h.get? l = none) : h₀.N l := S.wide l hn
theorem wide_of {h h' : Heap} {L : Addr} (S : St h₀ env ρ ω h) (hs : ∀ a, a ≠ L → h'.get? a = h.get? a) (hL : ∃ o, h'.get? L = some o) : ∀ a, h'.get? a = none → h₀.N a := fun a e => by
  by_cases q : a = L
  · obtain ⟨o, e'⟩ := hL
    rw [q, e'] at e; cases e
  · exact S.wide a ((hs a q).symm.trans e)
theorem ex_ret {e pos rest d} {P : Flow → Heap → Prop} (x : Ev mg w A env h₀ ρ ω e d) (h : ∀ h v, St h₀ env ρ ω h → Is h.get? v d → P (.ret v) h) : Ex mg w A env h₀ ρ ω (.Return (some e) pos :: rest) P := fun s S =>
  wpAny_execs_cons (wpAny_Return_some (wpAny_q (x s S) fun v s' ⟨k, i⟩ => ⟨Mv.of_kp k, h _ v (S.keeps k.get) i⟩))
theorem ex_retN {e pos rest ds} {P : Flow → Heap → Prop} (x : EvN mg w A env h₀ ρ ω e ds) (h : ∀ h v, St h₀ env ρ ω h → NewL h₀.h h v ds → P (.ret v) h) : Ex mg w A env h₀ ρ ω (.Return (some e) pos :: rest) P := fun s S =>
  wpAny_execs_cons (wpAny_Return_some (wpAny_q (x s S) fun v s' ⟨k, l, vs, e, hn, r⟩ => ⟨Mv.of_kp k, h _ v (S.keeps k.get) ⟨l, vs, e, h₀.ok _ (S.notOld hn), r⟩⟩))
theorem ex_ret_own {x np pos rest ds l} {P : Flow → Heap → Prop} (hk : EnvOk env) (hm : (x, ds, l) ∈ ω) (h : ∀ h v, St h₀ env ρ ω h → NewL h₀.h h v ds → P (.ret v) h) (hdb : (x == ("__debug__" : Str)) = false := by decide) :
    Ex mg w A env h₀ ρ ω (.Return (some (.Name x np)) pos :: rest) P := fun s S =>
  wpAny_execs_cons (wpAny_Return_some (by
    obtain ⟨V, ⟨vs, e, i⟩, _, hn⟩ := S.owns x ds l hm
    exact load_val hk.kind V ⟨Mv.refl _, h _ _ S ⟨l, vs, rfl, h₀.ok _ hn, e, i⟩⟩ hdb))

/-! stores -/
def del (x : Str) (ρ : Vars) : Vars := ρ.filter fun p => !(p.1 == x)
theorem mem_del {x : Str} {ρ : Vars} {p : Str × PyData} : p ∈ del x ρ ↔ p ∈ ρ ∧ p.1 ≠ x := by simp [del]
theorem notLocals {h : Heap} {L : Addr} {m a o} (n : h.Ns L m) (e : h.get? a = some o) (k : (∃ vs n, o.data = .seq vs n) ∨ (∃ v, o.data = .cell v)) : a ≠ L := by
  rintro rfl
  obtain ⟨o', es, ep, e', d, _⟩ := n
  rw [e] at e'; cases e'
  rcases k with ⟨_, _, q⟩ | ⟨_, q⟩ <;> rw [d] at q <;> cases q

/-- a store into a name, the frame behind it -/
theorem St.store {h h' : Heap} {x : Str} {v : Value} {d : PyData} {m : Str → Option Value} (S : St h₀ env ρ ω h) (hn : h.Ns env.locals m) (hx : env.kindOf x = some .local) (hn' : h'.Ns env.locals (fun y => if y = x then some v else m y))
    (hs : Heap.SameBut env.locals h h') (i : Is (hid h ω.at) v d) (ho : ∀ ds l, (x, ds, l) ∉ ω) : St h₀ env ((x, d) :: del x ρ) ω h' := by
  have nsu : ∀ {m'}, h.Ns env.locals m' → ∀ y, m' y = m y := fun {m'} q y => by
    obtain ⟨o, es, ep, e, dd, _, f⟩ := hn
    obtain ⟨o', es', ep', e', dd', _, f'⟩ := q
    rw [e] at e'; cases e'; rw [dd] at dd'; cases dd'
    rw [← f, ← f']
  have mono : SeqMono (hid h ω.at) (hid h' ω.at) := fun a o vs n e q => hid_of ((hs.2 a (notLocals hn (hid_le e) (.inl ⟨_, _, q⟩))).trans (hid_le e)) (hid_not e)
  have val : ∀ y u, y ≠ x → Val env h y u → Val env h' y u := fun y u hy V => by
    rcases V with ⟨a, m', b, c⟩ | ⟨a, c, b, o, e, dd⟩
    · exact .inl ⟨a, _, hn', by simp only [if_neg hy]; rw [← nsu b]; exact c⟩
    · exact .inr ⟨a, c, b, o, (hs.2 _ (notLocals hn e (.inr ⟨_, dd⟩))).trans e, dd⟩
  refine ⟨⟨_, hn'⟩, fun a o e => (hs.2 a fun q => by rw [q, S.fresh] at e; cases e).trans (S.keep a o e), S.fresh, fun y c hm => ?_, fun y dy hm => ?_, fun y ds l hm => ?_, S.apart, wide_of S hs.2 ⟨_, hn'.choose_spec.choose_spec.choose_spec.1⟩⟩
  · obtain ⟨u, o, e, dd⟩ := S.cells y c hm
    exact ⟨u, o, (hs.2 _ (notLocals hn e (.inr ⟨_, dd⟩))).trans e, dd⟩
  · rcases List.mem_cons.mp hm with q | q
    · cases q
      exact ⟨v, .inl ⟨hx, _, hn', by simp⟩, i.mono mono⟩
    · obtain ⟨q1, q2⟩ := mem_del.mp q
      obtain ⟨u, V, iu⟩ := S.vars y dy q1
      exact ⟨u, val y u q2 V, iu.mono mono⟩
  · obtain ⟨V, ⟨vs, ⟨n, e⟩, iu⟩, hf, hf'⟩ := S.owns y ds l hm
    exact ⟨val y _ (fun q => ho ds l (q ▸ hm)) V, ⟨vs, ⟨n, (hs.2 _ (notLocals hn e (.inl ⟨_, _, rfl⟩))).trans e⟩, iu.flatMono (fun a o us k q c z => (hs.2 a (notLocals hn q (.inl ⟨_, _, z⟩))).trans q) hf⟩, hf, hf'⟩

theorem store_plain {env : Env} (hk : EnvOk env) : (env.scope.kind == .class || (env.scope.kind == .module && env.locals != env.globals)) = false := by rw [hk.kind]; rfl

theorem wp_store {x : Str} {v : Value} {d : PyData} {s : Shared} {Q : Unit → Shared → Prop} (hk : EnvOk env) (hx : env.kindOf x = some .local) (ho : ∀ ds l, (x, ds, l) ∉ ω) (S : St h₀ env ρ ω s.heap) (i : Is (hid s.heap ω.at) v d)
    (h : ∀ s', Mv env ω.at s s' → St h₀ env ((x, d) :: del x ρ) ω s'.heap → Q () s') : wpAny (model pw w) A (storeName env x v) Q No s := by
  obtain ⟨m, hn⟩ := S.ns
  refine wpAny_storeName_local hx hn (fun h' hn' hs => ?_) (store_plain hk)
  exact h _ ⟨h', _, rfl, fun a o n e => (hs.2 a fun q => n (.inl q)).trans e⟩ (S.store hn hx hn' hs i ho)

theorem ex_assign' {x np e pos rest d} {P : Flow → Heap → Prop} (hk : EnvOk env) (hx : env.kindOf x = some .local) (ho : ∀ ds l, (x, ds, l) ∉ ω)
    (q : ∀ s, St h₀ env ρ ω s.heap → wpAny (model pw w) A (eval e env) (fun v s' => Kp s s' ∧ Is (hid s'.heap ω.at) v d) No s)
    (r : Ex mg w A env h₀ ((x, d) :: del x ρ) ω rest P)
    (hs : swapsWith e (some (.Name x np)) pos.line env = pure false := by rfl) : Ex mg w A env h₀ ρ ω (.Assign [.Name x np] e pos :: rest) P := fun s S =>
  wpAny_execs_cons (wpAny_Assign_Name (wpAny_q (q s S) fun v s₁ ⟨k, i⟩ => wp_store hk hx ho (S.keeps k.get) i fun s₂ m₂ S₂ =>
    wpAny_q (r s₂ S₂) fun f s₃ ⟨m₃, p⟩ => ⟨k.mv (m₂.trans m₃ fun l hl => .inl hl), p⟩) hs)
theorem ex_assign0 {x np e pos rest d} {P : Flow → Heap → Prop} (hk : EnvOk env) (hx : env.kindOf x = some .local) (q : Ev mg w A env h₀ ρ [] e d)
    (r : Ex mg w A env h₀ ((x, d) :: del x ρ) [] rest P)
    (hs : swapsWith e (some (.Name x np)) pos.line env = pure false := by rfl) : Ex mg w A env h₀ ρ [] (.Assign [.Name x np] e pos :: rest) P :=
  ex_assign' hk hx (fun _ _ h => nomatch h) (fun s S => wpAny_q (q s S) fun v s' ⟨k, i⟩ => ⟨k, i.mono fun a o _ _ e _ => hid_of e (by simp [Owns.at])⟩) r hs
theorem NewL.hid {s : Shared} {s' : Shared} {v : Value} {ds : List PyData} (S : St h₀ env ρ ω s.heap) (k : Kp s s') (x : NewL s.heap s'.heap v ds) (hf : ds.all flat = true) : Is (Mine.hid s'.heap ω.at) v (.list ds) := by
  obtain ⟨l, vs, rfl, hn, ⟨n, e⟩, i⟩ := x
  refine .lst (hid_of e fun hm => ?_) (i.flats (S.keeps k.get).lists hf)
  obtain ⟨o, e', _⟩ := S.lists l hm
  rw [hn] at e'; cases e'
/-! lists that are the frame's own -/
def delO (x : Str) (ω : Owns) : Owns := ω.filter fun p => !(p.1 == x)
theorem mem_delO {x : Str} {ω : Owns} {p} : p ∈ delO x ω ↔ p ∈ ω ∧ p.1 ≠ x := by simp [delO]
theorem delO_at {x : Str} {ω : Owns} {l : Addr} (h : l ∈ (delO x ω).at) : l ∈ ω.at := by
  obtain ⟨p, hp, rfl⟩ := List.mem_map.mp h
  exact List.mem_map.mpr ⟨p, (mem_delO.mp hp).1, rfl⟩

theorem St.own {h h' : Heap} {x : Str} {l : Addr} {vs : Array Value} {ds : List PyData} {m : Str → Option Value} (S : St h₀ env ρ ω h) (hn : h.Ns env.locals m) (hx : env.kindOf x = some .local) (hn' : h'.Ns env.locals (fun y => if y = x then some (.ref l) else m y))
    (hs : Heap.SameBut env.locals h h') (hl : h₀.N l) (hw : l ∉ ω.at) (e : h.PlainList l vs) (i : IsAll h.get? vs.toList ds) (hf : ds.all flat = true)
    (old : ∀ y dy, (y, dy) ∈ ρ → ∃ v, Val env h y v ∧ Is (hid h (l :: ω.at)) v dy) : St h₀ env (del x ρ) ((x, ds, l) :: delO x ω) h' := by
  have nsu : ∀ {m'}, h.Ns env.locals m' → ∀ y, m' y = m y := fun {m'} q y => by
    obtain ⟨o, es, ep, e, dd, _, f⟩ := hn
    obtain ⟨o', es', ep', e', dd', _, f'⟩ := q
    rw [e] at e'; cases e'; rw [dd] at dd'; cases dd'
    rw [← f, ← f']
  have val : ∀ y u, y ≠ x → Val env h y u → Val env h' y u := fun y u hy V => by
    rcases V with ⟨a, m', b, c⟩ | ⟨a, c, b, o, e, dd⟩
    · exact .inl ⟨a, _, hn', by simp only [if_neg hy]; rw [← nsu b]; exact c⟩
    · exact .inr ⟨a, c, b, o, (hs.2 _ (notLocals hn e (.inr ⟨_, dd⟩))).trans e, dd⟩
  have sub : ∀ a, a ∈ Owns.at ((x, ds, l) :: delO x ω) → a ∈ l :: ω.at := fun a ha => by
    rcases List.mem_cons.mp ha with q | q
    · exact q ▸ .head _
    · exact .tail _ (delO_at q)
  have mono : SeqMono (hid h (l :: ω.at)) (hid h' (Owns.at ((x, ds, l) :: delO x ω))) := fun a o vs n e q =>
    hid_of ((hs.2 a (notLocals hn (hid_le e) (.inl ⟨_, _, q⟩))).trans (hid_le e)) fun ha => hid_not e (sub a ha)
  have fm : FlatMono h.get? h'.get? := fun a o us k q c z => (hs.2 a (notLocals hn q (.inl ⟨_, _, z⟩))).trans q
  refine ⟨⟨_, hn'⟩, fun a o e => (hs.2 a fun q => by rw [q, S.fresh] at e; cases e).trans (S.keep a o e), S.fresh, fun y c hm => ?_, fun y dy hm => ?_, fun y ds' l' hm => ?_, ?_, wide_of S hs.2 ⟨_, hn'.choose_spec.choose_spec.choose_spec.1⟩⟩
  · obtain ⟨u, o, e, dd⟩ := S.cells y c hm
    exact ⟨u, o, (hs.2 _ (notLocals hn e (.inr ⟨_, dd⟩))).trans e, dd⟩
  · obtain ⟨q1, q2⟩ := mem_del.mp hm
    obtain ⟨u, V, iu⟩ := old y dy q1
    exact ⟨u, val y u q2 V, iu.mono mono⟩
  · rcases List.mem_cons.mp hm with q | q
    · cases q
      obtain ⟨n, e⟩ := e
      exact ⟨.inl ⟨hx, _, hn', by simp⟩, ⟨vs, ⟨n, (hs.2 _ (notLocals hn e (.inl ⟨_, _, rfl⟩))).trans e⟩, i.flatMono fm hf⟩, hf, hl⟩
    · obtain ⟨q1, q2⟩ := mem_delO.mp q
      obtain ⟨V, ⟨vs', ⟨n, e'⟩, iu⟩, hf', hf''⟩ := S.owns y ds' l' q1
      exact ⟨val y _ q2 V, ⟨vs', ⟨n, (hs.2 _ (notLocals hn e' (.inl ⟨_, _, rfl⟩))).trans e'⟩, iu.flatMono fm hf'⟩, hf', hf''⟩
  · refine List.nodup_cons.mpr ⟨fun ha => hw (delO_at ha), ?_⟩
    exact List.Nodup.sublist (List.Sublist.map _ List.filter_sublist) S.apart

theorem wp_storeN {x : Str} {v : Value} {ds : List PyData} {s s₁ : Shared} {Q : Unit → Shared → Prop} (hk : EnvOk env) (hx : env.kindOf x = some .local) (S : St h₀ env ρ ω s.heap) (k : Kp s s₁) (i : NewL s.heap s₁.heap v ds) (hf : ds.all flat = true)
    (h : ∀ l s', s.heap.get? l = none → Mv env ω.at s s' → St h₀ env (del x ρ) ((x, ds, l) :: delO x ω) s'.heap → Q () s') : wpAny (model pw w) A (storeName env x v) Q No s₁ := by
  obtain ⟨l, vs, rfl, hl, e, i⟩ := i
  have S₁ := S.keeps k.get
  obtain ⟨m, hn⟩ := S₁.ns
  refine wpAny_storeName_local hx hn (fun h' hn' hs => ?_) (store_plain hk)
  have hw : l ∉ ω.at := fun hm => by
    obtain ⟨o, e', _⟩ := S.lists l hm
    rw [hl] at e'; cases e'
  refine h l _ hl ?_ (S₁.own hn hx hn' hs (S.notOld hl) hw e i hf fun y dy hm => ?_)
  · refine k.mv ⟨h', _, rfl, fun a o n e => (hs.2 a fun q => n (.inl q)).trans e⟩
  · obtain ⟨u, V, iu⟩ := S.vars y dy hm
    refine ⟨u, V.keeps k.get, iu.mono fun a o us n e q => hid_of (k.get _ _ (hid_le e)) fun ha => ?_⟩
    rcases List.mem_cons.mp ha with q | q
    · rw [q] at e; have := hid_le e; rw [hl] at this; cases this
    · exact hid_not e q
theorem ex_own {x np e pos rest ds} {P : Flow → Heap → Prop} (hk : EnvOk env) (hx : env.kindOf x = some .local) (q : EvN mg w A env h₀ ρ ω e ds) (hf : ds.all flat = true)
    (r : ∀ l, Ex mg w A env h₀ (del x ρ) ((x, ds, l) :: delO x ω) rest P)
    (hs : swapsWith e (some (.Name x np)) pos.line env = pure false := by rfl) : Ex mg w A env h₀ ρ ω (.Assign [.Name x np] e pos :: rest) P := fun s S =>
  wpAny_execs_cons (wpAny_Assign_Name (wpAny_q (q s S) fun v s₁ ⟨k, i⟩ => wp_storeN hk hx S k i hf fun l s₂ hl m₂ S₂ =>
    wpAny_q (r l s₂ S₂) fun f s₃ ⟨m₃, p⟩ => ⟨m₂.trans m₃ fun a ha => by
      rcases List.mem_cons.mp ha with q | q
      · exact .inr (q ▸ hl)
      · exact .inl (delO_at q), p⟩) hs)
end
end
end Mine
end
section
open PySem PySem.W PyProof.Rows PySem.Calls PySem.SeqAt
set_option maxRecDepth 100000
set_option linter.unusedVariables false
namespace Mine
noncomputable section

section
variable {mg : MG} {w : World} {A : Around} {env : Env} {h₀ : Base} {ρ : Vars} {ω : Owns}

/-- what stays of a state, when one of the frame's own lists is changed -/
def put (x : Str) (ds : List PyData) (ω : Owns) : Owns := ω.map fun p => if p.1 = x then (p.1, ds, p.2.2) else p
theorem put_at {x ds} {ω : Owns} : (put x ds ω).at = ω.at := by
  simp only [Owns.at, put, List.map_map]
  refine List.map_congr_left fun p _ => ?_
  simp only [Function.comp]
  split <;> rfl
theorem apart_eq : ∀ {ω : Owns}, ω.at.Nodup → ∀ p ∈ ω, ∀ q ∈ ω, p.2.2 = q.2.2 → p = q
  | [], _, _, hp, _, _, _ => nomatch hp
  | r :: ω, hn, p, hp, q, hq, e => by
    obtain ⟨h1, h2⟩ := List.nodup_cons.mp (show (r.2.2 :: Owns.at ω).Nodup from hn)
    have mem : ∀ z ∈ ω, z.2.2 ≠ r.2.2 := fun z hz e => h1 (by rw [← e]; exact List.mem_map.mpr ⟨z, hz, rfl⟩)
    rcases List.mem_cons.mp hp with hp | hp <;> rcases List.mem_cons.mp hq with hq | hq
    · rw [hp, hq]
    · exact absurd (by rw [← e, hp]) (mem q hq)
    · exact absurd (by rw [e, hq]) (mem p hp)
    · exact apart_eq h2 p hp q hq e
theorem St.change {h h' : Heap} {x : Str} {l : Addr} {ds ds' : List PyData} {vs' : Array Value} (S : St h₀ env ρ ω h) (hm : (x, ds, l) ∈ ω) (hs : Heap.SameBut l h h') (e : h'.PlainList l vs') (i : IsAll h.get? vs'.toList ds') (hf : ds'.all flat = true)
    (one : ∀ p ∈ ω, p.1 = x → p.2.2 = l) : St h₀ env ρ (put x ds' ω) h' := by
  obtain ⟨V, ⟨vs, ⟨n, e0⟩, i0⟩, hf0, hl⟩ := S.owns x ds l hm
  have hin : l ∈ ω.at := List.mem_map.mpr ⟨_, hm, rfl⟩
  have keepNs : ∀ {m}, h.Ns env.locals m → h'.Ns env.locals m := fun q => q.sameBut hs (Ne.symm (notLocals q e0 (.inl ⟨_, _, rfl⟩)))
  have keepCell : ∀ {c v}, h.IsCell c v → h'.IsCell c v := fun q => q.sameBut hs fun hq => by
    obtain ⟨o, ho, hd⟩ := q
    rw [hq, e0] at ho; cases ho; cases hd
  have val : ∀ y u, Val env h y u → Val env h' y u := fun y u V => by
    rcases V with ⟨a, m', b, c⟩ | ⟨a, c, b, d⟩
    · exact .inl ⟨a, _, keepNs b, c⟩
    · exact .inr ⟨a, c, b, keepCell d⟩
  have fm : FlatMono h.get? h'.get? := fun a o us k q c _ => (hs.2 a fun hq => by (rw [hq, e0] at q; cases q; simp at c)).trans q
  refine ⟨let ⟨m, q⟩ := S.ns; ⟨m, keepNs q⟩, fun a o q => (hs.2 a fun hq => by rw [hq, h₀.ok _ hl] at q; cases q).trans (S.keep a o q), S.fresh, fun y c hc => let ⟨v, q⟩ := S.cells y c hc; ⟨v, keepCell q⟩, fun y dy hy => ?_, fun y dy k hy => ?_, by rw [put_at]; exact S.apart, wide_of S hs.2 ⟨_, e.choose_spec⟩⟩
  · obtain ⟨u, V, iu⟩ := S.vars y dy hy
    rw [put_at]
    exact ⟨u, val y u V, iu.mono fun a o us n q _ => hid_of ((hs.2 a fun hq => hid_not q (hq ▸ hin)).trans (hid_le q)) (hid_not q)⟩
  · obtain ⟨⟨z, dz, kz⟩, hz, hq⟩ := List.mem_map.mp hy
    by_cases hzx : z = x
    · simp only [hzx, if_true] at hq
      cases hq
      obtain rfl : k = l := one _ hz hzx
      exact ⟨val _ _ V, ⟨vs', e, i.flatMono fm hf⟩, hf, hl⟩
    · simp only [hzx, if_false] at hq
      cases hq
      obtain ⟨V', ⟨us, ⟨m, e'⟩, iu⟩, hf', hl'⟩ := S.owns _ _ _ hz
      refine ⟨val _ _ V', ⟨us, ⟨m, (hs.2 _ fun hq => ?_).trans e'⟩, iu.flatMono fm hf'⟩, hf', hl'⟩
      have := apart_eq S.apart _ hz _ hm hq
      exact hzx (congrArg Prod.fst this)

theorem Mv.same {l : Addr} {s : Shared} {h' : Heap} {t : Nat} (hm : l ∈ ω.at) (hs : Heap.SameBut l s.heap h') : Mv env ω.at s { s with heap := h', toks := t } :=
  ⟨h', t, rfl, fun a o n e => (hs.2 a fun q => n (.inr (.inr (q ▸ hm)))).trans e⟩

/-- x.append(e) -/
theorem ex_append {x np ap cp e pos rest ds l d} {P : Flow → Heap → Prop} (hk : EnvOk env) (hm : (x, ds, l) ∈ ω) (one : ∀ p ∈ ω, p.1 = x → p.2.2 = l) (q : Ev mg w A env h₀ ρ ω e d) (hf : flat d = true) (hz : ds.length ≤ sizeLine)
    (r : Ex mg w A env h₀ ρ (put x (ds ++ [d]) ω) rest P)
    (hdb : (x == ("__debug__" : Str)) = false := by decide)
    (hbase : attributeBase (.Name x np) "append" env (eval (.Name x np) env) = eval (.Name x np) env := by rfl)
    (hfew : ((backTo cp (starEach [e] env)).all (fun x => !x.1) && (backToKw cp (keywordEach [] env)).all (fun x => x.1.isSome)
      && decide (([e] : List Expr).length + ([] : List Keyword).length + (if ([] : List Keyword).isEmpty then 0 else 1) < 30)) = true := by rfl)
    (hline : (ap.endLine == cp.line) = true := by rfl)
    (htrees : backTo cp (starEach [e] env) = [(false, eval e env)] := by rfl)
    (hin : interactive env = false := by rfl) (hsw : swapsWith (.Call (.Attribute (.Name x np) "append" ap) [e] [] cp) none pos.line env = pure false := by rfl) :
    Ex mg w A env h₀ ρ ω (.Expr (.Call (.Attribute (.Name x np) "append" ap) [e] [] cp) pos :: rest) P := fun s S =>
  wpAny_execs_cons (wpAny_Expr (wpAny_Call_append hbase hfew hline htrees (by
    obtain ⟨V, ⟨vs, ⟨n, e0⟩, i⟩, hf0, hl⟩ := S.owns x ds l hm
    refine load_val hk.kind V ⟨l, vs, rfl, ⟨_, n, e0, rfl, rfl, rfl⟩, ?_⟩ hdb
    refine wpAny_q (q s S) fun v s₁ ⟨k, iv⟩ => ?_
    have S₁ := S.keeps k.get
    have hlen : vs.size = ds.length := by simpa using i.length
    refine wpAny_list_append_plain (items := vs) ⟨n, k.get _ _ e0⟩ (fun h' hp hs => ?_) (hlen ▸ hz)
    have S₂ : St h₀ env ρ (put x (ds ++ [d]) ω) h' := S₁.change hm hs hp (by simpa using (i.mono (get_mono k.get)).append (.cons iv .nil)) (by simp [hf0, hf]) one
    refine wpAny_q (r { s₁ with heap := h' } S₂) fun f s₂ ⟨m, p⟩ => ⟨?_, p⟩
    have m₁ : Mv env ω.at s₁ { s₁ with heap := h' } := Mv.same (List.mem_map.mpr ⟨_, hm, rfl⟩) hs
    exact k.mv (m₁.trans m fun a ha => .inl (put_at ▸ ha)))) hin hsw)

theorem setItem_plain' {l : Addr} {vs : Array Value} {k : Int} {t : Tok} {v : Value} {s : Shared} {Q : Unit → Shared → Prop} (hl : s.heap.PlainList l vs) (h0 : 0 ≤ k) (hfit : k < 2 ^ 63) (hk : k < vs.size)
    (hQ : ∀ h', h'.PlainList l (vs.setIfInBounds k.toNat v) → Heap.SameBut l s.heap h' → Q () { s with heap := h' }) : wpAny (model pw w) A (setItem (.ref l) (.int k t) v) Q No s := by
  obtain ⟨n, ho⟩ := hl
  have hT : s.TypeIs (.ref l) "list" := ⟨_, ho, rfl⟩
  unfold setItem
  try with_reducible refine wpAny_holding ?_
  first | refine wpAny_bind (wpAny_pure ?_) | skip
  refine wpAny_bind (wpAny_sequenceKey hT (by decide) ?_)
  refine wpAny_bind (wpAny_callSpecial?_slot (name := Str.ofString "__setitem__") hT slot_list_setitem (wpAny_call_entry slot_list_setitem hT entry_list_setitem ?_ (args_list_setitem _ _ _)))
  show wpAny _ _ (Builtin.List.listSubscript? (.int k t) >>= _) _ _ s
  refine wpAny_bind (wpAny_listSubscript_int (fitsIndex_of h0 hfit) ?_)
  clear hfit
  obtain ⟨j, rfl⟩ := Int.eq_ofNat_of_zero_le h0
  have hj : j < vs.size := by omega
  have hx' : vs[j]? = some vs[j] := Array.getElem?_eq_getElem hj
  show wpAny _ _ ((seqItemAt l j >>= fun r => pure (r.map (j, ·))) >>= _) _ _ s
  refine wpAny_bind (wpAny_bind (wpAny_seqItemAt ho rfl (wpAny_pure ?_)))
  rw [hx']
  show wpAny _ _ (setSeqItemAt l j v >>= _) _ _ s
  have hd : Obj.mapSeq (·.setIfInBounds j v) { cls := .type "list", data := .seq vs n } = { cls := .type "list", data := .seq (vs.setIfInBounds j v) n } := by simp [Obj.mapSeq]
  have hfin : (s.heap.update l (Obj.mapSeq (·.setIfInBounds j v))).PlainList l (vs.setIfInBounds j v) := ⟨n, by rw [Heap.get?_update_self _ ho (by rw [hd]; rfl), hd]⟩
  refine wpAny_bind (wpAny_setSeqItemAt ho rfl ?_)
  first
    | exact wpAny_bind (wpAny_pure (wpAny_pure ⟨.none, rfl, wpAny_pure (hQ _ hfin (Heap.SameBut.update ..))⟩))
    | exact wpAny_pure ⟨.none, rfl, wpAny_pure (hQ _ hfin (Heap.SameBut.update ..))⟩
theorem St.notMov {s : Shared} (S : St h₀ env ρ ω s.heap) {a : Addr} {o : Obj} {vs : Array Value} {n : Nat} (e : s.heap.get? a = some o) (hd : o.data = .seq vs n) (ha : a ∉ ω.at) : ¬ mov env ω.at a := by
  rintro (q | q | q)
  · obtain ⟨m, hn⟩ := S.ns
    exact notLocals hn e (.inl ⟨_, _, hd⟩) q
  · obtain ⟨x, hp⟩ := q
    obtain ⟨v, o', e', d'⟩ := S.cells x _ hp
    rw [e] at e'; cases e'; rw [hd] at d'; cases d'
  · exact ha q
theorem St.flatMv {s s' : Shared} (S : St h₀ env ρ ω s.heap) (m : Mv env ω.at s s') : FlatMono s.heap.get? s'.heap.get? := fun a o us n e c q => by
  obtain ⟨h', t, rfl, k⟩ := m
  refine k a _ (S.notMov e q fun hm => ?_) e
  obtain ⟨o', e', c'⟩ := S.lists a hm
  rw [e] at e'; cases e'; rw [c] at c'; simp at c'
theorem St.rebase {b : Base} {h : Heap} (S : St b env ρ ω h) (hh : h₀.h = b.h) (hN : ∀ a, b.N a → h₀.N a) : St h₀ env ρ ω h where
  ns := S.ns
  keep := hh ▸ S.keep
  fresh := hh ▸ S.fresh
  cells := S.cells
  vars := S.vars
  owns := fun x ds l hm => let ⟨a, c, d, e⟩ := S.owns x ds l hm; ⟨a, c, d, hN l e⟩
  apart := S.apart
  wide := fun a e => hN a (S.wide a e)
/-- the base of a loop's turns -/
def St.turns {h : Heap} (S : St h₀ env ρ ω h) : Base := ⟨h₀.h, fun l => l ∈ ω.at ∨ h.get? l = none, fun l x => by
  rcases x with x | x
  · obtain ⟨p, hp, rfl⟩ := List.mem_map.mp x
    exact h₀.ok _ (S.owns _ _ _ hp).2.2.2
  · cases q : h₀.h.get? l with
    | none => rfl
    | some o => rw [S.keep _ _ q] at x; cases x⟩
theorem St.turnsN {h : Heap} (S : St h₀ env ρ ω h) (a : Addr) (x : S.turns.N a) : h₀.N a := by
  rcases x with x | x
  · obtain ⟨p, hp, rfl⟩ := List.mem_map.mp x
    exact (S.owns _ _ _ hp).2.2.2
  · exact S.wide a x
theorem St.turn {h : Heap} (S : St h₀ env ρ ω h) : St S.turns env ρ ω h where
  ns := S.ns
  keep := S.keep
  fresh := S.fresh
  cells := S.cells
  vars := S.vars
  owns := fun x ds l hm => let ⟨a, c, d, _⟩ := S.owns x ds l hm; ⟨a, c, d, .inl (List.mem_map.mpr ⟨_, hm, rfl⟩)⟩
  apart := S.apart
  wide := fun a e => .inr e
theorem St.olds {h h' : Heap} {ρ' : Vars} {ω' : Owns} (S : St h₀ env ρ ω h) (S' : St S.turns env ρ' ω' h') : ∀ l ∈ ω'.at, l ∈ ω.at ∨ h.get? l = none := fun l hl => by
  obtain ⟨p, hp, rfl⟩ := List.mem_map.mp hl
  exact (S'.owns _ _ _ hp).2.2.2

/-! two names at once -/
theorem St.safeFull {h : Heap} {v : Value} {d : PyData} (S : St h₀ env ρ ω h) (hf : flat d = true ∨ ω = []) (i : Is h.get? v d) : Is (hid h ω.at) v d := by
  rcases hf with hf | rfl
  · exact i.flat hf S.lists
  · exact i.mono fun a o _ _ e _ => hid_of e (by simp [Owns.at])
theorem St.moved {s s' : Shared} {v : Value} {d : PyData} (S : St h₀ env ρ ω s.heap) (m : Mv env ω.at s s') (hf : flat d = true ∨ ω = []) (i : Is s.heap.get? v d) : Is s'.heap.get? v d := by
  rcases hf with hf | rfl
  · exact i.flatMono (S.flatMv m) hf
  · obtain ⟨h', t, rfl, k⟩ := m
    exact i.mono fun a o _ _ e q => k a o (S.notMov e q (by simp [Owns.at])) e
theorem ex_pairS {x y xp yp e pos rest d₁ d₂ tk tp} {P : Flow → Heap → Prop} (hA : Ro A 0) (hk : EnvOk env) (hx : env.kindOf x = some .local) (hy : env.kindOf y = some .local) (hox : ∀ ds l, (x, ds, l) ∉ ω) (hoy : ∀ ds l, (y, ds, l) ∉ ω)
    (q : Ev mg w A env h₀ ρ ω e (.tuple [d₁, d₂])) (h1 : flat d₁ = true ∨ ω = []) (h2 : flat d₂ = true ∨ ω = [])
    (r : Ex mg w A env h₀ ((x, d₁) :: del x ((y, d₂) :: del y ρ)) ω rest P)
    (hs : swapsWithSole [.Tuple [.Name x xp, .Name y yp] tk tp] e pos.line env = pure false := by rfl) (hw : swappedStores [.Tuple [.Name x xp, .Name y yp] tk tp] e env = pure (some [x, y]) := by rfl) :
    Ex mg w A env h₀ ρ ω (.Assign [.Tuple [.Name x xp, .Name y yp] tk tp] e pos :: rest) P := fun s S => by
  refine wpAny_execs_cons ?_
  rw [exec_Assign_arm]
  refine wpAny_bind (wpAny_standAt ?_)
  rw [hs]
  refine wpAny_bind (wpAny_pure ?_)
  rw [if_neg (by decide)]
  refine wpAny_bind (wpAny_q (q s S) fun v s₁ ⟨k, i⟩ => ?_)
  rw [hw]
  refine wpAny_bind (wpAny_pure ?_)
  obtain ⟨a, vs, rfl, ht, ia⟩ := i.tup_inv
  obtain ⟨v₁, v₂, hv, i₁, i₂⟩ := ia.two
  have hsz : vs.size = 2 := by have := congrArg List.length hv; simpa using this
  show wpAny _ A (do
    rule "assign.swapped-stores"
    let items ← unpackItems (.ref a) 2 none
    assignInOrder ([x, y].reverse.map fun n => bindName env n) items.reverse
    pure Flow.next) _ _ s₁
  refine wpAny_bind (wpAny_rule ?_)
  refine wpAny_bind ?_
  rw [← hsz]
  refine wpAny_unpackItems_tuple (items := vs) hA.handled ht fun h' he => ?_
  have k₂ : Kp s₁ { s₁ with heap := h' } := ⟨h', s₁.toks, rfl, fun b o e => he b o (Nat.ne_of_lt (Heap.lt_size e)) e⟩
  have S₂ := (S.keeps k.get).keeps k₂.get
  rw [hv]
  show wpAny _ A (assignInOrder [bindName env y, bindName env x] [v₂, v₁] >>= fun _ => pure Flow.next) _ _ _
  refine wpAny_bind ?_
  refine wpAny_assignInOrder_more (wpAny_bindName (wp_store hk hy hoy S₂ (S₂.safeFull h2 (i₂.mono (get_mono k₂.get))) fun s₃ m₃ S₃ => ?_))
  refine wpAny_assignInOrder_more (wpAny_bindName (wp_store hk hx hox S₃ (S₃.safeFull h1 (S₂.moved m₃ h1 (i₁.mono (get_mono k₂.get)))) fun s₄ m₄ S₄ => ?_))
  refine wpAny_assignInOrder_none (wpAny_pure ?_)
  refine wpAny_q (r s₄ S₄) fun f s₅ ⟨m₅, p⟩ => ⟨?_, p⟩
  exact (k.trans k₂).mv ((m₃.trans m₄ fun a h => .inl h).trans m₅ fun a h => .inl h)

theorem St.skip {h h' : Heap} {wr : List Addr} (S : St h₀ env ρ ω h) (hf : ∀ b ∈ wr, ∃ o vs, h.get? b = some o ∧ o.data = .fields vs) (hw : ∀ b o, h₀.h.get? b = some o → b ∉ wr) (hk : ∀ b o, b ∉ wr → h.get? b = some o → h'.get? b = some o) (hx : ∀ b ∈ wr, h₀.N b) : St h₀ env ρ ω h' := by
  have nw : ∀ b o, h.get? b = some o → ((∃ vs n, o.data = .seq vs n) ∨ (∃ v, o.data = .cell v) ∨ (∃ es n, o.data = .dict es n)) → h'.get? b = some o := fun b o e q => hk b o (fun hm => by
    obtain ⟨o', zs, e', q'⟩ := hf b hm
    rw [e] at e'; cases e'
    rcases q with ⟨_, _, q⟩ | ⟨_, q⟩ | ⟨_, _, q⟩ <;> rw [q'] at q <;> cases q) e
  have nsk : ∀ {m}, h.Ns env.locals m → h'.Ns env.locals m := fun {m} ⟨o, es, ep, e, q, r⟩ => ⟨o, es, ep, nw _ _ e (.inr (.inr ⟨_, _, q⟩)), q, r⟩
  have ck : ∀ {c v}, h.IsCell c v → h'.IsCell c v := fun {c v} ⟨o, e, q⟩ => ⟨o, nw _ _ e (.inr (.inl ⟨_, q⟩)), q⟩
  have val : ∀ y u, Val env h y u → Val env h' y u := fun y u V => V.imp (fun ⟨a, m, b, c⟩ => ⟨a, m, nsk b, c⟩) fun ⟨a, c, b, q⟩ => ⟨a, c, b, ck q⟩
  refine ⟨let ⟨m, q⟩ := S.ns; ⟨m, nsk q⟩, fun a o e => hk a o (hw _ _ e) (S.keep a o e), S.fresh, fun y c hc => let ⟨u, q⟩ := S.cells y c hc; ⟨u, ck q⟩, fun y dy hy => ?_, fun y dy l hy => ?_, S.apart, fun a e => by
    by_cases hm : a ∈ wr
    · exact hx a hm
    · refine S.wide a ?_
      cases q : h.get? a with
      | none => rfl
      | some o => rw [hk a o hm q] at e; cases e⟩
  · obtain ⟨u, V, iu⟩ := S.vars y dy hy
    exact ⟨u, val _ _ V, iu.mono fun a o us n e q => hid_of (nw a o (hid_le e) (.inl ⟨_, _, q⟩)) (hid_not e)⟩
  · obtain ⟨V, ⟨vs, ⟨n, e⟩, iu⟩, r⟩ := S.owns y dy l hy
    exact ⟨val _ _ V, ⟨vs, ⟨n, nw _ _ e (.inl ⟨_, _, rfl⟩)⟩, iu.mono fun a o us n e q => nw a o e (.inl ⟨_, _, q⟩)⟩, r⟩
theorem St.notMovF {s : Shared} (S : St h₀ env ρ ω s.heap) {a : Addr} {o : Obj} {vs : Array Value} (e : s.heap.get? a = some o) (hd : o.data = .fields vs) : ¬ mov env ω.at a := by
  rintro (q | q | q)
  · obtain ⟨m, oL, es, ep, eL, dL, _⟩ := S.ns
    rw [← q, e] at eL; cases eL; rw [hd] at dL; cases dL
  · obtain ⟨y, hp⟩ := q
    obtain ⟨u, o', e', d'⟩ := S.cells y _ hp
    rw [e] at e'; cases e'; rw [hd] at d'; cases d'
  · obtain ⟨⟨y, dy, l⟩, hp, rfl⟩ := List.mem_map.mp q
    obtain ⟨_, ⟨us, ⟨n, e'⟩, _⟩, _⟩ := S.owns y dy l hp
    rw [e] at e'; cases e'; cases hd

/-! for -/
theorem ex_for {own : Bool} {x px iter body pos rest ds} {C : Nat → Vars → Owns → Prop} {P : Flow → Heap → Prop} (hk : EnvOk env) (hx : env.kindOf x = some .local) (hi : EvIt mg w A own env h₀ ρ ω iter ds) (hfl : ds.all flat = true) (hsc : own = true → ds.all scalar = true)
    (hxo : ∀ i ρ' ω', C i ρ' ω' → ∀ ds l, (x, ds, l) ∉ ω') (hno : ∀ i ρ' ω', C i ρ' ω' → own = false → ω' = [])
    (init : C 0 ρ ω)
    (turn : ∀ (b : Base) i d ρ' ω', b.h = h₀.h → ds[i]? = some d → C i ρ' ω' → Ex mg w A env b ((x, d) :: del x ρ') ω' body (fun f h' => (f = .next ∨ f = .cont) ∧ ∃ ρ'' ω'', C (i + 1) ρ'' ω'' ∧ St b env ρ'' ω'' h'))
    (done : ∀ ρ' ω', C ds.length ρ' ω' → Ex mg w A env h₀ ρ' ω' rest P)
    (hs : ∀ x, foldedSetIterable iter env x = pure x := by intro _; rfl) (ht : ∀ it v, letOwnedTupleGo (.Name x px) it v = pure () := by intro _ _; rfl) :
    Ex mg w A env h₀ ρ ω (.For (.Name x px) iter body [] pos :: rest) P := fun s S =>
  wpAny_execs_cons (wpAny_For (wpAny_q (hi s S) fun xv s₁ h₁ => wpAny_q h₁ fun it s₂ h₂ => by
    obtain ⟨k₂, I, fp, wr, Pr, Stt, rfl, Wk, hst, hfp, hown, hwr, hfld, hP⟩ := h₂
    have S₂ := S.keeps k₂.get
    have oldS : ∀ b o, s.heap.get? b = some o → b ∉ wr := fun b o e q => by rw [hwr b q] at e; cases e
    have oldK : ∀ b o, h₀.h.get? b = some o → b ∉ wr := fun b o e => oldS b o (S.keep b o e)
    have there : ∀ b ∈ wr, S.turns.N b := fun b hb => .inr (hwr b hb)
    refine codeAny_forLoop
      (fun j s' => ∃ i ρ' ω', j = ds.length + 1 - i ∧ i ≤ ds.length ∧ Stt i s'.heap ∧ C i ρ' ω' ∧ St S.turns env ρ' ω' s'.heap ∧
        ∃ h' tk, s' = { s₂ with heap := h', toks := tk } ∧ ∀ a o, ¬ mov env ω.at a → a ∉ wr → (own = true → s.heap.get? a ≠ none) → s₂.heap.get? a = some o → h'.get? a = some o) ?_ (ds.length + 1)
      ⟨0, ρ, ω, rfl, Nat.zero_le _, hst, init, S.turn.keeps k₂.get, s₂.heap, s₂.toks, rfl, fun _ _ _ _ _ e => e⟩ (ht _)
    rintro j s' ⟨i, ρ', ω', rfl, hi', hst', hC, S', h', tk, rfl, hk'⟩
    by_cases hlt : i < ds.length
    · refine Wk.item i _ _ _ hlt hst' fun v h₃ tk₃ hPv hst₃ hk₃ => ?_
      obtain ⟨d, hd⟩ : ∃ d, ds[i]? = some d := ⟨ds[i], by simp [hlt]⟩
      have fd : flat d = true := List.all_eq_true.mp hfl d (List.mem_of_getElem? hd)
      have S₃ : St S.turns env ρ' ω' h₃ := S'.skip (hfld _ _ hst') oldK hk₃ there
      have iv : Is h₃.get? v d := by
        cases own with
        | true => exact (hP i v d hPv hd).scalar (List.all_eq_true.mp (hsc rfl) d (List.mem_of_getElem? hd))
        | false =>
          exact ((hP i v d hPv hd).flatMono (fun a o us n e c q => hk' a _ (S₂.notMov e q fun hm => by
            obtain ⟨o, e', c'⟩ := S₂.lists a hm
            rw [e] at e'; cases e'; rw [c] at c'; simp at c') (fun hm => by
            obtain ⟨o', zs, e', q'⟩ := hfld _ _ hst a hm
            rw [e] at e'; cases e'; rw [q] at q'; cases q') (fun h => nomatch h) e) fd).flatMono (fun a o us n e c q => hk₃ a _ (fun hm => by
            obtain ⟨o', zs, e', q'⟩ := hfld _ _ hst' a hm
            rw [e] at e'; cases e'; rw [q] at q'; cases q') e) fd
      refine wpAny_no (wpAny_assign_Name (wp_store (s := { s₂ with heap := h₃, toks := tk₃ }) hk hx (hxo _ _ _ hC) S₃ (iv.flat fd S₃.lists) fun s₄ m₄ S₄ => ?_))
      refine wpAny_no (wpAny_q (turn S.turns i d ρ' ω' rfl hd hC s₄ S₄) fun f s₅ ⟨m₅, hf, ρ'', ω'', hC', S₅⟩ => ?_)
      have m35 := m₄.trans m₅ fun a h => .inl h
      have good : ∃ m, m < ds.length + 1 - i ∧ ∃ i ρ' ω', m = ds.length + 1 - i ∧ i ≤ ds.length ∧ Stt i s₅.heap ∧ C i ρ' ω' ∧ St S.turns env ρ' ω' s₅.heap ∧
          ∃ h' tk, s₅ = { s₂ with heap := h', toks := tk } ∧ ∀ a o, ¬ mov env ω.at a → a ∉ wr → (own = true → s.heap.get? a ≠ none) → s₂.heap.get? a = some o → h'.get? a = some o := by
        obtain ⟨h₅, t₅, rfl, k₅⟩ := m35
        refine ⟨ds.length + 1 - (i + 1), by omega, i + 1, ρ'', ω'', rfl, hlt, ?_, hC', S₅, h₅, t₅, rfl, fun a o n nw so e => ?_⟩
        · refine Wk.frame _ _ _ hst₃ fun b hb o e => k₅ b o ?_ e
          by_cases hbw : b ∈ wr
          · obtain ⟨o', zs, e', q'⟩ := hfld _ _ hst₃ b hbw
            rw [e] at e'; cases e'
            exact St.notMovF (s := { s₂ with heap := h₃, toks := tk₃ }) S₃ e q'
          · rcases hown b hb with q | ⟨q, o', us, n, e', q'⟩
            · exact absurd q hbw
            · have hω := hno _ _ _ hC q
              subst hω
              have hω0 := hno _ _ _ init q
              subst hω0
              have nm : ¬ mov env (Owns.at []) b := S₂.notMov e' q' (by simp [Owns.at])
              exact nm
        · refine k₅ a o (fun q => ?_) (hk₃ a o nw (hk' a o n nw so e))
          rcases q with q | q | q
          · exact n (.inl q)
          · exact n (.inr (.inl q))
          · cases hown' : own with
            | true =>
              rcases S.olds S' a q with q | q
              · exact n (.inr (.inr q))
              · exact so hown' q
            | false => rw [hno _ _ _ hC hown'] at q; simp [Owns.at] at q
      rcases hf with rfl | rfl <;> exact good
    · have hin : i = ds.length := by omega
      subst hin
      refine Wk.done _ _ _ hst' fun h₃ tk₃ hk₃ => wpAny_execs_nil ?_
      have S₃ : St h₀ env ρ' ω' h₃ := (S'.skip (hfld _ _ hst') oldK hk₃ there).rebase rfl S.turnsN
      refine wpAny_q (done ρ' ω' hC { s₂ with heap := h₃, toks := tk₃ } S₃) fun f s₄ ⟨m₄, p⟩ => ⟨?_, p⟩
      refine Mv.trans (s₁ := { s₂ with heap := h₃, toks := tk₃ }) ?_ m₄ (S.olds S')
      obtain ⟨hh, tt, rfl, kk⟩ := k₂
      exact ⟨h₃, tk₃, rfl, fun a o n e => hk₃ a o (oldS a o e) (hk' a o n (oldS a o e) (fun _ q => by rw [q] at e; cases e) (kk a o e))⟩) hs)

/-! while -/
theorem ex_while {test body pos rest} {C : Nat → Vars → Owns → Prop} {P : Flow → Heap → Prop} (n : Nat) (init : C n ρ ω)
    (turn : ∀ n ρ' ω', C n ρ' ω' → ∀ B : Base, B.h = h₀.h → ∃ b, Tr mg w A env B ρ' ω' test b ∧
      (b = true → Ex mg w A env B ρ' ω' body (fun f h' => (f = .next ∨ f = .cont) ∧ ∃ k ρ'' ω'', k < n ∧ C k ρ'' ω'' ∧ St B env ρ'' ω'' h')) ∧
      (b = false → Ex mg w A env h₀ ρ' ω' rest P)) :
    Ex mg w A env h₀ ρ ω (.While test body [] pos :: rest) P := fun s S =>
  wpAny_execs_cons (wpAny_While (codeAny_whileLoop
    (fun n s' => ∃ ρ' ω', C n ρ' ω' ∧ St S.turns env ρ' ω' s'.heap ∧ Mv env ω.at s s') (by
      rintro n s₁ ⟨ρ', ω', hC, S₁, m₁⟩
      obtain ⟨b, ht, hb, he⟩ := turn n ρ' ω' hC S.turns rfl
      refine wpAny_q (ht s₁ S₁) fun c s₂ ⟨k₂, hc⟩ => ?_
      subst hc
      have S₂ := S₁.keeps k₂.get
      have m₂ := m₁.kp k₂
      cases c with
      | true =>
        refine wpAny_q (hb rfl s₂ S₂) fun f s₃ ⟨m₃, hf, k, ρ'', ω'', hk, hC', S₃⟩ => ?_
        rcases hf with rfl | rfl <;> exact ⟨k, hk, ρ'', ω'', hC', S₃, m₂.trans m₃ (S.olds S₁)⟩
      | false =>
        simp only [Bool.false_eq_true, if_false]
        refine wpAny_execs_nil ?_
        exact wpAny_q (he rfl s₂ (S₂.rebase rfl S.turnsN)) fun f s₃ ⟨m₃, p⟩ => ⟨m₂.trans m₃ (S.olds S₁), p⟩) n ⟨ρ, ω, init, S.turn, Mv.refl _⟩))
end
end
end Mine
end
section
open PySem PySem.W PyProof.Rows PySem.Calls PySem.SeqAt
set_option maxRecDepth 100000
set_option linter.unusedVariables false
namespace Mine
noncomputable section

theorem bindL_not {kindOf : Str → Option NameKind} {x : Str} : ∀ (b : List (Str × Value)) (m : Str → Option Value), x ∉ b.map (·.1) → bindL kindOf b m x = m x
  | [], _, _ => rfl
  | (n, v) :: r, m, h => by
    simp only [List.map_cons, List.mem_cons, not_or] at h
    unfold bindL
    rw [bindL_not r _ h.2]
    split
    · simp only [if_neg h.1]
    · rfl
theorem bindL_get {kindOf : Str → Option NameKind} {x : Str} {v : Value} (hx : kindOf x = some .local) : ∀ (b : List (Str × Value)) (m : Str → Option Value), (b.map (·.1)).Nodup → (x, v) ∈ b → bindL kindOf b m x = some v
  | (n, u) :: r, m, hn, hm => by
    simp only [List.map_cons, List.nodup_cons] at hn
    unfold bindL
    rcases List.mem_cons.mp hm with q | q
    · cases q
      rw [bindL_not r _ hn.1, if_pos hx]; simp
    · exact bindL_get hx r _ hn.2 q
theorem bindC_not {kindOf : Str → Option NameKind} {x : Str} : ∀ (b : List (Str × Value)) (m : Str → Option Value), x ∉ b.map (·.1) → bindC kindOf b m x = m x
  | [], _, _ => rfl
  | (n, v) :: r, m, h => by
    simp only [List.map_cons, List.mem_cons, not_or] at h
    unfold bindC
    rw [bindC_not r _ h.2]
    split
    · rfl
    · simp only [if_neg h.1]
theorem bindC_get {kindOf : Str → Option NameKind} {x : Str} {v : Value} (hx : kindOf x ≠ some .local) : ∀ (b : List (Str × Value)) (m : Str → Option Value), (b.map (·.1)).Nodup → (x, v) ∈ b → bindC kindOf b m x = some v
  | (n, u) :: r, m, hn, hm => by
    simp only [List.map_cons, List.nodup_cons] at hn
    unfold bindC
    rcases List.mem_cons.mp hm with q | q
    · cases q
      rw [bindC_not r _ hn.1, if_neg hx]; simp
    · exact bindC_get hx r _ hn.2 q

theorem zip_fst {α β : Type} : ∀ {xs : List α} {ys : List β}, ys.length = xs.length → (xs.zip ys).map (·.1) = xs
  | [], _, _ => rfl
  | x :: xs, [], h => by simp at h
  | x :: xs, y :: ys, h => by simp only [List.zip_cons_cons, List.map_cons]; rw [zip_fst (by simpa using h)]
theorem IsAll.zip {g : Addr → Option Obj} : ∀ {xs : List Str} {vs : List Value} {ds : List PyData}, IsAll g vs ds → ∀ x d, (x, d) ∈ xs.zip ds → ∃ v, (x, v) ∈ xs.zip vs ∧ Is g v d
  | [], _, _, _, x, d, h => by simp at h
  | _ :: _, _, _, .nil, x, d, h => by simp at h
  | z :: xs, _, _, .cons (v := v) h1 h2, x, d, h => by
    rw [List.zip_cons_cons] at h
    rcases List.mem_cons.mp h with q | q
    · cases q; exact ⟨v, .head _, h1⟩
    · obtain ⟨u, a, b⟩ := IsAll.zip h2 x d q
      exact ⟨u, .tail _ a, b⟩

/-- how a def's body ends -/
def Ret (R : Heap → Heap → Value → Prop) (h₀ : Heap) (f : Flow) (h : Heap) : Prop := match f with
  | .ret v => R h₀ h v
  | .next => R h₀ h .none
  | _ => False

structure FdOk (d : DefRec) (xs : List Str) (body : List Stmt) : Prop where
  body : d.body = body
  kind : d.scope.kind = .function
  co : d.scope.isCoroutine = false
  gen : d.scope.isGenerator = false
  bind : ∀ (pm cd doc : Value) (vs : List Value), vs.length = xs.length → bindArgs (docDef d.name d.params d.body d.scope pm cd doc) ⟨vs, []⟩ = pure (xs.zip vs)
  nodup : xs.Nodup
  kinds : (xs.all fun y => d.scope.names.lookup y == some .local || d.scope.names.lookup y == some .cell) = true

theorem Kp.trans' {env : Env} {ls : List Addr} {s s₁ s' : Shared} (k : Kp s s₁) (m : Mv env ls s₁ s') (n : ∀ b o, s.heap.get? b = some o → ¬ mov env ls b) : Kp s s' := by
  obtain ⟨h, t, rfl, k⟩ := k
  obtain ⟨h', t', rfl, m⟩ := m
  exact ⟨h', t', rfl, fun b o e => m b o (n b o e) (k b o e)⟩
theorem call_coreV {mg : MG} {w : World} {A : Around} {s : Shared} {vs : List Value} {a : Addr} {ds : List PyData} {Q : Value → Shared → Prop} {E : Value → Shared → Prop} {d : DefRec} {xs : List Str} {body : List Stmt} (ok : FdOk d xs body) (hmem : d ∈ recsOf myView)
    (hlen : ds.length = xs.length) (hdep : A.depth < recursionLimit) (W : Wd mg w s.heap) (hmg : mg d.name = some (.ref a)) (i : IsAll s.heap.get? vs ds)
    (hbody : ∀ (env : Env) (s₁ : Shared), EnvOk env → env.scope = d.scope → env.frame = some env.locals → Kp s s₁ → (∀ y c, env.cells.lookup y = some c → s.heap.get? c = none) → (∀ y v, (y, v) ∈ xs.zip vs → Val env s₁.heap y v) → St (Base.at s.heap) env (xs.zip ds) [] s₁.heap →
      wpAny (model pw w) (A.deeper env) (execs body env) (fun f s' => Q (match f with | .ret v => v | _ => .none) s') (fun e s' => wpAny (model pw w) (A.deeper env) (leaving env e) (fun _ s'' => E e s'') (fun e' s'' => E e' s'') s') s₁) :
    wpAny (model pw w) A (call (.ref a) vs) Q E s := by
  obtain ⟨a', o, pm, cd, doc, hg', hl, hd, hcode⟩ := W.fn d hmem
  obtain rfl : a' = a := by rw [hmg] at hg'; cases hg'; rfl
  have hvs : vs.length = xs.length := i.length.trans hlen
  have hall : ((xs.zip vs).all fun y => d.scope.names.lookup y.1 == some .local || d.scope.names.lookup y.1 == some .cell) = true := by
    rw [List.all_eq_true]
    rintro ⟨x, v⟩ hm
    have hx : x ∈ xs := (List.of_mem_zip hm).1
    exact List.all_eq_true.mp ok.kinds x hx
  refine wpAny_call (codeAny_call_cells (fd := docDef d.name d.params d.body d.scope pm cd doc) (body := body) (binds := xs.zip vs) hdep hl hd (let ⟨_, T⟩ := W.T; T.nolimit) hcode (congrArg FuncBody.stmts ok.body) (ok.bind pm cd doc vs hvs) rfl (kindsX hall _) (fun s₁ x => ?_) ok.co ok.gen ok.kind)
  obtain ⟨h₁, tk₁, rfl⟩ := x.toInCall.same
  have keep := x.toInCall.keep
  have hL : s.heap.get? s.heap.objs.size = none := Heap.get?_none_of_le (Nat.le_refl _)
  have hnd : ((xs.zip vs).map (·.1)).Nodup := by rw [zip_fst hvs]; exact ok.nodup
  generalize henv : callEnvC (docDef d.name d.params d.body d.scope pm cd doc) s.heap.objs.size a' = env at x ⊢
  have hloc : env.locals = s.heap.objs.size := by rw [← henv]; rfl
  have hkind : ∀ y, env.kindOf y = d.scope.names.lookup y := fun y => by rw [← henv]; rfl
  have hcells : env.cells = cellsFrom (s.heap.objs.size + 1) d.scope.names [] := by rw [← henv]; rfl
  have hk : EnvOk env := by
    rw [← henv]
    exact ⟨ok.kind, rfl, rfl, fun y hy => Option.isSome_iff_exists.mp (cellsFrom_some _ _ _ (.inl hy))⟩
  have vals : ∀ y v, (y, v) ∈ xs.zip vs → Val env h₁ y v := fun y v hv => by
    rcases kindsX hall (s.heap.objs.size + 1) _ hv with hk | ⟨hk, hs⟩
    · exact .inl ⟨(hkind y).trans hk, _, x.toInCall.ns, bindL_get (kindOf := env.kindOf) ((hkind y).trans hk) _ _ hnd hv⟩
    · obtain ⟨c, hc⟩ := Option.isSome_iff_exists.mp hs
      have hnl : env.kindOf y ≠ some .local := by
        rw [hkind y, hk]; decide
      have := x.cell y c (hcells ▸ hc)
      rw [bindC_get hnl _ _ hnd hv] at this
      exact .inr ⟨(hkind y).trans hk, c, hcells ▸ hc, this⟩
  refine hbody env _ hk (by rw [← henv]; rfl) (by rw [← henv]; rfl) ⟨h₁, tk₁, rfl, keep⟩ (fun y c hc => Heap.get?_none_of_le (hloc ▸ Nat.le_of_lt (x.above y c (mem_of_lookup hc)))) vals ?_
  refine ⟨⟨_, x.toInCall.ns⟩, keep, hloc ▸ hL, fun y c hc => ⟨_, x.cell y c (hcells ▸ hc)⟩, fun y d hm => ?_, (fun _ _ _ h => nomatch h), List.nodup_nil, fun a e => by
    show s.heap.get? a = none
    cases q : s.heap.get? a with
    | none => rfl
    | some o => rw [keep _ _ q] at e; cases e⟩
  obtain ⟨v, hv, iv⟩ := i.zip y d hm
  exact ⟨v, vals y v hv, iv.mono fun a o _ _ e _ => hid_of (keep a o e) (by simp [Owns.at])⟩
theorem call_core {mg : MG} {w : World} {A : Around} {s : Shared} {vs : List Value} {a : Addr} {ds : List PyData} {Q : Value → Shared → Prop} {E : Value → Shared → Prop} {d : DefRec} {xs : List Str} {body : List Stmt} (ok : FdOk d xs body) (hmem : d ∈ recsOf myView)
    (hlen : ds.length = xs.length) (hdep : A.depth < recursionLimit) (W : Wd mg w s.heap) (hmg : mg d.name = some (.ref a)) (i : IsAll s.heap.get? vs ds)
    (hbody : ∀ (env : Env) (s₁ : Shared), EnvOk env → env.scope = d.scope → env.frame = some env.locals → Kp s s₁ → (∀ y c, env.cells.lookup y = some c → s.heap.get? c = none) → St (Base.at s.heap) env (xs.zip ds) [] s₁.heap →
      wpAny (model pw w) (A.deeper env) (execs body env) (fun f s' => Q (match f with | .ret v => v | _ => .none) s') (fun e s' => wpAny (model pw w) (A.deeper env) (leaving env e) (fun _ s'' => E e s'') (fun e' s'' => E e' s'') s') s₁) :
    wpAny (model pw w) A (call (.ref a) vs) Q E s :=
  call_coreV ok hmem hlen hdep W hmg i fun env s₁ a b c d e _ S => hbody env s₁ a b c d e S
theorem St.kp {env : Env} {s s₁ s' : Shared} {ρ : Vars} (S : St (Base.at s.heap) env ρ [] s₁.heap) (k : Kp s s₁) (hc : ∀ y c, env.cells.lookup y = some c → s.heap.get? c = none) (m : Mv env (Owns.at []) s₁ s') : Kp s s' := by
  refine k.trans' m fun b o e => ?_
  rintro (q | ⟨y, q⟩ | q)
  · rw [q] at e; rw [show s.heap.get? env.locals = none from S.fresh] at e; cases e
  · rw [hc y b q] at e; cases e
  · simp [Owns.at] at q
theorem tell_of {mg : MG} {w : World} {f : Str} {n : Nat} {ds : List PyData} {R : Heap → Heap → Value → Prop} {d : DefRec} {xs : List Str} {body : List Stmt} (ok : FdOk d xs body) (hl : (recsOf myView).find? (fun d => d.name == f) = some d)
    (hlen : ds.length = xs.length)
    (hbody : ∀ (A : Around) (env : Env) (h₀ : Base), Ro A n → Wd mg w h₀.h → EnvOk env → env.scope = d.scope → Ex mg w A env h₀ (xs.zip ds) [] body (Ret R h₀.h)) : Tell mg w f (n + 1) ds R := by
  have hmem : d ∈ recsOf myView := List.mem_of_find?_eq_some hl
  have hname : d.name = f := beq_iff_eq.mp (List.find?_some (p := fun e : DefRec => e.name == f) hl)
  refine ⟨List.any_eq_true.mpr ⟨d, hmem, beq_iff_eq.mpr hname⟩, fun A s vs a hA W hmg i => ?_⟩
  refine call_core ok hmem hlen (by have := hA.depth; lia) W (hname ▸ hmg) i fun env s₁ hk hsc _ kp hc S => ?_
  refine wpAny_no (wpAny_q (hbody (A.deeper _) env (Base.at s.heap) (hA.deeper _) W hk hsc _ S) fun fl s' ⟨m, p⟩ => ?_)
  have kp := S.kp kp hc m
  cases fl with
  | ret v => exact ⟨kp, p⟩
  | next => exact ⟨kp, p⟩
  | brk => exact p.elim
  | cont => exact p.elim

section
variable {mg : MG} {w : World} {A : Around} {env : Env} {h₀ : Base} {ρ : Vars} {ω : Owns}
end
end
end Mine
end
section
open PySem PySem.W PyProof.Rows PySem.Calls PySem.SeqAt
set_option maxRecDepth 100000
set_option linter.unusedVariables false
namespace Mine
noncomputable section
section
variable {mg : MG} {w : World} {A : Around} {env : Env} {h₀ : Base} {ρ : Vars} {ω : Owns}
theorem old_store {h h' : Heap} {x : Str} {v : Value} {m : Str → Option Value} {X : List Addr} (hn : h.Ns env.locals m) (hn' : h'.Ns env.locals (fun y => if y = x then some v else m y)) (hs : Heap.SameBut env.locals h h') {y : Str} {u : Value} {dy : PyData} (hy : y ≠ x)
    (V : Val env h y u) (i : Is (hid h X) u dy) : Val env h' y u ∧ Is (hid h' X) u dy := by
  have nsu : ∀ {m'}, h.Ns env.locals m' → ∀ y, m' y = m y := fun {m'} q y => by
    obtain ⟨o, es, ep, e, dd, _, f⟩ := hn
    obtain ⟨o', es', ep', e', dd', _, f'⟩ := q
    rw [e] at e'; cases e'; rw [dd] at dd'; cases dd'
    rw [← f, ← f']
  refine ⟨?_, i.mono fun a o vs n e q => hid_of ((hs.2 a (notLocals hn (hid_le e) (.inl ⟨_, _, q⟩))).trans (hid_le e)) (hid_not e)⟩
  rcases V with ⟨a, m', b, c⟩ | ⟨a, c, b, o, e, dd⟩
  · exact .inl ⟨a, _, hn', by simp only [if_neg hy]; rw [← nsu b]; exact c⟩
  · exact .inr ⟨a, c, b, o, (hs.2 _ (notLocals hn e (.inr ⟨_, dd⟩))).trans e, dd⟩
theorem ex_pairOO {x y xp yp e₁ e₂ ek ep pos rest ds₁ ds₂ tk tp} {P : Flow → Heap → Prop} (hA : Ro A 0) (hk : EnvOk env) (hx : env.kindOf x = some .local) (hy : env.kindOf y = some .local) (hxy : x ≠ y)
    (q₁ : EvN mg w A env h₀ ρ ω e₁ ds₁) (q₂ : EvN mg w A env h₀ ρ ω e₂ ds₂) (h1 : ds₁.all flat = true) (h2 : ds₂.all flat = true)
    (r : ∀ l₁ l₂, Ex mg w A env h₀ (del x (del y ρ)) ((x, ds₁, l₁) :: delO x ((y, ds₂, l₂) :: delO y ω)) rest P)
    (he₁ : starEach [e₁, e₂] env = (false, eval e₁ env) :: starEach [e₂] env) (he₂ : starEach [e₂] env = (false, eval e₂ env) :: starEach [] env)
    (hs : swapsWithSole [.Tuple [.Name x xp, .Name y yp] tk tp] (.Tuple [e₁, e₂] ek ep) pos.line env = pure false) (hw : swappedStores [.Tuple [.Name x xp, .Name y yp] tk tp] (.Tuple [e₁, e₂] ek ep) env = pure (some [x, y])) :
    Ex mg w A env h₀ ρ ω (.Assign [.Tuple [.Name x xp, .Name y yp] tk tp] (.Tuple [e₁, e₂] ek ep) pos :: rest) P := fun s S => by
  refine wpAny_execs_cons ?_
  rw [exec_Assign_arm]
  refine wpAny_bind (wpAny_standAt ?_)
  rw [hs]
  refine wpAny_bind (wpAny_pure ?_)
  rw [if_neg (by decide)]
  refine wpAny_bind (wpAny_Tuple (wpAny_items_cons (wpAny_q (q₁ s S) fun v₁ s₁ ⟨k₁, n₁⟩ => wpAny_items_cons (wpAny_q (q₂ s₁ (S.keeps k₁.get)) fun v₂ s₂ ⟨k₂, n₂⟩ => wpAny_items_nil ⟨by show 2 ≤ sizeLine; decide, ?_⟩) he₂) he₁))
  rw [hw]
  refine wpAny_bind (wpAny_pure ?_)
  obtain ⟨l₁, vs₁, rfl, hn₁, p₁, i₁⟩ := n₁
  obtain ⟨l₂, vs₂, rfl, hn₂, p₂, i₂⟩ := n₂
  have k₃ := Kp.push s₂ { cls := .type "tuple", data := .seq #[.ref l₁, .ref l₂] }
  obtain ⟨c₁, g₁⟩ := p₁
  obtain ⟨c₂, g₂⟩ := p₂
  have hne : l₁ ≠ l₂ := fun e => by rw [e, hn₂] at g₁; cases g₁
  have hn₂' : s.heap.get? l₂ = none := none_of k₁ hn₂
  have nω : ∀ l, s.heap.get? l = none → l ∉ ω.at := fun l h hm => by
    obtain ⟨o, e', _⟩ := S.lists l hm
    rw [h] at e'; cases e'
  show wpAny _ A (do
    rule "assign.swapped-stores"
    let items ← unpackItems (.ref s₂.heap.objs.size) 2 none
    assignInOrder ([x, y].reverse.map fun n => bindName env n) items.reverse
    pure Flow.next) _ _ _
  refine wpAny_bind (wpAny_rule ?_)
  refine wpAny_bind ?_
  refine wpAny_unpackItems_tuple (items := #[.ref l₁, .ref l₂]) (s := { s₂ with heap := s₂.heap.push { cls := .type "tuple", data := .seq #[.ref l₁, .ref l₂] } }) hA.handled ⟨_, Heap.get?_push_size _ rfl, rfl, _, rfl⟩ fun h' he => ?_
  have k₄ : Kp { s₂ with heap := s₂.heap.push { cls := .type "tuple", data := .seq #[.ref l₁, .ref l₂] } } { s₂ with heap := h' } := ⟨h', s₂.toks, rfl, fun b o e => he b o (Nat.ne_of_lt (Heap.lt_size e)) e⟩
  have k₂₄ := k₃.trans k₄
  have kk := (k₁.trans k₂).trans k₂₄
  have S₄ := S.keeps kk.get
  obtain ⟨m, hn⟩ := S₄.ns
  have g₁' := k₂₄.get _ _ (k₂.get _ _ g₁)
  have g₂' := k₂₄.get _ _ g₂
  have i₁' := i₁.mono (get_mono (k₂.trans k₂₄).get)
  have i₂' := i₂.mono (get_mono k₂₄.get)
  have oldX : ∀ z dz, (z, dz) ∈ ρ → ∃ u, Val env h' z u ∧ Is (hid h' (l₁ :: l₂ :: ω.at)) u dz := fun z dz hm => by
    obtain ⟨u, V, iu⟩ := S.vars z dz hm
    refine ⟨u, V.keeps kk.get, iu.mono fun a o us n e q => hid_of (kk.get _ _ (hid_le e)) fun ha => ?_⟩
    rcases List.mem_cons.mp ha with q | ha
    · rw [q] at e; have := hid_le e; rw [hn₁] at this; cases this
    · rcases List.mem_cons.mp ha with q | q
      · rw [q] at e; have := hid_le e; rw [hn₂'] at this; cases this
      · exact hid_not e q
  have less : ∀ {h : Heap} {X Y : List Addr} {u dz}, (∀ a ∈ Y, a ∈ X) → Is (hid h X) u dz → Is (hid h Y) u dz := fun k i => i.mono fun a o us n e q => hid_of (hid_le e) fun ha => hid_not e (k a ha)
  show wpAny _ A (assignInOrder [bindName env y, bindName env x] [.ref l₂, .ref l₁] >>= fun _ => pure Flow.next) _ _ _
  refine wpAny_bind ?_
  refine wpAny_assignInOrder_more (wpAny_bindName (wpAny_storeName_local hy hn (fun h₅ hn₅ hs₅ => ?_) (store_plain hk)))
  have S₅ := S₄.own hn hy hn₅ hs₅ (S.notOld hn₂') (nω _ hn₂') ⟨c₂, g₂'⟩ i₂' h2 fun z dz hm => let ⟨u, V, iu⟩ := oldX z dz hm; ⟨u, V, less (fun a ha => .tail _ ha) iu⟩
  refine wpAny_assignInOrder_more (wpAny_bindName (wpAny_storeName_local hx hn₅ (fun h₆ hn₆ hs₆ => ?_) (store_plain hk)))
  have nl₁ : l₁ ∉ Owns.at ((y, ds₂, l₂) :: delO y ω) := fun hm => by
    rcases List.mem_cons.mp hm with q | q
    · exact hne q
    · exact nω _ hn₁ (delO_at q)
  have g₁₅ := (hs₅.2 _ (notLocals hn g₁' (.inl ⟨_, _, rfl⟩))).trans g₁'
  have i₁₅ := i₁'.flatMono (fun a o us n e c z => (hs₅.2 a (notLocals hn e (.inl ⟨_, _, z⟩))).trans e) h1
  have S₆ := S₅.own hn₅ hx hn₆ hs₆ (S.notOld hn₁) nl₁ ⟨c₁, g₁₅⟩ i₁₅ h1 fun z dz hm => by
    obtain ⟨hm, hz⟩ := mem_del.mp hm
    obtain ⟨u, V, iu⟩ := oldX z dz hm
    obtain ⟨V', iu'⟩ := old_store hn hn₅ hs₅ hz V iu
    refine ⟨u, V', less (fun a ha => ?_) iu'⟩
    rcases List.mem_cons.mp ha with q | q
    · exact q ▸ .head _
    · rcases List.mem_cons.mp q with q | q
      · exact .tail _ (q ▸ .head _)
      · exact .tail _ (.tail _ (delO_at q))
  refine wpAny_assignInOrder_none (wpAny_pure ?_)
  refine wpAny_q (r l₁ l₂ _ S₆) fun f s₇ ⟨m₇, p⟩ => ⟨?_, p⟩
  have m₆ : Mv env ω.at s { s₂ with heap := h₆ } := kk.mv ⟨h₆, _, rfl, fun a o n e => (hs₆.2 a fun q => n (.inl q)).trans ((hs₅.2 a fun q => n (.inl q)).trans e)⟩
  refine m₆.trans m₇ fun a ha => ?_
  rcases List.mem_cons.mp ha with q | q
  · exact .inr (q ▸ hn₁)
  · rcases List.mem_cons.mp (delO_at q) with q | q
    · exact .inr (q ▸ hn₂')
    · exact .inl (delO_at q)
theorem ex_pairOV {x y z xp yp zp e₁ ek ep pos rest ds₁ d₂ tk tp} {P : Flow → Heap → Prop} (hA : Ro A 0) (hk : EnvOk env) (hx : env.kindOf x = some .local) (hy : env.kindOf y = some .local) (hxy : x ≠ y)
    (q₁ : EvN mg w A env h₀ ρ ω e₁ ds₁) (hz : (z, d₂) ∈ ρ) (hdb : (z == ("__debug__" : Str)) = false) (hoy : ∀ ds l, (y, ds, l) ∉ ω) (h1 : ds₁.all flat = true)
    (r : ∀ l₁, Ex mg w A env h₀ (del x ((y, d₂) :: del y ρ)) ((x, ds₁, l₁) :: delO x ω) rest P)
    (he₁ : starEach [e₁, .Name z zp] env = (false, eval e₁ env) :: starEach [(.Name z zp)] env) (he₂ : starEach [(.Name z zp)] env = (false, eval (.Name z zp) env) :: starEach [] env)
    (hs : swapsWithSole [.Tuple [.Name x xp, .Name y yp] tk tp] (.Tuple [e₁, .Name z zp] ek ep) pos.line env = pure false) (hw : swappedStores [.Tuple [.Name x xp, .Name y yp] tk tp] (.Tuple [e₁, .Name z zp] ek ep) env = pure (some [x, y])) :
    Ex mg w A env h₀ ρ ω (.Assign [.Tuple [.Name x xp, .Name y yp] tk tp] (.Tuple [e₁, .Name z zp] ek ep) pos :: rest) P := fun s S => by
  refine wpAny_execs_cons ?_
  rw [exec_Assign_arm]
  refine wpAny_bind (wpAny_standAt ?_)
  rw [hs]
  refine wpAny_bind (wpAny_pure ?_)
  rw [if_neg (by decide)]
  obtain ⟨u₀, V₀, iu₀⟩ := S.vars z d₂ hz
  refine wpAny_bind (wpAny_Tuple (wpAny_items_cons (wpAny_q (q₁ s S) fun v₁ s₁ ⟨k₁, n₁⟩ => wpAny_items_cons (load_val hk.kind (V₀.keeps k₁.get) (wpAny_items_nil ⟨by show 2 ≤ sizeLine; decide, ?_⟩) hdb) he₂) he₁))
  rw [hw]
  refine wpAny_bind (wpAny_pure ?_)
  obtain ⟨l₁, vs₁, rfl, hn₁, p₁, i₁⟩ := n₁
  have k₃ := Kp.push s₁ { cls := .type "tuple", data := .seq #[.ref l₁, u₀] }
  obtain ⟨c₁, g₁⟩ := p₁
  have nω : ∀ l, s.heap.get? l = none → l ∉ ω.at := fun l h hm => by
    obtain ⟨o, e', _⟩ := S.lists l hm
    rw [h] at e'; cases e'
  show wpAny _ A (do
    rule "assign.swapped-stores"
    let items ← unpackItems (.ref s₁.heap.objs.size) 2 none
    assignInOrder ([x, y].reverse.map fun n => bindName env n) items.reverse
    pure Flow.next) _ _ _
  refine wpAny_bind (wpAny_rule ?_)
  refine wpAny_bind ?_
  refine wpAny_unpackItems_tuple (items := #[.ref l₁, u₀]) (s := { s₁ with heap := s₁.heap.push { cls := .type "tuple", data := .seq #[.ref l₁, u₀] } }) hA.handled ⟨_, Heap.get?_push_size _ rfl, rfl, _, rfl⟩ fun h' he => ?_
  have k₄ : Kp { s₁ with heap := s₁.heap.push { cls := .type "tuple", data := .seq #[.ref l₁, u₀] } } { s₁ with heap := h' } := ⟨h', s₁.toks, rfl, fun b o e => he b o (Nat.ne_of_lt (Heap.lt_size e)) e⟩
  have k₁₄ := k₃.trans k₄
  have kk := k₁.trans k₁₄
  have S₄ := S.keeps kk.get
  obtain ⟨m, hn⟩ := S₄.ns
  have g₁' := k₁₄.get _ _ g₁
  have i₁' := i₁.mono (get_mono k₁₄.get)
  have up : ∀ {u dz}, Is (hid s.heap ω.at) u dz → Is (hid h' (l₁ :: ω.at)) u dz := fun iu => iu.mono fun a o us n e q => hid_of (kk.get _ _ (hid_le e)) fun ha => by
    rcases List.mem_cons.mp ha with q | q
    · rw [q] at e; have := hid_le e; rw [hn₁] at this; cases this
    · exact hid_not e q
  have less : ∀ {h : Heap} {X Y : List Addr} {u dz}, (∀ a ∈ Y, a ∈ X) → Is (hid h X) u dz → Is (hid h Y) u dz := fun k i => i.mono fun a o us n e q => hid_of (hid_le e) fun ha => hid_not e (k a ha)
  show wpAny _ A (assignInOrder [bindName env y, bindName env x] [u₀, .ref l₁] >>= fun _ => pure Flow.next) _ _ _
  refine wpAny_bind ?_
  refine wpAny_assignInOrder_more (wpAny_bindName (wpAny_storeName_local hy hn (fun h₅ hn₅ hs₅ => ?_) (store_plain hk)))
  have S₅ := S₄.store hn hy hn₅ hs₅ (less (fun a ha => .tail _ ha) (up iu₀)) hoy
  refine wpAny_assignInOrder_more (wpAny_bindName (wpAny_storeName_local hx hn₅ (fun h₆ hn₆ hs₆ => ?_) (store_plain hk)))
  have g₁₅ := (hs₅.2 _ (notLocals hn g₁' (.inl ⟨_, _, rfl⟩))).trans g₁'
  have i₁₅ := i₁'.flatMono (fun a o us n e c z => (hs₅.2 a (notLocals hn e (.inl ⟨_, _, z⟩))).trans e) h1
  have S₆ := S₅.own hn₅ hx hn₆ hs₆ (S.notOld hn₁) (nω _ hn₁) ⟨c₁, g₁₅⟩ i₁₅ h1 fun z' dz hm => by
    rcases List.mem_cons.mp hm with q | hm
    · cases q
      exact ⟨u₀, .inl ⟨hy, _, hn₅, by simp⟩, (up iu₀).mono fun a o vs n e q => hid_of ((hs₅.2 a (notLocals hn (hid_le e) (.inl ⟨_, _, q⟩))).trans (hid_le e)) (hid_not e)⟩
    · obtain ⟨hm, hz'⟩ := mem_del.mp hm
      obtain ⟨u, V, iu⟩ := S.vars z' dz hm
      obtain ⟨V', iu'⟩ := old_store hn hn₅ hs₅ hz' (V.keeps kk.get) (up iu)
      exact ⟨u, V', iu'⟩
  refine wpAny_assignInOrder_none (wpAny_pure ?_)
  refine wpAny_q (r l₁ _ S₆) fun f s₇ ⟨m₇, p⟩ => ⟨?_, p⟩
  have m₆ : Mv env ω.at s { s₁ with heap := h₆ } := kk.mv ⟨h₆, _, rfl, fun a o n e => (hs₆.2 a fun q => n (.inl q)).trans ((hs₅.2 a fun q => n (.inl q)).trans e)⟩
  refine m₆.trans m₇ fun a ha => ?_
  rcases List.mem_cons.mp ha with q | q
  · exact .inr (q ▸ hn₁)
  · exact .inl (delO_at q)
end
end
end Mine
end
section
open PySem PySem.W PyProof.Rows PySem.Calls PySem.SeqAt
set_option maxRecDepth 100000
set_option linter.unusedVariables false
namespace Mine
noncomputable section

theorem compLoop_go {prog : Program} {w : World} {A : Around} {R : Result → Shared → Prop} {s : Shared} {elt target iter : Expr} {scope : Scope} {pos : Pos} {it acc : Value} {env : Env} (I : Nat → Shared → Prop)
    (turn : ∀ n s, I n s → wpAny (model prog w) A (pyNext it) (fun r s₁ => match r with
      | none => R (.ok .next) s₁
      | some v => wpAny (model prog w) A (letOwnedTupleGo target it v) (fun _ s₁' => wpAny (model prog w) A (assign target env v) (fun _ s₂ => wpAny (model prog w) A (eval elt env) (fun x s₃ =>
          wpAny (model prog w) A (call (.builtin "list.append") [acc, x]) (fun _ s₄ => ∃ m, m < n ∧ I m s₄) No s₃) No s₂) No s₁') No s₁) No s)
    (n : Nat) (h : I n s) :
    codeAny (model prog w) A (.compLoop (.ListComp elt [⟨target, iter, [], 0⟩] scope pos) 0 it acc env) R s := by
  refine codeAny_loop rfl I (fun n s hI => ?_) n h
  show wpAny _ _ ((compTurn (.ListComp elt [⟨target, iter, [], 0⟩] scope pos) 0 it acc env).onRaise (fun x => do noteFrame x env; theTreesLotGoes x)) _ _ s
  refine wpAny_noted ?_
  rw [compTurn_list1]
  refine wpAny_bind (wpAny_standAt (wpAny_bind (wpAny_q (turn n s hI) (fun r s₁ h₁ => ?_))))
  cases r with
  | none => exact wpAny_pure h₁
  | some v =>
    refine wpAny_bind (wpAny_q h₁ fun _ s₁' h₁' => ?_)
    exact wpAny_bind (wpAny_q h₁' (fun _ s₂ h₂ => wpAny_bind (wpAny_bind (wpAny_q h₂ (fun x s₃ h₃ => wpAny_bind (wpAny_q h₃
      (fun _ s₄ h₄ => wpAny_pure (wpAny_pure ⟨rfl, h₄⟩))))))))

section
variable {mg : MG} {w : World} {A : Around} {env : Env} {h₀ : Base} {ρ : Vars} {ω : Owns}

def EnumAt (h h' : Heap) (v : Value) (ds : List PyData) : Prop := ∃ e it l items n, v = .ref e ∧ IsEnum h' e it 0 .none ∧ h'.IsListIter it l 0 ∧ h'.get? l = some { cls := .type "list", data := .seq items n } ∧ IsAll h'.get? items.toList ds ∧ h.get? e = none ∧ h.get? it = none ∧ e ≠ it ∧ l ≠ e ∧ l ≠ it
theorem b_enum {ds : List PyData} : BTells mg w A (.type "enumerate") [.list ds] (fun h h' v => EnumAt h h' v ds) := fun s vs i => by
  obtain ⟨v, rfl, h1⟩ := i.one
  obtain ⟨a, vs, n, rfl, e, i⟩ := h1.lst_plain
  have hlt : a < s.heap.objs.size := Heap.lt_size e
  refine call_enumerate_list ⟨_, e, rfl, n, rfl⟩ fun h' he hit hsz hk => ⟨⟨h', s.toks, rfl, hk⟩, _, _, a, vs, n, rfl, he, hit, hk _ _ e, i.mono (get_mono hk), Heap.get?_none_of_le (Nat.le_succ _), Heap.get?_none_of_le (Nat.le_refl _), Nat.succ_ne_self _, ?_, Nat.ne_of_lt hlt⟩
  exact Nat.ne_of_lt (Nat.lt_succ_of_lt hlt)

theorem evN_compE {elt iter : Expr} {x y : Str} {px py pt : Pos} {tk : Nat} {scope : Scope} {pos : Pos} {ds rs : List PyData} {cl : List (Str × Addr)} {ρc : Vars}
    (hcell : ∀ y ∈ scope.names, y.2 ≠ .cell) (hkind : scope.kind = .function)
    (hnames : ∀ y ∈ scope.names, y.2 = .local → scope.names.lookup y.1 = some .local) (hx : scope.names.lookup x = some .local) (hy : scope.names.lookup y = some .local) (hxy : x ≠ y)
    (hclos : closureFor scope env = pure cl) (hcl : ∀ x c, cl.lookup x = some c → ∃ y, env.cells.lookup y = some c)
    (hh : A.handled = none)
    (hi : ∀ s, St h₀ env ρ ω s.heap → wpAny (model pw w) A (eval iter env) (fun v s' => Kp s s' ∧ EnumAt s.heap s'.heap v ds) No s)
    (hρ : ∀ p ∈ ρc, p ∈ ρ ∧ env.kindOf p.1 = some .cell ∧ cl.lookup p.1 = env.cells.lookup p.1 ∧ (relabel scope env).names.lookup p.1 = some .cell)
    (hlen : rs.length = ds.length) (hfl : rs.all flat = true) (hz : ds.length ≤ sizeLine)
    (he : ∀ h₁ C (i : Nat) d r, (∀ a o, h₀.h.get? a = some o → h₁.h.get? a = some o) → ds[i]? = some d → rs[i]? = some r → Ev mg w A (compEnvC scope cl C env) h₁ ((x, .int i) :: (y, d) :: ρc) [] elt r)
    (hs : ∀ x, foldedSetIterable iter env x = pure x := by intro _; rfl) :
    EvN mg w A env h₀ ρ ω (.ListComp elt [⟨.Tuple [.Name x px, .Name y py] tk pt, iter, [], 0⟩] scope pos) rs := fun s S => by
  rw [eval_ListComp]
  refine wpAny_comprehension_free (use := none) rfl hs hclos hkind hnames (wpAny_q (hi s S) fun xv s₂ h₂ => ?_)
  obtain ⟨k₂, I, it, l, items, nn, rfl, hst0, hst1, hst2, hia0, hIn, hitn, hIit, hlI, hlit⟩ := h₂
  have Wk := WalksT.enumerate (prog := pw) (w := w) hh I it l hIit hlI hlit items
  have hst : (∃ old, IsEnum s₂.heap I it ((0 : Nat) : Int) old) ∧ s₂.heap.IsListIter it l 0 ∧ s₂.heap.IsList l items := ⟨⟨_, hst0⟩, hst1, ⟨_, hst2, rfl, nn, rfl⟩⟩
  have hsz : items.size = ds.length := by simpa using hia0.length
  refine wpAny_pyIter_enum hst0 ?_
  have S₂ := S.keeps k₂.get
  refine wpAny_newObj_type (wpAny_newFunctionEnv hcell (by intro y hy; simp at hy) (fun H hns hsb => ?_) hkind)
  dsimp only at hns hsb ⊢
  generalize hH2 : s₂.heap.push { cls := .type "list", dict := none, data := .seq ([] : List Value).toArray } = H2 at hns hsb ⊢
  have fpin : ∀ b ∈ [I, it, l], ∃ o, s₂.heap.get? b = some o := fun b hb => by
    rcases List.mem_cons.mp hb with rfl | hb
    · exact ⟨_, hst0⟩
    · rcases List.mem_cons.mp hb with rfl | hb
      · exact ⟨_, hst1.choose_spec.1⟩
      · rw [List.mem_singleton.mp hb]; exact ⟨_, hst2⟩
  have wrn : ∀ b ∈ [I, it], s.heap.get? b = none := fun b hb => by
    rcases List.mem_cons.mp hb with rfl | hb
    · exact hIn
    · rw [List.mem_singleton.mp hb]; exact hitn
  have wrf : ∀ {i : Nat} {old : Value} {h : Heap}, IsEnum h I it (i : Int) old → h.IsListIter it l i → ∀ b ∈ [I, it], ∃ o vs, h.get? b = some o ∧ o.data = .fields vs := fun a b' b hb => by
    rcases List.mem_cons.mp hb with rfl | hb
    · exact ⟨_, _, a, rfl⟩
    · rw [List.mem_singleton.mp hb]; obtain ⟨o, ho, _, hd⟩ := b'; exact ⟨o, _, ho, hd⟩
  have Z := compB k₂.get fpin wrn (fun _ => Wk.sub _) hH2 fun b o => hsb.extBut b o
  have hx' : (compEnvC scope cl H2.objs.size env).kindOf x = some .local := lookup_relabel_local hx
  have hy' : (compEnvC scope cl H2.objs.size env).kindOf y = some .local := lookup_relabel_local hy
  have plain : ((compEnvC scope cl H2.objs.size env).scope.kind == .class || ((compEnvC scope cl H2.objs.size env).scope.kind == .module && (compEnvC scope cl H2.objs.size env).locals != (compEnvC scope cl H2.objs.size env).globals)) = false := by simp [compEnvC, relabel, hkind]
  have loop : ∀ s₃ : Shared, s₃ = { s₂ with heap := H, toks := s₂.toks + ([] : List (Str × Value)).length } →
      codeAny (model pw w) A (.compLoop (.ListComp elt [⟨.Tuple [.Name x px, .Name y py] tk pt, iter, [], 0⟩] scope pos) 0 (.ref I) (.ref s₂.heap.objs.size) (compEnvC scope cl H2.objs.size env))
        (compPost (model pw w) A No none (fun v s' => Kp s s' ∧ NewL s.heap s'.heap v rs) (.ref s₂.heap.objs.size) H2.objs.size) s₃ := by
    rintro s₃ rfl
    refine compLoop_go
      (fun j s' => ∃ i h' tk m vs, s' = { s₂ with heap := h', toks := tk } ∧ j = ds.length + 1 - i ∧ i ≤ ds.length ∧ ((∃ old, IsEnum h' I it (i : Int) old) ∧ h'.IsListIter it l i ∧ h'.IsList l items) ∧ h'.PlainList s₂.heap.objs.size vs ∧ vs.size = i ∧ IsAll (hid h' (H2.objs.size :: s₂.heap.objs.size :: [I, it])) vs.toList (rs.take i) ∧ h'.Ns H2.objs.size m ∧
        (∀ b o, b ∉ [I, it] → s₂.heap.get? b = some o → h'.get? b = some o)) ?_ (ds.length + 1)
      ⟨0, H, _, _, #[], rfl, rfl, Nat.zero_le _, Wk.frame 0 _ _ hst (fun b _ o e => Z.old b o e), Z.acc, rfl, by simpa using IsAll.nil, hns, fun b o _ e => Z.old b o e⟩
    rintro j s' ⟨i, h', tk, m, vs, rfl, rfl, hi', hst', hpl, hvs, hia, hn, hk⟩
    by_cases hlt : i < ds.length
    · refine Wk.item i _ _ _ (by lia) hst' fun T vals h₃ tk₃ hPv hTn hT hMid hk₃ => ?_
      obtain ⟨tt, xx, hxx, rfl⟩ := hPv
      obtain ⟨d, hd⟩ : ∃ d, ds[i]? = some d := ⟨ds[i], by simp [hlt]⟩
      obtain ⟨r, hr⟩ : ∃ r, rs[i]? = some r := ⟨rs[i]'(by lia), by simp [hlen, hlt]⟩
      refine Wk.go _ _ _ i T _ _ _ hMid fun h₃' hst₃ hk₃' => ?_
      have hT' : h₃'.IsTuple T #[.int i tt, xx] := hT.at fun o e => hk₃' T o (Wk.apart i T h₃ hMid) e
      refine wpAny_assign_Tuple hh hT' rfl rfl fun h₅ hx₅ => ?_
      replace hx₅ : Heap.ExtBut h₃'.objs.size h₃' h₅ := hx₅
      have up₅ : ∀ b o, h₃'.get? b = some o → h₅.get? b = some o := fun b o x => hx₅ b o (Nat.ne_of_lt (Heap.lt_size x)) x
      have k35 : ∀ b o, b ∉ [I, it] → h'.get? b = some o → h₅.get? b = some o := fun b o hb e => up₅ b o (hk₃' b o hb (hk₃ b o hb e))
      have hn₅ : h₅.Ns H2.objs.size m := hn.at' fun o e => k35 _ o Z.Cw e
      show wpAny _ A (do holding [xx] (assign (.Name x px) (compEnvC scope cl H2.objs.size env) (.int i tt)); do holding [] (assign (.Name y py) (compEnvC scope cl H2.objs.size env) xx); pure ()) _ _ _
      refine wpAny_bind (wpAny_holding (wpAny_assign_Name (wpAny_storeName_local hx' hn₅ (fun h₆ hn₆ hs₆ => ?_) plain)))
      replace hs₆ : Heap.SameBut H2.objs.size h₅ h₆ := hs₆
      replace hn₆ : h₆.Ns H2.objs.size _ := hn₆
      refine wpAny_bind (wpAny_holding (wpAny_assign_Name (wpAny_storeName_local hy' hn₆ (fun h₇ hn₇ hs₇ => wpAny_pure ?_) plain)))
      replace hs₇ : Heap.SameBut H2.objs.size h₆ h₇ := hs₇
      replace hn₇ : h₇.Ns H2.objs.size _ := hn₇
      have k57 : ∀ b o, b ≠ H2.objs.size → h₅.get? b = some o → h₇.get? b = some o := fun b o hb e => hs₇.extBut b o hb (hs₆.extBut b o hb e)
      have k27 : ∀ b o, b ∉ [I, it] → s₂.heap.get? b = some o → h₇.get? b = some o := fun b o hb e => k57 b o (Z.below b o e).1 (k35 b o hb (hk b o hb e))
      have kS : ∀ b o, s.heap.get? b = some o → h₇.get? b = some o := fun b o e => let ⟨_, _, a, b'⟩ := Z.oldS b o e; k27 b o a b'
      have hpl₇ : h₇.PlainList s₂.heap.objs.size vs := (hpl.at fun o e => k35 _ o Z.Dw e).at fun o e => k57 _ o Z.ne e
      have iv : Is h₇.get? xx d := by
        obtain ⟨z, hz', iz⟩ := hia0.get i d hd
        have : xx = z := by
          have h1 : items.toList[i]? = some xx := by simpa using hxx
          rw [hz'] at h1; exact (Option.some.inj h1).symm
        subst this
        exact iz.mono fun b o zs n e hq => k27 b o (fun hm => by
          obtain ⟨o', zs', e', q'⟩ := wrf (i := 0) hst0 hst1 b hm
          rw [e] at e'; cases e'; rw [hq] at q'; cases q') e
      have St₇ : St (Base.at s.heap) (compEnvC scope cl H2.objs.size env) ([(x, .int i), (y, d)] ++ ρc) [] h₇ := comp_St S Z.Cs hn₇ kS hcl hρ fun y' dy q => by
        rcases List.mem_cons.mp q with q | q
        · cases q
          exact ⟨.int i tt, .inl ⟨hx', _, hn₇, by simp [hxy]⟩, .int _ _⟩
        · cases List.mem_singleton.mp q
          exact ⟨xx, .inl ⟨hy', _, hn₇, by simp⟩, iv⟩
      refine wpAny_q (he (Base.at s.heap) H2.objs.size i d r S.keep hd hr _ St₇) fun y s₈ ⟨k₈, i₈⟩ => ?_
      obtain ⟨h₈, tk₈, rfl, k₈⟩ := k₈
      replace k₈ : ∀ b o, h₇.get? b = some o → h₈.get? b = some o := k₈
      refine wpAny_list_append_plain (hpl₇.at fun o e => k₈ _ o e) (fun h₉ hl₉ hs₉ => ?_) (by lia)
      have hst₉ : (∃ old, IsEnum h₉ I it ((i + 1 : Nat) : Int) old) ∧ h₉.IsListIter it l (i + 1) ∧ h₉.IsList l items := Wk.frame (i + 1) _ _ hst₃ fun b hb o e => hs₉.extBut b o (fun q => Z.Df (q ▸ hb)) (k₈ b o (k57 b o (fun q => Z.Cf (q ▸ hb)) (up₅ b o e)))
      refine ⟨ds.length + 1 - (i + 1), by lia, i + 1, h₉, tk₈, _, vs.push y, rfl, rfl, hlt, hst₉, hl₉, by simp [hvs], ?_, (hn₇.keeps k₈).sameBut hs₉ (Ne.symm Z.ne), ?_⟩
      · have up := comp_up (h₆ := h₉) hia fun b o hC hD hw e => hs₉.extBut b o hD (k₈ b o (k57 b o hC (k35 b o hw e)))
        have iy := comp_new (h₆ := h₉) i₈ (List.all_eq_true.mp hfl r (List.mem_of_getElem? hr)) (hn₇.keeps k₈) (hpl₇.at fun o e => k₈ _ o e) (fun b hb => (wrf hst₃.1.choose_spec hst₃.2.1 b hb).imp fun o => .imp fun zs q => ⟨k₈ b o (k57 b o (fun z => Z.Cf (z ▸ Wk.sub _ hb)) (up₅ b o q.1)), q.2⟩) hs₉.extBut
        rw [List.take_add_one, hr]
        simpa using up.append (.cons iy .nil)
      · intro b o hb e
        exact hs₉.extBut b o (Z.below b o e).2 (k₈ b o (k27 b o hb e))
    · have hin : i = ds.length := by lia
      subst hin
      refine Wk.done _ _ _ (by rw [hsz]; exact hst') fun h₃ tk₃ hk₃ => ?_
      refine ⟨m, hn.at' fun o e => hk₃ _ o Z.Cw e, fun h₄ hs₄ => ?_⟩
      have kS : ∀ b o, s.heap.get? b = some o → h₄.get? b = some o := fun b o e => let ⟨a0, _, a, b'⟩ := Z.oldS b o e; hs₄.extBut b o a0 (hk₃ b o a (hk b o a b'))
      refine ⟨?_, s₂.heap.objs.size, vs, rfl, Z.Ds, (hpl.at fun o e => hk₃ _ o Z.Dw e).extBut hs₄.extBut Z.ne, ?_⟩
      · obtain ⟨hh, tt, rfl, _⟩ := k₂
        exact ⟨h₄, tk₃, rfl, kS⟩
      · rw [List.take_of_length_le (by lia)] at hia
        exact hia.mono fun b o zs n e hq => by
          have hb := hid_not e
          rw [List.mem_cons, List.mem_cons, not_or, not_or] at hb
          exact hs₄.extBut b o hb.1 (hk₃ b o hb.2.2 (hid_le e))
  exact codeAny_compStart_list (loop _ rfl) (Wk.self 0 _ _ _ (Wk.frame 0 _ _ hst fun b _ o e => Z.old b o e) (loop _ rfl))
end
end
end Mine
end
section
open PySem PySem.W PyProof.Rows PySem.Calls PySem.SeqAt
set_option maxRecDepth 100000
set_option linter.unusedVariables false
set_option maxHeartbeats 1000000
namespace Mine
noncomputable section

theorem tl_kind : typeLookup (.type "Exception") "kind" = pure none := by rw [typeLookup_type, builtinLookup_eq_fast]; kernel_rfl!
theorem tl_text : typeLookup (.type "Exception") "text" = pure none := by rw [typeLookup_type, builtinLookup_eq_fast]; kernel_rfl!
theorem casNs_at : casNs.lookup ("__init__" : Str) = some (.ref 28) ∧ casNs.lookup ("__setattr__" : Str) = none ∧ casNs.lookup ("kind" : Str) = none ∧ casNs.lookup ("text" : Str) = none ∧ casNs.lookup ("__getattribute__" : Str) = none ∧ casNs.lookup ("__getattr__" : Str) = none := by decide +kernel
theorem init_cls : findCls [] (.type "Exception") (.type "type") "__init__" = some (.val (.builtin "Exception.__init__")) := by kernel_rfl!
theorem getm_init {prog : Program} {w : World} {A : Around} {E : Value → Shared → Prop} {s : Shared} {pl : Sem Bool} {Q : Value × List Value → Shared → Prop} (h : Q (.builtin "Exception.__init__", []) { s with toks := s.toks + 1 }) : wpAny (model prog w) A (getMethod (.type "Exception") "__init__" pl) Q E s := by
  have X : Frag.In ([] : Frag) s.heap := fun _ _ e => nomatch e
  have hstub : opaqueClassAbove (.type "Exception") = pure none := by unfold opaqueClassAbove; dsimp only; rw [show Manifest.isStub "Exception" = false by decide +kernel]; rfl
  have ht : typeOf (.type "Exception") = pure (.type "type") := by first | rfl | kernel_rfl!
  have L0 : Looks (model prog w) s.heap (typeOf (.type "Exception")) (.type "type") := Looks.of_pure ht
  have hg : findIn [] (.type "type") "__getattribute__" = some (some (.builtin "type.__getattribute__")) := type_tga
  unfold getMethod specialOf
  refine wpAny_bind (wpAny_bind (L0.here ((looks_findIn X hg).here ?_)))
  dsimp only
  rw [if_pos canon_tga]
  refine wpAny_bind (wpAny_mono (Q := fun v => Q (v, [])) (E := E) ?_ (fun _ _ z => wpAny_pure z) fun _ _ z => z)
  have LO : Looks (model prog w) s.heap (opaqueClassAbove (.type "Exception")) none := Looks.of_pure hstub
  refine cls_open X LO L0 hg (looks_hook X (r := none) (by rfl)) (by show subIn [] _ _ = _; rfl) init_cls
    (wpAny_pure (by show wpAny _ _ (handedOut _) _ _ _; rw [handedOut_of (by rfl)]; exact wpAny_pure h))

theorem exc_init {prog : Program} {w : World} {A : Around} {E : Value → Shared → Prop} {s : Shared} {e : Addr} {ob : Obj} {vs : Array Value} {t0 : Addr} {x : Value} {Q : Value → Shared → Prop} (hC : s.heap.get? 31 = some casObj) (he : s.heap.get? e = some ob) (hcls : ob.cls = .ref 31) (hd : ob.data = .fields vs) (h0 : vs[0]? = some (.ref t0))
    (h : ∀ h' o', (∀ b o, b ≠ e → s.heap.get? b = some o → h'.get? b = some o) → h'.get? e = some o' → o'.cls = .ref 31 → o'.dict = ob.dict → (∃ t', o'.data = .fields (vs.setIfInBounds 0 (.ref t'))) → Q .none { s with heap := h' }) :
    wpAny (model prog w) A (call (.builtin "Exception.__init__") [.ref e, x]) Q E s := by
  obtain ⟨hp, g, d, tk, os⟩ := s
  refine wpAny_call (codeAny_call_builtin F.excBase_Exception.init.plain F.excBase_Exception.initEntry (wpAny_check_init_sub F.excBase_Exception hC he hcls ?_))
  unfold Builtin.«BaseException.__init__»
  dsimp only
  rw [if_neg (by simp)]
  unfold newTuple Builtin.BaseException.bexcPut
  have hsz : 0 < vs.size := (Array.getElem?_eq_some_iff.mp h0).1
  have he₁ := Heap.get?_push_of_some (h := hp) { cls := .type "tuple", data := .seq [x].toArray } he
  refine wpAny_bind (wpAny_newObj_type (wpAny_bind (wpAny_bind (wpAny_field he₁ hd h0 (wpAny_bind (wpAny_setField he₁ hd hsz ?_))))) (by size_fits))
  refine wpAny_letGo (wpAny_pure (h _ _ (fun b o hb e' => ?_) (Heap.get?_update_self _ he₁ (Obj.isFreed_of_fields (Obj.data_mapFields hd _))) ((Obj.cls_mapFields ..).trans hcls) ?_ ⟨_, Obj.data_mapFields hd _⟩))
  · exact (Heap.get?_update_other _ _ (Ne.symm hb)).trans (Heap.get?_push_of_some _ e')
  · cases ob; cases hd; rfl

theorem mem_of_lookup' {α : Type} {x : Str} {d : α} : ∀ {l : List (Str × α)}, l.lookup x = some d → (x, d) ∈ l
  | (y, e) :: r, h => by
    rw [List.lookup_cons] at h
    split at h
    · rename_i q; rw [beq_iff_eq.mp q]; cases h; exact .head _
    · exact .tail _ (mem_of_lookup' h)
section
open Builtin Builtin.ObjectAttr
variable {prog : Program} {w : World} {A : Around} {E : Value → Shared → Prop} {h : Heap} {g : Array GenState} {d : Drawn} {t : Nat} {os : OsState} {x : Addr} {mN : Str → Option Value} {name : Str} {v : Value}
variable {nm q : Str} {C N : Addr} {bs bm : List Value} {sn : List Str} {sub : List Value} {ab : Bool} {col : Option Bool} {dd : Option Addr} {k0 k1 k2 k3 k5 : Option Value} {B newId sa owner : String}
theorem first_entry {tk : Tok} {Q : Fin → Shared → Prop} {o : Obj} (SF : StoreFacts B bm sa owner) (hC : h.get? C = some (excClassObj nm q C N bs bm true sn sub ab col dd k0 k1 k2 k3 k5 newId)) (hn : h.Ns N mN) (hna : mN name = none)
    (hB : typeLookup (.type B) name = pure none) (hx : h.get? x = some o) (hc : o.cls = .ref C) (hdn : o.dict = none) (hnc : ∀ c, o.data ≠ .cls c)
    (hq : ∀ h' tk' D, h.get? D = none → h'.get? x = some { o with dict := some D } → D ≠ x → h'.Ns1 D (fun y => if y = name then some v else none) → (∀ b o, b ≠ x → h.get? b = some o → h'.get? b = some o) → Q (.done (.ret .none)) ⟨h', g, d, tk', os⟩) :
    wpAny (model prog w) A (Builtin.«object.__setattr__» ⟨[.ref x, .str name tk, v], []⟩) Q E ⟨h, g, d, t, os⟩ := by
  have hpass := SF.passes (.ref x)
  unfold Builtin.«object.__setattr__»
  repeat (first | rw [refuse_eq] | (rw [refuseLoop_ref, hpass]) | (with_reducible refine wpAny_loadPart_at hx ?_; rw [hc]) | with_reducible refine wpAny_mroOf_exc hC ?_ | (with_reducible refine wpAny_typeLookup_exc hC hn SF.mro hB ?_; rw [hna]) | wp_step)
  rw [hdn, if_neg (by simp [typeHasDict])]
  split
  · rename_i hcd
    cases hcd
  split
  · rename_i c hcd
    exact absurd hcd (hnc c)
  · have hx₁ : (h.push { cls := .type "dict", data := .dict #[] }).get? x = some o := Heap.get?_push_of_some _ hx
    have hxs : x ≠ h.objs.size := Nat.ne_of_lt (Heap.lt_size hx)
    refine wpAny_bind (wpAny_alloc' ?_)
    refine wpAny_bind (wpAny_update' hx₁ ?_)
    refine wpAny_pure ?_
    have hgd : ((h.push { cls := .type "dict", data := .dict #[] }).update x fun o => { cls := o.cls, dict := some h.objs.size, data := o.data, slots := o.slots }).get? h.objs.size
        = some { cls := .type "dict", data := .dict #[] } :=
      (Heap.get?_update_ne _ _ _ _ hxs.symm).trans (Heap.get?_push_at rfl rfl)
    have hnd : ((h.push { cls := .type "dict", data := .dict #[] }).update x fun o => { cls := o.cls, dict := some h.objs.size, data := o.data, slots := o.slots }).Ns h.objs.size (fun _ => none) :=
      ⟨_, #[], _, hgd, rfl, fun e he => absurd he (by simp), fun _ => rfl⟩
    show wpAny _ _ (storeInDict h.objs.size (.str name tk) name v) _ _ _
    unfold storeInDict newKeyGuard
    refine wpAny_bind (wpAny_pure (wpAny_bind (wpAny_nsSet1 (Heap.Ns1.of_empty hnd) fun h' hn' hs => ?_)))
    obtain ⟨oD, esD, epD, hoD, hdD, hcD⟩ := hn'.count (Within.cons name v Within.nil)
    refine wpAny_bind (wpAny_lookBehind hoD (by rw [hdD]; exact pastItsLine_dict (Nat.le_trans hcD (by rw [List.length_cons, List.length_nil, sizeLine_eq]; lia))) ?_)
    wp_walk
    refine hq h' _ h.objs.size (Heap.get?_none_of_le (Nat.le_refl _)) ?_ hxs.symm hn' fun b ob hbx hb => (hs.2 b (Nat.ne_of_lt (Heap.lt_size hb))).trans ((Heap.get?_update_ne _ _ _ _ hbx).trans (Heap.get?_push_of_some _ hb))
    refine (hs.2 x hxs).trans (Heap.get?_update_self _ hx₁ ?_)
    have hfr := (Heap.get?_some_iff.mp hx).2
    obtain ⟨oc, od, odt, osl⟩ := o
    cases odt <;> first | rfl | exact hfr
theorem first_attr {Q : Unit → Shared → Prop} {o : Obj} (SF : StoreFacts B bm sa owner) (hC : h.get? C = some (excClassObj nm q C N bs bm true sn sub ab col dd k0 k1 k2 k3 k5 newId)) (hn : h.Ns N mN) (hns : mN "__setattr__" = none) (hna : mN name = none)
    (hB : typeLookup (.type B) name = pure none) (hx : h.get? x = some o) (hc : o.cls = .ref C) (hdn : o.dict = none) (hnc : ∀ c, o.data ≠ .cls c)
    (hq : ∀ h' tk' D, h.get? D = none → h'.get? x = some { o with dict := some D } → D ≠ x → h'.Ns1 D (fun y => if y = name then some v else none) → (∀ b o, b ≠ x → h.get? b = some o → h'.get? b = some o) → Q () ⟨h', g, d, tk', os⟩) :
    wpAny (model prog w) A (setAttr (.ref x) name v) Q E ⟨h, g, d, t, os⟩ := by
  have f3 := SF.slot.bind (.ref x)
  unfold setAttr callSpecial? specialOf
  repeat (any_goals (first | assumption | (with_reducible refine wpAny_loadPart_at hx ?_; rw [hc]) | (with_reducible refine wpAny_typeLookup_exc hC hn SF.mro SF.slot.lookup ?_; rw [hns]) | wp_step))
  refine codeAny_call_builtin SF.slot.plain SF.entry (wpAny_check_sa SF hC hx hc (first_entry SF hC hn hna hB hx hc hdn hnc fun h' tk' D a b c e f => ?_))
  repeat (any_goals (first | assumption | wp_step))
  exact hq h' tk' D a b c e f
end
theorem call_args {M : Model} {A : Around} {s : Shared} {env : Env} {pos : Pos} {b : String} {e : Expr} {es : List Expr} {Q : Value → Shared → Prop} (he : starEach (e :: es) env = (false, eval e env) :: starEach es env) (hp : (backTo pos (starEach es env)).any (·.1) = false)
    (h : wpAny M A (spliced (backTo pos (starEach (e :: es) env))) (fun vs s' => wpAny M A (call (.builtin b) vs) Q No s') No s) : wpAny M A (callWith pos (.builtin b) [] (backTo pos (starEach (e :: es) env)) (backToKw pos (keywordEach [] env))) Q No s := by
  rw [he] at h ⊢
  refine callWith_of (P := fun _ => True) (by show ((false || (backTo pos (starEach es env)).any (·.1)) || false) = false; rw [hp]; rfl) (fun h _ => ⟨.machine, .inr (.inl rfl), Looks.of_pure rfl⟩) ?_
  exact evalArgs_plain (wpAny_q h fun vs s' x => ⟨trivial, x⟩)
theorem bo_exc : bootBuiltins (Str.ofString "Exception") = some (.type "Exception") := by boot_fast
theorem bf_exc : bFree (Str.ofString "Exception") = true := by decide +kernel
/-- an exception of the text's class, not yet raised -/
def Exc (h : Heap) (e D : Addr) (k : Str) : Prop := ∃ o vs m t, h.get? e = some o ∧ o.cls = .ref 31 ∧ o.dict = some D ∧ D ≠ e ∧ o.data = .fields vs ∧ vs[1]? = some .none ∧ h.Ns D m ∧ m "kind" = some (.str k t)
theorem cas_init {mg : MG} {w : World} {A : Around} {hW : Heap} {s : Shared} {e : Addr} {k x : Str} {t u : Tok} (hA : A.depth < recursionLimit) (W : Wd mg w hW) (kW : ∀ b o, hW.get? b = some o → s.heap.get? b = some o) (hn : hW.get? e = none)
    {tp : Addr} (he : s.heap.get? e = some { cls := .ref 31, data := .fields #[.ref tp, .none, .none, .none, .bool false, .none] }) (hk : k.length ≤ 100) (hx : x.length ≤ 100) :
    wpAny (model pw w) A (call (.ref 28) [.ref e, .str k t, .str x u]) (fun r s' => r = .none ∧ (∃ h' tk, s' = { s with heap := h', toks := tk } ∧ ∀ b o, b ≠ e → s.heap.get? b = some o → h'.get? b = some o) ∧ ∃ D, s.heap.get? D = none ∧ Exc s'.heap e D k) No s := by
  have hC := (W.keeps kW).cas.cls
  have hne : e ≠ 31 := fun q => by rw [q, W.cas.cls] at hn; cases hn
  refine wpAny_call (codeAny_call_cells (fd := casInit) (body := _) (binds := [(Str.ofString "self", .ref e), (Str.ofString "kind", .str k t), (Str.ofString "text", .str x u)]) hA (W.keeps kW).cas.fn rfl (let ⟨_, T⟩ := (W.keeps kW).T; T.nolimit) (W.keeps kW).cas.code rfl rfl rfl (by intro y hy; refine .inl ?_; rcases List.mem_cons.mp hy with rfl | hy; rfl; rcases List.mem_cons.mp hy with rfl | hy; rfl; rw [List.mem_singleton.mp hy]; rfl) (fun s₁ X => wpAny_no ?_) rfl rfl rfl)
  obtain ⟨h₁, tk₁, rfl⟩ := X.toInCall.same
  have keep := X.toInCall.keep
  have ns := X.toInCall.ns
  have hL : s.heap.get? s.heap.objs.size = none := Heap.get?_none_of_le (Nat.le_refl _)
  generalize henv : callEnvC casInit s.heap.objs.size 28 = env at X ns ⊢
  have hloc : env.locals = s.heap.objs.size := by rw [← henv]; rfl
  have hkind : ∀ y, env.kindOf y = casInit.scope.names.lookup y := fun y => by rw [← henv]; rfl
  have hcells : env.cells = [] := by rw [← henv]; rfl
  have hsk : env.scope.kind = .function := by rw [← henv]; rfl
  have hk' : EnvOk env := ⟨hsk, by rw [← henv]; rfl, by rw [← henv]; rfl, fun y hy => by
    rw [hkind] at hy
    exact absurd hy (by
      intro q
      have : (casInit.scope.names.all fun y => y.2 != .cell) = true := by decide +kernel
      have := List.all_eq_true.mp this _ (mem_of_lookup' q)
      simp at this)⟩
  have nd : ([(Str.ofString "self", Value.ref e), (Str.ofString "kind", .str k t), (Str.ofString "text", .str x u)].map (·.1)).Nodup := show ([Str.ofString "self", Str.ofString "kind", Str.ofString "text"] : List Str).Nodup by decide
  generalize hm : bindL env.kindOf [(Str.ofString "self", .ref e), (Str.ofString "kind", .str k t), (Str.ofString "text", .str x u)] (fun _ => none) = m at ns
  have m1 : m (Str.ofString "self") = some (.ref e) := by
    rw [← hm]; exact bindL_get (hkind _ ▸ rfl) _ _ nd (.head _)
  have m2 : m (Str.ofString "kind") = some (.str k t) := by
    rw [← hm]; exact bindL_get (hkind _ ▸ rfl) _ _ nd (.tail _ (.head _))
  have m3 : m (Str.ofString "text") = some (.str x u) := by
    rw [← hm]; exact bindL_get (hkind _ ▸ rfl) _ _ nd (.tail _ (.tail _ (.head _)))
  have ld : ∀ {s : Shared} {A : Around} {y : Str} {v : Value} {pos : Pos} {Q : Value → Shared → Prop}, s.heap.Ns env.locals m → casInit.scope.names.lookup y = some .local → m y = some v → (y == ("__debug__" : Str)) = false → Q v s → wpAny (model pw w) A (eval (.Name y pos) env) Q No s := fun n hl hv hd h =>
    load_val hsk (.inl ⟨(hkind _).trans hl, m, n, hv⟩) h hd
  have hLe : env.locals ≠ e := fun q => by rw [← q, hloc, hL] at he; cases he
  show wpAny (model pw w) (A.deeper env) (execs [.Expr (.Call (.Attribute (.Name (Str.ofString "Exception") _) "__init__" _) [.Name (Str.ofString "self") _, .BinOp (.BinOp (.Name (Str.ofString "kind") _) .Add (.Constant (.str ": ") _ _) _) .Add (.Name (Str.ofString "text") _) _] [] _) _,
    .Assign [.Attribute (.Name (Str.ofString "self") _) "kind" _] (.Name (Str.ofString "kind") _) _, .Assign [.Attribute (.Name (Str.ofString "self") _) "text" _] (.Name (Str.ofString "text") _) _] env) _ _ _
  have he₁ := keep _ _ he
  have W₁ := W.keeps fun b o q => keep b o (kW b o q)
  refine wpAny_execs_cons (wpAny_Expr (methodCall_KW (load_builtin hk' W₁ (hkind _ ▸ rfl) bf_exc bo_exc (by decide) (getm_init ?_) (by decide))) (by unfold interactive; rw [hsk]; rfl) rfl)
  refine call_args rfl rfl (wpAny_items_cons (ld ns rfl m1 (by decide) (wpAny_items_cons (wpAny_BinOp (wpAny_BinOp (ld ns rfl m2 (by decide) (wpAny_Constant_str (PyProof.Rows.add_str (fun t' tk => ld ns rfl m3 (by decide) (PyProof.Rows.add_str (fun t'' tk' => wpAny_items_nil ?_) ?_)) ?_))))) rfl)) rfl)
  · refine exc_init (vs := #[.ref tp, .none, .none, .none, .bool false, .none]) W₁.cas.cls he₁ rfl rfl rfl fun h₂ o₂ k₂ e₂ c₂ d₂ dt₂ => ?_
    obtain ⟨t', dt₂⟩ := dt₂
    have hWe : ∀ b o, hW.get? b = some o → b ≠ e := fun b o q z => by rw [z, hn] at q; cases q
    have W₂ : Wd mg w h₂ := W.keeps fun b o q => k₂ b o (hWe b o q) (keep b o (kW b o q))
    have ns₂ : h₂.Ns env.locals m := ns.at' fun o q => k₂ _ o hLe q
    obtain ⟨mN, hN, hmN⟩ := W₂.cas.ns
    obtain ⟨_, n1, n2, n3, _⟩ := casNs_at
    refine wpAny_execs_cons (plainObj_wpAny_Assign_Attribute (ld ns₂ rfl m2 (by decide) (ld ns₂ rfl m1 (by decide) (first_attr F.store_Exception W₂.cas.cls hN ((hmN _).trans n1) ((hmN _).trans n2) tl_kind e₂ c₂ d₂ (fun c q => by rw [dt₂] at q; cases q) fun h₃ tk₃ D hD e₃ hDe ns1 k₃ => ?_))))
    have kW₃ : ∀ b o, hW.get? b = some o → h₃.get? b = some o := fun b o q => k₃ b o (hWe b o q) (k₂ b o (hWe b o q) (keep b o (kW b o q)))
    have W₃ : Wd mg w h₃ := W.keeps kW₃
    have ns₃ : h₃.Ns env.locals m := ns₂.at' fun o q => k₃ _ o hLe q
    obtain ⟨mN', hN', hmN'⟩ := W₃.cas.ns
    have I₃ : h₃.Inst e 31 (fun y => if y = "kind" then some (.str k t) else none) := ⟨_, e₃, c₂, (fun c (q : o₂.data = .cls c) => by rw [dt₂] at q; cases q), .inr ⟨D, rfl, hDe, ns1⟩⟩
    refine wpAny_execs_cons (plainObj_wpAny_Assign_Attribute (ld ns₃ rfl m3 (by decide) (ld ns₃ rfl m1 (by decide) (store_attr F.store_Exception W₃.cas.cls hN' ((hmN' _).trans n1) ((hmN' _).trans n3) tl_text hne I₃ (fun h₄ tk₄ I₄ k₄ same₄ => wpAny_execs_nil ?_) (Within.cons "kind" _ Within.nil) (by show 1 ≤ sizeLine; decide)))))
    obtain ⟨o₄, e₄, c₄, dt₄, _, dk₄⟩ := same₄ _ e₃
    have dk₄ := dk₄ D rfl
    have hns : h₄.Ns1 D (fun y => if y = "text" then some (.str x u) else if y = "kind" then some (.str k t) else none) := by
      obtain ⟨o', e', _, _, hd'⟩ := I₄
      rw [e₄] at e'; cases e'
      rcases hd' with ⟨hn0, _⟩ | ⟨d', hd', _, hns'⟩
      · rw [dk₄] at hn0; cases hn0
      · rw [dk₄] at hd'; cases hd'
        exact hns'
    have hx : Exc h₄ e D k := ⟨o₄, _, _, t, e₄, c₄.trans c₂, dk₄, hDe, dt₄.trans dt₂, by simp, hns.ns, by simp only [if_neg (show ¬ (Str.ofString "kind" = Str.ofString "text") by decide), if_true]⟩
    refine ⟨rfl, ⟨h₄, tk₄, rfl, fun b o hb q => ?_⟩, D, ?_, hx⟩
    rotate_left
    · cases q : s.heap.get? D with
      | none => rfl
      | some o =>
        have := k₂ D o hDe (keep D o q)
        rw [hD] at this; cases this
    have q₂ := k₂ b o hb (keep b o q)
    refine k₄ b o hb (fun o₀ dx e₀ ed => ?_) (k₃ b o hb q₂)
    rw [e₃] at e₀; cases e₀; cases ed
    rintro rfl
    rw [hD] at q₂; cases q₂
  · rw [show (k ++ Str.ofString ": ").length = k.length + 2 from Array.size_append]
    exact Nat.le_trans (show k.length + 2 + x.length ≤ 1000 by lia) (by decide)
  · rw [show (Str.ofString ": ").length = 2 from by decide]
    exact Nat.le_trans (show k.length + 2 ≤ 1000 by lia) (by decide)
end
end Mine
end
section
open PySem PySem.W PyProof.Rows PySem.Calls PySem.SeqAt
set_option maxRecDepth 100000
set_option linter.unusedVariables false
set_option maxHeartbeats 1000000
namespace Mine
noncomputable section
theorem none_keep {h h' : Heap} {a : Addr} (k : ∀ b o, h.get? b = some o → h'.get? b = some o) (n : h'.get? a = none) : h.get? a = none := by
  cases q : h.get? a with
  | none => rfl
  | some o => rw [k _ _ q] at n; cases n
theorem cas_call {mg : MG} {w : World} {A : Around} {s : Shared} {k x : Str} {t u : Tok} (hA : A.depth + 1 < recursionLimit) (W : Wd mg w s.heap) (hk : k.length ≤ 100) (hx : x.length ≤ 100) :
    wpAny (model pw w) A (call (.ref 31) [.str k t, .str x u]) (fun v s' => ∃ e D, v = .ref e ∧ Kp s s' ∧ s.heap.get? e = none ∧ s.heap.get? D = none ∧ Exc s'.heap e D k) No s := by
  obtain ⟨hp, g, d, tk, os⟩ := s
  obtain ⟨mN, hN, hmN⟩ := W.cas.ns
  refine wpAny_call_exc_init F.excBase_Exception W.cas.cls hN ((hmN _).trans casNs_at.1) W.cas.fn rfl (fun h' e M => ?_) (by show 2 ≤ sizeLine; decide)
  obtain ⟨tp, he, _, _⟩ := M.there
  refine wpAny_q (cas_init (s := ⟨h', g, d, tk, os⟩) (by rw [depth_under_kw]; exact hA) W M.keeps M.new he hk hx) fun r s' h => ⟨h.1, e, h.2.2.imp fun D q => ⟨rfl, h.2.1.imp fun h₂ => .imp fun tk₂ => .imp id fun k₂ b o q => k₂ b o (fun z => by rw [z, M.new] at q; cases q) (M.keeps b o q), M.new, none_keep M.keeps q.1, q.2⟩⟩

section
variable {M : Model} {A : Around} {E : Value → Shared → Prop} {env : Env}
theorem raise_made {nm q : Str} {C N : Addr} {bs bm : List Value} {hdct : Bool} {sn : List Str} {sub : List Value} {ab : Bool} {col : Option Bool} {dd : Option Addr} {k0 k1 k2 k3 k5 : Option Value} {newId : String} {s : Shared} {x : Sem Value} {Q : Flow → Shared → Prop} (hbase : bm.contains (.type "BaseException") = true) (hh : A.handled = none)
    (h : wpAny M A x (fun v s₁ => ∃ e o vs, v = .ref e ∧ s₁.heap.get? C = some (excClassObj nm q C N bs bm hdct sn sub ab col dd k0 k1 k2 k3 k5 newId) ∧
      s₁.heap.get? e = some o ∧ o.cls = .ref C ∧ o.data = .fields vs ∧ vs[1]? = some .none ∧ E (.ref e) s₁) E s) :
    wpAny M A (raiseStmt env (some x) none) Q E s := by
  have hcB : (Value.ref C :: bm).contains (.type "BaseException") = true := by rw [List.contains_cons, hbase, Bool.or_true]
  unfold raiseStmt
  refine wpAny_bind (wpAny_mono h (fun v s₁ h₁ => ?_) fun _ _ x => x)
  obtain ⟨e, o, vs, rfl, hC, he, hc, hd, h1, hE⟩ := h₁
  obtain ⟨hp, g, d, tk, os⟩ := s₁
  repeat (first | (with_reducible refine wpAny_loadPart_at he ?_; rw [hc]) | with_reducible refine wpAny_loadPart_at hC ?_ | (with_reducible refine wpAny_isSubtype_exc hC ?_; rw [hcB]) | with_reducible refine wpAny_field he hd h1 ?_ | wp_step)
  exact wpAny_raiseNew_none hh hE

/-! the exception on its way -/
def Head (base h : Heap) (e D : Addr) (k : Str) (f : Option Value) : Prop := ∃ o vs m t, h.get? e = some o ∧ o.cls = .ref 31 ∧ o.dict = some D ∧ D ≠ e ∧ o.data = .fields vs ∧ h.Ns D m ∧ m "kind" = some (.str k t) ∧
  match f with
  | none => vs[1]? = some .none
  | some v => ∃ T oT ts, vs[1]? = some (.ref T) ∧ base.get? T = none ∧ T ≠ e ∧ h.get? T = some oT ∧ oT.data = .fields ts ∧ ts[3]? = some v
structure Fly (base : Heap) (l : List Env) (e D : Addr) (k : Str) (f : Option Value) (h : Heap) : Prop where
  apart : D ∉ l.filterMap (·.frame)
  stays : base.StaysIn h
  new : base.get? e = none
  frames : h.FunFrames base l
  head : Head base h e D k f
theorem newEntry_at {s : Shared} {base : Heap} {env : Env} {outer : List Env} {L e : Addr} {oe : Obj} {vs : Array Value} {head : Value} {hadNext : Bool} {k : Str} {D : Addr} {m : Str → Option Value} {t : Tok} {Q : Unit → Shared → Prop} (hap : D ∉ (env :: outer).filterMap (·.frame))
    (hfr : A.frames = some (env :: outer)) (hl : s.heap.FunFrames base (env :: outer)) (hf : env.frame = some L)
    (he : s.heap.get? e = some oe) (hkb : base.StaysIn s.heap) (hen : base.get? e = none) (hc : oe.cls = .ref 31) (hD : oe.dict = some D) (hDe : D ≠ e) (hd : oe.data = .fields vs) (hsz : 1 < vs.size) (hn : s.heap.Ns D m) (hm : m "kind" = some (.str k t))
    (h : ∀ h', Fly base (env :: outer) e D k (some (rawInt L)) h' → s.heap.UpToSlots h' → Q () { s with heap := h' }) :
    wpAny M A (do let a ← frameOf env; let pl ← entryPlaceOf L hadNext; let b ← EntryCells.newEntry head a .none (rawInt L) .none pl; setField (.ref e) 1 b) Q E s := by
  have hene : e ∉ (env :: outer).filterMap (·.frame) := fun hm => by
    obtain ⟨_, o, ho, hnf⟩ := hl.mem hm
    rw [he] at ho; cases ho; exact hnf vs hd
  refine wpAny_bind (wpAny_frameOf_fun hfr hl hf fun h₁ hs₁ => ?_)
  refine wpAny_bind (wpAny_entryPlaceOf fun pl hpl => ?_)
  unfold EntryCells.newEntry newFields
  refine wpAny_bind (wpAny_newObj_type ?_ (hpl.sizeOk5 _ _ _ _ _))
  generalize hO : ({ cls := .type "traceback", dict := none, data := .fields ([head, .ref L, .none, rawInt L, .none] ++ (if pl.isEmpty then List.replicate 6 Value.none else pl)).toArray } : Obj) = O
  have he₁ : h₁.get? e = some oe := (hs₁.2.1 e hene).trans he
  have kb₁ : base.StaysIn h₁ := fun b o hbo => (hs₁.2.1 b fun hm => by rw [(hl.mem hm).1] at hbo; cases hbo).trans (hkb b o hbo)
  have he₂ := Heap.get?_push_of_some (h := h₁) O he₁
  refine wpAny_setField he₂ hd hsz ?_
  have hTe : h₁.objs.size ≠ e := Nat.ne_of_gt (Heap.lt_size he₁)
  have hd₃ := Obj.data_mapFields hd (·.setIfInBounds 1 (Value.ref h₁.objs.size))
  have he₃ := Heap.get?_update_self (Obj.mapFields (·.setIfInBounds 1 (Value.ref h₁.objs.size))) he₂ (Obj.isFreed_of_fields hd₃)
  have hT₃ : ((h₁.push O).update e (Obj.mapFields (·.setIfInBounds 1 (Value.ref h₁.objs.size)))).get? h₁.objs.size = some O :=
    (Heap.get?_update_other _ _ (Ne.symm hTe)).trans (Heap.get?_push_size h₁ (by rw [← hO]; rfl))
  have keep : ∀ b o, b ≠ e → h₁.get? b = some o → ((h₁.push O).update e (Obj.mapFields (·.setIfInBounds 1 (Value.ref h₁.objs.size)))).get? b = some o := fun b o hbe hb =>
    (Heap.get?_update_other _ _ (Ne.symm hbe)).trans (Heap.get?_push_of_some _ hb)
  have noRecord : ∀ b o, s.heap.get? b = some o → (∀ vs, o.data ≠ .fields vs) → b ≠ e := fun b o hb hnf q => by
    rw [q, he] at hb; cases hb; exact hnf vs hd
  have up : s.heap.UpToSlots ((h₁.push O).update e (Obj.mapFields (·.setIfInBounds 1 (Value.ref h₁.objs.size)))) := fun b o hb hnf => by
    obtain ⟨sl, hs⟩ := hs₁.2.2 b o hb
    exact ⟨sl, keep b _ (noRecord b o hb hnf) hs⟩
  refine h _ ⟨hap, fun b o hbo => keep b o (fun q => by rw [q, hen] at hbo; cases hbo) (kb₁ b o hbo), hen, hl.of_keeps fun b o hb hnf => ?_, ?_⟩ up
  · obtain ⟨sl, hs⟩ := up b o hb hnf
    exact ⟨_, hs, rfl⟩
  · refine ⟨_, _, m, t, he₃, (Obj.cls_mapFields _ _).trans hc, ?_, hDe, hd₃, up.ns hn, hm, h₁.objs.size, O, _, by simp [hsz], kb₁.fresh, hTe, hT₃, by rw [← hO], ?_⟩
    · cases oe; cases hd; exact hD
    · first | (simp; done) | (rcases hpl with rfl | ⟨_, _, _, _, _, _, _, rfl⟩ <;> simp)
theorem note_at {s : Shared} {base : Heap} {env : Env} {outer : List Env} {L e D : Addr} {k : Str} {f : Option Value} {Q : Unit → Shared → Prop} (hfr : A.frames = some (env :: outer)) (hf : env.frame = some L) (F : Fly base (env :: outer) e D k f s.heap) (hf0 : f = none ∨ f = some .none)
    (h : ∀ h', Fly base (env :: outer) e D k (some (rawInt L)) h' → s.heap.UpToSlots h' → Q () { s with heap := h' }) : wpAny M A (noteFrame (.ref e) env) Q E s := by
  obtain ⟨hap, kb, hen, hl, o, vs, m, t, he, hc, hD, hDe, hd, hn, hm, hv⟩ := F
  unfold noteFrame
  simp only [hf]
  rcases hf0 with rfl | rfl
  · refine wpAny_bind (wpAny_field he hd hv ?_)
    rw [if_neg (by decide)]
    exact newEntry_at hap hfr hl hf he kb hen hc hD hDe hd (Array.getElem?_eq_some_iff.mp hv).1 hn hm h
  · obtain ⟨T, oT, ts, h1, hnT, hTe, hT, hdT, h3⟩ := hv
    refine wpAny_bind (wpAny_field he hd h1 ?_)
    rw [if_pos (show (Value.ref T != Value.none) = true from by simp)]
    refine wpAny_bind (wpAny_field hT hdT h3 ?_)
    rw [if_neg (show ¬ ((Value.none == rawInt L) = true) from by simp [rawInt])]
    refine wpAny_bind (wpAny_setField hT hdT (Array.getElem?_eq_some_iff.mp h3).1 ?_)
    have other : ∀ b, b ≠ T → (s.heap.update T (Obj.mapFields (·.setIfInBounds 3 Value.none))).get? b = s.heap.get? b := fun b hb => Heap.get?_update_other _ _ (Ne.symm hb)
    have noRecord : ∀ b o, s.heap.get? b = some o → (∀ vs, o.data ≠ .fields vs) → b ≠ T := fun b o hb hnf q => by
      rw [q, hT] at hb; cases hb; exact hnf ts hdT
    have up : s.heap.UpToSlots (s.heap.update T (Obj.mapFields (·.setIfInBounds 3 Value.none))) := fun b o hb hnf => ⟨o.slots, (other b (noRecord b o hb hnf)).trans hb⟩
    exact newEntry_at hap hfr (hl.of_keeps fun b o hb hnf => ⟨o, (other b (noRecord b o hb hnf)).trans hb, rfl⟩) hf ((other e (Ne.symm hTe)).trans he)
      (fun b o hbo => (other b fun q => by rw [q, hnT] at hbo; cases hbo).trans (kb b o hbo)) hen hc hD hDe hd (Array.getElem?_eq_some_iff.mp h1).1 (up.ns hn) hm fun h' F' up' => h h' F' (up.trans up')
theorem land_at {s : Shared} {base : Heap} {l : List Env} {e D : Addr} {k : Str} {v : Value} {Q : Unit → Shared → Prop} (F : Fly base l e D k (some v) s.heap)
    (h : ∀ h', Fly base l e D k (some .none) h' → s.heap.UpToSlots h' → Q () { s with heap := h' }) : wpAny M A (setFlight (.ref e) none) Q E s := by
  obtain ⟨hap, kb, hen, hl, o, vs, m, t, he, hc, hD, hDe, hd, hn, hm, T, oT, ts, h1, hnT, hTe, hT, hdT, h3⟩ := F
  have hsz := (Array.getElem?_eq_some_iff.mp h3).1
  unfold setFlight
  refine wpAny_bind (wpAny_field he hd h1 ?_)
  rw [if_pos (show (Value.ref T != Value.none) = true from by simp)]
  refine wpAny_setField hT hdT hsz ?_
  have other : ∀ b, b ≠ T → (s.heap.update T (Obj.mapFields (·.setIfInBounds 3 ((none : Option Addr).elim Value.none fun f => rawInt f)))).get? b = s.heap.get? b := fun b hb => Heap.get?_update_other _ _ (Ne.symm hb)
  have noRecord : ∀ b o, s.heap.get? b = some o → (∀ vs, o.data ≠ .fields vs) → b ≠ T := fun b o hb hnf q => by
    rw [q, hT] at hb; cases hb; exact hnf ts hdT
  have up : s.heap.UpToSlots (s.heap.update T (Obj.mapFields (·.setIfInBounds 3 ((none : Option Addr).elim Value.none fun f => rawInt f)))) := fun b o hb hnf => ⟨o.slots, (other b (noRecord b o hb hnf)).trans hb⟩
  have hd₃ := Obj.data_mapFields hdT (·.setIfInBounds 3 ((none : Option Addr).elim Value.none fun f => rawInt f))
  refine h _ ⟨hap, fun b o hbo => (other b fun q => by rw [q, hnT] at hbo; cases hbo).trans (kb b o hbo), hen, hl.of_keeps fun b o hb hnf => ⟨o, (other b (noRecord b o hb hnf)).trans hb, rfl⟩, o, vs, m, t, (other e (Ne.symm hTe)).trans he, hc, hD, hDe, hd, up.ns hn, hm, T, _, _, h1, hnT, hTe, Heap.get?_update_self _ hT (Obj.isFreed_of_fields hd₃), hd₃, by simp [hsz]⟩ up
theorem leave_at {s : Shared} {base : Heap} {env : Env} {outer : List Env} {L e D : Addr} {k : Str} {f : Option Value} {Q : Unit → Shared → Prop} (hfr : A.frames = some (env :: outer)) (hf : env.frame = some L) (F : Fly base (env :: outer) e D k f s.heap) (hf0 : f = none ∨ f = some .none)
    (h : ∀ h', Fly base outer e D k (some .none) h' → s.heap.UpToSlots h' → Q () { s with heap := h' }) : wpAny M A (leaving env (.ref e)) Q E s := by
  unfold leaving
  refine wpAny_bind (note_at hfr hf F hf0 fun h₁ F₁ u₁ => land_at (s := { s with heap := h₁ }) F₁ fun h₂ F₂ u₂ => ?_)
  exact h h₂ ⟨fun z => F₂.apart (by rw [List.filterMap_cons, hf]; exact .tail _ z), F₂.stays, F₂.new, F₂.frames.2.2, F₂.head⟩ (u₁.trans u₂)
end
theorem ns_uniq {h : Heap} {L : Addr} {m m' : Str → Option Value} (p : h.Ns L m) (q : h.Ns L m') (y : Str) : m' y = m y := by
  obtain ⟨o, es, ep, e, dd, _, f⟩ := p
  obtain ⟨o', es', ep', e', dd', _, f'⟩ := q
  rw [e] at e'; cases e'; rw [dd] at dd'; cases dd'
  rw [← f, ← f']
theorem Wd.casAt {mg : MG} {w : World} {h : Heap} (W : Wd mg w h) : mg nCas = some (.ref 31) := by
  obtain ⟨mb, T⟩ := W.T
  obtain ⟨m, hm, e⟩ := W.cas.g
  rw [ns_uniq hm T.g]; exact e
theorem raise_cas {mg : MG} {w : World} {A : Around} {s : Shared} {env : Env} {Q : Flow → Shared → Prop} {E : Value → Shared → Prop} {k x : Str} {kk xx : Nat} {p1 p2 np cp pos : Pos} (hA : Ro A 1) (hk : EnvOk env) (W : Wd mg w s.heap) (hx : env.kindOf nCas = some .globalImplicit)
    (lk : k.length ≤ 100) (lx : x.length ≤ 100) (h : ∀ s' e D, Kp s s' → s.heap.get? e = none → s.heap.get? D = none → Exc s'.heap e D k → E (.ref e) s') :
    wpAny (model pw w) A (exec (.Raise (some (.Call (.Name nCas np) [.Constant (.str k) kk p1, .Constant (.str x) xx p2] [] cp)) none pos) env) Q E s := by
  obtain ⟨hp, g, d, tk, os⟩ := s
  rw [arm_exec_Raise]
  refine wpAny_bind (wpAny_standAt (raise_made (C := 31) (nm := nCas) (q := nCas) (N := 30) (bs := [.type "Exception"]) (hdct := true) (sn := []) (sub := []) (ab := false) (col := none) (dd := none) (k0 := some (.ref 15)) (k1 := none) (k2 := some (.str nCas 189)) (k3 := some (.str nCas 197)) (k5 := some (.bool true)) (newId := "Exception.__new__") F.excBase_Exception.hasBase hA.handled (x := _) ?_))
  refine wpAny_bind (wpAny_mono (Q := fun v s' => ∃ e D, v = .ref e ∧ Kp ⟨hp, g, d, tk, os⟩ s' ∧ hp.get? e = none ∧ hp.get? D = none ∧ Exc s'.heap e D k) (E := No) (wpAny_Call_ofName (load_global hk W hx W.casAt ?_ (by decide))) (fun v s₁ h₁ => wpAny_bind (wpAny_standAt (wpAny_pure ?_))) fun _ _ x => x.elim)
  · unfold callWith
    refine wpAny_bind (wpAny_holding (evalArgs_plain (wpAny_items_cons (wpAny_Constant_str (wpAny_items_cons (wpAny_Constant_str (wpAny_items_nil ?_)) rfl)) rfl)))
    refine wpAny_bind (wpAny_standAt ?_)
    refine wpAny_bind (wpAny_keeperOf_exc W.cas.cls ?_)
    refine wpAny_bind (wpAny_q (cas_call (s := ⟨hp, g, d, tk + 1 + 1, os⟩) (by have := hA.depth; lia) W lk lx) fun v s' ⟨e, D, he, kp, hn, hnD, hE⟩ => wpAny_bind (wpAny_holding (wpAny_point (wpAny_pure ⟨e, D, he, ?_, hn, hnD, hE⟩))))
    obtain ⟨h', t', rfl, q⟩ := kp
    exact ⟨h', t', rfl, q⟩
  · obtain ⟨e, D, rfl, kp, hn, hnD, hE⟩ := h₁
    obtain ⟨o, vs, m, t, he, hc, hD, hDe, hd, h1, hn', hm⟩ := id hE
    exact ⟨e, o, vs, rfl, kp.get _ _ W.cas.cls, he, hc, hd, h1, h _ _ _ kp hn hnD hE⟩
section
end
end
end Mine
end
section
open PySem PySem.W PyProof.Rows PySem.Calls PySem.SeqAt
set_option maxRecDepth 100000
set_option linter.unusedVariables false
set_option maxHeartbeats 1000000
namespace Mine
noncomputable section
section
open Builtin Builtin.ObjectAttr
variable {prog : Program} {w : World} {A : Around} {E : Value → Shared → Prop} {h : Heap} {g : Array GenState} {d : Drawn} {t : Nat} {os : OsState} {x D : Addr} {mN mD : Str → Option Value} {name : Str} {v : Value} {o : Obj}
variable {nm q : Str} {C N : Addr} {bs bm : List Value} {sn : List Str} {sub : List Value} {ab : Bool} {col : Option Bool} {dd : Option Addr} {k0 k1 k2 k3 k5 : Option Value} {B newId : String}
theorem ga_check {M : Model} {nameV : Value} {Q : Unit → Shared → Prop} (hb : bm.contains (.type "BaseException") = true) (hC : h.get? C = some (excClassObj nm q C N bs bm true sn sub ab col dd k0 k1 k2 k3 k5 newId))
    (hx : h.get? x = some o) (hc : o.cls = .ref C) (hq : Q () ⟨h, g, d, t, os⟩) : wpAny M A (checkBuiltinCall "BaseException.__getattribute__" ⟨[.ref x, nameV], []⟩) Q E ⟨h, g, d, t, os⟩ := by
  have hk : builtinKind "BaseException.__getattribute__" = some .slot := by decide +kernel
  have hsplit : splitId "BaseException.__getattribute__" = some ("BaseException", "__getattribute__") := by decide +kernel
  have hcB : (Value.ref C :: bm).contains (.type "BaseException") = true := by rw [List.contains_cons, hb]; simp
  have ha := F.args_bexc_ga (.ref x) nameV
  simp only [checkBuiltinCall, hk, hsplit]
  refine wpAny_bind ?_
  · unfold isInstance
    repeat (first | (with_reducible refine wpAny_loadPart_at hx ?_; rw [hc]) | (with_reducible refine wpAny_isSubtype_exc hC ?_; rw [hcB]) | wp_step)
    exact hq
theorem ga_entry {tk : Tok} {Q : Fin → Shared → Prop} (mro : mroOf (.type B) = pure bm) (hC : h.get? C = some (excClassObj nm q C N bs bm true sn sub ab col dd k0 k1 k2 k3 k5 newId)) (hn : h.Ns N mN) (hna : mN name = none)
    (hB : typeLookup (.type B) name = pure none) (hx : h.get? x = some o) (hc : o.cls = .ref C) (hnc : ∀ c, o.data ≠ .cls c) (hD : o.dict = some D) (hnd : h.Ns D mD) (hv : mD name = some v) (hh : handedOut v = pure v) (hq : Q (.done (.ret v)) ⟨h, g, d, t, os⟩) :
    wpAny (model prog w) A (Builtin.«object.__getattribute__» ⟨[.ref x, .str name tk], []⟩) Q E ⟨h, g, d, t, os⟩ := by
  unfold Builtin.«object.__getattribute__»
  repeat (first | (with_reducible refine wpAny_loadPart_at hx ?_; rw [hc]) | (with_reducible refine wpAny_typeLookup_exc hC hn mro hB ?_; rw [hna]) | wp_step)
  split
  · rename_i c hcd
    exact absurd hcd (hnc c)
  unfold instanceDict
  repeat (first | (with_reducible refine wpAny_loadPart_at hx ?_; rw [hc]) | with_reducible refine wpAny_loadPart_at hC ?_ | wp_step)
  rw [hD]
  unfold inDict
  repeat (first | (with_reducible refine wpAny_nsGet hnd ?_; rw [hv]) | wp_step)
  all_goals exact hq
theorem ga_call {tk : Tok} {R : Result → Shared → Prop} (FB : ExcAttrBase B bm) (hC : h.get? C = some (excClassObj nm q C N bs bm true sn sub ab col dd k0 k1 k2 k3 k5 newId)) (hn : h.Ns N mN) (hna : mN name = none)
    (hB : typeLookup (.type B) name = pure none) (hx : h.get? x = some o) (hc : o.cls = .ref C) (hnc : ∀ c, o.data ≠ .cls c) (hD : o.dict = some D) (hnd : h.Ns D mD) (hv : mD name = some v) (hh : handedOut v = pure v) (hq : R (.ok (.ret v)) ⟨h, g, d, t, os⟩) :
    codeAny (model prog w) A (.call (.builtin "BaseException.__getattribute__") ⟨[.ref x, .str name tk], []⟩) R ⟨h, g, d, t, os⟩ :=
  codeAny_call_builtin FB.ga.plain F.entry_bexc_ga (ga_check FB.hasBase hC hx hc (ga_entry FB.mro hC hn hna hB hx hc hnc hD hnd hv hh hq))
theorem ga_by {tk : Tok} {fill expr : Bool} {Q : Value → Shared → Prop} (FB : ExcAttrBase B bm) (hC : h.get? C = some (excClassObj nm q C N bs bm true sn sub ab col dd k0 k1 k2 k3 k5 newId)) (hn : h.Ns N mN) (hna : mN name = none) (hg1 : mN "__getattribute__" = none) (hg2 : mN "__getattr__" = none)
    (hB : typeLookup (.type B) name = pure none) (hx : h.get? x = some o) (hc : o.cls = .ref C) (hnc : ∀ c, o.data ≠ .cls c) (hD : o.dict = some D) (hnd : h.Ns D mD) (hv : mD name = some v) (hh : handedOut v = pure v) (hq : Q v ⟨h, g, d, t, os⟩) :
    wpAny (model prog w) A (getAttrBy (.ref x) (.str name tk) fill expr) Q E ⟨h, g, d, t, os⟩ := by
  have f3 := FB.ga.bind (.ref x)
  have hx0 : (expr && onTheHeap (Value.builtin "BaseException.__getattribute__")) = false := by cases expr <;> rfl
  have hx2 : (Value.builtin "BaseException.__getattribute__" == Value.builtin "object.__getattribute__") = false := by decide +kernel
  have hx1 : (onTheHeap (Value.ref C) && Value.builtin "BaseException.__getattribute__" == Value.builtin "object.__getattribute__") = false := by rw [hx2]; rfl
  repeat (any_goals (first | assumption | (with_reducible refine wpAny_loadPart_at hx ?_; rw [hc]) | (with_reducible refine wpAny_typeLookup_exc hC hn FB.mro FB.ga.lookup ?_; rw [hg1]) | (with_reducible refine wpAny_typeLookup_exc hC hn FB.mro FB.noGetattr ?_; rw [hg2]) | wp_step))
  refine ga_call FB hC hn hna hB hx hc hnc hD hnd hv hh ?_
  repeat (any_goals (first | assumption | wp_step))
theorem ga_attr {expr : Bool} {Q : Value → Shared → Prop} (FB : ExcAttrBase B bm) (hC : h.get? C = some (excClassObj nm q C N bs bm true sn sub ab col dd k0 k1 k2 k3 k5 newId)) (hn : h.Ns N mN) (hna : mN name = none) (hg1 : mN "__getattribute__" = none) (hg2 : mN "__getattr__" = none)
    (hB : typeLookup (.type B) name = pure none) (hx : h.get? x = some o) (hc : o.cls = .ref C) (hnc : ∀ c, o.data ≠ .cls c) (hD : o.dict = some D) (hnd : h.Ns D mD) (hv : mD name = some v) (hh : handedOut v = pure v) (hq : Q v ⟨h, g, d, t + 1, os⟩) :
    wpAny (model prog w) A (getAttr (.ref x) name expr) Q E ⟨h, g, d, t, os⟩ := by
  unfold getAttr
  repeat (any_goals (first | assumption | with_reducible apply ga_by FB hC hn hna hg1 hg2 hB hx hc hnc hD hnd hv hh | wp_step))
end

section
variable {M : Model} {A : Around} {env : Env}
theorem bind_q {n : Str} {v : Value} {s : Shared} {m : Str → Option Value} {Q : Unit → Shared → Prop} (hk : EnvOk env) (hn : env.kindOf n = some .local) (ns : s.heap.Ns env.locals m)
    (h : ∀ h' tk, h'.Ns env.locals (fun y => if y = n then some v else m y) → Heap.SameBut env.locals s.heap h' → Q () { s with heap := h', toks := tk }) : wpAny M A (storeName env n v) Q No s :=
  wpAny_storeName_local hn ns (fun h' a b => h h' _ a b) (store_plain hk)
theorem caught {mg : MG} {w : World} {s : Shared} {base : Heap} {outer : List Env} {e D : Addr} {m : Str → Option Value} {n : Str} {np p1 p2 p3 p4 p5 pos : Pos} {kk : Nat} {Q : Flow → Shared → Prop} (hfr : A.frames = some (env :: outer)) (hf : env.frame = some env.locals) (hk : EnvOk env) (W : Wd mg w base) (hnew : base.get? env.locals = none)
    (F₀ : Fly base (env :: outer) e D (Str.ofString "division by zero") (some .none) s.heap) (ns : s.heap.Ns env.locals m) (hn : env.kindOf n = some .local) (hx : env.kindOf nCas = some .globalImplicit) (hd : (n == ("__debug__" : Str)) = false)
    (h : ∀ h' tk, base.StaysIn h' → Q (.ret (.bool true)) { s with heap := h', toks := tk }) :
    wpAny (model pw w) A (noteFrame (.ref e) env) (fun _ s₂ => wpAny (model pw w) A (setFlight (.ref e) none) (fun _ s₃ => wpAny (model pw w) A (handleBy (.ref e) env [.ExceptHandler (some (.Name nCas np)) (some n) [.Return (some (.Compare (.Attribute (.Name n p1) "kind" p2) [.Eq] [.Constant (.str (Str.ofString "division by zero")) kk p3] p4)) p5] pos]) Q No s₃) No s₂) No s := by
  refine note_at hfr hf F₀ (.inr rfl) fun h₁ F₁ u₁ => land_at (s := { s with heap := h₁ }) F₁ fun h₂ F₂ u₂ => ?_
  have W₂ := W.keeps F₂.stays
  refine wpAny_handleBy_cons (codeAny_handlers_test ?_) (by intro q; cases q)
  refine wpAny_no (load_global (s := { s with heap := h₂ }) hk W₂ hx W₂.casAt ?_ (by decide))
  obtain ⟨o, vs, mD, t, he, hc, _⟩ := id F₂.head
  refine wpAny_no (wpAny_excMatches_sub_self W₂.cas.cls he hc F.excBase_Exception.hasBase (codeAny_handlers_suite_as (wpAny_no (land_at (s := { s with heap := h₂ }) F₂ fun h₃ F₃ u₃ => ?_))))
  have ns₃ := u₃.ns (u₂.ns (u₁.ns ns))
  refine wpAny_no (bind_q (s := { s with heap := h₃ }) hk hn ns₃ fun h₄ tk₄ ns₄ sb₄ => ?_)
  have W₃ := W.keeps F₃.stays
  replace sb₄ : Heap.SameBut env.locals h₃ h₄ := sb₄
  have k₄ : ∀ b o, b ≠ env.locals → h₃.get? b = some o → h₄.get? b = some o := fun b o hb q => (sb₄.2 b hb).trans q
  have st₄ : base.StaysIn h₄ := fun b o q => k₄ b o (fun z => by rw [z, hnew] at q; cases q) (F₃.stays b o q)
  have W₄ := W.keeps st₄
  obtain ⟨o, vs, mD, t, he, hc, hD, hDe, hdt, hnD, hmk, _⟩ := F₃.head
  have eL : ∀ {o : Obj} {vs : Array Value}, h₃.get? e = some o → o.data = .fields vs → e ≠ env.locals := fun q1 q2 z => by
    obtain ⟨oL, es, ep, q3, q4, _⟩ := ns₃
    rw [z] at q1; rw [q1] at q3; cases q3; rw [q2] at q4; cases q4
  have he₄ := k₄ _ _ (eL he hdt) he
  have hDL : D ≠ env.locals := fun z => F₀.apart (by rw [List.filterMap_cons, hf, z]; exact .head _)
  have hnD₄ : h₄.Ns D mD := hnD.at' fun o q => k₄ _ _ hDL q
  obtain ⟨mN, hN, hmN⟩ := W₄.cas.ns
  obtain ⟨_, _, n2, _, n4, n5⟩ := casNs_at
  refine wpAny_no (wpAny_execs_cons (wpAny_Return_some (wpAny_Compare1 ?_ (by with_unfolding_all rfl))))
  rw [arm_eval_Attribute]
  rw [show attributeBase (.Name n p1) "kind" env (eval (.Name n p1) env) = eval (.Name n p1) env from rfl]
  refine wpAny_bind (load_val hk.kind (.inl ⟨hn, _, ns₄, if_pos rfl⟩) (wpAny_bind (wpAny_standAt (wpAny_bind (wpAny_holding ?_)))) hd)
  refine ga_attr F.attrBase_Exception W₄.cas.cls hN ((hmN _).trans n2) ((hmN _).trans n4) ((hmN _).trans n5) tl_kind he₄ hc (fun c q => by rw [hdt] at q; cases q) hD hnD₄ hmk rfl ?_
  refine wpAny_bind (m := letTemporaryGo (.Name n p1) _ _) (wpAny_pure (wpAny_pure (wpAny_Constant_str (PyProof.Rows.eq_str ?_))))
  refine wpAny_bind (wpAny_bindName (wpAny_storeName_local hn ns₄ (fun h₅ ns₅ sb₅ => ?_) (store_plain hk)))
  replace sb₅ : Heap.SameBut env.locals h₄ h₅ := sb₅
  unfold unbindBehindTheSuite
  refine wpAny_onRaise (wpAny_no (wpAny_unbindName_local hn ns₅ (v := .none) (if_pos rfl) (store_plain hk) fun h₆ u ns₆ sb₆ => ?_))
  replace sb₆ : Heap.SameBut env.locals h₅ h₆ := sb₆
  rw [beq_self_eq_true]
  exact h h₆ _ fun b o q => (sb₆.2 b fun z => by rw [z, hnew] at q; cases q).trans ((sb₅.2 b fun z => by rw [z, hnew] at q; cases q).trans (st₄ b o q))
end
end
end Mine
end
section
open PySem PySem.W PyProof.Rows PySem.Calls PySem.SeqAt
set_option maxRecDepth 100000
set_option linter.unusedVariables false
namespace Mine
noncomputable section

/-! a calculus of what must be shown: verified once, then unfolded -/
inductive Kd | any | safe | new
abbrev Post := PyData → Kd → Prop
abbrev Spec := List PyData → Post → Prop
abbrev Own' := List (Str × List PyData)

/-- here the unfolding stops -/
structure Stop (p : Prop) : Prop where
  go : p
noncomputable def ck (b : Bool) (p : Prop) : Prop := match b with | true => p | false => False
theorem ck_of {b p} (h : ck b p) : b = true ∧ p := by cases b <;> first | exact ⟨rfl, h⟩ | exact h.elim
noncomputable def wInt (a : PyData) (k : Int → Prop) : Prop := match a with | .int i => k i | _ => False
noncomputable def wBool (a : PyData) (k : Bool → Prop) : Prop := match a with | .bool i => k i | _ => False
noncomputable def wList (a : PyData) (k : List PyData → Prop) : Prop := match a with | .list i => k i | _ => False
noncomputable def wTup (a : PyData) (k : List PyData → Prop) : Prop := match a with | .tuple i => k i | _ => False
noncomputable def wSeq (a : PyData) (k l : List PyData → Prop) : Prop := match a with | .list i => k i | .tuple i => l i | _ => False
noncomputable def wK (a : PyData) (k : Int → Prop) (l : List PyData → Prop) (b : Bool → Prop) : Prop := match a with | .int i => k i | .list i => l i | .bool i => b i | _ => False
theorem wInt_of {a k} (h : wInt a k) : ∃ i, a = .int i ∧ k i := by cases a <;> first | exact ⟨_, rfl, h⟩ | exact h.elim
theorem wBool_of {a k} (h : wBool a k) : ∃ i, a = .bool i ∧ k i := by cases a <;> first | exact ⟨_, rfl, h⟩ | exact h.elim
theorem wList_of {a k} (h : wList a k) : ∃ i, a = .list i ∧ k i := by cases a <;> first | exact ⟨_, rfl, h⟩ | exact h.elim
theorem wTup_of {a k} (h : wTup a k) : ∃ i, a = .tuple i ∧ k i := by cases a <;> first | exact ⟨_, rfl, h⟩ | exact h.elim
theorem wSeq_of {a k l} (h : wSeq a k l) : (∃ i, a = .list i ∧ k i) ∨ (∃ i, a = .tuple i ∧ l i) := by cases a <;> first | exact .inl ⟨_, rfl, h⟩ | exact .inr ⟨_, rfl, h⟩ | exact h.elim
theorem wK_of {a k l b} (h : wK a k l b) : (∃ i, a = .int i ∧ k i) ∨ (∃ i, a = .list i ∧ l i) ∨ (∃ i, a = .bool i ∧ b i) := by
  cases a <;> first | exact .inl ⟨_, rfl, h⟩ | exact .inr (.inl ⟨_, rfl, h⟩) | exact .inr (.inr ⟨_, rfl, h⟩) | exact h.elim

noncomputable def constP (c : Const) (post : Post) : Prop := match c with
  | .int i => post (.int i) .safe
  | .none => post .none .safe
  | .bool b => post (.bool b) .safe
  | .str s => post (.str s) .safe
  | _ => False
noncomputable def repP (xs : List PyData) (m : Int) (post : Post) : Prop := match xs with
  | [] => False
  | d :: r => ck r.isEmpty ((m ≤ 1000 ∧ -1000 ≤ m) ∧ post (.list (List.replicate m.toNat d)) .new)
noncomputable def binP (op : Operator) (a b : PyData) (post : Post) : Prop := match op with
  | .Add => wK a (fun x => wInt b fun y => post (.int (x + y)) .safe) (fun xs => wList b fun ys => xs.length + ys.length ≤ sizeLine ∧ post (.list (xs ++ ys)) .new) fun _ => False
  | .Sub => wK a (fun x => wInt b fun y => post (.int (x - y)) .safe) (fun _ => False) fun x => wBool b fun y => post (.int (b2i x - b2i y)) .safe
  | .Mult => wK a (fun x => wInt b fun y => IntMulOk x y ∧ post (.int (x * y)) .safe) (fun xs => wInt b fun m => repP xs m post) fun _ => False
  | .FloorDiv => wInt a fun x => wInt b fun y => (y ≠ 0 ∧ y.natAbs < 2 ^ 9000) ∧ post (.int (x.fdiv y)) .safe
  | .Mod => wInt a fun x => wInt b fun y => y ≠ 0 ∧ post (.int (x.fmod y)) .safe
  | .Pow => wInt a fun x => wInt b fun y => (0 ≤ y ∧ (Builtin.Int.intBits x : Int) * y ≤ 2 ^ 27) ∧ post (.int (x ^ y.toNat)) .safe
  | _ => False
noncomputable def wIE (a : PyData) (k : Int → Prop) (l : Prop) : Prop := match a with | .int i => k i | _ => l
theorem wIE_of {a k l} (h : wIE a k l) : (∃ i, a = .int i ∧ k i) ∨ l := by cases a <;> first | exact .inl ⟨_, rfl, h⟩ | exact .inr h
noncomputable def cmpP (op : CmpOp) (a b : PyData) (k : Bool → Prop) : Prop := match op with
  | .Eq => wIE a (fun x => wInt b fun y => k (x == y)) ((shaped a = true ∧ shaped b = true) ∧ k (PyData.eqv a b))
  | .NotEq => wIE a (fun x => wInt b fun y => k (x != y)) ((shaped a = true ∧ shaped b = true) ∧ k (!PyData.eqv a b))
  | .Lt => wInt a fun x => wInt b fun y => k (decide (x < y))
  | .LtE => wInt a fun x => wInt b fun y => k (decide (x ≤ y))
  | .Gt => wInt a fun x => wInt b fun y => k (decide (x > y))
  | .GtE => wInt a fun x => wInt b fun y => k (decide (x ≥ y))
  | _ => False
noncomputable def WLs (f : Expr → Post → Prop) : List Expr → (List PyData → Prop) → Prop
  | [], k => k []
  | e :: es, k => f e fun d _ => WLs f es fun ds => k (d :: ds)

structure Cx where
  kd : Str → Option NameKind
  sp : List (Str × Spec)
  own : List Str
  sc : Scope

noncomputable def nameP (C : Cx) (ρ : Vars) (ω : Own') (x : Str) (post : Post) : Prop := match ρ.lookup x with
  | some d => post d .safe
  | none => (match ω.lookup x with
    | some ds => post (.list ds) .any
    | none => (match konsts.lookup x with
      | some d => ck (C.kd x == some .globalImplicit) (post d .any)
      | none => False))
noncomputable def callP (C : Cx) (fn : Str) (ds : List PyData) (post : Post) : Prop := match C.sp.lookup fn with
  | some s => s ds post
  | none => False
noncomputable def cmpT (f : Expr → Post → Prop) (l : Expr) (ops : List CmpOp) (rs : List Expr) (k : Bool → Prop) : Prop := match ops with
  | op :: os => (match rs with
    | r :: rr => ck (os.isEmpty && rr.isEmpty) (f l fun a _ => f r fun b _ => cmpP op a b k)
    | [] => False)
  | [] => False
inductive Md | val | truth | iter
noncomputable def Md.isVal (m : Md) : Bool := match m with | .val => true | _ => false
noncomputable def Md.isTruth (m : Md) : Bool := match m with | .truth => true | _ => false
noncomputable def Md.isIter (m : Md) : Bool := match m with | .iter => true | _ => false
noncomputable def tupAt (ds : List PyData) (k : Int) (post : Post) : Prop := ck (decide (0 ≤ k) && decide (ds.length ≤ 100)) (match ds[k.toNat]? with
  | some d => post d .any
  | none => False)
noncomputable def itemP (a i : PyData) (post : Post) : Prop := wInt i fun k => wSeq a
  (fun ds => Stop (∃ d, (0 ≤ k ∧ ds[k.toNat]? = some d ∧ ds.length ≤ 2 ^ 62) ∧ post d .any)) fun ds => tupAt ds k post
noncomputable def nRange : Str := Str.ofString "range"
noncomputable def small (a : Int) : Prop := -1000 ≤ a ∧ a ≤ 1000
noncomputable def isM1 (c : PyData) : Bool := match c with | .int i => i == -1 | _ => false
noncomputable def rangeP (ds : List PyData) (k : List PyData → Prop) : Prop := match ds with
  | [] => False
  | a :: ds => wInt a fun a => (match ds with
    | [] => small a ∧ k (rangeD 0 1 a.toNat)
    | b :: ds => wInt b fun b => (match ds with
      | [] => (small a ∧ small b) ∧ k (rangeD a 1 (b - a).toNat)
      | c :: ds => ck (ds.isEmpty && isM1 c) ((small a ∧ small b) ∧ k (rangeD a (-1) (a - b).toNat))))
noncomputable def relab (names : List (Str × NameKind)) (kd : Str → Option NameKind) : List (Str × NameKind) :=
  names.map fun x => if (x.2 == .free && kd x.1 == some .cell) then (x.1, .cell) else x
noncomputable def compOk (scope : Scope) (x : Str) (kd : Str → Option NameKind) : Bool :=
  scope.kind == .function && scope.names.lookup x == some .local && scope.names.all fun y => y.2 != .cell && (y.2 != .local || scope.names.lookup y.1 == some .local) && (y.2 != .free || kd y.1 == some .cell)
noncomputable def compVars (scope : Scope) (kd : Str → Option NameKind) (ρ : Vars) : Vars := ρ.filter fun p => kd p.1 == some .cell && scope.names.any (fun y => y.1 == p.1 && y.2 == .free) && (relab scope.names kd).lookup p.1 == some .cell
noncomputable def nameOf (e : Expr) : Option Str := match e with | .Name x _ => some x | _ => none
noncomputable def compX (gens : List Comprehension) : Option (Str × Expr) := match gens with
  | [] => none
  | g :: gs => if gs.isEmpty && g.ifs.isEmpty && g.is_async == 0 then (nameOf g.target).map fun x => (x, g.iter) else none
noncomputable def upP (ds : List PyData) (k : Int) (post : Post) : Prop := Stop ((0 ≤ k ∧ post (.list (ds.take k.toNat)) .new) ∨ (k = -1 ∧ post (.list (ds.take (ds.length - 1))) .new))
noncomputable def sliceP (f : Expr → Post → Prop) (ds : List PyData) (lo up st : Option Expr) (post : Post) : Prop := ck st.isNone (ds.length ≤ sizeLine ∧ (match lo with
  | none => (match up with
    | some u => f u fun d _ => wInt d fun k => upP ds k post
    | none => False)
  | some l => ck up.isNone (f l fun d _ => wInt d fun k => ck (decide (0 ≤ k)) (post (.list (ds.drop k.toNat)) .new))))
noncomputable def sliceOf (e : Expr) : Option (Option Expr × Option Expr × Option Expr) := match e with
  | .Slice lo up st _ => some (lo, up, st)
  | _ => none
noncomputable def resP (m : Md) (post : Post) : Post := fun d k => match m with
  | .val => post d k
  | .truth => wBool d fun b => post (.bool b) .safe
  | .iter => wList d fun ds => post (.list ds) .any
def nDebug : Str := "__debug__"

noncomputable def WE (C : Cx) : Nat → Md → Vars → Own' → Expr → Post → Prop
  | 0, _, _, _, _, _ => False
  | n + 1, m, ρ, ω, e, post => match e with
    | .Constant c _ _ => ck m.isVal (constP c post)
    | .Name x _ => ck (!m.isTruth && !(x == nDebug)) (nameP C ρ ω x (resP m post))
    | .BinOp l op r _ => ck m.isVal (WE C n .val ρ ω l fun a _ => WE C n .val ρ ω r fun b _ => binP op a b post)
    | .UnaryOp op x _ => ck (m.isVal && op == .USub) (WE C n .val ρ ω x fun a _ => wInt a fun i => post (.int (-i)) .safe)
    | .Compare l ops rs _ => ck (!m.isIter) (cmpT (WE C n .val ρ ω) l ops rs fun b => post (.bool b) .safe)
    | .BoolOp op es _ => (match es with
      | [] => False
      | x :: es => (match es with
        | [] => False
        | y :: es => ck (es.isEmpty && !m.isIter) (match op with
          | .And => WE C n m ρ ω x fun a _ => wBool a fun p => (p = false → post (.bool false) .safe) ∧ (p = true → WE C n m ρ ω y fun b _ => wBool b fun q => post (.bool q) .safe)
          | .Or => ck m.isTruth (WE C n m ρ ω x fun a _ => wBool a fun p => (p = true → post (.bool true) .safe) ∧ (p = false → WE C n m ρ ω y fun b _ => wBool b fun q => post (.bool q) .safe)))))
    | .IfExp t x y _ => ck m.isVal (WE C n .truth ρ ω t fun p _ => wBool p fun p => Stop (∃ d k, (p = true → WE C n .val ρ ω x fun d' k' => d' = d ∧ (k = .any ∨ k' = k)) ∧ (p = false → WE C n .val ρ ω y fun d' k' => d' = d ∧ (k = .any ∨ k' = k)) ∧ post d k))
    | .Call f args kws _ => (match nameOf f with
      | some fn => ck (!(fn == nDebug) && C.kd fn == some .globalImplicit && kws.isEmpty && !args.isEmpty) (WLs (WE C n .val ρ ω) args fun ds => (match fn == nRange with
        | true => ck m.isIter (rangeP ds fun ds => post (.list ds) .new)
        | false => ck (!m.isIter) (callP C fn ds (resP m post))))
      | none => False)
    | .Subscript v s _ => ck m.isVal (WE C n .val ρ ω v fun a _ => (match sliceOf s with
      | some r => wList a fun ds => sliceP (WE C n .val ρ ω) ds r.1 r.2.1 r.2.2 post
      | none => ck (!(isStarred s)) (WE C n .val ρ ω s fun i _ => itemP a i post)))
    | .Tuple es _ _ => ck (!m.isTruth && decide (es.length ≤ 100)) (WLs (WE C n .val ρ ω) es fun ds => (match m.isIter with
      | true => post (.list ds) .any
      | false => post (.tuple ds) .any))
    | .List es _ => ck (m.isVal && decide (es.length ≤ 100)) (WLs (WE C n .val ρ ω) es fun ds => post (.list ds) .new)
    | .ListComp elt gens scope _ => (match compX gens with
      | some xi => ck (m.isVal && compOk scope xi.1 C.kd) (WE C n .iter ρ ω xi.2 fun d _ => wList d fun ds => Stop (∃ rs : List PyData, (ds.length ≤ sizeLine ∧ rs.length = ds.length ∧ rs.all flat = true) ∧
          (∀ (i : Nat) (d r : PyData), ds[i]? = some d → rs[i]? = some r → WE { C with kd := fun y => (relab scope.names C.kd).lookup y } n .val ((xi.1, d) :: compVars scope C.kd ρ) [] elt fun z _ => z = r) ∧ post (.list rs) .new))
      | none => False)
    | _ => False
end
end Mine
end
section
open PySem PySem.W PyProof.Rows PySem.Calls PySem.SeqAt
set_option maxRecDepth 100000
set_option linter.unusedVariables false
namespace Mine
noncomputable section

def strip (ω : Owns) : Own' := ω.map fun p => (p.1, p.2.1)
theorem strip_mem {ω : Owns} {x : Str} {ds : List PyData} (h : (x, ds) ∈ strip ω) : ∃ l, (x, ds, l) ∈ ω := by
  obtain ⟨⟨y, es, l⟩, hp, e⟩ := List.mem_map.mp h
  cases e; exact ⟨l, hp⟩

def RK (k : Kd) (d : PyData) (h h' : Heap) (v : Value) : Prop := match k with
  | .any => Is h'.get? v d
  | .safe => False
  | .new => ∃ ds, d = .list ds ∧ NewL h h' v ds
def Sat (mg : MG) (w : World) (n : Nat) (fn : Str) (ds : List PyData) (d : PyData) (k : Kd) : Prop :=
  Tell mg w fn n ds (RK k d) ∨ (bFree fn = true ∧ ∃ f, bootBuiltins fn = some f ∧ fn ≠ "__name__" ∧ keeperOf f = pure .machine ∧ ∀ A, Ro A n → BTells mg w A f ds (RK k d))
def Good (mg : MG) (w : World) (n : Nat) (fn : Str) (sp : Spec) : Prop := ∀ ds post, sp ds post → ∃ d k, post d k ∧ (k = .new → ∃ es, d = .list es) ∧ Sat mg w n fn ds d k
theorem Good.more {mg : MG} {w : World} {n m : Nat} {fn : Str} {sp : Spec} (g : Good mg w n fn sp) (h : n ≤ m) : Good mg w m fn sp := fun ds post x => by
  obtain ⟨d, k, p, q, s⟩ := g ds post x
  refine ⟨d, k, p, q, s.imp (fun t => t.more h) fun ⟨a, f, b, c, e, t⟩ => ⟨a, f, b, c, e, fun A hA => t A (hA.mono h)⟩⟩

section
variable {mg : MG} {w : World} {A : Around} {env : Env} {h₀ : Base} {ρ : Vars} {ω : Owns}
def EvH (mg : MG) (w : World) (A : Around) (env : Env) (h₀ : Base) (ρ : Vars) (ω : Owns) (e : Expr) (d : PyData) : Prop :=
  ∀ s, St h₀ env ρ ω s.heap → wpAny (model pw w) A (eval e env) (fun v s' => Kp s s' ∧ Is (hid s'.heap ω.at) v d) No s
theorem EvH.ev {e d} (x : EvH mg w A env h₀ ρ ω e d) : Ev mg w A env h₀ ρ ω e d := fun s S => wpAny_q (x s S) fun v s' ⟨k, i⟩ => ⟨k, i.full⟩
theorem Ev.flat {e d} (x : Ev mg w A env h₀ ρ ω e d) (hf : flat d = true) : EvH mg w A env h₀ ρ ω e d := fun s S => wpAny_q (x s S) fun v s' ⟨k, i⟩ => ⟨k, i.flat hf (S.keeps k.get).lists⟩
theorem EvN.safe {e ds} (x : EvN mg w A env h₀ ρ ω e ds) (hf : ds.all Mine.flat = true) : EvH mg w A env h₀ ρ ω e (.list ds) := fun s S => wpAny_q (x s S) fun v s' ⟨k, i⟩ => ⟨k, i.hid S k hf⟩
theorem evH_var {x pos d} (hk : EnvOk env) (hm : (x, d) ∈ ρ) (hd : (x == ("__debug__" : Str)) = false) : EvH mg w A env h₀ ρ ω (.Name x pos) d := fun s S => by
  obtain ⟨v, V, i⟩ := S.vars x d hm
  exact load_val hk.kind V ⟨Kp.refl _, i⟩ hd
theorem evH_ifexp {t x y pos b d} (p : Tr mg w A env h₀ ρ ω t b) (q : b = true → EvH mg w A env h₀ ρ ω x d) (r : b = false → EvH mg w A env h₀ ρ ω y d) : EvH mg w A env h₀ ρ ω (.IfExp t x y pos) d := fun s S =>
  wpAny_IfExp (wpAny_q (p s S) fun v s₁ ⟨k₁, i₁⟩ => by
    subst i₁
    cases v with
    | true => exact wpAny_q (q rfl s₁ (S.keeps k₁.get)) fun u s₂ ⟨k₂, i₂⟩ => ⟨k₁.trans k₂, i₂⟩
    | false => exact wpAny_q (r rfl s₁ (S.keeps k₁.get)) fun u s₂ ⟨k₂, i₂⟩ => ⟨k₁.trans k₂, i₂⟩)
theorem evN_ifexp {t x y pos b d} (p : Tr mg w A env h₀ ρ ω t b) (q : b = true → EvN mg w A env h₀ ρ ω x d) (r : b = false → EvN mg w A env h₀ ρ ω y d) : EvN mg w A env h₀ ρ ω (.IfExp t x y pos) d := fun s S =>
  wpAny_IfExp (wpAny_q (p s S) fun v s₁ ⟨k₁, i₁⟩ => by
    subst i₁
    cases v with
    | true => exact wpAny_q (q rfl s₁ (S.keeps k₁.get)) fun u s₂ ⟨k₂, i₂⟩ => ⟨k₁.trans k₂, i₂.older k₁⟩
    | false => exact wpAny_q (r rfl s₁ (S.keeps k₁.get)) fun u s₂ ⟨k₂, i₂⟩ => ⟨k₁.trans k₂, i₂.older k₁⟩)
def EvK (mg : MG) (w : World) (A : Around) (env : Env) (h₀ : Base) (ρ : Vars) (ω : Owns) (k : Kd) (e : Expr) (d : PyData) : Prop := match k with
  | .any => Ev mg w A env h₀ ρ ω e d
  | .safe => EvH mg w A env h₀ ρ ω e d
  | .new => ∃ ds, d = .list ds ∧ EvN mg w A env h₀ ρ ω e ds
theorem EvK.ev {k e d} (x : EvK mg w A env h₀ ρ ω k e d) : Ev mg w A env h₀ ρ ω e d := by
  cases k with
  | any => exact x
  | safe => exact EvH.ev x
  | new => obtain ⟨ds, rfl, y⟩ := x; exact y.ev
def isNew (k : Kd) : Bool := match k with | .new => true | _ => false
def SM (mg : MG) (w : World) (A : Around) (env : Env) (h₀ : Base) (ρ : Vars) (ω : Owns) (m : Md) (k : Kd) (e : Expr) (d : PyData) : Prop := match m with
  | .val => EvK mg w A env h₀ ρ ω k e d
  | .truth => ∃ b, d = .bool b ∧ Tr mg w A env h₀ ρ ω e b
  | .iter => ∃ ds, d = .list ds ∧ EvIt mg w A (isNew k) env h₀ ρ ω e ds

structure Fx (mg : MG) (w : World) (A : Around) (env : Env) (h₀ : Base) (C : Cx) : Prop where
  hk : EnvOk env
  W : Wd mg w h₀.h
  kd : ∀ x, env.kindOf x = C.kd x
  sp : ∃ n, Ro A n ∧ ∀ p ∈ C.sp, Good mg w n p.1 p.2
theorem Fx.A0 {C : Cx} (F : Fx mg w A env h₀ C) : Ro A 0 := let ⟨n, a, _⟩ := F.sp; a.mono (Nat.zero_le _)

theorem mem_of_lk {α : Type} {x : Str} {d : α} : ∀ {l : List (Str × α)}, l.lookup x = some d → (x, d) ∈ l
  | (y, e) :: r, h => by
    rw [List.lookup_cons] at h
    split at h
    · rename_i q; rw [beq_iff_eq.mp q]; cases h; exact .head _
    · exact .tail _ (mem_of_lk h)

theorem name_ok {C : Cx} {x : Str} {pos : Pos} {post : Post} (F : Fx mg w A env h₀ C) (hd : (x == ("__debug__" : Str)) = false) (h : nameP C ρ (strip ω) x post) : ∃ d k, post d k ∧ EvK mg w A env h₀ ρ ω k (.Name x pos) d := by
  unfold nameP at h
  split at h
  · rename_i d e; exact ⟨d, .safe, h, evH_var (mg := mg) F.hk (mem_of_lk e) hd⟩
  · split at h
    · rename_i ds e
      obtain ⟨l, hl⟩ := strip_mem (mem_of_lk e)
      exact ⟨_, .any, h, ev_own (mg := mg) F.hk hl hd⟩
    · split at h
      · rename_i d e
        obtain ⟨h1, h⟩ := ck_of h
        exact ⟨d, .any, h, ev_global F.hk F.W ((F.kd x).trans (beq_iff_eq.mp h1)) (mem_of_lk e) hd⟩
      · exact h.elim
def BinT (mg : MG) (w : World) (A : Around) (op : Operator) (a b : PyData) (post : Post) : Prop :=
  (∃ i, post (.int i) .safe ∧ OpTells mg w A (binaryOp op) a b (.int i)) ∨ ∃ ds, post (.list ds) .new ∧ OpMakes mg w A (binaryOp op) a b ds
theorem add_t {a b : PyData} {post : Post} (h : binP .Add a b post) : BinT mg w A .Add a b post := by
  rcases wK_of h with ⟨i, rfl, h⟩ | ⟨i, rfl, h⟩ | ⟨i, rfl, h⟩
  · obtain ⟨j, rfl, h⟩ := wInt_of h
    exact .inl ⟨_, h, op_add⟩
  · obtain ⟨j, rfl, h⟩ := wList_of h
    exact .inr ⟨_, h.2, om_cat h.1⟩
  · exact h.elim
theorem sub_t {a b : PyData} {post : Post} (h : binP .Sub a b post) : BinT mg w A .Sub a b post := by
  rcases wK_of h with ⟨i, rfl, h⟩ | ⟨i, rfl, h⟩ | ⟨i, rfl, h⟩
  · obtain ⟨j, rfl, h⟩ := wInt_of h
    exact .inl ⟨_, h, op_sub⟩
  · exact h.elim
  · obtain ⟨j, rfl, h⟩ := wBool_of h
    exact .inl ⟨_, h, op_subb⟩
theorem rep_t {xs : List PyData} {j : Int} {post : Post} (h : repP xs j post) : BinT mg w A .Mult (.list xs) (.int j) post := by
  cases xs with
  | nil => exact h.elim
  | cons d r =>
    obtain ⟨q, h⟩ := ck_of h
    obtain rfl := List.isEmpty_iff.mp q
    exact .inr ⟨_, h.2, om_rep h.1.1 h.1.2⟩
theorem mul_t {a b : PyData} {post : Post} (h : binP .Mult a b post) : BinT mg w A .Mult a b post := by
  rcases wK_of h with ⟨i, rfl, h⟩ | ⟨i, rfl, h⟩ | ⟨i, rfl, h⟩
  · obtain ⟨j, rfl, h⟩ := wInt_of h
    exact .inl ⟨_, h.2, op_mul h.1⟩
  · obtain ⟨j, rfl, h⟩ := wInt_of h
    exact rep_t h
  · exact h.elim
theorem bin_t {op : Operator} {a b : PyData} {post : Post} (h : binP op a b post) : BinT mg w A op a b post := by
  have two : ∀ {k : Int → Int → Prop}, (wInt a fun x => wInt b fun y => k x y) → ∃ x y, a = .int x ∧ b = .int y ∧ k x y := fun h => by
    obtain ⟨i, e, h⟩ := wInt_of h
    obtain ⟨j, e', h⟩ := wInt_of h
    exact ⟨i, j, e, e', h⟩
  cases op with
  | Add => exact add_t h
  | Sub => exact sub_t h
  | Mult => exact mul_t h
  | FloorDiv =>
    obtain ⟨i, j, rfl, rfl, h⟩ := two h
    exact .inl ⟨_, h.2, op_div h.1.1 h.1.2⟩
  | Mod =>
    obtain ⟨i, j, rfl, rfl, h⟩ := two h
    exact .inl ⟨_, h.2, op_mod h.1⟩
  | Pow =>
    obtain ⟨i, j, rfl, rfl, h⟩ := two h
    exact .inl ⟨_, h.2, op_pow h.1.1 h.1.2⟩
  | _ => exact h.elim
theorem bin_ok {op : Operator} {l r : Expr} {pos : Pos} {a b : PyData} {post : Post} (W : Wd mg w h₀.h) (h : binP op a b post) (x : Ev mg w A env h₀ ρ ω l a) (y : Ev mg w A env h₀ ρ ω r b) : ∃ d k, post d k ∧ EvK mg w A env h₀ ρ ω k (.BinOp l op r pos) d := by
  rcases bin_t h with ⟨i, h, o⟩ | ⟨ds, h, o⟩
  · exact ⟨_, _, h, (ev_binop W x y o).flat rfl⟩
  · exact ⟨_, .new, h, _, rfl, evN_binop W x y o⟩
theorem cmp_ok {op : CmpOp} {a b : PyData} {k : Bool → Prop} (hA : Ro A 0) (h : cmpP op a b k) : ∃ c, k c ∧ OpTells mg w A (compareOp op) a b (.bool c) ∧ op ≠ .In ∧ op ≠ .NotIn := by
  have two : ∀ {k : Int → Int → Prop}, (wInt a fun x => wInt b fun y => k x y) → ∃ x y, a = .int x ∧ b = .int y ∧ k x y := fun h => by
    obtain ⟨i, e, h⟩ := wInt_of h
    obtain ⟨j, e', h⟩ := wInt_of h
    exact ⟨i, j, e, e', h⟩
  cases op with
  | Eq =>
    rcases wIE_of h with ⟨x, rfl, h⟩ | ⟨⟨p, q⟩, h⟩
    · obtain ⟨y, rfl, h⟩ := wInt_of h
      exact ⟨_, h, op_eq, nofun, nofun⟩
    · exact ⟨_, h, op_eqd hA p q, nofun, nofun⟩
  | NotEq =>
    rcases wIE_of h with ⟨x, rfl, h⟩ | ⟨⟨p, q⟩, h⟩
    · obtain ⟨y, rfl, h⟩ := wInt_of h
      exact ⟨_, h, op_ne, nofun, nofun⟩
    · exact ⟨_, h, op_ned hA p q, nofun, nofun⟩
  | Lt => obtain ⟨i, j, rfl, rfl, h⟩ := two h; exact ⟨_, h, op_lt, nofun, nofun⟩
  | LtE => obtain ⟨i, j, rfl, rfl, h⟩ := two h; exact ⟨_, h, op_le, nofun, nofun⟩
  | Gt => obtain ⟨i, j, rfl, rfl, h⟩ := two h; exact ⟨_, h, op_gt, nofun, nofun⟩
  | GtE => obtain ⟨i, j, rfl, rfl, h⟩ := two h; exact ⟨_, h, op_ge, nofun, nofun⟩
  | _ => exact h.elim
theorem behind_no {op : CmpOp} {r : Expr} (h1 : op ≠ .In) (h2 : op ≠ .NotIn) : behindInMarks op r = false := by
  cases r with
  | Set elts k p =>
    have q : ((op == CmpOp.In) || (op == CmpOp.NotIn)) = false := by simp [h1, h2]
    show (k == 0 && ((op == CmpOp.In) || (op == CmpOp.NotIn)) && elts.all (constantsAlone 8)) = false
    rw [q, Bool.and_false, Bool.false_and]
  | _ => rfl

theorem closure_go {env : Env} (hk : EnvOk env) : ∀ (names : List (Str × NameKind)) (acc : List (Str × Addr)), (∀ y ∈ names, y.2 = .free → env.kindOf y.1 = some .cell) → (∀ x c, acc.lookup x = some c → env.cells.lookup x = some c) →
    ∃ cl, (forIn names acc (fun (x : Str × NameKind) (r : List (Str × Addr)) => do
        let cs := r
        if x.2 == .free then do
          let c ← cellOf env x.1
          pure (ForInStep.yield ((x.1, c) :: cs))
        else pure (ForInStep.yield cs)) : Sem (List (Str × Addr))) = pure cl ∧ (∀ x c, cl.lookup x = some c → env.cells.lookup x = some c) ∧ (∀ x c, acc.lookup x = some c → cl.lookup x = some c) ∧ ∀ y ∈ names, y.2 = .free → ∃ c, cl.lookup y.1 = some c
  | [], acc, _, h => ⟨acc, rfl, h, fun _ _ e => e, fun _ m => nomatch m⟩
  | y :: r, acc, hn, h => by
    by_cases hy : y.2 = .free
    · obtain ⟨c, hc⟩ := hk.cell _ (hn y (.head _) hy)
      have h' : ∀ x c', ((y.1, c) :: acc).lookup x = some c' → env.cells.lookup x = some c' := fun x c' e => by
        rw [List.lookup_cons] at e
        split at e
        · rename_i q; cases e; rw [beq_iff_eq.mp q]; exact hc
        · exact h x c' e
      obtain ⟨cl, e, a, b, g⟩ := closure_go hk r ((y.1, c) :: acc) (fun z hz => hn z (.tail _ hz)) h'
      have up : ∀ x c', acc.lookup x = some c' → cl.lookup x = some c' := fun x c' ex => by
        by_cases q : x = y.1
        · have h1 := h x c' ex
          rw [q, hc] at h1; cases h1
          refine b x c ?_
          rw [List.lookup_cons, beq_iff_eq.mpr q]
        · refine b x c' ?_
          rw [List.lookup_cons, beq_eq_false_iff_ne.mpr q]; exact ex
      refine ⟨cl, ?_, a, up, fun z hz hf => ?_⟩
      · rw [List.forIn_cons]
        simp only [hy, beq_self_eq_true, if_true, cellOf, hc]
        exact e
      · rcases List.mem_cons.mp hz with q | q
        · exact ⟨c, b _ _ (by rw [q, List.lookup_cons, beq_self_eq_true])⟩
        · exact g z q hf
    · obtain ⟨cl, e, a, b, g⟩ := closure_go hk r acc (fun z hz => hn z (.tail _ hz)) h
      refine ⟨cl, ?_, a, b, fun z hz hf => ?_⟩
      · rw [List.forIn_cons]
        simp only [beq_eq_false_iff_ne.mpr hy, Bool.false_eq_true, if_false]
        exact e
      · rcases List.mem_cons.mp hz with q | q
        · exact absurd (q ▸ hf) hy
        · exact g z q hf
end
end
end Mine
end
section
open PySem PySem.W PyProof.Rows PySem.Calls PySem.SeqAt
set_option maxRecDepth 100000
set_option linter.unusedVariables false
namespace Mine
noncomputable section
section
variable {mg : MG} {w : World} {A : Around} {env : Env} {h₀ : Base} {ρ : Vars} {ω : Owns}

theorem we_noStar {C : Cx} {m : Md} {ρ : Vars} {ω : Own'} {x : Expr} {p : Pos} {post : Post} : ∀ {n}, ¬ WE C n m ρ ω (.Starred x p) post
  | 0 => id
  | _ + 1 => id
theorem starEach_cons' {e : Expr} {es : List Expr} {env : Env} (h : ∀ x p, e ≠ .Starred x p) : starEach (e :: es) env = (false, eval e env) :: starEach es env := by
  cases e <;> first | rfl | exact absurd rfl (h _ _)

theorem ev_slice {e : Expr} {lo up : Option Expr} {p pos : Pos} {ds rs : List PyData} {pl pu : Option Int} (x : Ev mg w A env h₀ ρ ω e (.list ds)) (hz : ds.length ≤ sizeLine)
    (hl : match lo with | none => pl = none | some l => ∃ k, pl = some k ∧ Ev mg w A env h₀ ρ ω l (.int k)) (hu : match up with | none => pu = none | some u => ∃ k, pu = some k ∧ Ev mg w A env h₀ ρ ω u (.int k))
    (hr : ∀ vs : Array Value, vs.size = ds.length → ∀ g, IsAll g vs.toList ds → IsAll g (slicePick vs pl pu none).toList rs) : EvN mg w A env h₀ ρ ω (.Subscript e (.Slice lo up none p) pos) rs := fun s S =>
  Subscript_ (wpAny_q (x s S) fun v s₁ ⟨k₁, i₁⟩ => wpAny_Slice (by
    have part : ∀ {q : Option Expr} {pq : Option Int} (_ : match q with | none => pq = none | some l => ∃ k, pq = some k ∧ Ev mg w A env h₀ ρ ω l (.int k)) (s₂ : Shared) (S₂ : St h₀ env ρ ω s₂.heap) {Q : Value → Shared → Prop}
        (_ : ∀ z s₃, Kp s₂ s₃ → IsPart z pq → Q z s₃), wpAny (model pw w) A (evalPart q env) Q No s₂ := by
      intro q pq hq s₂ S₂ Q hQ
      cases q with
      | none => subst hq; exact evPart_none s₂ (hQ _ _ (Kp.refl _) .none)
      | some l =>
        obtain ⟨k, rfl, y⟩ := hq
        rw [evalPart_some]
        refine wpAny_q (y s₂ S₂) fun z s₃ ⟨k₃, i₃⟩ => ?_
        obtain ⟨t, rfl⟩ := i₃.int_inv
        exact hQ _ _ k₃ (.int k t)
    refine part hl s₁ (S.keeps k₁.get) fun z s₂ k₂ hz₂ => part hu s₂ ((S.keeps k₁.get).keeps k₂.get) fun z' s₃ k₃ hz₃ => evPart_none s₃ ?_
    obtain ⟨a, vs, n, rfl, e, i⟩ := (i₁.mono (get_mono (k₂.trans k₃).get)).lst_plain
    have hlen : vs.size = ds.length := by simpa using i.length
    have kp := Kp.push s₃ { cls := .type "slice", data := .fields #[z, z', .none] }
    exact slice_end ((k₁.trans (k₂.trans k₃)).trans kp) (kp.get _ _ e) (Heap.IsSliceOf.new _ _ _ _) hz₂ hz₃ (hlen ▸ hz) (hr vs hlen _ (i.mono (get_mono kp.get))) rfl))
theorem slice_ok {f : Expr → Post → Prop} {e : Expr} {lo up st : Option Expr} {p pos : Pos} {ds : List PyData} {post : Post} (hf : ∀ e post, f e post → ∃ d k, post d k ∧ EvK mg w A env h₀ ρ ω k e d)
    (x : Ev mg w A env h₀ ρ ω e (.list ds)) (hS : sliceP f ds lo up st post) : ∃ d k, post d k ∧ EvK mg w A env h₀ ρ ω k (.Subscript e (.Slice lo up st p) pos) d := by
  obtain ⟨h1, hz, h⟩ := ck_of hS
  cases st with
  | some _ => cases h1
  | none =>
    cases lo with
    | none =>
      cases up with
      | none => exact h.elim
      | some u =>
        obtain ⟨d, k, h, y⟩ := hf _ _ h
        obtain ⟨i, rfl, h⟩ := wInt_of h
        rcases h.go with ⟨h0, h1⟩ | ⟨rfl, h1⟩
        · refine ⟨_, .new, h1, _, rfl, ev_slice (pl := none) (pu := some i) x hz rfl ⟨_, rfl, y.ev⟩ fun vs hv g ia => ?_⟩
          obtain ⟨j, rfl⟩ : ∃ j : Nat, i = j := ⟨i.toNat, by lia⟩
          rw [slicePick_upto']
          have := ia.take j
          simpa using this
        · refine ⟨_, .new, h1, _, rfl, ev_slice (pl := none) (pu := some (-1)) x hz rfl ⟨_, rfl, y.ev⟩ fun vs hv g ia => ?_⟩
          rw [show (-1 : Int) = -((1 : Nat) : Int) by rfl, slicePick_butLast _ _ (Nat.le_refl _)]
          have := ia.take (ds.length - 1)
          simpa [hv] using this
    | some l =>
      cases up with
      | some _ => exact h.elim
      | none =>
        obtain ⟨d, k, h, y⟩ := hf _ _ (ck_of h).2
        obtain ⟨i, rfl, h⟩ := wInt_of h
        obtain ⟨h0, h⟩ := ck_of h
        have h0 : 0 ≤ i := of_decide_eq_true h0
        refine ⟨_, .new, h, _, rfl, ev_slice (pl := some i) (pu := none) x hz ⟨_, rfl, y.ev⟩ rfl fun vs hv g ia => ?_⟩
        obtain ⟨j, rfl⟩ : ∃ j : Nat, i = j := ⟨i.toNat, by lia⟩
        rw [slicePick_from']
        have := ia.drop j
        simpa using this
theorem item_ok {e i : Expr} {pos : Pos} {a b : PyData} {post : Post} (hs : ∀ l u, subscripted i false l u = operate [l, u] (getItem l u)) (x : Ev mg w A env h₀ ρ ω e a) (y : Ev mg w A env h₀ ρ ω i b) (h : itemP a b post) :
    ∃ d k, post d k ∧ EvK mg w A env h₀ ρ ω k (.Subscript e i pos) d := by
  obtain ⟨k, rfl, h⟩ := wInt_of h
  rcases wSeq_of h with ⟨ds, rfl, ⟨d, h1, h2⟩⟩ | ⟨ds, rfl, h'⟩
  · exact ⟨d, .any, h2, ev_item_list x y h1.1 h1.2.1 h1.2.2 fun _ _ => hs _ _⟩
  · obtain ⟨h1, h2⟩ := ck_of h'
    simp only [Bool.and_eq_true, decide_eq_true_eq] at h1
    split at h2
    · rename_i d hd
      exact ⟨d, .any, h2, ev_item_tup x y h1.1 hd (Nat.le_trans h1.2 (by decide)) fun _ _ => hs _ _⟩
    · exact h2.elim
theorem args_ok {f : Expr → Post → Prop} (hf : ∀ e post, f e post → ∃ d k, post d k ∧ EvK mg w A env h₀ ρ ω k e d) (hst : ∀ x p post, ¬ f (.Starred x p) post) {pos : Pos} : ∀ {es : List Expr} {k : List PyData → Prop}, WLs f es k →
    ∃ ds, k ds ∧ ds.length = es.length ∧ EvAll mg w A env h₀ ρ ω pos es ds ∧ (∀ e es', es = e :: es' → starEach es env = (false, eval e env) :: starEach es' env) ∧ (backTo pos (starEach es env)).any (·.1) = false
  | [], k, h => ⟨[], h, rfl, evAll_nil, fun _ _ q => (nomatch q), rfl⟩
  | e :: es, k, h => by
    have h0 : f e fun d _ => WLs f es fun ds => k (d :: ds) := h
    obtain ⟨d, kk, h, x⟩ := hf _ _ h0
    obtain ⟨ds, h', hl, y, _, hp⟩ := args_ok (pos := pos) hf hst h
    have hs : starEach (e :: es) env = (false, eval e env) :: starEach es env := starEach_cons' fun z p q => by
      subst q
      exact hst z p _ h0
    refine ⟨d :: ds, h', congrArg (· + 1) hl, evAll_cons x.ev y hs, fun _ _ q => by cases q; exact hs, ?_⟩
    rw [hs]
    show (false || (backTo pos (starEach es env)).any (·.1)) = false
    rw [hp]; rfl
theorem call_ok {C : Cx} {fn : Str} {np pos : Pos} {e : Expr} {es : List Expr} {ds : List PyData} {post : Post} (F : Fx mg w A env h₀ C) (hdb : (fn == ("__debug__" : Str)) = false) (hx : C.kd fn = some .globalImplicit)
    (x : EvAll mg w A env h₀ ρ ω pos (e :: es) ds) (he : starEach (e :: es) env = (false, eval e env) :: starEach es env) (hp : (backTo pos (starEach es env)).any (·.1) = false) (h : callP C fn ds post) :
    ∃ d k, post d k ∧ EvK mg w A env h₀ ρ ω k (.Call (.Name fn np) (e :: es) [] pos) d := by
  unfold callP at h
  split at h
  · rename_i sp hsp
    obtain ⟨n, hA, hg⟩ := F.sp
    obtain ⟨d, k, hpost, hnew, hs⟩ := hg _ (mem_of_lk hsp) ds post h
    have hkd := (F.kd fn).trans hx
    refine ⟨d, k, hpost, ?_⟩
    have key : ∀ s, St h₀ env ρ ω s.heap → wpAny (model pw w) A (eval (.Call (.Name fn np) (e :: es) [] pos) env) (fun v s' => Kp s s' ∧ ∃ s₁, Kp s s₁ ∧ Kp s₁ s' ∧ RK k d s₁.heap s'.heap v) No s := fun s S => by
      rcases hs with t | ⟨hg, f, hb, hn, hf, t⟩
      · exact ev_call F.hk F.W hkd x t hA he hp hdb s S
      · exact ev_builtin F.hk F.W hkd hg hb hn hf x (t A hA) he hp hdb s S
    cases k with
    | any => exact fun s S => wpAny_q (key s S) fun v s' ⟨k, s₁, _, _, r⟩ => ⟨k, r⟩
    | safe => exact fun s S => wpAny_q (key s S) fun v s' ⟨k, s₁, _, _, r⟩ => r.elim
    | new =>
      obtain ⟨ds, rfl⟩ := hnew rfl
      exact ⟨ds, rfl, fun s S => wpAny_q (key s S) fun v s' ⟨k, s₁, k₁, _, ds', e, r⟩ => by cases e; exact ⟨k, NewL.older r k₁⟩⟩
  · exact h.elim
end
end
end Mine
end
section
open PySem PySem.W PyProof.Rows PySem.Calls PySem.SeqAt
set_option maxRecDepth 100000
set_option linter.unusedVariables false
namespace Mine
noncomputable section
section
variable {mg : MG} {w : World} {A : Around} {env : Env} {h₀ : Base} {ρ : Vars} {ω : Owns}

theorem rangeD_scalar (a c : Int) (n : Nat) : (rangeD a c n).all scalar = true := by simp [rangeD, scalar]
theorem rangeD_flat (a c : Int) (n : Nat) : (rangeD a c n).all flat = true := by simp [rangeD, flat, scalar]
theorem bo_range : bootBuiltins (Str.ofString "range") = some (.type "range") := by boot_fast
theorem bf_range : bFree nRange = true := by decide +kernel
theorem n_range : nRange ≠ "__name__" := by decide

theorem range_ok {np pos : Pos} {e : Expr} {es : List Expr} {ds : List PyData} {k : List PyData → Prop} {C : Cx} (F : Fx mg w A env h₀ C) (hx : C.kd nRange = some .globalImplicit)
    (x : EvAll mg w A env h₀ ρ ω pos (e :: es) ds) (he : starEach (e :: es) env = (false, eval e env) :: starEach es env) (hp : (backTo pos (starEach es env)).any (·.1) = false) (h : rangeP ds k) :
    ∃ ds, k ds ∧ EvIt mg w A true env h₀ ρ ω (.Call (.Name nRange np) (e :: es) [] pos) ds := by
  have hkd := (F.kd nRange).trans hx
  cases ds with
  | nil => exact h.elim
  | cons a ds =>
    obtain ⟨a, rfl, h⟩ := wInt_of h
    cases ds with
    | nil => exact ⟨_, h.2, evIt_range F.A0 (evR_of F.hk F.W hkd bf_range bo_range n_range x b_range1 (fun _ _ _ r => r) he hp) (by lia) (by lia) (by lia) h.1.1 h.1.2⟩
    | cons b ds =>
      obtain ⟨b, rfl, h⟩ := wInt_of h
      cases ds with
      | nil => exact ⟨_, h.2, evIt_range F.A0 (evR_of F.hk F.W hkd bf_range bo_range n_range x b_range2 (fun _ _ _ r => r) he hp) rfl h.1.1.1 h.1.1.2 h.1.2.1 h.1.2.2⟩
      | cons c ds =>
        obtain ⟨h1, ⟨ha, hb⟩, h2⟩ := ck_of h
        obtain ⟨h3, h4⟩ := Bool.and_eq_true_iff.mp h1
        have h3 := List.isEmpty_iff.mp h3
        subst h3
        obtain rfl : c = .int (-1) := by
          unfold isM1 at h4
          split at h4
          · rw [beq_iff_eq.mp h4]
          · cases h4
        exact ⟨_, h2, evIt_down F.A0 (evR_of F.hk F.W hkd bf_range bo_range n_range x (b_range3 (by decide) (Nat.one_lt_two_pow (by decide))) (fun _ _ _ r => r) he hp) rfl ha.1 ha.2 hb.1 hb.2⟩

theorem noSome {α : Type} {a : α} {p : Prop} (h : (none : Option α) = some a) : p := nomatch h
theorem nameOf_some {e : Expr} {x : Str} (h : nameOf e = some x) : ∃ p, e = .Name x p := by
  cases e with
  | Name y p => exact ⟨p, congrArg (Expr.Name · p) (Option.some.inj h)⟩
  | _ => exact noSome h
theorem compX_some {gens : List Comprehension} {xi : Str × Expr} (h : compX gens = some xi) : ∃ p, gens = [⟨.Name xi.1 p, xi.2, [], 0⟩] := by
  unfold compX at h
  split at h
  · cases h
  · rename_i g gs
    split at h
    · rename_i q
      simp only [Bool.and_eq_true, List.isEmpty_iff, beq_iff_eq] at q
      obtain ⟨x, hx, rfl⟩ := Option.map_eq_some_iff.mp h
      obtain ⟨p, hp⟩ := nameOf_some hx
      obtain ⟨⟨rfl, q2⟩, q3⟩ := q
      obtain ⟨t, i, f, y⟩ := g
      simp only at hp q2 q3
      subst hp; subst q2; subst q3
      exact ⟨p, rfl⟩
    · cases h
theorem it_ok {C : Cx} {x : Str} {pos : Pos} {post : Post} (F : Fx mg w A env h₀ C) (hd : (x == ("__debug__" : Str)) = false) (h : nameP C ρ (strip ω) x (resP .iter post)) : ∃ d k, post d k ∧ SM mg w A env h₀ ρ ω .iter k (.Name x pos) d := by
  obtain ⟨d, k, h, y⟩ := name_ok (pos := pos) F hd h
  obtain ⟨ds, rfl, h⟩ := wList_of h
  exact ⟨_, .any, h, ds, rfl, evIt_list F.A0 y.ev⟩
theorem fold_no {e : Expr} {env : Env} (h : ∀ a b c, e ≠ .Set a b c) (x : Value) : foldedSetIterable e env x = pure x := by
  cases e <;> first | rfl | exact absurd rfl (h _ _ _)
theorem relabel_eq {scope : Scope} {env : Env} {kd : Str → Option NameKind} (hk : EnvOk env) (h : ∀ x, env.kindOf x = kd x) : (relabel scope env).names = relab scope.names kd := by
  unfold relabel relab
  dsimp only
  refine List.map_congr_left fun y _ => ?_
  rw [hk.kind, h]
  simp
theorem closure_ok {scope : Scope} {env : Env} (hk : EnvOk env) (h : ∀ y ∈ scope.names, y.2 = .free → env.kindOf y.1 = some .cell) :
    ∃ cl, closureFor scope env = pure cl ∧ (∀ x c, cl.lookup x = some c → env.cells.lookup x = some c) ∧ ∀ y ∈ scope.names, y.2 = .free → ∃ c, cl.lookup y.1 = some c := by
  obtain ⟨cl, e, a, _, g⟩ := closure_go hk scope.names [] h (fun _ _ q => nomatch q)
  refine ⟨cl, ?_, a, g⟩
  unfold closureFor
  exact (congrArg (· >>= fun r => pure r) e)

theorem comp_ok {C : Cx} {elt iter : Expr} {x : Str} {px : Pos} {scope : Scope} {pos : Pos} {ds rs : List PyData} {own : Bool} (F : Fx mg w A env h₀ C) (ok : compOk scope x C.kd = true) (hns : ∀ a b c, iter ≠ .Set a b c)
    (hi : EvIt mg w A own env h₀ ρ ω iter ds) (hz : ds.length ≤ sizeLine) (hlen : rs.length = ds.length) (hfl : rs.all flat = true)
    (he : ∀ (env' : Env) (h₁ : Base) (i : Nat) (d r : PyData), ds[i]? = some d → rs[i]? = some r → Fx mg w A env' h₁ { C with kd := fun y => (relab scope.names C.kd).lookup y } → ∃ d' k, d' = r ∧ EvK mg w A env' h₁ ((x, d) :: compVars scope C.kd ρ) [] k elt d') :
    EvN mg w A env h₀ ρ ω (.ListComp elt [⟨.Name x px, iter, [], 0⟩] scope pos) rs := by
  unfold compOk at ok
  simp only [Bool.and_eq_true, beq_iff_eq, List.all_eq_true, bne_iff_ne, Bool.or_eq_true] at ok
  obtain ⟨⟨k1, k2⟩, k3⟩ := ok
  have hfree : ∀ y ∈ scope.names, y.2 = .free → env.kindOf y.1 = some .cell := fun y hy e => (F.kd _).trans ((k3 y hy).2.resolve_left fun q => q e)
  obtain ⟨cl, hc, h1, h2⟩ := closure_ok F.hk hfree
  refine evN_comp (cl := cl) (ρc := compVars scope C.kd ρ) (fun y hy => (k3 y hy).1.1) k1 (fun y hy e => (k3 y hy).1.2.resolve_left fun q => q e) k2 hc (fun y c e => ⟨y, h1 y c e⟩) hi (fun p hp => ?_) hlen hfl hz (fun h₁ CC i d r hk hd hr => ?_) (fold_no hns)
  · obtain ⟨q1, q2⟩ := List.mem_filter.mp hp
    simp only [Bool.and_eq_true, beq_iff_eq, List.any_eq_true] at q2
    obtain ⟨⟨q2, y, hy, e1, e2⟩, q3⟩ := q2
    obtain ⟨c, hc⟩ := h2 y hy e2
    rw [e1] at hc
    exact ⟨q1, (F.kd _).trans q2, hc.trans (h1 _ _ hc).symm, by rw [relabel_eq F.hk F.kd]; exact q3⟩
  · have F' : Fx mg w A (compEnvC scope cl CC env) h₁ { C with kd := fun y => (relab scope.names C.kd).lookup y } := by
      refine ⟨⟨?_, F.hk.globals, F.hk.builtins, fun y hy => ?_⟩, F.W.keeps hk, fun y => ?_, F.sp⟩
      · exact k1
      · have hy' : (relabel scope env).names.lookup y = some .cell := hy
        rw [relabel_eq F.hk F.kd] at hy'
        have hm := mem_of_lk hy'
        obtain ⟨z, hz, e⟩ := List.mem_map.mp hm
        split at e
        · rename_i q
          simp only [Bool.and_eq_true, beq_iff_eq] at q
          cases e
          exact h2 z hz q.1
        · subst e
          exact absurd rfl ((k3 _ hz).1.1)
      · show (relabel scope env).names.lookup y = _
        rw [relabel_eq F.hk F.kd]
    obtain ⟨d', k, rfl, y⟩ := he _ h₁ i d r hd hr F'
    exact y.ev
end
end
end Mine
end
section
open PySem PySem.W PyProof.Rows PySem.Calls PySem.SeqAt
set_option maxRecDepth 100000
set_option linter.unusedVariables false
namespace Mine
noncomputable section

theorem res_ok {mg : MG} {w : World} {A : Around} {env : Env} {h₀ : Base} {ρ : Vars} {ω : Owns} {m : Md} {e : Expr} {d : PyData} {k : Kd} {post : Post} (hm : m ≠ .iter) (h : resP m post d k) (y : EvK mg w A env h₀ ρ ω k e d) (ht : ∀ b, Ev mg w A env h₀ ρ ω e (.bool b) → Tr mg w A env h₀ ρ ω e b) :
    ∃ d k, post d k ∧ SM mg w A env h₀ ρ ω m k e d := by
  cases m with
  | val => exact ⟨d, k, h, y⟩
  | truth =>
    obtain ⟨b, rfl, h⟩ := wBool_of h
    exact ⟨_, .safe, h, b, rfl, ht b y.ev⟩
  | iter => exact absurd rfl hm

theorem sliceOf_some {e : Expr} {r} (h : sliceOf e = some r) : ∃ p, e = .Slice r.1 r.2.1 r.2.2 p := by
  cases e with
  | Slice lo up st p => exact ⟨p, congrArg (fun r : Option Expr × Option Expr × Option Expr => Expr.Slice r.1 r.2.1 r.2.2 p) (Option.some.inj h)⟩
  | _ => exact noSome h
theorem sub_ok {s : Expr} (h : sliceOf s = none) (h1 : (!(isStarred s)) = true) (l u : Value) : subscripted s false l u = operate [l, u] (getItem l u) := by
  cases s with
  | Slice lo up st p => exact noSome h.symm
  | Starred z p => exact nomatch h1
  | _ => rfl
section
variable {mg : MG} {w : World} {A : Around} {env : Env} {h₀ : Base} {ρ : Vars} {ω : Owns} {C : Cx} {n : Nat} {m : Md} {post : Post}
theorem bool_ok {op : BoolOp} {x y : Expr} {pos : Pos} (ih : ∀ {e post}, WE C n m ρ (strip ω) e post → ∃ d k, post d k ∧ SM mg w A env h₀ ρ ω m k e d) (hm : (!m.isIter) = true) (ist : ∀ {m : Md}, m.isTruth = true → m = .truth)
    (h : match op with
      | .And => WE C n m ρ (strip ω) x fun a _ => wBool a fun p => (p = false → post (.bool false) .safe) ∧ (p = true → WE C n m ρ (strip ω) y fun b _ => wBool b fun q => post (.bool q) .safe)
      | .Or => ck m.isTruth (WE C n m ρ (strip ω) x fun a _ => wBool a fun p => (p = true → post (.bool true) .safe) ∧ (p = false → WE C n m ρ (strip ω) y fun b _ => wBool b fun q => post (.bool q) .safe))) :
    ∃ d k, post d k ∧ SM mg w A env h₀ ρ ω m k (.BoolOp op [x, y] pos) d := by
  cases op with
  | And =>
    obtain ⟨a, _, h, x⟩ := ih h
    obtain ⟨p, rfl, h1, h2⟩ := wBool_of h
    cases m with
    | iter => cases hm
    | val =>
      cases p with
      | false => exact ⟨_, .safe, h1 rfl, (ev_and2 (b := false) x.ev fun q => nomatch q).flat rfl⟩
      | true =>
        obtain ⟨b, _, h, y⟩ := ih (h2 rfl)
        obtain ⟨q, rfl, h⟩ := wBool_of h
        exact ⟨_, .safe, h, (ev_and2 (a := true) x.ev fun _ => y.ev).flat rfl⟩
    | truth =>
      obtain ⟨p', e, x⟩ := x
      cases e
      cases p with
      | false => exact ⟨_, .safe, h1 rfl, _, rfl, tr_and2 (b := false) x fun q => nomatch q⟩
      | true =>
        obtain ⟨b, _, h, q', e, y⟩ := ih (h2 rfl)
        subst e
        exact ⟨_, .safe, h, _, rfl, tr_and2 x fun _ => y⟩
  | Or =>
    obtain ⟨hm', h⟩ := ck_of h
    obtain rfl := ist hm'
    obtain ⟨a, _, h, p, e, x⟩ := ih h
    subst e
    obtain ⟨h1, h2⟩ := h
    cases p with
    | true => exact ⟨_, .safe, h1 rfl, _, rfl, tr_or2 (b := false) x fun q => nomatch q⟩
    | false =>
      obtain ⟨b, _, h, q', e, y⟩ := ih (h2 rfl)
      subst e
      exact ⟨_, .safe, h, _, rfl, tr_or2 x fun _ => y⟩
end
theorem we_ok : ∀ (n : Nat) {C : Cx} {m : Md} {e : Expr} {post : Post} {mg : MG} {w : World} {A : Around} {env : Env} {h₀ : Base} {ρ : Vars} {ω : Owns}, Fx mg w A env h₀ C → WE C n m ρ (strip ω) e post →
    ∃ d k, post d k ∧ SM mg w A env h₀ ρ ω m k e d
  | 0, _, _, _, _, _, _, _, _, _, _, _, _, h => h.elim
  | n + 1, C, m, e, post, mg, w, A, env, h₀, ρ, ω, F, hE => by
    have ih : ∀ (e : Expr) (post : Post), WE C n .val ρ (strip ω) e post → ∃ d k, post d k ∧ EvK mg w A env h₀ ρ ω k e d := fun e post h => we_ok n F h
    have hst : ∀ x p post, ¬ WE C n .val ρ (strip ω) (.Starred x p) post := fun _ _ _ => we_noStar
    have isv : ∀ {m : Md}, m.isVal = true → m = .val := fun {m} h => by cases m <;> first | rfl | cases h
    have ist : ∀ {m : Md}, m.isTruth = true → m = .truth := fun {m} h => by cases m <;> first | rfl | cases h
    have isi : ∀ {m : Md}, m.isIter = true → m = .iter := fun {m} h => by cases m <;> first | rfl | cases h
    have noi : ∀ {m : Md}, (!m.isIter) = true → m ≠ .iter := fun {m} h q => by rw [q] at h; cases h
    cases e with
    | Constant c k pos =>
      obtain ⟨hm, h⟩ := ck_of (show ck m.isVal (constP c post) from hE)
      obtain rfl := isv hm
      cases c with
      | int i => exact ⟨_, .safe, h, (ev_int (mg := mg) (w := w)).flat rfl⟩
      | none => exact ⟨_, .safe, h, (ev_none (mg := mg) (w := w)).flat rfl⟩
      | bool b => exact ⟨_, .safe, h, (ev_bool (mg := mg) (w := w)).flat rfl⟩
      | str s => exact ⟨_, .safe, h, (ev_str (mg := mg) (w := w)).flat rfl⟩
      | _ => exact h.elim
    | Name x pos =>
      obtain ⟨hm, h⟩ := ck_of (show ck (!m.isTruth && !(x == nDebug)) (nameP C ρ (strip ω) x (resP m post)) from hE)
      obtain ⟨hm, hd⟩ := Bool.and_eq_true_iff.mp hm
      have hd : (x == ("__debug__" : Str)) = false := (Bool.not_eq_true' _).mp hd
      cases m with
      | val => exact name_ok F hd h
      | truth => cases hm
      | iter => exact it_ok F hd h
    | BinOp l op r pos =>
      obtain ⟨hm, h⟩ := ck_of (show ck m.isVal (WE C n .val ρ (strip ω) l (fun a _ => WE C n .val ρ (strip ω) r fun b _ => binP op a b post)) from hE)
      obtain rfl := isv hm
      obtain ⟨a, _, h, x⟩ := ih _ _ h
      obtain ⟨b, _, h, y⟩ := ih _ _ h
      exact bin_ok F.W h x.ev y.ev
    | UnaryOp op x pos =>
      obtain ⟨hm, h⟩ := ck_of (show ck (m.isVal && op == .USub) (WE C n .val ρ (strip ω) x (fun a _ => wInt a fun i => post (.int (-i)) .safe)) from hE)
      obtain ⟨hm, ho⟩ := Bool.and_eq_true_iff.mp hm
      obtain rfl := isv hm
      obtain rfl := beq_iff_eq.mp ho
      obtain ⟨a, _, h, x⟩ := ih _ _ h
      obtain ⟨i, rfl, h⟩ := wInt_of h
      exact ⟨_, _, h, (ev_neg x.ev).flat rfl⟩
    | Compare l ops rs pos =>
      obtain ⟨hm, h⟩ := ck_of (show ck (!m.isIter) (cmpT (WE C n .val ρ (strip ω)) l ops rs (fun b => post (.bool b) .safe)) from hE)
      cases ops with
      | nil => exact h.elim
      | cons op os =>
        cases rs with
        | nil => exact h.elim
        | cons r rr =>
          obtain ⟨he, h⟩ := ck_of h
          obtain ⟨h1, h2⟩ := Bool.and_eq_true_iff.mp he
          obtain rfl := List.isEmpty_iff.mp h1
          obtain rfl := List.isEmpty_iff.mp h2
          obtain ⟨a, _, h, x⟩ := ih _ _ h
          obtain ⟨b, _, h, y⟩ := ih _ _ h
          obtain ⟨c, h, o, n1, n2⟩ := cmp_ok (mg := mg) (w := w) F.A0 h
          cases m with
          | val => exact ⟨_, .safe, h, (ev_cmp F.W x.ev y.ev o (behind_no n1 n2)).flat rfl⟩
          | truth => exact ⟨_, .safe, h, c, rfl, tr_cmp F.W x.ev y.ev o (behind_no n1 n2)⟩
          | iter => cases hm
    | BoolOp op es pos =>
      cases es with
      | nil => exact hE.elim
      | cons x es =>
        cases es with
        | nil => exact hE.elim
        | cons y es =>
          obtain ⟨he, h⟩ := ck_of hE
          obtain ⟨he, hm⟩ := Bool.and_eq_true_iff.mp he
          obtain rfl := List.isEmpty_iff.mp he
          exact bool_ok (fun h => we_ok n F h) hm ist h
    | IfExp t x y pos =>
      obtain ⟨hm, h⟩ := ck_of (show ck m.isVal (WE C n .truth ρ (strip ω) t (fun p _ => wBool p fun p => Stop (∃ d k, (p = true → WE C n .val ρ (strip ω) x fun d' k' => d' = d ∧ (k = .any ∨ k' = k)) ∧ (p = false → WE C n .val ρ (strip ω) y fun d' k' => d' = d ∧ (k = .any ∨ k' = k)) ∧ post d k))) from hE)
      obtain rfl := isv hm
      obtain ⟨d, _, h, p, e, z⟩ := we_ok n (h₀ := h₀) (ω := ω) F h
      subst e
      obtain ⟨d, k, h1, h2, h⟩ := h
      refine ⟨d, k, h, ?_⟩
      have br : ∀ {e : Expr}, WE C n .val ρ (strip ω) e (fun d' k' => d' = d ∧ (k = .any ∨ k' = k)) → EvK mg w A env h₀ ρ ω k e d := fun h => by
        obtain ⟨d', k', ⟨rfl, hk⟩, x⟩ := ih _ _ h
        rcases hk with rfl | rfl
        · exact EvK.ev x
        · exact x
      have h1' : p = true → EvK mg w A env h₀ ρ ω k x d := fun q => br (h1 q)
      have h2' : p = false → EvK mg w A env h₀ ρ ω k y d := fun q => br (h2 q)
      cases k with
      | any => exact ev_ifexp z h1' h2'
      | safe => exact evH_ifexp z h1' h2'
      | new =>
        cases p with
        | true =>
          obtain ⟨ds, e, x⟩ := h1' rfl
          exact ⟨ds, e, evN_ifexp z (fun _ => x) fun q => nomatch q⟩
        | false =>
          obtain ⟨ds, e, x⟩ := h2' rfl
          exact ⟨ds, e, evN_ifexp z (fun q => nomatch q) fun _ => x⟩
    | Call f args kws pos =>
      have h : (match nameOf f with
        | some fn => ck (!(fn == nDebug) && C.kd fn == some .globalImplicit && kws.isEmpty && !args.isEmpty) (WLs (WE C n .val ρ (strip ω)) args fun ds => (match fn == nRange with
          | true => ck m.isIter (rangeP ds fun ds => post (.list ds) .new)
          | false => ck (!m.isIter) (callP C fn ds (resP m post))))
        | none => False) := hE
      cases hf : nameOf f with
      | none => rw [hf] at h; exact h.elim
      | some fn =>
        rw [hf] at h
        obtain ⟨np, rfl⟩ := nameOf_some hf
        replace h := ck_of h
        obtain ⟨h1, h⟩ := h
        obtain ⟨h1, hne⟩ := Bool.and_eq_true_iff.mp h1
        obtain ⟨h1, hkw⟩ := Bool.and_eq_true_iff.mp h1
        obtain ⟨hdb, hx⟩ := Bool.and_eq_true_iff.mp h1
        have hdb : (fn == ("__debug__" : Str)) = false := (Bool.not_eq_true' _).mp hdb
        have hx := beq_iff_eq.mp hx
        cases kws with
        | cons _ _ => cases hkw
        | nil =>
          cases args with
          | nil => cases hne
          | cons e es =>
            obtain ⟨ds, h, _, y, he, hp⟩ := args_ok (pos := pos) ih hst h
            have he' := he _ _ rfl
            have hp' : (backTo pos (starEach es env)).any (·.1) = false := by
              rw [he'] at hp
              exact hp
            cases hr : fn == nRange with
            | true =>
              rw [hr] at h
              obtain ⟨hm, h⟩ := ck_of h
              obtain rfl := isi hm
              have hr' := beq_iff_eq.mp hr
              subst hr'
              obtain ⟨ds, h2, z⟩ := range_ok (np := np) F hx y he' hp' ‹rangeP _ _›
              exact ⟨_, .new, h2, ds, rfl, z⟩
            | false =>
              rw [hr] at h
              obtain ⟨hm, h⟩ := ck_of h
              obtain ⟨d, k, h, z⟩ := call_ok (np := np) F hdb hx y he' hp' h
              exact res_ok (noi hm) h z fun b q => tr_value q rfl
    | Subscript v s pos =>
      obtain ⟨hm, h⟩ := ck_of (show ck m.isVal (WE C n .val ρ (strip ω) v _) from hE)
      obtain rfl := isv hm
      obtain ⟨a, _, h, x⟩ := ih _ _ h
      cases hs : sliceOf s with
      | some r =>
        have h : (match sliceOf s with
          | some r => wList a fun ds => sliceP (WE C n .val ρ (strip ω)) ds r.1 r.2.1 r.2.2 post
          | none => _) := h
        rw [hs] at h
        obtain ⟨p, rfl⟩ := sliceOf_some hs
        obtain ⟨ds, rfl, h⟩ := wList_of h
        exact slice_ok ih x.ev h
      | none =>
        have h : (match sliceOf s with
          | some r => _
          | none => ck (!(isStarred s)) (WE C n .val ρ (strip ω) s fun i _ => itemP a i post)) := h
        rw [hs] at h
        obtain ⟨h1, h⟩ := ck_of h
        obtain ⟨i, _, h, y⟩ := ih _ _ h
        exact item_ok (sub_ok hs h1) x.ev y.ev h
    | Tuple es k pos =>
      obtain ⟨hm, h⟩ := ck_of (show ck (!m.isTruth && decide (es.length ≤ 100)) (WLs (WE C n .val ρ (strip ω)) es (fun ds => (match m.isIter with
        | true => post (.list ds) .any
        | false => post (.tuple ds) .any))) from hE)
      obtain ⟨hm, hz⟩ := Bool.and_eq_true_iff.mp hm
      obtain ⟨ds, h, hl, y, _, _⟩ := args_ok (pos := pos) ih hst h
      have ev := ev_tuple (k := k) y (hl ▸ Nat.le_trans (of_decide_eq_true hz) (by decide))
      cases m with
      | val => exact ⟨_, .any, h, ev⟩
      | truth => cases hm
      | iter => exact ⟨_, .any, h, ds, rfl, evIt_tup F.A0 ev⟩
    | List es pos =>
      obtain ⟨hm, h⟩ := ck_of (show ck (m.isVal && decide (es.length ≤ 100)) (WLs (WE C n .val ρ (strip ω)) es (fun ds => post (.list ds) .new)) from hE)
      obtain ⟨hm, hz⟩ := Bool.and_eq_true_iff.mp hm
      obtain rfl := isv hm
      obtain ⟨ds, h, hl, y, _, _⟩ := args_ok (pos := pos) ih hst h
      exact ⟨_, .new, h, ds, rfl, evN_list y (hl ▸ Nat.le_trans (of_decide_eq_true hz) (by decide))⟩
    | ListComp elt gens scope pos =>
      have h : (match compX gens with
        | some xi => ck (m.isVal && compOk scope xi.1 C.kd) (WE C n .iter ρ (strip ω) xi.2 fun d _ => wList d fun ds => Stop (∃ rs : List PyData, (ds.length ≤ sizeLine ∧ rs.length = ds.length ∧ rs.all flat = true) ∧
            (∀ (i : Nat) (d r : PyData), ds[i]? = some d → rs[i]? = some r → WE { C with kd := fun y => (relab scope.names C.kd).lookup y } n .val ((xi.1, d) :: compVars scope C.kd ρ) [] elt fun z _ => z = r) ∧ post (.list rs) .new))
        | none => False) := hE
      cases hg : compX gens with
      | none => rw [hg] at h; exact h.elim
      | some xi =>
        rw [hg] at h
        obtain ⟨px, rfl⟩ := compX_some hg
        replace h := ck_of h
        obtain ⟨hm, h⟩ := h
        obtain ⟨hm, ok⟩ := Bool.and_eq_true_iff.mp hm
        obtain rfl := isv hm
        have hns : ∀ a b c, xi.2 ≠ .Set a b c := fun a b c q => by
          rw [q] at h
          cases n with
          | zero => exact h
          | succ n => exact h
        obtain ⟨d, k, h, ds, e, hi⟩ := we_ok n (h₀ := h₀) (ω := ω) F h
        subst e
        obtain ⟨rs, ⟨hz, hl, hfl⟩, he, hpost⟩ := h
        exact ⟨_, .new, hpost, rs, rfl, comp_ok F ok hns hi hz hl hfl fun env' h₁ i d r hd hr F' => we_ok n (ω := []) F' (he i d r hd hr)⟩
    | _ => exact hE.elim
end
end Mine
end
section
open PySem PySem.W PyProof.Rows PySem.Calls PySem.SeqAt
set_option maxRecDepth 100000
set_option linter.unusedVariables false
namespace Mine
noncomputable section

/-! statements -/
noncomputable def Kd.isNew (k : Kd) : Bool := match k with | .new => true | _ => false
noncomputable def safeP (d : PyData) (k : Kd) (ω : Own') (p : Prop) : Prop := match k with
  | .safe => p
  | .new => (match ω.isEmpty with
    | true => p
    | false => (wList d fun ds => ds.all flat = true) ∧ p)
  | .any => ck (flat d || ω.isEmpty) p
noncomputable def noComp (e : Expr) : Bool := match e with
  | .ListComp .. => false
  | .SetComp .. => false
  | .DictComp .. => false
  | _ => true
theorem noComp_ok {e : Expr} (h : noComp e = true) (t : Option Expr) (l : Nat) (env : Env) : swapsWith e t l env = pure false := by
  cases e <;> first | rfl | cases h
noncomputable def tupOf (e : Expr) : Option (List Expr) := match e with
  | .Tuple vs _ _ => some vs
  | _ => none
theorem tupOf_some {e : Expr} {vs : List Expr} (h : tupOf e = some vs) : ∃ k p, e = .Tuple vs k p := by
  cases e with
  | Tuple us k p => exact ⟨k, p, congrArg (Expr.Tuple · k p) (Option.some.inj h)⟩
  | _ => exact noSome h
noncomputable def pairOk (sc : Scope) (a b e : Expr) (x y : Str) : Bool := match tupOf e with
  | some vs => sc.kind == .function && vs.length == 2 && !(vs.any isStarred) && a.pos.line == b.pos.line && sc.names.lookup x == some .local && sc.names.lookup y == some .local && !(x == y) &&
      !(vs.all (foldedForSure 8)) && !(vs.all (constantsAlone 8))
  | none => false
theorem and2 {a b : Bool} (h : (a && b) = true) : a = true ∧ b = true := (Bool.and_eq_true a b).mp h
theorem not2 {a : Bool} (h : (!a) = true) : ¬ a = true := fun q => by rw [q] at h; cases h
theorem sw_fin {names : List Str} {vs : List Expr} {x y : Str} {u : Sem (Option (List Str))} (hn : names = [x, y]) (h7 : ¬ (x == y) = true) (h8 : ¬ vs.all (foldedForSure 8) = true) (h9 : ¬ vs.all (constantsAlone 8) = true) :
    (if (names.length != 2 || names.eraseDups.length != names.length) = true then (pure none : Sem (Option (List Str))) else if vs.all (foldedForSure 8) = true then pure none else if vs.all (constantsAlone 8) = true then u else pure (some names)) = pure (some [x, y]) := by
  subst hn
  have e : ([x, y] : List Str).eraseDups = [x, y] := by
    have h7 : y ≠ x := fun q => h7 (by rw [q]; exact beq_self_eq_true _)
    simp [List.eraseDups_cons, h7]
  rw [e]
  exact (if_neg fun q => Bool.noConfusion (show false = true from q)).trans ((if_neg h8).trans (if_neg h9))
theorem fm2 {α β : Type} {f : α → Option β} {a b : α} {c d : β} (h1 : f a = some c) (h2 : f b = some d) : [a, b].filterMap f = [c, d] := by
  rw [List.filterMap_cons_some h1, List.filterMap_cons_some h2]; rfl
theorem pairOk_ok {sc : Scope} {xp yp tp : Pos} {tk : Nat} {e : Expr} {x y : Str} (h : pairOk sc (.Name x xp) (.Name y yp) e x y = true) {env : Env} (he : env.scope = sc) : swappedStores [.Tuple [.Name x xp, .Name y yp] tk tp] e env = pure (some [x, y]) := by
  subst he
  cases ht : tupOf e with
  | none => unfold pairOk at h; rw [ht] at h; cases h
  | some vs =>
    obtain ⟨k, p, rfl⟩ := tupOf_some ht
    have g8 := and2 h
    have g7 := and2 g8.1
    have g6 := and2 g7.1
    have g5 := and2 g6.1
    have g4 := and2 g5.1
    have g3 := and2 g4.1
    have g2 := and2 g3.1
    have g1 := and2 g2.1
    have h4 : xp.line = yp.line := beq_iff_eq.mp g3.2
    have hb : (env.blockKind != ScopeKind.function) = false := by
      unfold Env.blockKind; rw [beq_iff_eq.mp g1.1]; rfl
    have hl : (vs.length != 2) = false := by rw [beq_iff_eq.mp g1.2]; rfl
    refine (if_neg (fun q => ?_)).trans ((if_neg (not2 g2.2)).trans (sw_fin ?_ (not2 g6.2) (not2 g7.2) (not2 g8.2)))
    · have q : ((!(true || false) || vs.length != 2) || env.blockKind != ScopeKind.function) = true := q
      rw [hl, hb] at q; cases q
    · refine fm2 (if_pos ?_) (if_pos ?_)
      · exact (Bool.and_eq_true ..).mpr ⟨g4.2, beq_self_eq_true _⟩
      · exact (Bool.and_eq_true ..).mpr ⟨g5.2, beq_iff_eq.mpr h4.symm⟩
noncomputable def Sub : Vars → Vars → Prop
  | [], _ => True
  | (x, d) :: r, ρ => ρ.lookup x = some d ∧ Sub r ρ
noncomputable def uniq (x : Str) (ω : Own') : Bool := (ω.filter fun p => p.1 == x).length == 1
noncomputable def has (x : Str) (ω : Own') : Bool := ω.any fun p => p.1 == x
noncomputable def dropO (x : Str) (ω : Own') : Own' := ω.filter fun p => !(p.1 == x)
noncomputable def putO (x : Str) (ds : List PyData) (ω : Own') : Own' := ω.map fun p => if p.1 = x then (p.1, ds) else p
noncomputable def callOf (e : Expr) : Option (Expr × List Expr × List Keyword × Pos) := match e with
  | .Call f a k p => some (f, a, k, p)
  | _ => none
theorem callOf_some {e : Expr} {r} (h : callOf e = some r) : e = .Call r.1 r.2.1 r.2.2.1 r.2.2.2 := by
  cases e with
  | Call f a k p => exact congrArg (fun r : Expr × List Expr × List Keyword × Pos => Expr.Call r.1 r.2.1 r.2.2.1 r.2.2.2) (Option.some.inj h)
  | _ => exact noSome h
noncomputable def attrOf (e : Expr) : Option (Expr × Str × Pos) := match e with
  | .Attribute v a p => some (v, a, p)
  | _ => none
theorem attrOf_some {e : Expr} {r} (h : attrOf e = some r) : e = .Attribute r.1 r.2.1 r.2.2 := by
  cases e with
  | Attribute v a p => exact congrArg (fun r : Expr × Str × Pos => Expr.Attribute r.1 r.2.1 r.2.2) (Option.some.inj h)
  | _ => exact noSome h
noncomputable def appOf (v : Expr) : Option (Str × Expr × Bool) := match callOf v with
  | none => none
  | some c => (match attrOf c.1 with
    | none => none
    | some a => (match c.2.1 with
      | [] => none
      | e :: es => if es.isEmpty && c.2.2.1.isEmpty && a.2.1 == ("append" : Str) then (nameOf a.1).map fun x => (x, e, a.2.2.endLine == c.2.2.2.line) else none))

noncomputable def tup2 (e : Expr) : Option (Expr × Expr) := match tupOf e with
  | some es => (match es with
    | [] => none
    | a :: es => (match es with
      | [] => none
      | b :: es => if es.isEmpty then some (a, b) else none))
  | _ => none
noncomputable def pairOP (C : Cx) (we : Expr → Post → Prop) (ws : Vars → Own' → Prop) (ρ : Vars) (ω : Own') (x y : Str) (e12 : Expr × Expr) : Prop :=
  we e12.1 fun d₁ k₁ => ck k₁.isNew (wList d₁ fun ds₁ => ds₁.all flat = true ∧ (match C.own.contains y with
    | true => we e12.2 fun d₂ k₂ => ck k₂.isNew (wList d₂ fun ds₂ => ds₂.all flat = true ∧ ws (del x (del y ρ)) ((x, ds₁) :: dropO x ((y, ds₂) :: dropO y ω)))
    | false => (match nameOf e12.2 with
      | some z => ck (!(z == nDebug) && !(has y ω)) (match ρ.lookup z with
        | some d₂ => ws (del x ((y, d₂) :: del y ρ)) ((x, ds₁) :: dropO x ω)
        | none => False)
      | none => False)))
noncomputable def pairVP (we : Expr → Post → Prop) (ws : Vars → Own' → Prop) (ρ : Vars) (ω : Own') (x y : Str) (e : Expr) : Prop :=
  we e fun d _ => wTup d fun ds => (match ds with
    | [] => False
    | d₁ :: ds => (match ds with
      | [] => False
      | d₂ :: ds => ck (ds.isEmpty && (flat d₁ || ω.isEmpty) && (flat d₂ || ω.isEmpty)) (ws ((x, d₁) :: del x ((y, d₂) :: del y ρ)) ω)))
noncomputable def pairP (C : Cx) (we : Expr → Post → Prop) (ws : Vars → Own' → Prop) (ρ : Vars) (ω : Own') (a b e : Expr) (x y : Str) : Prop := match C.own.contains x with
  | true => ck (C.kd x == some .local && C.kd y == some .local && !(x == y) && pairOk C.sc a b e x y) (match tup2 e with
    | some e12 => pairOP C we ws ρ ω x y e12
    | none => False)
  | false => ck (C.kd x == some .local && C.kd y == some .local && !(has x ω) && !(has y ω) && pairOk C.sc a b e x y) (pairVP we ws ρ ω x y e)
noncomputable def pair2 (es : List Expr) : Option ((Expr × Expr) × Str × Str) := match es with
  | [] => none
  | a :: es => (match es with
    | [] => none
    | b :: es => (match es with
      | _ :: _ => none
      | [] => (match nameOf a with
        | none => none
        | some x => (match nameOf b with
          | none => none
          | some y => some ((a, b), x, y)))))
noncomputable def appP (C : Cx) (we : Expr → Post → Prop) (ws : Vars → Own' → Prop) (ρ : Vars) (ω : Own') (xe : Str × Expr × Bool) : Prop :=
  ck (uniq xe.1 ω && !(xe.1 == nDebug) && xe.2.2) (match ω.lookup xe.1 with
    | some ds => we xe.2.1 fun d _ => ck (flat d) (ds.length ≤ sizeLine ∧ ws ρ (putO xe.1 (ds ++ [d]) ω))
    | none => False)
noncomputable def WS (C : Cx) : Nat → Vars → Own' → List Stmt → (Vars → Own' → Prop) → Post → Prop
  | 0, _, _, _, _, _ => False
  | n + 1, ρ, ω, b, nx, rt => match b with
    | [] => nx ρ ω
    | st :: rest => (match st with
      | .Return v _ => (match v with
        | none => False
        | some e => (match (nameOf e).bind fun x => if x == nDebug then none else ω.lookup x with
          | some ds => rt (.list ds) .new
          | none => WE C n .val ρ ω e rt))
      | .Assign ts e pos => (match ts with
        | [] => False
        | t :: ts => ck (ts.isEmpty && noComp e) (match t with
          | .Name x _ => ck (C.kd x == some .local) (match C.own.contains x with
            | true => WE C n .val ρ ω e fun d k => ck k.isNew (wList d fun ds => ds.all flat = true ∧ WS C n (del x ρ) ((x, ds) :: dropO x ω) rest nx rt)
            | false => ck (!(has x ω)) (WE C n .val ρ ω e fun d k => safeP d k ω (WS C n ((x, d) :: del x ρ) ω rest nx rt)))
          | .Subscript v i _ => (match nameOf v with
            | some x => ck (uniq x ω && !(x == nDebug)) (match ω.lookup x with
              | some ds => WE C n .val ρ ω e fun d _ => WE C n .val ρ ω i fun k _ => wInt k fun k => ck (flat d && decide (0 ≤ k)) ((k.toNat < ds.length ∧ ds.length ≤ sizeLine) ∧ WS C n ρ (putO x (ds.set k.toNat d) ω) rest nx rt)
              | none => False)
            | none => False)
          | .Tuple es _ _ => (match pair2 es with
            | some r => pairP C (WE C n .val ρ ω) (fun ρ ω => WS C n ρ ω rest nx rt) ρ ω r.1.1 r.1.2 e r.2.1 r.2.2
            | none => False)
          | _ => False))
      | .If t body orelse _ => WE C n .truth ρ ω t fun p _ => wBool p fun p => (p = true → WS C n ρ ω body (fun ρ' ω' => WS C n ρ' ω' rest nx rt) rt) ∧ (p = false → WS C n ρ ω orelse (fun ρ' ω' => WS C n ρ' ω' rest nx rt) rt)
      | .For t iter body orelse _ => (match nameOf t with
        | some x => ck (orelse.isEmpty && C.kd x == some .local) (WE C n .iter ρ ω iter fun d k => wList d fun ds => Stop (∃ st : Nat → Vars × Own', (Sub (st 0).1 ρ ∧ (st 0).2 = ω ∧ (∀ i, has x (st i).2 = false) ∧ (isNew k = false → ∀ i, (st i).2 = []) ∧ ds.all flat = true ∧ (isNew k = true → ds.all scalar = true)) ∧
            (∀ (i : Nat) (d : PyData), ds[i]? = some d → WS C n ((x, d) :: del x (st i).1) (st i).2 body (fun ρ' ω' => Sub (st (i + 1)).1 ρ' ∧ ω' = (st (i + 1)).2) fun _ _ => False) ∧ WS C n (st ds.length).1 (st ds.length).2 rest nx rt))
        | none => False)
      | .While t body orelse _ => ck orelse.isEmpty (Stop (∃ (I : Nat → Vars → Own' → Prop) (m : Nat), (∃ ρ₀, Sub ρ₀ ρ ∧ I m ρ₀ ω) ∧ ∀ m ρ' ω', I m ρ' ω' → WE C n .truth ρ' ω' t fun p _ => wBool p fun p =>
          (p = true → WS C n ρ' ω' body (fun ρ'' ω'' => Stop (∃ k, k < m ∧ ∃ ρ₀, Sub ρ₀ ρ'' ∧ I k ρ₀ ω'')) fun _ _ => False) ∧ (p = false → WS C n ρ' ω' rest nx rt)))
      | .Expr v _ => (match appOf v with
        | some xe => appP C (WE C n .val ρ ω) (fun ρ ω => WS C n ρ ω rest nx rt) ρ ω xe
        | none => ck (noComp v && C.sc.kind == .function) (WE C n .val ρ ω v fun d _ => (match d with
          | .none => WS C n ρ ω rest nx rt
          | _ => False)))
      | _ => False)

def RVK (k : Kd) (d : PyData) (h h' : Heap) (v : Value) : Prop := match k with
  | .new => ∃ ds, d = .list ds ∧ NewL h h' v ds
  | _ => Is h'.get? v d
noncomputable def Pw (h₀ : Base) (env : Env) (nx : Vars → Own' → Prop) (rt : Post) (f : Flow) (h : Heap) : Prop := match f with
  | .ret v => ∃ d k, rt d k ∧ RVK k d h₀.h h v
  | .next => ∃ ρ' ω', nx ρ' (strip ω') ∧ St h₀ env ρ' ω' h
  | _ => False

section
variable {mg : MG} {w : World} {A : Around} {env : Env} {h₀ : Base} {ρ : Vars} {ω : Owns}
theorem Fx.base {C : Cx} {B : Base} (F : Fx mg w A env h₀ C) (h : B.h = h₀.h) : Fx mg w A env B C := ⟨F.hk, h ▸ F.W, F.kd, F.sp⟩
theorem Pw.base {B : Base} (h : B.h = h₀.h) {nx rt v h'} (x : Pw B env nx rt (.ret v) h') {nx'} : Pw h₀ env nx' rt (.ret v) h' := by
  obtain ⟨d, k, a, b⟩ := x
  exact ⟨d, k, a, h ▸ b⟩
theorem sub_mem : ∀ {l ρ : Vars}, Sub l ρ → ∀ p ∈ l, p ∈ ρ
  | (x, d) :: r, ρ, h, p, hp => by
    rcases List.mem_cons.mp hp with q | q
    · subst q; exact mem_of_lk h.1
    · exact sub_mem h.2 p q
theorem has_strip {x : Str} (h : has x (strip ω) = false) : ∀ ds l, (x, ds, l) ∉ ω := fun ds l hm => by
  have : has x (strip ω) = true := List.any_eq_true.mpr ⟨(x, ds), List.mem_map.mpr ⟨_, hm, rfl⟩, beq_self_eq_true x⟩
  rw [h] at this; cases this
theorem uniq_strip {x : Str} {ds : List PyData} {l : Addr} (h : uniq x (strip ω) = true) (hm : (x, ds, l) ∈ ω) : ∀ p ∈ ω, p.1 = x → p.2.2 = l := fun p hp e => by
  have h1 : (ω.filter fun p => p.1 == x).length = 1 := by
    have := beq_iff_eq.mp (show ((strip ω).filter fun p => p.1 == x).length == 1 from h)
    rw [← this, strip, List.filter_map, List.length_map]
    rfl
  obtain ⟨a, ha⟩ := List.length_eq_one_iff.mp h1
  have m1 : p ∈ ω.filter fun p => p.1 == x := List.mem_filter.mpr ⟨hp, beq_iff_eq.mpr e⟩
  have m2 : (x, ds, l) ∈ ω.filter fun p => p.1 == x := List.mem_filter.mpr ⟨hm, beq_self_eq_true x⟩
  rw [ha, List.mem_singleton] at m1 m2
  rw [m1, ← m2]
theorem strip_del {x : Str} : strip (delO x ω) = dropO x (strip ω) := by
  simp only [strip, delO, dropO, List.filter_map]; rfl
theorem strip_put {x : Str} {ds : List PyData} : strip (put x ds ω) = putO x ds (strip ω) := by
  simp only [strip, put, putO, List.map_map]
  refine List.map_congr_left fun p _ => ?_
  simp only [Function.comp]
  split <;> rfl

theorem ex_ifC {t body orelse pos rest b} {K nx : Vars → Own' → Prop} {rt : Post} (q : Tr mg w A env h₀ ρ ω t b) (x : ∀ B : Base, B.h = h₀.h → Ex mg w A env B ρ ω (if b then body else orelse) (Pw B env K rt))
    (r : ∀ ρ' ω', K ρ' (strip ω') → Ex mg w A env h₀ ρ' ω' rest (Pw h₀ env nx rt)) : Ex mg w A env h₀ ρ ω (.If t body orelse pos :: rest) (Pw h₀ env nx rt) := fun s S =>
  wpAny_execs_cons (wpAny_If (wpAny_q (q s S) fun c s₁ ⟨k, hc⟩ => by
    subst hc
    have go : ∀ (b : List Stmt), Ex mg w A env S.turns ρ ω b (Pw S.turns env K rt) → wpAny (model pw w) A (execs b env) (fun f s' => match f with | .next => wpAny (model pw w) A (execs rest env) (fun f s' => Mv env ω.at s s' ∧ Pw h₀ env nx rt f s'.heap) No s' | f => Mv env ω.at s s' ∧ Pw h₀ env nx rt f s'.heap) No s₁ := fun b z =>
      wpAny_q (z s₁ (S.turn.keeps k.get)) fun f s₂ ⟨m, p⟩ => by
        cases f with
        | next =>
          obtain ⟨ρ', ω', hK, S'⟩ := p
          exact wpAny_q (r ρ' ω' hK s₂ (S'.rebase rfl S.turnsN)) fun f s₃ ⟨m', p'⟩ => ⟨(k.mv m).trans m' (S.olds S'), p'⟩
        | brk => exact p.elim
        | cont => exact p.elim
        | ret v => exact ⟨k.mv m, Pw.base (B := S.turns) (nx' := nx) rfl p⟩
    have x' := x S.turns rfl
    cases c with
    | true => exact go _ x'
    | false => exact go _ x'))
end
end
end Mine
end
section
open PySem PySem.W PyProof.Rows PySem.Calls PySem.SeqAt
set_option maxRecDepth 100000
set_option linter.unusedVariables false
namespace Mine
noncomputable section
section
variable {mg : MG} {w : World} {A : Around} {env : Env} {h₀ : Base} {ρ : Vars} {ω : Owns}

theorem ex_evK {x np e pos rest d k} {P : Flow → Heap → Prop} {p : Prop} (hk : EnvOk env) (hx : env.kindOf x = some .local) (ho : ∀ ds l, (x, ds, l) ∉ ω) (q : EvK mg w A env h₀ ρ ω k e d) (hs : safeP d k (strip ω) p)
    (r : p → Ex mg w A env h₀ ((x, d) :: del x ρ) ω rest P) (hw : swapsWith e (some (.Name x np)) pos.line env = pure false) : Ex mg w A env h₀ ρ ω (.Assign [.Name x np] e pos :: rest) P := by
  have nil : (strip ω).isEmpty = true → ω = [] := fun h => List.map_eq_nil_iff.mp (List.isEmpty_iff.mp h)
  cases k with
  | safe => exact ex_assign' hk hx ho q (r hs) hw
  | new =>
    obtain ⟨ds, rfl, q⟩ := q
    cases he : (strip ω).isEmpty with
    | true =>
      have hs : p := by unfold safeP at hs; rw [he] at hs; exact hs
      obtain rfl := nil he
      exact ex_assign0 hk hx q.ev (r hs) hw
    | false =>
      have hs : ds.all flat = true ∧ p := by unfold safeP at hs; rw [he] at hs; exact hs
      exact ex_assign' hk hx ho (EvN.safe (mg := mg) (w := w) q hs.1) (r hs.2) hw
  | any =>
    obtain ⟨hf, hp⟩ := ck_of hs
    rcases Bool.or_eq_true_iff.mp hf with hf | h0
    · exact ex_assign' hk hx ho (Ev.flat (mg := mg) (w := w) q hf) (r hp) hw
    · obtain rfl := nil h0
      exact ex_assign0 hk hx q (r hp) hw

theorem ex_setitemE {x np i tp e pos rest ds l d} {k : Int} {P : Flow → Heap → Prop} (hk : EnvOk env) (hm : (x, ds, l) ∈ ω) (one : ∀ p ∈ ω, p.1 = x → p.2.2 = l) (q : Ev mg w A env h₀ ρ ω e d) (qi : Ev mg w A env h₀ ρ ω i (.int k)) (hf : flat d = true) (h0 : 0 ≤ k) (hlt : k.toNat < ds.length) (hz : ds.length ≤ sizeLine)
    (r : Ex mg w A env h₀ ρ (put x (ds.set k.toNat d) ω) rest P)
    (hdb : (x == ("__debug__" : Str)) = false)
    (hsw : swapsWith e (some (.Subscript (.Name x np) i tp)) pos.line env = pure false) :
    Ex mg w A env h₀ ρ ω (.Assign [.Subscript (.Name x np) i tp] e pos :: rest) P := fun s S =>
  wpAny_execs_cons (wpAny_Assign_Subscript (wpAny_q (q s S) fun v s₁ ⟨k₁, iv⟩ => by
    have S₁ := S.keeps k₁.get
    refine load_val hk.kind (S₁.owns x ds l hm).1 ?_ hdb
    refine wpAny_q (qi s₁ S₁) fun z s₂ ⟨k₂, iz⟩ => ?_
    obtain ⟨t, rfl⟩ := iz.int_inv
    have S₂ := S₁.keeps k₂.get
    obtain ⟨V, ⟨vs, ⟨n, e0⟩, i⟩, hf0, hl⟩ := S₂.owns x ds l hm
    have hlen : vs.size = ds.length := by simpa using i.length
    refine setItem_plain' (vs := vs) ⟨n, e0⟩ h0 (by rw [sizeLine_eq] at hz; lia) (by lia) fun h' hp hs => ?_
    have S₃ : St h₀ env ρ (put x (ds.set k.toNat d) ω) h' := S₂.change hm hs hp (by simpa using i.set k.toNat v d (iv.mono (get_mono k₂.get))) (by
      rw [List.all_eq_true] at hf0 ⊢
      intro z hz'
      rcases List.mem_or_eq_of_mem_set hz' with h | h
      · exact hf0 z h
      · rw [h]; exact hf) one
    refine wpAny_q (r { s₂ with heap := h' } S₃) fun f s₃ ⟨m, p⟩ => ⟨?_, p⟩
    have m₁ : Mv env ω.at s₂ { s₂ with heap := h' } := Mv.same (List.mem_map.mpr ⟨_, hm, rfl⟩) hs
    exact (k₁.trans k₂).mv (m₁.trans m fun a ha => .inl (put_at ▸ ha))) hsw)

theorem appOf_some {v : Expr} {x : Str} {e : Expr} {b : Bool} (h : appOf v = some (x, e, b)) : ∃ np ap cp, v = .Call (.Attribute (.Name x np) "append" ap) [e] [] cp ∧ b = (ap.endLine == cp.line) := by
  unfold appOf at h
  cases hc : callOf v with
  | none => rw [hc] at h; exact noSome h
  | some c =>
    rw [hc] at h
    obtain rfl := callOf_some hc
    clear hc
    obtain ⟨f, args, kws, cp⟩ := c
    dsimp only at h ⊢
    cases ha : attrOf f with
    | none => rw [ha] at h; exact noSome h
    | some a =>
      rw [ha] at h
      obtain rfl := attrOf_some ha
      clear ha
      obtain ⟨v, a, ap⟩ := a
      cases args with
      | nil => exact noSome h
      | cons e' es =>
        have h : (if (es.isEmpty && kws.isEmpty && a == ("append" : Str)) = true then (nameOf v).map fun x => (x, e', ap.endLine == cp.line) else none) = some (x, e, b) := h
        by_cases q : (es.isEmpty && kws.isEmpty && a == ("append" : Str)) = true
        · rw [if_pos q] at h
          obtain ⟨y, hy, e'⟩ := Option.map_eq_some_iff.mp h
          cases e'
          obtain ⟨np, rfl⟩ := nameOf_some hy
          obtain rfl := List.isEmpty_iff.mp (and2 (and2 q).1).1
          obtain rfl := List.isEmpty_iff.mp (and2 (and2 q).1).2
          obtain rfl := beq_iff_eq.mp (and2 q).2
          exact ⟨np, _, _, rfl, rfl⟩
        · rw [if_neg q] at h; exact noSome h
theorem tup2_some {e : Expr} {a b : Expr} (h : tup2 e = some (a, b)) : ∃ k p, e = .Tuple [a, b] k p := by
  cases ht : tupOf e with
  | none => unfold tup2 at h; rw [ht] at h; cases h
  | some es =>
    unfold tup2 at h; rw [ht] at h
    obtain ⟨k, p, rfl⟩ := tupOf_some ht
    cases es with
    | nil => cases h
    | cons c es =>
      cases es with
      | nil => cases h
      | cons d es =>
        have h : (if es.isEmpty = true then some (c, d) else none) = some (a, b) := h
        by_cases q : es.isEmpty = true
        · rw [if_pos q] at h
          obtain rfl := List.isEmpty_iff.mp q
          cases h
          exact ⟨k, p, rfl⟩
        · rw [if_neg q] at h; cases h
theorem lk_strip {x : Str} {ds : List PyData} (h : (strip ω).lookup x = some ds) : ∃ l, (x, ds, l) ∈ ω := strip_mem (mem_of_lk h)

theorem pair2_some {es : List Expr} {r : (Expr × Expr) × Str × Str} (h : pair2 es = some r) : ∃ xp yp, es = [.Name r.2.1 xp, .Name r.2.2 yp] ∧ r.1.1 = .Name r.2.1 xp ∧ r.1.2 = .Name r.2.2 yp := by
  cases es with
  | nil => exact noSome h
  | cons a es => cases es with
    | nil => exact noSome h
    | cons b es => cases es with
      | cons c es => exact noSome h
      | nil =>
        have h : (match nameOf a with
          | none => none
          | some x => (match nameOf b with
            | none => none
            | some y => some ((a, b), x, y))) = some r := h
        cases ha : nameOf a with
        | none => rw [ha] at h; exact noSome h
        | some x =>
          rw [ha] at h
          cases hb : nameOf b with
          | none => rw [hb] at h; exact noSome h
          | some y =>
            rw [hb] at h
            obtain ⟨p, rfl⟩ := nameOf_some ha
            obtain ⟨q, rfl⟩ := nameOf_some hb
            cases h
            exact ⟨p, q, rfl, rfl, rfl⟩
section
variable {C : Cx} {n : Nat} {ws : Vars → Own' → Prop} {rest : List Stmt} {P : Flow → Heap → Prop} {x y : Str} {e : Expr}
theorem appP_ok {v : Expr} {pos : Pos} {xe : Str × Expr × Bool} (F : Fx mg w A env h₀ C) (hv : appOf v = some xe) (hws : ∀ {ρ' ω'}, ws ρ' (strip ω') → Ex mg w A env h₀ ρ' ω' rest P)
    (h : appP C (WE C n .val ρ (strip ω)) ws ρ (strip ω) xe) : Ex mg w A env h₀ ρ ω (.Expr v pos :: rest) P := by
  obtain ⟨x, e, b⟩ := xe
  obtain ⟨np, ap, cp, rfl, rfl⟩ := appOf_some hv
  obtain ⟨hu, h⟩ := ck_of h
  have h : (match (strip ω).lookup x with
    | some ds => WE C n .val ρ (strip ω) e fun d _ => ck (flat d) (ds.length ≤ sizeLine ∧ ws ρ (putO x (ds ++ [d]) (strip ω)))
    | none => False) := h
  split at h
  · next ds hl =>
    obtain ⟨l, hl⟩ := lk_strip hl
    have hst : ∀ z p, e ≠ .Starred z p := fun z p q => by
      subst q; exact we_noStar h
    obtain ⟨d, _, h, y⟩ := we_ok n F h
    obtain ⟨hf, h⟩ := ck_of h
    have ht : backTo cp (starEach [e] env) = [(false, eval e env)] := by rw [starEach_cons' hst]; rfl
    exact ex_append F.hk hl (uniq_strip (and2 (and2 hu).1).1 hl) (EvK.ev y) hf h.1 (hws (by rw [strip_put]; exact h.2)) ((Bool.not_eq_true' _).mp (and2 (and2 hu).1).2) rfl (by rw [ht]; rfl) (and2 hu).2 ht (by unfold interactive; rw [F.hk.kind]; rfl) rfl
  · exact h.elim
section
variable {xp yp tp pos : Pos} {tk : Nat}
theorem pairV_ok (F : Fx mg w A env h₀ C) (hsc : env.scope = C.sc) (hw : ∀ t l, swapsWith e t l env = pure false) (hws : ∀ {ρ' ω'}, ws ρ' (strip ω') → Ex mg w A env h₀ ρ' ω' rest P)
    (hx : C.kd x = some .local) (hy : C.kd y = some .local) (ox : has x (strip ω) = false) (oy : has y (strip ω) = false) (e6 : pairOk C.sc (.Name x xp) (.Name y yp) e x y = true)
    (h : pairVP (WE C n .val ρ (strip ω)) ws ρ (strip ω) x y e) : Ex mg w A env h₀ ρ ω (.Assign [.Tuple [.Name x xp, .Name y yp] tk tp] e pos :: rest) P := by
  obtain ⟨d, _, hV, z⟩ := we_ok n F h
  obtain ⟨ds, rfl, hW⟩ := wTup_of hV
  cases ds with
  | nil => exact hW.elim
  | cons d₁ ds =>
    cases ds with
    | nil => exact hW.elim
    | cons d₂ ds =>
      obtain ⟨h1, hX⟩ := ck_of hW
      obtain rfl := List.isEmpty_iff.mp (and2 (and2 h1).1).1
      have f : ∀ {d : PyData}, (flat d || (strip ω).isEmpty) = true → flat d = true ∨ ω = [] := fun h => ((Bool.or_eq_true _ _).mp h).imp id fun h => List.map_eq_nil_iff.mp (List.isEmpty_iff.mp h)
      exact ex_pairS F.A0 F.hk ((F.kd x).trans hx) ((F.kd y).trans hy) (has_strip ox) (has_strip oy) (EvK.ev z) (f (and2 (and2 h1).1).2) (f (and2 h1).2) (hws hX) (by unfold swapsWithSole; exact hw _ _) (pairOk_ok e6 hsc)
theorem newK {d : PyData} {k : Kd} {p : List PyData → Prop} {e : Expr} (hk : k.isNew = true) (h : wList d p) (y : EvK mg w A env h₀ ρ ω k e d) : ∃ ds, d = .list ds ∧ p ds ∧ EvN mg w A env h₀ ρ ω e ds := by
  cases k with
  | any => cases hk
  | safe => cases hk
  | new =>
    obtain ⟨ds, rfl, y⟩ := y
    exact ⟨ds, rfl, h, y⟩
theorem pairO_ok {e₁ e₂ : Expr} {ek : Nat} {ep : Pos} (F : Fx mg w A env h₀ C) (hsc : env.scope = C.sc) (hw : ∀ t l, swapsWith (.Tuple [e₁, e₂] ek ep) t l env = pure false) (hws : ∀ {ρ' ω'}, ws ρ' (strip ω') → Ex mg w A env h₀ ρ' ω' rest P)
    (hx : C.kd x = some .local) (hy : C.kd y = some .local) (e4 : (x == y) = false) (e6 : pairOk C.sc (.Name x xp) (.Name y yp) (.Tuple [e₁, e₂] ek ep) x y = true)
    (h : pairOP C (WE C n .val ρ (strip ω)) ws ρ (strip ω) x y (e₁, e₂)) : Ex mg w A env h₀ ρ ω (.Assign [.Tuple [.Name x xp, .Name y yp] tk tp] (.Tuple [e₁, e₂] ek ep) pos :: rest) P := by
  have e4 : x ≠ y := fun q => by rw [q, beq_self_eq_true] at e4; cases e4
  have h : WE C n .val ρ (strip ω) e₁ _ := h
  have st₁ : ∀ z p, e₁ ≠ .Starred z p := fun z p q => by subst q; exact we_noStar h
  obtain ⟨d₁, k₁, h, y₁⟩ := we_ok n F h
  obtain ⟨hk₁, h⟩ := ck_of h
  obtain ⟨ds₁, rfl, ⟨hf₁, h⟩, y₁⟩ := newK hk₁ h y₁
  cases hoy : C.own.contains y with
  | true =>
    rw [hoy] at h
    have h : WE C n .val ρ (strip ω) e₂ _ := h
    have st₂ : ∀ z p, e₂ ≠ .Starred z p := fun z p q => by subst q; exact we_noStar h
    obtain ⟨d₂, k₂, h, y₂⟩ := we_ok n F h
    obtain ⟨hk₂, h⟩ := ck_of h
    obtain ⟨ds₂, rfl, h, y₂⟩ := newK hk₂ h y₂
    refine ex_pairOO F.A0 F.hk ((F.kd x).trans hx) ((F.kd y).trans hy) e4 y₁ y₂ hf₁ h.1 (fun l₁ l₂ => hws ?_) (starEach_cons' st₁) (starEach_cons' st₂) (by unfold swapsWithSole; exact hw _ _) (pairOk_ok e6 hsc)
    show ws (del x (del y ρ)) ((x, ds₁) :: strip (delO x ((y, ds₂, l₂) :: delO y ω)))
    rw [strip_del]
    show ws (del x (del y ρ)) ((x, ds₁) :: dropO x ((y, ds₂) :: strip (delO y ω)))
    rw [strip_del]; exact h.2
  | false =>
    rw [hoy] at h
    cases hz : nameOf e₂ with
    | none =>
      have h : (match nameOf e₂ with | some z => _ | none => False) := h
      rw [hz] at h; exact h.elim
    | some z =>
      have h : (match nameOf e₂ with
        | some z => ck (!(z == nDebug) && !(has y (strip ω))) (match ρ.lookup z with
          | some d₂ => ws (del x ((y, d₂) :: del y ρ)) ((x, ds₁) :: dropO x (strip ω))
          | none => False)
        | none => False) := h
      rw [hz] at h
      obtain ⟨zp, rfl⟩ := nameOf_some hz
      obtain ⟨hb2, h⟩ := ck_of h
      split at h
      · next d₂ hl =>
        refine ex_pairOV F.A0 F.hk ((F.kd x).trans hx) ((F.kd y).trans hy) e4 y₁ (mem_of_lk hl) ((Bool.not_eq_true' _).mp (and2 hb2).1) (has_strip ((Bool.not_eq_true' _).mp (and2 hb2).2)) hf₁ (fun l₁ => hws ?_) (starEach_cons' st₁) rfl (by unfold swapsWithSole; exact hw _ _) (pairOk_ok e6 hsc)
        show ws (del x ((y, d₂) :: del y ρ)) ((x, ds₁) :: strip (delO x ω))
        rw [strip_del]; exact h
      · exact h.elim
theorem pairP_ok (F : Fx mg w A env h₀ C) (hsc : env.scope = C.sc) (hw : ∀ t l, swapsWith e t l env = pure false) (hws : ∀ {ρ' ω'}, ws ρ' (strip ω') → Ex mg w A env h₀ ρ' ω' rest P)
    (h : pairP C (WE C n .val ρ (strip ω)) ws ρ (strip ω) (.Name x xp) (.Name y yp) e x y) : Ex mg w A env h₀ ρ ω (.Assign [.Tuple [.Name x xp, .Name y yp] tk tp] e pos :: rest) P := by
  unfold pairP at h
  cases hox : C.own.contains x with
  | true =>
    rw [hox] at h
    obtain ⟨h1, h2⟩ := ck_of h
    clear h
    cases ht : tup2 e with
    | none => rw [ht] at h2; exact h2.elim
    | some e12 =>
      rw [ht] at h2
      obtain ⟨e₁, e₂⟩ := e12
      obtain ⟨ek, ep, rfl⟩ := tup2_some ht
      have g := and2 (and2 h1).1
      exact pairO_ok F hsc hw hws (beq_iff_eq.mp (and2 g.1).1) (beq_iff_eq.mp (and2 g.1).2) ((Bool.not_eq_true' _).mp g.2) (and2 h1).2 h2
  | false =>
    rw [hox] at h
    obtain ⟨h1, h⟩ := ck_of h
    have g := and2 (and2 h1).1
    have g' := and2 g.1
    exact pairV_ok F hsc hw hws (beq_iff_eq.mp (and2 g'.1).1) (beq_iff_eq.mp (and2 g'.1).2) ((Bool.not_eq_true' _).mp g'.2) ((Bool.not_eq_true' _).mp g.2) (and2 h1).2 h
end
end

theorem ws_ok : ∀ (n : Nat) {C : Cx} {b : List Stmt} {nx : Vars → Own' → Prop} {rt : Post} {mg : MG} {w : World} {A : Around} {env : Env} {h₀ : Base} {ρ : Vars} {ω : Owns}, Fx mg w A env h₀ C → env.scope = C.sc → WS C n ρ (strip ω) b nx rt →
    Ex mg w A env h₀ ρ ω b (Pw h₀ env nx rt)
  | 0, _, _, _, _, _, _, _, _, _, _, _, _, _, h => h.elim
  | n + 1, C, b, nx, rt, mg, w, A, env, h₀, ρ, ω, F, hsc, hE => by
    cases b with
    | nil => exact ex_nil fun h S => ⟨ρ, ω, hE, S⟩
    | cons st rest =>
      cases st with
      | Return v pos =>
        cases v with
        | none => exact hE.elim
        | some e =>
          have h : (match (nameOf e).bind fun x => if x == nDebug then none else (strip ω).lookup x with
            | some ds => rt (.list ds) .new
            | none => WE C n .val ρ (strip ω) e rt) := hE
          split at h
          · rename_i ds hq
            obtain ⟨x, hx, hl⟩ := Option.bind_eq_some_iff.mp hq
            obtain ⟨np, rfl⟩ := nameOf_some hx
            split at hl
            · cases hl
            · rename_i hdb
              obtain ⟨l, hl⟩ := lk_strip hl
              exact ex_ret_own F.hk hl (fun h' v S r => ⟨_, .new, h, _, rfl, r⟩) (by simpa [nDebug] using hdb)
          · obtain ⟨d, k, h, y⟩ := we_ok n F h
            cases k with
            | any => exact ex_ret y fun h' v S i => ⟨d, .any, h, i⟩
            | safe => exact ex_ret (EvH.ev y) fun h' v S i => ⟨d, .safe, h, i⟩
            | new =>
              obtain ⟨ds, rfl, y⟩ := y
              exact ex_retN y fun h' v S i => ⟨_, .new, h, ds, rfl, i⟩
      | Assign ts e pos =>
        cases ts with
        | nil => exact hE.elim
        | cons t ts =>
          obtain ⟨ht, h⟩ := ck_of hE
          obtain ⟨ht, hc⟩ := Bool.and_eq_true_iff.mp ht
          obtain rfl := List.isEmpty_iff.mp ht
          have hw : ∀ t l, swapsWith e t l env = pure false := fun t l => noComp_ok hc t l env
          cases t with
          | Name x px =>
            replace h := ck_of h
            obtain ⟨hx, h⟩ := h
            have hx' := (F.kd x).trans (beq_iff_eq.mp hx)
            split at h
            · obtain ⟨d, k, h, y⟩ := we_ok n F h
              obtain ⟨hk, h⟩ := ck_of h
              cases k with
              | any => cases hk
              | safe => cases hk
              | new =>
                obtain ⟨ds, e', y⟩ := y
                subst e'
                refine ex_own F.hk hx' y h.1 (fun l => ws_ok n F hsc ?_) (hw _ _)
                show WS C n (del x ρ) ((x, ds) :: strip (delO x ω)) rest nx rt
                rw [strip_del]; exact h.2
            · obtain ⟨hh, h⟩ := ck_of h
              obtain ⟨d, k, h2, y⟩ := we_ok n F h
              exact ex_evK F.hk hx' (has_strip ((Bool.not_eq_true' _).mp hh)) y h2 (fun h3 => ws_ok n F hsc h3) (hw _ _)
          | Subscript v i tp =>
            have h : (match nameOf v with
              | some x => ck (uniq x (strip ω) && !(x == nDebug)) (match (strip ω).lookup x with
                | some ds => WE C n .val ρ (strip ω) e fun d _ => WE C n .val ρ (strip ω) i fun k _ => wInt k fun k => ck (flat d && decide (0 ≤ k)) ((k.toNat < ds.length ∧ ds.length ≤ sizeLine) ∧ WS C n ρ (putO x (ds.set k.toNat d) (strip ω)) rest nx rt)
                | none => False)
              | none => False) := h
            split at h
            · rename_i x hx
              obtain ⟨np, rfl⟩ := nameOf_some hx
              obtain ⟨hu, h⟩ := ck_of h
              obtain ⟨hu, hdb⟩ := Bool.and_eq_true_iff.mp hu
              split at h
              · rename_i ds hl
                obtain ⟨l, hl⟩ := lk_strip hl
                obtain ⟨d, _, h, y⟩ := we_ok n F h
                obtain ⟨k, _, h, z⟩ := we_ok n F h
                obtain ⟨k, rfl, h⟩ := wInt_of h
                obtain ⟨hf, h⟩ := ck_of h
                obtain ⟨hf, h0⟩ := Bool.and_eq_true_iff.mp hf
                refine ex_setitemE F.hk hl (uniq_strip hu hl) (EvK.ev y) (EvK.ev z) hf (of_decide_eq_true h0) h.1.1 h.1.2 (ws_ok n F hsc ?_) ((Bool.not_eq_true' _).mp hdb) (hw _ _)
                rw [strip_put]; exact h.2
              · exact h.elim
            · exact h.elim
          | Tuple es tk tp =>
            have h2 : (match pair2 es with
              | some r => pairP C (WE C n .val ρ (strip ω)) (fun ρ ω => WS C n ρ ω rest nx rt) ρ (strip ω) r.1.1 r.1.2 e r.2.1 r.2.2
              | none => False) := h
            clear h
            split at h2
            · next r hr =>
              obtain ⟨xp, yp, rfl, e1, e2⟩ := pair2_some hr
              rw [e1, e2] at h2
              exact pairP_ok F hsc hw (fun h => ws_ok n F hsc h) h2
            · exact h2.elim
          | _ => exact h.elim
      | If t body orelse pos =>
        obtain ⟨d, _, h, p, e, q⟩ := we_ok n F (show WE C n .truth ρ (strip ω) t _ from hE)
        subst e
        obtain ⟨h1, h2⟩ := h
        cases p with
        | true => exact ex_ifC (b := true) q (fun B hB => ws_ok n (F.base hB) hsc (h1 rfl)) fun ρ' ω' hK => ws_ok n F hsc hK
        | false => exact ex_ifC (b := false) q (fun B hB => ws_ok n (F.base hB) hsc (h2 rfl)) fun ρ' ω' hK => ws_ok n F hsc hK
      | For t iter body orelse pos =>
        have h : (match nameOf t with
          | some x => ck (orelse.isEmpty && C.kd x == some .local) (WE C n .iter ρ (strip ω) iter fun d k => wList d fun ds => Stop (∃ st : Nat → Vars × Own', (Sub (st 0).1 ρ ∧ (st 0).2 = strip ω ∧ (∀ i, has x (st i).2 = false) ∧ (isNew k = false → ∀ i, (st i).2 = []) ∧ ds.all flat = true ∧ (isNew k = true → ds.all scalar = true)) ∧
              (∀ (i : Nat) (d : PyData), ds[i]? = some d → WS C n ((x, d) :: del x (st i).1) (st i).2 body (fun ρ' ω' => Sub (st (i + 1)).1 ρ' ∧ ω' = (st (i + 1)).2) fun _ _ => False) ∧ WS C n (st ds.length).1 (st ds.length).2 rest nx rt))
          | none => False) := hE
        split at h
        · rename_i x hx
          obtain ⟨px, rfl⟩ := nameOf_some hx
          obtain ⟨ho, hF⟩ := ck_of h
          clear h
          have h := hF
          clear hF
          obtain ⟨ho, hx⟩ := Bool.and_eq_true_iff.mp ho
          have hx := beq_iff_eq.mp hx
          obtain rfl := List.isEmpty_iff.mp ho
          have hns : ∀ a b c, iter ≠ .Set a b c := fun a b c q => by
            rw [q] at h
            cases n with
            | zero => exact h
            | succ n => exact h
          obtain ⟨d, k, h, ds, e, hi⟩ := we_ok n F h
          subst e
          obtain ⟨st, ⟨s1, s2, s3, s4, s5, s6⟩, hb, hr⟩ := h.go
          refine ex_for (C := fun i ρ' ω' => Sub (st i).1 ρ' ∧ strip ω' = (st i).2) F.hk ((F.kd x).trans hx) hi s5 s6 ?_ ?_ ⟨s1, s2.symm⟩ ?_ ?_ (fold_no hns) (fun _ _ => rfl)
          · rintro i ρ' ω' ⟨_, e⟩
            exact has_strip (e ▸ s3 i)
          · rintro i ρ' ω' ⟨_, e⟩ hk
            exact List.map_eq_nil_iff.mp (e.trans (s4 hk i))
          · rintro B i d ρ' ω' hB hd ⟨hs, e⟩
            refine Ex.weak (ρ' := (x, d) :: del x (st i).1) (Ex.mono (ws_ok n (F.base hB) hsc (by rw [e]; exact hb i d hd)) fun f h' p => ?_) fun p hp => ?_
            · cases f with
              | next =>
                obtain ⟨ρ'', ω'', ⟨q1, q2⟩, S⟩ := p
                exact ⟨.inl rfl, _, ω'', ⟨q1, q2⟩, S⟩
              | brk => exact p.elim
              | cont => exact p.elim
              | ret v => obtain ⟨_, _, q, _⟩ := p; exact q.elim
            · rcases List.mem_cons.mp hp with q | q
              · exact q ▸ .head _
              · exact .tail _ (mem_del.mpr ⟨sub_mem hs _ (mem_del.mp q).1, (mem_del.mp q).2⟩)
          · rintro ρ' ω' ⟨hs, e⟩
            exact Ex.weak (ws_ok n F hsc (by rw [e]; exact hr)) (sub_mem hs)
        · exact h.elim
      | While t body orelse pos =>
        obtain ⟨ho, ⟨I, m, hI, h⟩⟩ := ck_of hE
        obtain rfl := List.isEmpty_iff.mp ho
        refine ex_while (C := fun n ρ' ω' => ∃ ρ₀, Sub ρ₀ ρ' ∧ I n ρ₀ (strip ω')) m hI fun m ρ' ω' hI B hB => ?_
        obtain ⟨ρ₀, hs, hI⟩ := hI
        obtain ⟨d, _, hp, p, e, q⟩ := we_ok n (h₀ := B) (ω := ω') (F.base hB) (h m ρ₀ (strip ω') hI)
        subst e
        refine ⟨p, fun s S => q s (S.weak (sub_mem hs)), fun e => Ex.weak ?_ (sub_mem hs), fun e => Ex.weak (ws_ok n F hsc (hp.2 e)) (sub_mem hs)⟩
        refine Ex.mono (ws_ok n (F.base hB) hsc (hp.1 e)) fun f h' p => ?_
        cases f with
        | next =>
          obtain ⟨ρ'', ω'', ⟨⟨k, q1, ρ₁, q2, q3⟩⟩, S⟩ := p
          exact ⟨.inl rfl, k, _, ω'', q1, ⟨ρ₁, q2, q3⟩, S⟩
        | brk => exact p.elim
        | cont => exact p.elim
        | ret v => obtain ⟨_, _, q, _⟩ := p; exact q.elim
      | Expr v pos =>
        have h : (match appOf v with
          | some xe => appP C (WE C n .val ρ (strip ω)) (fun ρ ω => WS C n ρ ω rest nx rt) ρ (strip ω) xe
          | none => ck (noComp v && C.sc.kind == .function) (WE C n .val ρ (strip ω) v fun d _ => (match d with
            | .none => WS C n ρ (strip ω) rest nx rt
            | _ => False))) := hE
        split at h
        · next xe hv => exact appP_ok F hv (fun h => ws_ok n F hsc h) h
        · obtain ⟨h1, h⟩ := ck_of h
          obtain ⟨h1, h2⟩ := Bool.and_eq_true_iff.mp h1
          obtain ⟨d, k, h, y⟩ := we_ok n F h
          cases d with
          | none =>
            exact fun s S => wpAny_execs_cons (wpAny_Expr (wpAny_q (EvK.ev y s S) fun v s₁ ⟨k, i⟩ => by
              cases i
              exact wpAny_q (ws_ok n F hsc h s₁ (S.keeps k.get)) fun f s₂ ⟨m, p⟩ => ⟨k.mv m, p⟩) (by unfold interactive; rw [F.hk.kind]; rfl) (noComp_ok h1 _ _ _))
          | _ => exact h.elim
      | _ => exact hE.elim
end

noncomputable def D (f : Str) : DefRec := ((recsOf myView).find? (fun d => d.name == f)).getD ⟨f, ⟨[], [], none, [], [], none, []⟩, [], ⟨.function, [], false, false, []⟩, ⟨0, 0, 0, 0⟩⟩
theorem good_of {mg : MG} {w : World} {f : Str} {n : Nat} {spec : Spec} {sp : List (Str × Spec)} (own : List Str) (fuel : Nat) {xs : List Str} (ok : FdOk (D f) xs (D f).body) (hl : ((recsOf myView).find? (fun d => d.name == f)).isSome = true)
    (hsp : ∀ p ∈ sp, Good mg w n p.1 p.2)
    (h : ∀ ds post, spec ds post → ds.length = xs.length ∧ ∃ r k, post r k ∧ k ≠ .safe ∧ (k = .new → ∃ es, r = .list es) ∧
      WS ⟨fun x => (D f).scope.names.lookup x, sp, own, (D f).scope⟩ fuel (xs.zip ds) [] (D f).body (fun _ _ => r = .none ∧ k = .any) (fun d k' => d = r ∧ (k = .new → k' = .new))) : Good mg w (n + 1) f spec := fun ds post hp => by
  obtain ⟨hlen, r, k, hpost, hk, hnew, hws⟩ := h ds post hp
  refine ⟨r, k, hpost, hnew, .inl (tell_of ok (by obtain ⟨y, hy⟩ := Option.isSome_iff_exists.mp hl; unfold D; rw [hy]; rfl) hlen fun A env h₀ hA W hke hsc => ?_)⟩
  have F : Fx mg w A env h₀ ⟨fun x => (D f).scope.names.lookup x, sp, own, (D f).scope⟩ := ⟨hke, W, fun x => by show env.scope.names.lookup x = _; rw [hsc], n, hA, hsp⟩
  refine Ex.mono (ws_ok fuel (ω := []) F hsc hws) fun fl h' p => ?_
  cases fl with
  | brk => exact p.elim
  | cont => exact p.elim
  | next =>
    obtain ⟨_, _, ⟨e1, e2⟩, _⟩ := p
    subst e1; subst e2
    exact Is.none
  | ret v =>
    obtain ⟨d', k', ⟨rfl, hk'⟩, hv⟩ := p
    cases k with
    | safe => exact absurd rfl hk
    | any =>
      cases k' with
      | any => exact hv
      | safe => exact hv
      | new =>
        obtain ⟨es, rfl, hv⟩ := hv
        exact hv.is
    | new =>
      rw [hk' rfl] at hv
      exact hv
end
end Mine
end
section
open PySem PySem.W PyProof.Rows PySem.Calls PySem.SeqAt
set_option maxRecDepth 100000
set_option linter.unusedVariables false
namespace Mine
noncomputable section
theorem bo_abs : bootBuiltins (Str.ofString "abs") = some (.builtin "abs") := by boot_fast
theorem bf_abs : bFree (Str.ofString "abs") = true := by decide +kernel
noncomputable def w1 (ds : List PyData) (k : PyData → Prop) : Prop := match ds with
  | [] => False
  | a :: ds => ck ds.isEmpty (k a)
noncomputable def w2 (ds : List PyData) (k : PyData → PyData → Prop) : Prop := match ds with
  | [] => False
  | a :: ds => w1 ds (k a)
theorem w1_of {ds k} (h : w1 ds k) : ∃ a, ds = [a] ∧ k a := by
  cases ds with
  | nil => exact h.elim
  | cons a ds =>
    obtain ⟨h1, h2⟩ := ck_of h
    obtain rfl := List.isEmpty_iff.mp h1
    exact ⟨a, rfl, h2⟩
theorem w2_of {ds k} (h : w2 ds k) : ∃ a b, ds = [a, b] ∧ k a b := by
  cases ds with
  | nil => exact h.elim
  | cons a ds =>
    obtain ⟨b, rfl, h⟩ := w1_of h
    exact ⟨a, b, rfl, h⟩
noncomputable def absS : Spec := fun ds post => w1 ds fun a => wInt a fun a => post (.int a.natAbs) .any
theorem good_abs {mg : MG} {w : World} {n : Nat} : Good mg w n (Str.ofString "abs") absS := fun ds post h => by
  obtain ⟨a, rfl, h⟩ := w1_of h
  obtain ⟨a, rfl, h⟩ := wInt_of h
  refine ⟨_, _, h, nofun, .inr ⟨bf_abs, _, bo_abs, by decide, rfl, fun A _ => ?_⟩⟩
  have := b_abs (mg := mg) (w := w) (A := A) (a := a)
  rw [show ((a.natAbs : Nat) : Int) = if a < 0 then -a else a from by split <;> lia]
  exact this
theorem un1 {α : Type} {l : List α} {n : Nat} (h : l.length = n + 1) : ∃ a r, l = a :: r ∧ r.length = n := by
  cases l with
  | nil => cases h
  | cons a r => exact ⟨a, r, rfl, Nat.succ.inj h⟩
theorem un2 {α : Type} {l : List α} (h : l.length = 1) : ∃ a, l = [a] := by
  obtain ⟨a, r, rfl, h'⟩ := un1 h
  exact ⟨a, congrArg _ (List.length_eq_zero_iff.mp h')⟩
theorem un3 {α : Type} {l : List α} (h : l.length = 2) : ∃ a b, l = [a, b] := by
  obtain ⟨a, r, rfl, h'⟩ := un1 h
  obtain ⟨b, rfl⟩ := un2 h'
  exact ⟨a, b, rfl⟩
theorem un4 {α : Type} {l : List α} (h : l.length = 3) : ∃ a b c, l = [a, b, c] := by
  obtain ⟨a, r, rfl, h'⟩ := un1 h
  obtain ⟨b, c, rfl⟩ := un3 h'
  exact ⟨a, b, c, rfl⟩
theorem bind1 {nm x : Str} {p : Arguments} {b : List Stmt} {sc : Scope} (h : ∀ pm cd doc v, bindArgs (docDef nm p b sc pm cd doc) ⟨[v], []⟩ = pure [(x, v)]) (pm cd doc : Value) (vs : List Value) (hv : vs.length = 1) : bindArgs (docDef nm p b sc pm cd doc) ⟨vs, []⟩ = pure ([x].zip vs) := by
  obtain ⟨a, rfl⟩ := un2 hv
  exact h pm cd doc a
theorem bind2 {nm x y : Str} {p : Arguments} {b : List Stmt} {sc : Scope} (h : ∀ pm cd doc v u, bindArgs (docDef nm p b sc pm cd doc) ⟨[v, u], []⟩ = pure [(x, v), (y, u)]) (pm cd doc : Value) (vs : List Value) (hv : vs.length = 2) : bindArgs (docDef nm p b sc pm cd doc) ⟨vs, []⟩ = pure ([x, y].zip vs) := by
  obtain ⟨a, b, rfl⟩ := un3 hv
  exact h pm cd doc a b
theorem bind3 {nm x y z : Str} {p : Arguments} {b : List Stmt} {sc : Scope} (h : ∀ pm cd doc v u t, bindArgs (docDef nm p b sc pm cd doc) ⟨[v, u, t], []⟩ = pure [(x, v), (y, u), (z, t)]) (pm cd doc : Value) (vs : List Value) (hv : vs.length = 3) : bindArgs (docDef nm p b sc pm cd doc) ⟨vs, []⟩ = pure ([x, y, z].zip vs) := by
  obtain ⟨a, b, c, rfl⟩ := un4 hv
  exact h pm cd doc a b c
theorem sp0 {mg : MG} {w : World} {n : Nat} : ∀ p ∈ ([] : List (Str × Spec)), Good mg w n p.1 p.2 := fun _ h => nomatch h
theorem spc {mg : MG} {w : World} {n : Nat} {f : Str} {s : Spec} {r : List (Str × Spec)} (g : Good mg w n f s) (h : ∀ p ∈ r, Good mg w n p.1 p.2) : ∀ p ∈ (f, s) :: r, Good mg w n p.1 p.2 := fun p hp => by
  rcases List.mem_cons.mp hp with q | q
  · exact q ▸ g
  · exact h p q

theorem ints2 {ds : List PyData} {k : Int → Int → Prop} (h : w2 ds fun a b => wInt a fun a => wInt b fun b => k a b) : ∃ a b : Int, ds = [.int a, .int b] ∧ k a b := by
  obtain ⟨a, b, rfl, h⟩ := w2_of h
  obtain ⟨a, rfl, h⟩ := wInt_of h
  obtain ⟨b, rfl, h⟩ := wInt_of h
  exact ⟨a, b, rfl, h⟩
noncomputable def gcdS : Spec := fun ds post => w2 ds fun a b => wInt a fun a => wInt b fun b => post (.int (Int.gcd a b)) .any
theorem good_gcd {mg : MG} {w : World} {n : Nat} : Good mg w (n + 1) (Str.ofString "gcd") gcdS := by
  refine good_of (sp := [(Str.ofString "abs", absS)]) [] 30 (xs := [Str.ofString "a", Str.ofString "b"]) ⟨rfl, rfl, rfl, rfl, bind2 fun _ _ _ _ _ => rfl, by decide, rfl⟩ rfl (spc good_abs sp0) ?_
  intro ds post h
  obtain ⟨a, b, rfl, h⟩ := ints2 h
  refine ⟨rfl, _, _, h, nofun, nofun, Stop.mk ⟨fun m ρ ω => ∃ x y : Nat, ρ = [(Str.ofString "a", .int x), (Str.ofString "b", .int y)] ∧ ω = [] ∧ Nat.gcd x y = Int.gcd a b ∧ m = y, b.natAbs, ⟨[(Str.ofString "a", .int a.natAbs), (Str.ofString "b", .int b.natAbs)], ⟨rfl, rfl, trivial⟩, a.natAbs, b.natAbs, rfl, rfl, rfl, rfl⟩, ?_⟩⟩
  rintro m ρ ω ⟨x, y, rfl, rfl, hg, rfl⟩
  refine And.intro (fun hb => ?_) (fun hb => ?_)
  · have hm : m ≠ 0 := by simpa using hb
    refine And.intro (by simpa using hm) (Stop.mk ⟨x % m, Nat.mod_lt _ (by lia), [(Str.ofString "a", .int m), (Str.ofString "b", .int (x % m : Nat))], ⟨rfl, congrArg some ?_, trivial⟩, m, x % m, rfl, rfl, by rw [← hg, Nat.gcd_comm x m, Nat.gcd_rec m x, Nat.gcd_comm], rfl⟩)
    rw [show (((x % m : Nat) : Int)) = Int.fmod x m from by rw [Int.fmod_eq_emod_of_nonneg _ (by lia)]; simp]
  · have hm : m = 0 := by simpa using hb
    subst hm
    rw [Nat.gcd_zero_right] at hg
    subst hg
    exact And.intro rfl nofun

/-! rationals -/
def Fine (q : Rat) : Prop := q.num.natAbs < 2 ^ 100000 ∧ q.den < 2 ^ 4000
theorem mulF {a b : Int} (ha : a.natAbs < 2 ^ 100000) (hb : b.natAbs < 2 ^ 100000) : IntMulOk a b := mulOk_of_bits (m := 100000) (n := 100000) (intBits_le_iff.mpr ha) (intBits_le_iff.mpr hb) (by decide)
theorem two_le {m n : Nat} (h : m ≤ n) : 2 ^ m ≤ 2 ^ n := Nat.pow_le_pow_right (by decide) h
theorem Fine.dn {q : Rat} (h : Fine q) : ((q.den : Nat) : Int).natAbs < 2 ^ 100000 := Nat.lt_of_lt_of_le (by simpa using h.2) (two_le (by decide))
theorem mul_lt {a b m n k : Nat} (ha : a < 2 ^ m) (hb : b < 2 ^ n) (h : m + n ≤ k) : a * b < 2 ^ k := by
  refine Nat.lt_of_lt_of_le ?_ (two_le h)
  rw [Nat.pow_add]
  exact Nat.mul_lt_mul'' ha hb
theorem den0 (q : Rat) : ((q.den : Nat) : Int) ≠ 0 := by have := q.den_pos; lia
theorem dd_ne {p q : Rat} : ((p.den : Nat) : Int) * ((q.den : Nat) : Int) ≠ 0 := Int.mul_ne_zero (den0 p) (den0 q)
theorem dd_lt {p q : Rat} (hp : Fine p) (hq : Fine q) : (((p.den : Nat) : Int) * ((q.den : Nat) : Int)).natAbs < 2 ^ 9000 := by
  rw [Int.natAbs_mul]; exact mul_lt (by simpa using hp.2) (by simpa using hq.2) (by decide)
noncomputable def ratS : Spec := fun ds post => w2 ds fun a b => wInt a fun t => wInt b fun b => (b ≠ 0 ∧ b.natAbs < 2 ^ 9000) ∧ post (ratD (Rat.divInt t b)) .any
theorem ratD_eq {t b g : Int} (hb : b ≠ 0) (hg : g = if b > 0 then ((Int.gcd t b : Nat) : Int) else 0 - ((Int.gcd t b : Nat) : Int)) : g ≠ 0 ∧ g.natAbs ≤ b.natAbs ∧ PyData.tuple [.int (t.fdiv g), .int (b.fdiv g)] = ratD (Rat.divInt t b) := by
  have hgp : 0 < Int.gcd t b := Int.gcd_pos_of_ne_zero_right t hb
  have hle : Int.gcd t b ≤ b.natAbs := Nat.le_of_dvd (by lia) (Int.gcd_dvd_natAbs_right t b)
  have hn : (Rat.divInt t b).num = b.sign * t / ((b.gcd t : Nat) : Int) := Rat.num_divInt t b
  have hd : (Rat.divInt t b).den = b.natAbs / b.gcd t := by rw [Rat.den_divInt, if_neg hb]
  have hc : b.gcd t = Int.gcd t b := Int.gcd_comm b t
  obtain ⟨x, hx⟩ : ((Int.gcd t b : Nat) : Int) ∣ t := Int.gcd_dvd_left t b
  obtain ⟨y, hy⟩ : ((Int.gcd t b : Nat) : Int) ∣ b := Int.gcd_dvd_right t b
  generalize Int.gcd t b = G at *
  rw [hc] at hn hd
  have hG : ((G : Nat) : Int) ≠ 0 := by lia
  by_cases h : b > 0
  · rw [if_pos h] at hg
    subst hg
    refine ⟨hG, by lia, ?_⟩
    unfold ratD
    rw [hn, hd, Int.sign_eq_one_of_pos h, Int.one_mul, Int.fdiv_eq_ediv_of_nonneg _ (by lia), Int.fdiv_eq_ediv_of_nonneg _ (by lia)]
    rw [Int.natCast_ediv, show ((b.natAbs : Nat) : Int) = b by lia]
  · rw [if_neg h] at hg
    subst hg
    refine ⟨by lia, by lia, ?_⟩
    unfold ratD
    rw [hn, hd, Int.sign_eq_neg_one_of_neg (by lia), Int.zero_sub]
    have e1 : t.fdiv (-((G : Nat) : Int)) = -x := by
      rw [hx, show ((G : Nat) : Int) * x = (-((G : Nat) : Int)) * (-x) from (Int.neg_mul_neg _ _).symm, Int.mul_fdiv_cancel_left _ (by lia)]
    have e2 : b.fdiv (-((G : Nat) : Int)) = -y := by
      rw [hy, show ((G : Nat) : Int) * y = (-((G : Nat) : Int)) * (-y) from (Int.neg_mul_neg _ _).symm, Int.mul_fdiv_cancel_left _ (by lia)]
    have e3 : -1 * t / ((G : Nat) : Int) = -x := by
      rw [hx, show -1 * (((G : Nat) : Int) * x) = ((G : Nat) : Int) * (-x) by rw [Int.mul_neg, Int.neg_mul, Int.one_mul], Int.mul_ediv_cancel_left _ hG]
    have e4 : ((b.natAbs / G : Nat) : Int) = -y := by
      rw [Int.natCast_ediv, show ((b.natAbs : Nat) : Int) = -b by lia, hy, show -(((G : Nat) : Int) * y) = ((G : Nat) : Int) * (-y) by rw [Int.mul_neg], Int.mul_ediv_cancel_left _ hG]
    rw [e1, e2, e3, e4]
theorem good_rat {mg : MG} {w : World} {n : Nat} : Good mg w (n + 2) (Str.ofString "rat") ratS := by
  refine good_of (sp := [(Str.ofString "gcd", gcdS)]) [] 30 (xs := [Str.ofString "top", Str.ofString "bottom"]) ⟨rfl, rfl, rfl, rfl, bind2 fun _ _ _ _ _ => rfl, by decide, rfl⟩ rfl (spc good_gcd sp0) ?_
  intro ds post h
  obtain ⟨a, b, rfl, hb, h⟩ := ints2 h
  obtain ⟨h1, h2, h3⟩ := ratD_eq (t := a) hb.1 (g := if b > 0 then ((Int.gcd a b : Nat) : Int) else 0 - ((Int.gcd a b : Nat) : Int)) rfl
  exact ⟨rfl, _, _, h, nofun, nofun, And.intro (fun q => absurd (by simpa using q) hb.1) (fun q => Stop.mk ⟨.int (if b > 0 then ((Int.gcd a b : Nat) : Int) else 0 - ((Int.gcd a b : Nat) : Int)), .any,
    fun hp => And.intro (by rw [if_pos (of_decide_eq_true hp)]) (.inl rfl), fun hp => And.intro (by rw [if_neg (of_decide_eq_false hp)]) (.inl rfl), And.intro ⟨h1, Nat.lt_of_le_of_lt h2 hb.2⟩ (And.intro ⟨h1, Nat.lt_of_le_of_lt h2 hb.2⟩ (And.intro h3 nofun))⟩)⟩

noncomputable def raddS : Spec := fun ds post => Stop (∃ p q : Rat, ds = [ratD p, ratD q] ∧ (Fine p ∧ Fine q ∧ True) ∧ post (ratD (p + q)) .any)
noncomputable def rsubS : Spec := fun ds post => Stop (∃ p q : Rat, ds = [ratD p, ratD q] ∧ (Fine p ∧ Fine q ∧ True) ∧ post (ratD (p - q)) .any)
noncomputable def rmulS : Spec := fun ds post => Stop (∃ p q : Rat, ds = [ratD p, ratD q] ∧ (Fine p ∧ Fine q ∧ True) ∧ post (ratD (p * q)) .any)
noncomputable def rdivS : Spec := fun ds post => Stop (∃ p q : Rat, ds = [ratD p, ratD q] ∧ (Fine p ∧ Fine q ∧ q ≠ 0 ∧ q.num.natAbs < 2 ^ 4000) ∧ post (ratD (p / q)) .any)
theorem mk_divInt (a : Int) (b : Nat) : mkRat a b = Rat.divInt a b := by
  rw [Rat.divInt_ofNat]
theorem good_radd {mg : MG} {w : World} {n : Nat} : Good mg w (n + 3) (Str.ofString "radd") raddS := by
  refine good_of (sp := [(Str.ofString "rat", ratS)]) [] 30 (xs := [Str.ofString "a", Str.ofString "b"]) ⟨rfl, rfl, rfl, rfl, bind2 fun _ _ _ _ _ => rfl, by decide, rfl⟩ rfl (spc good_rat sp0) ?_
  rintro ds post ⟨p, q, rfl, ⟨hp, hq, _⟩, h⟩
  refine ⟨rfl, _, _, h, nofun, nofun, And.intro (mulF hp.1 hq.dn) (And.intro (mulF hq.1 hp.dn) (And.intro (mulF hp.dn hq.dn) (And.intro ⟨dd_ne, dd_lt hp hq⟩ (And.intro ?_ nofun))))⟩
  show ratD _ = ratD (p + q)
  rw [Rat.add_def', mk_divInt, Int.natCast_mul]
theorem good_rsub {mg : MG} {w : World} {n : Nat} : Good mg w (n + 3) (Str.ofString "rsub") rsubS := by
  refine good_of (sp := [(Str.ofString "rat", ratS)]) [] 30 (xs := [Str.ofString "a", Str.ofString "b"]) ⟨rfl, rfl, rfl, rfl, bind2 fun _ _ _ _ _ => rfl, by decide, rfl⟩ rfl (spc good_rat sp0) ?_
  rintro ds post ⟨p, q, rfl, ⟨hp, hq, _⟩, h⟩
  refine ⟨rfl, _, _, h, nofun, nofun, And.intro (mulF hp.1 hq.dn) (And.intro (mulF hq.1 hp.dn) (And.intro (mulF hp.dn hq.dn) (And.intro ⟨dd_ne, dd_lt hp hq⟩ (And.intro ?_ nofun))))⟩
  show ratD _ = ratD (p - q)
  rw [Rat.sub_def', mk_divInt, Int.natCast_mul]
theorem good_rmul {mg : MG} {w : World} {n : Nat} : Good mg w (n + 3) (Str.ofString "rmul") rmulS := by
  refine good_of (sp := [(Str.ofString "rat", ratS)]) [] 30 (xs := [Str.ofString "a", Str.ofString "b"]) ⟨rfl, rfl, rfl, rfl, bind2 fun _ _ _ _ _ => rfl, by decide, rfl⟩ rfl (spc good_rat sp0) ?_
  rintro ds post ⟨p, q, rfl, ⟨hp, hq, _⟩, h⟩
  refine ⟨rfl, _, _, h, nofun, nofun, And.intro (mulF hp.1 hq.1) (And.intro (mulF hp.dn hq.dn) (And.intro ⟨dd_ne, dd_lt hp hq⟩ (And.intro ?_ nofun)))⟩
  show ratD _ = ratD (p * q)
  rw [Rat.mul_def', mk_divInt, Int.natCast_mul]
theorem div_eq (p q : Rat) : Rat.divInt (p.num * q.den) (p.den * q.num) = p / q := by
  rw [Rat.div_def, Rat.inv_def]
  conv => rhs; rw [← Rat.num_divInt_den p]
  rw [Rat.divInt_mul_divInt]
theorem good_rdiv {mg : MG} {w : World} {n : Nat} : Good mg w (n + 3) (Str.ofString "rdiv") rdivS := by
  refine good_of (sp := [(Str.ofString "rat", ratS)]) [] 30 (xs := [Str.ofString "a", Str.ofString "b"]) ⟨rfl, rfl, rfl, rfl, bind2 fun _ _ _ _ _ => rfl, by decide, rfl⟩ rfl (spc good_rat sp0) ?_
  rintro ds post ⟨p, q, rfl, ⟨hp, hq, h0, hn⟩, h⟩
  have hq0 : q.num ≠ 0 := fun e => h0 (Rat.num_eq_zero.mp e)
  refine ⟨rfl, _, _, h, nofun, nofun, And.intro (mulF hp.1 hq.dn) (And.intro (mulF hp.dn hq.1) (And.intro ⟨Int.mul_ne_zero (den0 p) hq0, ?_⟩ (And.intro ?_ nofun)))⟩
  · rw [Int.natAbs_mul]; exact mul_lt (by simpa using hp.2) hn (by decide)
  · rw [div_eq]
end
end Mine
end
section
set_option linter.unusedVariables false
namespace Mine
noncomputable section
def nN (e : Nat) : Int := 2520 ^ e
def Bd (e : Nat) (q : Rat) : Prop := ∃ m : Int, q * (nN e : Rat) = (m : Rat) ∧ m.natAbs ≤ 2520 ^ (2 * e)
theorem nN_add (a b : Nat) : nN (a + b) = nN a * nN b := Int.pow_add ..
theorem nN_ne (e : Nat) : (nN e : Rat) ≠ 0 := by
  have : nN e ≠ 0 := Int.pow_ne_zero (by decide)
  exact fun h => this (Rat.intCast_inj.mp h)
theorem nN_abs (e : Nat) : (nN e).natAbs = 2520 ^ e := by unfold nN; rw [Int.natAbs_pow]; rfl
theorem Bd.mono {e e' : Nat} {q : Rat} (x : Bd e q) (h : e ≤ e') : Bd e' q := by
  obtain ⟨m, h1, h2⟩ := x
  obtain ⟨d, rfl⟩ := Nat.exists_eq_add_of_le h
  refine ⟨m * nN d, by rw [nN_add, Rat.intCast_mul, Rat.intCast_mul, ← Rat.mul_assoc, h1], ?_⟩
  rw [Int.natAbs_mul, nN_abs, show 2 * (e + d) = 2 * e + (d + d) by lia, Nat.pow_add]
  exact Nat.mul_le_mul h2 (Nat.pow_le_pow_right (by decide) (by lia))
theorem Bd.add {e : Nat} {p q : Rat} (x : Bd e p) (y : Bd e q) : Bd (e + 1) (p + q) := by
  obtain ⟨m, h1, h2⟩ := x
  obtain ⟨n, h3, h4⟩ := y
  refine ⟨(m + n) * nN 1, by rw [nN_add, Rat.intCast_mul, Rat.intCast_mul, ← Rat.mul_assoc, Rat.add_mul, h1, h3, Rat.intCast_add], ?_⟩
  rw [Int.natAbs_mul, nN_abs, show 2 * (e + 1) = 2 * e + 2 by lia, Nat.pow_add]
  have : (m + n).natAbs ≤ 2 * 2520 ^ (2 * e) := by lia
  calc (m + n).natAbs * 2520 ^ 1 ≤ 2 * 2520 ^ (2 * e) * 2520 ^ 1 := Nat.mul_le_mul_right _ this
    _ ≤ 2520 ^ (2 * e) * 2520 ^ 2 := by rw [Nat.mul_comm 2, Nat.mul_assoc]; exact Nat.mul_le_mul_left _ (by decide)
theorem Bd.mul {e e' : Nat} {p q : Rat} (x : Bd e p) (y : Bd e' q) : Bd (e + e') (p * q) := by
  obtain ⟨m, h1, h2⟩ := x
  obtain ⟨n, h3, h4⟩ := y
  refine ⟨m * n, by rw [nN_add, Rat.intCast_mul, Rat.intCast_mul, ← h1, ← h3]; grind, ?_⟩
  rw [Int.natAbs_mul, Nat.mul_add, Nat.pow_add]
  exact Nat.mul_le_mul h2 h4
theorem Bd.neg {e : Nat} {q : Rat} (x : Bd e q) : Bd e (-q) := by
  obtain ⟨m, h1, h2⟩ := x
  exact ⟨-m, by rw [Rat.intCast_neg, ← h1]; grind, by rw [Int.natAbs_neg]; exact h2⟩
theorem Bd.sub {e : Nat} {p q : Rat} (x : Bd e p) (y : Bd e q) : Bd (e + 1) (p - q) := by
  rw [Rat.sub_eq_add_neg]; exact x.add y.neg
theorem bd_zero (e : Nat) : Bd e 0 := ⟨0, by rw [Rat.zero_mul]; rfl, by simp⟩
theorem bd_int {n : Int} (h : n.natAbs ≤ 2520) : Bd 1 n := ⟨n * nN 1, by rw [Rat.intCast_mul], by rw [Int.natAbs_mul, nN_abs]; exact Nat.mul_le_mul_right _ h⟩
theorem Bd.div {e : Nat} {q : Rat} {k : Int} (x : Bd e q) (h0 : k ≠ 0) (h : k.natAbs ≤ 10) : Bd (e + 1) (q / k) := by
  obtain ⟨m, h1, h2⟩ := x
  have hd : (2520 : Int) = k * (2520 / k) := by
    have : k = 1 ∨ k = 2 ∨ k = 3 ∨ k = 4 ∨ k = 5 ∨ k = 6 ∨ k = 7 ∨ k = 8 ∨ k = 9 ∨ k = 10 ∨ k = -1 ∨ k = -2 ∨ k = -3 ∨ k = -4 ∨ k = -5 ∨ k = -6 ∨ k = -7 ∨ k = -8 ∨ k = -9 ∨ k = -10 := by lia
    rcases this with h | h | h | h | h | h | h | h | h | h | h | h | h | h | h | h | h | h | h | h <;> subst h <;> rfl
  generalize hz : (2520 : Int) / k = z at hd
  have hk : (k : Rat) ≠ 0 := fun q => h0 (Rat.intCast_inj.mp q)
  have hz1 : z.natAbs ≤ 2520 := by
    have : (2520 : Int).natAbs = k.natAbs * z.natAbs := by rw [hd, Int.natAbs_mul]
    have h1 : 1 ≤ k.natAbs := by lia
    calc z.natAbs = 1 * z.natAbs := (Nat.one_mul _).symm
      _ ≤ k.natAbs * z.natAbs := Nat.mul_le_mul_right _ h1
      _ = 2520 := this.symm
  refine ⟨m * z, ?_, ?_⟩
  · rw [nN_add, show nN 1 = k * z from hd, Rat.intCast_mul, Rat.intCast_mul, Rat.intCast_mul, ← h1]
    grind
  · rw [Int.natAbs_mul, show 2 * (e + 1) = 2 * e + 2 by lia, Nat.pow_add]
    exact Nat.mul_le_mul h2 (Nat.le_trans hz1 (by decide))
theorem Bd.fine {e : Nat} {q : Rat} (x : Bd e q) (h : e ≤ 300) : Fine q := by
  obtain ⟨m, h1, h2⟩ := x.mono h
  have e1 : q = Rat.divInt m (nN 300) := by
    rw [Rat.divInt_eq_div, ← h1]
    have := nN_ne 300
    grind
  have hD : (nN 300).natAbs < 2 ^ 4000 := by rw [nN_abs]; decide +kernel
  have hM : m.natAbs < 2 ^ 100000 := Nat.lt_of_le_of_lt h2 (Nat.lt_of_lt_of_le (show 2520 ^ (2 * 300) < 2 ^ 8000 by decide +kernel) (two_le (by decide)))
  have hz : nN 300 ≠ 0 := Int.pow_ne_zero (by decide)
  constructor
  · rw [e1, Rat.num_divInt, Int.natAbs_ediv_of_dvd (Int.dvd_mul_of_dvd_right (Int.gcd_dvd_right ..))]
    refine Nat.lt_of_le_of_lt (Nat.div_le_self _ _) ?_
    rw [Int.natAbs_mul]
    exact Nat.lt_of_le_of_lt (Nat.le_trans (Nat.mul_le_mul_right _ (show (nN 300).sign.natAbs ≤ 1 by rw [Int.natAbs_sign]; split <;> decide)) (by rw [Nat.one_mul]; exact Nat.le_refl _)) hM
  · rw [e1, Rat.den_divInt, if_neg hz]
    exact Nat.lt_of_le_of_lt (Nat.div_le_self _ _) hD
end
end Mine
end
section
open PySem PySem.W PyProof.Rows PySem.Calls PySem.SeqAt
set_option maxRecDepth 100000
set_option linter.unusedVariables false
namespace Mine
noncomputable section
theorem bo_max : bootBuiltins (Str.ofString "max") = some (.builtin "max") := by boot_fast
theorem bf_max : bFree (Str.ofString "max") = true := by decide +kernel
theorem bo_min : bootBuiltins (Str.ofString "min") = some (.builtin "min") := by boot_fast
theorem bf_min : bFree (Str.ofString "min") = true := by decide +kernel
theorem bo_len : bootBuiltins (Str.ofString "len") = some (.builtin "len") := by boot_fast
theorem bf_len : bFree (Str.ofString "len") = true := by decide +kernel
theorem bo_list : bootBuiltins (Str.ofString "list") = some (.type "list") := by boot_fast
theorem bf_list : bFree (Str.ofString "list") = true := by decide +kernel
noncomputable def maxS : Spec := fun ds post => w2 ds fun a b => wInt a fun a => wInt b fun b => post (.int (if b > a then b else a)) .any
noncomputable def minS : Spec := fun ds post => w2 ds fun a b => wInt a fun a => wInt b fun b => Stop (∃ m : Int, m = (if b < a then b else a) ∧ post (.int m) .any)
noncomputable def lenS : Spec := fun ds post => w1 ds fun a => wList a fun xs => xs.length ≤ 1000 ∧ post (.int xs.length) .any
noncomputable def listS : Spec := fun ds post => w1 ds fun a => wList a fun xs => xs.length ≤ 1000 ∧ post (.list xs) .new
section
variable {mg : MG} {w : World} {n : Nat}
theorem good_max : Good mg w n (Str.ofString "max") maxS := fun ds post h => by
  obtain ⟨a, b, rfl, h⟩ := ints2 h
  exact ⟨_, _, h, nofun, .inr ⟨bf_max, _, bo_max, by decide, rfl, fun A hA => b_max (hA.mono (Nat.zero_le _))⟩⟩
theorem good_min : Good mg w n (Str.ofString "min") minS := fun ds post h => by
  obtain ⟨a, b, rfl, ⟨m, e, h⟩⟩ := ints2 h
  subst e
  exact ⟨_, _, h, nofun, .inr ⟨bf_min, _, bo_min, by decide, rfl, fun A hA => b_min (hA.mono (Nat.zero_le _))⟩⟩
theorem good_len : Good mg w n (Str.ofString "len") lenS := fun ds post h => by
  obtain ⟨a, rfl, h⟩ := w1_of h
  obtain ⟨xs, rfl, hz, h⟩ := wList_of h
  exact ⟨_, _, h, nofun, .inr ⟨bf_len, _, bo_len, by decide, rfl, fun A hA => b_len (Nat.le_trans hz (by decide))⟩⟩
theorem good_list : Good mg w n (Str.ofString "list") listS := fun ds post h => by
  obtain ⟨a, rfl, h⟩ := w1_of h
  obtain ⟨xs, rfl, hz, h⟩ := wList_of h
  refine ⟨_, .new, h, fun _ => ⟨_, rfl⟩, .inr ⟨bf_list, _, bo_list, by decide, rfl, fun A hA s vs i => ?_⟩⟩
  exact wpAny_q (b_list (mg := mg) (w := w) (A := A) (Nat.le_trans hz (by decide)) s vs i) fun v s' ⟨k, x⟩ => ⟨k, xs, rfl, x⟩
end

theorem eqv_rat (p q : Rat) : PyData.eqv (ratD p) (ratD q) = decide (p = q) := by
  have : PyData.eqv (ratD p) (ratD q) = (decide (p.num = q.num) && (decide ((p.den : Int) = q.den) && true)) := rfl
  rw [this, Bool.eq_iff_iff]
  simp only [Bool.and_eq_true, decide_eq_true_eq, and_true]
  constructor
  · rintro ⟨h1, h2⟩; exact Rat.ext h1 (by lia)
  · rintro rfl; exact ⟨rfl, rfl⟩

theorem ne0f {p q : Rat} (h : (!PyData.eqv (ratD p) (ratD q)) = false) : p = q := by rw [eqv_rat] at h; simpa using h
/-! series -/
abbrev L (qs : List Rat) : PyData := .list (qs.map ratD)
def cf (a : List Rat) (i : Nat) : Rat := a.getD i 0
def AllF (a : List Rat) : Prop := ∀ i, Fine (cf a i)
theorem fine0 : Fine 0 := ⟨by decide +kernel, by decide +kernel⟩
theorem at_L {a : List Rat} {i : Nat} (h : i < a.length) : (a.map ratD)[i]? = some (ratD (cf a i)) := by
  simp [cf, List.getElem?_map, List.getD_eq_getElem?_getD, h]
theorem it_L {a : List Rat} {k : Int} {i : Nat} (hk : k = i) (h : i < a.length) (hz : a.length ≤ 1000) : 0 ≤ k ∧ (a.map ratD)[k.toNat]? = some (ratD (cf a i)) ∧ (a.map ratD).length ≤ 2 ^ 62 := by
  subst hk
  refine ⟨by lia, by simpa using at_L h, ?_⟩
  rw [List.length_map]; exact Nat.le_trans hz (by decide)
theorem range_at {n i : Nat} {d : PyData} (h : (rangeD 0 1 n)[i]? = some d) : i < n ∧ d = .int i := by
  obtain ⟨a, b⟩ := rangeD_get h
  exact ⟨a, by rw [b]; simp⟩
theorem range1_at {n i : Nat} {d : PyData} (h : (rangeD 1 1 n)[i]? = some d) : i < n ∧ d = .int ((i + 1 : Nat) : Int) := by
  obtain ⟨a, b⟩ := rangeD_get h
  exact ⟨a, by rw [b]; congr 1; lia⟩
theorem flatL (a : List Rat) : (a.map ratD).all flat = true := by simp [flat, ratD, scalar]

noncomputable def mixP (a b : List Rat) (k : Nat) : Nat → Rat
  | 0 => 0
  | j + 1 => mixP a b k j + cf a j * cf b (k - j)
def mix (a b : List Rat) (k : Nat) : Rat := mixP a b k (k + 1)

noncomputable def letS : Spec := fun ds post => Stop (∃ q : Rat, ds = [ratD q] ∧ Fine q ∧ post (ratD q) .any)

noncomputable def mixedS : Spec := fun ds post => Stop (∃ (a b : List Rat) (k : Nat), ds = [L a, L b, .int k] ∧ (k < a.length ∧ k < b.length ∧ a.length ≤ 500 ∧ b.length ≤ 500) ∧ (AllF a ∧ AllF b ∧ (∀ j, j ≤ k + 1 → Fine (mixP a b k j)) ∧ ∀ j, j ≤ k → Fine (cf a j * cf b (k - j))) ∧ post (ratD (mix a b k)) .any)
theorem good_mixed {mg : MG} {w : World} {n : Nat} : Good mg w (n + 4) (Str.ofString "mixed") mixedS := by
  refine good_of (sp := [(Str.ofString "radd", raddS), (Str.ofString "rmul", rmulS)]) [] 30 (xs := [Str.ofString "a", Str.ofString "b", Str.ofString "at"]) ⟨rfl, rfl, rfl, rfl, bind3 fun _ _ _ _ _ _ => rfl, by decide, rfl⟩ rfl (spc good_radd (spc good_rmul sp0)) ?_
  rintro ds post ⟨a, b, k, rfl, ⟨ha, hb, ha', hb'⟩, ⟨fa, fb, fp, fm⟩, h⟩
  refine ⟨rfl, _, _, h, nofun, nofun, And.intro ⟨by lia, by lia⟩ (Stop.mk ⟨fun i => ([(Str.ofString "found", ratD (mixP a b k i)), (Str.ofString "a", L a), (Str.ofString "b", L b), (Str.ofString "at", .int k)], []), ⟨⟨rfl, rfl, rfl, rfl, trivial⟩, rfl, fun _ => rfl, fun _ _ => rfl, rangeD_flat _ _ _, fun _ => rangeD_scalar _ _ _⟩, fun i d hd => ?_, ?_⟩)⟩
  · obtain ⟨hi, rfl⟩ := range_at hd
    have hi : i ≤ k := by lia
    have skip : cf a i * cf b (k - i) = 0 → ratD (mixP a b k i) = ratD (mixP a b k (i + 1)) := fun e => by
      show _ = ratD (mixP a b k i + _)
      rw [e, Rat.add_zero]
    refine Stop.mk ⟨_, it_L rfl (by lia) (by lia), And.intro ⟨rfl, rfl⟩ (And.intro (fun e => And.intro nofun fun _ => And.intro ⟨congrArg some (skip (by rw [ne0f e, Rat.zero_mul])), rfl, rfl, rfl, trivial⟩ rfl) fun _ =>
      Stop.mk ⟨_, it_L (i := k - i) (by lia) (by lia) (by lia), And.intro ⟨rfl, rfl⟩ (And.intro (fun _ => ?_) fun e => And.intro ⟨congrArg some (skip (by rw [ne0f e, Rat.mul_zero])), rfl, rfl, rfl, trivial⟩ rfl)⟩)⟩
    refine Stop.mk ⟨_, it_L rfl (by lia) (by lia), Stop.mk ⟨_, it_L (i := k - i) (by lia) (by lia) (by lia), Stop.mk ⟨_, _, rfl, ⟨fa i, fb _, trivial⟩, Stop.mk ⟨_, _, rfl, ⟨fp i (by lia), fm i hi, trivial⟩, And.intro ⟨rfl, rfl, rfl, rfl, trivial⟩ rfl⟩⟩⟩⟩
  · refine And.intro ?_ nofun
    show ratD (mixP a b k (rangeD 0 1 _).length) = ratD (mixP a b k (k + 1))
    rw [rangeD_length]; congr 2
end
end Mine
end
section
open PySem PySem.W PyProof.Rows PySem.Calls PySem.SeqAt
set_option maxRecDepth 100000
set_option linter.unusedVariables false
namespace Mine
noncomputable section
section
variable {mg : MG} {w : World} {n : Nat}
noncomputable def vastS : Spec := fun ds post => Stop (∃ q : Rat, ds = [ratD q] ∧ Fine q ∧ post (.bool false) .any)
theorem good_let (gv : Good mg w n (Str.ofString "is_vast") vastS) : Good mg w (n + 1) (Str.ofString "let") letS := by
  refine good_of (sp := [(Str.ofString "is_vast", vastS)]) [] 30 (xs := [Str.ofString "number"]) ⟨rfl, rfl, rfl, rfl, bind1 fun _ _ _ _ => rfl, by decide, rfl⟩ rfl (spc gv sp0) ?_
  rintro ds post ⟨q, rfl, hq, h⟩
  exact ⟨rfl, _, _, h, nofun, nofun, Stop.mk ⟨q, rfl, hq, And.intro nofun fun _ => And.intro rfl nofun⟩⟩

def nat (i : Nat) : Rat := ((i : Int) : Rat)
theorem fineN {i : Nat} (h : i ≤ 1000) : Fine (nat i) ∧ (nat i).num.natAbs < 2 ^ 4000 := by
  have e : (nat i).num = (i : Int) := rfl
  have e2 : (nat i).den = 1 := rfl
  have h1 : i < 2 ^ 11 := by lia
  refine ⟨⟨?_, ?_⟩, ?_⟩
  · rw [e]; exact Nat.lt_of_lt_of_le (show ((i : Int)).natAbs < 2 ^ 11 by simpa using h1) (two_le (by decide))
  · rw [e2]; exact Nat.lt_of_lt_of_le (show 1 < 2 ^ 11 by decide) (two_le (by decide))
  · rw [e]; exact Nat.lt_of_lt_of_le (show ((i : Int)).natAbs < 2 ^ 11 by simpa using h1) (two_le (by decide))
theorem nat_ne {i : Nat} : nat (i + 1) ≠ 0 := fun e => by
  have : (nat (i + 1)).num = (0 : Rat).num := by rw [e]
  have h : ((i + 1 : Nat) : Int) = 0 := this
  lia

def cutL (a : List Rat) (k : Nat) : List Rat := a.take k ++ List.replicate (k - a.length) 0
noncomputable def cutS : Spec := fun ds post => Stop (∃ (a : List Rat) (k : Nat), ds = [L a, .int k] ∧ (a.length ≤ 500 ∧ k ≤ 500) ∧ post (L (cutL a k)) .new)
theorem good_cut : Good mg w (n + 1) (Str.ofString "cut") cutS := by
  refine good_of (sp := [(Str.ofString "list", listS), (Str.ofString "len", lenS)]) [] 30 (xs := [Str.ofString "a", Str.ofString "order"]) ⟨rfl, rfl, rfl, rfl, bind2 fun _ _ _ _ _ => rfl, by decide, rfl⟩ rfl (spc good_list (spc good_len sp0)) ?_
  rintro ds post ⟨a, k, rfl, ⟨ha, hk⟩, h⟩
  have h1 : (a.map ratD).length ≤ 1000 := by rw [List.length_map]; lia
  have h2 : ((a.map ratD).take k).length ≤ 1000 := Nat.le_trans (List.length_take_le' _ _) h1
  have e : ((k : Int) - ((a.map ratD).length : Int)).toNat = k - a.length := by rw [List.length_map]; lia
  refine ⟨rfl, _, .new, h, nofun, fun _ => ⟨_, rfl⟩, And.intro (Nat.le_trans h1 (by decide)) (Stop.mk (Or.inl (And.intro (by lia) (And.intro h2 (And.intro h1 (And.intro ⟨by rw [List.length_map]; lia, by rw [List.length_map]; lia⟩ (And.intro ?_ (And.intro ?_ fun _ => rfl)))))))) ⟩
  · refine Nat.le_trans (Nat.add_le_add h2 (Nat.le_of_eq List.length_replicate)) ?_
    rw [e]; exact Nat.le_trans (show 1000 + (k - a.length) ≤ 2000 by lia) (by decide)
  · rw [e]
    show PyData.list _ = PyData.list _
    congr 1
    simp [cutL, List.map_take]

def mulL (a b : List Rat) : List Rat := (List.range (min a.length b.length)).map (mix a b)
def MulOk (a b : List Rat) : Prop := AllF a ∧ AllF b ∧ ∀ k, k < min a.length b.length → (∀ j, j ≤ k + 1 → Fine (mixP a b k j)) ∧ ∀ j, j ≤ k → Fine (cf a j * cf b (k - j))
noncomputable def smulS : Spec := fun ds post => Stop (∃ (a b : List Rat), ds = [L a, L b] ∧ (a.length ≤ 500 ∧ b.length ≤ 500 ∧ MulOk a b) ∧ post (L (mulL a b)) .new)
theorem range_map {f : Nat → Rat} {m i : Nat} {r : PyData} (h : (((List.range m).map f).map ratD)[i]? = some r) : r = ratD (f i) := by
  rw [List.getElem?_map, List.getElem?_map] at h
  by_cases hi : i < m
  · simp [hi] at h; exact h.symm
  · rw [List.getElem?_eq_none (by simpa using hi)] at h; cases h
theorem good_smul (gl : Good mg w (n + 4) (Str.ofString "let") letS) : Good mg w (n + 5) (Str.ofString "smul") smulS := by
  refine good_of (sp := [(Str.ofString "let", letS), (Str.ofString "mixed", mixedS), (Str.ofString "min", minS), (Str.ofString "len", lenS)]) [] 30 (xs := [Str.ofString "a", Str.ofString "b"]) ⟨rfl, rfl, rfl, rfl, bind2 fun _ _ _ _ _ => rfl, by decide, rfl⟩ rfl (spc gl (spc good_mixed (spc good_min (spc good_len sp0)))) ?_
  rintro ds post ⟨a, b, rfl, ⟨ha, hb, fa, fb, hm⟩, h⟩
  have h1 : (a.map ratD).length ≤ 1000 := by rw [List.length_map]; lia
  have h2 : (b.map ratD).length ≤ 1000 := by rw [List.length_map]; lia
  have e : (if ((b.map ratD).length : Int) < ((a.map ratD).length : Int) then ((b.map ratD).length : Int) else ((a.map ratD).length : Int)) = ((min a.length b.length : Nat) : Int) := by
    rw [List.length_map, List.length_map]; split <;> lia
  have e3 : (((min a.length b.length : Nat) : Int)).toNat = min a.length b.length := by lia
  refine ⟨rfl, _, .new, h, nofun, fun _ => ⟨_, rfl⟩, And.intro h1 (And.intro h2 (Stop.mk ⟨_, e.symm, And.intro ⟨by lia, by lia⟩ (Stop.mk ⟨(mulL a b).map ratD, ⟨?_, ?_, flatL _⟩, fun i d r hd hr => ?_, And.intro rfl fun _ => rfl⟩)⟩))⟩
  · rw [rangeD_length]; exact Nat.le_trans (show (((min a.length b.length : Nat) : Int)).toNat ≤ 500 by lia) (by decide)
  · rw [rangeD_length, e3]; simp [mulL]
  · rw [e3] at hd
    obtain ⟨hi, rfl⟩ := range_at hd
    have hr := range_map hr
    subst hr
    exact Stop.mk ⟨a, b, i, rfl, ⟨by lia, by lia, ha, hb⟩, ⟨fa, fb, (hm i hi).1, (hm i hi).2⟩, Stop.mk ⟨_, rfl, (hm i hi).1 _ (Nat.le_refl _), rfl⟩⟩

def derL (a : List Rat) : List Rat := (List.range (a.length - 1)).map fun i => nat (i + 1) * cf a (i + 1)
noncomputable def sderiveS : Spec := fun ds post => Stop (∃ a : List Rat, ds = [L a] ∧ (a.length ≤ 500 ∧ AllF a) ∧ post (L (derL a)) .new)
theorem good_sderive : Good mg w (n + 4) (Str.ofString "sderive") sderiveS := by
  refine good_of (sp := [(Str.ofString "rmul", rmulS), (Str.ofString "len", lenS)]) [] 30 (xs := [Str.ofString "a"]) ⟨rfl, rfl, rfl, rfl, bind1 fun _ _ _ _ => rfl, by decide, rfl⟩ rfl (spc good_rmul (spc good_len sp0)) ?_
  rintro ds post ⟨a, rfl, ⟨ha, fa⟩, h⟩
  have h1 : (a.map ratD).length ≤ 1000 := by rw [List.length_map]; lia
  have e : (((a.map ratD).length : Int) - 1).toNat = a.length - 1 := by rw [List.length_map]; lia
  refine ⟨rfl, _, .new, h, nofun, fun _ => ⟨_, rfl⟩, And.intro h1 (And.intro ⟨⟨by decide, by decide⟩, by rw [List.length_map]; lia, by rw [List.length_map]; lia⟩ (Stop.mk ⟨(derL a).map ratD, ⟨?_, ?_, flatL _⟩, fun i d r hd hr => ?_, And.intro rfl fun _ => rfl⟩))⟩
  · rw [rangeD_length, e]; exact Nat.le_trans (show a.length - 1 ≤ 500 by lia) (by decide)
  · rw [rangeD_length, e]; simp [derL]
  · rw [e] at hd
    obtain ⟨hi, rfl⟩ := range1_at hd
    have hr := range_map hr
    subst hr
    exact Stop.mk ⟨_, it_L (i := i + 1) rfl (by lia) (by lia), Stop.mk ⟨nat (i + 1), _, rfl, ⟨(fineN (by lia)).1, fa _, trivial⟩, rfl⟩⟩

def intL (a : List Rat) : List Rat := 0 :: (List.range a.length).map fun i => cf a i / nat (i + 1)
noncomputable def sintegrateS : Spec := fun ds post => Stop (∃ a : List Rat, ds = [L a] ∧ (a.length ≤ 500 ∧ AllF a) ∧ post (L (intL a)) .new)
theorem good_sintegrate : Good mg w (n + 4) (Str.ofString "sintegrate") sintegrateS := by
  refine good_of (sp := [(Str.ofString "rdiv", rdivS), (Str.ofString "len", lenS)]) [] 30 (xs := [Str.ofString "a"]) ⟨rfl, rfl, rfl, rfl, bind1 fun _ _ _ _ => rfl, by decide, rfl⟩ rfl (spc good_rdiv (spc good_len sp0)) ?_
  rintro ds post ⟨a, rfl, ⟨ha, fa⟩, h⟩
  have h1 : (a.map ratD).length ≤ 1000 := by rw [List.length_map]; lia
  have e : (((a.map ratD).length : Int)).toNat = a.length := by rw [List.length_map]; lia
  refine ⟨rfl, _, .new, h, nofun, fun _ => ⟨_, rfl⟩, And.intro h1 (And.intro ⟨by rw [List.length_map]; lia, by rw [List.length_map]; lia⟩ (Stop.mk ⟨((List.range a.length).map fun i => cf a i / nat (i + 1)).map ratD, ⟨?_, ?_, flatL _⟩, fun i d r hd hr => ?_, And.intro ?_ (And.intro rfl fun _ => rfl)⟩))⟩
  · rw [rangeD_length, e]; exact Nat.le_trans (show a.length ≤ 500 by lia) (by decide)
  · rw [rangeD_length, e]; simp
  · rw [e] at hd
    obtain ⟨hi, rfl⟩ := range_at hd
    have hr := range_map hr
    subst hr
    exact Stop.mk ⟨_, it_L (i := i) rfl (by lia) (by lia), Stop.mk ⟨_, nat (i + 1), rfl, ⟨fa _, (fineN (by lia)).1, nat_ne, (fineN (by lia)).2⟩, rfl⟩⟩
  · simp; exact Nat.le_trans (show 1 + a.length ≤ 501 by lia) (by decide)

noncomputable def rcompareS : Spec := fun ds post => Stop (∃ q : Rat, ds = [ratD q, ratD q] ∧ Fine q ∧ post (.int 0) .any)
theorem good_rcompare : Good mg w (n + 1) (Str.ofString "rcompare") rcompareS := by
  refine good_of (sp := []) [] 30 (xs := [Str.ofString "a", Str.ofString "b"]) ⟨rfl, rfl, rfl, rfl, bind2 fun _ _ _ _ _ => rfl, by decide, rfl⟩ rfl sp0 ?_
  rintro ds post ⟨q, rfl, hq, h⟩
  refine ⟨rfl, _, _, h, nofun, nofun, And.intro (mulF hq.1 hq.dn) (And.intro (mulF hq.1 hq.dn) (And.intro ?_ nofun))⟩
  have e : q.num * (q.den : Int) - q.num * q.den = 0 := by lia
  rw [e]; rfl
noncomputable def needS : Spec := fun ds post => Stop (∃ (a : List Rat) (q : Rat), ds = [L a, ratD q] ∧ (a.length ≤ 500 ∧ Fine q ∧ (0 < a.length → cf a 0 = q)) ∧ post .none .any)
theorem good_need : Good mg w (n + 2) (Str.ofString "need_begin") needS := by
  refine good_of (sp := [(Str.ofString "rcompare", rcompareS), (Str.ofString "len", lenS)]) [] 30 (xs := [Str.ofString "a", Str.ofString "number"]) ⟨rfl, rfl, rfl, rfl, bind2 fun _ _ _ _ _ => rfl, by decide, rfl⟩ rfl (spc good_rcompare (spc good_len sp0)) ?_
  rintro ds post ⟨a, q, rfl, ⟨ha, hq, hb⟩, h⟩
  have h1 : (a.map ratD).length ≤ 1000 := by rw [List.length_map]; lia
  refine ⟨rfl, _, _, h, nofun, nofun, And.intro h1 (And.intro (fun _ => And.intro nofun fun _ => And.intro rfl rfl) fun hp => ?_)⟩
  have hp : 0 < a.length := by simpa using hp
  exact Stop.mk ⟨_, it_L (i := 0) rfl hp (by lia), Stop.mk ⟨q, by rw [hb hp], hq, And.intro nofun fun _ => And.intro rfl rfl⟩⟩
end
end
end Mine
end
section
open PySem PySem.W PyProof.Rows PySem.Calls PySem.SeqAt
set_option maxRecDepth 100000
set_option linter.unusedVariables false
namespace Mine
noncomputable section
noncomputable def build (f : List Rat → Rat) : Nat → List Rat
  | 0 => []
  | n + 1 => build f n ++ [f (build f n)]
theorem build_length (f : List Rat → Rat) : ∀ n, (build f n).length = n
  | 0 => rfl
  | n + 1 => by simp [build, build_length f n]
theorem cf_build {f : List Rat → Rat} : ∀ {n i : Nat}, i < n → cf (build f n) i = f (build f i)
  | n + 1, i, h => by
    show (build f n ++ [f (build f n)]).getD i 0 = _
    by_cases hi : i < n
    · have := cf_build (f := f) hi
      unfold cf at this
      rw [← this]
      simp [List.getD_eq_getElem?_getD, List.getElem?_append, build_length, hi]
    · have : i = n := by lia
      subst this
      simp [List.getD_eq_getElem?_getD, build_length, build]
theorem cf_out {a : List Rat} {i : Nat} (h : a.length ≤ i) : cf a i = 0 := by
  simp [cf, List.getD_eq_getElem?_getD, List.getElem?_eq_none h]
theorem build_map (f : List Rat → Rat) (n : Nat) : (build f (n + 1)).map ratD = (build f n).map ratD ++ [ratD (f (build f n))] := by simp [build]
theorem build_len (f : List Rat → Rat) (n : Nat) : ((build f n).map ratD).length = n := by simp [build_length]
theorem it_B {f : List Rat → Rat} {n : Nat} {k : Int} {i : Nat} (hk : k = i) (h : i < n) (hz : n ≤ 1000) : 0 ≤ k ∧ ((build f n).map ratD)[k.toNat]? = some (ratD (cf (build f n) i)) ∧ ((build f n).map ratD).length ≤ 2 ^ 62 :=
  it_L hk (by rw [build_length]; exact h) (by rw [build_length]; exact hz)
def AllB (f : List Rat → Rat) (n : Nat) : Prop := ∀ i, i < n → Fine (f (build f i))
theorem fineB {f : List Rat → Rat} {n m i : Nat} (h : AllB f n) (hm : m ≤ n) : Fine (cf (build f m) i) := by
  by_cases hi : i < m
  · rw [cf_build hi]; exact h i (by lia)
  · rw [cf_out (by rw [build_length]; lia)]; exact fine0
theorem AllB.all {f : List Rat → Rat} {n : Nat} (h : AllB f n) : AllF (build f n) := fun i => fineB h (Nat.le_refl _)

/-- z - f 1 - f 2 - .. - f j -/
noncomputable def subP (f : Nat → Rat) (z : Rat) : Nat → Rat
  | 0 => z
  | j + 1 => subP f z j - f (j + 1)
noncomputable def addP (f : Nat → Rat) (z : Rat) : Nat → Rat
  | 0 => z
  | j + 1 => addP f z j + f (j + 1)
def one0 (k : Nat) : Rat := if k = 0 then 1 else 0
def invT (a l : List Rat) (s : Nat) : Rat := cf a s * cf l (l.length - s)
def invF (a : List Rat) (l : List Rat) : Rat := subP (invT a l) (one0 l.length) l.length / cf a 0
def invL (a : List Rat) : List Rat := build (invF a) a.length
/-- the middle values of a recursion with terms t and partial totals p are fine -/
def RecOk (f : List Rat → Rat) (t : List Rat → Nat → Rat) (p : List Rat → Nat → Rat) (n : Nat) : Prop := AllB f n ∧ ∀ k, k < n → ∀ j, j ≤ k → Fine (t (build f k) j) ∧ Fine (p (build f k) j)
def InvOk (a : List Rat) : Prop := AllF a ∧ (cf a 0).num.natAbs < 2 ^ 4000 ∧ RecOk (invF a) (invT a) (fun l => subP (invT a l) (one0 l.length)) a.length
section
variable {mg : MG} {w : World} {n : Nat}
noncomputable def sinverseS : Spec := fun ds post => Stop (∃ a : List Rat, ds = [L a] ∧ (a.length ≤ 500 ∧ 0 < a.length ∧ cf a 0 ≠ 0 ∧ InvOk a) ∧ post (L (invL a)) .new)
theorem eq0t {p q : Rat} (h : PyData.eqv (ratD p) (ratD q) = true) : p = q := by rw [eqv_rat] at h; simpa using h
theorem one0_1 {k : Nat} (h : ((k : Int) == 0) = true) : ratD 1 = ratD (one0 k) := by
  have : k = 0 := by simpa using h
  unfold one0; rw [if_pos this]
theorem one0_0 {k : Nat} (h : ((k : Int) == 0) = false) : ratD 0 = ratD (one0 k) := by
  have : k ≠ 0 := by simpa using h
  unfold one0; rw [if_neg this]
theorem tn1 {k : Nat} : ((k : Int) + 1 - 1).toNat = k := by lia
theorem sm (k : Nat) (h : k ≤ 1000) : small (k : Int) := ⟨by lia, by lia⟩
theorem sm1 (k : Nat) (h : k < 1000) : small ((k : Int) + 1) := ⟨by lia, by lia⟩
theorem sm_1 : small 1 := ⟨by decide, by decide⟩
theorem szB {f : List Rat → Rat} {k : Nat} (h : k ≤ 1000) : ((build f k).map ratD).length ≤ sizeLine := by rw [build_len]; exact Nat.le_trans h (by decide)
theorem good_sinverse (gl : Good mg w (n + 4) (Str.ofString "let") letS) : Good mg w (n + 5) (Str.ofString "sinverse") sinverseS := by
  refine good_of (n := n + 4) (sp := [(Str.ofString "let", letS), (Str.ofString "rsub", rsubS), (Str.ofString "rmul", rmulS), (Str.ofString "rdiv", rdivS), (Str.ofString "len", lenS)]) [Str.ofString "found"] 30 (xs := [Str.ofString "a"]) ⟨rfl, rfl, rfl, rfl, bind1 fun _ _ _ _ => rfl, by decide, rfl⟩ rfl (spc gl (spc (good_rsub.more (Nat.le_succ _)) (spc (good_rmul.more (Nat.le_succ _)) (spc (good_rdiv.more (Nat.le_succ _)) (spc good_len sp0))))) ?_
  rintro ds post ⟨a, rfl, ⟨ha, hp, h0, fa, f0, hB, hR⟩, h⟩
  have h1 : (a.map ratD).length ≤ 1000 := by rw [List.length_map]; lia
  have e : (((a.map ratD).length : Int)).toNat = a.length := by rw [List.length_map]; lia
  refine ⟨rfl, _, .new, h, nofun, fun _ => ⟨_, rfl⟩, And.intro h1 (And.intro (fun q => absurd hp (by simpa using q)) fun _ => Stop.mk ⟨_, it_L (i := 0) rfl hp (by lia), And.intro ⟨rfl, rfl⟩ (And.intro (fun q => absurd (eq0t q) h0) fun _ => And.intro rfl (And.intro h1 (And.intro (sm _ h1)
    (Stop.mk ⟨fun i => ([(Str.ofString "a", L a)], [(Str.ofString "found", (build (invF a) i).map ratD)]), ⟨⟨rfl, trivial⟩, rfl, fun _ => rfl, nofun, rangeD_flat _ _ _, fun _ => rangeD_scalar _ _ _⟩, fun i d hd => ?_, ?_⟩))))⟩)⟩
  · rw [e] at hd
    obtain ⟨hi, rfl⟩ := range_at hd
    refine Stop.mk ⟨ratD (one0 i), .any, fun q => And.intro (one0_1 q) (.inl rfl), fun q => And.intro (one0_0 q) (.inl rfl), ?_⟩
    refine And.intro ⟨sm_1, sm1 i (by lia)⟩ (Stop.mk ⟨fun j => ([(Str.ofString "total", ratD (subP (invT a (build (invF a) i)) (one0 i) j)), (Str.ofString "at", .int i), (Str.ofString "a", L a)], [(Str.ofString "found", (build (invF a) i).map ratD)]), ⟨⟨rfl, rfl, rfl, trivial⟩, rfl, fun _ => rfl, nofun, rangeD_flat _ _ _, fun _ => rangeD_scalar _ _ _⟩, fun j d hd => ?_, ?_⟩)
    · obtain ⟨hj, rfl⟩ := range1_at hd
      rw [tn1] at hj
      have hj2 := hR i hi j (by lia)
      have hj3 := hR i hi (j + 1) (by lia)
      simp only [build_length, invT] at hj2 hj3
      refine Stop.mk ⟨_, it_L (i := j + 1) rfl (by lia) (by lia), Stop.mk ⟨_, it_B (i := i - (j + 1)) (by lia) (by lia) (by lia), Stop.mk ⟨_, _, rfl, ⟨fa _, fineB hB (by lia), trivial⟩, Stop.mk ⟨_, _, rfl, ⟨hj2.2, hj3.1, trivial⟩, And.intro ⟨congrArg some ?_, rfl, rfl, trivial⟩ rfl⟩⟩⟩⟩
      show ratD _ = ratD (subP _ _ j - cf a (j + 1) * cf (build (invF a) i) ((build (invF a) i).length - (j + 1)))
      rw [build_length]
    · have hl : (rangeD 1 1 (((i : Int) + 1 - 1).toNat)).length = i := by rw [rangeD_length, tn1]
      have hi2 := hR i hi i (Nat.le_refl _)
      simp only [build_length] at hi2
      have hv : invF a (build (invF a) i) = subP (invT a (build (invF a) i)) (one0 i) i / cf a 0 := by unfold invF; rw [build_length]
      refine Stop.mk ⟨_, it_L (i := 0) rfl hp (by lia), Stop.mk ⟨_, _, rfl, ⟨by rw [hl]; exact hi2.2, fa 0, h0, f0⟩, Stop.mk ⟨_, rfl, by rw [hl, ← hv]; exact hB i hi, And.intro (szB (by lia)) (And.intro ⟨rfl, trivial⟩ ?_)⟩⟩⟩
      show [(Str.ofString "found", (build (invF a) i).map ratD ++ [ratD (subP (invT a (build (invF a) i)) (one0 i) _ / cf a 0)])] = [(Str.ofString "found", (build (invF a) (i + 1)).map ratD)]
      rw [build_map, hl, ← hv]
  · refine And.intro ?_ fun _ => rfl
    show PyData.list ((build (invF a) (rangeD 0 1 _).length).map ratD) = L (build (invF a) a.length)
    rw [rangeD_length, e]
end
end
end Mine
end
section
open PySem PySem.W PyProof.Rows PySem.Calls PySem.SeqAt
set_option maxRecDepth 100000
set_option linter.unusedVariables false
namespace Mine
noncomputable section
section
variable {mg : MG} {w : World} {n : Nat}
theorem tnE {α : Type} {a : List Rat} : (((a.map ratD).length : Int)).toNat = a.length := by rw [List.length_map]; lia
theorem szL {a : List Rat} (h : a.length ≤ 500) : (a.map ratD).length ≤ 1000 := by rw [List.length_map]; lia

theorem succ_of {i : Nat} (h : ((i : Int) == 0) = false) : ∃ j, i = j + 1 := by
  have : i ≠ 0 := by simpa using h
  exact ⟨i - 1, by lia⟩
def expT (a l : List Rat) (s : Nat) : Rat := (nat s * cf a s) * cf l (l.length - s)
def expF (a l : List Rat) : Rat := if l.length = 0 then 1 else addP (expT a l) 0 l.length / nat l.length
def expL (a : List Rat) : List Rat := build (expF a) a.length
def ExpOk (a : List Rat) : Prop := AllF a ∧ (∀ s, s < a.length → Fine (nat s * cf a s)) ∧ RecOk (expF a) (expT a) (fun l => addP (expT a l) 0) a.length
noncomputable def sexpS : Spec := fun ds post => Stop (∃ a : List Rat, ds = [L a] ∧ (a.length ≤ 500 ∧ cf a 0 = 0 ∧ ExpOk a) ∧ post (L (expL a)) .new)
theorem good_sexp (gl : Good mg w (n + 4) (Str.ofString "let") letS) : Good mg w (n + 5) (Str.ofString "sexp") sexpS := by
  refine good_of (n := n + 4) (sp := [(Str.ofString "let", letS), (Str.ofString "radd", raddS), (Str.ofString "rmul", rmulS), (Str.ofString "rdiv", rdivS), (Str.ofString "len", lenS), (Str.ofString "need_begin", needS)]) [Str.ofString "found"] 30 (xs := [Str.ofString "a"]) ⟨rfl, rfl, rfl, rfl, bind1 fun _ _ _ _ => rfl, by decide, rfl⟩ rfl (spc gl (spc (good_radd.more (Nat.le_succ _)) (spc (good_rmul.more (Nat.le_succ _)) (spc (good_rdiv.more (Nat.le_succ _)) (spc good_len (spc ((good_need (n := n)).more (by lia)) sp0)))))) ?_
  rintro ds post ⟨a, rfl, ⟨ha, h0, fa, fn, hB, hR⟩, h⟩
  have h1 := szL ha
  have e := tnE (α := Nat) (a := a)
  refine ⟨rfl, _, .new, h, nofun, fun _ => ⟨_, rfl⟩, Stop.mk ⟨a, 0, rfl, ⟨ha, fine0, fun _ => h0⟩, And.intro rfl (And.intro h1 (And.intro (sm _ h1)
    (Stop.mk ⟨fun i => ([(Str.ofString "a", L a)], [(Str.ofString "found", (build (expF a) i).map ratD)]), ⟨⟨rfl, trivial⟩, rfl, fun _ => rfl, nofun, rangeD_flat _ _ _, fun _ => rangeD_scalar _ _ _⟩, fun i d hd => ?_, ?_⟩)))⟩⟩
  · rw [e] at hd
    obtain ⟨hi, rfl⟩ := range_at hd
    refine And.intro ⟨sm_1, sm1 i (by lia)⟩ (Stop.mk ⟨fun j => ([(Str.ofString "total", ratD (addP (expT a (build (expF a) i)) 0 j)), (Str.ofString "at", .int i), (Str.ofString "a", L a)], [(Str.ofString "found", (build (expF a) i).map ratD)]), ⟨⟨rfl, rfl, rfl, trivial⟩, rfl, fun _ => rfl, nofun, rangeD_flat _ _ _, fun _ => rangeD_scalar _ _ _⟩, fun j d hd => ?_, ?_⟩)
    · obtain ⟨hj, rfl⟩ := range1_at hd
      rw [tn1] at hj
      have hj2 := hR i hi j (by lia)
      have hj3 := hR i hi (j + 1) (by lia)
      simp only [build_length, expT] at hj2 hj3
      refine Stop.mk ⟨_, it_L (i := j + 1) rfl (by lia) (by lia), Stop.mk ⟨nat (j + 1), _, rfl, ⟨(fineN (by lia)).1, fa _, trivial⟩, Stop.mk ⟨_, it_B (i := i - (j + 1)) (by lia) (by lia) (by lia), Stop.mk ⟨_, _, rfl, ⟨fn _ (by lia), fineB hB (by lia), trivial⟩, Stop.mk ⟨_, _, rfl, ⟨hj2.2, hj3.1, trivial⟩, And.intro ⟨congrArg some ?_, rfl, rfl, trivial⟩ rfl⟩⟩⟩⟩⟩
      show ratD _ = ratD (addP _ _ j + (nat (j + 1) * cf a (j + 1)) * cf (build (expF a) i) ((build (expF a) i).length - (j + 1)))
      rw [build_length]
    · have hl : (rangeD 1 1 (((i : Int) + 1 - 1).toNat)).length = i := by rw [rangeD_length, tn1]
      have hi2 := hR i hi i (Nat.le_refl _)
      simp only [build_length] at hi2
      have hv : expF a (build (expF a) i) = if i = 0 then 1 else addP (expT a (build (expF a) i)) 0 i / nat i := by unfold expF; rw [build_length]
      refine Stop.mk ⟨ratD (expF a (build (expF a) i)), .any, fun q => And.intro ?_ (.inl rfl), fun q => ?_, And.intro (szB (by lia)) (And.intro ⟨rfl, trivial⟩ ?_)⟩
      · have : i = 0 := by simpa using q
        rw [hv, if_pos this]
      · obtain ⟨j, rfl⟩ := succ_of q
        rw [if_neg (Nat.succ_ne_zero j)] at hv
        refine Stop.mk ⟨_, nat (j + 1), rfl, ⟨by rw [hl]; exact hi2.2, (fineN (by lia)).1, nat_ne, (fineN (by lia)).2⟩, Stop.mk ⟨_, rfl, by rw [hl, ← hv]; exact hB _ hi, And.intro ?_ (.inl rfl)⟩⟩
        rw [hl, ← hv]
      · show [(Str.ofString "found", (build (expF a) i).map ratD ++ [ratD (expF a (build (expF a) i))])] = [(Str.ofString "found", (build (expF a) (i + 1)).map ratD)]
        rw [build_map]
  · refine And.intro ?_ fun _ => rfl
    show PyData.list ((build (expF a) (rangeD 0 1 _).length).map ratD) = L (build (expF a) a.length)
    rw [rangeD_length, e]

def powT (q : Rat) (a l : List Rat) (s : Nat) : Rat := ((q * nat s - nat (l.length - s)) * cf a s) * cf l (l.length - s)
def powF (q : Rat) (a l : List Rat) : Rat := if l.length = 0 then 1 else addP (powT q a l) 0 l.length / nat l.length
def powL (q : Rat) (a : List Rat) : List Rat := build (powF q a) a.length
def PowOk (q : Rat) (a : List Rat) : Prop := Fine q ∧ AllF a ∧ (∀ k s, s ≤ k → k < a.length → Fine (q * nat s) ∧ Fine (q * nat s - nat (k - s)) ∧ Fine ((q * nat s - nat (k - s)) * cf a s)) ∧ RecOk (powF q a) (powT q a) (fun l => addP (powT q a l) 0) a.length
noncomputable def spowerS : Spec := fun ds post => Stop (∃ (a : List Rat) (q : Rat), ds = [L a, ratD q] ∧ (a.length ≤ 500 ∧ cf a 0 = 1 ∧ PowOk q a) ∧ post (L (powL q a)) .new)
theorem fine1 : Fine 1 := (fineN (i := 1) (by decide)).1
theorem good_spower (gl : Good mg w (n + 4) (Str.ofString "let") letS) : Good mg w (n + 5) (Str.ofString "spower") spowerS := by
  refine good_of (n := n + 4) (sp := [(Str.ofString "let", letS), (Str.ofString "radd", raddS), (Str.ofString "rsub", rsubS), (Str.ofString "rmul", rmulS), (Str.ofString "rdiv", rdivS), (Str.ofString "len", lenS), (Str.ofString "need_begin", needS)]) [Str.ofString "found"] 30 (xs := [Str.ofString "a", Str.ofString "number"]) ⟨rfl, rfl, rfl, rfl, bind2 fun _ _ _ _ _ => rfl, by decide, rfl⟩ rfl (spc gl (spc (good_radd.more (Nat.le_succ _)) (spc (good_rsub.more (Nat.le_succ _)) (spc (good_rmul.more (Nat.le_succ _)) (spc (good_rdiv.more (Nat.le_succ _)) (spc good_len (spc ((good_need (n := n)).more (by lia)) sp0))))))) ?_
  rintro ds post ⟨a, q, rfl, ⟨ha, h0, fq, fa, fn, hB, hR⟩, h⟩
  have h1 := szL ha
  have e := tnE (α := Nat) (a := a)
  refine ⟨rfl, _, .new, h, nofun, fun _ => ⟨_, rfl⟩, Stop.mk ⟨a, 1, rfl, ⟨ha, fine1, fun _ => h0⟩, And.intro rfl (And.intro h1 (And.intro (sm _ h1)
    (Stop.mk ⟨fun i => ([(Str.ofString "a", L a), (Str.ofString "number", ratD q)], [(Str.ofString "found", (build (powF q a) i).map ratD)]), ⟨⟨rfl, rfl, trivial⟩, rfl, fun _ => rfl, nofun, rangeD_flat _ _ _, fun _ => rangeD_scalar _ _ _⟩, fun i d hd => ?_, ?_⟩)))⟩⟩
  · rw [e] at hd
    obtain ⟨hi, rfl⟩ := range_at hd
    refine And.intro ⟨sm_1, sm1 i (by lia)⟩ (Stop.mk ⟨fun j => ([(Str.ofString "total", ratD (addP (powT q a (build (powF q a) i)) 0 j)), (Str.ofString "at", .int i), (Str.ofString "a", L a), (Str.ofString "number", ratD q)], [(Str.ofString "found", (build (powF q a) i).map ratD)]), ⟨⟨rfl, rfl, rfl, rfl, trivial⟩, rfl, fun _ => rfl, nofun, rangeD_flat _ _ _, fun _ => rangeD_scalar _ _ _⟩, fun j d hd => ?_, ?_⟩)
    · obtain ⟨hj, rfl⟩ := range1_at hd
      rw [tn1] at hj
      have hj2 := hR i hi j (by lia)
      have hj3 := hR i hi (j + 1) (by lia)
      obtain ⟨n1, n2, n3⟩ := fn i (j + 1) (by lia) hi
      simp only [build_length, powT] at hj2 hj3
      have es : (i : Int) - ((j + 1 : Nat) : Int) = ((i - (j + 1) : Nat) : Int) := by lia
      refine Stop.mk ⟨q, nat (j + 1), rfl, ⟨fq, (fineN (by lia)).1, trivial⟩, Stop.mk ⟨_, nat (i - (j + 1)), by rw [es]; rfl, ⟨n1, (fineN (by lia)).1, trivial⟩, Stop.mk ⟨_, it_L (i := j + 1) rfl (by lia) (by lia), Stop.mk ⟨_, _, rfl, ⟨n2, fa _, trivial⟩, Stop.mk ⟨_, it_B (i := i - (j + 1)) (by lia) (by lia) (by lia), Stop.mk ⟨_, _, rfl, ⟨n3, fineB hB (by lia), trivial⟩, Stop.mk ⟨_, _, rfl, ⟨hj2.2, hj3.1, trivial⟩, And.intro ⟨congrArg some ?_, rfl, rfl, rfl, trivial⟩ rfl⟩⟩⟩⟩⟩⟩⟩
      show ratD _ = ratD (addP _ _ j + ((q * nat (j + 1) - nat ((build (powF q a) i).length - (j + 1))) * cf a (j + 1)) * cf (build (powF q a) i) ((build (powF q a) i).length - (j + 1)))
      rw [build_length]
    · have hl : (rangeD 1 1 (((i : Int) + 1 - 1).toNat)).length = i := by rw [rangeD_length, tn1]
      have hi2 := hR i hi i (Nat.le_refl _)
      simp only [build_length] at hi2
      have hv : powF q a (build (powF q a) i) = if i = 0 then 1 else addP (powT q a (build (powF q a) i)) 0 i / nat i := by unfold powF; rw [build_length]
      refine Stop.mk ⟨ratD (powF q a (build (powF q a) i)), .any, fun q => And.intro ?_ (.inl rfl), fun q => ?_, And.intro (szB (by lia)) (And.intro ⟨rfl, rfl, trivial⟩ ?_)⟩
      · have : i = 0 := by simpa using q
        rw [hv, if_pos this]
      · obtain ⟨j, rfl⟩ := succ_of q
        rw [if_neg (Nat.succ_ne_zero j)] at hv
        refine Stop.mk ⟨_, nat (j + 1), rfl, ⟨by rw [hl]; exact hi2.2, (fineN (by lia)).1, nat_ne, (fineN (by lia)).2⟩, Stop.mk ⟨_, rfl, by rw [hl, ← hv]; exact hB _ hi, And.intro ?_ (.inl rfl)⟩⟩
        rw [hl, ← hv]
      · show [(Str.ofString "found", (build (powF q a) i).map ratD ++ [ratD (powF q a (build (powF q a) i))])] = [(Str.ofString "found", (build (powF q a) (i + 1)).map ratD)]
        rw [build_map]
  · refine And.intro ?_ fun _ => rfl
    show PyData.list ((build (powF q a) (rangeD 0 1 _).length).map ratD) = L (build (powF q a) a.length)
    rw [rangeD_length, e]

def LogOk (a : List Rat) : Prop := AllF a ∧ InvOk a ∧ MulOk (derL a) (invL a) ∧ AllF (mulL (derL a) (invL a)) ∧ cf a 0 = 1
def logL (a : List Rat) : List Rat := intL (mulL (derL a) (invL a))
noncomputable def slogS : Spec := fun ds post => Stop (∃ a : List Rat, ds = [L a] ∧ (a.length ≤ 400 ∧ 0 < a.length ∧ LogOk a) ∧ post (L (logL a)) .new)
theorem lenMul (a b : List Rat) : (mulL a b).length = min a.length b.length := by simp [mulL]
theorem lenDer (a : List Rat) : (derL a).length = a.length - 1 := by simp [derL]
theorem lenInv (a : List Rat) : (invL a).length = a.length := build_length _ _
theorem good_slog (gl : Good mg w (n + 4) (Str.ofString "let") letS) : Good mg w (n + 6) (Str.ofString "slog") slogS := by
  refine good_of (n := n + 5) (sp := [(Str.ofString "sinverse", sinverseS), (Str.ofString "smul", smulS), (Str.ofString "sderive", sderiveS), (Str.ofString "sintegrate", sintegrateS), (Str.ofString "len", lenS), (Str.ofString "need_begin", needS)]) [] 30 (xs := [Str.ofString "a"]) ⟨rfl, rfl, rfl, rfl, bind1 fun _ _ _ _ => rfl, by decide, rfl⟩ rfl (spc (good_sinverse gl) (spc (good_smul gl) (spc ((good_sderive (n := n)).more (by lia)) (spc ((good_sintegrate (n := n)).more (by lia)) (spc good_len (spc ((good_need (n := n)).more (by lia)) sp0)))))) ?_
  rintro ds post ⟨a, rfl, ⟨ha, hp, fa, hi, hm, hf, h0⟩, h⟩
  have h1 := szL (show a.length ≤ 500 by lia)
  exact ⟨rfl, _, .new, h, nofun, fun _ => ⟨_, rfl⟩, Stop.mk ⟨a, 1, rfl, ⟨by lia, fine1, fun _ => h0⟩, And.intro h1 (And.intro (fun q => absurd (by simpa using q) (Nat.pos_iff_ne_zero.mp hp)) fun _ =>
    Stop.mk ⟨a, rfl, ⟨by lia, fa⟩, Stop.mk ⟨a, rfl, ⟨by lia, hp, by rw [h0]; decide, hi⟩, Stop.mk ⟨_, _, rfl, ⟨by rw [lenDer]; lia, by rw [lenInv]; lia, hm⟩, Stop.mk ⟨_, rfl, ⟨by rw [lenMul, lenDer]; lia, hf⟩, And.intro rfl fun _ => rfl⟩⟩⟩⟩)⟩⟩

def sqL (a : List Rat) : List Rat := (mulL a a).set 0 (cf (mulL a a) 0 + 1)
def AtanOk (a : List Rat) : Prop := MulOk a a ∧ Fine (cf (mulL a a) 0) ∧ InvOk (sqL a) ∧ cf (sqL a) 0 ≠ 0 ∧ MulOk (derL a) (invL (sqL a)) ∧ AllF (mulL (derL a) (invL (sqL a))) ∧ cf a 0 = 0
def atanL (a : List Rat) : List Rat := intL (mulL (derL a) (invL (sqL a)))
noncomputable def satanS : Spec := fun ds post => Stop (∃ a : List Rat, ds = [L a] ∧ (a.length ≤ 400 ∧ 0 < a.length ∧ AtanOk a) ∧ post (L (atanL a)) .new)
theorem lenSq (a : List Rat) : (sqL a).length = a.length := by simp [sqL, lenMul]
theorem good_satan (gl : Good mg w (n + 4) (Str.ofString "let") letS) : Good mg w (n + 6) (Str.ofString "satan") satanS := by
  refine good_of (n := n + 5) (sp := [(Str.ofString "sinverse", sinverseS), (Str.ofString "smul", smulS), (Str.ofString "sderive", sderiveS), (Str.ofString "sintegrate", sintegrateS), (Str.ofString "len", lenS), (Str.ofString "need_begin", needS), (Str.ofString "radd", raddS)]) [Str.ofString "square"] 30 (xs := [Str.ofString "a"]) ⟨rfl, rfl, rfl, rfl, bind1 fun _ _ _ _ => rfl, by decide, rfl⟩ rfl (spc (good_sinverse gl) (spc (good_smul gl) (spc ((good_sderive (n := n)).more (by lia)) (spc ((good_sintegrate (n := n)).more (by lia)) (spc good_len (spc ((good_need (n := n)).more (by lia)) (spc ((good_radd (n := n)).more (by lia)) sp0))))))) ?_
  rintro ds post ⟨a, rfl, ⟨ha, hp, hsq, fsq, hi, hn, hm, hf, h0⟩, h⟩
  have h1 := szL (show a.length ≤ 500 by lia)
  have fa : AllF a := hsq.1
  have hsz : ((mulL a a).map ratD).length = a.length := by rw [List.length_map, lenMul]; lia
  have es : ((mulL a a).map ratD).set 0 (ratD (cf (mulL a a) 0 + 1)) = (sqL a).map ratD := by simp [sqL]
  exact ⟨rfl, _, .new, h, nofun, fun _ => ⟨_, rfl⟩, Stop.mk ⟨a, 0, rfl, ⟨by lia, fine0, fun _ => h0⟩, And.intro h1 (And.intro (fun q => absurd (by simpa using q) (Nat.pos_iff_ne_zero.mp hp)) fun _ =>
    Stop.mk ⟨a, a, rfl, ⟨by lia, by lia, hsq⟩, And.intro (flatL _) (Stop.mk ⟨_, it_L (i := 0) rfl (by rw [lenMul]; lia) (by rw [lenMul]; lia), Stop.mk ⟨_, 1, rfl, ⟨fsq, fine1, trivial⟩, And.intro ⟨by rw [hsz]; exact hp, by rw [hsz]; exact Nat.le_trans (show a.length ≤ 500 by lia) (by decide)⟩
    (Stop.mk ⟨a, rfl, ⟨by lia, fa⟩, Stop.mk ⟨sqL a, congrArg (fun x => [PyData.list x]) es, ⟨by rw [lenSq]; lia, by rw [lenSq]; lia, hn, hi⟩, Stop.mk ⟨_, _, rfl, ⟨by rw [lenDer]; lia, by rw [lenInv, lenSq]; lia, hm⟩, Stop.mk ⟨_, rfl, ⟨by rw [lenMul, lenDer]; lia, hf⟩, And.intro rfl fun _ => rfl⟩⟩⟩⟩)⟩⟩)⟩)⟩⟩
end
end
end Mine
end
section
open PySem PySem.W PyProof.Rows PySem.Calls PySem.SeqAt
set_option maxRecDepth 100000
set_option linter.unusedVariables false
namespace Mine
noncomputable section
section
variable {mg : MG} {w : World} {n : Nat}
def compM (b : List Rat) (o : Nat) (l : List Rat) : List Rat := mulL l (b.take o)
noncomputable def compP (a b : List Rat) (o : Nat) : Nat → List Rat
  | 0 => cutL [] o
  | j + 1 => (compM b o (compP a b o j)).set 0 (cf (compM b o (compP a b o j)) 0 + cf a (o - 1 - j))
def compL (a b : List Rat) : List Rat := compP a b (min a.length b.length) (min a.length b.length)
theorem lenComp (a b : List Rat) (o : Nat) (h : o ≤ b.length) : ∀ j, (compP a b o j).length = o
  | 0 => by simp [compP, cutL]
  | j + 1 => by simp [compP, compM, lenMul, lenComp a b o h j]; lia
def CompOk (a b : List Rat) : Prop := AllF a ∧ cf b 0 = 0 ∧ ∀ j, j < min a.length b.length → MulOk (compP a b (min a.length b.length) j) (b.take (min a.length b.length)) ∧ Fine (cf (compM b (min a.length b.length) (compP a b (min a.length b.length) j)) 0)
noncomputable def scomposeS : Spec := fun ds post => Stop (∃ a b : List Rat, ds = [L a, L b] ∧ (a.length ≤ 400 ∧ b.length ≤ 400 ∧ 0 < a.length ∧ 0 < b.length ∧ CompOk a b) ∧ post (L (compL a b)) .new)
theorem down_at {n i : Nat} {a : Int} {d : PyData} (h : (rangeD a (-1) n)[i]? = some d) : i < n ∧ d = .int (a - i) := by
  obtain ⟨h1, h2⟩ := rangeD_get h
  exact ⟨h1, by rw [h2]; congr 1; lia⟩
theorem good_scompose (gl : Good mg w (n + 4) (Str.ofString "let") letS) : Good mg w (n + 6) (Str.ofString "scompose") scomposeS := by
  refine good_of (n := n + 5) (sp := [(Str.ofString "smul", smulS), (Str.ofString "radd", raddS), (Str.ofString "cut", cutS), (Str.ofString "len", lenS), (Str.ofString "min", minS), (Str.ofString "need_begin", needS)]) [Str.ofString "found"] 30 (xs := [Str.ofString "a", Str.ofString "b"]) ⟨rfl, rfl, rfl, rfl, bind2 fun _ _ _ _ _ => rfl, by decide, rfl⟩ rfl (spc (good_smul gl) (spc ((good_radd (n := n)).more (by lia)) (spc ((good_cut (n := n)).more (by lia)) (spc good_len (spc good_min (spc ((good_need (n := n)).more (by lia)) sp0)))))) ?_
  rintro ds post ⟨a, b, rfl, ⟨ha, hb, hpa, hpb, fa, h0, hj⟩, h⟩
  have h1 := szL (show a.length ≤ 500 by lia)
  have h2 := szL (show b.length ≤ 500 by lia)
  generalize ho : min a.length b.length = o at hj
  have hoa : o ≤ a.length := by lia
  have hob : o ≤ b.length := by lia
  have hop : 0 < o := by lia
  have e : (if ((b.map ratD).length : Int) < ((a.map ratD).length : Int) then ((b.map ratD).length : Int) else ((a.map ratD).length : Int)) = ((o : Nat) : Int) := by
    rw [List.length_map, List.length_map]; split <;> lia
  have hn : ((o : Int) - 1 - -1).toNat = o := by lia
  refine ⟨rfl, _, .new, h, nofun, fun _ => ⟨_, rfl⟩, Stop.mk ⟨b, 0, rfl, ⟨by lia, fine0, fun _ => h0⟩, And.intro h1 (And.intro h2 (Stop.mk ⟨_, e.symm, ?_⟩))⟩⟩
  refine Stop.mk ⟨[], o, rfl, ⟨by decide, by lia⟩, And.intro (flatL _) (And.intro ⟨⟨by lia, by lia⟩, ⟨by decide, by decide⟩⟩
    (Stop.mk ⟨fun i => ([(Str.ofString "order", .int o), (Str.ofString "a", L a), (Str.ofString "b", L b)], [(Str.ofString "found", (compP a b o i).map ratD)]), ⟨⟨rfl, rfl, rfl, trivial⟩, rfl, fun _ => rfl, nofun, ?_, fun _ => ?_⟩, fun i d hd => ?_, ?_⟩))⟩
  · exact rangeD_flat _ _ _
  · exact rangeD_scalar _ _ _
  · obtain ⟨hi, rfl⟩ := down_at hd
    rw [hn] at hi
    have hlen := lenComp a b o hob i
    obtain ⟨hm, hf⟩ := hj i hi
    have hlm : (compM b o (compP a b o i)).length = o := by unfold compM; rw [lenMul, hlen, List.length_take]; lia
    have hsz : ((compM b o (compP a b o i)).map ratD).length = o := by rw [List.length_map, hlm]
    have ei : (o : Int) - 1 - (i : Int) = ((o - 1 - i : Nat) : Int) := by lia
    refine And.intro (Nat.le_trans h2 (by decide)) (Stop.mk (Or.inl (And.intro (by lia) (Stop.mk ⟨compP a b o i, b.take o, ?_, ⟨by lia, by rw [List.length_take]; lia, hm⟩, And.intro (flatL _) (Stop.mk ⟨_, it_L (i := 0) rfl (by show 0 < (compM b o (compP a b o i)).length; lia) (by show (compM b o (compP a b o i)).length ≤ 1000; lia), Stop.mk ⟨_, it_L (i := o - 1 - i) ei (by lia) (by lia), Stop.mk ⟨_, _, rfl, ⟨hf, fa _, trivial⟩, And.intro ⟨?_, ?_⟩ (And.intro ⟨rfl, rfl, rfl, trivial⟩ ?_)⟩⟩⟩)⟩))))
    · show [PyData.list _, PyData.list ((b.map ratD).take ((o : Int)).toNat)] = [L _, L _]
      rw [show ((o : Int)).toNat = o by lia, ← List.map_take]
    · show 0 < ((compM b o (compP a b o i)).map ratD).length
      lia
    · show ((compM b o (compP a b o i)).map ratD).length ≤ _
      rw [hsz]; exact Nat.le_trans (show o ≤ 1000 by lia) (by decide)
    · show [(Str.ofString "found", ((compM b o (compP a b o i)).map ratD).set 0 (ratD (cf (compM b o (compP a b o i)) 0 + cf a (o - 1 - i))))] = [(Str.ofString "found", (compP a b o (i + 1)).map ratD)]
      rw [← List.map_set]; rfl
  · refine And.intro ?_ fun _ => rfl
    show PyData.list ((compP a b o (rangeD _ (-1) _).length).map ratD) = L (compL a b)
    rw [rangeD_length, hn]
    unfold compL
    rw [ho]
end
end
end Mine
end
section
open PySem PySem.W PyProof.Rows PySem.Calls PySem.SeqAt
set_option maxRecDepth 100000
set_option linter.unusedVariables false
namespace Mine
noncomputable section
section
variable {mg : MG} {w : World} {n : Nat}
theorem lt2 : (2 : Int).natAbs < 2 ^ 9000 := Nat.lt_of_lt_of_le (show 2 < 2 ^ 2 by decide) (two_le (by decide))
noncomputable def wpow : Nat → Nat → List Rat → List Rat → List Rat
  | 0, _, f, _ => f
  | u + 1, k, f, b => if k = 0 then f else wpow u (k / 2) (if k % 2 = 1 then mulL f b else f) (if k / 2 > 0 then mulL b b else b)
noncomputable def WOk : Nat → Nat → List Rat → List Rat → Prop
  | 0, k, _, _ => k = 0
  | u + 1, k, f, b => k = 0 ∨ ((k % 2 = 1 → MulOk f b) ∧ (k / 2 > 0 → MulOk b b) ∧ WOk u (k / 2) (if k % 2 = 1 then mulL f b else f) (if k / 2 > 0 then mulL b b else b))
noncomputable def swholeS : Spec := fun ds post => Stop (∃ (a b : List Rat) (m : Int), ds = [L a, .int m] ∧ ((m < 0 → b = invL a ∧ 0 < a.length ∧ cf a 0 ≠ 0 ∧ InvOk a) ∧ (¬ m < 0 → b = a) ∧ a.length ≤ 400 ∧ m.natAbs < 16 ∧ WOk 5 m.natAbs (cutL [1] a.length) b) ∧ post (L (wpow 5 m.natAbs (cutL [1] a.length) b)) .any)
theorem good_swhole (gl : Good mg w (n + 4) (Str.ofString "let") letS) : Good mg w (n + 6) (Str.ofString "swhole_power") swholeS := by
  refine good_of (n := n + 5) (sp := [(Str.ofString "sinverse", sinverseS), (Str.ofString "smul", smulS), (Str.ofString "cut", cutS), (Str.ofString "len", lenS), (Str.ofString "abs", absS)]) [] 30 (xs := [Str.ofString "a", Str.ofString "many"]) ⟨rfl, rfl, rfl, rfl, bind2 fun _ _ _ _ _ => rfl, by decide, rfl⟩ rfl (spc (good_sinverse gl) (spc (good_smul gl) (spc ((good_cut (n := n)).more (by lia)) (spc good_len (spc good_abs sp0))))) ?_
  rintro ds post ⟨a, b, m, rfl, ⟨h1, h2, ha, hm, hw⟩, h⟩
  have hl := szL (show a.length ≤ 500 by lia)
  refine ⟨rfl, _, .any, h, nofun, nofun, Stop.mk ⟨L b, .any, fun q => ?_, fun q => ?_, ?_⟩⟩
  · obtain ⟨rfl, hp, h0, hi⟩ := h1 (of_decide_eq_true q)
    exact Stop.mk ⟨a, rfl, ⟨by lia, hp, h0, hi⟩, And.intro rfl (.inl rfl)⟩
  · rw [h2 (of_decide_eq_false q)]
    exact And.intro rfl (.inl rfl)
  · have hlb : b.length ≤ 400 := by
      by_cases q : m < 0
      · rw [(h1 q).1, lenInv]; exact ha
      · rw [h2 q]; exact ha
    refine And.intro hl (Stop.mk ⟨[1], a.length, by rw [← List.length_map (f := ratD)]; rfl, ⟨by decide, by lia⟩, ?_⟩)
    refine Stop.mk ⟨fun k ρ ω => ω = [] ∧ ∃ (f b' : List Rat) (u : Nat), ρ = [(Str.ofString "found", L f), (Str.ofString "base", L b'), (Str.ofString "left", .int k)] ∧ f.length ≤ 400 ∧ b'.length ≤ 400 ∧ WOk u k f b' ∧ wpow u k f b' = wpow 5 m.natAbs (cutL [1] a.length) b, m.natAbs,
      ⟨[(Str.ofString "found", L (cutL [1] a.length)), (Str.ofString "base", L b), (Str.ofString "left", .int m.natAbs)], ⟨rfl, rfl, rfl, trivial⟩, rfl, _, _, 5, rfl, ?_, hlb, hw, rfl⟩, ?_⟩
    · simp [cutL]; lia
    · rintro k ρ ω ⟨rfl, f, b', u, rfl, hf, hb', hW, hE⟩
      refine And.intro (fun q => ?_) fun q => ?_
      · have hk : k ≠ 0 := by
          have := of_decide_eq_true q
          lia
        cases u with
        | zero => exact absurd hW hk
        | succ u =>
          rcases hW with hW | ⟨w1, w2, hW⟩
          · exact absurd hW hk
          · have e2 : (k : Int).fmod 2 = ((k % 2 : Nat) : Int) := by rw [Int.fmod_eq_emod_of_nonneg _ (by decide)]; lia
            have e3 : (k : Int).fdiv 2 = ((k / 2 : Nat) : Int) := by rw [Int.fdiv_eq_ediv_of_nonneg _ (by decide)]; lia
            have hE' : wpow u (k / 2) (if k % 2 = 1 then mulL f b' else f) (if k / 2 > 0 then mulL b' b' else b') = wpow 5 m.natAbs (cutL [1] a.length) b := by
              rw [← hE]
              show _ = if k = 0 then f else _
              rw [if_neg hk]
            have hbl : (if k / 2 > 0 then mulL b' b' else b').length ≤ 400 := by split <;> (try rw [lenMul]) <;> lia
            refine And.intro (by decide) (And.intro (fun q1 => ?_) (fun q1 => ?_))
            · have ho : k % 2 = 1 := by rw [e2] at q1; have := beq_iff_eq.mp q1; lia
              rw [if_pos ho] at hW hE'
              refine Stop.mk ⟨f, b', rfl, ⟨by lia, by lia, w1 ho⟩, And.intro ⟨by decide, lt2⟩ ?_⟩
              refine Stop.mk ⟨L (if k / 2 > 0 then mulL b' b' else b'), .any, fun q2 => ?_, fun q2 => ?_, Stop.mk ⟨k / 2, by lia, [(Str.ofString "found", L (mulL f b')), (Str.ofString "base", L (if k / 2 > 0 then mulL b' b' else b')), (Str.ofString "left", .int (k / 2 : Nat))], ⟨rfl, rfl, congrArg some (by rw [e3]), trivial⟩, rfl, _, _, u, rfl, (by rw [lenMul]; lia), hbl, hW, hE'⟩⟩
              · have h : k / 2 > 0 := by rw [e3] at q2; have := of_decide_eq_true q2; lia
                exact Stop.mk ⟨b', b', rfl, ⟨by lia, by lia, w2 h⟩, And.intro (by rw [if_pos h]) (.inl rfl)⟩
              · have h : ¬ k / 2 > 0 := by rw [e3] at q2; have := of_decide_eq_false q2; lia
                exact And.intro (by rw [if_neg h]) (.inl rfl)
            · have ho : ¬ k % 2 = 1 := by rw [e2] at q1; have := beq_eq_false_iff_ne.mp q1; lia
              rw [if_neg ho] at hW hE'
              refine And.intro ⟨by decide, lt2⟩ ?_
              refine Stop.mk ⟨L (if k / 2 > 0 then mulL b' b' else b'), .any, fun q2 => ?_, fun q2 => ?_, Stop.mk ⟨k / 2, by lia, [(Str.ofString "found", L f), (Str.ofString "base", L (if k / 2 > 0 then mulL b' b' else b')), (Str.ofString "left", .int (k / 2 : Nat))], ⟨rfl, rfl, congrArg some (by rw [e3]), trivial⟩, rfl, _, _, u, rfl, hf, hbl, hW, hE'⟩⟩
              · have h : k / 2 > 0 := by rw [e3] at q2; have := of_decide_eq_true q2; lia
                exact Stop.mk ⟨b', b', rfl, ⟨by lia, by lia, w2 h⟩, And.intro (by rw [if_pos h]) (.inl rfl)⟩
              · have h : ¬ k / 2 > 0 := by rw [e3] at q2; have := of_decide_eq_false q2; lia
                exact And.intro (by rw [if_neg h]) (.inl rfl)
      · have hk : k = 0 := by
          have := of_decide_eq_false q
          lia
        subst hk
        refine And.intro ?_ nofun
        have : wpow u 0 f b' = f := by cases u <;> rfl
        rw [this] at hE
        rw [hE]
end
end
end Mine
end
section
open PySem PySem.W PyProof.Rows PySem.Calls PySem.SeqAt
set_option maxRecDepth 100000
set_option linter.unusedVariables false
namespace Mine
noncomputable section
section
variable {mg : MG} {w : World} {n : Nat}
def bT (N : Nat) : Nat → Nat
  | 0 => 0
  | 1 => 4096 * (N.log2 / 4096)
  | 2 => 64 * (N.log2 / 64)
  | _ => N.log2
def bM : Nat → Nat
  | 0 => 4096
  | 1 => 64
  | _ => 1
noncomputable def bitsS : Spec := fun ds post => Stop (∃ N : Nat, ds = [.int N] ∧ N < 2 ^ 200000 ∧ ∀ r : Int, r ≤ 200000 → post (.int r) .any)
theorem bM_at {i : Nat} {d : PyData} (h : ([.int 4096, .int 64, .int 1] : List PyData)[i]? = some d) : i < 3 ∧ d = .int (bM i) := by
  match i, h with
  | 0, h => cases h; exact ⟨by decide, rfl⟩
  | 1, h => cases h; exact ⟨by decide, rfl⟩
  | 2, h => cases h; exact ⟨by decide, rfl⟩
theorem bT_next {N i : Nat} (h : i < 3) : bM i ∣ bT N i ∧ bT N i ≤ bM i * (N.log2 / bM i) ∧ bM i * (N.log2 / bM i) = bT N (i + 1) ∧ 0 < bM i ∧ bM i ≤ 4096 := by
  match i, h with
  | 0, _ => exact ⟨⟨0, rfl⟩, Nat.zero_le _, rfl, by decide, by decide⟩
  | 1, _ =>
    refine ⟨⟨64 * (N.log2 / 4096), ?_⟩, ?_, rfl, by decide, by decide⟩
    · show 4096 * (N.log2 / 4096) = 64 * (64 * (N.log2 / 4096)); lia
    · show 4096 * (N.log2 / 4096) ≤ 64 * (N.log2 / 64); lia
  | 2, _ =>
    refine ⟨⟨_, (Nat.one_mul _).symm⟩, ?_, ?_, by decide, by decide⟩
    · show 64 * (N.log2 / 64) ≤ 1 * (N.log2 / 1); lia
    · show 1 * (N.log2 / 1) = N.log2; lia
theorem bits_le {N : Nat} (hN : N < 2 ^ 200000) : ((N.log2 : Int) + (N / 2 ^ N.log2 : Nat)) ≤ 200000 := by
  by_cases h : N = 0
  · subst h; decide
  · have h1 : N.log2 < 200000 := (Nat.log2_lt h).mpr hN
    have h2 : N < 2 ^ (N.log2 + 1) := (Nat.log2_lt h).mp (Nat.lt_succ_self _)
    have h3 : N / 2 ^ N.log2 < 2 := (Nat.div_lt_iff_lt_mul (Nat.pow_pos (by decide))).mpr (by rw [Nat.mul_comm, ← Nat.pow_succ]; exact h2)
    lia
theorem good_bits : Good mg w (n + 1) (Str.ofString "bits_of") bitsS := by
  refine good_of (sp := []) [] 30 (xs := [Str.ofString "n"]) ⟨rfl, rfl, rfl, rfl, bind1 fun _ _ _ _ => rfl, by decide, rfl⟩ rfl sp0 ?_
  rintro ds post ⟨N, rfl, hN, h⟩
  refine ⟨rfl, _, .any, h (N.log2 + (N / 2 ^ N.log2 : Nat)) ?_, nofun, nofun, Stop.mk ⟨fun i => ([(Str.ofString "n", .int (N / 2 ^ bT N i : Nat)), (Str.ofString "found", .int (bT N i))], []), ⟨⟨?_, rfl, trivial⟩, rfl, fun _ => rfl, fun _ _ => rfl, rfl, nofun⟩, fun i d hd => ?_, And.intro rfl nofun⟩⟩
  · exact bits_le hN
  · simp [bT]; rfl
  · obtain ⟨hi, rfl⟩ := bM_at hd
    obtain ⟨b1, b2, b3, b4, b5⟩ := bT_next (N := N) hi
    refine And.intro ⟨by lia, ?_⟩ (Stop.mk ⟨fun k ρ ω => ω = [] ∧ ∃ t : Nat, ρ = [(Str.ofString "n", .int (N / 2 ^ t : Nat)), (Str.ofString "found", .int t), (Str.ofString "many", .int (bM i)), (Str.ofString "step", .int (2 ^ bM i : Nat))] ∧ bM i ∣ t ∧ t ≤ bM i * (N.log2 / bM i) ∧ k = N.log2 - t, N.log2 - bT N i,
      ⟨[(Str.ofString "n", .int (N / 2 ^ bT N i : Nat)), (Str.ofString "found", .int (bT N i)), (Str.ofString "many", .int (bM i)), (Str.ofString "step", .int (2 ^ bM i : Nat))], ⟨rfl, rfl, rfl, ?_, trivial⟩, rfl, bT N i, rfl, b1, b2, rfl⟩, ?_⟩)
    · rw [show Builtin.Int.intBits 2 = 2 by decide]; lia
    · refine congrArg some (congrArg PyData.int ?_)
      rw [Int.toNat_natCast, Int.natCast_pow]; rfl
    · rintro k ρ ω ⟨rfl, t, rfl, t1, t2, rfl⟩
      refine And.intro (fun q => ?_) fun q => ?_
      · have hge : 2 ^ bM i ≤ N / 2 ^ t := by have := of_decide_eq_true q; lia
        have hN0 : N ≠ 0 := fun e => by
          rw [e, Nat.zero_div] at hge
          have := Nat.pow_pos (n := bM i) (show 0 < 2 by decide); lia
        have hlg : t + bM i ≤ N.log2 := by
          rw [Nat.le_log2 hN0, Nat.pow_add, Nat.mul_comm]
          exact (Nat.le_div_iff_mul_le (Nat.pow_pos (by decide))).mp hge
        refine And.intro ⟨?_, ?_⟩ (Stop.mk ⟨N.log2 - (t + bM i), by lia, [(Str.ofString "n", .int (N / 2 ^ (t + bM i) : Nat)), (Str.ofString "found", .int (t + bM i : Nat)), (Str.ofString "many", .int (bM i)), (Str.ofString "step", .int (2 ^ bM i : Nat))], ⟨congrArg some (congrArg PyData.int ?_), rfl, rfl, rfl, trivial⟩, rfl, t + bM i, rfl, ?_, ?_, rfl⟩)
        · exact fun e => Nat.ne_of_gt (Nat.pow_pos (n := bM i) (show 0 < 2 by decide)) (Int.ofNat_eq_zero.mp e)
        · rw [Int.natAbs_natCast]; exact Nat.lt_of_lt_of_le (Nat.pow_lt_pow_right (by decide) (show bM i < 4097 by lia)) (two_le (by decide))
        · rw [Int.fdiv_eq_ediv_of_nonneg _ (Int.natCast_nonneg _), ← Int.natCast_ediv, Nat.div_div_eq_div_mul, ← Nat.pow_add]
        · exact Nat.dvd_add t1 (Nat.dvd_refl _)
        · obtain ⟨c, rfl⟩ := t1
          have : bM i * (c + 1) ≤ N.log2 := by rw [Nat.mul_add, Nat.mul_one]; exact hlg
          have h2 : c + 1 ≤ N.log2 / bM i := (Nat.le_div_iff_mul_le b4).mpr (by rw [Nat.mul_comm]; exact this)
          have := Nat.mul_le_mul_left (bM i) h2
          rw [Nat.mul_add, Nat.mul_one] at this
          exact this
      · have hlt : ¬ 2 ^ bM i ≤ N / 2 ^ t := by have := of_decide_eq_false q; lia
        have ht : t = bT N (i + 1) := by
          rw [← b3]
          by_cases hN0 : N = 0
          · subst hN0
            rw [show Nat.log2 0 = 0 by decide, Nat.zero_div] at t2 ⊢
            lia
          · have hlg : ¬ t + bM i ≤ N.log2 := fun h => hlt (by
              rw [Nat.le_log2 hN0, Nat.pow_add, Nat.mul_comm] at h
              exact (Nat.le_div_iff_mul_le (Nat.pow_pos (by decide))).mpr h)
            obtain ⟨c, rfl⟩ := t1
            have h1 : c ≤ N.log2 / bM i := Nat.le_of_mul_le_mul_left t2 b4
            have h2 : N.log2 / bM i < c + 1 := (Nat.div_lt_iff_lt_mul b4).mpr (by rw [Nat.mul_comm, Nat.mul_add, Nat.mul_one]; lia)
            have : c = N.log2 / bM i := by lia
            rw [← this]
        refine And.intro ⟨congrArg some ?_, congrArg some ?_, trivial⟩ rfl
        · show PyData.int ((N / 2 ^ t : Nat) : Int) = PyData.int ((N / 2 ^ bT N (i + 1) : Nat) : Int)
          rw [ht]
        · show PyData.int (t : Int) = PyData.int (bT N (i + 1) : Int)
          rw [ht]
theorem good_vast : Good mg w (n + 2) (Str.ofString "is_vast") vastS := by
  refine good_of (sp := [(Str.ofString "abs", absS), (Str.ofString "max", maxS), (Str.ofString "bits_of", bitsS)]) [] 30 (xs := [Str.ofString "a"]) ⟨rfl, rfl, rfl, rfl, bind1 fun _ _ _ _ => rfl, by decide, rfl⟩ rfl (spc good_abs (spc good_max (spc good_bits sp0))) ?_
  rintro ds post ⟨q, rfl, hq, h⟩
  have e : (if (q.den : Int) > (q.num.natAbs : Int) then (q.den : Int) else (q.num.natAbs : Int)) = ((max q.num.natAbs q.den : Nat) : Int) := by split <;> lia
  have hm : max q.num.natAbs q.den < 2 ^ 200000 := by
    have h1 := Nat.lt_of_lt_of_le hq.1 (two_le (show 100000 ≤ 200000 by decide))
    have h2 := Nat.lt_of_lt_of_le hq.2 (two_le (show 4000 ≤ 200000 by decide))
    exact Nat.max_lt.mpr ⟨h1, h2⟩
  refine ⟨rfl, _, .any, h, nofun, nofun, And.intro ⟨by decide, by decide⟩ (And.intro (fun _ => And.intro rfl nofun) fun _ => Stop.mk ⟨max q.num.natAbs q.den, congrArg (fun x => [PyData.int x]) e, hm, fun r hr => And.intro ?_ nofun⟩)⟩
  rw [show decide (r > 200000) = false from decide_eq_false (by lia)]
end
end
end Mine
end
section
open PySem PySem.W PyProof.Rows PySem.Calls PySem.SeqAt
set_option maxRecDepth 100000
set_option linter.unusedVariables false
namespace Mine
noncomputable section
section
variable {mg : MG} {w : World} {n : Nat}
def trT (a l : List Rat) (k s : Nat) : Rat := (nat s * cf a s) * cf l (k - s)
def sinV (a c : List Rat) (k : Nat) : Rat := if k = 0 then 0 else addP (trT a c k) 0 k / nat k
def cosV (a s : List Rat) (k : Nat) : Rat := if k = 0 then 1 else subP (trT a s k) 0 k / nat k
noncomputable def trig (a : List Rat) : Nat → List Rat × List Rat
  | 0 => ([], [])
  | k + 1 => ((trig a k).1 ++ [sinV a (trig a k).2 k], (trig a k).2 ++ [cosV a (trig a k).1 k])
theorem lenTrig (a : List Rat) : ∀ k, (trig a k).1.length = k ∧ (trig a k).2.length = k
  | 0 => ⟨rfl, rfl⟩
  | k + 1 => by simp [trig, lenTrig a k]
def TrigOk (a : List Rat) : Prop := AllF a ∧ (∀ s, s < a.length → Fine (nat s * cf a s)) ∧ ∀ k, k < a.length → AllF (trig a k).1 ∧ AllF (trig a k).2 ∧ Fine (sinV a (trig a k).2 k) ∧ Fine (cosV a (trig a k).1 k) ∧
  ∀ j, j ≤ k → Fine (trT a (trig a k).2 k j) ∧ Fine (trT a (trig a k).1 k j) ∧ Fine (addP (trT a (trig a k).2 k) 0 j) ∧ Fine (subP (trT a (trig a k).1 k) 0 j)
noncomputable def trigS : Spec := fun ds post => Stop (∃ a : List Rat, ds = [L a] ∧ (a.length ≤ 500 ∧ cf a 0 = 0 ∧ TrigOk a) ∧ post (.tuple [L (trig a a.length).1, L (trig a a.length).2]) .any)
theorem good_trig (gl : Good mg w (n + 4) (Str.ofString "let") letS) : Good mg w (n + 5) (Str.ofString "ssin_cos") trigS := by
  refine good_of (n := n + 4) (sp := [(Str.ofString "let", letS), (Str.ofString "radd", raddS), (Str.ofString "rsub", rsubS), (Str.ofString "rmul", rmulS), (Str.ofString "rdiv", rdivS), (Str.ofString "len", lenS), (Str.ofString "need_begin", needS)]) [Str.ofString "sines", Str.ofString "others"] 30 (xs := [Str.ofString "a"]) ⟨rfl, rfl, rfl, rfl, bind1 fun _ _ _ _ => rfl, by decide, rfl⟩ rfl (spc gl (spc (good_radd.more (Nat.le_succ _)) (spc (good_rsub.more (Nat.le_succ _)) (spc (good_rmul.more (Nat.le_succ _)) (spc (good_rdiv.more (Nat.le_succ _)) (spc good_len (spc ((good_need (n := n)).more (by lia)) sp0))))))) ?_
  rintro ds post ⟨a, rfl, ⟨ha, h0, fa, fn, hT⟩, h⟩
  have h1 := szL ha
  have e := tnE (α := Nat) (a := a)
  refine ⟨rfl, _, .any, h, nofun, nofun, Stop.mk ⟨a, 0, rfl, ⟨ha, fine0, fun _ => h0⟩, And.intro rfl (And.intro rfl (And.intro h1 (And.intro (sm _ h1)
    (Stop.mk ⟨fun i => ([(Str.ofString "a", L a)], [(Str.ofString "sines", (trig a i).1.map ratD), (Str.ofString "others", (trig a i).2.map ratD)]), ⟨⟨rfl, trivial⟩, rfl, fun _ => rfl, nofun, rangeD_flat _ _ _, fun _ => rangeD_scalar _ _ _⟩, fun i d hd => ?_, ?_⟩))))⟩⟩
  · rw [e] at hd
    obtain ⟨hi, rfl⟩ := range_at hd
    obtain ⟨hs, ho, fs, fc, hj⟩ := hT i hi
    have ls := (lenTrig a i).1
    have lo := (lenTrig a i).2
    refine And.intro ⟨sm_1, sm1 i (by lia)⟩ (Stop.mk ⟨fun j => ([(Str.ofString "one", ratD (addP (trT a (trig a i).2 i) 0 j)), (Str.ofString "other", ratD (subP (trT a (trig a i).1 i) 0 j)), (Str.ofString "at", .int i), (Str.ofString "a", L a)], [(Str.ofString "sines", (trig a i).1.map ratD), (Str.ofString "others", (trig a i).2.map ratD)]), ⟨⟨rfl, rfl, rfl, rfl, trivial⟩, rfl, fun _ => rfl, nofun, rangeD_flat _ _ _, fun _ => rangeD_scalar _ _ _⟩, fun j d hd => ?_, ?_⟩)
    · obtain ⟨hj0, rfl⟩ := range1_at hd
      rw [tn1] at hj0
      have q := hj j (by lia)
      have q' := hj (j + 1) (by lia)
      refine Stop.mk ⟨_, it_L (i := j + 1) rfl (by lia) (by lia), Stop.mk ⟨nat (j + 1), _, rfl, ⟨(fineN (by lia)).1, fa _, trivial⟩,
        Stop.mk ⟨_, it_L (i := i - (j + 1)) (by lia) (by lia) (by lia), Stop.mk ⟨_, _, rfl, ⟨fn _ (by lia), ho _, trivial⟩, Stop.mk ⟨_, _, rfl, ⟨q.2.2.1, q'.1, trivial⟩,
        Stop.mk ⟨_, it_L (i := i - (j + 1)) (by lia) (by lia) (by lia), Stop.mk ⟨_, _, rfl, ⟨fn _ (by lia), hs _, trivial⟩, Stop.mk ⟨_, _, rfl, ⟨q.2.2.2, q'.2.1, trivial⟩, And.intro ⟨rfl, rfl, rfl, rfl, trivial⟩ rfl⟩⟩⟩⟩⟩⟩⟩⟩
    · have hl : (rangeD 1 1 (((i : Int) + 1 - 1).toNat)).length = i := by rw [rangeD_length, tn1]
      have q := hj i (Nat.le_refl _)
      refine Stop.mk ⟨ratD (sinV a (trig a i).2 i), .any, fun q => And.intro ?_ (.inl rfl), fun q0 => ?_, And.intro (by rw [List.length_map, ls]; exact Nat.le_trans (show i ≤ 1000 by lia) (by decide)) ?_⟩
      · have : i = 0 := by simpa using q
        unfold sinV; rw [if_pos this]
      · obtain ⟨j, rfl⟩ := succ_of q0
        have hv : sinV a (trig a (j + 1)).2 (j + 1) = addP (trT a (trig a (j + 1)).2 (j + 1)) 0 (j + 1) / nat (j + 1) := if_neg (Nat.succ_ne_zero j)
        refine Stop.mk ⟨_, nat (j + 1), rfl, ⟨by rw [hl]; exact q.2.2.1, (fineN (by lia)).1, nat_ne, (fineN (by lia)).2⟩, Stop.mk ⟨_, rfl, by rw [hl, ← hv]; exact fs, And.intro ?_ (.inl rfl)⟩⟩
        rw [hl, ← hv]
      · refine Stop.mk ⟨ratD (cosV a (trig a i).1 i), .any, fun q => And.intro ?_ (.inl rfl), fun q0 => ?_, And.intro (by rw [List.length_map, lo]; exact Nat.le_trans (show i ≤ 1000 by lia) (by decide)) (And.intro ⟨rfl, trivial⟩ ?_)⟩
        · have : i = 0 := by simpa using q
          unfold cosV; rw [if_pos this]
        · obtain ⟨j, rfl⟩ := succ_of q0
          have hv : cosV a (trig a (j + 1)).1 (j + 1) = subP (trT a (trig a (j + 1)).1 (j + 1)) 0 (j + 1) / nat (j + 1) := if_neg (Nat.succ_ne_zero j)
          refine Stop.mk ⟨_, nat (j + 1), rfl, ⟨by rw [hl]; exact q.2.2.2, (fineN (by lia)).1, nat_ne, (fineN (by lia)).2⟩, Stop.mk ⟨_, rfl, by rw [hl, ← hv]; exact fc, And.intro ?_ (.inl rfl)⟩⟩
          rw [hl, ← hv]
        · show [(Str.ofString "sines", (trig a i).1.map ratD ++ [ratD (sinV a (trig a i).2 i)]), (Str.ofString "others", (trig a i).2.map ratD ++ [ratD (cosV a (trig a i).1 i)])] = [(Str.ofString "sines", (trig a (i + 1)).1.map ratD), (Str.ofString "others", (trig a (i + 1)).2.map ratD)]
          simp [trig]
  · refine And.intro ?_ nofun
    show PyData.tuple [.list ((trig a (rangeD 0 1 _).length).1.map ratD), .list ((trig a (rangeD 0 1 _).length).2.map ratD)] = _
    rw [rangeD_length, e]
noncomputable def ssinS : Spec := fun ds post => Stop (∃ a : List Rat, ds = [L a] ∧ (a.length ≤ 500 ∧ cf a 0 = 0 ∧ TrigOk a) ∧ post (L (trig a a.length).1) .any)
noncomputable def scosS : Spec := fun ds post => Stop (∃ a : List Rat, ds = [L a] ∧ (a.length ≤ 500 ∧ cf a 0 = 0 ∧ TrigOk a) ∧ post (L (trig a a.length).2) .any)
theorem good_ssin (gl : Good mg w (n + 4) (Str.ofString "let") letS) : Good mg w (n + 6) (Str.ofString "ssin") ssinS := by
  refine good_of (n := n + 5) (sp := [(Str.ofString "ssin_cos", trigS)]) [] 30 (xs := [Str.ofString "a"]) ⟨rfl, rfl, rfl, rfl, bind1 fun _ _ _ _ => rfl, by decide, rfl⟩ rfl (spc (good_trig gl) sp0) ?_
  rintro ds post ⟨a, rfl, ha, h⟩
  exact ⟨rfl, _, .any, h, nofun, nofun, Stop.mk ⟨a, rfl, ha, And.intro rfl nofun⟩⟩
theorem good_scos (gl : Good mg w (n + 4) (Str.ofString "let") letS) : Good mg w (n + 6) (Str.ofString "scos") scosS := by
  refine good_of (n := n + 5) (sp := [(Str.ofString "ssin_cos", trigS)]) [] 30 (xs := [Str.ofString "a"]) ⟨rfl, rfl, rfl, rfl, bind1 fun _ _ _ _ => rfl, by decide, rfl⟩ rfl (spc (good_trig gl) sp0) ?_
  rintro ds post ⟨a, rfl, ha, h⟩
  exact ⟨rfl, _, .any, h, nofun, nofun, Stop.mk ⟨a, rfl, ha, And.intro rfl nofun⟩⟩

def revT (a : List Rat) : List Rat := invL (a.drop 1)
noncomputable def revR (m : Nat) (t : List Rat) : Nat → List Rat
  | 0 => t
  | i + 1 => if i + 2 < m then mulL (revR m t i) t else revR m t i
def revB (m : Nat) (t : List Rat) (i : Nat) : List Rat := 0 :: (List.range i).map fun j => cf (revR m t j) j / nat (j + 1)
def revL (a : List Rat) : List Rat := revB a.length (revT a) (a.length - 1)
theorem revB_succ (m : Nat) (t : List Rat) (i : Nat) : (revB m t (i + 1)).map ratD = (revB m t i).map ratD ++ [ratD (cf (revR m t i) i / nat (i + 1))] := by simp [revB, List.range_succ]
theorem lenRevR (m : Nat) (t : List Rat) : ∀ i, (revR m t i).length = t.length
  | 0 => rfl
  | i + 1 => by
    unfold revR
    split
    · rw [lenMul, lenRevR m t i, Nat.min_self]
    · exact lenRevR m t i
theorem lenRevB (m : Nat) (t : List Rat) (i : Nat) : (revB m t i).length = i + 1 := by simp [revB]
def RevOk (a : List Rat) : Prop := InvOk (a.drop 1) ∧ ∀ i, i < a.length - 1 → AllF (revR a.length (revT a) i) ∧ (i + 2 < a.length → MulOk (revR a.length (revT a) i) (revT a))
noncomputable def sreverseS : Spec := fun ds post => Stop (∃ a : List Rat, ds = [L a] ∧ (a.length ≤ 400 ∧ 2 ≤ a.length ∧ cf a 0 = 0 ∧ cf (a.drop 1) 0 ≠ 0 ∧ RevOk a) ∧ post (L (revL a)) .new)
theorem good_sreverse (gl : Good mg w (n + 4) (Str.ofString "let") letS) : Good mg w (n + 6) (Str.ofString "sreverse") sreverseS := by
  refine good_of (n := n + 5) (sp := [(Str.ofString "sinverse", sinverseS), (Str.ofString "smul", smulS), (Str.ofString "rdiv", rdivS), (Str.ofString "len", lenS), (Str.ofString "list", listS), (Str.ofString "need_begin", needS)]) [Str.ofString "found"] 30 (xs := [Str.ofString "a"]) ⟨rfl, rfl, rfl, rfl, bind1 fun _ _ _ _ => rfl, by decide, rfl⟩ rfl (spc (good_sinverse gl) (spc (good_smul gl) (spc ((good_rdiv (n := n)).more (by lia)) (spc good_len (spc good_list (spc ((good_need (n := n)).more (by lia)) sp0)))))) ?_
  rintro ds post ⟨a, rfl, ⟨ha, h2, h0, hn, hi, hr⟩, h⟩
  have h1 := szL (show a.length ≤ 500 by lia)
  have ld : (a.drop 1).length = a.length - 1 := by simp
  have lt : (revT a).length = a.length - 1 := by unfold revT; rw [lenInv, ld]
  have e : (((a.map ratD).length : Int) - 1).toNat = a.length - 1 := by rw [List.length_map]; lia
  have el : (((a.map ratD).length : Nat) : Int) = (a.length : Int) := by rw [List.length_map]
  refine ⟨rfl, _, .new, h, nofun, fun _ => ⟨_, rfl⟩, Stop.mk ⟨a, 0, rfl, ⟨by lia, fine0, fun _ => h0⟩, And.intro h1 (And.intro (fun q => ?_) fun _ => ?_)⟩⟩
  · have := of_decide_eq_true q
    lia
  · refine And.intro (Nat.le_trans h1 (by decide)) (Stop.mk ⟨a.drop 1, ?_, ⟨by lia, by lia, hn, hi⟩, And.intro rfl (And.intro h1 (And.intro ⟨sm_1, by rw [el]; exact sm _ (by lia)⟩
      (Stop.mk ⟨fun i => ([(Str.ofString "raised", L (revR a.length (revT a) i)), (Str.ofString "turned", L (revT a)), (Str.ofString "a", L a)], [(Str.ofString "found", (revB a.length (revT a) i).map ratD)]), ⟨⟨rfl, rfl, rfl, trivial⟩, rfl, fun _ => rfl, nofun, rangeD_flat _ _ _, fun _ => rangeD_scalar _ _ _⟩, fun i d hd => ?_, ?_⟩)))⟩)
    · show [PyData.list ((a.map ratD).drop 1)] = [L (a.drop 1)]
      rw [← List.map_drop]
    · rw [e] at hd
      obtain ⟨hi', rfl⟩ := range1_at hd
      obtain ⟨hf, hm⟩ := hr i hi'
      have lr := lenRevR a.length (revT a) i
      refine Stop.mk ⟨_, it_L (i := i) (by lia) (by lia) (by lia), Stop.mk ⟨_, nat (i + 1), rfl, ⟨hf _, (fineN (by lia)).1, nat_ne, (fineN (by lia)).2⟩, And.intro (by rw [List.length_map, lenRevB]; exact Nat.le_trans (show i + 1 ≤ 1000 by lia) (by decide)) (And.intro h1 ?_)⟩⟩
      by_cases hlt : i + 2 < a.length
      · have hR : revR a.length (revT a) (i + 1) = mulL (revR a.length (revT a) i) (revT a) := if_pos hlt
        refine Stop.mk ⟨L (revR a.length (revT a) (i + 1)), .new, fun _ => Stop.mk ⟨_, _, rfl, ⟨by lia, by lia, hm hlt⟩, And.intro (by rw [hR]) (.inr rfl)⟩, fun q => absurd hlt (by have := of_decide_eq_false q; rw [el] at this; lia), And.intro (flatL _) (And.intro ⟨rfl, rfl, rfl, trivial⟩ ?_)⟩
        show [(Str.ofString "found", (revB a.length (revT a) i).map ratD ++ [_])] = [(Str.ofString "found", (revB a.length (revT a) (i + 1)).map ratD)]
        rw [revB_succ]
      · have hR : revR a.length (revT a) (i + 1) = revR a.length (revT a) i := if_neg hlt
        refine Stop.mk ⟨L (revR a.length (revT a) (i + 1)), .safe, fun q => absurd (by have := of_decide_eq_true q; rw [el] at this; lia) hlt, fun _ => And.intro (by rw [hR]) (.inr rfl), And.intro ⟨rfl, rfl, rfl, trivial⟩ ?_⟩
        show [(Str.ofString "found", (revB a.length (revT a) i).map ratD ++ [_])] = [(Str.ofString "found", (revB a.length (revT a) (i + 1)).map ratD)]
        rw [revB_succ]
    · refine And.intro ?_ fun _ => rfl
      show PyData.list ((revB a.length (revT a) (rangeD 1 1 _).length).map ratD) = L (revL a)
      rw [rangeD_length, e]; rfl
end
end
end Mine
end
section
open PySem PySem.W PyProof.Rows PySem.Calls PySem.SeqAt
set_option maxRecDepth 100000
set_option linter.unusedVariables false
namespace Mine
noncomputable section
section
variable {mg : MG} {w : World} {n : Nat}
theorem fdiv_neg' {t : Int} {G : Nat} (hG : G ≠ 0) (h : ((G : Nat) : Int) ∣ t) : t.fdiv (0 - (G : Int)) = 0 - t.fdiv (G : Int) := by
  obtain ⟨x, rfl⟩ := h
  rw [show (G : Int) * x = (0 - (G : Int)) * (-x) by rw [Int.zero_sub, Int.neg_mul_neg], Int.mul_fdiv_cancel_left _ (by lia), show (0 - (G : Int)) * -x = (G : Int) * x by rw [Int.zero_sub, Int.neg_mul_neg], Int.mul_fdiv_cancel_left _ (by lia), Int.zero_sub]
theorem good_lowest : Good mg w (n + 1) (Str.ofString "_law_lowest") ratS := by
  refine good_of (sp := [(Str.ofString "abs", absS)]) [] 30 (xs := [Str.ofString "top", Str.ofString "bottom"]) ⟨rfl, rfl, rfl, rfl, bind2 fun _ _ _ _ _ => rfl, by decide, rfl⟩ rfl (spc good_abs sp0) ?_
  intro ds post h
  obtain ⟨a, b, rfl, hb, h⟩ := ints2 h
  obtain ⟨h1, h2, h3⟩ := ratD_eq (t := a) hb.1 rfl
  have hgp : 0 < Int.gcd a b := Int.gcd_pos_of_ne_zero_right a hb.1
  have hle : Int.gcd a b ≤ b.natAbs := Nat.le_of_dvd (by lia) (Int.gcd_dvd_natAbs_right a b)
  have hd : ((Int.gcd a b : Nat) : Int) ≠ 0 ∧ ((Int.gcd a b : Nat) : Int).natAbs < 2 ^ 9000 := ⟨by lia, Nat.lt_of_le_of_lt hle hb.2⟩
  refine ⟨rfl, _, _, h, nofun, nofun, Stop.mk ⟨fun m ρ ω => ∃ x y : Nat, ρ = [(Str.ofString "one", .int x), (Str.ofString "other", .int y), (Str.ofString "top", .int a), (Str.ofString "bottom", .int b)] ∧ ω = [] ∧ Nat.gcd x y = Int.gcd a b ∧ m = y, b.natAbs, ⟨[(Str.ofString "one", .int a.natAbs), (Str.ofString "other", .int b.natAbs), (Str.ofString "top", .int a), (Str.ofString "bottom", .int b)], ⟨rfl, rfl, rfl, rfl, trivial⟩, a.natAbs, b.natAbs, rfl, rfl, rfl, rfl⟩, ?_⟩⟩
  rintro m ρ ω ⟨x, y, rfl, rfl, hg, rfl⟩
  refine And.intro (fun hb => ?_) (fun hb => ?_)
  · have hm : m ≠ 0 := by simpa using hb
    refine And.intro (by simpa using hm) (Stop.mk ⟨x % m, Nat.mod_lt _ (by lia), [(Str.ofString "one", .int m), (Str.ofString "other", .int (x % m : Nat)), (Str.ofString "top", .int a), (Str.ofString "bottom", .int b)], ⟨rfl, congrArg some ?_, rfl, rfl, trivial⟩, m, x % m, rfl, rfl, by rw [← hg, Nat.gcd_comm x m, Nat.gcd_rec m x, Nat.gcd_comm], rfl⟩)
    rw [show (((x % m : Nat) : Int)) = Int.fmod x m from by rw [Int.fmod_eq_emod_of_nonneg _ (by lia)]; simp]
  · have hm : m = 0 := by simpa using hb
    subst hm
    rw [Nat.gcd_zero_right] at hg
    subst hg
    refine Stop.mk ⟨_, .any, fun hp => And.intro hd (And.intro hd (And.intro ?_ (.inl rfl))), fun hp => And.intro hd (And.intro hd (And.intro ?_ (.inl rfl))), And.intro h3 nofun⟩
    · rw [if_pos (of_decide_eq_true hp)]
    · rw [if_neg (of_decide_eq_false hp), fdiv_neg' (by lia) (Int.gcd_dvd_left a b), fdiv_neg' (by lia) (Int.gcd_dvd_right a b)]

noncomputable def wideP (a : List Rat) : Nat → List Rat
  | 0 => []
  | i + 1 => wideP a i ++ [cf a i, 0]
theorem lenWideP (a : List Rat) : ∀ i, (wideP a i).length = 2 * i
  | 0 => rfl
  | i + 1 => by simp [wideP, lenWideP a i]; lia
def wideL (a : List Rat) : List Rat := (wideP a a.length).take (2 * a.length - 1)
theorem L_at {a : List Rat} {i : Nat} {d : PyData} (h : (a.map ratD)[i]? = some d) : i < a.length ∧ d = ratD (cf a i) := by
  have hi : i < a.length := by simpa using (List.getElem?_eq_some_iff.mp h).1
  refine ⟨hi, ?_⟩
  simp [hi] at h
  rw [← h]; simp [cf, List.getD_eq_getElem?_getD, hi]
noncomputable def wideS : Spec := fun ds post => Stop (∃ a : List Rat, ds = [L a] ∧ a.length ≤ 100 ∧ post (L (wideL a)) .new)
theorem good_wide : Good mg w (n + 1) (Str.ofString "_law_wide") wideS := by
  refine good_of (sp := []) [] 30 (xs := [Str.ofString "a"]) ⟨rfl, rfl, rfl, rfl, bind1 fun _ _ _ _ => rfl, by decide, rfl⟩ rfl sp0 ?_
  rintro ds post ⟨a, rfl, ha, h⟩
  refine ⟨rfl, _, .new, h, nofun, fun _ => ⟨_, rfl⟩, Stop.mk ⟨fun i => ([(Str.ofString "found", L (wideP a i))], []), ⟨⟨rfl, trivial⟩, rfl, fun _ => rfl, fun _ _ => rfl, flatL _, nofun⟩, fun i d hd => ?_, ?_⟩⟩
  · obtain ⟨hi, rfl⟩ := L_at hd
    have hl : ((wideP a i).map ratD).length = 2 * i := by rw [List.length_map, lenWideP]
    refine And.intro (by rw [hl]; exact Nat.le_trans (show 2 * i + 2 ≤ 1000 by lia) (by decide)) (And.intro ⟨congrArg some ?_, trivial⟩ rfl)
    show PyData.list ((wideP a i).map ratD ++ [ratD (cf a i), ratD 0]) = L (wideP a (i + 1))
    simp [L, wideP]
  · have hl : ((wideP a a.length).map ratD).length = 2 * a.length := by rw [List.length_map, lenWideP]
    have e : (a.map ratD).length = a.length := List.length_map _
    refine And.intro ?_ (Stop.mk (Or.inr (And.intro rfl (And.intro ?_ fun _ => rfl))))
    · show ((wideP a (a.map ratD).length).map ratD).length ≤ _
      rw [e, hl]; exact Nat.le_trans (show 2 * a.length ≤ 1000 by lia) (by decide)
    · show PyData.list (((wideP a (a.map ratD).length).map ratD).take (((wideP a (a.map ratD).length).map ratD).length - 1)) = L (wideL a)
      rw [e, hl]; simp [L, wideL]

/-! what the law awaits at the beginning -/
def FirstOk (f b s : Int) (x : PyData) (r : List Rat) : Prop :=
  (f = 6 → ∃ q : Rat, x = ratD q ∧ Fine q ∧ r = [1, Rat.divInt (q.num * s) q.den]) ∧
  (f = 7 → ∃ m : Int, x = .int m ∧ (b = 1 ∨ b = -1) ∧ m.natAbs ≤ 3 ∧ r = [((b ^ m.natAbs : Int) : Rat), ((m * b ^ (m.natAbs + 1) * s : Int) : Rat)]) ∧
  (f = 8 → ∃ (e₀ e₁ : Int) (es : List PyData), x = .list (.tuple [.int e₀, .int 1] :: .tuple [.int e₁, .int 1] :: es) ∧ es.length ≤ 100 ∧ e₁.natAbs ≤ 1000 ∧ r = [(e₀ : Rat), ((e₁ * s : Int) : Rat)]) ∧
  (f = 9 → s ≠ 0 ∧ r = [0, Rat.divInt 1 s]) ∧
  (f = 0 → r = [(b : Rat), ((0 - s : Int) : Rat)]) ∧
  (f ≠ 6 → f ≠ 7 → f ≠ 8 → f ≠ 9 → f ≠ 0 → r = [(((if f > 3 then 1 else 0 : Int)) : Rat), (((if f = 4 then 0 else s : Int)) : Rat)])
noncomputable def firstS : Spec := fun ds post => Stop (∃ (f b s : Int) (zs : List PyData) (x : PyData) (r : List Rat), ds = [.int f, .list (.int b :: .int s :: zs), x] ∧ (zs.length ≤ 100 ∧ s.natAbs ≤ 1000 ∧ FirstOk f b s x r) ∧ post (L r) .new)
theorem smallF {s : Int} (h : s.natAbs ≤ 1000) : s.natAbs < 2 ^ 100000 := Nat.lt_of_lt_of_le (show s.natAbs < 2 ^ 10 by lia) (two_le (by decide))
theorem it2 {d₀ d₁ : PyData} {ds : List PyData} (h : ds.length ≤ 100) : (0 : Int) ≤ 0 ∧ (d₀ :: d₁ :: ds)[(0 : Int).toNat]? = some d₀ ∧ (d₀ :: d₁ :: ds).length ≤ 2 ^ 62 := ⟨by decide, rfl, Nat.le_trans (show ds.length + 1 + 1 ≤ 1000 by lia) (by decide)⟩
theorem it2' {d₀ d₁ : PyData} {ds : List PyData} (h : ds.length ≤ 100) : (0 : Int) ≤ 1 ∧ (d₀ :: d₁ :: ds)[(1 : Int).toNat]? = some d₁ ∧ (d₀ :: d₁ :: ds).length ≤ 2 ^ 62 := ⟨by decide, rfl, Nat.le_trans (show ds.length + 1 + 1 ≤ 1000 by lia) (by decide)⟩
theorem beqT {a b : Int} (h : (a == b) = true) : a = b := beq_iff_eq.mp h
theorem beqF {a b : Int} (h : (a == b) = false) : a ≠ b := beq_eq_false_iff_ne.mp h
theorem pow1 {b : Int} {m : Nat} (hb : b = 1 ∨ b = -1) (hm : m ≤ 4) : (b ^ m).natAbs ≤ 1000 ∧ (Builtin.Int.intBits b : Int) * (m : Int) ≤ 2 ^ 27 := by
  have : m = 0 ∨ m = 1 ∨ m = 2 ∨ m = 3 ∨ m = 4 := by lia
  rcases hb with rfl | rfl <;> rcases this with rfl | rfl | rfl | rfl | rfl <;> exact ⟨by decide, by decide⟩
theorem tnA (m : Int) : (((m.natAbs : Nat) : Int)).toNat = m.natAbs ∧ (((m.natAbs : Nat) : Int) + 1).toNat = m.natAbs + 1 ∧ (0 : Int) ≤ ((m.natAbs : Nat) : Int) ∧ (0 : Int) ≤ ((m.natAbs : Nat) : Int) + 1 := by lia
theorem good_first : Good mg w (n + 2) (Str.ofString "_law_first") firstS := by
  refine good_of (n := n + 1) (sp := [(Str.ofString "abs", absS), (Str.ofString "_law_lowest", ratS)]) [] 30 (xs := [Str.ofString "form", Str.ofString "row", Str.ofString "extra"]) ⟨rfl, rfl, rfl, rfl, bind3 fun _ _ _ _ _ _ => rfl, by decide, rfl⟩ rfl (spc good_abs (spc good_lowest sp0)) ?_
  rintro ds post ⟨f, b, s, zs, x, r, rfl, ⟨hz, hs, h6, h7, h8, h9, h0, he⟩, h⟩
  refine ⟨rfl, _, .new, h, nofun, fun _ => ⟨_, rfl⟩, Stop.mk ⟨_, it2 hz, Stop.mk ⟨_, it2' hz, And.intro (fun q => ?_) fun n6 => And.intro (fun q => ?_) fun n7 => And.intro (fun q => ?_) fun n8 => And.intro (fun q => ?_) fun n9 => And.intro (fun q => ?_) fun n0 => ?_⟩⟩⟩
  · obtain ⟨p, rfl, hp, rfl⟩ := h6 (beqT q)
    refine And.intro (mulF hp.1 (smallF hs)) (And.intro ⟨den0 p, Nat.lt_of_lt_of_le (by simpa using hp.2) (two_le (by decide))⟩ (And.intro rfl fun _ => rfl))
  · obtain ⟨m, rfl, hb, hm, rfl⟩ := h7 (beqT q)
    have p1 := pow1 (m := m.natAbs) hb (Nat.le_succ_of_le hm)
    have p2 := pow1 (m := m.natAbs + 1) hb (Nat.succ_le_succ hm)
    obtain ⟨e1, e2, z1, z2⟩ := tnA m
    refine And.intro ⟨z1, p1.2⟩ (And.intro ⟨z2, p2.2⟩ (And.intro ?_ (And.intro ?_ (And.intro ?_ fun _ => rfl))))
    · rw [e2]; exact mulF (smallF (Nat.le_trans hm (by decide))) (smallF p2.1)
    · rw [e2]; refine mulF ?_ (smallF hs)
      rw [Int.natAbs_mul]
      exact Nat.lt_of_lt_of_le (Nat.lt_of_le_of_lt (Nat.mul_le_mul hm p2.1) (show 3 * 1000 < 2 ^ 12 by decide)) (two_le (by decide))
    · rw [e1, e2]; rfl
  · obtain ⟨e₀, e₁, es, rfl, hl, h1, rfl⟩ := h8 (beqT q)
    exact Stop.mk ⟨_, it2 hl, Stop.mk ⟨_, it2' hl, And.intro (mulF (smallF h1) (smallF hs)) (And.intro rfl fun _ => rfl)⟩⟩
  · obtain ⟨hs0, rfl⟩ := h9 (beqT q)
    exact And.intro ⟨hs0, Nat.lt_of_lt_of_le (show s.natAbs < 2 ^ 10 by lia) (two_le (by decide))⟩ (And.intro rfl fun _ => rfl)
  · obtain rfl := h0 (beqT q)
    exact And.intro rfl fun _ => rfl
  · obtain rfl := he (beqF n6) (beqF n7) (beqF n8) (beqF n9) (beqF n0)
    refine Stop.mk ⟨.int (if f > 3 then 1 else 0), .any, fun q => And.intro (by rw [if_pos (of_decide_eq_true q)]) (.inl rfl), fun q => And.intro (by rw [if_neg (of_decide_eq_false q)]) (.inl rfl), Stop.mk ⟨.int (if f = 4 then 0 else s), .any, fun q => And.intro (by rw [if_pos (beqT q)]) (.inl rfl), fun q => And.intro (by rw [if_neg (beqF q)]) (.inl rfl), And.intro rfl fun _ => rfl⟩⟩
end
end
end Mine
end
section
open PySem PySem.W PyProof.Rows PySem.Calls PySem.SeqAt
set_option maxRecDepth 100000
set_option linter.unusedVariables false
namespace Mine
noncomputable section
section
variable {mg : MG} {w : World} {n : Nat}
def DeedOk (f : Int) (a : List Rat) (x : PyData) (r : List Rat) : Prop :=
  (f = 0 → cf a 0 ≠ 0 ∧ InvOk a ∧ r = invL a) ∧
  (f = 1 → AtanOk a ∧ r = atanL a) ∧
  (f = 2 → LogOk a ∧ r = logL a) ∧
  (f = 3 → cf a 0 = 0 ∧ TrigOk a ∧ r = (trig a a.length).1) ∧
  (f = 4 → cf a 0 = 0 ∧ TrigOk a ∧ r = (trig a a.length).2) ∧
  (f = 5 → cf a 0 = 0 ∧ ExpOk a ∧ r = expL a) ∧
  (f = 6 → ∃ q : Rat, x = ratD q ∧ cf a 0 = 1 ∧ PowOk q a ∧ r = powL q a) ∧
  (f = 7 → ∃ (m : Int) (b : List Rat), x = .int m ∧ ((m < 0 → b = invL a ∧ 0 < a.length ∧ cf a 0 ≠ 0 ∧ InvOk a) ∧ (¬ m < 0 → b = a) ∧ a.length ≤ 400 ∧ m.natAbs < 16 ∧ WOk 5 m.natAbs (cutL [1] a.length) b) ∧ r = wpow 5 m.natAbs (cutL [1] a.length) b) ∧
  (f = 8 → ∃ e : List Rat, x = L e ∧ e.length ≤ 400 ∧ 0 < e.length ∧ CompOk e a ∧ r = compL e a) ∧
  (f ≠ 0 → f ≠ 1 → f ≠ 2 → f ≠ 3 → f ≠ 4 → f ≠ 5 → f ≠ 6 → f ≠ 7 → f ≠ 8 → 2 ≤ a.length ∧ cf a 0 = 0 ∧ cf (a.drop 1) 0 ≠ 0 ∧ RevOk a ∧ r = revL a)
noncomputable def deedS : Spec := fun ds post => Stop (∃ (f : Int) (a : List Rat) (x : PyData) (r : List Rat), ds = [.int f, L a, x] ∧ (0 < a.length ∧ a.length ≤ 400 ∧ DeedOk f a x r) ∧ post (L r) .any)
theorem good_deed (gl : Good mg w (n + 4) (Str.ofString "let") letS) : Good mg w (n + 7) (Str.ofString "_law_deed") deedS := by
  refine good_of (n := n + 6) (sp := [(Str.ofString "sinverse", sinverseS), (Str.ofString "satan", satanS), (Str.ofString "slog", slogS), (Str.ofString "ssin", ssinS), (Str.ofString "scos", scosS), (Str.ofString "sexp", sexpS), (Str.ofString "spower", spowerS), (Str.ofString "swhole_power", swholeS), (Str.ofString "scompose", scomposeS), (Str.ofString "sreverse", sreverseS)]) [] 30 (xs := [Str.ofString "form", Str.ofString "a", Str.ofString "extra"]) ⟨rfl, rfl, rfl, rfl, bind3 fun _ _ _ _ _ _ => rfl, by decide, rfl⟩ rfl
    (spc ((good_sinverse gl).more (Nat.le_succ _)) (spc (good_satan gl) (spc (good_slog gl) (spc (good_ssin gl) (spc (good_scos gl) (spc ((good_sexp gl).more (Nat.le_succ _)) (spc ((good_spower gl).more (Nat.le_succ _)) (spc (good_swhole gl) (spc (good_scompose gl) (spc (good_sreverse gl) sp0)))))))))) ?_
  rintro ds post ⟨f, a, x, r, rfl, ⟨hp, hl, h0, h1, h2, h3, h4, h5, h6, h7, h8, h9⟩, h⟩
  have hl5 : a.length ≤ 500 := Nat.le_trans hl (by decide)
  refine ⟨rfl, _, .any, h, nofun, nofun, And.intro (fun q => ?_) fun n0 => And.intro (fun q => ?_) fun n1 => And.intro (fun q => ?_) fun n2 => And.intro (fun q => ?_) fun n3 => And.intro (fun q => ?_) fun n4 => And.intro (fun q => ?_) fun n5 => And.intro (fun q => ?_) fun n6 => And.intro (fun q => ?_) fun n7 => And.intro (fun q => ?_) fun n8 => ?_⟩
  · obtain ⟨c, i, rfl⟩ := h0 (beqT q)
    exact Stop.mk ⟨a, rfl, ⟨hl5, hp, c, i⟩, And.intro rfl nofun⟩
  · obtain ⟨i, rfl⟩ := h1 (beqT q)
    exact Stop.mk ⟨a, rfl, ⟨hl, hp, i⟩, And.intro rfl nofun⟩
  · obtain ⟨i, rfl⟩ := h2 (beqT q)
    exact Stop.mk ⟨a, rfl, ⟨hl, hp, i⟩, And.intro rfl nofun⟩
  · obtain ⟨c, i, rfl⟩ := h3 (beqT q)
    exact Stop.mk ⟨a, rfl, ⟨hl5, c, i⟩, And.intro rfl nofun⟩
  · obtain ⟨c, i, rfl⟩ := h4 (beqT q)
    exact Stop.mk ⟨a, rfl, ⟨hl5, c, i⟩, And.intro rfl nofun⟩
  · obtain ⟨c, i, rfl⟩ := h5 (beqT q)
    exact Stop.mk ⟨a, rfl, ⟨hl5, c, i⟩, And.intro rfl nofun⟩
  · obtain ⟨z, rfl, c, i, rfl⟩ := h6 (beqT q)
    exact Stop.mk ⟨a, z, rfl, ⟨hl5, c, i⟩, And.intro rfl nofun⟩
  · obtain ⟨m, b, rfl, i, rfl⟩ := h7 (beqT q)
    exact Stop.mk ⟨a, b, m, rfl, i, And.intro rfl nofun⟩
  · obtain ⟨e, rfl, l1, l2, i, rfl⟩ := h8 (beqT q)
    exact Stop.mk ⟨e, a, rfl, ⟨l1, hl, l2, hp, i⟩, And.intro rfl nofun⟩
  · obtain ⟨l2, c, d, i, rfl⟩ := h9 (beqF n0) (beqF n1) (beqF n2) (beqF n3) (beqF n4) (beqF n5) (beqF n6) (beqF n7) (beqF n8)
    exact Stop.mk ⟨a, rfl, ⟨hl, l2, c, d, i⟩, And.intro rfl nofun⟩

/-! _law_long: a comprehension over enumerate -/
theorem bo_enum : bootBuiltins (Str.ofString "enumerate") = some (.type "enumerate") := by boot_fast
theorem bf_enum : bFree (Str.ofString "enumerate") = true := by decide +kernel
noncomputable def compOk2 (scope : Scope) (x y : Str) (kd : Str → Option NameKind) : Bool :=
  compOk scope x kd && scope.names.lookup y == some .local && !(x == y)
theorem compE_ok {A : Around} {env : Env} {h₀ : Base} {ρ : Vars} {ω : Owns} {C : Cx} {elt e : Expr} {x y : Str} {px py pt np cp : Pos} {tk : Nat} {scope : Scope} {pos : Pos} {ds rs : List PyData} (F : Fx mg w A env h₀ C) (ok : compOk2 scope x y C.kd = true)
    (hkd : C.kd (Str.ofString "enumerate") = some .globalImplicit) (hv : Ev mg w A env h₀ ρ ω e (.list ds)) (hst : starEach [e] env = (false, eval e env) :: starEach [] env)
    (hz : ds.length ≤ sizeLine) (hlen : rs.length = ds.length) (hfl : rs.all flat = true)
    (he : ∀ (env' : Env) (h₁ : Base) (i : Nat) (d r : PyData), ds[i]? = some d → rs[i]? = some r → Fx mg w A env' h₁ { C with kd := fun y => (relab scope.names C.kd).lookup y } → ∃ d' k, d' = r ∧ EvK mg w A env' h₁ ((x, .int i) :: (y, d) :: compVars scope C.kd ρ) [] k elt d') :
    EvN mg w A env h₀ ρ ω (.ListComp elt [⟨.Tuple [.Name x px, .Name y py] tk pt, .Call (.Name (Str.ofString "enumerate") np) [e] [] cp, [], 0⟩] scope pos) rs := by
  unfold compOk2 at ok
  simp only [Bool.and_eq_true, beq_iff_eq, Bool.not_eq_true', beq_eq_false_iff_ne] at ok
  obtain ⟨⟨ok, k4⟩, k5⟩ := ok
  unfold compOk at ok
  simp only [Bool.and_eq_true, beq_iff_eq, List.all_eq_true, bne_iff_ne, Bool.or_eq_true] at ok
  obtain ⟨⟨k1, k2⟩, k3⟩ := ok
  have hfree : ∀ y ∈ scope.names, y.2 = .free → env.kindOf y.1 = some .cell := fun y hy e => (F.kd _).trans ((k3 y hy).2.resolve_left fun q => q e)
  obtain ⟨cl, hc, h1, h2⟩ := closure_ok F.hk hfree
  refine evN_compE (cl := cl) (ρc := compVars scope C.kd ρ) (fun y hy => (k3 y hy).1.1) k1 (fun y hy e => (k3 y hy).1.2.resolve_left fun q => q e) k2 k4 k5 hc (fun y c e => ⟨y, h1 y c e⟩) F.A0.handled ?_ (fun p hp => ?_) hlen hfl hz (fun h₁ CC i d r hk hd hr => ?_) (fun _ => rfl)
  · intro s S
    refine wpAny_q (ev_builtin F.hk F.W ((F.kd _).trans hkd) bf_enum bo_enum (by decide) rfl (evAll_cons hv evAll_nil hst) b_enum hst rfl (by decide) s S) fun v s' ⟨k, s₁, k₁, k₂, r⟩ => ⟨k, ?_⟩
    obtain ⟨e, it, l, items, n, rfl, a1, a2, a3, a4, a5, a6, a7⟩ := r
    exact ⟨e, it, l, items, n, rfl, a1, a2, a3, a4, none_of k₁ a5, none_of k₁ a6, a7⟩
  · obtain ⟨q1, q2⟩ := List.mem_filter.mp hp
    simp only [Bool.and_eq_true, beq_iff_eq, List.any_eq_true] at q2
    obtain ⟨⟨q2, y, hy, e1, e2⟩, q3⟩ := q2
    obtain ⟨c, hc⟩ := h2 y hy e2
    rw [e1] at hc
    exact ⟨q1, (F.kd _).trans q2, hc.trans (h1 _ _ hc).symm, by rw [relabel_eq F.hk F.kd]; exact q3⟩
  · have F' : Fx mg w A (compEnvC scope cl CC env) h₁ { C with kd := fun y => (relab scope.names C.kd).lookup y } := by
      refine ⟨⟨?_, F.hk.globals, F.hk.builtins, fun y hy => ?_⟩, F.W.keeps hk, fun y => ?_, F.sp⟩
      · exact k1
      · have hy' : (relabel scope env).names.lookup y = some .cell := hy
        rw [relabel_eq F.hk F.kd] at hy'
        have hm := mem_of_lk hy'
        obtain ⟨z, hz, e⟩ := List.mem_map.mp hm
        split at e
        · rename_i q
          simp only [Bool.and_eq_true, beq_iff_eq] at q
          cases e
          exact h2 z hz q.1
        · subst e
          exact absurd rfl ((k3 _ hz).1.1)
      · show (relabel scope env).names.lookup y = _
        rw [relabel_eq F.hk F.kd]
    obtain ⟨d', k, rfl, y⟩ := he _ h₁ i d r hd hr F'
    exact y.ev
def longL (a : List Rat) (t b : Int) : List Rat := (List.range a.length).map fun i => Rat.divInt ((cf a i).num * t ^ i) ((cf a i).den * b ^ i)
noncomputable def longS : Spec := fun ds post => Stop (∃ (a : List Rat) (t b : Int), ds = [L a, .int t, .int b] ∧ (a.length ≤ 100 ∧ AllF a ∧ t.natAbs ≤ 3 ∧ b.natAbs ≤ 3 ∧ b ≠ 0) ∧ post (L (longL a t b)) .new)
theorem powB {t : Int} {i : Nat} (ht : t.natAbs ≤ 3) (hi : i ≤ 100) : (t ^ i).natAbs < 2 ^ 300 ∧ (Builtin.Int.intBits t : Int) * (i : Int) ≤ 2 ^ 27 := by
  constructor
  · rw [Int.natAbs_pow]
    refine Nat.lt_of_le_of_lt (Nat.pow_le_pow_left (Nat.le_trans ht (show 3 ≤ 2 ^ 2 by decide)) i) ?_
    rw [← Nat.pow_mul]
    exact Nat.lt_of_le_of_lt (two_le (show 2 * i ≤ 200 by lia)) (Nat.pow_lt_pow_right (by decide) (by decide))
  · have : t = 0 ∨ t = 1 ∨ t = 2 ∨ t = 3 ∨ t = -1 ∨ t = -2 ∨ t = -3 := by lia
    have hb : (Builtin.Int.intBits t : Int) ≤ 2 := by rcases this with rfl | rfl | rfl | rfl | rfl | rfl | rfl <;> decide
    exact Int.le_trans (Int.mul_le_mul_of_nonneg_right hb (Int.natCast_nonneg i)) (by lia)
theorem good_long : Good mg w (n + 2) (Str.ofString "_law_long") longS := fun ds post h => by
  obtain ⟨a, t, b, rfl, ⟨ha, fa, ht, hb, hb0⟩, h⟩ := h
  refine ⟨_, .new, h, fun _ => ⟨_, rfl⟩, .inl (tell_of (d := D (Str.ofString "_law_long")) (xs := [Str.ofString "a", Str.ofString "top", Str.ofString "bottom"]) (n := n + 1) ⟨rfl, rfl, rfl, rfl, bind3 fun _ _ _ _ _ _ => rfl, by decide, rfl⟩ rfl rfl fun A env h₀ hA W hke hsc => ?_)⟩
  have F : Fx mg w A env h₀ ⟨fun x => (D (Str.ofString "_law_long")).scope.names.lookup x, [(Str.ofString "_law_lowest", ratS)], [], (D (Str.ofString "_law_long")).scope⟩ := ⟨hke, W, fun x => by show env.scope.names.lookup x = _; rw [hsc], _, hA, spc good_lowest sp0⟩
  refine ex_retN (compE_ok F rfl rfl (ev_var hke (.head _) (by decide)) rfl (by rw [List.length_map]; exact Nat.le_trans ha (by decide)) (rs := (longL a t b).map ratD) (by simp [longL]) (flatL _) fun env' h₁ i d r hd hr F' => ?_) fun h v S r => ⟨_, rfl, r⟩
  obtain ⟨hi, rfl⟩ := L_at hd
  have hr := range_map hr
  subst hr
  have pt := powB (i := i) ht (by lia)
  have pb := powB (i := i) hb (by lia)
  refine we_ok 30 (m := .val) (ω := []) F' ?_
  refine And.intro ⟨Int.natCast_nonneg _, pt.2⟩ (And.intro (mulF (fa i).1 (Nat.lt_of_lt_of_le pt.1 (two_le (by decide)))) (And.intro ⟨Int.natCast_nonneg _, pb.2⟩ (And.intro (mulF (fa i).dn (Nat.lt_of_lt_of_le pb.1 (two_le (by decide)))) (And.intro ⟨Int.mul_ne_zero (den0 _) (Int.pow_ne_zero hb0), ?_⟩ rfl))))
  rw [Int.natAbs_mul]; exact mul_lt (by simpa using (fa i).2) pb.1 (by decide)
end
end
end Mine
end
section
set_option linter.unusedVariables false
namespace Mine
noncomputable section
def BdL (e : Nat) (a : List Rat) : Prop := ∀ i, Bd e (cf a i)
theorem BdL.mono {e e' : Nat} {a : List Rat} (x : BdL e a) (h : e ≤ e') : BdL e' a := fun i => (x i).mono h
theorem BdL.allF {e : Nat} {a : List Rat} (x : BdL e a) (h : e ≤ 300) : AllF a := fun i => (x i).fine h
theorem cf_at {a : List Rat} {i : Nat} (h : i < a.length) : cf a i = a[i] := by simp [cf, List.getD_eq_getElem?_getD, h]
theorem cf_rng {f : Nat → Rat} {n i : Nat} : cf ((List.range n).map f) i = if i < n then f i else 0 := by
  by_cases h : i < n
  · rw [if_pos h, cf_at (by simpa using h)]; simp
  · rw [if_neg h, cf_out (by simpa using h)]
theorem cf_snoc {a : List Rat} {x : Rat} {i : Nat} : cf (a ++ [x]) i = if i < a.length then cf a i else if i = a.length then x else 0 := by
  by_cases h : i < a.length
  · rw [if_pos h]; simp [cf, List.getD_eq_getElem?_getD, List.getElem?_append, h]
  · rw [if_neg h]
    by_cases h2 : i = a.length
    · rw [if_pos h2]; simp [cf, List.getD_eq_getElem?_getD, h2]
    · rw [if_neg h2, cf_out (by simp; lia)]
theorem bd_snoc {e : Nat} {a : List Rat} {x : Rat} (ha : BdL e a) (hx : Bd e x) : BdL e (a ++ [x]) := fun i => by
  rw [cf_snoc]; split
  · exact ha i
  · split
    · exact hx
    · exact bd_zero e
theorem bd_nil (e : Nat) : BdL e [] := fun i => bd_zero e
theorem bd_addP {f : Nat → Rat} {z : Rat} {E n : Nat} (hz : Bd E z) (h : ∀ s, s ≤ n → Bd E (f s)) : ∀ j, j ≤ n → Bd (E + j) (addP f z j)
  | 0, _ => hz
  | j + 1, q => (bd_addP hz h j (by lia)).add ((h (j + 1) q).mono (by lia))
theorem bd_subP {f : Nat → Rat} {z : Rat} {E n : Nat} (hz : Bd E z) (h : ∀ s, s ≤ n → Bd E (f s)) : ∀ j, j ≤ n → Bd (E + j) (subP f z j)
  | 0, _ => hz
  | j + 1, q => (bd_subP hz h j (by lia)).sub ((h (j + 1) q).mono (by lia))
theorem bd_mixP {a b : List Rat} {e e' : Nat} (ha : BdL e a) (hb : BdL e' b) (k : Nat) : ∀ j, Bd (e + e' + j) (mixP a b k j)
  | 0 => bd_zero _
  | j + 1 => (bd_mixP ha hb k j).add (((ha j).mul (hb (k - j))).mono (by lia))
theorem bd_mul {a b : List Rat} {e e' : Nat} (ha : BdL e a) (hb : BdL e' b) (hn : min a.length b.length ≤ 8) : BdL (e + e' + 8) (mulL a b) := fun i => by
  unfold mulL; rw [cf_rng]; split
  · exact (bd_mixP ha hb i (i + 1)).mono (by lia)
  · exact bd_zero _
theorem mul_ok {a b : List Rat} {e e' : Nat} (ha : BdL e a) (hb : BdL e' b) (hn : min a.length b.length ≤ 8) (h : e + e' + 9 ≤ 300) : MulOk a b :=
  ⟨ha.allF (by lia), hb.allF (by lia), fun k hk => ⟨fun j hj => (bd_mixP ha hb k j).fine (by lia), fun j hj => ((ha j).mul (hb _)).fine (by lia)⟩⟩
theorem bd_nat {s : Nat} (h : s ≤ 10) : Bd 1 (nat s) := bd_int (by lia)
theorem bd_divN {e : Nat} {q : Rat} {k : Nat} (x : Bd e q) (h0 : k ≠ 0) (h : k ≤ 10) : Bd (e + 1) (q / nat k) := x.div (by lia) (by lia)
theorem bd_build {f : List Rat → Rat} {γ n : Nat} (h : ∀ k, k < n → BdL (γ * k) (build f k) → Bd (γ * (k + 1)) (f (build f k))) : ∀ k, k ≤ n → BdL (γ * k) (build f k)
  | 0, _ => bd_nil _
  | k + 1, q => by
    have ih := bd_build h k (by lia)
    have e : γ * k ≤ γ * (k + 1) := Nat.mul_le_mul_left _ (by lia)
    exact bd_snoc (ih.mono e) (h k (by lia) ih)
theorem rec_ok {f : List Rat → Rat} {t p : List Rat → Nat → Rat} {γ n : Nat} (hn : n ≤ 8) (hγ : γ * n ≤ 300) (h : ∀ k, k < n → BdL (γ * k) (build f k) → Bd (γ * (k + 1)) (f (build f k)) ∧ ∀ j, j ≤ k → Bd (γ * (k + 1)) (t (build f k) j) ∧ Bd (γ * (k + 1)) (p (build f k) j)) : RecOk f t p n ∧ BdL (γ * n) (build f n) := by
  have hb := bd_build (f := f) (γ := γ) (n := n) fun k hk x => (h k hk x).1
  have hk' : ∀ k, k < n → γ * (k + 1) ≤ 300 := fun k hk => Nat.le_trans (Nat.mul_le_mul_left _ (by lia)) hγ
  refine ⟨⟨fun i hi => ((h i hi (hb i (by lia))).1).fine (hk' i hi), fun k hk j hj => ?_⟩, hb n (Nat.le_refl _)⟩
  obtain ⟨x, y⟩ := (h k hk (hb k (by lia))).2 j hj
  exact ⟨x.fine (hk' k hk), y.fine (hk' k hk)⟩
theorem inv_ok {a : List Rat} {e : Nat} {g : Int} (ha : BdL e a) (hn : a.length ≤ 8) (hg : cf a 0 = g) (h0 : g ≠ 0) (h10 : g.natAbs ≤ 10) (he : (e + 9) * a.length ≤ 300) (he' : e ≤ 300) : InvOk a ∧ BdL ((e + 9) * a.length) (invL a) := by
  obtain ⟨x, y⟩ := rec_ok (f := invF a) (t := invT a) (p := fun l => subP (invT a l) (one0 l.length)) (γ := e + 9) hn he fun k hk hb => by
    have ht : ∀ s, Bd (e + (e + 9) * k) (invT a (build (invF a) k) s) := fun s => (ha s).mul (hb _)
    have hz : Bd (e + (e + 9) * k) (one0 k) := by
      unfold one0; split
      · next q => subst q; exact ⟨nN (e + (e + 9) * 0), by rw [Rat.one_mul], by rw [nN_abs]; exact Nat.pow_le_pow_right (by decide) (by lia)⟩
      · exact bd_zero _
    have hs := bd_subP (n := k) hz fun s _ => ht s
    have ek : (e + 9) * (k + 1) = (e + 9) * k + e + 9 := by rw [Nat.mul_add]; lia
    refine ⟨?_, fun j hj => ⟨(ht j).mono (by lia), ?_⟩⟩
    · show Bd _ (subP (invT a (build (invF a) k)) (one0 (build (invF a) k).length) (build (invF a) k).length / cf a 0)
      rw [build_length, hg]
      have hq : Bd (e + (e + 9) * k + k + 1) _ := (hs k (Nat.le_refl _)).div h0 h10
      have hq2 := hq.mono (show e + (e + 9) * k + k + 1 ≤ (e + 9) * (k + 1) by lia)
      exact hq2
    · show Bd _ (subP _ (one0 (build (invF a) k).length) j)
      rw [build_length]
      exact (hs j hj).mono (by lia)
  refine ⟨⟨ha.allF he', ?_, x⟩, y⟩
  rw [hg, Rat.num_intCast]
  exact Nat.lt_of_le_of_lt h10 (Nat.lt_of_lt_of_le (show 10 < 2 ^ 4 by decide) (two_le (by decide)))
theorem exp_ok {a : List Rat} {e : Nat} (ha : BdL e a) (hn : a.length ≤ 8) (he : (e + 10) * a.length ≤ 300) (he' : e ≤ 290) : ExpOk a ∧ BdL ((e + 10) * a.length) (expL a) := by
  have hs1 : ∀ s, s ≤ 8 → Bd (1 + e) (nat s * cf a s) := fun s hs => (bd_nat (by lia)).mul (ha s)
  obtain ⟨x, y⟩ := rec_ok (f := expF a) (t := expT a) (p := fun l => addP (expT a l) 0) (γ := e + 10) hn he fun k hk hb => by
    have ht : ∀ s, s ≤ k → Bd (1 + e + (e + 10) * k) (expT a (build (expF a) k) s) := fun s hs => (hs1 s (by lia)).mul (hb _)
    have hs := bd_addP (n := k) (bd_zero _) ht
    have ek : (e + 10) * (k + 1) = (e + 10) * k + e + 10 := by rw [Nat.mul_add]; lia
    refine ⟨?_, fun j hj => ⟨(ht j hj).mono (by lia), (hs j hj).mono (by lia)⟩⟩
    show Bd _ (if (build (expF a) k).length = 0 then 1 else addP (expT a (build (expF a) k)) 0 (build (expF a) k).length / nat (build (expF a) k).length)
    rw [build_length]
    split
    · next q => subst q; exact (bd_int (n := 1) (by decide)).mono (by lia)
    · next q => exact (bd_divN (hs k (Nat.le_refl _)) q (by lia)).mono (by lia)
  exact ⟨⟨ha.allF (by lia), fun s hs => (hs1 s (by lia)).fine (by lia), x⟩, y⟩
end
end Mine
end
section
set_option linter.unusedVariables false
namespace Mine
noncomputable section
theorem pow_ok {q : Rat} {a : List Rat} {e : Nat} (hq : Bd 1 q) (ha : BdL e a) (hn : a.length ≤ 8) (he : (e + 12) * a.length ≤ 300) (he' : e ≤ 280) : PowOk q a ∧ BdL ((e + 12) * a.length) (powL q a) := by
  have h1 : ∀ s, s ≤ 8 → Bd 2 (q * nat s) := fun s hs => hq.mul (bd_nat (by lia))
  have h2 : ∀ s k, s ≤ 8 → k ≤ 8 → Bd 3 (q * nat s - nat k) := fun s k hs hk => (h1 s hs).sub ((bd_nat (by lia)).mono (by lia))
  have h3 : ∀ s k, s ≤ 8 → k ≤ 8 → Bd (3 + e) ((q * nat s - nat k) * cf a s) := fun s k hs hk => (h2 s k hs hk).mul (ha s)
  obtain ⟨x, y⟩ := rec_ok (f := powF q a) (t := powT q a) (p := fun l => addP (powT q a l) 0) (γ := e + 12) hn he fun k hk hb => by
    have hlen : (build (powF q a) k).length = k := build_length _ _
    have ht : ∀ s, s ≤ k → Bd (3 + e + (e + 12) * k) (powT q a (build (powF q a) k) s) := fun s hs => (h3 s _ (by lia) (by rw [hlen]; lia)).mul (hb _)
    have hs := bd_addP (n := k) (bd_zero _) ht
    have ek : (e + 12) * (k + 1) = (e + 12) * k + e + 12 := by rw [Nat.mul_add]; lia
    refine ⟨?_, fun j hj => ⟨(ht j hj).mono (by lia), (hs j hj).mono (by lia)⟩⟩
    show Bd _ (if (build (powF q a) k).length = 0 then 1 else addP (powT q a (build (powF q a) k)) 0 (build (powF q a) k).length / nat (build (powF q a) k).length)
    rw [hlen]
    split
    · next q => subst q; exact (bd_int (n := 1) (by decide)).mono (by lia)
    · next q => exact (bd_divN (hs k (Nat.le_refl _)) q (by lia)).mono (by lia)
  exact ⟨⟨hq.fine (by lia), ha.allF (by lia), fun k s hs hk => ⟨(h1 s (by lia)).fine (by lia), (h2 s _ (by lia) (by lia)).fine (by lia), (h3 s _ (by lia) (by lia)).fine (by lia)⟩, x⟩, y⟩
theorem trig_step {a : List Rat} {e k : Nat} (ha : BdL e a) (hk : k ≤ 8) {l : List Rat} (hb : BdL ((e + 10) * k) l) : (∀ j, j ≤ k → Bd (1 + e + (e + 10) * k) (trT a l k j)) ∧ (∀ j, j ≤ k → Bd (1 + e + (e + 10) * k + j) (addP (trT a l k) 0 j) ∧ Bd (1 + e + (e + 10) * k + j) (subP (trT a l k) 0 j)) ∧ Bd ((e + 10) * (k + 1)) (sinV a l k) ∧ Bd ((e + 10) * (k + 1)) (cosV a l k) := by
  have ht : ∀ s, s ≤ k → Bd (1 + e + (e + 10) * k) (trT a l k s) := fun s hs => ((bd_nat (by lia)).mul (ha s)).mul (hb _)
  have hs := bd_addP (n := k) (bd_zero _) ht
  have hs' := bd_subP (n := k) (bd_zero _) ht
  have ek : (e + 10) * (k + 1) = (e + 10) * k + e + 10 := by rw [Nat.mul_add]; lia
  refine ⟨ht, fun j hj => ⟨hs j hj, hs' j hj⟩, ?_, ?_⟩
  · unfold sinV; split
    · exact bd_zero _
    · next q => exact (bd_divN (hs k (Nat.le_refl _)) q (by lia)).mono (by lia)
  · unfold cosV; split
    · next q => exact (bd_int (n := 1) (by decide)).mono (by lia)
    · next q => exact (bd_divN (hs' k (Nat.le_refl _)) q (by lia)).mono (by lia)
theorem bd_trig {a : List Rat} {e : Nat} (ha : BdL e a) : ∀ k, k ≤ 8 → BdL ((e + 10) * k) (trig a k).1 ∧ BdL ((e + 10) * k) (trig a k).2
  | 0, _ => ⟨bd_nil _, bd_nil _⟩
  | k + 1, hk => by
    obtain ⟨x, y⟩ := bd_trig ha k (by lia)
    have h : (e + 10) * k ≤ (e + 10) * (k + 1) := Nat.mul_le_mul_left _ (by lia)
    exact ⟨bd_snoc (x.mono h) (trig_step ha (by lia) y).2.2.1, bd_snoc (y.mono h) (trig_step ha (by lia) x).2.2.2⟩
theorem trig_ok {a : List Rat} {e : Nat} (ha : BdL e a) (hn : a.length ≤ 8) (he : (e + 10) * a.length ≤ 300) (he' : e ≤ 290) : TrigOk a := by
  refine ⟨ha.allF (by lia), fun s hs => ((bd_nat (s := s) (by lia)).mul (ha s)).fine (by lia), fun k hk => ?_⟩
  have h1 : (e + 10) * (k + 1) ≤ 300 := Nat.le_trans (Nat.mul_le_mul_left _ (by lia)) he
  have ek : (e + 10) * (k + 1) = (e + 10) * k + e + 10 := by rw [Nat.mul_add]; lia
  obtain ⟨x, y⟩ := bd_trig ha k (by lia)
  obtain ⟨p1, p2, p3, p4⟩ := trig_step ha (by lia) y
  obtain ⟨q1, q2, q3, q4⟩ := trig_step ha (by lia) x
  exact ⟨x.allF (by lia), y.allF (by lia), p3.fine h1, q4.fine h1, fun j hj => ⟨(p1 j hj).fine (by lia), (q1 j hj).fine (by lia), (p2 j hj).1.fine (by lia), (q2 j hj).2.fine (by lia)⟩⟩
theorem bd_der {a : List Rat} {e : Nat} (ha : BdL e a) (hn : a.length ≤ 8) : BdL (e + 1) (derL a) := fun i => by
  unfold derL; rw [cf_rng]; split
  · exact ((bd_nat (s := i + 1) (by lia)).mul (ha _)).mono (by lia)
  · exact bd_zero _
theorem cf_cons {x : Rat} {l : List Rat} {i : Nat} : cf (x :: l) i = if i = 0 then x else cf l (i - 1) := by
  cases i with
  | zero => rfl
  | succ i => rfl
theorem bd_cons {e : Nat} {x : Rat} {l : List Rat} (hx : Bd e x) (hl : BdL e l) : BdL e (x :: l) := fun i => by
  rw [cf_cons]; split
  · exact hx
  · exact hl _
theorem bd_intL {a : List Rat} {e : Nat} (ha : BdL e a) (hn : a.length ≤ 8) : BdL (e + 1) (intL a) := by
  refine bd_cons (bd_zero _) fun i => ?_
  rw [cf_rng]; split
  · exact bd_divN (ha i) (by lia) (by lia)
  · exact bd_zero _
theorem bd_set {a : List Rat} {e : Nat} {x : Rat} (ha : BdL e a) (hx : Bd e x) : BdL e (a.set 0 x) := by
  cases a with
  | nil => exact ha
  | cons y l => exact bd_cons hx fun i => by have := ha (i + 1); rwa [cf_cons, if_neg (by lia)] at this
end
end Mine
end
section
set_option linter.unusedVariables false
namespace Mine
noncomputable section
theorem lenDerL (a : List Rat) : (derL a).length = a.length - 1 := by simp [derL]
theorem log_ok {a : List Rat} {e : Nat} (ha : BdL e a) (hn : a.length ≤ 8) (h0 : cf a 0 = 1) (he : (e + 9) * a.length + e + 20 ≤ 300) : LogOk a ∧ BdL ((e + 9) * a.length + e + 10) (logL a) := by
  obtain ⟨i, bi⟩ := inv_ok (g := 1) ha hn (by rw [h0]; rfl) (by decide) (by decide) (by lia) (by lia)
  have hd := bd_der ha hn
  have hm : min (derL a).length (invL a).length ≤ 8 := by rw [lenDerL]; lia
  have bm := bd_mul hd bi hm
  have hl : (mulL (derL a) (invL a)).length ≤ 8 := by rw [lenMul]; exact hm
  exact ⟨⟨ha.allF (by lia), i, mul_ok hd bi hm (by lia), bm.allF (by lia), h0⟩, (bd_intL bm hl).mono (by lia)⟩
theorem bd_sq {a : List Rat} {e : Nat} (ha : BdL e a) (hn : a.length ≤ 8) : BdL (e + e + 9) (sqL a) := by
  have bm := bd_mul ha ha (by lia)
  exact bd_set (bm.mono (by lia)) (((bm 0).mono (Nat.le_refl _)).add ((bd_int (n := 1) (by decide)).mono (by lia)))
theorem atan_ok {a : List Rat} {e : Nat} (ha : BdL e a) (hn : a.length ≤ 8) (hp : 0 < a.length) (h0 : cf a 0 = 0) (he : (e + e + 18) * a.length + e + 30 ≤ 300) (he' : e ≤ 20) : AtanOk a ∧ BdL ((e + e + 18) * a.length + e + 10) (atanL a) := by
  have bs := bd_sq ha hn
  have ls : (sqL a).length = a.length := by unfold sqL; rw [List.length_set, lenMul, Nat.min_self]
  have h1 : cf (sqL a) 0 = 1 := by
    unfold sqL
    have hl : 0 < (mulL a a).length := by rw [lenMul, Nat.min_self]; exact hp
    have hm0 : cf (mulL a a) 0 = 0 := by
      unfold mulL; rw [cf_rng]; split
      · show mixP a a 0 0 + cf a 0 * cf a 0 = 0
        rw [h0]; show (0 : Rat) + 0 * 0 = 0; rw [Rat.zero_mul, Rat.zero_add]
      · rfl
    rw [hm0, Rat.zero_add]
    simp [cf, List.getD_eq_getElem?_getD, hl]
  obtain ⟨i, bi⟩ := inv_ok (g := 1) bs (by lia) (by rw [h1]; rfl) (by decide) (by decide) (by rw [ls, show e + e + 9 + 9 = e + e + 18 by lia]; lia) (by lia)
  rw [ls, show e + e + 9 + 9 = e + e + 18 by lia] at bi
  have hd := bd_der ha hn
  have hm : min (derL a).length (invL (sqL a)).length ≤ 8 := by rw [lenDerL]; lia
  have bm := bd_mul hd bi hm
  have hl : (mulL (derL a) (invL (sqL a))).length ≤ 8 := by rw [lenMul]; exact hm
  have ba := bd_mul ha ha (by lia)
  exact ⟨⟨mul_ok ha ha (by lia) (by lia), (ba 0).fine (by lia), i, by rw [h1]; decide, mul_ok hd bi hm (by lia), bm.allF (by lia), h0⟩, (bd_intL bm hl).mono (by lia)⟩
theorem cf_take {a : List Rat} {n i : Nat} : cf (a.take n) i = if i < n then cf a i else 0 := by
  by_cases h : i < n
  · rw [if_pos h]; simp [cf, List.getD_eq_getElem?_getD, h]
  · rw [if_neg h, cf_out (by rw [List.length_take]; lia)]
theorem bd_take {a : List Rat} {e n : Nat} (ha : BdL e a) : BdL e (a.take n) := fun i => by
  rw [cf_take]; split
  · exact ha i
  · exact bd_zero _
theorem cf_zeros {n i : Nat} : cf (List.replicate n 0) i = 0 := by
  by_cases h : i < n
  · rw [cf_at (by simpa using h)]; simp
  · rw [cf_out (by simpa using h)]
theorem bd_comp {a b : List Rat} {e o : Nat} (ha : BdL e a) (hb : BdL e b) (ho : o ≤ 8) : ∀ j, BdL ((e + 9) * j + e) (compP a b o j)
  | 0 => fun i => by show Bd _ (cf (List.take o [] ++ List.replicate (o - 0) 0) i); rw [List.take_nil, List.nil_append, cf_zeros]; exact bd_zero _
  | j + 1 => by
    have ih := bd_comp ha hb ho j
    have ek : (e + 9) * (j + 1) = (e + 9) * j + e + 9 := by rw [Nat.mul_add]; lia
    have hm : BdL ((e + 9) * j + e + e + 8) (compM b o (compP a b o j)) := bd_mul ih (bd_take hb) (by rw [List.length_take]; lia)
    exact bd_set (hm.mono (by lia)) (((hm 0).add ((ha _).mono (by lia))).mono (by lia))
theorem comp_bd {a b : List Rat} {e : Nat} (ha : BdL e a) (hb : BdL e b) (hn : min a.length b.length ≤ 8) (h0 : cf b 0 = 0) (he : (e + 9) * min a.length b.length + e + e + 20 ≤ 300) : CompOk a b ∧ BdL ((e + 9) * min a.length b.length + e) (compL a b) := by
  refine ⟨⟨ha.allF (by lia), h0, fun j hj => ?_⟩, bd_comp ha hb hn _⟩
  have hjj : (e + 9) * j ≤ (e + 9) * min a.length b.length := Nat.mul_le_mul_left _ (by lia)
  have x := bd_comp ha hb hn j
  have hm : BdL ((e + 9) * j + e + e + 8) (compM b (min a.length b.length) (compP a b (min a.length b.length) j)) := bd_mul x (bd_take hb) (by rw [List.length_take]; lia)
  exact ⟨mul_ok x (bd_take hb) (by rw [List.length_take]; lia) (by lia), (hm 0).fine (by lia)⟩
end
end Mine
end
section
set_option linter.unusedVariables false
namespace Mine
noncomputable section
theorem w_bd {f b : List Rat} {e e' k : Nat} (hf : BdL e f) (hb : BdL e' b) (hl : f.length = b.length) (hn : b.length ≤ 8) (hk : k = 1 ∨ k = 2 ∨ k = 3) (he : e + 3 * e' + 30 ≤ 300) : WOk 5 k f b ∧ BdL (e + 3 * e' + 30) (wpow 5 k f b) := by
  have l1 : (mulL f b).length = b.length := by rw [lenMul, hl, Nat.min_self]
  have l2 : (mulL b b).length = b.length := by rw [lenMul, Nat.min_self]
  have o1 := mul_ok hf hb (by lia) (by lia)
  have o2 := mul_ok hb hb (by lia) (by lia)
  have b1 := bd_mul hf hb (by lia)
  have b2 := bd_mul hb hb (by lia)
  have o3 := mul_ok hf b2 (by lia) (by lia)
  have o4 := mul_ok b1 b2 (by lia) (by lia)
  rcases hk with rfl | rfl | rfl
  · exact ⟨.inr ⟨fun _ => o1, fun h => absurd h (by decide), .inl rfl⟩, b1.mono (by lia)⟩
  · exact ⟨.inr ⟨fun h => absurd h (by decide), fun _ => o2, .inr ⟨fun _ => o3, fun h => absurd h (by decide), .inl rfl⟩⟩, (bd_mul hf b2 (by lia)).mono (by lia)⟩
  · exact ⟨.inr ⟨fun _ => o1, fun _ => o2, .inr ⟨fun _ => o4, fun h => absurd h (by decide), .inl rfl⟩⟩, (bd_mul b1 b2 (by lia)).mono (by lia)⟩
theorem bd_revR {m : Nat} {t : List Rat} {E : Nat} (ht : BdL E t) (hn : t.length ≤ 8) : ∀ i, BdL ((E + 8) * (i + 1)) (revR m t i)
  | 0 => ht.mono (by lia)
  | i + 1 => by
    have ih := bd_revR (m := m) ht hn i
    have ek : (E + 8) * (i + 1 + 1) = (E + 8) * (i + 1) + E + 8 := by rw [Nat.mul_add]; lia
    unfold revR
    split
    · exact (bd_mul ih ht (by lia)).mono (by lia)
    · exact ih.mono (by lia)
theorem rev_bd {a : List Rat} {e : Nat} {g : Int} (ha : BdL e a) (hn : a.length ≤ 8) (hg : cf (a.drop 1) 0 = g) (h0 : g ≠ 0) (h10 : g.natAbs ≤ 10) (he : ((e + 9) * (a.length - 1) + 8) * (a.length + 1) + 20 ≤ 300) (he' : (e + 9) * (a.length - 1) ≤ 300) (he2 : e ≤ 300) : RevOk a ∧ BdL (((e + 9) * (a.length - 1) + 8) * (a.length + 1) + 20) (revL a) := by
  have ld : (a.drop 1).length = a.length - 1 := by simp
  have hd : BdL e (a.drop 1) := fun i => by
    have : cf (a.drop 1) i = cf a (i + 1) := by simp [cf, List.getD_eq_getElem?_getD, Nat.add_comm]
    rw [this]; exact ha _
  obtain ⟨x, y⟩ := inv_ok hd (by lia) hg h0 h10 (by rw [ld]; exact he') he2
  rw [ld] at y
  have lt : (revT a).length = a.length - 1 := by unfold revT; rw [lenInv, ld]
  have hr := fun i => bd_revR (m := a.length) (t := revT a) y (by lia) i
  generalize hE : (e + 9) * (a.length - 1) + 8 = E at *
  have hle : ∀ i, i < a.length → E * (i + 1) ≤ E * (a.length + 1) ∧ E * (i + 1) + E ≤ E * (a.length + 1) := fun i hi => ⟨Nat.mul_le_mul_left _ (by lia), by rw [← Nat.mul_succ]; exact Nat.mul_le_mul_left _ (by lia)⟩
  refine ⟨⟨x, fun i hi => ⟨(hr i).allF (by have := hle i (by lia); lia), fun h2 => mul_ok (hr i) y (by lia) (by have := hle i (by lia); lia)⟩⟩, ?_⟩
  refine bd_cons (bd_zero _) fun i => ?_
  rw [cf_rng]; split
  · next q => exact (bd_divN (hr i i) (by lia) (by lia)).mono (by have := hle i (by lia); lia)
  · exact bd_zero _
end
end Mine
end
section
open PySem PySem.W PyProof.Rows PySem.Calls PySem.SeqAt
set_option maxRecDepth 100000
set_option linter.unusedVariables false
set_option maxHeartbeats 1000000
namespace Mine
noncomputable section
section
variable {mg : MG} {w : World} {A : Around} {env : Env}
theorem wp_app {M : Model} {Γ : Ctx} {b : List Stmt} {Q : Flow → Pos → Shared → Prop} {E : Value → Pos → Shared → Prop} : ∀ (a : List Stmt) (p : Pos) (s : Shared), Sem.wp M Γ (execs a env) (fun f p' s' => match f with | .next => Sem.wp M Γ (execs b env) Q E p' s' | f => Q f p' s') E p s → Sem.wp M Γ (execs (a ++ b) env) Q E p s
  | [], p, s, h => h
  | st :: a, p, s, h => by
    rw [List.cons_append, execs_cons, Sem.wp_bind']
    rw [execs_cons, Sem.wp_bind'] at h
    refine Sem.wp_mono M Γ _ (fun f p' s' h' => ?_) (fun _ _ _ h' => h') _ _ h
    cases f with
    | next => exact wp_app a p' s' h'
    | _ => exact h'
theorem execs_app {M : Model} {E : Value → Shared → Prop} {Q : Flow → Shared → Prop} {a b : List Stmt} {s : Shared} (h : wpAny M A (execs a env) (fun f s' => match f with | .next => wpAny M A (execs b env) Q E s' | f => Q f s') E s) : wpAny M A (execs (a ++ b) env) Q E s := fun Γ p hΓ =>
  wp_app a p s (Sem.wp_mono M Γ _ (fun f p' s' h' => by
    cases f with
    | next => exact h' Γ p' hΓ
    | _ => exact h') (fun _ _ _ h' => h') _ _ (h Γ p hΓ))
theorem if_true {C : Cx} {h₀ : Base} {ρ : Vars} {ω : Owns} {n : Nat} {t : Expr} {body orelse : List Stmt} {pos : Pos} {s : Shared} {Q : Flow → Shared → Prop} {E : Value → Shared → Prop} (F : Fx mg w A env h₀ C) (S : St h₀ env ρ ω s.heap) (hW : WE C n .truth ρ (strip ω) t fun d _ => d = .bool true)
    (h : ∀ s', Kp s s' → wpAny (model pw w) A (execs body env) Q E s') : wpAny (model pw w) A (exec (.If t body orelse pos) env) Q E s := by
  obtain ⟨d, _, rfl, p, e, q⟩ := we_ok n F hW
  cases e
  exact wpAny_If (wpAny_no (wpAny_q (q s S) fun c s₁ ⟨k, hc⟩ => by subst hc; exact h s₁ k))
theorem D_mem {f : Str} (hl : ((recsOf myView).find? (fun d => d.name == f)).isSome = true) : D f ∈ recsOf myView ∧ (D f).name = f := by
  obtain ⟨y, hy⟩ := Option.isSome_iff_exists.mp hl
  have e : D f = y := by unfold D; rw [hy]; rfl
  rw [e]
  exact ⟨List.mem_of_find?_eq_some hy, beq_iff_eq.mp (List.find?_some (p := fun e : DefRec => e.name == f) hy)⟩
def kDiv : Str := Str.ofString "division by zero"
def Flies (base : Heap) (outer : List Env) (s : Shared) (e : Value) (s' : Shared) : Prop := ∃ x D, e = .ref x ∧ (∃ h' tk, s' = { s with heap := h', toks := tk }) ∧ Fly base outer x D kDiv (some .none) s'.heap ∧ s.heap.UpToSlots s'.heap
theorem fly_of {s s₃ : Shared} {base : Heap} {outer : List Env} {e D : Addr} {k : Str} (kp : Kp s s₃) (hn : s.heap.get? e = none) (hD : s.heap.get? D = none) (hE : Exc s₃.heap e D k) (hst : base.StaysIn s.heap) (hff : s.heap.FunFrames base outer) : Fly base outer e D k none s₃.heap where
  apart := fun hm => by
    obtain ⟨_, o, ho, _⟩ := hff.mem hm
    rw [hD] at ho; cases ho
  stays := fun b o q => kp.get b o (hst b o q)
  new := none_keep hst hn
  frames := hff.of_keeps fun b o q _ => ⟨o, kp.get b o q, rfl⟩
  head := hE.imp fun o => .imp fun vs => .imp fun m => .imp fun t h => ⟨h.1, h.2.1, h.2.2.1, h.2.2.2.1, h.2.2.2.2.1, h.2.2.2.2.2.2.1, h.2.2.2.2.2.2.2, h.2.2.2.2.2.1⟩
theorem sinverse_raises {s : Shared} {vs : List Value} {a : Addr} {base : Heap} {outer : List Env} {b : List Rat} (hA : Ro A 5) (W : Wd mg w s.heap) (hmg : mg (Str.ofString "sinverse") = some (.ref a)) (i : IsAll s.heap.get? vs [L b]) (hb : 0 < b.length ∧ cf b 0 = 0 ∧ b.length ≤ 400)
    (hfr : A.frames = some outer) (hst : base.StaysIn s.heap) (hff : s.heap.FunFrames base outer) : wpAny (model pw w) A (call (.ref a) vs) (fun _ _ => False) (Flies base outer s) s := by
  obtain ⟨hmem, hname⟩ := D_mem (f := Str.ofString "sinverse") rfl
  refine call_core (d := D (Str.ofString "sinverse")) (xs := [Str.ofString "a"]) ⟨rfl, rfl, rfl, rfl, bind1 fun _ _ _ _ => rfl, by decide, rfl⟩ hmem rfl (by have := hA.depth; lia) W (hname.symm ▸ hmg) i fun env s₁ hk hsc hf kp hc S => ?_
  have hA' : Ro (A.deeper env) 4 := hA.deeper env
  have F : Fx mg w (A.deeper env) env (Base.at s.heap) ⟨fun x => (D (Str.ofString "sinverse")).scope.names.lookup x, [(Str.ofString "len", lenS)], [], (D (Str.ofString "sinverse")).scope⟩ := ⟨hk, W, fun x => by show env.scope.names.lookup x = _; rw [hsc], _, hA', spc good_len sp0⟩
  have h1 := szL (a := b) (by lia)
  have i0 : 0 ≤ (0 : Int) ∧ (b.map ratD)[(0 : Int).toNat]? = some (ratD 0) ∧ (b.map ratD).length ≤ 2 ^ 62 := by
    have := it_L (k := 0) (i := 0) rfl hb.1 (by lia)
    rw [hb.2.1] at this; exact this
  refine wpAny_execs_cons (if_true (n := 30) (ω := []) F S ?_ fun s₂ k₂ => wpAny_execs_cons (raise_cas (hA'.mono (by decide)) hk (W.keeps fun b o q => k₂.get _ _ (kp.get b o q)) ((F.kd _).trans rfl) (by decide) (by decide) fun s₃ e D k₃ he hD hE => ?_))
  · refine And.intro h1 (And.intro (fun q => ?_) fun _ => Stop.mk ⟨_, i0, And.intro ⟨rfl, rfl⟩ ?_⟩)
    · have := of_decide_eq_false q
      rw [List.length_map] at this; lia
    · show PyData.bool (PyData.eqv (ratD 0) (ratD 0)) = .bool true
      rw [eqv_rat]; simp
  · have ks₂ := kp.trans k₂
    have ff : s₂.heap.FunFrames base (env :: outer) := by
      obtain ⟨m, ns⟩ := (S.keeps k₂.get).ns
      exact Heap.FunFrames.cons (by rw [hk.kind]; decide) hf ns (none_keep hst S.fresh) (hff.of_keeps fun b o q _ => ⟨o, ks₂.get b o q, rfl⟩)
    refine leave_at (Around.frames_deeper hfr) hf (fly_of k₃ he hD hE (fun b o q => ks₂.get b o (hst b o q)) ff) (.inl rfl) fun h' F' up => ⟨e, D, rfl, ?_, F', ?_⟩
    · obtain ⟨h₃, t₃, rfl, _⟩ := ks₂.trans k₃
      exact ⟨h', t₃, rfl⟩
    · exact (Heap.UpToSlots.of_keeps (ks₂.trans k₃).get).trans up
theorem call_raises {s : Shared} {fn : Str} {np pos : Pos} {e : Expr} {es : List Expr} {ds : List PyData} {Q E : Value → Shared → Prop} (hk : EnvOk env) (W : Wd mg w s.heap) (hx : env.kindOf fn = some .globalImplicit) (hfn : ((recsOf myView).any fun d => d.name == fn) = true)
    (x : wpAny (model pw w) A (spliced (backTo pos (starEach (e :: es) env))) (fun vs s' => Kp s s' ∧ IsAll s'.heap.get? vs ds) No s)
    (t : ∀ a s₁ vs, mg fn = some (.ref a) → Kp s s₁ → IsAll s₁.heap.get? vs ds → wpAny (model pw w) A (call (.ref a) vs) Q E s₁)
    (he : starEach (e :: es) env = (false, eval e env) :: starEach es env) (hplain : (backTo pos (starEach es env)).any (·.1) = false) (hdb : (fn == ("__debug__" : Str)) = false) :
    wpAny (model pw w) A (eval (.Call (.Name fn np) (e :: es) [] pos) env) Q E s := by
  obtain ⟨a, o, fd, hg, ho, hd⟩ := fn_at hfn W
  refine wpAny_Call_ofName (load_global hk W hx hg ?_ hdb)
  rw [he] at x ⊢
  refine callWith_of (P := fun h => h.get? a = some o) (by show ((false || (backTo pos (starEach es env)).any (·.1)) || false) = false; rw [hplain]; rfl) (fun h e => ⟨.frame, .inl rfl, keeper_fn e hd⟩) ?_
  exact evalArgs_plain (wpAny_no (wpAny_q x fun vs s₁ ⟨k₁, i₁⟩ => ⟨k₁.get _ _ ho, t a s₁ vs hg k₁ i₁⟩))
theorem call_raisesW {C : Cx} {h₀ : Base} {ρ : Vars} {ω : Owns} {n : Nat} {s : Shared} {fn : Str} {np pos : Pos} {e : Expr} {es : List Expr} (ds : List PyData) {Q E : Value → Shared → Prop} (F : Fx mg w A env h₀ C) (S : St h₀ env ρ ω s.heap) (hW : WLs (WE C n .val ρ (strip ω)) (e :: es) fun ds' => ds' = ds) (hx : C.kd fn = some .globalImplicit)
    (hfn : ((recsOf myView).any fun d => d.name == fn) = true) (t : ∀ a s₁ vs, mg fn = some (.ref a) → Kp s s₁ → IsAll s₁.heap.get? vs ds → wpAny (model pw w) A (call (.ref a) vs) Q E s₁) (hdb : (fn == ("__debug__" : Str)) = false) :
    wpAny (model pw w) A (eval (.Call (.Name fn np) (e :: es) [] pos) env) Q E s := by
  obtain ⟨ds', hds, _, y, he, hp⟩ := args_ok (pos := pos) (f := WE C n .val ρ (strip ω)) (fun e post h => we_ok n F h) (fun _ _ _ => we_noStar) hW
  subst hds
  have he' := he _ _ rfl
  exact call_raises F.hk (F.W.keeps S.keep) ((F.kd _).trans hx) hfn (y s S) t he' (by rw [he'] at hp; exact hp) hdb
theorem frames_on {s s₁ : Shared} {h₀ : Base} {ρ : Vars} {ω : Owns} {base : Heap} {outer : List Env} (hk : EnvOk env) (hf : env.frame = some env.locals) (S : St h₀ env ρ ω s₁.heap) (hb : base.get? env.locals = none) (hff : s.heap.FunFrames base outer) (kp : Kp s s₁) : s₁.heap.FunFrames base (env :: outer) := by
  obtain ⟨m, ns⟩ := S.ns
  exact Heap.FunFrames.cons (by rw [hk.kind]; decide) hf ns hb (hff.of_keeps fun b o q _ => ⟨o, kp.get b o q, rfl⟩)
theorem sreverse_raises {s : Shared} {vs : List Value} {a : Addr} {base : Heap} {outer : List Env} {b : List Rat} (hA : Ro A 7) (W : Wd mg w s.heap) (hmg : mg (Str.ofString "sreverse") = some (.ref a)) (i : IsAll s.heap.get? vs [L b]) (hb : 2 ≤ b.length ∧ cf b 0 = 0 ∧ cf (b.drop 1) 0 = 0 ∧ b.length ≤ 400)
    (hfr : A.frames = some outer) (hst : base.StaysIn s.heap) (hff : s.heap.FunFrames base outer) : wpAny (model pw w) A (call (.ref a) vs) (fun _ _ => False) (Flies base outer s) s := by
  obtain ⟨hmem, hname⟩ := D_mem (f := Str.ofString "sreverse") rfl
  refine call_core (d := D (Str.ofString "sreverse")) (xs := [Str.ofString "a"]) ⟨rfl, rfl, rfl, rfl, bind1 fun _ _ _ _ => rfl, by decide, rfl⟩ hmem rfl (by have := hA.depth; lia) W (hname.symm ▸ hmg) i fun env s₁ hk hsc hf kp hc S => ?_
  have hA' : Ro (A.deeper env) 6 := hA.deeper env
  have F : Fx mg w (A.deeper env) env (Base.at s.heap) ⟨fun x => (D (Str.ofString "sreverse")).scope.names.lookup x, [(Str.ofString "len", lenS), (Str.ofString "need_begin", needS)], [], (D (Str.ofString "sreverse")).scope⟩ := ⟨hk, W, fun x => by show env.scope.names.lookup x = _; rw [hsc], 6, hA', spc good_len (spc ((good_need (n := 4)).more (by decide)) sp0)⟩
  have h1 := szL (a := b) (by lia)
  show wpAny _ _ (execs (_ :: _ :: _ :: _) env) _ _ _
  refine execs_app (a := [_, _]) (wpAny_no (wpAny_q (ws_ok 30 (ω := []) (nx := fun ρ' ω' => ρ' = [(Str.ofString "a", L b)] ∧ ω' = []) (rt := fun _ _ => False) F hsc ?_ s₁ S) fun f s₂ ⟨m, p⟩ => ?_))
  · refine Stop.mk ⟨b, 0, rfl, ⟨by lia, fine0, fun _ => hb.2.1⟩, And.intro h1 (And.intro (fun q => ?_) fun _ => And.intro rfl rfl)⟩
    have := of_decide_eq_true q
    rw [List.length_map] at this; lia
  · have ks₂ := S.kp kp hc m
    cases f with
    | brk => exact p.elim
    | cont => exact p.elim
    | ret v => obtain ⟨_, _, q, _⟩ := p; exact q.elim
    | next =>
      obtain ⟨ρ', ω', ⟨rfl, e2⟩, S₂⟩ := p
      obtain rfl : ω' = [] := List.map_eq_nil_iff.mp e2
      refine wpAny_execs_cons (wpAny_Assign_Name (wpAny_mono (call_raisesW (n := 30) (ω := []) [L (b.drop 1)] (E := fun e s' => ∃ s₃, Kp s s₃ ∧ Flies base (env :: outer) s₃ e s') F S₂ ?_ rfl rfl (fun a' s₃ vs' hg' k₃ i₃ => wpAny_mono (sinverse_raises (hA'.mono (by decide)) (W.keeps (ks₂.trans k₃).get) hg' i₃ ⟨by rw [List.length_drop]; lia, hb.2.2.1, by rw [List.length_drop]; lia⟩ (Around.frames_deeper hfr) (fun b o q => (ks₂.trans k₃).get b o (hst b o q)) (frames_on hk hf (S₂.keeps k₃.get) (none_keep hst S.fresh) hff (ks₂.trans k₃))) (fun _ _ x => x) fun _ _ x => ⟨s₃, ks₂.trans k₃, x⟩) (by decide)) (fun _ _ x => x.elim) fun e s₄ x => ?_) rfl)
      · exact And.intro (Nat.le_trans h1 (by decide)) (by show [PyData.list ((b.map ratD).drop 1)] = [L (b.drop 1)]; rw [← List.map_drop])
      obtain ⟨s₃, k₃, x, D, rfl, ⟨h', tk', rfl⟩, F', up⟩ := x
      obtain ⟨h₃, t₃, rfl, k₃⟩ := k₃
      exact leave_at (Around.frames_deeper hfr) hf F' (.inr rfl) fun h'' F'' up' => ⟨x, D, rfl, ⟨h'', _, rfl⟩, F'', (Heap.UpToSlots.of_keeps k₃).trans (up.trans up')⟩
end
end
end Mine
end
section
open PySem PySem.W PyProof.Rows PySem.Calls PySem.SeqAt
set_option maxRecDepth 100000
set_option linter.unusedVariables false
set_option maxHeartbeats 1000000
namespace Mine
noncomputable section
section
variable {mg : MG} {w : World} {A : Around} {env : Env}
theorem canL : ∀ a : List Rat, PyData.canLayAll0 (a.map ratD) = true ∧ PyData.depthAll (a.map ratD) ≤ 1
  | [] => ⟨rfl, by decide⟩
  | q :: a => by
    obtain ⟨h1, h2⟩ := canL a
    refine ⟨?_, ?_⟩
    · rw [List.map_cons, PyData.canLayAll0, h1]; rfl
    · rw [List.map_cons, PyData.depthAll]
      have : PyData.depth (ratD q) = 1 := rfl
      lia
theorem shapedL (a : List Rat) : shaped (L a) = true := by
  obtain ⟨h1, h2⟩ := canL a
  unfold shaped
  rw [show PyData.canLay0 (L a) = true from h1, show PyData.depth (L a) = PyData.depthAll (a.map ratD) + 1 from rfl]
  simp; lia
theorem eqvL (a : List Rat) : PyData.eqv (L a) (L a) = true := eqv_refl _ (canL a).1
theorem eqvL' {a b : List Rat} (h : a = b) : PyData.eqv (L a) (L b) = true := h ▸ eqvL a
theorem nevL {a b : List Rat} (h : a = b) : (!PyData.eqv (L a) (L b)) = false := by rw [eqvL' h]; rfl
def lowL (a : List Rat) (c : Int) : List Rat := a.map fun q => Rat.divInt q.num (q.den * c)
def sclL (a : List Rat) (c : Int) : List Rat := a.map fun q => (c : Rat) * q
structure RevIn (x r : List Rat) : Prop where
  len : x.length ≤ 100
  two : 2 ≤ x.length
  zero : cf x 0 = 0
  one : cf (x.drop 1) 0 ≠ 0
  ok : RevOk x
  is : revL x = r
structure RightOk (a : List Rat) (c : Int) (told : List Rat) : Prop where
  len : a.length ≤ 100
  lent : told.length ≤ 100
  fa : AllF a
  ft : AllF told
  whole : ∀ q ∈ a, q.den = 1
  two : 2 ≤ a.length
  c3 : c.natAbs ≤ 3
  c0 : c ≠ 0
  long : RevIn (longL a c 1) (lowL told c)
  scl : RevIn (sclL a c) (longL told 1 c)
  zero : cf a 0 = 0
theorem scl_elt {c : Int} {q : Rat} (h : q.den = 1) : PyData.tuple [.int (c * q.num), .int 1] = ratD ((c : Rat) * q) := by
  have e : (c : Rat) * q = ((c * q.num : Int) : Rat) := by
    rw [Rat.intCast_mul]
    congr 1
    exact Rat.ext (Rat.num_intCast _).symm (h.trans (Rat.den_intCast _).symm)
  rw [e]; rfl
theorem map_at {f : Rat → Rat} {a : List Rat} {i : Nat} {r : PyData} (h : ((a.map f).map ratD)[i]? = some r) : i < a.length ∧ r = ratD (f (cf a i)) := by
  obtain ⟨h1, h2⟩ := L_at h
  have h1 : i < a.length := by simpa using h1
  refine ⟨h1, ?_⟩
  rw [h2]; simp [cf, List.getD_eq_getElem?_getD, h1]
theorem cf_app {a b : List Rat} {k : Nat} : cf (a ++ b) k = if k < a.length then cf a k else cf b (k - a.length) := by
  simp only [cf, List.getD_eq_getElem?_getD, List.getElem?_append]
  split <;> rfl
theorem cf_wideP (a : List Rat) : ∀ (n k : Nat), k < 2 * n → cf (wideP a n) k = if k % 2 = 0 then cf a (k / 2) else 0
  | n + 1, k, h => by
    show cf (wideP a n ++ [cf a n, 0]) k = _
    rw [cf_app, lenWideP]
    by_cases hk : k < 2 * n
    · rw [if_pos hk, cf_wideP a n k hk]
    · rw [if_neg hk]
      have : k = 2 * n ∨ k = 2 * n + 1 := by lia
      rcases this with rfl | rfl
      · rw [Nat.sub_self, if_pos (by lia), show 2 * n / 2 = n by lia]; rfl
      · rw [show 2 * n + 1 - 2 * n = 1 by lia, if_neg (by lia)]; rfl
theorem lenWide (a : List Rat) : (wideL a).length = 2 * a.length - 1 := by
  unfold wideL; rw [List.length_take, lenWideP]; lia
theorem cf_wide (a : List Rat) {k : Nat} (h : k < 2 * a.length - 1) : cf (wideL a) k = if k % 2 = 0 then cf a (k / 2) else 0 := by
  rw [← cf_wideP a a.length k (by lia)]
  simp only [wideL, cf, List.getD_eq_getElem?_getD, List.getElem?_take]
  rw [if_pos h]
theorem cf_drop (a : List Rat) (k : Nat) : cf (a.drop 1) k = cf a (k + 1) := by
  simp only [cf, List.getD_eq_getElem?_getD, List.getElem?_drop]
  rw [Nat.add_comm]
theorem right_tells {s : Shared} {vs : List Value} {f : Addr} {base : Heap} {outer : List Env} {a told : List Rat} {c : Int} (hA : Ro A 11) (W : Wd mg w s.heap) (hmg : mg (Str.ofString "_law_reverse_right") = some (.ref f)) (i : IsAll s.heap.get? vs [L a, .int c, L told]) (ok : RightOk a c told)
    (hfr : A.frames = some outer) (hst : base.StaysIn s.heap) (hff : s.heap.FunFrames base outer) (W0 : Wd mg w base) : wpAny (model pw w) A (call (.ref f) vs) (fun v s' => v = .bool true ∧ ∃ h' tk, s' = { s with heap := h', toks := tk } ∧ base.StaysIn h') No s := by
  obtain ⟨hmem, hname⟩ := D_mem (f := Str.ofString "_law_reverse_right") rfl
  refine call_core (d := D (Str.ofString "_law_reverse_right")) (xs := [Str.ofString "a", Str.ofString "c", Str.ofString "told"]) ⟨rfl, rfl, rfl, rfl, bind3 fun _ _ _ _ _ _ => rfl, by decide, rfl⟩ hmem rfl (by have := hA.depth; lia) W (hname.symm ▸ hmg) i fun env s₁ hk hsc hf kp hc S => wpAny_no ?_
  have hA' : Ro (A.deeper env) 10 := hA.deeper env
  have gv : Good mg w 4 (Str.ofString "let") letS := (good_let (n := 2) good_vast).more (by decide)
  have F : Fx mg w (A.deeper env) env (Base.at s.heap) ⟨fun x => (D (Str.ofString "_law_reverse_right")).scope.names.lookup x, [(Str.ofString "sreverse", sreverseS), (Str.ofString "_law_long", longS), (Str.ofString "_law_lowest", ratS), (Str.ofString "_law_wide", wideS)], [], (D (Str.ofString "_law_reverse_right")).scope⟩ :=
    ⟨hk, W, fun x => by show env.scope.names.lookup x = _; rw [hsc], 10, hA', spc ((good_sreverse (n := 0) gv).more (by decide)) (spc ((good_long (n := 0)).more (by decide)) (spc ((good_lowest (n := 0)).more (by decide)) (spc ((good_wide (n := 0)).more (by decide)) sp0)))⟩
  show wpAny _ _ (execs (_ :: _ :: _ :: _) env) _ _ _
  refine execs_app (a := [_, _]) (wpAny_q (ws_ok 30 (ω := []) (nx := fun ρ' ω' => ρ' = [(Str.ofString "a", L a), (Str.ofString "c", .int c), (Str.ofString "told", L told)] ∧ ω' = []) (rt := fun _ _ => False) F hsc ?_ s₁ S) fun f s₂ ⟨m, p⟩ => ?_)
  · refine Stop.mk ⟨a, c, 1, rfl, ⟨ok.len, ok.fa, ok.c3, by decide, by decide⟩, Stop.mk ⟨longL a c 1, rfl, ⟨Nat.le_trans ok.long.len (by decide), ok.long.two, ok.long.zero, ok.long.one, ok.long.ok⟩, Stop.mk ⟨(lowL told c).map ratD, ⟨?_, ?_, flatL _⟩, fun i d r hd hr => ?_, And.intro ⟨shapedL _, shapedL _⟩ (And.intro (fun q => ?_) fun _ => ?_)⟩⟩⟩
    · rw [List.length_map]; exact Nat.le_trans ok.lent (by decide)
    · simp [lowL]
    · obtain ⟨hi, rfl⟩ := L_at hd
      obtain ⟨_, rfl⟩ := map_at hr
      exact And.intro (mulF (ok.ft i).dn (smallF (Nat.le_trans ok.c3 (by decide)))) (And.intro ⟨Int.mul_ne_zero (den0 _) ok.c0, by rw [Int.natAbs_mul]; exact mul_lt (by simpa using (ok.ft i).2) (Nat.lt_of_le_of_lt ok.c3 (show 3 < 2 ^ 2 by decide)) (by decide)⟩ rfl)
    · have := nevL ok.long.is
      exact absurd (q.symm.trans this) (by decide)
    · refine Stop.mk ⟨(sclL a c).map ratD, ⟨?_, ?_, flatL _⟩, fun i d r hd hr => ?_, Stop.mk ⟨sclL a c, rfl, ⟨Nat.le_trans ok.scl.len (by decide), ok.scl.two, ok.scl.zero, ok.scl.one, ok.scl.ok⟩, Stop.mk ⟨told, 1, c, rfl, ⟨ok.lent, ok.ft, by decide, ok.c3, ok.c0⟩, And.intro ⟨shapedL _, shapedL _⟩ (And.intro (fun q => ?_) fun _ => And.intro rfl rfl)⟩⟩⟩
      · rw [List.length_map]; exact Nat.le_trans ok.len (by decide)
      · simp [sclL]
      · obtain ⟨hi, rfl⟩ := L_at hd
        obtain ⟨_, rfl⟩ := map_at hr
        have hm : cf a i ∈ a := by
          simp only [cf, List.getD_eq_getElem?_getD, List.getElem?_eq_getElem hi, Option.getD_some]
          exact List.getElem_mem hi
        exact And.intro (mulF (smallF (Nat.le_trans ok.c3 (by decide))) (ok.fa i).1) (scl_elt (ok.whole _ hm))
      · have := nevL ok.scl.is
        exact absurd (q.symm.trans this) (by decide)
  · have ks₂ := S.kp kp hc m
    cases f with
    | brk => exact p.elim
    | cont => exact p.elim
    | ret v => obtain ⟨_, _, q, _⟩ := p; exact q.elim
    | next =>
      obtain ⟨ρ', ω', ⟨rfl, e2⟩, S₂⟩ := p
      obtain rfl : ω' = [] := List.map_eq_nil_iff.mp e2
      have hd2 : 2 ≤ (wideL a).length ∧ cf (wideL a) 0 = 0 ∧ cf ((wideL a).drop 1) 0 = 0 ∧ (wideL a).length ≤ 400 := by
        have h1 := ok.two
        have h2 := ok.len
        rw [lenWide, cf_drop, cf_wide a (by lia), cf_wide a (by lia)]
        exact ⟨by lia, ok.zero, rfl, by lia⟩
      refine wpAny_execs_cons (wpAny_Try_except (wpAny_execs_cons (wpAny_Expr (wpAny_mono (call_raisesW (n := 30) (ω := []) [L (wideL a)] (E := fun e s' => ∃ s₃, Kp s s₃ ∧ (∃ m, s₃.heap.Ns env.locals m) ∧ Flies base (env :: outer) s₃ e s') F S₂ ?_ rfl rfl (fun a' s₃ vs' hg' k₃ i₃ => wpAny_mono (sreverse_raises (hA'.mono (by decide)) (W.keeps (ks₂.trans k₃).get) hg' i₃ hd2 (Around.frames_deeper hfr) (fun b o q => (ks₂.trans k₃).get b o (hst b o q)) (frames_on hk hf (S₂.keeps k₃.get) (none_keep hst S.fresh) hff (ks₂.trans k₃))) (fun _ _ x => x) fun _ _ x => ⟨s₃, ks₂.trans k₃, (S₂.keeps k₃.get).ns, x⟩) (by decide)) (fun _ _ x => x.elim) fun e s₄ x => ?_) (by unfold interactive; rw [hk.kind]; rfl) rfl)))
      · exact Stop.mk ⟨a, rfl, ok.len, rfl⟩
      · obtain ⟨s₃, k₃, ⟨mL, ns⟩, x, D, rfl, ⟨h', tk', rfl⟩, F', up⟩ := x
        obtain ⟨h₃, t₃, rfl, k₃⟩ := k₃
        exact caught (Around.frames_deeper hfr) hf hk W0 (none_keep hst S.fresh) F' (up.ns ns) ((F.kd _).trans rfl) ((F.kd _).trans rfl) (by decide) fun h'' tk'' st => ⟨rfl, h'', tk'', rfl, st⟩
end
end
end Mine
end
section
set_option linter.unusedVariables false
namespace Mine
noncomputable section
theorem zdiv (q : Rat) : 0 / q = 0 := by rw [Rat.div_def, Rat.zero_mul]
/-- b is a with c x for x -/
def Lg (c : Rat) (a b : List Rat) : Prop := b.length = a.length ∧ ∀ i, cf b i = c ^ i * cf a i
theorem rat_eq {q : Rat} {m n : Int} (hn : n ≠ 0) : Rat.divInt (q.num * m) (q.den * n) = q * m / n := by
  rw [Rat.divInt_eq_div, Rat.intCast_mul, Rat.intCast_mul]
  have h1 : q = (q.num : Rat) / ((q.den : Int) : Rat) := by rw [← Rat.divInt_eq_div, Rat.num_divInt_den]
  have h2 : ((q.den : Int) : Rat) ≠ 0 := fun h => den0 q (Rat.intCast_inj.mp h)
  have h3 : (n : Rat) ≠ 0 := fun h => hn (Rat.intCast_inj.mp h)
  conv => rhs; rw [h1]
  grind
theorem lg_long (a : List Rat) (c : Int) : Lg c a (longL a c 1) := by
  refine ⟨by simp [longL], fun i => ?_⟩
  unfold longL; rw [cf_rng]; split
  · rw [Int.one_pow, rat_eq (by decide)]
    rw [Rat.intCast_pow]
    have : ((1 : Int) : Rat) = 1 := rfl
    rw [this]; grind
  · next h => rw [cf_out (by lia), Rat.mul_zero]
theorem Lg.eq {c : Int} {a b : List Rat} (x : Lg c a b) : b = longL a c 1 := by
  obtain ⟨h1, h2⟩ := lg_long a c
  refine List.ext_getElem (by rw [x.1, h1]) fun i hi hj => ?_
  rw [← cf_at hi, ← cf_at hj, x.2, h2]
theorem pow_add' (c : Rat) (i : Nat) : ∀ j, c ^ (i + j) = c ^ i * c ^ j
  | 0 => by rw [Nat.add_zero, Rat.pow_zero, Rat.mul_one]
  | j + 1 => by rw [← Nat.add_assoc, Rat.pow_succ, Rat.pow_succ, pow_add' c i j, Rat.mul_assoc]
theorem pow_split {c : Rat} {i j k : Nat} (h : i + j = k) : c ^ k = c ^ i * c ^ j := by subst h; exact pow_add' c i j
theorem lg_mixP {c : Rat} {a a' b b' : List Rat} (x : Lg c a a') (y : Lg c b b') (k : Nat) : ∀ j, j ≤ k + 1 → mixP a' b' k j = c ^ k * mixP a b k j
  | 0, _ => by show (0 : Rat) = _ * 0; rw [Rat.mul_zero]
  | j + 1, h => by
    show mixP a' b' k j + cf a' j * cf b' (k - j) = _ * (mixP a b k j + cf a j * cf b (k - j))
    rw [lg_mixP x y k j (by lia), x.2, y.2, pow_split (c := c) (show j + (k - j) = k by lia)]
    grind
theorem lg_mul {c : Rat} {a a' b b' : List Rat} (x : Lg c a a') (y : Lg c b b') : Lg c (mulL a b) (mulL a' b') := by
  refine ⟨by rw [lenMul, lenMul, x.1, y.1], fun i => ?_⟩
  unfold mulL; rw [cf_rng, cf_rng, x.1, y.1]; split
  · exact lg_mixP x y i (i + 1) (Nat.le_refl _)
  · rw [Rat.mul_zero]
theorem lg_addP {c : Rat} {f g : Nat → Rat} {z z' : Rat} {k : Nat} (hz : z' = c ^ k * z) (h : ∀ s, 0 < s → s ≤ k → g s = c ^ k * f s) : ∀ j, j ≤ k → addP g z' j = c ^ k * addP f z j
  | 0, _ => hz
  | j + 1, q => by
    show addP g z' j + g (j + 1) = _ * (addP f z j + f (j + 1))
    rw [lg_addP hz h j (by lia), h (j + 1) (by lia) q]; grind
theorem lg_subP {c : Rat} {f g : Nat → Rat} {z z' : Rat} {k : Nat} (hz : z' = c ^ k * z) (h : ∀ s, 0 < s → s ≤ k → g s = c ^ k * f s) : ∀ j, j ≤ k → subP g z' j = c ^ k * subP f z j
  | 0, _ => hz
  | j + 1, q => by
    show subP g z' j - g (j + 1) = _ * (subP f z j - f (j + 1))
    rw [lg_subP hz h j (by lia), h (j + 1) (by lia) q]; grind
theorem lg_snoc {c : Rat} {a b : List Rat} {u v : Rat} (x : Lg c a b) (h : v = c ^ a.length * u) : Lg c (a ++ [u]) (b ++ [v]) := by
  refine ⟨by simp [x.1], fun i => ?_⟩
  rw [cf_snoc, cf_snoc, x.1]; split
  · exact x.2 i
  · split
    · next q => rw [q]; exact h
    · rw [Rat.mul_zero]
theorem lg_build {c : Rat} {f g : List Rat → Rat} {n : Nat} (h : ∀ l l', Lg c l l' → g l' = c ^ l.length * f l) : ∀ n, Lg c (build f n) (build g n)
  | 0 => ⟨rfl, fun i => by show (0 : Rat) = _ * 0; rw [Rat.mul_zero]⟩
  | n + 1 => lg_snoc (lg_build (n := n) h n) (h _ _ (lg_build (n := n) h n))
end
end Mine
end
section
set_option linter.unusedVariables false
namespace Mine
noncomputable section
theorem lg_one0 {c : Rat} (k : Nat) : one0 k = c ^ k * one0 k := by
  unfold one0; split
  · next h => rw [h, Rat.pow_zero, Rat.mul_one]
  · rw [Rat.mul_zero]
theorem lg_tm {c : Rat} {a a' l l' : List Rat} (x : Lg c a a') (y : Lg c l l') {k s : Nat} (h : s ≤ k) (u : Rat) : (u * cf a' s) * cf l' (k - s) = c ^ k * ((u * cf a s) * cf l (k - s)) := by
  rw [x.2, y.2, pow_split (c := c) (show s + (k - s) = k by lia)]; grind
theorem lg_inv {c : Rat} {a a' : List Rat} (x : Lg c a a') : Lg c (invL a) (invL a') := by
  unfold invL
  rw [x.1]
  refine lg_build (n := 0) (fun l l' y => ?_) _
  unfold invF
  rw [y.1, x.2 0, Rat.pow_zero, Rat.one_mul, lg_subP (k := l.length) (c := c) (lg_one0 _) (fun s _ hs => ?_) _ (Nat.le_refl _), Rat.div_def, Rat.div_def, Rat.mul_assoc]
  show cf a' s * cf l' (l'.length - s) = _ * (cf a s * cf l (l.length - s))
  have := lg_tm x y hs 1
  rw [y.1]; rw [Rat.one_mul, Rat.one_mul] at this; exact this
theorem lg_exp {c : Rat} {a a' : List Rat} (x : Lg c a a') : Lg c (expL a) (expL a') := by
  unfold expL
  rw [x.1]
  refine lg_build (n := 0) (fun l l' y => ?_) _
  unfold expF
  rw [y.1]
  split
  · next h => rw [h, Rat.pow_zero, Rat.mul_one]
  · rw [lg_addP (k := l.length) (c := c) (Rat.mul_zero _).symm (fun s _ hs => ?_) _ (Nat.le_refl _), Rat.div_def, Rat.div_def, Rat.mul_assoc]
    show (nat s * cf a' s) * cf l' (l'.length - s) = _ * ((nat s * cf a s) * cf l (l.length - s))
    rw [y.1]; exact lg_tm x y hs _
theorem lg_pow {c q : Rat} {a a' : List Rat} (x : Lg c a a') : Lg c (powL q a) (powL q a') := by
  unfold powL
  rw [x.1]
  refine lg_build (n := 0) (fun l l' y => ?_) _
  unfold powF
  rw [y.1]
  split
  · next h => rw [h, Rat.pow_zero, Rat.mul_one]
  · rw [lg_addP (k := l.length) (c := c) (Rat.mul_zero _).symm (fun s _ hs => ?_) _ (Nat.le_refl _), Rat.div_def, Rat.div_def, Rat.mul_assoc]
    show ((q * nat s - nat (l'.length - s)) * cf a' s) * cf l' (l'.length - s) = _ * (((q * nat s - nat (l.length - s)) * cf a s) * cf l (l.length - s))
    rw [y.1]; exact lg_tm x y hs _
end
end Mine
end
section
set_option linter.unusedVariables false
namespace Mine
noncomputable section
theorem lg_sinV {c : Rat} {a a' l l' : List Rat} (x : Lg c a a') (y : Lg c l l') (k : Nat) : sinV a' l' k = c ^ k * sinV a l k := by
  unfold sinV; split
  · rw [Rat.mul_zero]
  · rw [lg_addP (k := k) (c := c) (f := trT a l k) (g := trT a' l' k) (Rat.mul_zero _).symm (fun s _ hs => lg_tm x y hs _) _ (Nat.le_refl _), Rat.div_def, Rat.div_def, Rat.mul_assoc]
theorem lg_cosV {c : Rat} {a a' l l' : List Rat} (x : Lg c a a') (y : Lg c l l') (k : Nat) : cosV a' l' k = c ^ k * cosV a l k := by
  unfold cosV; split
  · next h => rw [h, Rat.pow_zero, Rat.mul_one]
  · rw [lg_subP (k := k) (c := c) (f := trT a l k) (g := trT a' l' k) (Rat.mul_zero _).symm (fun s _ hs => lg_tm x y hs _) _ (Nat.le_refl _), Rat.div_def, Rat.div_def, Rat.mul_assoc]
theorem lg_trig {c : Rat} {a a' : List Rat} (x : Lg c a a') : ∀ k, Lg c (trig a k).1 (trig a' k).1 ∧ Lg c (trig a k).2 (trig a' k).2
  | 0 => ⟨⟨rfl, fun i => by show (0 : Rat) = _ * 0; rw [Rat.mul_zero]⟩, ⟨rfl, fun i => by show (0 : Rat) = _ * 0; rw [Rat.mul_zero]⟩⟩
  | k + 1 => by
    obtain ⟨p, q⟩ := lg_trig x k
    exact ⟨lg_snoc p (by rw [(lenTrig a k).1]; exact lg_sinV x q k), lg_snoc q (by rw [(lenTrig a k).2]; exact lg_cosV x p k)⟩
/-- behind a derivative -/
def Ld (c : Rat) (a b : List Rat) : Prop := b.length = a.length ∧ ∀ i, cf b i = c ^ (i + 1) * cf a i
theorem ld_der {c : Rat} {a a' : List Rat} (x : Lg c a a') : Ld c (derL a) (derL a') := by
  refine ⟨by rw [lenDer, lenDer, x.1], fun i => ?_⟩
  unfold derL; rw [cf_rng, cf_rng, x.1]; split
  · rw [x.2]; grind
  · rw [Rat.mul_zero]
theorem ld_mixP {c : Rat} {a a' b b' : List Rat} (x : Ld c a a') (y : Lg c b b') (k : Nat) : ∀ j, j ≤ k + 1 → mixP a' b' k j = c ^ (k + 1) * mixP a b k j
  | 0, _ => by show (0 : Rat) = _ * 0; rw [Rat.mul_zero]
  | j + 1, h => by
    show mixP a' b' k j + cf a' j * cf b' (k - j) = _ * (mixP a b k j + cf a j * cf b (k - j))
    rw [ld_mixP x y k j (by lia), x.2, y.2, pow_split (c := c) (show (j + 1) + (k - j) = k + 1 by lia)]
    grind
theorem ld_mul {c : Rat} {a a' b b' : List Rat} (x : Ld c a a') (y : Lg c b b') : Ld c (mulL a b) (mulL a' b') := by
  refine ⟨by rw [lenMul, lenMul, x.1, y.1], fun i => ?_⟩
  unfold mulL; rw [cf_rng, cf_rng, x.1, y.1]; split
  · exact ld_mixP x y i (i + 1) (Nat.le_refl _)
  · rw [Rat.mul_zero]
theorem lg_int {c : Rat} {a a' : List Rat} (x : Ld c a a') : Lg c (intL a) (intL a') := by
  refine ⟨by simp [intL, x.1], fun i => ?_⟩
  unfold intL
  rw [cf_cons, cf_cons]; split
  · rw [Rat.mul_zero]
  · next h =>
    rw [cf_rng, cf_rng, x.1]; split
    · rw [x.2, show i - 1 + 1 = i by lia, Rat.div_def, Rat.div_def, Rat.mul_assoc]
    · rw [Rat.mul_zero]
theorem lg_log {c : Rat} {a a' : List Rat} (x : Lg c a a') : Lg c (logL a) (logL a') := lg_int (ld_mul (ld_der x) (lg_inv x))
theorem cf_set {a : List Rat} {v : Rat} {i : Nat} : cf (a.set 0 v) i = if i = 0 ∧ 0 < a.length then v else cf a i := by
  cases a with
  | nil => rw [if_neg (by simp)]; rfl
  | cons y l => cases i with
    | zero => rw [if_pos (by simp)]; rfl
    | succ i => rw [if_neg (by simp)]; rfl
theorem lg_set {c : Rat} {a a' : List Rat} {u : Rat} (x : Lg c a a') : Lg c (a.set 0 (cf a 0 + u)) (a'.set 0 (cf a' 0 + u)) := by
  refine ⟨by rw [List.length_set, List.length_set, x.1], fun i => ?_⟩
  rw [cf_set, cf_set, x.1]; split
  · next h => rw [h.1, x.2 0, Rat.pow_zero, Rat.one_mul, Rat.one_mul]
  · exact x.2 i
theorem lg_sq {c : Rat} {a a' : List Rat} (x : Lg c a a') : Lg c (sqL a) (sqL a') := lg_set (lg_mul x x)
theorem lg_atan {c : Rat} {a a' : List Rat} (x : Lg c a a') : Lg c (atanL a) (atanL a') := lg_int (ld_mul (ld_der x) (lg_inv (lg_sq x)))
end
end Mine
end
section
set_option linter.unusedVariables false
namespace Mine
noncomputable section
theorem lg_take {c : Rat} {a a' : List Rat} (x : Lg c a a') (n : Nat) : Lg c (a.take n) (a'.take n) := by
  refine ⟨by rw [List.length_take, List.length_take, x.1], fun i => ?_⟩
  rw [cf_take, cf_take]; split
  · exact x.2 i
  · rw [Rat.mul_zero]
theorem lg_comp {c : Rat} {e b b' : List Rat} {o : Nat} (x : Lg c b b') : ∀ j, Lg c (compP e b o j) (compP e b' o j)
  | 0 => ⟨rfl, fun i => by
    show cf (List.take o [] ++ List.replicate (o - 0) 0) i = _ * cf (List.take o [] ++ List.replicate (o - 0) 0) i
    rw [List.take_nil, List.nil_append, cf_zeros, Rat.mul_zero]⟩
  | j + 1 => lg_set (lg_mul (lg_comp x j) (lg_take x o))
theorem lg_compL {c : Rat} {e b b' : List Rat} (x : Lg c b b') : Lg c (compL e b) (compL e b') := by
  unfold compL; rw [x.1]; exact lg_comp x _
theorem lg_w {c : Rat} : ∀ u k {f f' b b' : List Rat}, Lg c f f' → Lg c b b' → Lg c (wpow u k f b) (wpow u k f' b')
  | 0, _, _, _, _, _, x, _ => x
  | u + 1, k, f, f', b, b', x, y => by
    unfold wpow; split
    · exact x
    · refine lg_w u _ ?_ ?_
      · split
        · exact lg_mul x y
        · exact x
      · split
        · exact lg_mul y y
        · exact y
theorem lg_one {c : Rat} (n : Nat) : Lg c (cutL [1] n) (cutL [1] n) := ⟨rfl, fun i => by
  cases n with
  | zero => show (0 : Rat) = _ * 0; rw [Rat.mul_zero]
  | succ n =>
    show cf (1 :: (List.take n [] ++ List.replicate (n + 1 - 1) 0)) i = _ * cf (1 :: (List.take n [] ++ List.replicate (n + 1 - 1) 0)) i
    rw [List.take_nil, List.nil_append, cf_cons]; split
    · next h => rw [h, Rat.pow_zero, Rat.mul_one]
    · rw [cf_zeros, Rat.mul_zero]⟩
end
end Mine
end
section
set_option linter.unusedVariables false
namespace Mine
noncomputable section
/-- b is a with x squared for x, as far as b goes -/
def Wi (a b : List Rat) : Prop := (∀ i, 2 * i < b.length → cf b (2 * i) = cf a i) ∧ ∀ i, cf b (2 * i + 1) = 0
def Ww (a b : List Rat) : Prop := b.length ≤ 2 * a.length ∧ Wi a b
theorem par (n : Nat) : ∃ i, n = 2 * i ∨ n = 2 * i + 1 := ⟨n / 2, by lia⟩
theorem ww_wide (a : List Rat) : Ww a (wideL a) := by
  have l := lenWide a
  refine ⟨by lia, fun i hi => ?_, fun i => ?_⟩
  · rw [cf_wide a (by rw [← l]; exact hi), Nat.mul_mod_right, if_pos rfl, Nat.mul_div_cancel_left _ (by decide)]
  · by_cases h : 2 * i + 1 < (wideL a).length
    · rw [cf_wide a (by rw [← l]; exact h), if_neg (by lia)]
    · rw [cf_out (Nat.le_of_not_lt h)]
section
variable {a a' l l' : List Rat}
theorem wi_tmE (x : Wi a a') (y : Wi l l') {k t : Nat} (h1 : 2 * t < a'.length) (h2 : 2 * (k - t) < l'.length) : cf a' (2 * t) * cf l' (2 * k - 2 * t) = cf a t * cf l (k - t) := by
  rw [x.1 t h1, ← Nat.mul_sub, y.1 _ h2]
theorem wi_tmO (x : Wi a a') (y : Wi l l') {k s : Nat} (h : s ≤ 2 * k + 1) : cf a' s * cf l' (2 * k + 1 - s) = 0 := by
  obtain ⟨i, rfl | rfl⟩ := par s
  · rw [show 2 * k + 1 - 2 * i = 2 * (k - i) + 1 by lia, y.2, Rat.mul_zero]
  · rw [x.2, Rat.zero_mul]
theorem wi_mixO (x : Wi a a') (y : Wi l l') (k : Nat) : ∀ j, j ≤ 2 * k + 2 → mixP a' l' (2 * k + 1) j = 0
  | 0, _ => rfl
  | j + 1, h => by
    show mixP a' l' (2 * k + 1) j + cf a' j * cf l' (2 * k + 1 - j) = 0
    rw [wi_mixO x y k j (Nat.le_of_succ_le h), wi_tmO x y (Nat.le_of_succ_le_succ h), Rat.add_zero]
theorem wi_mixE (x : Wi a a') (y : Wi l l') {k : Nat} (h1 : 2 * k < a'.length) (h2 : 2 * k < l'.length) : ∀ j, j ≤ k → mixP a' l' (2 * k) (2 * j) = mixP a l k j
  | 0, _ => rfl
  | j + 1, h => by
    show mixP a' l' (2 * k) (2 * j) + cf a' (2 * j) * cf l' (2 * k - 2 * j) + cf a' (2 * j + 1) * cf l' (2 * k - (2 * j + 1)) = mixP a l k j + cf a j * cf l (k - j)
    rw [wi_mixE x y h1 h2 j (Nat.le_of_succ_le h), wi_tmE x y (by lia) (by lia), x.2, Rat.zero_mul, Rat.add_zero]
theorem ww_mul {b b' : List Rat} (x : Ww a a') (y : Ww b b') : Ww (mulL a b) (mulL a' b') := by
  obtain ⟨xl, x⟩ := x
  obtain ⟨yl, y⟩ := y
  unfold mulL
  refine ⟨by rw [List.length_map, List.length_map, List.length_range, List.length_range]; lia, fun i hi => ?_, fun i => ?_⟩
  · rw [List.length_map, List.length_range] at hi
    rw [cf_rng, cf_rng, if_pos hi, if_pos (by lia)]
    show mixP a' b' (2 * i) (2 * i) + cf a' (2 * i) * cf b' (2 * i - 2 * i) = mixP a b i i + cf a i * cf b (i - i)
    rw [wi_mixE x y (by lia) (by lia) i (Nat.le_refl _), wi_tmE x y (by lia) (by lia)]
  · rw [cf_rng]; split
    · exact wi_mixO x y i _ (Nat.le_refl _)
    · rfl
end
end
end Mine
end
section
set_option linter.unusedVariables false
namespace Mine
noncomputable section
section
variable {f g : Nat → Rat} {u z z' : Rat} {k : Nat}
theorem wi_addP (h : ∀ s, 0 < s → s ≤ k → g (2 * s) = u * f s) (h' : ∀ s, g (2 * s + 1) = 0) : ∀ j, j ≤ k → addP g 0 (2 * j) = u * addP f 0 j
  | 0, _ => (Rat.mul_zero u).symm
  | j + 1, q => by
    show addP g 0 (2 * j) + g (2 * j + 1) + g (2 * (j + 1)) = u * (addP f 0 j + f (j + 1))
    rw [wi_addP h h' j (Nat.le_of_succ_le q), h _ (Nat.succ_pos j) q, h', Rat.add_zero, Rat.mul_add]
theorem wi_subP (hz : z' = u * z) (h : ∀ s, 0 < s → s ≤ k → g (2 * s) = u * f s) (h' : ∀ s, g (2 * s + 1) = 0) : ∀ j, j ≤ k → subP g z' (2 * j) = u * subP f z j
  | 0, _ => hz
  | j + 1, q => by
    show subP g z' (2 * j) - g (2 * j + 1) - g (2 * (j + 1)) = u * (subP f z j - f (j + 1))
    rw [wi_subP hz h h' j (Nat.le_of_succ_le q), h _ (Nat.succ_pos j) q, h']; grind
theorem add_zeroP (h : ∀ s, s ≤ k → g s = 0) : ∀ j, j ≤ k → addP g 0 j = 0
  | 0, _ => rfl
  | j + 1, q => by
    show addP g 0 j + g (j + 1) = 0
    rw [add_zeroP h j (Nat.le_of_succ_le q), h _ q, Rat.add_zero]
theorem sub_zeroP (h : ∀ s, s ≤ k → g s = 0) : ∀ j, j ≤ k → subP g 0 j = 0
  | 0, _ => rfl
  | j + 1, q => by
    show subP g 0 j - g (j + 1) = 0
    rw [sub_zeroP h j (Nat.le_of_succ_le q), h _ q, Rat.sub_eq_add_neg, Rat.zero_add]; rfl
end
theorem wi_snoc {a b : List Rat} {v : Rat} (y : Wi a b) (h : ∀ m, b.length = 2 * m → v = cf a m) (h' : ∀ m, b.length = 2 * m + 1 → v = 0) : Wi a (b ++ [v]) := by
  refine ⟨fun i hi => ?_, fun i => ?_⟩
  · rw [List.length_append, List.length_singleton] at hi
    rw [cf_snoc]; split
    · next q => exact y.1 i q
    · next q => rw [if_pos (by lia)]; exact h i (by lia)
  · rw [cf_snoc]; split
    · exact y.2 i
    · split
      · next q => exact h' i q.symm
      · rfl
theorem ww_build {f g : List Rat → Rat} {n N : Nat} (hN : N ≤ 2 * n) (he : ∀ m, 2 * m < N → Wi (build f n) (build g (2 * m)) → g (build g (2 * m)) = f (build f m)) (ho : ∀ m, 2 * m + 1 < N → Wi (build f n) (build g (2 * m + 1)) → g (build g (2 * m + 1)) = 0) : ∀ k, k ≤ N → Wi (build f n) (build g k)
  | 0, _ => ⟨fun i hi => absurd hi (Nat.not_lt_zero _), fun _ => rfl⟩
  | k + 1, q => by
    have ih := ww_build hN he ho k (Nat.le_of_succ_le q)
    refine wi_snoc ih (fun m e => ?_) fun m e => ?_
    · rw [build_length] at e
      subst e
      rw [he m q ih, cf_build (by lia)]
    · rw [build_length] at e
      subst e
      exact ho m q ih
/-- only what lies below m of l counts in step m -/
theorem wi_bb {f : List Rat → Rat} {n m : Nat} {b : List Rat} (y : Wi (build f n) b) (hb : b.length = 2 * m) (hm : m ≤ n) : Wi (build f m) b :=
  ⟨fun i hi => by rw [y.1 i hi, cf_build (by lia), cf_build (by lia)], y.2⟩
theorem nat2 (t : Nat) : nat (2 * t) = 2 * nat t := by
  unfold nat
  rw [Int.natCast_mul, Rat.intCast_mul]; rfl
theorem two_div (u v : Rat) : 2 * u / (2 * v) = u / v := by grind
theorem ww_inv {a a' : List Rat} (x : Ww a a') : Ww (invL a) (invL a') := by
  obtain ⟨xl, x⟩ := x
  refine ⟨by rw [lenInv, lenInv]; exact xl, ww_build xl (fun m hm y => ?_) (fun m hm y => ?_) _ (Nat.le_refl _)⟩
  · have h0 : cf a' 0 = cf a 0 := x.1 0 (by lia)
    have y' := wi_bb y (build_length _ _) (by lia)
    show subP (invT a' _) (one0 (build (invF a') (2 * m)).length) (build (invF a') (2 * m)).length / cf a' 0 = subP (invT a _) (one0 (build (invF a) m).length) (build (invF a) m).length / cf a 0
    rw [build_length, build_length, h0, wi_subP (u := 1) (f := invT a (build (invF a) m)) (z := one0 m) ?_ (fun s q1 q2 => ?_) (fun s => ?_) _ (Nat.le_refl _), Rat.one_mul]
    · rw [Rat.one_mul]
      cases m <;> rfl
    · show cf a' (2 * s) * cf (build (invF a') (2 * m)) ((build (invF a') (2 * m)).length - 2 * s) = 1 * (cf a s * cf (build (invF a) m) ((build (invF a) m).length - s))
      rw [build_length, build_length, wi_tmE x y' (by lia) (by rw [build_length]; lia), Rat.one_mul]
    · show cf a' (2 * s + 1) * _ = 0
      rw [x.2, Rat.zero_mul]
  · show subP (invT a' _) (one0 (build (invF a') (2 * m + 1)).length) (build (invF a') (2 * m + 1)).length / cf a' 0 = 0
    rw [build_length, show one0 (2 * m + 1) = 0 from rfl, sub_zeroP (k := 2 * m + 1) (fun s q => ?_) _ (Nat.le_refl _), zdiv]
    show cf a' s * cf _ ((build (invF a') (2 * m + 1)).length - s) = 0
    rw [build_length]; exact wi_tmO x y q
end
end Mine
end
section
set_option linter.unusedVariables false
namespace Mine
noncomputable section
/-- the sums of a row with a number ahead that doubles -/
theorem wi_sumE {a a' l l' : List Rat} {k : Nat} {c c' : Nat → Rat} (x : Wi a a') (y : Wi l l') (h1 : 2 * k < a'.length) (hl : l'.length = 2 * k) (hc : ∀ s, s ≤ k → c' (2 * s) = 2 * c s) :
    addP (fun s => (c' s * cf a' s) * cf l' (2 * k - s)) 0 (2 * k) / nat (2 * k) = addP (fun s => (c s * cf a s) * cf l (k - s)) 0 k / nat k ∧ subP (fun s => (c' s * cf a' s) * cf l' (2 * k - s)) 0 (2 * k) / nat (2 * k) = subP (fun s => (c s * cf a s) * cf l (k - s)) 0 k / nat k := by
  have e : ∀ s, 0 < s → s ≤ k → (c' (2 * s) * cf a' (2 * s)) * cf l' (2 * k - 2 * s) = 2 * ((c s * cf a s) * cf l (k - s)) := fun s q1 q2 => by
    rw [hc s q2, Rat.mul_assoc, wi_tmE x y (by lia) (by lia), Rat.mul_assoc, Rat.mul_assoc]
  have o : ∀ s, (c' (2 * s + 1) * cf a' (2 * s + 1)) * cf l' (2 * k - (2 * s + 1)) = 0 := fun s => by rw [x.2, Rat.mul_zero, Rat.zero_mul]
  rw [wi_addP (f := fun s => (c s * cf a s) * cf l (k - s)) e o k (Nat.le_refl _), wi_subP (f := fun s => (c s * cf a s) * cf l (k - s)) (Rat.mul_zero _).symm e o k (Nat.le_refl _), nat2, two_div, two_div]
  exact ⟨rfl, rfl⟩
theorem wi_sumO {a a' l l' : List Rat} {k : Nat} {c' : Nat → Rat} (x : Wi a a') (y : Wi l l') :
    addP (fun s => (c' s * cf a' s) * cf l' (2 * k + 1 - s)) 0 (2 * k + 1) / nat (2 * k + 1) = 0 ∧ subP (fun s => (c' s * cf a' s) * cf l' (2 * k + 1 - s)) 0 (2 * k + 1) / nat (2 * k + 1) = 0 := by
  have o : ∀ s, s ≤ 2 * k + 1 → (c' s * cf a' s) * cf l' (2 * k + 1 - s) = 0 := fun s q => by rw [Rat.mul_assoc, wi_tmO x y q, Rat.mul_zero]
  rw [add_zeroP o _ (Nat.le_refl _), sub_zeroP o _ (Nat.le_refl _), zdiv]
  exact ⟨rfl, rfl⟩
theorem ww_exp {a a' : List Rat} (x : Ww a a') : Ww (expL a) (expL a') := by
  obtain ⟨xl, x⟩ := x
  have le : ∀ a, (expL a).length = a.length := fun a => build_length _ _
  refine ⟨by rw [le, le]; exact xl, ww_build xl (fun m hm y => ?_) (fun m hm y => ?_) _ (Nat.le_refl _)⟩
  · cases m with
    | zero => rfl
    | succ m =>
      have e := (wi_sumE (c := nat) (c' := nat) x (wi_bb y (build_length _ _) (by lia)) hm (build_length _ _) fun s _ => nat2 s).1
      unfold expF expT
      rw [build_length, build_length]
      exact e
  · have e := (wi_sumO (k := m) (c' := nat) x y).1
    unfold expF expT
    rw [build_length]
    exact e
theorem ww_pow {q : Rat} {a a' : List Rat} (x : Ww a a') : Ww (powL q a) (powL q a') := by
  obtain ⟨xl, x⟩ := x
  have le : ∀ a, (powL q a).length = a.length := fun a => build_length _ _
  refine ⟨by rw [le, le]; exact xl, ww_build xl (fun m hm y => ?_) (fun m hm y => ?_) _ (Nat.le_refl _)⟩
  · cases m with
    | zero => rfl
    | succ m =>
      have e := (wi_sumE (c := fun s => q * nat s - nat (m + 1 - s)) (c' := fun s => q * nat s - nat (2 * (m + 1) - s)) x (wi_bb y (build_length _ _) (by lia)) hm (build_length _ _) fun s _ => by
        rw [← Nat.mul_sub, nat2, nat2]; grind).1
      unfold powF powT
      rw [build_length, build_length]
      exact e
  · have e := (wi_sumO (k := m) (c' := fun s => q * nat s - nat (2 * m + 1 - s)) x y).1
    unfold powF powT
    rw [build_length]
    exact e
theorem cf_trig (a : List Rat) : ∀ {n m i : Nat}, i < m → m ≤ n → cf (trig a n).1 i = cf (trig a m).1 i ∧ cf (trig a n).2 i = cf (trig a m).2 i
  | 0, m, i, h, h' => absurd (Nat.lt_of_lt_of_le h h') (Nat.not_lt_zero _)
  | n + 1, m, i, h, h' => by
    by_cases e : m = n + 1
    · subst e; exact ⟨rfl, rfl⟩
    · obtain ⟨p, q⟩ := cf_trig a (n := n) h (by lia)
      constructor
      · show cf ((trig a n).1 ++ [_]) i = _
        rw [cf_snoc, (lenTrig a n).1, if_pos (by lia), p]
      · show cf ((trig a n).2 ++ [_]) i = _
        rw [cf_snoc, (lenTrig a n).2, if_pos (by lia), q]
theorem cf_trigN (a : List Rat) {n m : Nat} (h : m < n) : cf (trig a n).1 m = sinV a (trig a m).2 m ∧ cf (trig a n).2 m = cosV a (trig a m).1 m := by
  obtain ⟨e1, e2⟩ := cf_trig a (n := n) (m := m + 1) (i := m) (Nat.lt_succ_self m) h
  obtain ⟨m1, m2⟩ := lenTrig a m
  rw [e1, e2]
  constructor
  · show cf ((trig a m).1 ++ [_]) m = _
    rw [cf_snoc, m1, if_neg (Nat.lt_irrefl _), if_pos rfl]
  · show cf ((trig a m).2 ++ [_]) m = _
    rw [cf_snoc, m2, if_neg (Nat.lt_irrefl _), if_pos rfl]
theorem wi_low {a l' : List Rat} {m n : Nat} (hm : m ≤ n) : (Wi (trig a n).1 l' → l'.length = 2 * m → Wi (trig a m).1 l') ∧ (Wi (trig a n).2 l' → l'.length = 2 * m → Wi (trig a m).2 l') :=
  ⟨fun y hl => ⟨fun i hi => by rw [y.1 i hi, (cf_trig a (by lia) hm).1], y.2⟩, fun y hl => ⟨fun i hi => by rw [y.1 i hi, (cf_trig a (by lia) hm).2], y.2⟩⟩
theorem ww_trig {a a' : List Rat} (x : Ww a a') : ∀ k, k ≤ a'.length → Wi (trig a a.length).1 (trig a' k).1 ∧ Wi (trig a a.length).2 (trig a' k).2
  | 0, _ => ⟨⟨fun i hi => absurd hi (Nat.not_lt_zero _), fun _ => rfl⟩, ⟨fun i hi => absurd hi (Nat.not_lt_zero _), fun _ => rfl⟩⟩
  | k + 1, h => by
    obtain ⟨p, q⟩ := ww_trig x k (Nat.le_of_succ_le h)
    obtain ⟨xl, x⟩ := x
    obtain ⟨l1, l2⟩ := lenTrig a' k
    refine ⟨wi_snoc p (fun m e => ?_) (fun m e => ?_), wi_snoc q (fun m e => ?_) (fun m e => ?_)⟩ <;> first | (rw [l1] at e; subst e) | (rw [l2] at e; subst e)
    · rw [(cf_trigN a (show m < a.length by lia)).1]
      cases m with
      | zero => rfl
      | succ m => exact (wi_sumE (c := nat) (c' := nat) x ((wi_low (a := a) (show m + 1 ≤ a.length by lia)).2 q l2) h l2 fun s _ => nat2 s).1
    · exact (wi_sumO (k := m) (c' := nat) x q).1
    · rw [(cf_trigN a (show m < a.length by lia)).2]
      cases m with
      | zero => rfl
      | succ m => exact (wi_sumE (c := nat) (c' := nat) x ((wi_low (a := a) (show m + 1 ≤ a.length by lia)).1 p l1) h l1 fun s _ => nat2 s).2
    · exact (wi_sumO (k := m) (c' := nat) x p).2
end
end Mine
end
section
set_option linter.unusedVariables false
namespace Mine
noncomputable section
/-- behind a derivative: x times a with x squared, twice -/
def We (a b : List Rat) : Prop := b.length ≤ 2 * a.length + 1 ∧ (∀ i, 2 * i + 1 < b.length → cf b (2 * i + 1) = 2 * cf a i) ∧ ∀ i, cf b (2 * i) = 0
theorem we_der {a a' : List Rat} (x : Ww a a') : We (derL a) (derL a') := by
  obtain ⟨xl, x⟩ := x
  refine ⟨by rw [lenDer, lenDer]; lia, fun i hi => ?_, fun i => ?_⟩
  · rw [lenDer] at hi
    unfold derL
    rw [cf_rng, cf_rng, if_pos hi, if_pos (by lia)]
    show nat (2 * (i + 1)) * cf a' (2 * (i + 1)) = 2 * (nat (i + 1) * cf a (i + 1))
    rw [x.1 _ (by lia), nat2, Rat.mul_assoc]
  · unfold derL
    rw [cf_rng]; split
    · rw [x.2, Rat.mul_zero]
    · rfl
section
variable {a a' b b' : List Rat}
theorem we_mixE (x : We a a') (y : Wi b b') (k : Nat) : ∀ j, j ≤ 2 * k + 1 → mixP a' b' (2 * k) j = 0
  | 0, _ => rfl
  | j + 1, h => by
    show mixP a' b' (2 * k) j + cf a' j * cf b' (2 * k - j) = 0
    rw [we_mixE x y k j (Nat.le_of_succ_le h), Rat.zero_add]
    obtain ⟨t, rfl | rfl⟩ := par j
    · rw [x.2.2, Rat.zero_mul]
    · rw [show 2 * k - (2 * t + 1) = 2 * (k - t - 1) + 1 by lia, y.2, Rat.mul_zero]
theorem we_mixO (x : We a a') (y : Wi b b') {k : Nat} (h1 : 2 * k + 1 < a'.length) (h2 : 2 * k + 1 < b'.length) : ∀ j, j ≤ k + 1 → mixP a' b' (2 * k + 1) (2 * j) = 2 * mixP a b k j
  | 0, _ => (Rat.mul_zero 2).symm
  | j + 1, h => by
    show mixP a' b' (2 * k + 1) (2 * j) + cf a' (2 * j) * cf b' (2 * k + 1 - 2 * j) + cf a' (2 * j + 1) * cf b' (2 * k + 1 - (2 * j + 1)) = 2 * (mixP a b k j + cf a j * cf b (k - j))
    rw [we_mixO x y h1 h2 j (Nat.le_of_succ_le h), x.2.2, Rat.zero_mul, Rat.add_zero, x.2.1 j (by lia), Nat.add_sub_add_right, ← Nat.mul_sub, y.1 _ (by lia), Rat.mul_assoc, Rat.mul_add]
theorem we_mul (x : We a a') (y : Ww b b') : We (mulL a b) (mulL a' b') := by
  obtain ⟨yl, y⟩ := y
  have xl := x.1
  unfold mulL
  refine ⟨by rw [List.length_map, List.length_map, List.length_range, List.length_range]; lia, fun i hi => ?_, fun i => ?_⟩
  · rw [List.length_map, List.length_range] at hi
    rw [cf_rng, cf_rng, if_pos hi, if_pos (by lia)]
    exact we_mixO x y (by lia) (by lia) (i + 1) (Nat.le_refl _)
  · rw [cf_rng]; split
    · exact we_mixE x y i _ (Nat.le_refl _)
    · rfl
end
theorem lenInt (a : List Rat) : (intL a).length = a.length + 1 := by simp [intL]
theorem ww_int {a a' : List Rat} (x : We a a') : Ww (intL a) (intL a') := by
  obtain ⟨xl, x⟩ := x
  refine ⟨by rw [lenInt, lenInt]; lia, fun i hi => ?_, fun i => ?_⟩
  · cases i with
    | zero => rfl
    | succ i =>
      rw [lenInt] at hi
      show cf ((List.range a'.length).map fun i => cf a' i / nat (i + 1)) (2 * i + 1) = cf ((List.range a.length).map fun i => cf a i / nat (i + 1)) i
      rw [cf_rng, cf_rng, if_pos (by lia), if_pos (by lia), x.1 _ (by lia)]
      show _ / nat (2 * (i + 1)) = _
      rw [nat2, two_div]
  · show cf ((List.range a'.length).map fun i => cf a' i / nat (i + 1)) (2 * i) = 0
    rw [cf_rng]; split
    · rw [x.2, zdiv]
    · rfl
theorem ww_log {a a' : List Rat} (x : Ww a a') : Ww (logL a) (logL a') := ww_int (we_mul (we_der x) (ww_inv x))
theorem ww_set {a a' : List Rat} {u : Rat} (x : Ww a a') : Ww (a.set 0 (cf a 0 + u)) (a'.set 0 (cf a' 0 + u)) := by
  obtain ⟨xl, x⟩ := x
  refine ⟨by rw [List.length_set, List.length_set]; exact xl, fun i hi => ?_, fun i => ?_⟩
  · rw [List.length_set] at hi
    rw [cf_set, cf_set]
    cases i with
    | zero => rw [if_pos ⟨rfl, hi⟩, if_pos ⟨rfl, by lia⟩, x.1 0 hi]
    | succ i => rw [if_neg (fun h => nomatch h.1), if_neg (fun h => nomatch h.1), x.1 _ hi]
  · rw [cf_set, if_neg (fun h => nomatch h.1), x.2]
theorem ww_atan {a a' : List Rat} (x : Ww a a') : Ww (atanL a) (atanL a') := ww_int (we_mul (we_der x) (ww_inv (ww_set (ww_mul x x))))
theorem ww_take {a a' : List Rat} (x : Ww a a') (n : Nat) : Ww (a.take n) (a'.take n) := by
  obtain ⟨xl, x⟩ := x
  refine ⟨by rw [List.length_take, List.length_take]; lia, fun i hi => ?_, fun i => ?_⟩
  · rw [List.length_take] at hi
    rw [cf_take, cf_take, if_pos (by lia), if_pos (by lia)]
    exact x.1 i (by lia)
  · rw [cf_take, x.2]; split <;> rfl
theorem ww_zeros {n n' : Nat} (h : n' ≤ 2 * n) : Ww (List.replicate n 0) (List.replicate n' 0) := ⟨by rw [List.length_replicate, List.length_replicate]; exact h, fun i _ => by rw [cf_zeros, cf_zeros], fun i => cf_zeros⟩
theorem ww_comp {e b b' : List Rat} {o : Nat} (x : Ww b b') : ∀ j, Ww (compP e b o j) (compP e b' o j)
  | 0 => by
    show Ww (List.take o [] ++ List.replicate (o - 0) 0) (List.take o [] ++ List.replicate (o - 0) 0)
    rw [List.take_nil, List.nil_append]; exact ww_zeros (by lia)
  | j + 1 => ww_set (ww_mul (ww_comp x j) (ww_take x o))
theorem ww_compL {e b b' : List Rat} (x : Ww b b') (h : min e.length b'.length = min e.length b.length) : Ww (compL e b) (compL e b') := by
  unfold compL; rw [h]; exact ww_comp x _
theorem ww_w : ∀ u k {f f' b b' : List Rat}, Ww f f' → Ww b b' → Ww (wpow u k f b) (wpow u k f' b')
  | 0, _, _, _, _, _, x, _ => x
  | u + 1, k, f, f', b, b', x, y => by
    unfold wpow; split
    · exact x
    · refine ww_w u _ ?_ ?_
      · split
        · exact ww_mul x y
        · exact x
      · split
        · exact ww_mul y y
        · exact y
theorem cf_one {n i : Nat} (h : i < n) : cf (cutL [1] n) i = if i = 0 then 1 else 0 := by
  cases n with
  | zero => exact absurd h (Nat.not_lt_zero _)
  | succ n =>
    show cf (1 :: (List.take n [] ++ List.replicate (n + 1 - 1) 0)) i = _
    rw [List.take_nil, List.nil_append, cf_cons]; split
    · rfl
    · rw [cf_zeros]
theorem lenOne {n : Nat} (h : 0 < n) : (cutL [1] n).length = n := by simp [cutL]; lia
theorem ww_one {n n' : Nat} (h0 : 0 < n) (h : 0 < n') (h2 : n' ≤ 2 * n) : Ww (cutL [1] n) (cutL [1] n') := by
  refine ⟨by rw [lenOne h0, lenOne h]; exact h2, fun i hi => ?_, fun i => ?_⟩
  · rw [lenOne h] at hi
    rw [cf_one hi, cf_one (by lia)]
    cases i <;> rfl
  · by_cases hi : 2 * i + 1 < n'
    · rw [cf_one hi]; rfl
    · rw [cf_out (by rw [lenOne h]; exact Nat.le_of_not_lt hi)]
end
end Mine
end
section
set_option linter.unusedVariables false
namespace Mine
noncomputable section
/-- b is u times a with c x for x -/
def Sg (u c : Rat) (a b : List Rat) : Prop := b.length = a.length ∧ ∀ i, cf b i = u * (c ^ i * cf a i)
theorem sg_mixP {u v c : Rat} {a a' b b' : List Rat} (x : Sg u c a a') (y : Sg v c b b') (k : Nat) : ∀ j, j ≤ k + 1 → mixP a' b' k j = (u * v) * (c ^ k * mixP a b k j)
  | 0, _ => by show (0 : Rat) = _ * (_ * 0); rw [Rat.mul_zero, Rat.mul_zero]
  | j + 1, h => by
    show mixP a' b' k j + cf a' j * cf b' (k - j) = _ * (_ * (mixP a b k j + cf a j * cf b (k - j)))
    rw [sg_mixP x y k j (by lia), x.2, y.2, pow_split (c := c) (show j + (k - j) = k by lia)]
    grind
theorem sg_mul {u v c : Rat} {a a' b b' : List Rat} (x : Sg u c a a') (y : Sg v c b b') : Sg (u * v) c (mulL a b) (mulL a' b') := by
  refine ⟨by rw [lenMul, lenMul, x.1, y.1], fun i => ?_⟩
  unfold mulL; rw [cf_rng, cf_rng, x.1, y.1]; split
  · exact sg_mixP x y i (i + 1) (Nat.le_refl _)
  · rw [Rat.mul_zero, Rat.mul_zero]
theorem sg_snoc {u c : Rat} {a b : List Rat} {p q : Rat} (x : Sg u c a b) (h : q = u * (c ^ a.length * p)) : Sg u c (a ++ [p]) (b ++ [q]) := by
  refine ⟨by simp [x.1], fun i => ?_⟩
  rw [cf_snoc, cf_snoc, x.1]; split
  · exact x.2 i
  · split
    · next q => rw [q]; exact h
    · rw [Rat.mul_zero, Rat.mul_zero]
theorem sg_build {u c : Rat} {f g : List Rat → Rat} (h : ∀ l l', Sg u c l l' → g l' = u * (c ^ l.length * f l)) : ∀ n, Sg u c (build f n) (build g n)
  | 0 => ⟨rfl, fun i => by show (0 : Rat) = _ * (_ * 0); rw [Rat.mul_zero, Rat.mul_zero]⟩
  | n + 1 => sg_snoc (sg_build h n) (h _ _ (sg_build h n))
theorem sg_inv {u v c : Rat} {a a' : List Rat} (h : u * v = 1) (x : Sg u c a a') : Sg v c (invL a) (invL a') := by
  unfold invL
  rw [x.1]
  refine sg_build (fun l l' y => ?_) _
  have hu : u ≠ 0 := fun q => by rw [q, Rat.zero_mul] at h; exact absurd h (by decide)
  have hz : one0 l.length = c ^ l.length * one0 l.length := by
    unfold one0; split
    · next h => rw [h, Rat.pow_zero, Rat.mul_one]
    · rw [Rat.mul_zero]
  unfold invF
  rw [y.1, x.2 0, Rat.pow_zero, Rat.one_mul, lg_subP (k := l.length) (c := c) (f := invT a l) hz (fun s _ hs => ?_) _ (Nat.le_refl _)]
  · grind
  · show cf a' s * cf l' (l'.length - s) = _ * (cf a s * cf l (l.length - s))
    rw [y.1, x.2, y.2, pow_split (c := c) (show s + (l.length - s) = l.length by lia)]; grind
theorem sg_revR {v c : Rat} {m : Nat} {t t' : List Rat} (x : Sg v c t t') : ∀ i, i + 1 < m → Sg (v ^ (i + 1)) c (revR m t i) (revR m t' i)
  | 0, _ => by
    have : v ^ (0 + 1) = v := by rw [Rat.pow_succ, Rat.pow_zero, Rat.one_mul]
    rw [this]; exact x
  | i + 1, h => by
    have ih := sg_revR (m := m) x i (by lia)
    show Sg _ c (if i + 2 < m then mulL (revR m t i) t else revR m t i) (if i + 2 < m then mulL (revR m t' i) t' else revR m t' i)
    rw [if_pos h, if_pos h, Rat.pow_succ]
    exact sg_mul ih x
theorem lenRev (a : List Rat) (h : 0 < a.length) : (revL a).length = a.length := by
  unfold revL; rw [lenRevB]; lia
theorem cf_rev {a : List Rat} {i : Nat} : cf (revL a) i = if i = 0 then 0 else if i < a.length then cf (revR a.length (revT a) (i - 1)) (i - 1) / nat i else 0 := by
  show cf (0 :: (List.range (a.length - 1)).map _) i = _
  rw [cf_cons]; split
  · rfl
  · rw [cf_rng]; split
    · rw [if_pos (by lia), show i - 1 + 1 = i by lia]
    · rw [if_neg (by lia)]
theorem sg_rev {u v c : Rat} {a a' : List Rat} (h : u * v = 1) (x : Sg u c (a.drop 1) (a'.drop 1)) (hl : a'.length = a.length) (i : Nat) (hi : 0 < i) : cf (revL a') i = v * ((v * c) ^ (i - 1) * cf (revL a) i) := by
  rw [cf_rev, cf_rev, hl, if_neg (show i ≠ 0 by lia), if_neg (show i ≠ 0 by lia)]; split
  · have q := (sg_revR (m := a.length) (sg_inv h x) (i - 1) (by lia)).2 (i - 1)
    rw [show cf (revR a.length (revT a') (i - 1)) (i - 1) = _ from q, show i - 1 + 1 = i by lia]
    have e : v ^ i = v * v ^ (i - 1) := by
      rw [show v ^ i = v ^ (i - 1 + 1) by rw [show i - 1 + 1 = i by lia], Rat.pow_succ, Rat.mul_comm]
    have e2 : ∀ n : Nat, (v * c) ^ n = v ^ n * c ^ n := fun n => by
      induction n with
      | zero => rw [Rat.pow_zero, Rat.pow_zero, Rat.pow_zero, Rat.mul_one]
      | succ n ih => rw [Rat.pow_succ, Rat.pow_succ, Rat.pow_succ, ih]; grind
    rw [e, e2, Rat.div_def, Rat.div_def]; unfold revT; grind
  · rw [Rat.mul_zero, Rat.mul_zero]
theorem ext_cf {a b : List Rat} (hl : a.length = b.length) (h : ∀ i, i < b.length → cf a i = cf b i) : a = b :=
  List.ext_getElem hl fun i hi hj => by rw [← cf_at hi, ← cf_at hj]; exact h i hj
theorem cf_map {f : Rat → Rat} {a : List Rat} {i : Nat} (h : i < a.length) : cf (a.map f) i = f (cf a i) := by
  rw [cf_at (by simpa using h), cf_at h]; simp
theorem cf_low {a : List Rat} {c : Int} (hc : c ≠ 0) {i : Nat} (h : i < a.length) : cf (lowL a c) i = cf a i / c := by
  unfold lowL; rw [cf_map h]
  have := rat_eq (q := cf a i) (m := 1) hc
  rw [Int.mul_one] at this
  rw [this]
  have : ((1 : Int) : Rat) = 1 := rfl
  rw [this, Rat.mul_one]
theorem cf_longR {a : List Rat} {c : Int} (hc : c ≠ 0) {i : Nat} (h : i < a.length) : cf (longL a 1 c) i = cf a i / (c : Rat) ^ i := by
  unfold longL; rw [cf_rng, if_pos h, rat_eq (Int.pow_ne_zero hc), Int.one_pow, Rat.intCast_pow]
  have : ((1 : Int) : Rat) = 1 := rfl
  rw [this, Rat.mul_one]
theorem cf_scl {a : List Rat} {c : Int} {i : Nat} : cf (sclL a c) i = c * cf a i := by
  by_cases h : i < a.length
  · unfold sclL; rw [cf_map h]
  · rw [cf_out (by unfold sclL; rw [List.length_map]; lia), cf_out (by lia), Rat.mul_zero]
theorem rev_long {a : List Rat} {c : Int} (hc : c ≠ 0) (hp : 0 < a.length) : revL (longL a c 1) = lowL (revL a) c := by
  have h0 : (c : Rat) ≠ 0 := fun h => hc (Rat.intCast_inj.mp h)
  obtain ⟨l1, l2⟩ := lg_long a c
  have e : (c : Rat) * (1 / c) = 1 := by grind
  have e' : (1 / (c : Rat)) * c = 1 := by grind
  have x : Sg c c (a.drop 1) ((longL a c 1).drop 1) := ⟨by rw [List.length_drop, List.length_drop, l1], fun i => by rw [cf_drop, cf_drop, l2, Rat.pow_succ]; grind⟩
  have ll : (lowL (revL a) c).length = a.length := by unfold lowL; rw [List.length_map, lenRev a hp]
  refine ext_cf (by rw [lenRev _ (by lia), l1, ll]) fun i hi => ?_
  rw [ll] at hi
  rw [cf_low hc (by rw [lenRev a hp]; exact hi)]
  by_cases h : i = 0
  · subst h; rw [cf_rev, cf_rev, if_pos rfl, if_pos rfl, zdiv]
  · rw [sg_rev e x l1 i (by lia), e']
    have : ∀ n : Nat, (1 : Rat) ^ n = 1 := fun n => by induction n with
      | zero => rfl
      | succ n ih => rw [Rat.pow_succ, ih, Rat.mul_one]
    rw [this]; grind
theorem rev_scl {a : List Rat} {c : Int} (hc : c ≠ 0) (hp : 0 < a.length) : revL (sclL a c) = longL (revL a) 1 c := by
  have h0 : (c : Rat) ≠ 0 := fun h => hc (Rat.intCast_inj.mp h)
  have e : (c : Rat) * (1 / c) = 1 := by grind
  have l1 : (sclL a c).length = a.length := by unfold sclL; rw [List.length_map]
  have x : Sg c 1 (a.drop 1) ((sclL a c).drop 1) := ⟨by rw [List.length_drop, List.length_drop, l1], fun i => by
    have : ∀ n : Nat, (1 : Rat) ^ n = 1 := fun n => by induction n with
      | zero => rfl
      | succ n ih => rw [Rat.pow_succ, ih, Rat.mul_one]
    rw [cf_drop, cf_drop, cf_scl, this, Rat.one_mul]⟩
  have ll : (longL (revL a) 1 c).length = a.length := by unfold longL; rw [List.length_map, List.length_range, lenRev a hp]
  refine ext_cf (by rw [lenRev _ (by lia), l1, ll]) fun i hi => ?_
  rw [ll] at hi
  rw [cf_longR hc (by rw [lenRev a hp]; exact hi)]
  by_cases h : i = 0
  · subst h; rw [cf_rev, cf_rev, if_pos rfl, if_pos rfl, zdiv]
  · rw [sg_rev e x l1 i (by lia), Rat.mul_one]
    have q : ∀ n : Nat, (1 / (c : Rat)) ^ n * (c : Rat) ^ n = 1 := fun n => by
      induction n with
      | zero => rw [Rat.pow_zero, Rat.pow_zero, Rat.mul_one]
      | succ n ih => rw [Rat.pow_succ, Rat.pow_succ]; grind
    have q1 := q i
    have q2 : (1 / (c : Rat)) ^ i = (1 / (c : Rat)) * (1 / (c : Rat)) ^ (i - 1) := by
      rw [show (1 / (c : Rat)) ^ i = (1 / (c : Rat)) ^ (i - 1 + 1) by rw [show i - 1 + 1 = i by lia], Rat.pow_succ, Rat.mul_comm]
    rw [← Rat.mul_assoc, ← q2]
    have q3 : (c : Rat) ^ i ≠ 0 := fun z => by rw [z, Rat.mul_zero] at q1; exact absurd q1 (by decide)
    generalize (1 / (c : Rat)) ^ i = p at *
    generalize (c : Rat) ^ i = r at *
    grind
end
end Mine
end
section
set_option linter.unusedVariables false
namespace Mine
noncomputable section
theorem take2 {r : List Rat} (h : 2 ≤ r.length) : r.take 2 = [cf r 0, cf r 1] := by
  match r, h with
  | _ :: _ :: _, _ => rfl
theorem f_mul {a b : List Rat} (ha : 2 ≤ a.length) (hb : 2 ≤ b.length) : cf (mulL a b) 0 = cf a 0 * cf b 0 ∧ cf (mulL a b) 1 = cf a 0 * cf b 1 + cf a 1 * cf b 0 := by
  unfold mulL
  rw [cf_rng, cf_rng, if_pos (by lia), if_pos (by lia)]
  constructor
  · show 0 + cf a 0 * cf b 0 = _
    rw [Rat.zero_add]
  · show 0 + cf a 0 * cf b 1 + cf a 1 * cf b 0 = _
    rw [Rat.zero_add]
theorem m0 {a b : List Rat} (ha : 1 ≤ a.length) (hb : 1 ≤ b.length) : cf (mulL a b) 0 = cf a 0 * cf b 0 := by
  unfold mulL
  rw [cf_rng, if_pos (by lia)]
  show 0 + cf a 0 * cf b 0 = _
  rw [Rat.zero_add]
theorem f_inv {a : List Rat} (h : 2 ≤ a.length) : cf (invL a) 0 = 1 / cf a 0 ∧ cf (invL a) 1 = (0 - cf a 1 * (1 / cf a 0)) / cf a 0 := by
  unfold invL
  rw [cf_build (by lia), cf_build (by lia)]
  exact ⟨rfl, rfl⟩
theorem nat1 : nat 1 = 1 := rfl
theorem div1 (q : Rat) : q / 1 = q := by grind
theorem f_exp {a : List Rat} (h : 2 ≤ a.length) : cf (expL a) 0 = 1 ∧ cf (expL a) 1 = cf a 1 := by
  unfold expL
  rw [cf_build (by lia), cf_build (by lia)]
  refine ⟨rfl, ?_⟩
  show (0 + (nat 1 * cf a 1) * 1) / nat 1 = _
  rw [nat1, div1, Rat.zero_add, Rat.mul_one, Rat.one_mul]
theorem f_pow {q : Rat} {a : List Rat} (h : 2 ≤ a.length) : cf (powL q a) 0 = 1 ∧ cf (powL q a) 1 = q * cf a 1 := by
  unfold powL
  rw [cf_build (by lia), cf_build (by lia)]
  refine ⟨rfl, ?_⟩
  show (0 + ((q * nat 1 - nat 0) * cf a 1) * 1) / nat 1 = _
  have : nat 0 = 0 := rfl
  rw [nat1, this]; grind
theorem f_trig {a : List Rat} (h : 2 ≤ a.length) : (cf (trig a a.length).1 0 = 0 ∧ cf (trig a a.length).1 1 = cf a 1) ∧ cf (trig a a.length).2 0 = 1 ∧ cf (trig a a.length).2 1 = 0 := by
  obtain ⟨p, q⟩ := cf_trig a (n := a.length) (m := 2) (i := 0) (by lia) h
  obtain ⟨p', q'⟩ := cf_trig a (n := a.length) (m := 2) (i := 1) (by lia) h
  rw [p, q, p', q']
  refine ⟨⟨rfl, ?_⟩, rfl, ?_⟩
  · show (0 + (nat 1 * cf a 1) * 1) / nat 1 = _
    rw [nat1, div1, Rat.zero_add, Rat.mul_one, Rat.one_mul]
  · show (0 - (nat 1 * cf a 1) * 0) / nat 1 = _
    rw [nat1]; grind
theorem f_int {a b : List Rat} (h : 2 ≤ a.length) (hb : 1 ≤ b.length) : cf (intL (mulL (derL a) b)) 0 = 0 ∧ cf (intL (mulL (derL a) b)) 1 = cf a 1 * cf b 0 := by
  refine ⟨rfl, ?_⟩
  have hd : cf (derL a) 0 = cf a 1 := by
    unfold derL; rw [cf_rng, if_pos (by lia)]
    show nat 1 * cf a 1 = _
    rw [nat1, Rat.one_mul]
  show cf ((List.range (mulL (derL a) b).length).map fun i => cf (mulL (derL a) b) i / nat (i + 1)) 0 = _
  have hl : (derL a).length = a.length - 1 := lenDer a
  rw [cf_rng, if_pos (by rw [lenMul]; lia), m0 (by lia) hb, hd]
  show _ / nat 1 = _
  rw [nat1, div1]
theorem f_log {a : List Rat} (h : 2 ≤ a.length) (h0 : cf a 0 = 1) : cf (logL a) 0 = 0 ∧ cf (logL a) 1 = cf a 1 := by
  obtain ⟨p, q⟩ := f_int (b := invL a) h (by rw [lenInv]; lia)
  refine ⟨p, ?_⟩
  unfold logL
  rw [q, (f_inv h).1, h0, div1, Rat.mul_one]
theorem sq0 {a : List Rat} (h : 2 ≤ a.length) (h0 : cf a 0 = 0) : cf (sqL a) 0 = 1 := by
  unfold sqL
  rw [cf_set, if_pos ⟨rfl, by rw [lenMul]; lia⟩, m0 (by lia) (by lia), h0, Rat.zero_mul, Rat.zero_add]
theorem f_atan {a : List Rat} (h : 2 ≤ a.length) (h0 : cf a 0 = 0) : cf (atanL a) 0 = 0 ∧ cf (atanL a) 1 = cf a 1 := by
  obtain ⟨p, q⟩ := f_int (b := invL (sqL a)) h (by rw [lenInv, lenSq]; lia)
  refine ⟨p, ?_⟩
  unfold atanL
  rw [q, (f_inv (by rw [lenSq]; exact h)).1, sq0 h h0, div1, Rat.mul_one]
theorem f_comp0 {e b : List Rat} {o : Nat} (ho : 1 ≤ o) (hb : o ≤ b.length) (h0 : cf b 0 = 0) (j : Nat) : cf (compP e b o (j + 1)) 0 = cf e (o - 1 - j) := by
  have l := lenComp e b o hb j
  have hl : (compM b o (compP e b o j)).length = o := by unfold compM; rw [lenMul, List.length_take, l]; lia
  have e0 : cf (compM b o (compP e b o j)) 0 = 0 := by
    unfold compM
    rw [m0 (by lia) (by rw [List.length_take]; lia), cf_take, if_pos (by lia), h0, Rat.mul_zero]
  show cf ((compM b o (compP e b o j)).set 0 _) 0 = _
  rw [cf_set, if_pos ⟨rfl, by lia⟩, e0, Rat.zero_add]
theorem f_comp {e b : List Rat} (h : 2 ≤ min e.length b.length) (h0 : cf b 0 = 0) : cf (compL e b) 0 = cf e 0 ∧ cf (compL e b) 1 = cf e 1 * cf b 1 := by
  unfold compL
  generalize ho : min e.length b.length = o at h
  obtain ⟨k, rfl⟩ : ∃ k, o = k + 2 := ⟨o - 2, by lia⟩
  have hb : k + 2 ≤ b.length := by lia
  refine ⟨?_, ?_⟩
  · rw [f_comp0 (j := k + 1) (by lia) hb h0]; congr 1; lia
  · have l := lenComp e b (k + 2) hb (k + 1)
    show cf ((compM b (k + 2) (compP e b (k + 2) (k + 1))).set 0 _) 1 = _
    rw [cf_set, if_neg (fun q => absurd q.1 (by decide))]
    unfold compM
    rw [(f_mul (by lia) (by rw [List.length_take]; lia)).2, cf_take, cf_take, if_pos (by lia), if_pos (by lia), h0, f_comp0 (j := k) (by lia) hb h0, Rat.mul_zero, Rat.add_zero, show k + 2 - 1 - k = 1 by lia]
theorem f_one {n : Nat} (h : 2 ≤ n) : cf (cutL [1] n) 0 = 1 ∧ cf (cutL [1] n) 1 = 0 := ⟨by rw [cf_one (by lia), if_pos rfl], by rw [cf_one (by lia), if_neg (by decide)]⟩
theorem f_w {b : List Rat} {n k : Nat} (hn : 2 ≤ n) (hb : 2 ≤ b.length) (hk : k = 1 ∨ k = 2 ∨ k = 3) : cf (wpow 5 k (cutL [1] n) b) 0 = cf b 0 ^ k ∧ cf (wpow 5 k (cutL [1] n) b) 1 = nat k * cf b 0 ^ (k - 1) * cf b 1 := by
  obtain ⟨o0, o1⟩ := f_one hn
  have lo : 2 ≤ (cutL [1] n).length := by rw [lenOne (by lia)]; exact hn
  have l1 : 2 ≤ (mulL (cutL [1] n) b).length := by rw [lenMul]; lia
  have l2 : 2 ≤ (mulL b b).length := by rw [lenMul]; lia
  obtain ⟨a0, a1⟩ := f_mul lo hb
  obtain ⟨b0, b1⟩ := f_mul hb hb
  have n2 : nat 2 = 2 := rfl
  have n3 : nat 3 = 3 := rfl
  have p1 : ∀ q : Rat, q ^ 1 = q := fun q => by rw [show (1 : Nat) = 0 + 1 from rfl, Rat.pow_succ, Rat.pow_zero, Rat.one_mul]
  have p2 : ∀ q : Rat, q ^ 2 = q * q := fun q => by rw [show (2 : Nat) = 1 + 1 from rfl, Rat.pow_succ, p1]
  have p3 : ∀ q : Rat, q ^ 3 = q * q * q := fun q => by rw [show (3 : Nat) = 2 + 1 from rfl, Rat.pow_succ, p2]
  rcases hk with rfl | rfl | rfl
  · show cf (mulL (cutL [1] n) b) 0 = _ ∧ cf (mulL (cutL [1] n) b) 1 = _
    rw [a0, a1, o0, o1, nat1, p1, Rat.pow_zero]
    constructor <;> grind
  · show cf (mulL (cutL [1] n) (mulL b b)) 0 = _ ∧ cf (mulL (cutL [1] n) (mulL b b)) 1 = _
    obtain ⟨c0, c1⟩ := f_mul lo l2
    rw [c0, c1, o0, o1, b0, b1, n2, p2, show 2 - 1 = 1 from rfl, p1]
    constructor <;> grind
  · show cf (mulL (mulL (cutL [1] n) b) (mulL b b)) 0 = _ ∧ cf (mulL (mulL (cutL [1] n) b) (mulL b b)) 1 = _
    obtain ⟨c0, c1⟩ := f_mul l1 l2
    rw [c0, c1, a0, a1, o0, o1, b0, b1, n3, p3, show 3 - 1 = 2 from rfl, p2]
    constructor <;> grind
theorem f_rev {a : List Rat} (h : 2 ≤ a.length) : cf (revL a) 0 = 0 ∧ cf (revL a) 1 = 1 / cf a 1 := by
  rw [cf_rev, cf_rev, if_pos rfl, if_neg (by decide), if_pos (by lia)]
  refine ⟨rfl, ?_⟩
  show cf (invL (a.drop 1)) 0 / nat 1 = _
  unfold invL
  rw [cf_build (by rw [List.length_drop]; lia), nat1, div1]
  show 1 / cf (a.drop 1) 0 = _
  rw [cf_drop]
end
end Mine
end
section
open PySem PySem.W PyProof.Rows PySem.Calls PySem.SeqAt
set_option maxRecDepth 100000
set_option linter.unusedVariables false
set_option maxHeartbeats 1000000
namespace Mine
noncomputable section
section
variable {mg : MG} {w : World} {A : Around} {env : Env}
/-- the box of the draws -/
def Box (h : Heap) (b l : Addr) (xs : List Int) (k : Nat) : Prop := ∃ t vs, h.PlainList b #[.ref l, .int k t] ∧ b ≠ l ∧ h.PlainList l vs ∧ IsAll h.get? vs.toList (xs.map .int)
def boxD (xs : List Int) (k : Nat) : PyData := .list [.list (xs.map .int), .int k]
theorem IsAll.ints {g g' : Addr → Option Obj} {vs : List Value} {xs : List Int} (x : IsAll g vs (xs.map .int)) : IsAll g' vs (xs.map .int) := x.scalars (by simp [scalar])
theorem Box.is {h : Heap} {b l : Addr} {xs : List Int} {k : Nat} (B : Box h b l xs k) : Is h.get? (.ref b) (boxD xs k) := by
  obtain ⟨t, vs, ⟨n, e⟩, hne, ⟨n', e'⟩, i⟩ := B
  exact .lst e (.cons (.lst e' i) (.cons (.int _ _) .nil))
theorem Box.keeps {h h' : Heap} {b l : Addr} {xs : List Int} {k : Nat} (B : Box h b l xs k) (q : ∀ a o, h.get? a = some o → h'.get? a = some o) : Box h' b l xs k := by
  obtain ⟨t, vs, ⟨n, e⟩, hne, ⟨n', e'⟩, i⟩ := B
  exact ⟨t, vs, ⟨n, q _ _ e⟩, hne, ⟨n', q _ _ e'⟩, i.ints⟩
/-- only the box is turned -/
def Bp (b : Addr) (s s' : Shared) : Prop := ∃ h' tk, s' = { s with heap := h', toks := tk } ∧ ∀ a o, a ≠ b → s.heap.get? a = some o → h'.get? a = some o
theorem Bp.of_kp {b : Addr} {s s' : Shared} (k : Kp s s') : Bp b s s' := let ⟨h, t, e, q⟩ := k; ⟨h, t, e, fun a o _ z => q a o z⟩
theorem Bp.trans {b : Addr} {s s₁ s' : Shared} (x : Bp b s s₁) (y : Bp b s₁ s') : Bp b s s' := by
  obtain ⟨h, t, rfl, p⟩ := x
  obtain ⟨h', t', rfl, q⟩ := y
  exact ⟨h', t', rfl, fun a o n e => q a o n (p a o n e)⟩
theorem Bp.get {b : Addr} {s s' : Shared} (x : Bp b s s') : ∀ a o, a ≠ b → s.heap.get? a = some o → s'.heap.get? a = some o := by
  obtain ⟨h, t, rfl, p⟩ := x; exact p
theorem eval_int {C : Cx} {h₀ : Base} {ρ : Vars} {ω : Owns} {n : Nat} {e : Expr} {s : Shared} {i : Int} {Q : Value → Shared → Prop} (F : Fx mg w A env h₀ C) (S : St h₀ env ρ ω s.heap) (hW : WE C n .val ρ (strip ω) e fun d _ => d = .int i) (h : ∀ s' t, Kp s s' → Q (.int i t) s') : wpAny (model pw w) A (eval e env) Q No s := by
  obtain ⟨d, _, rfl, y⟩ := we_ok n F hW
  refine wpAny_q (y.ev s S) fun v s₂ ⟨k₂, iv⟩ => ?_
  obtain ⟨t, rfl⟩ := iv.int_inv
  exact h _ _ k₂
theorem mod_in {x m : Int} (hm : 0 < m) : 0 ≤ x.fmod m ∧ x.fmod m < m := ⟨Int.fmod_nonneg_of_pos _ hm, Int.fmod_lt_of_pos _ hm⟩
theorem take_tells {hW : Heap} {s : Shared} {b l f : Addr} {xs : List Int} {k : Nat} {m : Int} {t : Tok} (hA : Ro A 3) (W : Wd mg w hW) (kW : ∀ a o, hW.get? a = some o → s.heap.get? a = some o) (hb : hW.get? b = none) (hmg : mg (Str.ofString "_law_take") = some (.ref f))
    (B : Box s.heap b l xs k) (hx : xs.length ≤ 100) (hk : k ≤ 100) (hm : 0 < m) :
    wpAny (model pw w) A (call (.ref f) [.ref b, .int m t]) (fun v s' => (∃ r t', v = .int r t' ∧ 0 ≤ r ∧ r < m) ∧ Bp b s s' ∧ Box s'.heap b l xs (k + 1)) No s := by
  obtain ⟨hmem, hname⟩ := D_mem (f := Str.ofString "_law_take") rfl
  refine call_coreV (d := D (Str.ofString "_law_take")) (xs := [Str.ofString "box", Str.ofString "many"]) (ds := [boxD xs k, .int m]) ⟨rfl, rfl, rfl, rfl, bind2 fun _ _ _ _ _ => rfl, by decide, rfl⟩ hmem rfl (by have := hA.depth; lia) (W.keeps kW) (hname.symm ▸ hmg) (.cons B.is (.cons (.int _ _) .nil)) fun env s₁ hk' hsc hf kp hc vals S => wpAny_no ?_
  have hA' : Ro (A.deeper env) 2 := hA.deeper env
  have F : ∀ h₀ : Base, Wd mg w h₀.h → Fx mg w (A.deeper env) env h₀ ⟨fun x => (D (Str.ofString "_law_take")).scope.names.lookup x, [(Str.ofString "len", lenS), (Str.ofString "abs", absS)], [], (D (Str.ofString "_law_take")).scope⟩ := fun h₀ W₀ =>
    ⟨hk', W₀, fun x => by show env.scope.names.lookup x = _; rw [hsc], 2, hA', spc good_len (spc good_abs sp0)⟩
  have Vb := vals (Str.ofString "box") (.ref b) (.head _)
  have Vm := vals (Str.ofString "many") (.int m t) (.tail _ (.head _))
  have hnb : env.locals ≠ b := fun q => by
    have h1 : s.heap.get? env.locals = none := S.fresh
    obtain ⟨_, _, ⟨n, e⟩, _⟩ := B
    rw [q, e] at h1; cases h1
  have hi1 : 0 ≤ (1 : Int) ∧ ([.list (xs.map .int), .int k] : List PyData)[(1 : Int).toNat]? = some (.int k) ∧ ([.list (xs.map .int), .int k] : List PyData).length ≤ 2 ^ 62 := ⟨by decide, rfl, by show 2 ≤ 2 ^ 62; decide⟩
  refine wpAny_execs_cons (wpAny_Assign_Subscript (eval_int (n := 30) (ω := []) (i := ((k + 1 : Nat) : Int)) (F _ (W.keeps kW)) S ?_ fun s₂ tv k₂ => ?_) rfl)
  · exact Stop.mk ⟨_, hi1, by show PyData.int ((k : Int) + 1) = _; congr 1⟩
  refine load_val hk'.kind (Vb.keeps k₂.get) (wpAny_Constant_int ?_) (by decide)
  have B₂ := B.keeps (kp.trans k₂).get
  obtain ⟨t₀, vs, hpb, hne, hpl, il⟩ := B₂
  refine setItem_plain' (vs := #[.ref l, .int k t₀]) hpb (by decide) (by decide) (show (1 : Int) < 2 by decide) fun h₃ hpb₃ sb₃ => ?_
  replace sb₃ : Heap.SameBut b s₂.heap h₃ := sb₃
  obtain ⟨n₃, e₃⟩ := hpb₃
  obtain ⟨_, _, ⟨n₀, e₀⟩, _⟩ := id B
  have ks₂ := kp.trans k₂
  generalize hU : s.heap.update b (fun _ => { cls := .type "list", data := .seq ((#[.ref l, .int k t₀] : Array Value).setIfInBounds (1 : Int).toNat (.int ((k + 1 : Nat) : Int) tv)) n₃ }) = H
  have U1 : H.get? b = some { cls := .type "list", data := .seq ((#[.ref l, .int k t₀] : Array Value).setIfInBounds (1 : Int).toNat (.int ((k + 1 : Nat) : Int) tv)) n₃ } := by rw [← hU]; exact Heap.get?_update_self _ e₀ rfl
  have U2 : ∀ a, a ≠ b → H.get? a = s.heap.get? a := fun a h => by rw [← hU]; exact Heap.get?_update_other _ _ (Ne.symm h)
  have WH : Wd mg w H := W.keeps fun a o q => (U2 a fun z => by rw [z, hb] at q; cases q).trans (kW a o q)
  have keep : ∀ a o, H.get? a = some o → h₃.get? a = some o := fun a o q => by
    by_cases z : a = b
    · subst z; rw [U1] at q; cases q; exact e₃
    · exact (sb₃.2 a z).trans (ks₂.get a o ((U2 a z).symm.trans q))
  have hlb : l ≠ b := Ne.symm hne
  obtain ⟨nl', el⟩ := hpl
  have el₃ := (sb₃.2 l hlb).trans el
  have B₃ : Box h₃ b l xs (k + 1) := ⟨tv, vs, ⟨n₃, e₃⟩, hne, ⟨nl', el₃⟩, il.ints⟩
  obtain ⟨mL, ns⟩ := (S.keeps k₂.get).ns
  have ns₃ : h₃.Ns env.locals mL := ns.at' fun o q => (sb₃.2 _ hnb).trans q
  have hcb : ∀ y c, env.cells.lookup y = some c → c ≠ b := fun y c q z => by
    have := hc y c q
    rw [z, e₀] at this; cases this
  have val₃ : ∀ {y v}, Val env s₂.heap y v → Val env h₃ y v := fun V => V.imp (fun ⟨a, m, ns, e⟩ => ⟨a, m, ns.at' fun o q => (sb₃.2 _ hnb).trans q, e⟩) fun ⟨a, c, q, o, e, d⟩ => ⟨a, c, q, o, (sb₃.2 _ (hcb _ _ q)).trans e, d⟩
  have S₃ : St (Base.at H) env [(Str.ofString "box", boxD xs (k + 1)), (Str.ofString "many", .int m)] [] h₃ := by
    refine ⟨⟨mL, ns₃⟩, keep, (U2 _ hnb).trans S.fresh, fun y c hm => ?_, fun y d hm => ?_, (fun _ _ _ h => nomatch h), List.nodup_nil, fun a e => none_keep keep e⟩
    · obtain ⟨u, o, e, dd⟩ := S.cells y c hm
      exact ⟨u, o, (sb₃.2 _ (hcb y c hm)).trans (k₂.get _ _ e), dd⟩
    · rcases List.mem_cons.mp hm with q | q
      · cases q
        exact ⟨.ref b, val₃ (Vb.keeps k₂.get), B₃.is.mono fun a o _ _ e _ => hid_of e (by simp [Owns.at])⟩
      · cases List.mem_singleton.mp q
        exact ⟨.int m t, val₃ (Vm.keeps k₂.get), .int _ _⟩
  refine wpAny_q (ws_ok 30 (ω := []) (nx := fun _ _ => False) (rt := fun d _ => ∃ r, d = .int r ∧ 0 ≤ r ∧ r < m) (F _ WH) hsc ?_ _ S₃) fun fl s₄ ⟨mv, p⟩ => ?_
  · have hi0 : 0 ≤ (0 : Int) ∧ ([.list (xs.map .int), .int ((k + 1 : Nat) : Int)] : List PyData)[(0 : Int).toNat]? = some (.list (xs.map .int)) ∧ ([.list (xs.map .int), .int ((k + 1 : Nat) : Int)] : List PyData).length ≤ 2 ^ 62 := ⟨by decide, rfl, by show 2 ≤ 2 ^ 62; decide⟩
    have hi1' : 0 ≤ (1 : Int) ∧ ([.list (xs.map .int), .int ((k + 1 : Nat) : Int)] : List PyData)[(1 : Int).toNat]? = some (.int ((k + 1 : Nat) : Int)) ∧ ([.list (xs.map .int), .int ((k + 1 : Nat) : Int)] : List PyData).length ≤ 2 ^ 62 := ⟨by decide, rfl, by show 2 ≤ 2 ^ 62; decide⟩
    have hl : (xs.map PyData.int).length ≤ 1000 := by rw [List.length_map]; lia
    refine Stop.mk ⟨_, hi1', Stop.mk ⟨_, hi0, And.intro hl (And.intro (fun q => ?_) fun _ => ?_)⟩⟩
    · have hlt : k < xs.length := by
        have := of_decide_eq_true q
        rw [List.length_map] at this; lia
      have hx1 : 0 ≤ ((k + 1 : Nat) : Int) - 1 ∧ (xs.map PyData.int)[(((k + 1 : Nat) : Int) - 1).toNat]? = some (.int xs[k]) ∧ (xs.map PyData.int).length ≤ 2 ^ 62 := by
        refine ⟨by lia, ?_, Nat.le_trans hl (by decide)⟩
        rw [show (((k + 1 : Nat) : Int) - 1).toNat = k by lia]; simp [hlt]
      exact Stop.mk ⟨_, hi0, Stop.mk ⟨_, hi1', Stop.mk ⟨_, hx1, And.intro (Int.ne_of_gt hm) ⟨_, rfl, mod_in hm⟩⟩⟩⟩
    · exact Stop.mk ⟨_, hi1', And.intro (mulF (smallF (by decide)) (smallF (by lia))) (Stop.mk ⟨_, hi1', And.intro ⟨by decide, Nat.lt_of_lt_of_le (show 3 < 2 ^ 2 by decide) (two_le (by decide))⟩ (And.intro (Int.ne_of_gt hm) ⟨_, rfl, mod_in hm⟩)⟩)⟩
  · cases fl with
    | brk => exact p.elim
    | cont => exact p.elim
    | next => obtain ⟨_, _, q, _⟩ := p; exact q.elim
    | ret v =>
      obtain ⟨d, kd, ⟨r, rfl, h0, h1⟩, hv⟩ := p
      have hv' : ∃ t', v = .int r t' := by
        cases kd with
        | new => obtain ⟨_, q, _⟩ := hv; cases q
        | any => exact Is.int_inv hv
        | safe => exact Is.int_inv hv
      obtain ⟨t', rfl⟩ := hv'
      obtain ⟨h₂, t₂, rfl, q₂⟩ := ks₂
      obtain ⟨h₄, t₄, rfl, q₄⟩ := mv
      have nm : ∀ a o, s.heap.get? a = some o → ¬ mov env (Owns.at []) a := fun a o e => by
        rintro (q | ⟨y, q⟩ | q)
        · rw [q] at e
          rw [show s.heap.get? env.locals = none from S.fresh] at e; cases e
        · rw [hc y a q] at e; cases e
        · simp [Owns.at] at q
      refine ⟨⟨r, t', rfl, h0, h1⟩, ⟨h₄, t₄, rfl, fun a o ha e => q₄ a o (nm a o e) ((sb₃.2 a ha).trans (q₂ a o e))⟩, ?_⟩
      have nl : ¬ mov env (Owns.at []) l := by
        rintro (q | ⟨y, q⟩ | q)
        · obtain ⟨oL, es, ep, e1, e2, _⟩ := ns₃
          rw [← q, el₃] at e1; cases e1; cases e2
        · obtain ⟨u, o, e, dd⟩ := S₃.cells y l q
          rw [show h₃.get? l = some o from e] at el₃; cases el₃; cases dd
        · simp [Owns.at] at q
      exact ⟨tv, vs, ⟨n₃, q₄ b _ (nm b _ e₀) e₃⟩, hne, ⟨nl', q₄ l _ nl el₃⟩, il.ints⟩
end
end
end Mine
end
section
open PySem PySem.W PyProof.Rows PySem.Calls PySem.SeqAt
set_option maxRecDepth 100000
set_option linter.unusedVariables false
set_option maxHeartbeats 1000000
namespace Mine
noncomputable section
def nBox : Str := Str.ofString "box"
structure Dr (h₀ : Base) (env : Env) (ρ : Vars) (ω : Owns) (b l : Addr) (xs : List Int) (k : Nat) (h : Heap) : Prop where
  st : St h₀ env ρ ω h
  val : Val env h nBox (.ref b)
  box : Box h b l xs k
  out : b ∉ ω.at
  inn : l ∉ ω.at
  new : h₀.h.get? b = none
  flats : ∀ p ∈ ρ, flat p.2 = true
section
variable {mg : MG} {w : World} {A : Around} {env : Env} {h₀ : Base} {ρ : Vars} {ω : Owns} {b l : Addr} {xs : List Int}
theorem Bp.flat {s s' : Shared} {v : Value} {d : PyData} (x : Bp b s s') (hb : ∃ vs, s.heap.PlainList b vs) (hf : Mine.flat d = true) (i : Is s.heap.get? v d) : Is s'.heap.get? v d :=
  i.flatMono (fun a o us n e c q => x.get a o (fun z => by obtain ⟨vs, n', e'⟩ := hb; rw [z, e'] at e; cases e; simp at c) e) hf
theorem Bp.flats {s s' : Shared} {vs : List Value} {ds : List PyData} (x : Bp b s s') (hb : ∃ vs, s.heap.PlainList b vs) (hf : ds.all Mine.flat = true) (i : IsAll s.heap.get? vs ds) : IsAll s'.heap.get? vs ds :=
  i.flatMono (fun a o us n e c q => x.get a o (fun z => by obtain ⟨vs, n', e'⟩ := hb; rw [z, e'] at e; cases e; simp at c) e) hf
theorem Box.lst {h : Heap} {k : Nat} (B : Box h b l xs k) : ∃ vs, h.PlainList b vs := let ⟨_, _, e, _⟩ := B; ⟨_, e⟩
theorem Dr.not {k : Nat} {h : Heap} (d : Dr h₀ env ρ ω b l xs k h) {a : Addr} {m : Str → Option Value} (ns : h.Ns a m) : a ≠ b := fun q => by
  obtain ⟨vs, n, e⟩ := d.box.lst
  obtain ⟨o, es, ep, e', dd, _⟩ := ns
  rw [q, e] at e'; cases e'; cases dd
theorem Dr.kp {k : Nat} {s s' : Shared} (d : Dr h₀ env ρ ω b l xs k s.heap) (q : Kp s s') : Dr h₀ env ρ ω b l xs k s'.heap :=
  ⟨d.st.keeps q.get, d.val.keeps q.get, d.box.keeps q.get, d.out, d.inn, d.new, d.flats⟩
theorem Dr.bp {k k' : Nat} {s s' : Shared} (d : Dr h₀ env ρ ω b l xs k s.heap) (q : Bp b s s') (B : Box s'.heap b l xs k') : Dr h₀ env ρ ω b l xs k' s'.heap := by
  have hb := d.box.lst
  have cell : ∀ {c v}, s.heap.IsCell c v → s'.heap.IsCell c v := fun ⟨o, e, dd⟩ => ⟨o, q.get _ o (fun z => by obtain ⟨vs, n', e'⟩ := hb; rw [z, e'] at e; cases e; cases dd) e, dd⟩
  have ns : ∀ {m}, s.heap.Ns env.locals m → s'.heap.Ns env.locals m := fun x => x.at' fun o e => q.get _ o (d.not x) e
  have val : ∀ {y u}, Val env s.heap y u → Val env s'.heap y u := fun V => V.imp (fun ⟨a, m, b, c⟩ => ⟨a, m, ns b, c⟩) fun ⟨a, c, e, z⟩ => ⟨a, c, e, cell z⟩
  refine ⟨⟨let ⟨m, e⟩ := d.st.ns; ⟨m, ns e⟩, fun a o e => q.get a o (fun z => by rw [z, d.new] at e; cases e) (d.st.keep a o e), d.st.fresh, fun y c hc => let ⟨v, e⟩ := d.st.cells y c hc; ⟨v, cell e⟩, fun y dy hm => ?_, fun y ds l hm => ?_, d.st.apart, fun a e => ?_⟩, val d.val, B, d.out, d.inn, d.new, d.flats⟩
  · obtain ⟨u, V, iu⟩ := d.st.vars y dy hm
    have hf := d.flats _ hm
    refine ⟨u, val V, ?_⟩
    have L' : Lists s'.heap ω.at := fun l hl => by
      obtain ⟨p, hp, rfl⟩ := List.mem_map.mp hl
      obtain ⟨_, ⟨us, ⟨n, e⟩, _⟩, _⟩ := d.st.owns _ _ _ hp
      exact ⟨_, q.get _ _ (fun z => d.out (z ▸ hl)) e, rfl⟩
    exact (q.flat hb hf iu.full).flat hf L'
  · obtain ⟨V, ⟨vs, ⟨n, e⟩, iu⟩, hf, hn⟩ := d.st.owns y ds l hm
    have hlb : l ≠ b := fun z => d.out (z ▸ List.mem_map.mpr ⟨_, hm, rfl⟩)
    exact ⟨val V, ⟨vs, ⟨n, q.get _ _ hlb e⟩, q.flats hb hf iu⟩, hf, hn⟩
  · by_cases z : a = b
    · subst z
      obtain ⟨vs, n, e'⟩ := B.lst
      rw [e'] at e; cases e
    · refine d.st.wide a ?_
      cases e' : s.heap.get? a with
      | none => rfl
      | some o => rw [q.get a o z e'] at e; cases e
/-- an expression with draws -/
def DE (mg : MG) (w : World) (A : Around) (env : Env) (h₀ : Base) (ρ : Vars) (ω : Owns) (b l : Addr) (xs : List Int) (e : Expr) (P : PyData → Prop) : Prop :=
  ∀ k s, Dr h₀ env ρ ω b l xs k s.heap → k ≤ 99 → wpAny (model pw w) A (eval e env) (fun v s' => (∃ d, P d ∧ flat d = true ∧ Is s'.heap.get? v d) ∧ Bp b s s' ∧ ∃ k', k' ≤ k + 1 ∧ Box s'.heap b l xs k') No s
def EvB (mg : MG) (w : World) (A : Around) (env : Env) (h₀ : Base) (ρ : Vars) (ω : Owns) (b : Addr) (e : Expr) (ds : List PyData) : Prop :=
  ∀ s, St h₀ env ρ ω s.heap → (∃ o, s.heap.get? b = some o) → b ∉ ω.at → wpAny (model pw w) A (eval e env) (fun xv s₁ => wpAny (model pw w) A (pyIter xv) (fun it s₂ => Kp s s₂ ∧ ∃ I fp wr P Stt, it = .ref I ∧ Walks pw w A I fp wr ds.length P Stt ∧ Stt 0 s₂.heap ∧ (∀ b ∈ fp, ∃ o, s₂.heap.get? b = some o) ∧ b ∉ fp ∧
    (∀ b ∈ wr, s.heap.get? b = none) ∧ (∀ i h, Stt i h → ∀ b ∈ wr, ∃ o vs, h.get? b = some o ∧ o.data = .fields vs) ∧ (∀ i v d, P i v → ds[i]? = some d → Is s₂.heap.get? v d)) No s₁) No s
theorem evB_range {e : Expr} {ds : List PyData} (x : EvIt mg w A true env h₀ ρ ω e ds) : EvB mg w A env h₀ ρ ω b e ds := fun s S hb _ =>
  wpAny_q (x s S) fun xv s₁ h₁ => wpAny_q h₁ fun it s₂ h => h.imp id (.imp fun I => .imp fun fp => .imp fun wr => .imp fun P => .imp fun Stt h => ⟨h.1, h.2.1, h.2.2.1, h.2.2.2.1, (fun hm => by
    obtain ⟨o, e⟩ := hb
    rcases h.2.2.2.2.1 b hm with q | ⟨q, _⟩
    · rw [h.2.2.2.2.2.1 b q] at e; cases e
    · cases q), h.2.2.2.2.2⟩)
theorem evB_own {x : Str} {np : Pos} {ds : List PyData} {L : Addr} (hA : A.handled = none) (hk : EnvOk env) (hm : (x, ds, L) ∈ ω) (hd : (x == ("__debug__" : Str)) = false) : EvB mg w A env h₀ ρ ω b (.Name x np) ds := fun s S hb hout => by
  obtain ⟨V, ⟨vs, ⟨n, e⟩, i⟩, _⟩ := S.owns x ds L hm
  have hlen : vs.size = ds.length := by simpa using i.length
  have hne : L ≠ s.heap.objs.size := Nat.ne_of_lt (Heap.lt_size e)
  have hLb : b ≠ L := fun z => hout (z ▸ List.mem_map.mpr ⟨_, hm, rfl⟩)
  obtain ⟨ob, eb⟩ := hb
  refine load_val hk.kind V ?_ hd
  show wpAny _ _ (pyIter (.ref L)) _ _ s
  have kp := Kp.push s { cls := .type "list_iterator", data := .fields #[.ref L, .int 0 0] }
  refine wpAny_pyIter_list ⟨_, e, rfl, _, rfl⟩ ⟨kp, s.heap.objs.size, [s.heap.objs.size, L], [s.heap.objs.size], _, _, rfl, (by rw [← hlen]; exact Walks.list hA _ L hne vs), ?_, ?_, ?_, ?_, ?_, ?_⟩
  · exact ⟨⟨_, Heap.get?_push_size _ rfl, rfl, rfl⟩, ⟨_, kp.get _ _ e, rfl, _, rfl⟩⟩
  · intro b hb
    rcases List.mem_cons.mp hb with rfl | hb
    · exact ⟨_, Heap.get?_push_size _ rfl⟩
    · rw [List.mem_singleton.mp hb]; exact ⟨_, kp.get _ _ e⟩
  · intro hb
    rcases List.mem_cons.mp hb with q | hb
    · exact absurd (Heap.lt_size eb) (by rw [q]; exact Nat.lt_irrefl _)
    · exact hLb (List.mem_singleton.mp hb)
  · intro b hb; rw [List.mem_singleton.mp hb]; exact Heap.get?_none_of_le (Nat.le_refl _)
  · intro i h hI b hb
    rw [List.mem_singleton.mp hb]
    obtain ⟨⟨o, ho, _, hd⟩, _⟩ := hI
    exact ⟨o, _, ho, hd⟩
  · intro j v d hv hd
    obtain ⟨z, hz, iz⟩ := i.get j d hd
    have : v = z := by
      have h1 : vs.toList[j]? = some v := by simpa using hv
      rw [hz] at h1; exact (Option.some.inj h1).symm
    subst this
    exact iz.mono (get_mono kp.get)
theorem de_compU {elt iter : Expr} {x : Str} {px : Pos} {scope : Scope} {pos : Pos} {ds : List PyData} {cl : List (Str × Addr)} {P : Nat → PyData → Prop} {use : Option (Value → Sem Unit)} {Q : Value → Shared → Prop} {newAcc : Sem Value} {pos' : Pos}
    (hacc0 : newAcc = newList []) (hcell : ∀ y ∈ scope.names, y.2 ≠ .cell) (hkind : scope.kind = .function)
    (hnames : ∀ y ∈ scope.names, y.2 = .local → scope.names.lookup y.1 = some .local) (hx : scope.names.lookup x = some .local)
    (hclos : closureFor scope env = pure cl) (hcl : ∀ x c, cl.lookup x = some c → ∃ y, env.cells.lookup y = some c)
    (hi : EvB mg w A env h₀ ρ ω b iter ds) (hsc : ds.all scalar = true)
    (cap : Bool) (hB : cap = true → env.kindOf nBox = some .cell ∧ cl.lookup nBox = env.cells.lookup nBox ∧ (relabel scope env).names.lookup nBox = some .cell)
    (he : ∀ C (i : Nat) d, ds[i]? = some d → ∀ k s, St (Base.at h₀.h) (compEnvC scope cl C env) [(x, d)] [] s.heap → Box s.heap b l xs k → (cap = true → Val (compEnvC scope cl C env) s.heap nBox (.ref b)) → k ≤ 99 → h₀.h.get? b = none →
      wpAny (model pw w) A (eval elt (compEnvC scope cl C env)) (fun v s' => (∃ d, P i d ∧ flat d = true ∧ Is s'.heap.get? v d) ∧ Bp b s s' ∧ ∃ k', k' ≤ k + 1 ∧ Box s'.heap b l xs k') No s)
    (hs : ∀ x, foldedSetIterable iter env x = pure x) :
    ∀ k s, Dr h₀ env ρ ω b l xs k s.heap → k + ds.length ≤ 99 →
    (∀ h₃ tk m D C vs rs k', s.heap.get? D = none → s.heap.get? C = none → D ≠ C → h₃.PlainList D vs → IsAll h₃.get? vs.toList rs → rs.length = ds.length → (∀ i r, rs[i]? = some r → P i r ∧ flat r = true) → h₃.Ns C m →
      (∀ a o, a ≠ b → s.heap.get? a = some o → h₃.get? a = some o) → k' ≤ k + ds.length → Box h₃ b l xs k' → compPost (model pw w) A No use Q (.ref D) C (.ok .next) { s with heap := h₃, toks := tk }) →
    wpAny (model pw w) A (comprehension (.ListComp elt [⟨.Name x px, iter, [], 0⟩] scope pos) scope env pos' newAcc false (eval iter env) use) Q No s := fun k s R hkn fin => by
  have S := R.st
  subst hacc0
  obtain ⟨vb, nb, eb⟩ := R.box.lst
  refine wpAny_comprehension_free rfl hs hclos hkind hnames (wpAny_q (hi s S ⟨_, eb⟩ R.out) fun xv s₁ h₁ => wpAny_q h₁ fun it s₂ h₂ => ?_)
  obtain ⟨k₂, I, fp, wr, Pr, Stt, rfl, Wk, hst, hfp, hbf, hwr, hfld, hP⟩ := h₂
  have S₂ := S.keeps k₂.get
  refine wpAny_newObj_type (wpAny_newFunctionEnv hcell (by intro y hy; simp at hy) (fun H hns hsb => ?_) hkind)
  dsimp only at hns hsb ⊢
  generalize hH2 : s₂.heap.push { cls := .type "list", dict := none, data := .seq ([] : List Value).toArray } = H2 at hns hsb ⊢
  have Z := compB k₂.get hfp hwr (fun _ => Wk.sub _) hH2 fun b o => hsb.extBut b o
  obtain ⟨hbC, hbD, hbw, _⟩ := Z.oldS _ _ eb
  have hx' : (compEnvC scope cl H2.objs.size env).kindOf x = some .local := lookup_relabel_local hx
  have loop : ∀ s₃ : Shared, s₃ = { s₂ with heap := H, toks := s₂.toks + ([] : List (Str × Value)).length } →
      codeAny (model pw w) A (.compLoop (.ListComp elt [⟨.Name x px, iter, [], 0⟩] scope pos) 0 (.ref I) (.ref s₂.heap.objs.size) (compEnvC scope cl H2.objs.size env))
        (compPost (model pw w) A No use Q (.ref s₂.heap.objs.size) H2.objs.size) s₃ := by
    rintro s₃ rfl
    refine codeAny_compLoop_tests
      (fun j s' => ∃ i h' tk m vs rs k', s' = { s₂ with heap := h', toks := tk } ∧ j = ds.length + 1 - i ∧ i ≤ ds.length ∧ Stt i h' ∧ h'.PlainList s₂.heap.objs.size vs ∧ rs.length = i ∧ IsAll h'.get? vs.toList rs ∧ (∀ i r, rs[i]? = some r → P i r ∧ flat r = true) ∧ h'.Ns H2.objs.size m ∧ k' ≤ k + i ∧ Box h' b l xs k' ∧
        (∀ a o, a ∉ wr → a ≠ b → s₂.heap.get? a = some o → h'.get? a = some o)) ?_ (ds.length + 1)
      ⟨0, H, _, _, #[], [], k, rfl, rfl, Nat.zero_le _, Wk.frame _ _ _ hst (fun b _ o e => Z.old b o e), Z.acc, rfl, .nil, (fun _ _ h => by simp at h), hns, Nat.le_refl _, (R.box.keeps k₂.get).keeps Z.old, fun b o _ _ e => Z.old b o e⟩
    rintro j s' ⟨i, h', tk, m, vs, rs, k', rfl, rfl, hi', hst', hpl, hrs, hia, hPr, hn, hk', B', hk⟩
    by_cases hlt : i < ds.length
    · refine Wk.item i _ _ _ hlt hst' fun v h₃ tk₃ hPv hst₃ hk₃ => ?_
      obtain ⟨d, hd⟩ : ∃ d, ds[i]? = some d := ⟨ds[i], by simp [hlt]⟩
      have hds : scalar d = true := List.all_eq_true.mp hsc d (List.mem_of_getElem? hd)
      refine wpAny_assign_Name (wpAny_storeName_local hx' (hn.at' fun o e => hk₃ _ o Z.Cw e) (fun h₄ hn₄ hs₄ => ?_) (by simp [compEnvC, relabel, hkind]))
      have hs₄ : Heap.SameBut H2.objs.size h₃ h₄ := hs₄
      have hn₄ : h₄.Ns H2.objs.size _ := hn₄
      refine wpAny_tests_nil ?_
      simp only [if_true]
      have k34 : ∀ a o, a ∉ wr → a ≠ H2.objs.size → h'.get? a = some o → h₄.get? a = some o := fun a o h1 h2 e => hs₄.extBut a o h2 (hk₃ a o h1 e)
      have k24 : ∀ a o, a ∉ wr → a ≠ b → s₂.heap.get? a = some o → h₄.get? a = some o := fun a o hb hb' e => k34 a o hb (Z.below a o e).1 (hk a o hb hb' e)
      have kS : ∀ a o, a ≠ b → s.heap.get? a = some o → h₄.get? a = some o := fun a o hab e => let ⟨_, _, p, q⟩ := Z.oldS a o e; k24 a o p hab q
      have hpl₄ : h₄.PlainList s₂.heap.objs.size vs := hpl.at fun o e => k34 _ o Z.Dw Z.ne e
      have B₄ : Box h₄ b l xs k' := by
        obtain ⟨t, us, ⟨n, e⟩, hne, ⟨n', e'⟩, ii⟩ := B'
        obtain ⟨_, _, _, _, ⟨n0, el⟩, _⟩ := R.box
        obtain ⟨hlC, _, hlw, _⟩ := Z.oldS _ _ el
        exact ⟨t, us, ⟨n, k34 b _ hbw hbC e⟩, hne, ⟨n', k34 l _ hlw hlC e'⟩, ii.ints⟩
      have St₄ : St (Base.at h₀.h) (compEnvC scope cl H2.objs.size env) [(x, d)] [] h₄ := by
        have kp0 : ∀ a o, h₀.h.get? a = some o → h₄.get? a = some o := fun a o e => kS a o (fun z => by rw [z, R.new] at e; cases e) (S.keep a o e)
        refine ⟨⟨_, hn₄⟩, kp0, none_keep S.keep Z.Cs, ?_, ?_, (fun x ds l hm => by simp at hm), List.nodup_nil, fun a e => none_keep kp0 e⟩
        · intro y c hm
          obtain ⟨z, hz⟩ := hcl y c hm
          obtain ⟨u, o, e, dd⟩ := S.cells z c hz
          exact ⟨u, o, kS _ _ (fun q => by rw [q, eb] at e; cases e; cases dd) e, dd⟩
        · intro y dy hm
          cases List.mem_singleton.mp hm
          exact ⟨v, .inl ⟨hx', _, hn₄, by simp⟩, (hP i v d hPv hd).scalar hds⟩
      have V₄ : cap = true → Val (compEnvC scope cl H2.objs.size env) h₄ nBox (.ref b) := fun hcap => by
        have hB := hB hcap
        rcases R.val with ⟨b1, _⟩ | ⟨_, c, b2, o, e, dd⟩
        · rw [hB.1] at b1; cases b1
        · exact .inr ⟨hB.2.2, c, hB.2.1.trans b2, o, kS _ _ (fun q => by rw [q, eb] at e; cases e; cases dd) e, dd⟩
      refine wpAny_q (he H2.objs.size i d hd k' { s₂ with heap := h₄, toks := _ } St₄ B₄ V₄ (by lia) R.new) fun y s₅ ⟨⟨r, hr, hf, i₅⟩, b₅, k'', hk'', B₅⟩ => ?_
      obtain ⟨h₅, tk₅, rfl, k₅⟩ := b₅
      replace k₅ : ∀ a o, a ≠ b → h₄.get? a = some o → h₅.get? a = some o := k₅
      replace i₅ : Is h₅.get? y r := i₅
      have hvs : vs.size = i := by have := hia.length; simp at this; lia
      refine wpAny_list_append_plain (hpl₄.at fun o e => k₅ _ o (Ne.symm hbD) e) (fun h₆ hl₆ hs₆ => ?_) (Nat.le_trans (show vs.size ≤ 1000 by lia) (by decide))
      replace hs₆ : Heap.SameBut s₂.heap.objs.size h₅ h₆ := hs₆
      have n6 : h₆.Ns H2.objs.size (fun y => if y = x then some v else m y) := (hn₄.at' fun o e => k₅ _ o (Ne.symm hbC) e).sameBut hs₆ (Ne.symm Z.ne)
      have tupNot : ∀ {h : Heap} {a : Addr} {o : Obj} {us : Array Value} {n : Nat} {vs : Array Value}, h.get? a = some o → o.cls = .type "tuple" → o.data = .seq us n → ∀ c, h.PlainList c vs → a ≠ c := fun e c q z hz hq => by
        obtain ⟨n', e'⟩ := hz
        rw [hq, e'] at e; cases e; simp at c
      have nsNot : ∀ {h : Heap} {a c : Addr} {o : Obj} {us : Array Value} {n : Nat} {m : Str → Option Value}, h.get? a = some o → o.data = .seq us n → h.Ns c m → a ≠ c := fun e q hn hq => by
        obtain ⟨o', es, ep, e', dd, _⟩ := hn
        rw [hq, e'] at e; cases e; rw [dd] at q; cases q
      have flm : FlatMono h'.get? h₆.get? := fun a o us n e c q => by
        have h1 : a ∉ wr := fun hm => by
          obtain ⟨o', zs, e', q'⟩ := hfld _ _ hst' a hm
          rw [e] at e'; cases e'; rw [q] at q'; cases q'
        exact hs₆.extBut a o (tupNot e c q _ hpl) (k₅ a o (by obtain ⟨us', z⟩ := B'.lst; exact tupNot e c q _ z) (k34 a o h1 (nsNot e q hn) e))
      refine ⟨ds.length + 1 - (i + 1), by lia, i + 1, h₆, tk₅, (fun y => if y = x then some v else m y), vs.push y, rs ++ [r], k'', rfl, rfl, hlt, ?_, hl₆, by simp [hrs], ?_, ?_, n6, by lia, ?_, ?_⟩
      · exact Wk.frame _ _ _ hst₃ fun b' hb' o e => hs₆.extBut b' o (fun q => Z.Df (q ▸ hb')) (k₅ b' o (fun q => hbf (q ▸ hb')) (hs₄.extBut b' o (fun q => Z.Cf (q ▸ hb')) e))
      · have iy : Is h₆.get? y r := i₅.flatMono (fun a o us n e c q => hs₆.extBut a o (tupNot e c q _ (hpl₄.at fun o e => k₅ _ o (Ne.symm hbD) e)) e) hf
        have := (hia.flatMono flm (List.all_eq_true.mpr fun r hr => by obtain ⟨i', q⟩ := List.mem_iff_getElem?.mp hr; exact (hPr i' r q).2)).append (.cons iy .nil)
        simpa using this
      · intro i' r' hr'
        rw [List.getElem?_append] at hr'
        split at hr'
        · exact hPr i' r' hr'
        · rename_i q
          have : i' = i := by
            have := (List.getElem?_eq_some_iff.mp hr').1
            simp at this; lia
          subst this
          rw [hrs, Nat.sub_self] at hr'
          cases hr'
          exact ⟨hr, hf⟩
      · obtain ⟨t, us, ⟨n, e⟩, hne, ⟨n', e'⟩, ii⟩ := B₅
        obtain ⟨_, _, _, _, ⟨n0, el⟩, _⟩ := R.box
        obtain ⟨_, hlD, _, _⟩ := Z.oldS _ _ el
        exact ⟨t, us, ⟨n, hs₆.extBut b _ hbD e⟩, hne, ⟨n', hs₆.extBut l _ hlD e'⟩, ii.ints⟩
      · exact fun a o h1 h2 e => hs₆.extBut a o (Z.below a o e).2 (k₅ a o h2 (k24 a o h1 h2 e))
    · have hin : i = ds.length := by lia
      subst hin
      refine Wk.done _ _ _ hst' fun h₃ tk₃ hk₃ => ?_
      have kk : ∀ a o, a ∉ wr → h'.get? a = some o → h₃.get? a = some o := hk₃
      have ks : ∃ h₀ t₀, s₂ = { s with heap := h₀, toks := t₀ } := let ⟨h, t, e, _⟩ := k₂; ⟨h, t, e⟩
      have keep := fin h₃ tk₃ m s₂.heap.objs.size H2.objs.size vs rs k' Z.Ds Z.Cs Z.ne (hpl.at fun o e => kk _ o Z.Dw e) (hia.flatMono (fun a o us n e c q => kk a o (fun hm => by
        obtain ⟨o', zs, e', q'⟩ := hfld _ _ hst' a hm
        rw [e] at e'; cases e'; rw [q] at q'; cases q') e) (List.all_eq_true.mpr fun r hr => by obtain ⟨i', q⟩ := List.mem_iff_getElem?.mp hr; exact (hPr i' r q).2)) hrs hPr (hn.at' fun o e => kk _ o Z.Cw e)
        (fun a o hab e => let ⟨a0, _, a1, b'⟩ := Z.oldS a o e; kk a o a1 (hk a o a1 hab b')) hk' (by
          obtain ⟨t, us, ⟨n, e⟩, hne, ⟨n', e'⟩, ii⟩ := B'
          obtain ⟨_, _, _, _, ⟨n0, el⟩, _⟩ := R.box
          obtain ⟨_, _, hlw, _⟩ := Z.oldS _ _ el
          exact ⟨t, us, ⟨n, kk b _ hbw e⟩, hne, ⟨n', kk l _ hlw e'⟩, ii.ints⟩)
      obtain ⟨h₀', t₀', e0⟩ := ks
      have e1 : ({ s with heap := h₃, toks := tk₃ } : Shared) = { s₂ with heap := h₃, toks := tk₃ } := by rw [e0]
      rw [e1] at keep
      exact keep
  exact codeAny_compStart_list (loop _ rfl) (Wk.self 0 _ _ _ (Wk.frame _ _ _ hst fun b _ o e => Z.old b o e) (loop _ rfl))
end
end
end Mine
end
section
open PySem PySem.W PyProof.Rows PySem.Calls PySem.SeqAt
set_option maxRecDepth 100000
set_option linter.unusedVariables false
set_option maxHeartbeats 1000000
namespace Mine
noncomputable section
section
variable {mg : MG} {w : World} {A : Around} {env : Env} {h₀ : Base} {ρ : Vars} {ω : Owns} {b l : Addr} {xs : List Int}
def inM (m : Int) (d : PyData) : Prop := ∃ r, d = .int r ∧ 0 ≤ r ∧ r < m
theorem de_take {m : Int} {np p1 p2 pos : Pos} {kk : Nat} (hA : Ro A 3) (hk : EnvOk env) (W : Wd mg w h₀.h) (hx : env.kindOf (Str.ofString "_law_take") = some .globalImplicit) (hl : xs.length ≤ 100) (hm : 0 < m) :
    DE mg w A env h₀ ρ ω b l xs (.Call (.Name (Str.ofString "_law_take") np) [.Name nBox p1, .Constant (.int m) kk p2] [] pos) (inM m) := fun k s R hk' => by
  have W₀ := W.keeps R.st.keep
  obtain ⟨a, o, fd, hg, ho, hd⟩ := fn_at (f := Str.ofString "_law_take") rfl W₀
  refine wpAny_Call_ofName (load_global hk W₀ hx hg ?_ (by decide))
  refine callWith_of (P := fun h => h.get? a = some o) rfl (fun h e => ⟨.frame, .inl rfl, keeper_fn e hd⟩) ?_
  refine evalArgs_plain (wpAny_items_cons (load_val hk.kind R.val (wpAny_items_cons (wpAny_Constant_int (wpAny_items_nil ⟨ho, ?_⟩)) rfl) (by decide)) rfl)
  refine wpAny_q (take_tells (s := { s with toks := s.toks + 1 }) hA W R.st.keep R.new hg R.box hl (by lia) hm) fun v s' ⟨⟨r, t, hv, h0, h1⟩, bp, B⟩ => ⟨⟨.int r, ⟨r, rfl, h0, h1⟩, rfl, ?_⟩, ?_, k + 1, Nat.le_refl _, B⟩
  · rw [hv]; exact .int _ _
  · obtain ⟨h', tk, rfl, q⟩ := bp
    exact ⟨h', tk, rfl, q⟩
theorem de_pure {e : Expr} {d : PyData} (x : Ev mg w A env h₀ ρ ω e d) (hf : flat d = true) : DE mg w A env h₀ ρ ω b l xs e (· = d) := fun k s R _ =>
  wpAny_q (x s R.st) fun v s' ⟨q, i⟩ => ⟨⟨d, rfl, hf, i⟩, Bp.of_kp q, k, Nat.le_succ _, R.box.keeps q.get⟩
theorem de_add {e : Expr} {i m : Int} {kk : Nat} {p1 pos : Pos} (x : DE mg w A env h₀ ρ ω b l xs e (inM m)) : DE mg w A env h₀ ρ ω b l xs (.BinOp (.Constant (.int i) kk p1) .Add e pos) (fun d => ∃ r, d = .int (i + r) ∧ 0 ≤ r ∧ r < m) := fun k s R hk =>
  wpAny_BinOp (wpAny_Constant_int (wpAny_q (x k _ (R.kp (Kp.tok s _)) hk) fun v s' ⟨⟨d, ⟨r, e, h0, h1⟩, f, iv⟩, bp, rest⟩ => by
    subst e
    obtain ⟨t, rfl⟩ := iv.int_inv
    refine P.add_int ⟨⟨_, ⟨r, rfl, h0, h1⟩, rfl, .int _ _⟩, (Bp.of_kp (Kp.tok s _)).trans (bp.trans (Bp.of_kp (Kp.tok _ _))), rest⟩))
theorem de_sub {e : Expr} {i m : Int} {kk : Nat} {p1 pos : Pos} (x : DE mg w A env h₀ ρ ω b l xs e (inM m)) : DE mg w A env h₀ ρ ω b l xs (.BinOp e .Sub (.Constant (.int i) kk p1) pos) (fun d => ∃ r, d = .int (r - i) ∧ 0 ≤ r ∧ r < m) := fun k s R hk =>
  wpAny_BinOp (wpAny_q (x k s R hk) fun v s' ⟨⟨d, ⟨r, e, h0, h1⟩, f, iv⟩, bp, rest⟩ => by
    subst e
    obtain ⟨t, rfl⟩ := iv.int_inv
    refine wpAny_Constant_int (P.sub_int ⟨⟨_, ⟨r, rfl, h0, h1⟩, rfl, .int _ _⟩, bp.trans ((Bp.of_kp (Kp.tok _ _)).trans (Bp.of_kp (Kp.tok _ _))), rest⟩))
theorem de_tup1 {e : Expr} {P : PyData → Prop} {kk tk : Nat} {p1 pos : Pos} (x : DE mg w A env h₀ ρ ω b l xs e P) (hP : ∀ d, P d → scalar d = true) (hst : ∀ z p, e ≠ .Starred z p) : DE mg w A env h₀ ρ ω b l xs (.Tuple [e, .Constant (.int 1) kk p1] tk pos) (fun d => ∃ d₁, P d₁ ∧ d = .tuple [d₁, .int 1]) := fun k s R hk => by
  refine wpAny_Tuple (wpAny_items_cons (wpAny_q (x k s R hk) fun v s₁ ⟨⟨d, hp, hf, iv⟩, bp, k', hk', B⟩ => wpAny_items_cons (wpAny_Constant_int (wpAny_items_nil ⟨by show 2 ≤ sizeLine; decide, ?_⟩)) rfl) (starEach_cons' hst))
  have kp := (Kp.tok s₁ (s₁.toks + 1)).trans (Kp.push { s₁ with toks := s₁.toks + 1 } { cls := .type "tuple", data := .seq #[v, .int 1 s₁.toks] })
  refine ⟨⟨.tuple [d, .int 1], ⟨d, hp, rfl⟩, ?_, ?_⟩, bp.trans (Bp.of_kp kp), k', hk', B.keeps kp.get⟩
  · show ([d, .int 1].all scalar) = true
    simp only [List.all_cons, List.all_nil, hP d hp]; rfl
  · exact .tup (Heap.get?_push_size _ rfl) rfl rfl (.cons (iv.scalar (hP d hp)) (.cons (.int _ _) .nil))
theorem de_item {e i : Expr} {pos : Pos} {ds : List PyData} {m : Int} (x : Ev mg w A env h₀ ρ ω e (.tuple ds)) (y : DE mg w A env h₀ ρ ω b l xs i (inM m)) (hm : m = ds.length) (hz : ds.length ≤ 100) (hf : ds.all flat = true)
    (hs : ∀ l u, subscripted i false l u = operate [l, u] (getItem l u)) : DE mg w A env h₀ ρ ω b l xs (.Subscript e i pos) (· ∈ ds) := fun k s R hk =>
  Subscript_ (wpAny_q (x s R.st) fun v s₁ ⟨k₁, i₁⟩ => wpAny_q (y k s₁ (R.kp k₁) hk) fun u s₂ ⟨⟨d, ⟨r, e, h0, h1⟩, f, iu⟩, bp, rest⟩ => by
    subst e
    obtain ⟨t, rfl⟩ := iu.int_inv
    obtain ⟨a, vs, rfl, ⟨o, e, hc, n, hd⟩, ia⟩ := i₁.tup_inv
    have hb := (R.kp k₁).box.lst
    have e₂ := bp.get a o (fun z => by obtain ⟨vs', n', e'⟩ := hb; rw [z, e'] at e; cases e; simp at hc) e
    have ia₂ := bp.flats hb hf ia
    have hlt : r.toNat < ds.length := by lia
    obtain ⟨z, ez, iz⟩ := ia₂.get _ ds[r.toNat] (List.getElem?_eq_getElem hlt)
    have hlen : vs.size = ds.length := by simpa using ia.length
    have hl : IsTup s₂.heap a vs := ⟨o, e₂, hc, n, hd⟩
    have hj : seqIndex? r vs.size = some r.toNat := by
      unfold seqIndex?
      have h1 : ¬ r < 0 := by lia
      simp only [h1, if_false]
      rw [if_pos (by simp only [Bool.and_eq_true, decide_eq_true_eq]; lia)]
    have hbig : ds.length ≤ 2 ^ 62 := Nat.le_trans hz (by decide)
    exact tail_any hl.typeIs slot_tuple_getitem.lookup (PyProof.Rows.getItem_tuple hl (by lia) (by lia) hj (by simpa using ez) ⟨⟨_, List.getElem_mem hlt, List.all_eq_true.mp hf _ (List.getElem_mem hlt), iz⟩, (Bp.of_kp k₁).trans bp, rest⟩) (hs _ _))

def Sx (s s' : Shared) : Prop := ∃ h' tk, s' = { s with heap := h', toks := tk }
theorem Sx.trans {s s₁ s' : Shared} (x : Sx s s₁) (y : Sx s₁ s') : Sx s s' := by
  obtain ⟨h, t, rfl⟩ := x
  obtain ⟨h', t', rfl⟩ := y
  exact ⟨h', t', rfl⟩
theorem Bp.sx {s s' : Shared} (x : Bp b s s') : Sx s s' := let ⟨h, t, e, _⟩ := x; ⟨h, t, e⟩
theorem Kp.sx {s s' : Shared} (x : Kp s s') : Sx s s' := let ⟨h, t, e, _⟩ := x; ⟨h, t, e⟩
theorem Mv.sx {ls : List Addr} {s s' : Shared} (x : Mv env ls s s') : Sx s s' := let ⟨h, t, e, _⟩ := x; ⟨h, t, e⟩
/-- statements with draws: n draws are left -/
def DX (mg : MG) (w : World) (A : Around) (env : Env) (h₀ : Base) (s0 : Shared) (ρ : Vars) (ω : Owns) (b l : Addr) (xs : List Int) (n : Nat) (body : List Stmt) (Q : Flow → Shared → Prop) : Prop :=
  ∀ k s, Dr h₀ env ρ ω b l xs k s.heap → k + n ≤ 99 → Sx s0 s → wpAny (model pw w) A (execs body env) Q No s
theorem dr_store {h h' : Heap} {ω' : Owns} {ρ' : Vars} {k : Nat} {x : Str} {u : Value} {m : Str → Option Value} (R : Dr h₀ env ρ ω b l xs k h) (hxb : x ≠ nBox) (hn : h.Ns env.locals m) (hn' : h'.Ns env.locals (fun y => if y = x then some u else m y)) (hs : Heap.SameBut env.locals h h')
    (S' : St h₀ env ρ' ω' h') (o1 : b ∉ ω'.at) (o2 : l ∉ ω'.at) (fl : ∀ p ∈ ρ', flat p.2 = true) : Dr h₀ env ρ' ω' b l xs k h' := by
  obtain ⟨t, vs, ⟨n, e⟩, hne, ⟨n', e'⟩, i⟩ := R.box
  have hb := notLocals hn e (.inl ⟨_, _, rfl⟩)
  have hl := notLocals hn e' (.inl ⟨_, _, rfl⟩)
  exact ⟨S', (old_store (X := []) hn hn' hs (Ne.symm hxb) R.val (R.box.is.mono fun a o _ _ e _ => hid_of e (by simp))).1, ⟨t, vs, ⟨n, (hs.2 b hb).trans e⟩, hne, ⟨n', (hs.2 l hl).trans e'⟩, i.ints⟩, o1, o2, R.new, fl⟩
theorem dx_assign {s0 : Shared} {x : Str} {np pos : Pos} {e : Expr} {rest : List Stmt} {P : PyData → Prop} {n : Nat} {Q : Flow → Shared → Prop} (hk : EnvOk env) (hx : env.kindOf x = some .local) (hxb : x ≠ nBox) (ho : ∀ ds l, (x, ds, l) ∉ ω) (q : DE mg w A env h₀ ρ ω b l xs e P)
    (r : ∀ d, P d → flat d = true → DX mg w A env h₀ s0 ((x, d) :: del x ρ) ω b l xs n rest Q) (hw : swapsWith e (some (.Name x np)) pos.line env = pure false) : DX mg w A env h₀ s0 ρ ω b l xs (n + 1) (.Assign [.Name x np] e pos :: rest) Q := fun k s R hk' sx =>
  wpAny_execs_cons (wpAny_Assign_Name (wpAny_q (q k s R (by lia)) fun v s₁ ⟨⟨d, hP, hf, i⟩, bp, k', hk'', B'⟩ => by
    have R₁ := R.bp bp B'
    obtain ⟨m, hn⟩ := R₁.st.ns
    refine wpAny_storeName_local hx hn (fun h' hn' hs => ?_) (store_plain hk)
    have S₂ := R₁.st.store hn hx hn' hs (i.flat hf R₁.st.lists) ho
    refine r d hP hf k' { s₁ with heap := h', toks := _ } (dr_store R₁ hxb hn hn' hs S₂ R.out R.inn fun p hp => ?_) (by lia) (sx.trans (bp.sx.trans ⟨_, _, rfl⟩))
    rcases List.mem_cons.mp hp with z | z
    · rw [z]; exact hf
    · exact R.flats p (mem_del.mp z).1) hw)
theorem dx_own {s0 : Shared} {x : Str} {np pos : Pos} {e : Expr} {rest : List Stmt} {P : List PyData → Prop} {n c : Nat} {Q : Flow → Shared → Prop} (hk : EnvOk env) (hx : env.kindOf x = some .local) (hxb : x ≠ nBox)
    (q : ∀ k s, Dr h₀ env ρ ω b l xs k s.heap → k + c ≤ 99 → wpAny (model pw w) A (eval e env) (fun v s' => ∃ s₁, (∃ ds, P ds ∧ ds.all flat = true ∧ NewL s₁.heap s'.heap v ds) ∧ Bp b s s₁ ∧ Kp s₁ s' ∧ ∃ k', k' ≤ k + c ∧ Box s₁.heap b l xs k') No s)
    (r : ∀ ds L, P ds → DX mg w A env h₀ s0 (del x ρ) ((x, ds, L) :: delO x ω) b l xs n rest Q) (hw : swapsWith e (some (.Name x np)) pos.line env = pure false) : DX mg w A env h₀ s0 ρ ω b l xs (n + c) (.Assign [.Name x np] e pos :: rest) Q := fun k s R hk' sx =>
  wpAny_execs_cons (wpAny_Assign_Name (wpAny_q (q k s R (by lia)) fun v s₂ ⟨s₁, ⟨ds, hP, hf, i⟩, bp, kp, k', hk'', B'⟩ => by
    have R₁ := R.bp bp B'
    obtain ⟨L, vs, rfl, hL, e, iv⟩ := i
    have R₂ := R₁.kp kp
    obtain ⟨m, hn⟩ := R₂.st.ns
    refine wpAny_storeName_local hx hn (fun h' hn' hs => ?_) (store_plain hk)
    have hw' : L ∉ ω.at := fun hm => by
      obtain ⟨o, e', _⟩ := R₁.st.lists L hm
      rw [hL] at e'; cases e'
    have S₃ := R₂.st.own hn hx hn' hs (R₁.st.notOld hL) hw' e iv hf fun y dy hm => by
      obtain ⟨u, V, iu⟩ := R₁.st.vars y dy hm
      refine ⟨u, V.keeps kp.get, iu.mono fun a o us n e q => hid_of (kp.get _ _ (hid_le e)) fun ha => ?_⟩
      rcases List.mem_cons.mp ha with q | q
      · rw [q] at e; have := hid_le e; rw [hL] at this; cases this
      · exact hid_not e q
    have hbL : ∀ {a : Addr} {vs : Array Value}, s₁.heap.PlainList a vs → a ∉ ω.at → a ∉ Owns.at ((x, ds, L) :: delO x ω) := fun ⟨n, e⟩ ha hm => by
      rcases List.mem_cons.mp hm with q | q
      · rw [show _ = L from q, hL] at e; cases e
      · exact ha (delO_at q)
    obtain ⟨_, _, eb, _, el, _⟩ := R₁.box
    refine r ds L hP k' { s₂ with heap := h', toks := _ } (dr_store R₂ hxb hn hn' hs S₃ (hbL eb R.out) (hbL el R.inn) fun p hp => R.flats p (mem_del.mp hp).1) (by lia) (sx.trans (bp.sx.trans (kp.sx.trans ⟨_, _, rfl⟩)))) hw)
theorem dx_if {s0 : Shared} {t : Expr} {body orelse rest : List Stmt} {pos : Pos} {n : Nat} {c : Bool} {Q : Flow → Shared → Prop} (q : Tr mg w A env h₀ ρ ω t c)
    (r : DX mg w A env h₀ s0 ρ ω b l xs n (if c then body else orelse) (fun f s' => match f with | .next => wpAny (model pw w) A (execs rest env) Q No s' | f => Q f s')) : DX mg w A env h₀ s0 ρ ω b l xs n (.If t body orelse pos :: rest) Q := fun k s R hk' sx =>
  wpAny_execs_cons (wpAny_If (wpAny_q (q s R.st) fun c' s₁ ⟨k₁, hc⟩ => by
    subst hc
    have := r k s₁ (R.kp k₁) hk' (sx.trans k₁.sx)
    cases c' with
    | true => exact this
    | false => exact this))
theorem dx_nil {s0 : Shared} {n : Nat} {rest : List Stmt} {Q : Flow → Shared → Prop} (r : DX mg w A env h₀ s0 ρ ω b l xs n rest Q) : DX mg w A env h₀ s0 ρ ω b l xs n [] (fun f s' => match f with | .next => wpAny (model pw w) A (execs rest env) Q No s' | f => Q f s') := fun k s R hk' sx =>
  wpAny_execs_nil (r k s R hk' sx)
theorem tr_in2 {e : Expr} {f i j : Int} {k1 k2 tk : Nat} {p1 p2 p3 pos : Pos} (hA : Ro A 0) (W : Wd mg w h₀.h) (x : Ev mg w A env h₀ ρ ω e (.int f)) : Tr mg w A env h₀ ρ ω (.Compare e [.In] [.Tuple [.Constant (.int i) k1 p1, .Constant (.int j) k2 p2] tk p3] pos) (decide (i = f) || decide (j = f)) :=
  tr_cmp W x (ev_tuple (evAll_cons ev_int (evAll_cons ev_int evAll_nil rfl) rfl)) (fun s v u _ iv iu => by
    obtain ⟨as, ra⟩ := iv.reads
    obtain ⟨bs, rb⟩ := iu.reads
    refine in_tuple_reads rb ra rfl rfl (by have := hA.units; show A.units + 1 + min 0 0 < cLine; lia) ⟨Kp.refl _, ?_⟩
    have : ([PyData.int i, .int j].any fun y => PyData.eqv y (.int f)) = (decide (i = f) || decide (j = f)) := by
      simp only [List.any_cons, List.any_nil, Bool.or_false]; rfl
    rw [this]; exact .bool _) rfl

theorem Dr.same {h h' : Heap} {k : Nat} {c : Addr} {m : Str → Option Value} (R : Dr h₀ env ρ ω b l xs k h) (hn : h.Ns c m) (hc : env.locals ≠ c) (hN : h₀.N c) (hs : Heap.SameBut c h h') : Dr h₀ env ρ ω b l xs k h' := by
  have seq : ∀ {a o us n}, h.get? a = some o → o.data = .seq us n → h'.get? a = some o := fun e q => (hs.2 _ (notLocals hn e (.inl ⟨_, _, q⟩))).trans e
  have ns : ∀ {m}, h.Ns env.locals m → h'.Ns env.locals m := fun x => x.sameBut hs hc
  have cell : ∀ {a v}, h.IsCell a v → h'.IsCell a v := fun ⟨o, e, dd⟩ => ⟨o, (hs.2 _ (notLocals hn e (.inr ⟨_, dd⟩))).trans e, dd⟩
  have val : ∀ {y u}, Val env h y u → Val env h' y u := fun V => V.imp (fun ⟨a, m, b, c⟩ => ⟨a, m, ns b, c⟩) fun ⟨a, c, e, z⟩ => ⟨a, c, e, cell z⟩
  obtain ⟨t, vs, ⟨n, e⟩, hne, ⟨n', e'⟩, i⟩ := R.box
  refine ⟨⟨let ⟨m, e⟩ := R.st.ns; ⟨m, ns e⟩, fun a o e => (hs.2 a fun z => by rw [z, h₀.ok _ hN] at e; cases e).trans (R.st.keep a o e), R.st.fresh, fun y c hc => let ⟨v, e⟩ := R.st.cells y c hc; ⟨v, cell e⟩, fun y dy hm => ?_, fun y ds l hm => ?_, R.st.apart, fun a e => ?_⟩, val R.val, ⟨t, vs, ⟨n, seq e rfl⟩, hne, ⟨n', seq e' rfl⟩, i.ints⟩, R.out, R.inn, R.new, R.flats⟩
  · obtain ⟨u, V, iu⟩ := R.st.vars y dy hm
    exact ⟨u, val V, iu.mono fun a o us n e q => hid_of (seq (hid_le e) q) (hid_not e)⟩
  · obtain ⟨V, ⟨us, ⟨n, e⟩, iu⟩, r⟩ := R.st.owns y ds l hm
    exact ⟨val V, ⟨us, ⟨n, seq e rfl⟩, iu.mono fun a o us n e q => seq e q⟩, r⟩
  · by_cases z : a = c
    · exact z ▸ hN
    · exact R.st.wide a ((hs.2 a z).symm.trans e)
theorem capOk {C : Cx} {scope : Scope} {x : Str} (F : Fx mg w A env h₀ C) (ok : compOk scope x C.kd = true) : ∃ cl, closureFor scope env = pure cl ∧ (∀ y ∈ scope.names, y.2 ≠ .cell) ∧ scope.kind = .function ∧ (∀ y ∈ scope.names, y.2 = .local → scope.names.lookup y.1 = some .local) ∧ scope.names.lookup x = some .local ∧
    (∀ x c, cl.lookup x = some c → ∃ y, env.cells.lookup y = some c) ∧ (∀ y ∈ scope.names, y.2 = .free → env.kindOf y.1 = some .cell ∧ cl.lookup y.1 = env.cells.lookup y.1) ∧ ∀ Cc, EnvOk (compEnvC scope cl Cc env) := by
  unfold compOk at ok
  simp only [Bool.and_eq_true, beq_iff_eq, List.all_eq_true, bne_iff_ne, Bool.or_eq_true] at ok
  obtain ⟨⟨k1, k2⟩, k3⟩ := ok
  have hfree : ∀ y ∈ scope.names, y.2 = .free → env.kindOf y.1 = some .cell := fun y hy e => (F.kd _).trans ((k3 y hy).2.resolve_left fun q => q e)
  obtain ⟨cl, hc, h1, h2⟩ := closure_ok F.hk hfree
  refine ⟨cl, hc, fun y hy => (k3 y hy).1.1, k1, fun y hy e => (k3 y hy).1.2.resolve_left fun q => q e, k2, fun y c e => ⟨y, h1 y c e⟩, fun y hy e => ⟨hfree y hy e, ?_⟩, fun Cc => ⟨k1, F.hk.globals, F.hk.builtins, fun y hy => ?_⟩⟩
  · obtain ⟨c, hc⟩ := h2 y hy e
    exact hc.trans (h1 _ _ hc).symm
  · have hy' : (relabel scope env).names.lookup y = some .cell := hy
    rw [relabel_eq F.hk F.kd] at hy'
    have hm := mem_of_lk hy'
    obtain ⟨z, hz, e⟩ := List.mem_map.mp hm
    split at e
    · rename_i q
      simp only [Bool.and_eq_true, beq_iff_eq] at q
      cases e
      exact h2 z hz q.1
    · subst e
      exact absurd rfl ((k3 _ hz).1.1)
theorem dx_comp {C : Cx} {s0 : Shared} {y x : Str} {py px pos spos : Pos} {elt iter : Expr} {scope : Scope} {rest : List Stmt} {ds : List PyData} {P : Nat → PyData → Prop} {n : Nat} {Q : Flow → Shared → Prop} (F : Fx mg w A env h₀ C) (ok : compOk scope x C.kd = true) (hy : env.kindOf y = some .local) (hyb : y ≠ nBox) (cap : Bool) (hcap : cap = true → (nBox, .free) ∈ scope.names ∧ (relab scope.names C.kd).lookup nBox = some .cell)
    (hi : EvB mg w A env h₀ ρ ω b iter ds) (hsc : ds.all scalar = true)
    (he : ∀ (env' : Env) (i : Nat) d, ds[i]? = some d → EnvOk env' → (∀ z, env'.kindOf z = (relab scope.names C.kd).lookup z) → ∀ k s, St (Base.at h₀.h) env' [(x, d)] [] s.heap → Box s.heap b l xs k → (cap = true → Val env' s.heap nBox (.ref b)) → k ≤ 99 → h₀.h.get? b = none →
      wpAny (model pw w) A (eval elt env') (fun v s' => (∃ d, P i d ∧ flat d = true ∧ Is s'.heap.get? v d) ∧ Bp b s s' ∧ ∃ k', k' ≤ k + 1 ∧ Box s'.heap b l xs k') No s)
    (r : ∀ rs L, rs.length = ds.length → (∀ i r, rs[i]? = some r → P i r) → DX mg w A env h₀ s0 (del y ρ) ((y, rs, L) :: delO y ω) b l xs n rest Q)
    (hsw : swapsWith (.ListComp elt [⟨.Name x px, iter, [], 0⟩] scope pos) (some (.Name y py)) spos.line env = pure true) (hs : ∀ x, foldedSetIterable iter env x = pure x) :
    DX mg w A env h₀ s0 ρ ω b l xs (n + ds.length) (.Assign [.Name y py] (.ListComp elt [⟨.Name x px, iter, [], 0⟩] scope pos) spos :: rest) Q := fun k s R hkn sx => by
  obtain ⟨cl, hclos, c1, c2, c3, c4, c5, c6, c7⟩ := capOk F ok
  refine wpAny_execs_cons ?_
  rw [exec_Assign_Name_used _ _ _ _ hsw]
  refine wpAny_bind (wpAny_standAt (wpAny_bind ?_))
  show wpAny _ A (do let _ ← comprehension (.ListComp elt [⟨.Name x px, iter, [], 0⟩] scope pos) scope env _ (newList []) false (eval iter env) (some (assign (.Name y py) env))) _ _ s
  refine wpAny_bind (wpAny_q (de_compU (P := P) (Q := fun _ s' => wpAny (model pw w) A (execs rest env) Q No s') rfl c1 c2 c3 c4 hclos c5 hi hsc cap (fun q => ?_) (fun Cc i d hd => he _ i d hd (c7 Cc) fun z => ?_) hs k s R (by lia) fun h₃ tk m D Cc vs rs k' hD hC hDC hpl hia hlen hP hn keep hk' B => ?_) fun _ s' hq => wpAny_pure (wpAny_pure hq))
  · obtain ⟨q1, q2⟩ := hcap q
    exact ⟨(c6 _ q1 rfl).1, (c6 _ q1 rfl).2, by rw [relabel_eq F.hk F.kd]; exact q2⟩
  · show (relabel scope env).names.lookup z = _
    rw [relabel_eq F.hk F.kd]
  · have hf : rs.all flat = true := List.all_eq_true.mpr fun r hr => by obtain ⟨i', q⟩ := List.mem_iff_getElem?.mp hr; exact (hP i' r q).2
    have bp : Bp b s { s with heap := h₃, toks := tk } := ⟨h₃, tk, rfl, keep⟩
    have R₁ := R.bp bp B
    obtain ⟨mL, ns⟩ := R₁.st.ns
    have hLC : env.locals ≠ Cc := fun z => by
      obtain ⟨m', hm'⟩ := R.st.ns
      obtain ⟨o, es, ep, e, _⟩ := hm'
      rw [z, hC] at e; cases e
    refine wpAny_assign_Name (wpAny_storeName_local hy ns (fun h₄ ns₄ sb₄ => ?_) (store_plain F.hk))
    replace sb₄ : Heap.SameBut env.locals h₃ h₄ := sb₄
    refine ⟨m, hn.sameBut sb₄ (Ne.symm hLC), fun h₅ sb₅ => ?_⟩
    replace sb₅ : Heap.SameBut Cc h₄ h₅ := sb₅
    have hw' : D ∉ ω.at := fun hm => by
      obtain ⟨o, e', _⟩ := R.st.lists D hm
      rw [hD] at e'; cases e'
    have S₄ := R₁.st.own ns hy ns₄ sb₄ (R.st.notOld hD) hw' hpl hia hf fun z dz hm => by
      obtain ⟨u, V, iu⟩ := R₁.st.vars z dz hm
      have fz := R.flats _ hm
      exact ⟨u, V, iu.full.flat fz fun a ha => by
        rcases List.mem_cons.mp ha with q | q
        · obtain ⟨n', e'⟩ := hpl; exact ⟨_, q ▸ e', rfl⟩
        · exact R₁.st.lists a q⟩
    have hbL : ∀ {a : Addr} {vs : Array Value}, s.heap.PlainList a vs → a ∉ ω.at → a ∉ Owns.at ((y, rs, D) :: delO y ω) := fun ⟨n, e⟩ ha hm => by
      rcases List.mem_cons.mp hm with q | q
      · rw [show _ = D from q, hD] at e; cases e
      · exact ha (delO_at q)
    obtain ⟨_, _, eb, _, el, _⟩ := R.box
    have R₄ := dr_store R₁ hyb ns ns₄ sb₄ S₄ (hbL eb R.out) (hbL el R.inn) fun p hp => R.flats p (mem_del.mp hp).1
    have R₅ := R₄.same (hn.sameBut sb₄ (Ne.symm hLC)) hLC (R.st.wide Cc hC) sb₅
    exact r rs D hlen (fun i r q => (hP i r q).1) k' { s with heap := h₅, toks := _ } R₅ (by lia) (sx.trans ⟨_, _, rfl⟩)
theorem St.disown {h : Heap} (S : St h₀ env ρ ω h) : St h₀ env (ω.map (fun p => (p.1, .list p.2.1)) ++ ρ) [] h where
  ns := S.ns
  keep := S.keep
  fresh := S.fresh
  cells := S.cells
  vars := fun x d hm => by
    rcases List.mem_append.mp hm with q | q
    · obtain ⟨⟨y, ds, l⟩, hp, e⟩ := List.mem_map.mp q
      cases e
      obtain ⟨V, ⟨vs, ⟨n, e⟩, i⟩, _⟩ := S.owns _ _ _ hp
      exact ⟨_, V, .lst (hid_of e (by simp [Owns.at])) (i.mono fun a o us n e _ => hid_of e (by simp [Owns.at]))⟩
    · obtain ⟨u, V, i⟩ := S.vars x d q
      exact ⟨u, V, i.full.mono fun a o us n e _ => hid_of e (by simp [Owns.at])⟩
  owns := fun _ _ _ h => nomatch h
  apart := List.nodup_nil
  wide := S.wide

theorem dx_row {C : Cx} {s0 : Shared} {y x z : Str} {py px zp lp pos bpos spos : Pos} {elt iter : Expr} {scope : Scope} {rest : List Stmt} {ds : List PyData} {g : Int} {P : PyData → Prop} {n : Nat} {Q : Flow → Shared → Prop} (F : Fx mg w A env h₀ C) (ok : compOk scope x C.kd = true) (hy : env.kindOf y = some .local) (hyb : y ≠ nBox) (hcap : (nBox, .free) ∈ scope.names ∧ (relab scope.names C.kd).lookup nBox = some .cell)
    (hz : (z, .int g) ∈ ρ) (hzd : (z == ("__debug__" : Str)) = false) (hi : EvB mg w A env h₀ ρ ω b iter ds) (hsc : ds.all scalar = true) (hdl : ds.length ≤ 100)
    (he : ∀ (env' : Env) (i : Nat) d, ds[i]? = some d → EnvOk env' → (∀ z, env'.kindOf z = (relab scope.names C.kd).lookup z) → DE mg w A env' (Base.at h₀.h) [(x, d)] [] b l xs elt P)
    (r : ∀ rs L, rs.length = ds.length → (∀ r ∈ rs, P r) → DX mg w A env h₀ s0 (del y ρ) ((y, .int g :: rs, L) :: delO y ω) b l xs n rest Q) (hs : ∀ x, foldedSetIterable iter env x = pure x) :
    DX mg w A env h₀ s0 ρ ω b l xs (n + ds.length) (.Assign [.Name y py] (.BinOp (.List [.Name z zp] lp) .Add (.ListComp elt [⟨.Name x px, iter, [], 0⟩] scope pos) bpos) spos :: rest) Q := by
  obtain ⟨cl, hclos, c1, c2, c3, c4, c5, c6, c7⟩ := capOk F ok
  refine dx_own (P := fun rs => ∃ rs', rs = .int g :: rs' ∧ rs'.length = ds.length ∧ ∀ r ∈ rs', P r) F.hk hy hyb (fun k s R hkn => ?_) (fun rs L ⟨rs', e, hl, hP⟩ => by subst e; exact r rs' L hl hP) rfl
  refine wpAny_BinOp (wpAny_q (evN_list (mg := mg) (evAll_cons (ev_var F.hk hz hzd) evAll_nil rfl) (show 1 ≤ sizeLine by decide) s R.st) fun v₁ s₁ ⟨k₁, n₁⟩ => ?_)
  have R₁ := R.kp k₁
  rw [eval_ListComp]
  refine de_compU (P := fun _ => P) (use := none) rfl c1 c2 c3 c4 hclos c5 hi hsc true (fun _ => ?_) (fun Cc i d hd k s S B V hk hnb => he _ i d hd (c7 Cc) (fun z => ?_) k s ⟨S, V rfl, B, by simp [Owns.at], by simp [Owns.at], hnb, fun p hp => ?_⟩ hk) hs k s₁ R₁ (by lia) fun h₃ tk m D Cc vs rs k' hD hC hDC hpl hia hlen hP hn keep hk' B => ?_
  · obtain ⟨q1, q2⟩ := hcap
    exact ⟨(c6 _ q1 rfl).1, (c6 _ q1 rfl).2, by rw [relabel_eq F.hk F.kd]; exact q2⟩
  · show (relabel scope env).names.lookup z = _
    rw [relabel_eq F.hk F.kd]
  · rw [List.mem_singleton.mp hp]
    have := List.all_eq_true.mp hsc d (List.mem_of_getElem? hd)
    cases d <;> first | rfl | cases this
  · refine ⟨m, hn, fun h₄ sb₄ => ?_⟩
    have hf : rs.all flat = true := List.all_eq_true.mpr fun r hr => by obtain ⟨i', q⟩ := List.mem_iff_getElem?.mp hr; exact (hP i' r q).2
    have hPr : ∀ r ∈ rs, P r := fun r hr => by obtain ⟨i', q⟩ := List.mem_iff_getElem?.mp hr; exact (hP i' r q).1
    replace sb₄ : Heap.SameBut Cc h₃ h₄ := sb₄
    have hLC : env.locals ≠ Cc := fun z => by
      obtain ⟨m', hm'⟩ := R₁.st.ns
      obtain ⟨o, es, ep, e, _⟩ := hm'
      rw [z, hC] at e; cases e
    have kp4 : ∀ a o, a ≠ b → s₁.heap.get? a = some o → h₄.get? a = some o := fun a o hb e => (sb₄.2 a fun z => by rw [z, hC] at e; cases e).trans (keep a o hb e)
    have bp : Bp b s₁ { s₁ with heap := h₄, toks := tk } := ⟨h₄, tk, rfl, kp4⟩
    have R₃ : Dr h₀ env ρ ω b l xs k' h₃ := R₁.bp (s' := { s₁ with heap := h₃, toks := tk }) ⟨h₃, tk, rfl, keep⟩ B
    have R₄ := R₃.same hn hLC (R₁.st.wide Cc hC) sb₄
    obtain ⟨l₁, vs₁, rfl, hl₁, ⟨m₁, e₁⟩, i₁⟩ := n₁
    obtain ⟨_, nb, eb⟩ := R.box.lst
    have hlb : l₁ ≠ b := fun z => by rw [z, eb] at hl₁; cases hl₁
    have isv₁ : Is h₄.get? (.ref l₁) (.list [.int g]) := .lst (kp4 _ _ hlb e₁) (i₁.scalars rfl)
    have seq4 : ∀ a o us n, h₃.get? a = some o → o.data = .seq us n → h₄.get? a = some o := fun a o us n e q => (sb₄.2 a (notLocals hn e (.inl ⟨_, _, q⟩))).trans e
    obtain ⟨nD, eD⟩ := hpl
    have isv₂ : Is h₄.get? (.ref D) (.list rs) := .lst (seq4 _ _ _ _ eD rfl) (hia.mono fun a o us n e q => seq4 a o us n e q)
    refine wpAny_q (om_cat (mg := mg) (xs := [.int g]) (ys := rs) (Nat.le_trans (show 1 + rs.length ≤ 1000 by lia) (by decide)) { s₁ with heap := h₄, toks := tk } (.ref l₁) (.ref D) (F.W.keeps fun a o e => R₄.st.keep a o e) isv₁ isv₂) fun v s' ⟨kp, nl⟩ => ⟨{ s₁ with heap := h₄, toks := tk }, ⟨_, ⟨rs, rfl, hlen, hPr⟩, by rw [List.all_cons, hf]; rfl, nl⟩, (Bp.of_kp k₁).trans bp, kp, k', hk', R₄.box⟩
theorem dx_setitem {s0 : Shared} {x : Str} {np i1 tp pos : Pos} {e : Expr} {rest : List Stmt} {ds : List PyData} {L : Addr} {i : Nat} {ik : Nat} {j : Int} {n : Nat} {Q : Flow → Shared → Prop} (hk : EnvOk env) (hm : (x, ds, L) ∈ ω) (one : ∀ p ∈ ω, p.1 = x → p.2.2 = L) (q : Ev mg w A env h₀ ρ ω e (.int j)) (hlt : i < ds.length) (hz : ds.length ≤ 1000) (hdb : (x == ("__debug__" : Str)) = false)
    (r : DX mg w A env h₀ s0 ρ (put x (ds.set i (.int j)) ω) b l xs n rest Q) (hsw : swapsWith e (some (.Subscript (.Name x np) (.Constant (.int i) ik i1) tp)) pos.line env = pure false) :
    DX mg w A env h₀ s0 ρ ω b l xs n (.Assign [.Subscript (.Name x np) (.Constant (.int i) ik i1) tp] e pos :: rest) Q := fun k s R hkn sx =>
  wpAny_execs_cons (wpAny_Assign_Subscript (wpAny_q (q s R.st) fun v s₁ ⟨k₁, iv⟩ => by
    have R₁ := R.kp k₁
    refine load_val hk.kind (R₁.st.owns x ds L hm).1 (wpAny_Constant_int ?_) hdb
    obtain ⟨V, ⟨vs, ⟨nn, e0⟩, ii⟩, hf0, hl⟩ := R₁.st.owns x ds L hm
    have hlen : vs.size = ds.length := by simpa using ii.length
    refine setItem_plain' (vs := vs) ⟨nn, e0⟩ (Int.natCast_nonneg i) (by have : i < 2 ^ 63 := Nat.lt_of_lt_of_le hlt (Nat.le_trans hz (by decide)); lia) (by lia) fun h' hp hs => ?_
    replace hs : Heap.SameBut L s₁.heap h' := hs
    have S₂ : St h₀ env ρ (put x (ds.set i (.int j)) ω) h' := R₁.st.change hm hs hp (by simpa using ii.set i v (.int j) iv) (by
      rw [List.all_eq_true] at hf0 ⊢
      intro z hz'
      rcases List.mem_or_eq_of_mem_set hz' with h | h
      · exact hf0 z h
      · rw [h]; rfl) one
    have hLin : L ∈ ω.at := List.mem_map.mpr ⟨_, hm, rfl⟩
    obtain ⟨t, us, ⟨n1, e1⟩, hne, ⟨n2, e2⟩, i2⟩ := R₁.box
    have hbL : b ≠ L := fun z => R.out (z ▸ hLin)
    have hlL : l ≠ L := fun z => R.inn (z ▸ hLin)
    have val : Val env h' nBox (.ref b) := R₁.val.imp (fun ⟨a, m, ns, e⟩ => ⟨a, m, ns.sameBut hs (fun z => notLocals ns e0 (.inl ⟨_, _, rfl⟩) z.symm), e⟩) fun ⟨a, c, e, o, e', dd⟩ => ⟨a, c, e, o, (hs.2 c fun z => by rw [z, e0] at e'; cases e'; cases dd).trans e', dd⟩
    exact r k _ ⟨S₂, val, ⟨t, us, ⟨n1, (hs.2 b hbL).trans e1⟩, hne, ⟨n2, (hs.2 l hlL).trans e2⟩, i2.ints⟩, by rw [put_at]; exact R.out, by rw [put_at]; exact R.inn, R.new, R.flats⟩ hkn (sx.trans (k₁.sx.trans ⟨_, _, rfl⟩))) hsw)
end
end
end Mine
end
section
open PySem PySem.W PyProof.Rows PySem.Calls PySem.SeqAt
set_option maxRecDepth 100000
set_option linter.unusedVariables false
set_option maxHeartbeats 1000000
namespace Mine
noncomputable section
def rats (row : List Int) : List Rat := row.map fun (n : Int) => (n : Rat)
theorem ints_at {row : List Int} {i : Nat} {d : PyData} (h : (row.map PyData.int)[i]? = some d) : ∃ n, row[i]? = some n ∧ d = .int n := by
  rw [List.getElem?_map] at h
  obtain ⟨n, h1, h2⟩ := Option.map_eq_some_iff.mp h
  exact ⟨n, h1, h2.symm⟩
/-- what the draws leave, and what the law asks of it -/
structure LawOk (f z c g s : Int) (rest : List Int) (x : PyData) (r : List Rat) : Prop where
  short : rest.length ≤ 90
  small : s.natAbs ≤ 1000
  deed : DeedOk f (rats (g :: s :: rest)) x r
  len : (r.length : Int) = z
  two : 2 ≤ r.length
  lent : r.length ≤ 100
  fr : AllF r
  fa : AllF (rats (g :: s :: rest))
  first : FirstOk f g s x (r.take 2)
  c3 : c.natAbs ≤ 3
  c0 : c ≠ 0
  right : f = 9 → RightOk (rats (g :: s :: rest)) c r
  long : f ≠ 9 → DeedOk f (longL (rats (g :: s :: rest)) c 1) x (longL r c 1)
  wide : f ≠ 9 → DeedOk f (wideL (rats (g :: s :: rest))) x ((wideL r).take (if f = 8 then z else 2 * z - 1).toNat)
section
variable {mg : MG} {w : World} {A : Around} {env : Env}
def lawV (f z c g : Int) (row : List Int) (x : PyData) : Vars := [(Str.ofString "a", L (rats row)), (Str.ofString "row", .list (row.map .int)), (Str.ofString "extra", x), (Str.ofString "begin", .int g), (Str.ofString "c", .int c), (Str.ofString "size", .int z), (Str.ofString "form", .int f)]
def lawC : Cx := ⟨fun x => (D (Str.ofString "law")).scope.names.lookup x, [(Str.ofString "_law_deed", deedS), (Str.ofString "_law_first", firstS), (Str.ofString "_law_long", longS), (Str.ofString "_law_wide", wideS), (Str.ofString "len", lenS), (Str.ofString "list", listS)], [], (D (Str.ofString "law")).scope⟩
def lawTail : List Stmt := (D (Str.ofString "law")).body.drop 13
theorem lenR (row : List Int) : (rats row).length = row.length := List.length_map _
theorem takeL (r : List Rat) (n : Nat) : PyData.list ((r.map ratD).take n) = L (r.take n) := by
  show _ = PyData.list ((r.take n).map ratD)
  rw [List.map_take]
theorem law_ws {f z c g s : Int} {rest : List Int} {x : PyData} {r : List Rat} (ok : LawOk f z c g s rest x r) : WS lawC 30 (lawV f z c g (g :: s :: rest) x) [] (lawTail.take 2)
    (fun ρ' ω' => ω' = [] ∧ ρ' = (Str.ofString "told", L r) :: lawV f z c g (g :: s :: rest) x) (fun _ _ => False) := by
  have hr : (rats (g :: s :: rest)).length = rest.length + 2 := lenR _
  have hs := ok.short
  refine Stop.mk ⟨f, _, x, r, rfl, ⟨by lia, by lia, ok.deed⟩, ?_⟩
  refine And.intro (by rw [List.length_map]; exact Nat.le_trans ok.lent (by decide)) (And.intro (fun q => ?_) fun _ => And.intro (by rw [List.length_map]; exact Nat.le_trans ok.lent (by decide)) (Stop.mk (Or.inl (And.intro (by decide) (Stop.mk ⟨f, g, s, rest.map .int, x, r.take 2, rfl, ⟨by rw [List.length_map]; lia, ok.small, ok.first⟩, ?_⟩)))))
  · exact absurd q (by rw [List.length_map, ok.len]; simp)
  · have e : PyData.list ((r.map ratD).take (2 : Int).toNat) = L (r.take 2) := takeL r 2
    refine And.intro ⟨by rw [e]; exact shapedL _, shapedL _⟩ (And.intro (fun q => ?_) fun _ => And.intro rfl rfl)
    rw [e, eqvL] at q; cases q
theorem law_ws2 {f z c g s : Int} {rest : List Int} {x : PyData} {r : List Rat} (ok : LawOk f z c g s rest x r) (hf : f ≠ 9) : WS lawC 30 ((Str.ofString "told", L r) :: lawV f z c g (g :: s :: rest) x) [] (lawTail.drop 2)
    (fun _ _ => False) (fun d _ => d = .bool true) := by
  have hr : (rats (g :: s :: rest)).length = rest.length + 2 := lenR _
  have hs := ok.short
  have ll : (longL (rats (g :: s :: rest)) c 1).length = rest.length + 2 := by unfold longL; rw [List.length_map, List.length_range, hr]
  have lw : (wideL (rats (g :: s :: rest))).length = 2 * (rest.length + 2) - 1 := by rw [lenWide, hr]
  refine And.intro (fun q => absurd (beqT q) hf) fun _ => ?_
  refine Stop.mk ⟨_, c, 1, rfl, ⟨by lia, ok.fa, ok.c3, by decide, by decide⟩, Stop.mk ⟨f, _, x, _, rfl, ⟨by lia, by lia, ok.long hf⟩, Stop.mk ⟨r, c, 1, rfl, ⟨ok.lent, ok.fr, ok.c3, by decide, by decide⟩, And.intro ⟨shapedL _, shapedL _⟩ (And.intro (fun q => ?_) fun _ => ?_)⟩⟩⟩
  · rw [eqvL] at q; cases q
  · refine Stop.mk ⟨_, rfl, by lia, Stop.mk ⟨f, _, x, _, rfl, ⟨by lia, by lia, ok.wide hf⟩, Stop.mk ⟨r, rfl, ok.lent, ?_⟩⟩⟩
    have hz : 2 ≤ z := by have := ok.len; have := ok.two; lia
    have hz' : z ≤ 100 := by have := ok.len; have := ok.lent; lia
    have lwr : ((wideL r).map ratD).length ≤ 1000 := by have := ok.lent; rw [List.length_map, lenWide]; lia
    refine And.intro (Nat.le_trans lwr (by decide)) (Stop.mk ⟨.int (if f = 8 then z else 2 * z - 1), .any, fun q => And.intro (by rw [if_pos (beqT q)]) (.inl rfl), fun q => And.intro (mulF (smallF (by decide)) (smallF (by lia))) (And.intro (by rw [if_neg (beqF q)]) (.inl rfl)), ?_⟩)
    refine Stop.mk (Or.inl (And.intro (by split <;> lia) ?_))
    have e := takeL (wideL r) (if f = 8 then z else 2 * z - 1).toNat
    refine And.intro ⟨shapedL _, by rw [e]; exact shapedL _⟩ ?_
    rw [e, eqvL]
end
end
end Mine
end
section
open PySem PySem.W PyProof.Rows PySem.Calls PySem.SeqAt
set_option maxRecDepth 100000
set_option linter.unusedVariables false
set_option maxHeartbeats 1000000
namespace Mine
noncomputable section
/-- what is drawn -/
structure Drawn (f z c g s : Int) (rest : List Int) (x : PyData) : Prop where
  f0 : 0 ≤ f ∧ f < 10
  z3 : z = 3 ∨ z = 4
  c4 : c = 2 ∨ c = -1 ∨ c = 3 ∨ c = -2
  len : (rest.length : Int) + 2 = z
  s3 : s.natAbs ≤ 3
  r3 : ∀ r ∈ rest, r.natAbs ≤ 3
  g07 : f = 0 ∨ f = 7 → g = 1 ∨ g = -1
  g26 : f = 2 ∨ f = 6 → g = 1
  g0 : f ≠ 0 → f ≠ 7 → f ≠ 2 → f ≠ 6 → g = 0
  s9 : f = 9 → s ≠ 0
  x6 : f = 6 → ∃ q, x = ratD q ∧ (q = mkRat 1 2 ∨ q = mkRat (-1) 3 ∨ q = mkRat 3 2 ∨ q = -2)
  x7 : f = 7 → ∃ m, x = .int m ∧ (m = 2 ∨ m = 3 ∨ m = -1 ∨ m = -2)
  x8 : f = 8 → ∃ e : List Int, x = L (rats e) ∧ (e.length : Int) = z ∧ ∀ r ∈ e, r.natAbs ≤ 3
section
variable {mg : MG} {w : World} {A : Around} {env : Env} {h₀ : Base} {ρ : Vars} {ω : Owns} {b l : Addr} {xs : List Int}
theorem evIt_W {C : Cx} {n : Nat} {e : Expr} {ds : List PyData} (F : Fx mg w A env h₀ C) (hW : WE C n .iter ρ (strip ω) e fun d k => d = .list ds ∧ k = .new) : EvIt mg w A true env h₀ ρ ω e ds := by
  obtain ⟨d, k, ⟨rfl, rfl⟩, ds', e, y⟩ := we_ok n F hW
  cases e; exact y
theorem tr_W {C : Cx} {n : Nat} {e : Expr} {c : Bool} (F : Fx mg w A env h₀ C) (hW : WE C n .truth ρ (strip ω) e fun d _ => d = .bool c) : Tr mg w A env h₀ ρ ω e c := by
  obtain ⟨d, k, rfl, c', e, y⟩ := we_ok n F hW
  cases e; exact y
theorem eval_new {C : Cx} {n : Nat} {e : Expr} {s : Shared} {ds : List PyData} {Q : Value → Shared → Prop} (F : Fx mg w A env h₀ C) (S : St h₀ env ρ ω s.heap) (hW : WE C n .val ρ (strip ω) e fun d k => d = .list ds ∧ k = .new) (h : ∀ v s', Kp s s' → NewL s.heap s'.heap v ds → Q v s') : wpAny (model pw w) A (eval e env) Q No s := by
  obtain ⟨d, k, ⟨rfl, rfl⟩, ds', e, y⟩ := we_ok n F hW
  cases e
  exact wpAny_q (y s S) fun v s' ⟨k, nl⟩ => h v s' k nl
theorem mem4 {a b c d : Int} {x : PyData} (h : x ∈ ([.int a, .int b, .int c, .int d] : List PyData)) : ∃ i, x = .int i ∧ (i = a ∨ i = b ∨ i = c ∨ i = d) := by
  simp only [List.mem_cons, List.not_mem_nil, or_false] at h
  rcases h with h | h | h | h <;> exact ⟨_, h, by simp⟩
theorem mem2 {a b : Int} {x : PyData} (h : x ∈ ([.int a, .int b] : List PyData)) : ∃ i, x = .int i ∧ (i = a ∨ i = b) := by
  simp only [List.mem_cons, List.not_mem_nil, or_false] at h
  rcases h with h | h <;> exact ⟨_, h, by simp⟩
theorem ints_of {P : Int → Prop} : ∀ {rs : List PyData}, (∀ r ∈ rs, ∃ q : Int, r = .int (q - 3) ∧ 0 ≤ q ∧ q < 7) → ∃ ns : List Int, rs = ns.map .int ∧ ∀ n ∈ ns, n.natAbs ≤ 3
  | [], _ => ⟨[], rfl, fun _ h => nomatch h⟩
  | r :: rs, h => by
    obtain ⟨q, e, h0, h1⟩ := h r (.head _)
    obtain ⟨ns, e', hn⟩ := ints_of (P := P) fun r hr => h r (.tail _ hr)
    refine ⟨(q - 3) :: ns, by rw [e, e']; rfl, fun n hn' => ?_⟩
    rcases List.mem_cons.mp hn' with z | z
    · rw [z]; lia
    · exact hn n z
theorem pairs_of : ∀ {rs : List PyData}, (∀ r ∈ rs, ∃ d : PyData, (∃ q : Int, d = .int (q - 3) ∧ 0 ≤ q ∧ q < 7) ∧ r = .tuple [d, .int 1]) → ∃ ns : List Int, PyData.list rs = L (rats ns) ∧ ns.length = rs.length ∧ ∀ n ∈ ns, n.natAbs ≤ 3
  | [], _ => ⟨[], rfl, rfl, fun _ h => nomatch h⟩
  | r :: rs, h => by
    obtain ⟨d, ⟨q, e, h0, h1⟩, e2⟩ := h r (.head _)
    obtain ⟨ns, e', hl, hn⟩ := pairs_of fun r hr => h r (.tail _ hr)
    refine ⟨(q - 3) :: ns, ?_, by rw [List.length_cons, List.length_cons, hl], fun n hn' => ?_⟩
    · rw [e2, e]
      injection e' with e'
      rw [e']; rfl
    · rcases List.mem_cons.mp hn' with z | z
      · rw [z]; lia
      · exact hn n z
/-- behind the draws -/
theorem law_end {s s' : Shared} {f z c g s₁ : Int} {rest : List Int} {x : PyData} {r : List Rat} (ok : LawOk f z c g s₁ rest x r) (F : Fx mg w A env (Base.at s.heap) lawC) (hA : Ro A 12) (hsc : env.scope = lawC.sc) (hfr : A.frames = some [env]) (hf : env.frame = some env.locals) (hc : ∀ y c, env.cells.lookup y = some c → s.heap.get? c = none)
    (W : Wd mg w s.heap) (S : St (Base.at s.heap) env (lawV f z c g (g :: s₁ :: rest) x) [] s'.heap) (sx : Sx s s') : wpAny (model pw w) A (execs lawTail env) (fun fl s'' => fl = .ret (.bool true) ∧ Sx s s'' ∧ s.heap.StaysIn s''.heap) No s' := by
  have keep : ∀ {ρ : Vars} {s₁ s₂ : Shared}, St (Base.at s.heap) env ρ [] s₁.heap → Mv env (Owns.at []) s₁ s₂ → s.heap.StaysIn s₂.heap := fun S mv b o e => by
    obtain ⟨h', t', rfl, q⟩ := mv
    refine q b o ?_ (S.keep b o e)
    rintro (z | ⟨y, z⟩ | z)
    · rw [z] at e; rw [show s.heap.get? env.locals = none from S.fresh] at e; cases e
    · rw [hc y b z] at e; cases e
    · simp [Owns.at] at z
  show wpAny _ _ (execs (lawTail.take 2 ++ lawTail.drop 2) env) _ _ _
  refine execs_app (wpAny_q (ws_ok 30 (ω := []) F hsc (law_ws ok) s' S) fun fl s₂ ⟨mv, p⟩ => ?_)
  cases fl with
  | brk => exact p.elim
  | cont => exact p.elim
  | ret v => obtain ⟨_, _, q, _⟩ := p; exact q.elim
  | next =>
    obtain ⟨ρ', ω', ⟨e2, rfl⟩, S₂⟩ := p
    obtain rfl : ω' = [] := List.map_eq_nil_iff.mp e2
    have sx₂ := sx.trans mv.sx
    by_cases h9 : f = 9
    · refine wpAny_execs_cons (if_true (n := 30) (ω := []) F S₂ (by show PyData.bool (f == 9) = .bool true; rw [h9]; rfl) fun s₃ k₃ => wpAny_execs_cons (wpAny_Return_some ?_))
      have hs := ok.short
      obtain ⟨h₃, t₃, e₃, q₃⟩ := id k₃
      refine call_raisesW (n := 30) (ω := []) [L (rats (g :: s₁ :: rest)), .int c, L r] F (S₂.keeps k₃.get) rfl rfl rfl (fun a s₄ vs hg k₄ i => ?_) (by decide)
      have S₄ := (S₂.keeps k₃.get).keeps k₄.get
      obtain ⟨m, ns⟩ := S₄.ns
      refine wpAny_q (right_tells (base := s.heap) (outer := [env]) (hA.mono (by decide)) (W.keeps S₄.keep) hg i (ok.right h9) hfr S₄.keep ?_ W) fun v s₅ ⟨hv, ⟨h₅, t₅, e₅, st⟩⟩ => ⟨by rw [hv], sx₂.trans (k₃.sx.trans (k₄.sx.trans ⟨h₅, t₅, e₅⟩)), by rw [e₅]; exact st⟩
      obtain ⟨o, es, ep, e, hd, _⟩ := ns
      exact ⟨by rw [F.hk.kind]; decide, ⟨env.locals, o, hf, S₄.fresh, e, fun vs q => by rw [hd] at q; cases q⟩, trivial⟩
    · refine wpAny_q (ws_ok 30 (ω := []) F hsc (law_ws2 ok h9) s₂ S₂) fun fl s₃ ⟨mv', p⟩ => ?_
      cases fl with
      | brk => exact p.elim
      | cont => exact p.elim
      | next => obtain ⟨_, _, q, _⟩ := p; exact q.elim
      | ret v =>
        obtain ⟨d, kd, rfl, hv⟩ := p
        refine ⟨?_, sx₂.trans mv'.sx, keep S₂ mv'⟩
        cases kd with
        | new => obtain ⟨_, q, _⟩ := hv; cases q
        | any => rw [Is.bool_inv hv]
        | safe => rw [Is.bool_inv hv]
end
end
end Mine
end
section
open PySem PySem.W PyProof.Rows PySem.Calls PySem.SeqAt
set_option maxRecDepth 100000
set_option linter.unusedVariables false
set_option maxHeartbeats 1000000
namespace Mine
noncomputable section
section
variable {mg : MG} {w : World} {A : Around} {env : Env} {h₀ : Base} {ρ : Vars} {ω : Owns} {b l : Addr} {xs : List Int} {s0 : Shared} {Q : Flow → Shared → Prop}
def lawB : List Stmt := (D (Str.ofString "law")).body
theorem dx_mono {n n' : Nat} {body : List Stmt} (x : DX mg w A env h₀ s0 ρ ω b l xs n body Q) (h : n ≤ n') : DX mg w A env h₀ s0 ρ ω b l xs n' body Q := fun k s R hk sx => x k s R (by lia) sx
def Fin (w : World) (A : Around) (env : Env) (h₀ : Base) (s0 : Shared) (Q : Flow → Shared → Prop) : Prop :=
  ∀ f z c g s rest x s', Drawn f z c g s rest x → St h₀ env (lawV f z c g (g :: s :: rest) x) [] s'.heap → Sx s0 s' → wpAny (model pw w) A (execs lawTail env) Q No s'
theorem kdF {C : Cx} {x : Str} {k : NameKind} (F : Fx mg w A env h₀ C) (h : C.kd x = some k) : env.kindOf x = some k := (F.kd _).trans h
theorem swaps_lc {elt iter : Expr} {x y : Str} {px py pos : Pos} {scope : Scope} {line : Nat} {C : Cx} (F : Fx mg w A env h₀ C) (hy : C.kd y = some .local) (h : (py.line == pos.line && !(scope.names.any fun p => p.1 == y && (p.2 == .local || p.2 == .cell))) = true) :
    swapsWith (.ListComp elt [⟨.Name x px, iter, [], 0⟩] scope pos) (some (.Name y py)) line env = pure true := by
  have h1 : env.blockKind = .function := by unfold Env.blockKind; rw [F.hk.kind]; rfl
  show (pure (env.blockKind == .function && env.kindOf y == some .local && py.line == pos.line && !(scope.names.any fun p => p.1 == y && (p.2 == .local || p.2 == .cell))) : Sem Bool) = _
  rw [h1, kdF F hy, Bool.and_assoc, h]; rfl
theorem dx_a {f z c g s : Int} {rest : List Int} {x : PyData} {L₁ : Addr} (F : Fx mg w A env h₀ lawC) (hA : A.handled = none) (fin : Fin w A env h₀ s0 Q) (d : Drawn f z c g s rest x) (hm : (Str.ofString "row", (g :: s :: rest).map PyData.int, L₁) ∈ ω)
    (hsub : ∀ p ∈ (lawV f z c g (g :: s :: rest) x).tail, p ∈ (delO (Str.ofString "a") ω).map (fun p => (p.1, PyData.list p.2.1)) ++ del (Str.ofString "a") ρ) : DX mg w A env h₀ s0 ρ ω b l xs 4 (lawB.drop 12) Q := by
  have hl := d.len
  have hz := d.z3
  refine dx_mono (dx_comp (n := 0) F rfl (kdF F rfl) (by decide) false (fun q => nomatch q) (evB_own hA F.hk hm rfl) (List.all_eq_true.mpr fun r hr => by obtain ⟨n, _, e⟩ := List.mem_map.mp hr; rw [← e]; rfl) (P := fun i r => ∃ n : Int, (g :: s :: rest)[i]? = some n ∧ r = ratD n)
    (fun env' i dd hd hk' hkd k s' S' B V hk hnb => ?_) (fun rs L₂ hlen hP k s' R hk sx => fin f z c g s rest x s' d (R.st.disown.weak fun p hp => ?_) sx) (swaps_lc F rfl rfl) fun _ => rfl) (by simp only [List.length_map, List.length_cons]; lia)
  · obtain ⟨n, hn, rfl⟩ := ints_at hd
    refine wpAny_q (ev_tuple (mg := mg) (evAll_cons (ev_var hk' (.head _) rfl) (evAll_cons ev_int evAll_nil rfl) rfl) (show 2 ≤ sizeLine by decide) s' S') fun v s'' ⟨kp, i⟩ => ⟨⟨_, ⟨n, hn, rfl⟩, rfl, i⟩, Bp.of_kp kp, k, Nat.le_succ _, B.keeps kp.get⟩
  · rcases List.mem_cons.mp hp with q | q
    · subst q
      have e : rs = (rats (g :: s :: rest)).map ratD := List.ext_getElem? fun i => by
        by_cases h : i < rs.length
        · obtain ⟨n, h1, h2⟩ := hP i _ (List.getElem?_eq_getElem h)
          rw [List.getElem?_eq_getElem h, h2]
          show _ = (List.map ratD (List.map _ (g :: s :: rest)))[i]?
          rw [List.getElem?_map, List.getElem?_map, h1]; rfl
        · rw [List.getElem?_eq_none (by lia), List.getElem?_eq_none]
          rw [List.length_map, lenR]; rw [hlen, List.length_map] at h; lia
      exact List.mem_append_left _ (by rw [e]; exact .head _)
    · exact List.mem_append.mpr ((List.mem_append.mp (hsub p q)).imp (fun z => .tail _ z) id)
end
end
end Mine
end
section
open PySem PySem.W PyProof.Rows PySem.Calls PySem.SeqAt
set_option maxRecDepth 100000
set_option linter.unusedVariables false
set_option maxHeartbeats 1000000
namespace Mine
noncomputable section
section
variable {mg : MG} {w : World} {A : Around} {env : Env} {h₀ : Base} {ρ : Vars} {ω : Owns} {b l : Addr} {xs : List Int} {s0 : Shared} {Q : Flow → Shared → Prop}
def lawE (f z c g : Int) (x : PyData) : Vars := [(Str.ofString "extra", x), (Str.ofString "begin", .int g), (Str.ofString "c", .int c), (Str.ofString "size", .int z), (Str.ofString "form", .int f)]
def lawO (row : List Int) (L₁ : Addr) : Owns := [(Str.ofString "row", row.map .int, L₁)]
theorem dx_x {f z c g s : Int} {rest : List Int} {x : PyData} {L₁ : Addr} (F : Fx mg w A env h₀ lawC) (hA : Ro A 3) (hl : xs.length ≤ 100) (fin : Fin w A env h₀ s0 Q) (hz : z = 3 ∨ z = 4)
    (d : ∀ x', (f = 8 → ∃ e : List Int, x' = L (rats e) ∧ (e.length : Int) = z ∧ ∀ r ∈ e, r.natAbs ≤ 3) → (f ≠ 8 → x' = x) → Drawn f z c g s rest x') :
    DX mg w A env h₀ s0 (lawE f z c g x) (lawO (g :: s :: rest) L₁) b l xs 8 (lawB.drop 11) Q := by
  refine dx_if (c := f == 8) (tr_W (n := 30) F ?_) ?_
  · rfl
  · cases h : f == 8 with
    | true =>
      have h8 := beqT h
      refine dx_mono (dx_comp (n := 4) (ds := rangeD 0 1 z.toNat) F rfl (kdF F rfl) (by decide) true (fun _ => ⟨mem_of_lk rfl, rfl⟩) (evB_range (evIt_W (n := 30) F ?_)) (rangeD_scalar _ _ _) (P := fun (_ : Nat) (r : PyData) => ∃ d : PyData, (∃ q : Int, d = .int (q - 3) ∧ 0 ≤ q ∧ q < 7) ∧ r = .tuple [d, .int 1])
        (fun env' i dd hd hk' hkd k s' S' B V hk hnb => ?_) (fun rs L₂ hlen hP => dx_nil ?_) (swaps_lc F rfl rfl) fun _ => rfl) (by rw [rangeD_length]; lia)
      · exact And.intro (show small z by unfold small; lia) (And.intro rfl rfl)
      · exact de_tup1 (h₀ := Base.at h₀.h) (ρ := [(Str.ofString "at", dd)]) (ω := []) (de_sub (de_take hA hk' F.W ((hkd _).trans rfl) hl (by decide))) (fun d ⟨r, e, _⟩ => by rw [e]; rfl) (fun _ _ q => nomatch q) k s' ⟨S', V rfl, B, by simp [Owns.at], by simp [Owns.at], hnb, fun p hp => by
          rw [List.mem_singleton.mp hp]
          obtain ⟨_, e⟩ := rangeD_get hd
          rw [e]; rfl⟩ hk
      · obtain ⟨e, e1, e2, e3⟩ := pairs_of fun r hr => by obtain ⟨i, q⟩ := List.mem_iff_getElem?.mp hr; exact hP i r q
        rw [rangeD_length] at hlen
        refine dx_a F hA.handled fin (d (L (rats e)) (fun _ => ⟨e, rfl, by lia, e3⟩) (fun q => absurd h8 q)) (L₁ := L₁) (.tail _ (.head _)) ?_
        rw [← e1]
        intro p hp
        have hp' : p ∈ [(Str.ofString "row", PyData.list ((g :: s :: rest).map PyData.int)), (Str.ofString "extra", .list rs), (Str.ofString "begin", .int g), (Str.ofString "c", .int c), (Str.ofString "size", .int z), (Str.ofString "form", .int f)] := hp
        simp only [List.mem_cons, List.not_mem_nil, or_false] at hp'
        rcases hp' with h | h | h | h | h | h <;> subst h <;> exact mem_of_lk rfl
    | false =>
      refine dx_nil (dx_mono (dx_a F hA.handled fin (d x (fun q => absurd q (beqF h)) fun _ => rfl) (L₁ := L₁) (.head _) ?_) (by decide))
      intro p hp
      have hp' : p ∈ [(Str.ofString "row", PyData.list ((g :: s :: rest).map PyData.int)), (Str.ofString "extra", x), (Str.ofString "begin", .int g), (Str.ofString "c", .int c), (Str.ofString "size", .int z), (Str.ofString "form", .int f)] := hp
      simp only [List.mem_cons, List.not_mem_nil, or_false] at hp'
      rcases hp' with h | h | h | h | h | h <;> subst h <;> exact mem_of_lk rfl
end
end
end Mine
end
section
open PySem PySem.W PyProof.Rows PySem.Calls PySem.SeqAt
set_option maxRecDepth 100000
set_option linter.unusedVariables false
set_option maxHeartbeats 1000000
namespace Mine
noncomputable section
section
variable {mg : MG} {w : World} {A : Around} {env : Env} {h₀ : Base} {ρ : Vars} {ω : Owns} {b l : Addr} {xs : List Int} {s0 : Shared} {Q : Flow → Shared → Prop}
theorem memR {x : PyData} (h : x ∈ ([ratD (mkRat 1 2), ratD (mkRat (-1) 3), ratD (mkRat 3 2), ratD (-2)] : List PyData)) : ∃ q, x = ratD q ∧ (q = mkRat 1 2 ∨ q = mkRat (-1) 3 ∨ q = mkRat 3 2 ∨ q = -2) := by
  simp only [List.mem_cons, List.not_mem_nil, or_false] at h
  rcases h with h | h | h | h <;> exact ⟨_, h, by simp⟩
structure Dn (f z c g s : Int) (rest : List Int) : Prop where
  f0 : 0 ≤ f ∧ f < 10
  z3 : z = 3 ∨ z = 4
  c4 : c = 2 ∨ c = -1 ∨ c = 3 ∨ c = -2
  len : (rest.length : Int) + 2 = z
  s3 : s.natAbs ≤ 3
  r3 : ∀ r ∈ rest, r.natAbs ≤ 3
  g07 : f = 0 ∨ f = 7 → g = 1 ∨ g = -1
  g26 : f = 2 ∨ f = 6 → g = 1
  g0 : f ≠ 0 → f ≠ 7 → f ≠ 2 → f ≠ 6 → g = 0
  s9 : f = 9 → s ≠ 0
theorem dx_10 {f z c g s : Int} {rest : List Int} {x : PyData} {L₁ : Addr} (F : Fx mg w A env h₀ lawC) (hA : Ro A 3) (hl : xs.length ≤ 100) (fin : Fin w A env h₀ s0 Q) (d : Dn f z c g s rest)
    (hx : f = 6 → ∃ q, x = ratD q ∧ (q = mkRat 1 2 ∨ q = mkRat (-1) 3 ∨ q = mkRat 3 2 ∨ q = -2)) :
    DX mg w A env h₀ s0 (lawE f z c g x) (lawO (g :: s :: rest) L₁) b l xs 9 (lawB.drop 10) Q := by
  have go : ∀ x' n, 8 ≤ n → (f = 6 → x' = x) → (f = 7 → ∃ m, x' = .int m ∧ (m = 2 ∨ m = 3 ∨ m = -1 ∨ m = -2)) → DX mg w A env h₀ s0 (lawE f z c g x') (lawO (g :: s :: rest) L₁) b l xs n (lawB.drop 11) Q := fun x' n hn h6 h7 =>
    dx_mono (dx_x F hA hl fin d.z3 fun x'' h8 h8' => ⟨d.f0, d.z3, d.c4, d.len, d.s3, d.r3, d.g07, d.g26, d.g0, d.s9, fun q => by rw [h8' (by lia), h6 q]; exact hx q, fun q => by rw [h8' (by lia)]; exact h7 q, h8⟩) hn
  refine dx_if (c := f == 7) (tr_W (n := 30) F rfl) ?_
  cases h : f == 7 with
  | true =>
    have h7 := beqT h
    refine dx_assign (n := 8) F.hk (kdF F rfl) (by decide) (fun ds l q => by cases q; rename_i q; cases q) (de_item (ev_tuple (evAll_cons ev_int (evAll_cons ev_int (evAll_cons (ev_neg ev_int) (evAll_cons (ev_neg ev_int) evAll_nil rfl) rfl) rfl) rfl) (by decide)) (de_take hA F.hk F.W (kdF F rfl) hl (by decide)) rfl (by decide) rfl fun _ _ => rfl) (fun x' hx' _ => dx_nil (go x' 8 (by decide) (fun q => by lia) fun _ => mem4 hx')) rfl
  | false => exact dx_nil (go x 9 (by decide) (fun _ => rfl) fun q => absurd q (beqF h))
theorem dx_8 {f z c g s : Int} {rest : List Int} {L₁ : Addr} (F : Fx mg w A env h₀ lawC) (hA : Ro A 3) (hl : xs.length ≤ 100) (fin : Fin w A env h₀ s0 Q) (d : Dn f z c g s rest) :
    DX mg w A env h₀ s0 [(Str.ofString "begin", .int g), (Str.ofString "c", .int c), (Str.ofString "size", .int z), (Str.ofString "form", .int f)] (lawO (g :: s :: rest) L₁) b l xs 11 (lawB.drop 8) Q := by
  refine dx_assign (n := 10) F.hk (kdF F rfl) (by decide) (fun ds l q => by cases q; rename_i q; cases q) (de_pure ev_none rfl) (fun x' hx' _ => ?_) rfl
  subst hx'
  refine dx_if (c := f == 6) (tr_W (n := 30) F rfl) ?_
  cases h : f == 6 with
  | true =>
    refine dx_assign (n := 9) F.hk (kdF F rfl) (by decide) (fun ds l q => by cases q; rename_i q; cases q) (de_item (ev_global F.hk F.W (kdF F rfl) (mem_of_lk rfl)) (de_take hA F.hk F.W (kdF F rfl) hl (by decide)) rfl (by decide) rfl fun _ _ => rfl) (fun x' hx' _ => dx_nil (dx_10 F hA hl fin d fun _ => memR hx')) rfl
  | false => exact dx_nil (dx_mono (dx_10 F hA hl fin d fun q => absurd q (beqF h)) (by decide))
end
end
end Mine
end
section
open PySem PySem.W PyProof.Rows PySem.Calls PySem.SeqAt
set_option maxRecDepth 100000
set_option linter.unusedVariables false
set_option maxHeartbeats 1000000
namespace Mine
noncomputable section
section
variable {mg : MG} {w : World} {A : Around} {env : Env} {h₀ : Base} {ρ : Vars} {ω : Owns} {b l : Addr} {xs : List Int} {s0 : Shared} {Q : Flow → Shared → Prop}
def lawG (f z c g : Int) : Vars := [(Str.ofString "begin", .int g), (Str.ofString "c", .int c), (Str.ofString "size", .int z), (Str.ofString "form", .int f)]
theorem dx_7 {f z c g s : Int} {rest : List Int} {L₁ : Addr} (F : Fx mg w A env h₀ lawC) (hA : Ro A 3) (hl : xs.length ≤ 100) (fin : Fin w A env h₀ s0 Q) (hs : s.natAbs ≤ 3) (hr : rest.length ≤ 2) (d : ∀ s', s'.natAbs ≤ 3 → (f = 9 → s' ≠ 0) → Dn f z c g s' rest) :
    DX mg w A env h₀ s0 (lawG f z c g) (lawO (g :: s :: rest) L₁) b l xs 11 (lawB.drop 7) Q := by
  refine dx_if (c := (f == 9) && (s == 0)) (tr_W (n := 30) F ?_) ?_
  · refine And.intro (fun q => ?_) fun q => ?_
    · show PyData.bool false = .bool (f == 9 && s == 0)
      rw [q]; rfl
    · have e : PyData.bool (s == 0) = .bool (f == 9 && s == 0) := by rw [q]; rfl
      exact Stop.mk ⟨_, ⟨by decide, rfl, by show (rest.map PyData.int).length + 1 + 1 ≤ _; rw [List.length_map]; exact Nat.le_trans (show rest.length + 1 + 1 ≤ 1000 by lia) (by decide)⟩, e⟩
  · cases h : (f == 9) && (s == 0) with
    | true =>
      refine dx_setitem (i := 1) (j := 2) F.hk (.head _) (fun p hp _ => by rw [List.mem_singleton.mp hp]) ev_int (by show 1 < (rest.map PyData.int).length + 1 + 1; lia) (by show (rest.map PyData.int).length + 1 + 1 ≤ _; rw [List.length_map]; lia) rfl (dx_nil (dx_8 F hA hl fin (d 2 (by decide) fun _ => by decide))) rfl
    | false =>
      refine dx_nil (dx_8 F hA hl fin (d s hs fun q z => ?_))
      rw [q, z] at h; cases h
theorem dx_6 {f z c g : Int} (F : Fx mg w A env h₀ lawC) (hA : Ro A 3) (hl : xs.length ≤ 100) (fin : Fin w A env h₀ s0 Q) (hz : z = 3 ∨ z = 4)
    (d : ∀ s' rest, (rest.length : Int) + 2 = z → s'.natAbs ≤ 3 → (∀ r ∈ rest, r.natAbs ≤ 3) → (f = 9 → s' ≠ 0) → Dn f z c g s' rest) :
    DX mg w A env h₀ s0 (lawG f z c g) [] b l xs 14 (lawB.drop 6) Q := by
  refine dx_mono (dx_row (n := 11) (ds := rangeD 0 1 (z - 1).toNat) F rfl (kdF F rfl) (by decide) ⟨mem_of_lk rfl, rfl⟩ (mem_of_lk rfl) rfl (evB_range (evIt_W (n := 30) F ?_)) (rangeD_scalar _ _ _) (by rw [rangeD_length]; lia)
    (fun env' i dd hd hk' hkd => de_sub (de_take hA hk' F.W ((hkd _).trans rfl) hl (by decide))) (fun rs L₁ hlen hP => ?_) fun _ => rfl) (by rw [rangeD_length]; lia)
  · exact And.intro (show small (z - 1) by unfold small; lia) (And.intro rfl rfl)
  · obtain ⟨ns, rfl, hn⟩ := ints_of (P := fun _ => True) hP
    rw [List.length_map, rangeD_length] at hlen
    cases ns with
    | nil => exact absurd hlen (by simp only [List.length_nil]; lia)
    | cons s rest =>
      rw [List.length_cons] at hlen
      exact dx_7 F hA hl fin (hn s (.head _)) (by lia) fun s' h1 h2 => d s' rest (by lia) h1 (fun r hr => hn r (.tail _ hr)) h2
end
end
end Mine
end
section
open PySem PySem.W PyProof.Rows PySem.Calls PySem.SeqAt
set_option maxRecDepth 100000
set_option linter.unusedVariables false
set_option maxHeartbeats 1000000
namespace Mine
noncomputable section
section
variable {mg : MG} {w : World} {A : Around} {env : Env} {h₀ : Base} {ρ : Vars} {ω : Owns} {b l : Addr} {xs : List Int} {s0 : Shared} {Q : Flow → Shared → Prop}
theorem or_dec {i j f : Int} (h : (decide (i = f) || decide (j = f)) = true) : f = i ∨ f = j := by
  simp only [Bool.or_eq_true, decide_eq_true_eq] at h; lia
theorem or_decF {i j f : Int} (h : (decide (i = f) || decide (j = f)) = false) : f ≠ i ∧ f ≠ j := by
  simp only [Bool.or_eq_false_iff, decide_eq_false_iff_not] at h; lia
theorem dx_4 {f z c : Int} (F : Fx mg w A env h₀ lawC) (hA : Ro A 3) (hl : xs.length ≤ 100) (fin : Fin w A env h₀ s0 Q) (hf : 0 ≤ f ∧ f < 10) (hz : z = 3 ∨ z = 4) (hc : c = 2 ∨ c = -1 ∨ c = 3 ∨ c = -2) :
    DX mg w A env h₀ s0 [(Str.ofString "c", .int c), (Str.ofString "size", .int z), (Str.ofString "form", .int f)] [] b l xs 16 (lawB.drop 4) Q := by
  have go : ∀ g n, 14 ≤ n → (f = 0 ∨ f = 7 → g = 1 ∨ g = -1) → (f = 2 ∨ f = 6 → g = 1) → (f ≠ 0 → f ≠ 7 → f ≠ 2 → f ≠ 6 → g = 0) → DX mg w A env h₀ s0 (lawG f z c g) [] b l xs n (lawB.drop 6) Q := fun g n hn h1 h2 h3 =>
    dx_mono (dx_6 F hA hl fin hz fun s' rest q1 q2 q3 q4 => ⟨hf, hz, hc, q1, q2, q3, h1, h2, h3, q4⟩) hn
  refine dx_assign (n := 15) F.hk (kdF F rfl) (by decide) (fun _ _ q => nomatch q) (de_pure (d := .int (if (decide (2 = f) || decide (6 = f)) = true then 1 else 0)) (ev_ifexp (tr_in2 F.A0 F.W (ev_var F.hk (mem_of_lk rfl) rfl)) (fun h => by rw [if_pos h]; exact ev_int) fun h => by rw [if_neg (by rw [h]; decide)]; exact ev_int) rfl) (fun x' hx' _ => ?_) rfl
  subst hx'
  refine dx_if (tr_in2 F.A0 F.W (ev_var F.hk (mem_of_lk rfl) rfl)) ?_
  cases h : decide (0 = f) || decide (7 = f) with
  | true =>
    have h' := or_dec h
    refine dx_assign (n := 14) F.hk (kdF F rfl) (by decide) (fun _ _ q => nomatch q) (de_item (ev_tuple (evAll_cons ev_int (evAll_cons (ev_neg ev_int) evAll_nil rfl) rfl) (by decide)) (de_take hA F.hk F.W (kdF F rfl) hl (by decide)) rfl (by decide) rfl fun _ _ => rfl) (fun x' hx' _ => ?_) rfl
    obtain ⟨g, rfl, hg⟩ := mem2 hx'
    exact dx_nil (go g 14 (by decide) (fun _ => hg) (fun q => by lia) fun q1 q2 => by lia)
  | false =>
    have h' := or_decF h
    refine dx_nil (go _ 15 (by decide) (fun q => by lia) (fun q => ?_) fun _ _ q1 q2 => ?_)
    · rw [if_pos]; simp only [Bool.or_eq_true, decide_eq_true_eq]; lia
    · rw [if_neg]; simp only [Bool.or_eq_true, decide_eq_true_eq]; lia
theorem dx_1 (F : Fx mg w A env h₀ lawC) (hA : Ro A 3) (hl : xs.length ≤ 100) (fin : Fin w A env h₀ s0 Q) : DX mg w A env h₀ s0 [] [] b l xs 19 (lawB.drop 1) Q := by
  refine dx_assign (n := 18) F.hk (kdF F rfl) (by decide) (fun _ _ q => nomatch q) (de_take hA F.hk F.W (kdF F rfl) hl (m := 10) (by decide)) (fun x' ⟨f, e, f0, f1⟩ _ => ?_) rfl
  subst e
  refine dx_assign (n := 17) F.hk (kdF F rfl) (by decide) (fun _ _ q => nomatch q) (de_add (de_take hA F.hk F.W (kdF F rfl) hl (m := 2) (by decide))) (fun x' ⟨z, e, z0, z1⟩ _ => ?_) rfl
  subst e
  refine dx_assign (n := 16) F.hk (kdF F rfl) (by decide) (fun _ _ q => nomatch q) (de_item (ev_tuple (evAll_cons ev_int (evAll_cons (ev_neg ev_int) (evAll_cons ev_int (evAll_cons (ev_neg ev_int) evAll_nil rfl) rfl) rfl) rfl) (by decide)) (de_take hA F.hk F.W (kdF F rfl) hl (by decide)) rfl (by decide) rfl fun _ _ => rfl) (fun x' hx' _ => ?_) rfl
  obtain ⟨c, rfl, hc⟩ := mem4 hx'
  exact dx_4 F hA hl fin ⟨f0, f1⟩ (by lia) hc
end
end
end Mine
end
section
open PySem PySem.W PyProof.Rows PySem.Calls PySem.SeqAt
set_option maxRecDepth 100000
set_option linter.unusedVariables false
set_option maxHeartbeats 1000000
namespace Mine
noncomputable section
section
variable {mg : MG} {w : World} {A : Around} {env : Env}
theorem law_tells (maths : ∀ f z c g s rest x, Drawn f z c g s rest x → ∃ r, LawOk f z c g s rest x r) {s : Shared} {v : Value} {f : Addr} {ns : List Int} (hA : Ro A 13) (hfr : A.frames = some []) (W : Wd mg w s.heap) (hmg : mg (Str.ofString "law") = some (.ref f)) (i : Is s.heap.get? v (.list (ns.map .int))) (hn : ns.length ≤ 63) :
    wpAny (model pw w) A (call (.ref f) [v]) (fun v s' => v = .bool true ∧ Sx s s' ∧ s.heap.StaysIn s'.heap) No s := by
  obtain ⟨hmem, hname⟩ := D_mem (f := Str.ofString "law") rfl
  refine call_core (d := D (Str.ofString "law")) (xs := [Str.ofString "script"]) (ds := [.list (ns.map .int)]) ⟨rfl, rfl, rfl, rfl, bind1 fun _ _ _ _ => rfl, by decide, rfl⟩ hmem rfl (by have := hA.depth; omega) W (hname.symm ▸ hmg) (.cons i .nil) fun env s₁ hk hsc hf kp hc S => wpAny_no ?_
  have hA' : Ro (A.deeper env) 12 := hA.deeper env
  have gv : Good mg w 4 (Str.ofString "let") letS := (good_let (n := 2) good_vast).more (by decide)
  have F : Fx mg w (A.deeper env) env (Base.at s.heap) lawC := ⟨hk, W, fun x => by show env.scope.names.lookup x = _; rw [hsc]; rfl, 12, hA', spc ((good_deed (n := 0) gv).more (by decide)) (spc ((good_first (n := 0)).more (by decide)) (spc ((good_long (n := 0)).more (by decide)) (spc ((good_wide (n := 0)).more (by decide)) (spc good_len (spc good_list sp0)))))⟩
  have kd : ∀ {y : Str} {k : NameKind}, lawC.kd y = some k → env.kindOf y = some k := fun h => (F.kd _).trans h
  have hfin : ∀ {f z c g s₁ : Int} {rest : List Int} {x : PyData} {s' : Shared}, Drawn f z c g s₁ rest x → St (Base.at s.heap) env (lawV f z c g (g :: s₁ :: rest) x) [] s'.heap → Sx s s' → wpAny (model pw w) (A.deeper env) (execs lawTail env) (fun fl s'' => fl = .ret (.bool true) ∧ Sx s s'' ∧ s.heap.StaysIn s''.heap) No s' := fun d S' sx => by
    obtain ⟨r, ok⟩ := maths _ _ _ _ _ _ _ d
    exact law_end ok F hA' hsc (Around.frames_deeper hfr) hf hc W S' sx
  have hQ : ∀ {s'' : Shared} {fl : Flow}, (fl = .ret (.bool true) ∧ Sx s s'' ∧ s.heap.StaysIn s''.heap) → ((match fl with | .ret v => v | _ => Value.none) = .bool true ∧ Sx s s'' ∧ s.heap.StaysIn s''.heap) := fun ⟨h1, h2⟩ => ⟨by rw [h1], h2⟩
  refine wpAny_q (Q := fun fl s'' => fl = .ret (.bool true) ∧ Sx s s'' ∧ s.heap.StaysIn s''.heap) ?_ fun fl s'' h => hQ h
  refine wpAny_execs_cons (wpAny_Assign_Name (eval_new (n := 30) (ω := []) (ds := [.list ((ns.map .int).take 11), .int 0]) F S ?_ fun v s₂ k₂ nl => ?_) rfl)
  · have h1 : (ns.map PyData.int).length ≤ 1000 := by rw [List.length_map]; omega
    exact And.intro (Nat.le_trans h1 (by decide)) (Stop.mk (Or.inl (And.intro (by decide) (And.intro (Nat.le_trans (List.length_take_le' _ _) h1) ⟨rfl, rfl⟩))))
  · obtain ⟨b, vs, rfl, hb, ⟨n, eb⟩, ib⟩ := nl
    obtain ⟨v1, v2, hvs, i1, i2⟩ := ib.two
    obtain ⟨t, rfl⟩ := i2.int_inv
    obtain ⟨l, us, n', rfl, el, il⟩ := i1.lst_plain
    have hvs' : vs = #[.ref l, .int 0 t] := by
      obtain ⟨q⟩ := vs
      simp at hvs; subst hvs; rfl
    subst hvs'
    have hbl : b ≠ l := fun z => by
      rw [z, el] at eb
      cases eb
      have hin : ∀ d ∈ (ns.map PyData.int).take 11, ∃ n, d = .int n := fun d hd => let ⟨n, _, e⟩ := List.mem_map.mp (List.mem_of_mem_take hd); ⟨n, e.symm⟩
      generalize (ns.map PyData.int).take 11 = dd at il hin
      cases il with
      | cons h1 h2 =>
        obtain ⟨n, rfl⟩ := hin _ (.head _)
        obtain ⟨t, q⟩ := h1.int_inv
        cases q
    have hcell : env.kindOf nBox = some .cell := kd rfl
    obtain ⟨c, hcc⟩ := hk.cell _ hcell
    obtain ⟨u, hu⟩ := (S.keeps k₂.get).cells _ _ hcc
    refine wpAny_storeName_cell hk.kind hcell hcc hu fun h₃ hv₃ sb₃ => ?_
    replace sb₃ : Heap.SameBut c s₂.heap h₃ := sb₃
    have S₂ := S.keeps k₂.get
    obtain ⟨m, hns⟩ := S₂.ns
    obtain ⟨ou, eu, du⟩ := hu
    have hcb : b ≠ c := fun z => by rw [z, eu] at eb; cases eb; cases du
    have hcl : l ≠ c := fun z => by rw [z, eu] at el; cases el; cases du
    have hcL : env.locals ≠ c := Ne.symm (notLocals hns eu (.inr ⟨_, du⟩))
    have hsc0 : s.heap.get? c = none := hc _ _ hcc
    refine dx_1 F (hA'.mono (by decide)) (b := b) (l := l) (xs := ns.take 11) (s0 := s) (Nat.le_trans (List.length_take_le' _ _) (by omega)) (fun f z c g s₁ rest x s' d S' sx => hfin d S' sx) 0 _ ⟨⟨?_, ?_, S₂.fresh, ?_, (fun _ _ h => nomatch h), (fun _ _ _ h => nomatch h), List.nodup_nil, ?_⟩, ?_, ?_, ?_, ?_, ?_, fun _ h => nomatch h⟩ (by decide) ?_
    · exact ⟨m, hns.sameBut sb₃ hcL⟩
    · exact fun a o e => (sb₃.2 a fun z => by rw [z, show (Base.at s.heap).h.get? c = none from hsc0] at e; cases e).trans (S₂.keep a o e)
    · intro x c' hx'
      by_cases z : c' = c
      · exact ⟨_, z ▸ hv₃⟩
      · obtain ⟨v', o, e, dd⟩ := S₂.cells x c' hx'
        exact ⟨v', o, (sb₃.2 c' z).trans e, dd⟩
    · intro a ha
      by_cases z : a = c
      · obtain ⟨o, e, _⟩ := hv₃
        rw [z, e] at ha; cases ha
      · exact S₂.wide a ((sb₃.2 a z).symm.trans ha)
    · exact .inr ⟨hcell, c, hcc, hv₃⟩
    · refine ⟨t, us, ⟨n, (sb₃.2 b hcb).trans eb⟩, hbl, ⟨n', (sb₃.2 l hcl).trans el⟩, ?_⟩
      have e : (ns.map PyData.int).take 11 = (ns.take 11).map .int := List.map_take.symm
      rw [e] at il
      exact il.ints
    · exact fun h => nomatch h
    · exact fun h => nomatch h
    · exact none_of kp hb
    · exact kp.sx.trans (k₂.sx.trans ⟨h₃, _, rfl⟩)
end
end
end Mine
end
section
set_option linter.unusedVariables false
open PySem
namespace Mine
noncomputable section
structure Inp (g : Int) (a : List Rat) : Prop where
  bd : BdL 1 a
  lo : 3 ≤ a.length
  hi : a.length ≤ 7
  h0 : cf a 0 = g
theorem bd_rats {row : List Int} (h : ∀ r ∈ row, r.natAbs ≤ 3) : BdL 1 (rats row) := fun i => by
  by_cases hi : i < row.length
  · rw [cf_at (by rw [lenR]; exact hi)]
    unfold rats
    rw [List.getElem_map]
    exact bd_int (by have := h _ (List.getElem_mem hi); lia)
  · rw [cf_out (by rw [lenR]; lia)]; exact bd_zero _
theorem cf_rats {row : List Int} (i : Nat) : cf (rats row) i = ((row.getD i 0 : Int) : Rat) := by
  by_cases hi : i < row.length
  · rw [cf_at (by rw [lenR]; exact hi)]
    unfold rats
    rw [List.getElem_map]; simp [List.getD_eq_getElem?_getD, hi]
  · rw [cf_out (by rw [lenR]; lia)]; simp [List.getD_eq_getElem?_getD, hi]
theorem row_at {row : List Int} (h : ∀ r ∈ row, r.natAbs ≤ 3) (i : Nat) : (row.getD i 0).natAbs ≤ 3 := by
  by_cases hi : i < row.length
  · have := h _ (List.getElem_mem hi)
    simpa [List.getD_eq_getElem?_getD, hi] using this
  · simp [List.getD_eq_getElem?_getD, hi]
theorem bd_lg {row : List Int} {c : Int} (h : ∀ r ∈ row, r.natAbs ≤ 3) (hl : row.length ≤ 4) (hc : c.natAbs ≤ 3) : BdL 1 (longL (rats row) c 1) := fun i => by
  obtain ⟨l1, l2⟩ := lg_long (rats row) c
  by_cases hi : i < row.length
  · rw [l2, cf_rats, ← Rat.intCast_pow, ← Rat.intCast_mul]
    refine bd_int ?_
    rw [Int.natAbs_mul, Int.natAbs_pow]
    exact Nat.le_trans (Nat.mul_le_mul (Nat.le_trans (Nat.pow_le_pow_left hc i) (Nat.pow_le_pow_right (by decide) (show i ≤ 3 by lia))) (row_at h i)) (by decide)
  · rw [cf_out (by rw [l1, lenR]; lia)]; exact bd_zero _
theorem bd_wide {a : List Rat} {e : Nat} (h : BdL e a) : BdL e (wideL a) := fun i => by
  by_cases hi : i < 2 * a.length - 1
  · rw [cf_wide a hi]; split
    · exact h _
    · exact bd_zero _
  · rw [cf_out (by rw [lenWide]; lia)]; exact bd_zero _
section
variable {f z c g s : Int} {rest : List Int} {x : PyData}
theorem d_len (d : Drawn f z c g s rest x) : rest.length + 2 = 3 ∨ rest.length + 2 = 4 := by
  have := d.len; have := d.z3; lia
theorem d_g (d : Drawn f z c g s rest x) : g = 0 ∨ g = 1 ∨ g = -1 := by
  by_cases h0 : f = 0
  · exact .inr (d.g07 (.inl h0))
  · by_cases h7 : f = 7
    · exact .inr (d.g07 (.inr h7))
    · by_cases h2 : f = 2
      · exact .inr (.inl (d.g26 (.inl h2)))
      · by_cases h6 : f = 6
        · exact .inr (.inl (d.g26 (.inr h6)))
        · exact .inl (d.g0 h0 h7 h2 h6)
theorem d_row (d : Drawn f z c g s rest x) : ∀ r ∈ g :: s :: rest, r.natAbs ≤ 3 := fun r hr => by
  rcases List.mem_cons.mp hr with h | h
  · rw [h]; have := d_g d; lia
  · rcases List.mem_cons.mp h with h | h
    · rw [h]; exact d.s3
    · exact d.r3 r h
theorem d_c (d : Drawn f z c g s rest x) : c.natAbs ≤ 3 ∧ c ≠ 0 := by have := d.c4; lia
theorem in_a (d : Drawn f z c g s rest x) : Inp g (rats (g :: s :: rest)) := ⟨bd_rats (d_row d), by rw [lenR]; have := d_len d; simp; lia, by rw [lenR]; have := d_len d; simp; lia, rfl⟩
theorem in_long (d : Drawn f z c g s rest x) : Inp g (longL (rats (g :: s :: rest)) c 1) := by
  obtain ⟨l1, l2⟩ := lg_long (rats (g :: s :: rest)) c
  have a := in_a d
  exact ⟨bd_lg (d_row d) (by have := d_len d; simp; lia) (d_c d).1, by rw [l1]; exact a.lo, by rw [l1]; exact a.hi, by rw [l2, Rat.pow_zero, Rat.one_mul]; rfl⟩
theorem in_wide (d : Drawn f z c g s rest x) : Inp g (wideL (rats (g :: s :: rest))) := by
  have a := in_a d
  have l := lenWide (rats (g :: s :: rest))
  have l' : (rats (g :: s :: rest)).length = rest.length + 2 := lenR _
  have := d_len d
  exact ⟨bd_wide a.bd, by lia, by lia, by rw [cf_wide _ (by lia)]; rfl⟩
theorem wide_eq {b r : List Rat} {n : Nat} (y : Ww r b) (hl : b.length = n) (hn : n ≤ 2 * r.length - 1) : b = (wideL r).take n := by
  have w := ww_wide r
  have lw := lenWide r
  refine ext_cf (by rw [List.length_take, lw]; lia) fun i hi => ?_
  rw [List.length_take, lw] at hi
  rw [cf_take, if_pos (by lia)]
  obtain ⟨k, rfl | rfl⟩ := par i
  · rw [y.2.1 k (by lia), w.2.1 k (by lia)]
  · rw [y.2.2, w.2.2]
theorem law_mk (d : Drawn f z c g s rest x) (n9 : f ≠ 9) (op : List Rat → List Rat)
    (hk : ∀ a, Inp g a → rest.length + 2 ≤ a.length → DeedOk f a x (op a) ∧ BdL 300 (op a) ∧ (op a).length = if f = 8 then rest.length + 2 else a.length)
    (lg : Lg c (op (rats (g :: s :: rest))) (op (longL (rats (g :: s :: rest)) c 1)))
    (ww : Ww (op (rats (g :: s :: rest))) (op (wideL (rats (g :: s :: rest)))))
    (first : FirstOk f g s x [cf (op (rats (g :: s :: rest))) 0, cf (op (rats (g :: s :: rest))) 1]) : ∃ r, LawOk f z c g s rest x r := by
  refine ⟨op (rats (g :: s :: rest)), ?_⟩
  have hr : (rats (g :: s :: rest)).length = rest.length + 2 := lenR _
  have hz := d_len d
  have ez := d.len
  obtain ⟨h1, h2, h3⟩ := hk _ (in_a d) (by lia)
  have h3' : (op (rats (g :: s :: rest))).length = rest.length + 2 := by rw [h3, hr]; split <;> rfl
  obtain ⟨p1, p2, p3⟩ := hk _ (in_wide d) (by rw [lenWide]; lia)
  rw [lenWide, hr] at p3
  refine ⟨by lia, by have := d.s3; lia, h1, by lia, by lia, by lia, h2.allF (Nat.le_refl _), (in_a d).bd.allF (by decide), by rw [take2 (by lia)]; exact first, (d_c d).1, (d_c d).2, fun h => absurd h n9, fun _ => ?_, fun _ => ?_⟩
  · rw [← lg.eq]; exact (hk _ (in_long d) (by rw [(lg_long _ _).1]; lia)).1
  · rw [← wide_eq ww (n := (if f = 8 then z else 2 * z - 1).toNat) ?_ ?_]
    · exact p1
    · rw [p3]; split <;> lia
    · split <;> lia
end
end
end Mine
end
section
set_option linter.unusedVariables false
open PySem
namespace Mine
noncomputable section
section
variable {a r : List Rat} {x : PyData} {b s : Int}
theorem dk0 (h : cf a 0 ≠ 0 ∧ InvOk a ∧ r = invL a) : DeedOk 0 a x r :=
  ⟨fun _ => h, fun h => absurd h (by decide), fun h => absurd h (by decide), fun h => absurd h (by decide), fun h => absurd h (by decide), fun h => absurd h (by decide), fun h => absurd h (by decide), fun h => absurd h (by decide), fun h => absurd h (by decide), fun q _ _ _ _ _ _ _ _ => absurd rfl q⟩
theorem dk1 (h : AtanOk a ∧ r = atanL a) : DeedOk 1 a x r :=
  ⟨fun h => absurd h (by decide), fun _ => h, fun h => absurd h (by decide), fun h => absurd h (by decide), fun h => absurd h (by decide), fun h => absurd h (by decide), fun h => absurd h (by decide), fun h => absurd h (by decide), fun h => absurd h (by decide), fun _ q _ _ _ _ _ _ _ => absurd rfl q⟩
theorem dk2 (h : LogOk a ∧ r = logL a) : DeedOk 2 a x r :=
  ⟨fun h => absurd h (by decide), fun h => absurd h (by decide), fun _ => h, fun h => absurd h (by decide), fun h => absurd h (by decide), fun h => absurd h (by decide), fun h => absurd h (by decide), fun h => absurd h (by decide), fun h => absurd h (by decide), fun _ _ q _ _ _ _ _ _ => absurd rfl q⟩
theorem dk3 (h : cf a 0 = 0 ∧ TrigOk a ∧ r = (trig a a.length).1) : DeedOk 3 a x r :=
  ⟨fun h => absurd h (by decide), fun h => absurd h (by decide), fun h => absurd h (by decide), fun _ => h, fun h => absurd h (by decide), fun h => absurd h (by decide), fun h => absurd h (by decide), fun h => absurd h (by decide), fun h => absurd h (by decide), fun _ _ _ q _ _ _ _ _ => absurd rfl q⟩
theorem dk4 (h : cf a 0 = 0 ∧ TrigOk a ∧ r = (trig a a.length).2) : DeedOk 4 a x r :=
  ⟨fun h => absurd h (by decide), fun h => absurd h (by decide), fun h => absurd h (by decide), fun h => absurd h (by decide), fun _ => h, fun h => absurd h (by decide), fun h => absurd h (by decide), fun h => absurd h (by decide), fun h => absurd h (by decide), fun _ _ _ _ q _ _ _ _ => absurd rfl q⟩
theorem dk5 (h : cf a 0 = 0 ∧ ExpOk a ∧ r = expL a) : DeedOk 5 a x r :=
  ⟨fun h => absurd h (by decide), fun h => absurd h (by decide), fun h => absurd h (by decide), fun h => absurd h (by decide), fun h => absurd h (by decide), fun _ => h, fun h => absurd h (by decide), fun h => absurd h (by decide), fun h => absurd h (by decide), fun _ _ _ _ _ q _ _ _ => absurd rfl q⟩
theorem dk6 (h : ∃ q : Rat, x = ratD q ∧ cf a 0 = 1 ∧ PowOk q a ∧ r = powL q a) : DeedOk 6 a x r :=
  ⟨fun h => absurd h (by decide), fun h => absurd h (by decide), fun h => absurd h (by decide), fun h => absurd h (by decide), fun h => absurd h (by decide), fun h => absurd h (by decide), fun _ => h, fun h => absurd h (by decide), fun h => absurd h (by decide), fun _ _ _ _ _ _ q _ _ => absurd rfl q⟩
theorem dk7 (h : ∃ (m : Int) (b : List Rat), x = .int m ∧ ((m < 0 → b = invL a ∧ 0 < a.length ∧ cf a 0 ≠ 0 ∧ InvOk a) ∧ (¬ m < 0 → b = a) ∧ a.length ≤ 400 ∧ m.natAbs < 16 ∧ WOk 5 m.natAbs (cutL [1] a.length) b) ∧ r = wpow 5 m.natAbs (cutL [1] a.length) b) : DeedOk 7 a x r :=
  ⟨fun h => absurd h (by decide), fun h => absurd h (by decide), fun h => absurd h (by decide), fun h => absurd h (by decide), fun h => absurd h (by decide), fun h => absurd h (by decide), fun h => absurd h (by decide), fun _ => h, fun h => absurd h (by decide), fun _ _ _ _ _ _ _ q _ => absurd rfl q⟩
theorem dk8 (h : ∃ e : List Rat, x = L e ∧ e.length ≤ 400 ∧ 0 < e.length ∧ CompOk e a ∧ r = compL e a) : DeedOk 8 a x r :=
  ⟨fun h => absurd h (by decide), fun h => absurd h (by decide), fun h => absurd h (by decide), fun h => absurd h (by decide), fun h => absurd h (by decide), fun h => absurd h (by decide), fun h => absurd h (by decide), fun h => absurd h (by decide), fun _ => h, fun _ _ _ _ _ _ _ _ q => absurd rfl q⟩
theorem dk9 (h : 2 ≤ a.length ∧ cf a 0 = 0 ∧ cf (a.drop 1) 0 ≠ 0 ∧ RevOk a ∧ r = revL a) : DeedOk 9 a x r :=
  ⟨fun h => absurd h (by decide), fun h => absurd h (by decide), fun h => absurd h (by decide), fun h => absurd h (by decide), fun h => absurd h (by decide), fun h => absurd h (by decide), fun h => absurd h (by decide), fun h => absurd h (by decide), fun h => absurd h (by decide), fun _ _ _ _ _ _ _ _ _ => h⟩
theorem fk6 (h : ∃ q : Rat, x = ratD q ∧ Fine q ∧ r = [1, Rat.divInt (q.num * s) q.den]) : FirstOk 6 b s x r :=
  ⟨fun _ => h, fun h => absurd h (by decide), fun h => absurd h (by decide), fun h => absurd h (by decide), fun h => absurd h (by decide), fun q _ _ _ _ => absurd rfl q⟩
theorem fk7 (h : ∃ m : Int, x = .int m ∧ (b = 1 ∨ b = -1) ∧ m.natAbs ≤ 3 ∧ r = [((b ^ m.natAbs : Int) : Rat), ((m * b ^ (m.natAbs + 1) * s : Int) : Rat)]) : FirstOk 7 b s x r :=
  ⟨fun h => absurd h (by decide), fun _ => h, fun h => absurd h (by decide), fun h => absurd h (by decide), fun h => absurd h (by decide), fun _ q _ _ _ => absurd rfl q⟩
theorem fk8 (h : ∃ (e₀ e₁ : Int) (es : List PyData), x = .list (.tuple [.int e₀, .int 1] :: .tuple [.int e₁, .int 1] :: es) ∧ es.length ≤ 100 ∧ e₁.natAbs ≤ 1000 ∧ r = [(e₀ : Rat), ((e₁ * s : Int) : Rat)]) : FirstOk 8 b s x r :=
  ⟨fun h => absurd h (by decide), fun h => absurd h (by decide), fun _ => h, fun h => absurd h (by decide), fun h => absurd h (by decide), fun _ _ q _ _ => absurd rfl q⟩
theorem fk9 (h : s ≠ 0 ∧ r = [0, Rat.divInt 1 s]) : FirstOk 9 b s x r :=
  ⟨fun h => absurd h (by decide), fun h => absurd h (by decide), fun h => absurd h (by decide), fun _ => h, fun h => absurd h (by decide), fun _ _ _ q _ => absurd rfl q⟩
theorem fk0 (h : r = [(b : Rat), ((0 - s : Int) : Rat)]) : FirstOk 0 b s x r :=
  ⟨fun h => absurd h (by decide), fun h => absurd h (by decide), fun h => absurd h (by decide), fun h => absurd h (by decide), fun _ => h, fun _ _ _ _ q => absurd rfl q⟩
theorem fk1 (h : r = [0, (s : Rat)]) : FirstOk 1 b s x r :=
  ⟨fun h => absurd h (by decide), fun h => absurd h (by decide), fun h => absurd h (by decide), fun h => absurd h (by decide), fun h => absurd h (by decide), fun _ _ _ _ _ => h⟩
theorem fk2 (h : r = [0, (s : Rat)]) : FirstOk 2 b s x r :=
  ⟨fun h => absurd h (by decide), fun h => absurd h (by decide), fun h => absurd h (by decide), fun h => absurd h (by decide), fun h => absurd h (by decide), fun _ _ _ _ _ => h⟩
theorem fk3 (h : r = [0, (s : Rat)]) : FirstOk 3 b s x r :=
  ⟨fun h => absurd h (by decide), fun h => absurd h (by decide), fun h => absurd h (by decide), fun h => absurd h (by decide), fun h => absurd h (by decide), fun _ _ _ _ _ => h⟩
theorem fk4 (h : r = [1, 0]) : FirstOk 4 b s x r :=
  ⟨fun h => absurd h (by decide), fun h => absurd h (by decide), fun h => absurd h (by decide), fun h => absurd h (by decide), fun h => absurd h (by decide), fun _ _ _ _ _ => h⟩
theorem fk5 (h : r = [1, (s : Rat)]) : FirstOk 5 b s x r :=
  ⟨fun h => absurd h (by decide), fun h => absurd h (by decide), fun h => absurd h (by decide), fun h => absurd h (by decide), fun h => absurd h (by decide), fun _ _ _ _ _ => h⟩
end
end
end Mine
end
section
set_option linter.unusedVariables false
open PySem
namespace Mine
noncomputable section
theorem lenLg {a : List Rat} (h : 2 ≤ a.length) : (logL a).length = a.length := by
  unfold logL; rw [lenInt, lenMul, lenDer, lenInv]; lia
theorem lenAt {a : List Rat} (h : 2 ≤ a.length) : (atanL a).length = a.length := by
  unfold atanL; rw [lenInt, lenMul, lenDer, lenInv, lenSq]; lia
theorem lenPw (q : Rat) (a : List Rat) : (powL q a).length = a.length := build_length _ _
theorem lenEx (a : List Rat) : (expL a).length = a.length := build_length _ _
theorem lenCo {e a : List Rat} (h : e.length ≤ a.length) : (compL e a).length = e.length := by
  unfold compL; rw [lenComp _ _ _ (by lia)]; lia
theorem lenWp : ∀ u k {f b : List Rat}, f.length = b.length → (wpow u k f b).length = b.length
  | 0, _, _, _, h => h
  | u + 1, k, f, b, h => by
    unfold wpow; split
    · exact h
    · have hf : (if k % 2 = 1 then mulL f b else f).length = b.length := by
        split
        · rw [lenMul]; lia
        · exact h
      have hb : (if k / 2 > 0 then mulL b b else b).length = b.length := by
        split
        · rw [lenMul]; lia
        · rfl
      rw [lenWp u (k / 2) (hf.trans hb.symm), hb]
theorem ne0 {g : Int} (h : g ≠ 0) : (g : Rat) ≠ 0 := fun q => h (Rat.intCast_inj.mp q)
theorem bd_cut1 (n : Nat) : BdL 1 (cutL [1] n) := fun i => by
  by_cases h : 0 < n
  · by_cases hi : i < n
    · rw [cf_one hi]; split
      · exact bd_int (n := 1) (by decide)
      · exact bd_zero _
    · rw [cf_out (by rw [lenOne h]; lia)]; exact bd_zero _
  · have : n = 0 := by lia
    subst this
    show Bd 1 (cf [] i)
    exact bd_nil 1 i
section
variable {z c g s : Int} {rest : List Int} {x : PyData}
theorem Inp.l3 {a : List Rat} (i : Inp g a) : 2 ≤ a.length ∧ 0 < a.length ∧ a.length ≤ 8 ∧ a.length ≤ 400 := by
  have := i.lo; have := i.hi; lia
theorem iff8 {n m : Nat} {f : Int} (h : f ≠ 8) : n = if f = 8 then m else n := (if_neg h).symm
theorem deed0 (d : Drawn 0 z c g s rest x) : ∃ r, LawOk 0 z c g s rest x r := by
  have hg := d.g07 (.inl rfl)
  have h0 : g ≠ 0 := by lia
  have A := in_a d
  refine law_mk d (by decide) invL (fun a i _ => ?_) (lg_inv (lg_long _ _)) (ww_inv (ww_wide _)) (fk0 ?_)
  · obtain ⟨o, b⟩ := inv_ok i.bd i.l3.2.2.1 i.h0 h0 (by lia) (by have := i.hi; lia) (by decide)
    exact ⟨dk0 ⟨by rw [i.h0]; exact ne0 h0, o, rfl⟩, b.mono (by have := i.hi; lia), by rw [lenInv]; exact iff8 (by decide)⟩
  · obtain ⟨p, q⟩ := f_inv A.l3.1
    rw [p, q]
    show [1 / (g : Rat), (0 - (s : Rat) * (1 / (g : Rat))) / (g : Rat)] = _
    rw [Rat.intCast_sub]
    rcases hg with rfl | rfl
    · show [1 / (1 : Rat), (0 - (s : Rat) * (1 / (1 : Rat))) / (1 : Rat)] = [(1 : Rat), 0 - (s : Rat)]
      rw [div1, div1, Rat.mul_one]
    · show [1 / (-1 : Rat), (0 - (s : Rat) * (1 / (-1 : Rat))) / (-1 : Rat)] = [(-1 : Rat), 0 - (s : Rat)]
      rw [show (1 : Rat) / -1 = -1 by decide +kernel]
      congr 1
      congr 1
      grind
theorem deed1 (d : Drawn 1 z c g s rest x) : ∃ r, LawOk 1 z c g s rest x r := by
  obtain rfl := d.g0 (by decide) (by decide) (by decide) (by decide)
  have A := in_a d
  refine law_mk d (by decide) atanL (fun a i _ => ?_) (lg_atan (lg_long _ _)) (ww_atan (ww_wide _)) (fk1 ?_)
  · obtain ⟨o, b⟩ := atan_ok i.bd i.l3.2.2.1 i.l3.2.1 i.h0 (by have := i.hi; lia) (by decide)
    exact ⟨dk1 ⟨o, rfl⟩, b.mono (by have := i.hi; lia), by rw [lenAt i.l3.1]; exact iff8 (by decide)⟩
  · obtain ⟨p, q⟩ := f_atan A.l3.1 A.h0
    rw [p, q]; rfl
theorem deed2 (d : Drawn 2 z c g s rest x) : ∃ r, LawOk 2 z c g s rest x r := by
  obtain rfl := d.g26 (.inl rfl)
  have A := in_a d
  refine law_mk d (by decide) logL (fun a i _ => ?_) (lg_log (lg_long _ _)) (ww_log (ww_wide _)) (fk2 ?_)
  · obtain ⟨o, b⟩ := log_ok i.bd i.l3.2.2.1 i.h0 (by have := i.hi; lia)
    exact ⟨dk2 ⟨o, rfl⟩, b.mono (by have := i.hi; lia), by rw [lenLg i.l3.1]; exact iff8 (by decide)⟩
  · obtain ⟨p, q⟩ := f_log A.l3.1 A.h0
    rw [p, q]; rfl
theorem tr_i {a : List Rat} (i : Inp 0 a) : TrigOk a ∧ BdL 300 (trig a a.length).1 ∧ BdL 300 (trig a a.length).2 := by
  have := i.hi
  obtain ⟨p, q⟩ := bd_trig i.bd a.length (by lia)
  exact ⟨trig_ok i.bd (by lia) (by lia) (by decide), p.mono (by lia), q.mono (by lia)⟩
theorem deed3 (d : Drawn 3 z c g s rest x) : ∃ r, LawOk 3 z c g s rest x r := by
  obtain rfl := d.g0 (by decide) (by decide) (by decide) (by decide)
  have A := in_a d
  refine law_mk d (by decide) (fun a => (trig a a.length).1) (fun a i _ => ?_) ?_ ⟨?_, (ww_trig (ww_wide _) _ (Nat.le_refl _)).1⟩ (fk3 ?_)
  · obtain ⟨o, b, _⟩ := tr_i i
    exact ⟨dk3 ⟨i.h0, o, rfl⟩, b, by show (trig a a.length).1.length = _; rw [(lenTrig _ _).1]; exact iff8 (by decide)⟩
  · show Lg _ _ (trig (longL _ c 1) (longL _ c 1).length).1
    rw [(lg_long _ _).1]; exact (lg_trig (lg_long _ _) _).1
  · show (trig _ _).1.length ≤ 2 * (trig _ _).1.length
    rw [(lenTrig _ _).1, (lenTrig _ _).1]; exact (ww_wide _).1
  · obtain ⟨⟨p, q⟩, _⟩ := f_trig A.l3.1
    show [cf (trig _ _).1 0, cf (trig _ _).1 1] = _
    rw [p, q]; rfl
theorem deed4 (d : Drawn 4 z c g s rest x) : ∃ r, LawOk 4 z c g s rest x r := by
  obtain rfl := d.g0 (by decide) (by decide) (by decide) (by decide)
  have A := in_a d
  refine law_mk d (by decide) (fun a => (trig a a.length).2) (fun a i _ => ?_) ?_ ⟨?_, (ww_trig (ww_wide _) _ (Nat.le_refl _)).2⟩ (fk4 ?_)
  · obtain ⟨o, _, b⟩ := tr_i i
    exact ⟨dk4 ⟨i.h0, o, rfl⟩, b, by show (trig a a.length).2.length = _; rw [(lenTrig _ _).2]; exact iff8 (by decide)⟩
  · show Lg _ _ (trig (longL _ c 1) (longL _ c 1).length).2
    rw [(lg_long _ _).1]; exact (lg_trig (lg_long _ _) _).2
  · show (trig _ _).2.length ≤ 2 * (trig _ _).2.length
    rw [(lenTrig _ _).2, (lenTrig _ _).2]; exact (ww_wide _).1
  · obtain ⟨_, p, q⟩ := f_trig A.l3.1
    show [cf (trig _ _).2 0, cf (trig _ _).2 1] = _
    rw [p, q]
theorem deed5 (d : Drawn 5 z c g s rest x) : ∃ r, LawOk 5 z c g s rest x r := by
  obtain rfl := d.g0 (by decide) (by decide) (by decide) (by decide)
  have A := in_a d
  refine law_mk d (by decide) expL (fun a i _ => ?_) (lg_exp (lg_long _ _)) (ww_exp (ww_wide _)) (fk5 ?_)
  · obtain ⟨o, b⟩ := exp_ok i.bd i.l3.2.2.1 (by have := i.hi; lia) (by decide)
    exact ⟨dk5 ⟨i.h0, o, rfl⟩, b.mono (by have := i.hi; lia), by rw [lenEx]; exact iff8 (by decide)⟩
  · obtain ⟨p, q⟩ := f_exp A.l3.1
    rw [p, q]; rfl
theorem bd_mk {q : Rat} (m : Int) (h : q * (2520 : Int) = m) (hm : m.natAbs ≤ 2520 ^ 2) : Bd 1 q := ⟨m, by show q * ((2520 ^ 1 : Int) : Rat) = _; exact h, hm⟩
theorem deed6 (d : Drawn 6 z c g s rest x) : ∃ r, LawOk 6 z c g s rest x r := by
  obtain rfl := d.g26 (.inr rfl)
  obtain ⟨q, rfl, hq⟩ := d.x6 rfl
  have bq : Bd 1 q := by
    rcases hq with rfl | rfl | rfl | rfl
    · exact bd_mk 1260 (by decide +kernel) (by decide)
    · exact bd_mk (-840) (by decide +kernel) (by decide)
    · exact bd_mk 3780 (by decide +kernel) (by decide)
    · exact bd_mk (-5040) (by decide +kernel) (by decide)
  have A := in_a d
  refine law_mk d (by decide) (powL q) (fun a i _ => ?_) (lg_pow (lg_long _ _)) (ww_pow (ww_wide _)) (fk6 ⟨q, rfl, bq.fine (by decide), ?_⟩)
  · obtain ⟨o, b⟩ := pow_ok bq i.bd i.l3.2.2.1 (by have := i.hi; lia) (by decide)
    exact ⟨dk6 ⟨q, rfl, i.h0, o, rfl⟩, b.mono (by have := i.hi; lia), by rw [lenPw]; exact iff8 (by decide)⟩
  · obtain ⟨p, p'⟩ := f_pow (q := q) A.l3.1
    have e := rat_eq (q := q) (m := s) (n := 1) (by decide)
    rw [Int.mul_one] at e
    rw [p, p', e]
    show [1, q * (s : Rat)] = [1, q * (s : Rat) / 1]
    rw [div1]
end
end
end Mine
end
section
set_option linter.unusedVariables false
open PySem
namespace Mine
noncomputable section
section
variable {z c g s : Int} {rest : List Int} {x : PyData}
def baseL (m : Int) (a : List Rat) : List Rat := if m < 0 then invL a else a
theorem lenBase (m : Int) (a : List Rat) : (baseL m a).length = a.length := by
  unfold baseL; split
  · exact lenInv a
  · rfl
theorem lg_base {m : Int} {c : Rat} {a b : List Rat} (h : Lg c a b) : Lg c (baseL m a) (baseL m b) := by
  unfold baseL; split
  · exact lg_inv h
  · exact h
theorem ww_base {m : Int} {a b : List Rat} (h : Ww a b) : Ww (baseL m a) (baseL m b) := by
  unfold baseL; split
  · exact ww_inv h
  · exact h
theorem bd_base {m : Int} {a : List Rat} (i : Inp g a) (h0 : g ≠ 0) (h1 : g.natAbs ≤ 10) : BdL 70 (baseL m a) := by
  have := i.hi
  unfold baseL; split
  · exact (inv_ok i.bd i.l3.2.2.1 i.h0 h0 h1 (by lia) (by decide)).2.mono (by lia)
  · exact i.bd.mono (by decide)
theorem f_base {m : Int} {a : List Rat} (h : 2 ≤ a.length) (h0 : cf a 0 = g) (h1 : cf a 1 = s) (hg : g = 1 ∨ g = -1) : cf (baseL m a) 0 = g ∧ cf (baseL m a) 1 = ((if m < 0 then -s else s : Int) : Rat) := by
  unfold baseL; split
  · obtain ⟨p, q⟩ := f_inv h
    rw [p, q, h0, h1, Rat.intCast_neg]
    rcases hg with rfl | rfl
    · show 1 / (1 : Rat) = 1 ∧ (0 - (s : Rat) * (1 / (1 : Rat))) / (1 : Rat) = _
      rw [div1, div1]; exact ⟨rfl, by grind⟩
    · show 1 / (-1 : Rat) = -1 ∧ (0 - (s : Rat) * (1 / (-1 : Rat))) / (-1 : Rat) = _
      rw [show (1 : Rat) / -1 = -1 by decide +kernel]; exact ⟨rfl, by grind⟩
  · exact ⟨h0, h1⟩
theorem deed7 (d : Drawn 7 z c g s rest x) : ∃ r, LawOk 7 z c g s rest x r := by
  have hg := d.g07 (.inr rfl)
  have h0 : g ≠ 0 := by lia
  obtain ⟨m, rfl, hm⟩ := d.x7 rfl
  have hk : m.natAbs = 1 ∨ m.natAbs = 2 ∨ m.natAbs = 3 := by lia
  have A := in_a d
  have W := in_wide d
  refine law_mk d (by decide) (fun a => wpow 5 m.natAbs (cutL [1] a.length) (baseL m a)) (fun a i _ => ?_) ?_ ?_ (fk7 ⟨m, rfl, hg, by lia, ?_⟩)
  · obtain ⟨o, b⟩ := w_bd (k := m.natAbs) (bd_cut1 a.length) (bd_base (m := m) i h0 (by lia)) (by rw [lenOne i.l3.2.1, lenBase]) (by rw [lenBase]; exact i.l3.2.2.1) hk (by decide)
    refine ⟨dk7 ⟨m, baseL m a, rfl, ⟨fun q => ⟨if_pos q, i.l3.2.1, by rw [i.h0]; exact ne0 h0, ?_⟩, fun q => if_neg q, i.l3.2.2.2, by lia, o⟩, rfl⟩, b.mono (by decide), ?_⟩
    · exact (inv_ok i.bd i.l3.2.2.1 i.h0 h0 (by lia) (by have := i.hi; lia) (by decide)).1
    · show (wpow _ _ _ _).length = _
      rw [lenWp _ _ (by rw [lenOne i.l3.2.1, lenBase]), lenBase]; exact iff8 (by decide)
  · show Lg _ (wpow _ _ (cutL [1] _) _) (wpow _ _ (cutL [1] (longL _ c 1).length) _)
    rw [(lg_long _ _).1]
    exact lg_w _ _ (lg_one _) (lg_base (lg_long _ _))
  · exact ww_w _ _ (ww_one A.l3.2.1 W.l3.2.1 (ww_wide _).1) (ww_base (ww_wide _))
  · obtain ⟨p, q⟩ := f_base (m := m) A.l3.1 A.h0 (show cf (rats (g :: s :: rest)) 1 = s from rfl) hg
    obtain ⟨p', q'⟩ := f_w (b := baseL m (rats (g :: s :: rest))) A.l3.1 (by rw [lenBase]; exact A.l3.1) hk
    show [cf (wpow _ _ _ _) 0, cf (wpow _ _ _ _) 1] = _
    rw [p', q', p, q, ← Rat.intCast_pow, ← Rat.intCast_pow]
    unfold nat
    rw [← Rat.intCast_mul, ← Rat.intCast_mul]
    congr 1; congr 1; congr 1
    rcases hm with rfl | rfl | rfl | rfl <;> rcases hg with rfl | rfl <;> simp <;> lia
theorem deed8 (d : Drawn 8 z c g s rest x) : ∃ r, LawOk 8 z c g s rest x r := by
  obtain rfl := d.g0 (by decide) (by decide) (by decide) (by decide)
  obtain ⟨e, rfl, hl, he⟩ := d.x8 rfl
  have hz := d.len
  have hn := d_len d
  have le : (rats e).length = rest.length + 2 := by rw [lenR]; lia
  have be := bd_rats he
  have A := in_a d
  have la : (rats (0 :: s :: rest)).length = rest.length + 2 := lenR _
  refine law_mk d (by decide) (compL (rats e)) (fun a i q => ?_) (lg_compL (lg_long _ _)) (ww_compL (ww_wide _) (by rw [lenWide, le, la]; lia)) (fk8 ?_)
  · obtain ⟨o, b⟩ := comp_bd be i.bd (by lia) i.h0 (by lia)
    exact ⟨dk8 ⟨rats e, rfl, by lia, by lia, o, rfl⟩, b.mono (by lia), by rw [lenCo (by lia), le]; rfl⟩
  · obtain ⟨p, q⟩ := f_comp (e := rats e) (by rw [le, la]; lia) A.h0
    rw [p, q]
    match e, hl, he, le with
    | [], _, _, le => exact absurd le (by show ¬ 0 = _; lia)
    | [_], _, _, le => exact absurd le (by show ¬ 1 = _; lia)
    | e₀ :: e₁ :: es, hl, he, le =>
      rw [lenR] at le
      refine ⟨e₀, e₁, (rats es).map ratD, rfl, by rw [List.length_map, lenR]; simp at le; lia, by have := he e₁ (.tail _ (.head _)); lia, ?_⟩
      show [(e₀ : Rat), (e₁ : Rat) * (s : Rat)] = _
      rw [Rat.intCast_mul]
theorem rev_in {a : List Rat} {k : Int} (bd : BdL 1 a) (hl : a.length = 3 ∨ a.length = 4) (h0 : cf a 0 = 0) (hk : cf a 1 = k) (k0 : k ≠ 0) (k10 : k.natAbs ≤ 10) : RevIn a (revL a) ∧ BdL 300 (revL a) := by
  have hd : cf (a.drop 1) 0 = k := by rw [cf_drop]; exact hk
  have e : ((1 + 9) * (a.length - 1) + 8) * (a.length + 1) + 20 ≤ 300 := by rcases hl with h | h <;> rw [h] <;> decide
  obtain ⟨o, b⟩ := rev_bd bd (by lia) hd k0 k10 e (by lia) (by decide)
  exact ⟨⟨by lia, by lia, h0, by rw [hd]; exact ne0 k0, o, rfl⟩, b.mono e⟩
theorem deed9 (d : Drawn 9 z c g s rest x) : ∃ r, LawOk 9 z c g s rest x r := by
  obtain rfl := d.g0 (by decide) (by decide) (by decide) (by decide)
  have hs := d.s9 rfl
  have hs3 := d.s3
  have hz := d.len
  have hn := d_len d
  obtain ⟨c3, c0⟩ := d_c d
  have A := in_a d
  have la : (rats (0 :: s :: rest)).length = rest.length + 2 := lenR _
  have a1 : cf (rats (0 :: s :: rest)) 1 = s := rfl
  obtain ⟨l1, l2⟩ := lg_long (rats (0 :: s :: rest)) c
  obtain ⟨i, b⟩ := rev_in A.bd (by lia) A.h0 a1 hs (by lia)
  have k0 : c * s ≠ 0 := Int.mul_ne_zero c0 hs
  have k10 : (c * s).natAbs ≤ 10 := by rw [Int.natAbs_mul]; exact Nat.le_trans (Nat.mul_le_mul c3 hs3) (by decide)
  obtain ⟨i1, _⟩ := rev_in (k := c * s) (in_long d).bd (by lia) (in_long d).h0 (by rw [l2, a1, Rat.intCast_mul, show (1 : Nat) = 0 + 1 from rfl, Rat.pow_succ, Rat.pow_zero, Rat.one_mul]) k0 k10
  have ls : (sclL (rats (0 :: s :: rest)) c).length = rest.length + 2 := by unfold sclL; rw [List.length_map, la]
  have bs : BdL 1 (sclL (rats (0 :: s :: rest)) c) := fun i => by
    rw [cf_scl, cf_rats, ← Rat.intCast_mul]
    refine bd_int ?_
    rw [Int.natAbs_mul]; exact Nat.le_trans (Nat.mul_le_mul c3 (row_at (d_row d) i)) (by decide)
  obtain ⟨i2, _⟩ := rev_in (k := c * s) bs (by lia) (by rw [cf_scl, A.h0]; exact Rat.mul_zero _) (by rw [cf_scl, a1, Rat.intCast_mul]) k0 k10
  have lr : (revL (rats (0 :: s :: rest))).length = rest.length + 2 := by rw [lenRev _ (by lia), la]
  obtain ⟨p, q⟩ := f_rev (a := rats (0 :: s :: rest)) (by lia)
  refine ⟨revL (rats (0 :: s :: rest)), by lia, by lia, dk9 ⟨by lia, i.zero, i.one, i.ok, rfl⟩, by lia, by lia, by lia, b.allF (Nat.le_refl _), A.bd.allF (by decide), fk9 ⟨hs, ?_⟩, c3, c0, fun _ => ⟨by lia, by lia, A.bd.allF (by decide), b.allF (Nat.le_refl _), fun q hq => ?_, by lia, c3, c0, ?_, ?_, A.h0⟩, fun h => absurd rfl h, fun h => absurd rfl h⟩
  · rw [take2 (by lia), p, q, a1, Rat.divInt_eq_div]; rfl
  · obtain ⟨n, _, rfl⟩ := List.mem_map.mp hq
    exact Rat.den_intCast n
  · rw [← rev_long c0 (by lia)]; exact i1
  · rw [← rev_scl c0 (by lia)]; exact i2
theorem maths : ∀ f z c g s rest x, Drawn f z c g s rest x → ∃ r, LawOk f z c g s rest x r := fun f z c g s rest x d => by
  have := d.f0
  have : f = 0 ∨ f = 1 ∨ f = 2 ∨ f = 3 ∨ f = 4 ∨ f = 5 ∨ f = 6 ∨ f = 7 ∨ f = 8 ∨ f = 9 := by lia
  rcases this with rfl | rfl | rfl | rfl | rfl | rfl | rfl | rfl | rfl | rfl
  · exact deed0 d
  · exact deed1 d
  · exact deed2 d
  · exact deed3 d
  · exact deed4 d
  · exact deed5 d
  · exact deed6 d
  · exact deed7 d
  · exact deed8 d
  · exact deed9 d
end
end
end Mine
end
section
open PySem PySem.W PyProof.Rows PySem.Calls
set_option maxRecDepth 100000
set_option maxHeartbeats 1000000
set_option linter.unusedVariables false
namespace Mine
noncomputable section
theorem rd_cons {R : WRecords} {cl : Str → Option Addr} {h : Heap} {l : List Value} {d : WData} {ds : List WData} {as : List Addr} (x : ReadsAllW R cl h l (d :: ds) as) : ∃ v vs a b, l = v :: vs ∧ ReadsW R cl h v d a ∧ ReadsAllW R cl h vs ds b := by
  cases x with
  | cons h1 h2 => exact ⟨_, _, _, _, rfl, h1, h2⟩
theorem rd_nil {R : WRecords} {cl : Str → Option Addr} {h : Heap} {l : List Value} {as : List Addr} (x : ReadsAllW R cl h l [] as) : l = [] := by
  cases x; rfl
theorem isI {R : WRecords} {cl : Str → Option Addr} {h : Heap} {v : Value} {a : Int} {as : List Addr} (x : ReadsW R cl h v (.int a) as) : Is h.get? v (.int a) := by
  obtain ⟨t, rfl, _⟩ := readsW_int_inv x
  exact .int _ _
theorem rd_cat {R : WRecords} {cl : Str → Option Addr} {h : Heap} {l : List Value} {d : WData} {p : PyData} {ds : List WData} {ps : List PyData} {as : List Addr} (x : ReadsAllW R cl h l (d :: ds) as) (f : ∀ v a, ReadsW R cl h v d a → Is h.get? v p) (g : ∀ l b, ReadsAllW R cl h l ds b → IsAll h.get? l ps) : IsAll h.get? l (p :: ps) := by
  obtain ⟨v, vs, a, b, rfl, h1, h2⟩ := rd_cons x
  exact .cons (f v a h1) (g vs b h2)
theorem rd_end {R : WRecords} {cl : Str → Option Addr} {h : Heap} {l : List Value} {as : List Addr} (x : ReadsAllW R cl h l [] as) : IsAll h.get? l [] := by
  rw [rd_nil x]; exact .nil
theorem isTup {R : WRecords} {cl : Str → Option Addr} {h : Heap} {v : Value} {ds : List WData} {ps : List PyData} {as : List Addr} (x : ReadsW R cl h v (.tuple ds) as) (g : ∀ l b, ReadsAllW R cl h l ds b → IsAll h.get? l ps) : Is h.get? v (.tuple ps) := by
  cases x with
  | tuple h1 h2 h3 h4 => exact .tup h1 h2 h3 (g _ _ h4)
theorem isT {R : WRecords} {cl : Str → Option Addr} {h : Heap} {v : Value} {a b : Int} {as : List Addr} (x : ReadsW R cl h v (.tuple [.int a, .int b]) as) : Is h.get? v (.tuple [.int a, .int b]) :=
  isTup x fun _ _ y => rd_cat y (fun _ _ => isI) fun _ _ y => rd_cat y (fun _ _ => isI) fun _ _ => rd_end
theorem isT4 {R : WRecords} {cl : Str → Option Addr} {h : Heap} {v : Value} {a b c d e f g i : Int} {as : List Addr} (x : ReadsW R cl h v (.tuple [.tuple [.int a, .int b], .tuple [.int c, .int d], .tuple [.int e, .int f], .tuple [.int g, .int i]]) as) : Is h.get? v (.tuple [.tuple [.int a, .int b], .tuple [.int c, .int d], .tuple [.int e, .int f], .tuple [.int g, .int i]]) :=
  isTup x fun _ _ y => rd_cat y (fun _ _ => isT) fun _ _ y => rd_cat y (fun _ _ => isT) fun _ _ y => rd_cat y (fun _ _ => isT) fun _ _ y => rd_cat y (fun _ _ => isT) fun _ _ => rd_end
theorem looseW_eq : looseW myView [] = kLoose := by decide +kernel
theorem wlits_eq : wlitsOf myView = [(Str.ofString "R0", .tuple [.int 0, .int 1]), (Str.ofString "R1", .tuple [.int 1, .int 1]), (Str.ofString "_law_ratios", .tuple [.tuple [.int 1, .int 2], .tuple [.int (-1), .int 3], .tuple [.int 3, .int 2], .tuple [.int (-2), .int 1]])] := by rfl
theorem most_eq : valOf myView (Str.ofString "MOST_BITS") = some (.int 200000) := by rfl
theorem wd_of {R : WRecords} {XP : (Str → Option Value) → Heap → Prop} {w : World} {s₀ : Shared} {mg mb : Str → Option Value} {h : Heap} (G : Ground myView [] R XP w s₀ mg mb h) (Y : Cas h) : Wd mg w h where
  T := ⟨mb, looseW_eq ▸ topRead_of G.T⟩
  fn := G.T.fn
  kon := fun p hp => by
    have lit : ∀ c ∈ wlitsOf myView, ∃ v, mg c.1 = some v ∧ ReadsLit h v c.2 [] := G.W.lits
    rw [wlits_eq] at lit
    simp only [konsts, List.mem_cons, List.not_mem_nil, or_false] at hp
    rcases hp with rfl | rfl | rfl | rfl
    · obtain ⟨v, a, b⟩ := lit _ (.head _); exact ⟨v, a, isT b⟩
    · obtain ⟨v, a, b⟩ := lit _ (.tail _ (.head _)); exact ⟨v, a, isT b⟩
    · obtain ⟨v, a, b⟩ := G.T.const _ _ most_eq
      refine ⟨v, a, ?_⟩
      cases b h; exact .int _ _
    · obtain ⟨v, a, b⟩ := lit _ (.tail _ (.tail _ (.head _))); exact ⟨v, a, isT4 b⟩
  cas := Y
theorem ints_wd {R : WRecords} : ∀ {xs : List WData}, WShape.hasItems R xs .int = true → ∃ ns : List Int, xs = ns.map WData.int
  | [], _ => ⟨[], rfl⟩
  | x :: xs, h => by
    have h := (Bool.and_eq_true _ _).mp (show (WShape.has R x .int && WShape.hasItems R xs .int) = true from h)
    obtain ⟨i, rfl⟩ := hasW_int h.1
    obtain ⟨ns, rfl⟩ := ints_wd h.2
    exact ⟨i :: ns, rfl⟩
theorem is_ints {P : Params} {h : Heap} : ∀ {ns : List Int} {vs : List Value}, WellAll P h vs (ns.map .int) → IsAll h.get? vs (ns.map .int)
  | [], _, x => by cases x; exact .nil
  | n :: ns, _, x => by
    cases x with
    | cons a b => cases a; exact .cons (.int _ _) (is_ints b)
end
end Mine
end
section
open PySem PySem.W PyProof.Rows PySem.Calls
set_option maxRecDepth 100000
set_option maxHeartbeats 1000000
set_option linter.unusedVariables false
namespace Mine
noncomputable section
def Sx' (s s' : Shared) : Prop := ∃ h' tk, s' = { s with heap := h', toks := tk }
theorem most_of {ns : List Int} (hb : PySem.Challenge.rw_tk0038_01.row.toRowW.pre.holds PySem.Challenge.rw_tk0038_01.row.toRowW.records { args := [.list (ns.map .int)] } = true) : ns.length ≤ 63 := by
  by_cases h : ns.length ≤ 63
  · exact h
  · have e : WTm.value PySem.Challenge.rw_tk0038_01.row.toRowW.records PySem.Challenge.rw_tk0038_01.row.toRowW.pre { args := [.list (ns.map .int)] } = some (.bool false) := by
      have q : WTm.value PySem.Challenge.rw_tk0038_01.row.toRowW.records (.lt (.lit (.int 63)) (.len (.arg 0))) { args := [.list (ns.map .int)] } = some (.bool true) := by
        show (less? (.int 63) (.int ((ns.map WData.int).length : Nat))).map WData.bool = _
        rw [List.length_map]
        show some (WData.bool (decide ((63 : Int) < (ns.length : Nat)))) = _
        rw [decide_eq_true (by omega)]
      show (match (match WTm.value PySem.Challenge.rw_tk0038_01.row.toRowW.records (.lt (.lit (.int 63)) (.len (.arg 0))) { args := [.list (ns.map .int)] } with
        | some (.bool b) => some (WData.bool (!b))
        | _ => none) with
        | some (.bool false) => some (WData.bool false)
        | some (.bool true) => _
        | _ => none) = _
      rw [q]; rfl
    unfold WTm.holds at hb
    rw [e] at hb; cases hb
theorem post_of {args ds : List WData} : PySem.Challenge.rw_tk0038_01.row.claim.post args (.bool true) ds = true := by
  have a : WShape.has PySem.Challenge.rw_tk0038_01.row.toRowW.records (.bool true) .bool = true := by rfl
  have b : WTm.holds PySem.Challenge.rw_tk0038_01.row.toRowW.records (.eq .res (.lit (.bool true))) { args := args, res := some (.bool true), after := ds } = true := by
    have c : same (.bool true) (.bool true) = true := by decide +kernel
    show (match some (WData.bool (same (.bool true) (.bool true))) with
      | some (.bool true) => true
      | _ => false) = true
    rw [c]
  exact (Bool.and_eq_true _ _).mpr ⟨a, b⟩
theorem lawWalk (tells : ∀ {mg : MG} {w : World} {A : Around} {s : Shared} {v : Value} {f : Addr} {ns : List Int}, A = callerA → Wd mg w s.heap → mg (Str.ofString "law") = some (.ref f) → Is s.heap.get? v (.list (ns.map .int)) → ns.length ≤ 63 →
    wpAny (model pw w) A (call (.ref f) [v]) (fun v s' => v = .bool true ∧ Sx' s s' ∧ s.heap.StaysIn s'.heap) (fun _ _ => False) s) : ∀ d kwd, defOf myView (Str.ofString "law") = some (d, kwd) → WalkO myView [] (XL myView []) (fun _ h => Cas h) PySem.Challenge.rw_tk0038_01.row.toRowW d kwd (fun f vs => call f vs) := by
  intro d kwd hdef w s₀ s₁ mg mb G Y a o pm cd doc dV kV h1 h2 h3 h4 h5 hg args vals as hpre hlay hrd hwell hlow
  have hn := defOf_name hdef
  obtain ⟨ha, hb⟩ := pre_splitW hpre
  obtain ⟨x, r, rfl, hx, hr⟩ := hasAllW_cons ha
  obtain rfl := hasAllW_nil hr
  obtain ⟨xs, rfl, hi⟩ := hasW_list hx
  obtain ⟨ns, rfl⟩ := ints_wd hi
  have hlen := most_of hb
  cases hwell with
  | cons q1 q2 =>
    cases q2
    rename_i v
    have i : Is s₁.heap.get? v (.list (ns.map .int)) := by
      cases q1 with
      | list e hw => exact .lst e (is_ints hw)
    refine wpAny_mono (tells (A := callerA) rfl (wd_of G Y) (hn ▸ h5) i hlen) (fun v s' ⟨hv, ⟨h', tk, e⟩, keep⟩ => ?_) fun _ _ h => h.elim
    subst hv; subst e
    exact GoodW.toG ⟨.inl ⟨.bool true, .bool true, [], rfl, fun _ => rfl, .bool _, post_of, fun _ => ⟨.nil, fun _ h => nomatch h⟩⟩, keep, rfl, hg⟩
end
end Mine
end
section
open PySem PySem.W PyProof.Rows PySem.Calls
set_option maxRecDepth 100000
namespace Mine
theorem callerRo : Ro callerA 13 := ⟨rfl, by decide, by decide⟩
theorem lawWalk2 (maths : ∀ f z c g s rest x, Drawn f z c g s rest x → ∃ r, LawOk f z c g s rest x r) : ∀ d kwd, defOf myView (Str.ofString "law") = some (d, kwd) → WalkO myView [] (XL myView []) (fun _ h => Cas h) PySem.Challenge.rw_tk0038_01.row.toRowW d kwd (fun f vs => call f vs) :=
  lawWalk fun {mg w A s v f ns} hA W hm i hn => by
    subst hA
    exact law_tells maths callerRo rfl W hm i hn
end Mine
end
section
open PySem PySem.W PyProof.Rows PySem.Calls
set_option maxRecDepth 100000
set_option maxHeartbeats 0
set_option linter.unusedVariables false
namespace Mine
theorem left_of {p q : Program} {loose : List Str} {Xt : Shared → Bool} {α : Type} {Yf : Shared → α} {Ya : World → α} {N : Nat}
    (e : opening p = plainProg p.main.scope.names) (hN : Nat.ble 600 N = true) (f : ∀ s, fenceModules? p s = some s)
    (h : (fun (w : World) (os : OsState) => (topFrom treeTable p w N ⟨boot_heap w.params, Array.mk [], boot_drawn, boot_toks, os⟩).map (fun s => (openSeen q loose (importedModules p.main.body) Xt true s, Yf s))) = fun w _ => some (openGood q loose, Ya w)) : LeftO p q loose Xt Yf Ya N := fun w => by
  obtain ⟨⟨hp, gs, d, k, os⟩, e, e'⟩ := Option.map_eq_some_iff.mp (boot_open e hN f w)
  obtain ⟨rfl, rfl, rfl, rfl⟩ : hp = boot_heap w.params ∧ gs = Array.mk [] ∧ d = boot_drawn ∧ k = boot_toks := by simpa using e'
  unfold openEnds
  rw [e]
  exact congrFun (congrFun h w) os
theorem law_of (h : PySem.Challenge.rw_tk0038_01.row.Holds) : PySem.Challenge.rw_tk0038_01.Holds := by
  w_on; o_law
  exact h
def topOk {α : Type} (tb : String → Option Builtin) (sees : (q : Program) → (loose : List Str) → List Str → (Shared → Bool) → (g0 : Bool) → Shared → α) (good : Program → List Str → α) (mods : List Stmt → List Str) (p : Program) : Prop :=
  (fun (w : World) (os : OsState) => (topFrom tb p w 2938 ⟨boot_heap w.params, Array.mk [], boot_drawn, boot_toks, os⟩).map (fun s => (sees (viewOf p) [] (mods p.main.body) (xlAt (viewOf p) []) true s, casObs s))) = fun w _ => some (good (viewOf p) [], casVal)
theorem topT : topOk PySem.W.Fast.tw14364793385576792824 PySem.W.Fast.tw4187177175401517315 openGood PySem.W.Fast.tw5923862056798008813 PySem.W.Fast.tw5761482589558839999 := by
  unfold topOk
  kernel_rfl!
theorem topQ : topOk treeTable openSeen openGood importedModules pw := by
  rw [PySem.W.Fast.te14364793385576792824, PySem.W.Fast.te4187177175401517315, PySem.W.Fast.te5923862056798008813, show pw = _ from PySem.W.Fast.te5761482589558839999]
  exact topT
theorem hd : PySem.Challenge.rw_tk0038_01.Holds := law_of (by
  refine holds_open (q := myView) (loose := []) (Xt := xlAt myView []) (XP := XL myView []) (Yf := casObs) (Ya := fun _ => casVal) (YP := fun _ h => Cas h) (N := 2938) ?hl (fun _ _ e => cas_of e) (fun _ _ _ x k => x.keeps k) (fun s e => xl_of s e) XL.keeps (by rfl) (by rfl) (by rfl) (fun s e => recFacts_nil (by rfl)) (by rfl) (by decide +kernel) (by decide +kernel) ⟨rfl, rfl, rfl, rfl, rfl, by decide +kernel⟩ ?hw ?hc
  case hw => w_witness2
  case hl => exact left_of (by rfl) (by decide) (fun s => by rfl) topQ
  case hc => exact lawWalk2 maths _ _ rfl)
end Mine
end
theorem PySem.Challenge.cw_tk0038_01_holds : PySem.Challenge.rw_tk0038_01.Holds :=
  Mine.hd
