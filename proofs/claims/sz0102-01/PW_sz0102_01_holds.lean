import PyProof.Rows.All
import Wide.All
import OpenK.AllK
import Wide.FinOn
import PySem.Challenge.RW_sz0102_01
set_option Elab.async false
set_option linter.unusedVariables false
set_option autoImplicit true
set_option relaxedAutoImplicit true
set_option maxRecDepth 100000
set_option maxHeartbeats 400000
namespace Mine
open PySem PySem.W PyProof.Rows PySem.Calls
noncomputable section


abbrev Path := List Int
abbrev Stt := List (Int × Path)
abbrev Prob := List (Int × List Path)

def look {α : Type} (k : Int) : List (Int × α) → Option α
  | [] => none
  | (a, x) :: r => if a = k then some x else look k r

def put {α : Type} (k : Int) (v : α) : List (Int × α) → List (Int × α)
  | [] => [(k, v)]
  | (a, x) :: r => if a = k then (a, v) :: r else (a, x) :: put k v r

def peq : Path → Path → Bool
  | [], [] => true
  | a :: r, b :: t => if a = b then peq r t else false
  | _, _ => false

def mapO {α β : Type} (f : α → Option β) : List α → Option (List β)
  | [] => some []
  | a :: r => match f a with | none => none | some b => match mapO f r with | none => none | some bs => some (b :: bs)

def filtO {α : Type} (f : α → Option Bool) : List α → Option (List α)
  | [] => some []
  | a :: r => match f a with | none => none | some b => match filtO f r with | none => none | some bs => some (if b then a :: bs else bs)

def pathOf (st : Stt) (n : Int) : Path := if n = 0 then [0] else match look n st with | some p => p | none => []

def isOffered (st : Stt) : Path → Option Bool
  | _ :: b :: r => some (peq (pathOf st b) (b :: r))
  | _ => none

def bestOf (st : Stt) : List Path → Option Path
  | [] => some []
  | p :: r => match isOffered st p with | none => none | some true => some p | some false => bestOf st r

def bestPath (pb : Prob) (st : Stt) (n : Int) : Option Path := match look n pb with | none => none | some ps => bestOf st ps

-- sorted keys (insertion sort)
def ins (a : Int) : List Int → List Int
  | [] => [a]
  | b :: r => if a ≤ b then a :: b :: r else b :: ins a r
def sortI : List Int → List Int
  | [] => []
  | a :: r => ins a (sortI r)
def keys {α : Type} : List (Int × α) → List Int
  | [] => []
  | (a, _) :: r => a :: keys r

def unquiet (pb : Prob) (st : Stt) : Option (List Int) :=
  filtO (fun n => match bestPath pb st n with | none => none | some p => some (!peq p (pathOf st n))) (sortI (keys pb))

def activated (pb : Prob) (st : Stt) (n : Int) : Option Stt := match bestPath pb st n with | none => none | some p => some (put n p st)

def allActivated (pb : Prob) (st : Stt) : Option Stt :=
  mapO (fun n => match bestPath pb st n with | none => none | some p => some (n, p)) (sortI (keys pb))

def noPaths (pb : Prob) : Stt := (sortI (keys pb)).map fun n => (n, [])

def subSt (a : Stt) (b : Stt) : Bool := match a with
  | [] => true
  | (k, p) :: r => match look k b with | none => false | some q => if peq p q then subSt r b else false
def steq (a b : Stt) : Bool := if a.length = b.length then subSt a b else false

def runRow (pb : Prob) : Stt → List Int → Int → Option (Stt × Int)
  | st, [], c => some (st, c)
  | st, n :: r, c => match activated pb st n with | none => none | some l => runRow pb l r (if steq l st then c else c + 1)

def idxOf (p : Path) : List Path → Option Nat
  | [] => none
  | q :: r => if peq q p then some 0 else match idxOf p r with | none => none | some i => some (i + 1)

def placeOf (pb : Prob) (p : Path) : Option Nat := match p with
  | [] => none
  | a :: _ => match look a pb with | none => none | some ps => idxOf p ps

def allPermitted (pb : Prob) : Option (List Path) := match mapO (fun n => look n pb) (sortI (keys pb)) with | none => none | some l => some l.flatten

-- ends p = the proper ends p[at:] for at in 1 .. len - 2
abbrev Num := List (Path × Int)
def lookP (k : Path) : Num → Option Int
  | [] => none
  | (a, x) :: r => if peq a k then some x else lookP k r
def putP (k : Path) (v : Int) : Num → Num
  | [] => [(k, v)]
  | (a, x) :: r => if peq a k then (a, v) :: r else (a, x) :: putP k v r

def maxI : List Int → Int
  | [] => 0
  | a :: r => r.foldl (fun m x => if x > m then x else m) a

abbrev Bes := List (Int × List Int)

abbrev Kp (h h' : Heap) : Prop := ∀ b o, h.get? b = some o → h'.get? b = some o
theorem Kp.refl (h : Heap) : Kp h h := fun _ _ e => e
theorem Kp.trans {a b c : Heap} (x : Kp a b) (y : Kp b c) : Kp a c := fun d o e => y d o (x d o e)

abbrev hid (H : List Addr) (h : Heap) : Heap := hideAll h H
theorem hid_not {H : List Addr} {h : Heap} {b : Addr} {o : Obj} (e : (hid H h).get? b = some o) : b ∉ H := fun m => by
  rw [hideAll_none H m] at e; cases e
theorem hid_of {H : List Addr} {h h' : Heap} {H' : List Addr} (k : ∀ b o, b ∉ H → h.get? b = some o → h'.get? b = some o ∧ b ∉ H') : Kp (hid H h) (hid H' h') := fun b o e =>
  have q := k b o (hid_not e) (of_hideAll H e)
  hideAll_get H' q.1 q.2
theorem hid_kp {H : List Addr} {h h' : Heap} (k : Kp h h') : Kp (hid H h) (hid H h') := hid_of fun b o n e => ⟨k b o e, n⟩
theorem hid_le {H : List Addr} {h : Heap} : Kp (hid H h) h := fun _ _ e => of_hideAll H e
theorem hid_sub {H H' : List Addr} {h : Heap} (hs : ∀ a ∈ H', a ∈ H) : Kp (hid H h) (hid H' h) := hid_of fun b o n e => ⟨e, fun m => n (hs b m)⟩
theorem hid_but {H : List Addr} {h h' : Heap} {a : Addr} (s : Heap.ExtBut a h h') (m : a ∈ H) : Kp (hid H h) (hid H h') := hid_of fun b o n e => ⟨s b o (fun q => n (q ▸ m)) e, n⟩
theorem hid_new {H H' : List Addr} {h h' : Heap} (k : Kp h h') (n : ∀ a ∈ H', h.get? a = none) : Kp (hid H h) (hid (H' ++ H) h') := hid_of fun b o nb e =>
  ⟨k b o e, fun m => (List.mem_append.mp m).elim (fun m => by rw [n b m] at e; cases e) nb⟩

/-- what a value stands for -/
structure VP where
  P : Heap → Value → Prop
  mono : ∀ {g g' : Heap} {v : Value}, Kp g g' → P g v → P g' v

inductive Els (g : Heap) : List VP → List Value → Prop
  | nil : Els g [] []
  | cons {T : VP} {v : Value} {Ts : List VP} {vs : List Value} : T.P g v → Els g Ts vs → Els g (T :: Ts) (v :: vs)
theorem Els.mono {g g' : Heap} {Ts : List VP} {vs : List Value} (k : Kp g g') (h : Els g Ts vs) : Els g' Ts vs := by
  induction h with
  | nil => exact .nil
  | cons a _ ih => exact .cons (VP.mono _ k a) ih
theorem Els.length {g : Heap} {Ts : List VP} {vs : List Value} (h : Els g Ts vs) : Ts.length = vs.length := by
  induction h with
  | nil => rfl
  | cons _ _ ih => simp [ih]
theorem Els.append {g : Heap} {Ts Us : List VP} {vs us : List Value} (h : Els g Ts vs) (k : Els g Us us) : Els g (Ts ++ Us) (vs ++ us) := by
  induction h with
  | nil => exact k
  | cons a _ ih => exact .cons a ih
theorem Els.get {g : Heap} {Ts : List VP} {vs : List Value} (h : Els g Ts vs) : ∀ {i : Nat} {T : VP}, Ts[i]? = some T → ∃ v, vs[i]? = some v ∧ T.P g v := by
  induction h with
  | nil => intro i T e; simp at e
  | cons a _ ih =>
    intro i T e
    cases i with
    | zero => simp at e; subst e; exact ⟨_, rfl, a⟩
    | succ i => simp at e; exact ih e
theorem Els.drop {g : Heap} {Ts : List VP} {vs : List Value} (h : Els g Ts vs) : ∀ n, Els g (Ts.drop n) (vs.drop n) := by
  induction h with
  | nil => intro n; simp; exact .nil
  | cons a t ih =>
    intro n
    cases n with
    | zero => exact .cons a t
    | succ n => exact ih n
theorem Els.take {g : Heap} {Ts : List VP} {vs : List Value} (h : Els g Ts vs) : ∀ n, Els g (Ts.take n) (vs.take n) := by
  induction h with
  | nil => intro n; simp; exact .nil
  | cons a t ih =>
    intro n
    cases n with
    | zero => exact .nil
    | succ n => exact .cons a (ih n)
theorem Els.reverse {g : Heap} {Ts : List VP} {vs : List Value} (h : Els g Ts vs) : Els g Ts.reverse vs.reverse := by
  induction h with
  | nil => exact .nil
  | cons a _ ih => rw [List.reverse_cons, List.reverse_cons]; exact ih.append (.cons a .nil)

namespace VP
def ex (x : Value) : VP := ⟨fun _ v => v = x, fun _ h => h⟩
def int (i : Int) : VP := ⟨fun _ v => ∃ t, v = .int i t, fun _ h => h⟩
def bool (b : Bool) : VP := ex (.bool b)
def none : VP := ex .none
def tup (Ts : List VP) : VP := ⟨fun g v => ∃ a vs n, v = .ref a ∧ IsT g a vs n ∧ Els g Ts vs.toList, fun k h => by
  obtain ⟨a, vs, n, e, t, x⟩ := h; exact ⟨a, vs, n, e, k _ _ t, x.mono k⟩⟩
def list (Ts : List VP) : VP := ⟨fun g v => ∃ a vs n, v = .ref a ∧ IsL g a vs n ∧ Els g Ts vs.toList, fun k h => by
  obtain ⟨a, vs, n, e, t, x⟩ := h; exact ⟨a, vs, n, e, k _ _ t, x.mono k⟩⟩
end VP

/-- the ground: program, world, globals, what stands around, the frame's names, the hidden places, what is kept -/
structure Cx where
  prog : Program
  w : World
  mg : Str → Option Value
  mb : Str → Option Value
  A : Around
  env : Env
  H : List Addr
  g : Heap

abbrev Cx.M (C : Cx) : Model := model C.prog C.w
abbrev Cx.v (C : Cx) (s : Shared) : Heap := hid C.H s.heap

theorem keepsRefl (s : Shared) : Keeps s s := ⟨s.heap, s.toks, rfl, Kp.refl _⟩
theorem keepsTrans {a b c : Shared} (x : Keeps a b) (y : Keeps b c) : Keeps a c := by
  obtain ⟨h, t, rfl, k⟩ := x; obtain ⟨h', t', rfl, k'⟩ := y; exact ⟨h', t', rfl, Kp.trans k k'⟩
theorem keepsKp {a b : Shared} (x : Keeps a b) : Kp a.heap b.heap := by obtain ⟨h, t, rfl, k⟩ := x; exact k
theorem keepsV {C : Cx} {a b : Shared} (x : Keeps a b) : Kp (C.v a) (C.v b) := hid_kp (keepsKp x)
theorem keepsToks (s : Shared) (t : Nat) : Keeps s { s with toks := t } := ⟨s.heap, t, rfl, Kp.refl _⟩
theorem keepsPush (s : Shared) (o : Obj) : Keeps s { s with heap := s.heap.push o } := ⟨_, s.toks, rfl, fun _ _ e => Heap.get?_push_of_some _ e⟩

/-- a tree of values comes to T, whatever has been made since s -/
def Go {α : Type} (C : Cx) (s : Shared) (t : Sem α) (P : Heap → α → Prop) : Prop :=
  ∀ s' E, Keeps s s' → wpAny C.M C.A t (fun v s'' => Keeps s' s'' ∧ P (C.v s'') v) E s'
abbrev Ev (C : Cx) (s : Shared) (e : Expr) (T : VP) : Prop := Go C s (eval e C.env) T.P
abbrev Tst (C : Cx) (s : Shared) (e : Expr) (b : Bool) : Prop := Go C s (isTrue e C.env (eval e C.env)) fun _ x => x = b

theorem Go.later {α : Type} {C : Cx} {s s' : Shared} {t : Sem α} {P : Heap → α → Prop} (h : Go C s t P) (k : Keeps s s') : Go C s' t P := fun s'' E k' => h s'' E (keepsTrans k k')

/-- use it -/
theorem Go.use {α : Type} {C : Cx} {s s' : Shared} {t : Sem α} {P : Heap → α → Prop} {Q : α → Shared → Prop} {E : Value → Shared → Prop} (h : Go C s t P) (k : Keeps s s')
    (q : ∀ v s'', Keeps s' s'' → P (C.v s'') v → Q v s'') : wpAny C.M C.A t Q E s' := wpAny_mono (h s' E k) (fun v s'' x => q v s'' x.1 x.2) fun _ _ e => e

/-- a list of arguments -/
inductive EvL (C : Cx) (s : Shared) : List Expr → List VP → Prop
  | nil : EvL C s [] []
  | cons {e : Expr} {T : VP} {es : List Expr} {Ts : List VP} (h : Ev C s e T) (r : EvL C s es Ts) (he : starEach (e :: es) C.env = (false, eval e C.env) :: starEach es C.env := by rfl) : EvL C s (e :: es) (T :: Ts)

theorem EvL.go {C : Cx} {s : Shared} {es : List Expr} {Ts : List VP} {pos : Pos} (h : EvL C s es Ts) : Go C s (spliced (backTo pos (starEach es C.env))) (fun g vs => Els g Ts vs) := by
  induction h with
  | nil => exact fun s' E k => wpAny_items_nil ⟨keepsRefl _, .nil⟩
  | cons h r he ih =>
    intro s' E k
    refine wpAny_items_cons (h.use k fun v s₁ k₁ hv => ?_) he
    exact ih.use (keepsTrans k k₁) fun vs s₂ k₂ hvs => ⟨keepsTrans k₁ k₂, .cons (VP.mono _ (keepsV k₂) hv) hvs⟩

theorem Ev_int {C : Cx} {s : Shared} {i k pos} : Ev C s (.Constant (.int i) k pos) (.int i) := fun _ _ _ => wpAny_Constant_int ⟨keepsToks _ _, _, rfl⟩
theorem Ev_bool {C : Cx} {s : Shared} {b k pos} : Ev C s (.Constant (.bool b) k pos) (.bool b) := fun _ _ _ => wpAny_Constant_bool ⟨keepsRefl _, rfl⟩
theorem Ev_none {C : Cx} {s : Shared} {k pos} : Ev C s (.Constant .none k pos) .none := fun _ _ _ => wpAny_Constant_none ⟨keepsRefl _, rfl⟩


/-- the text's defs, by their place in it -/
def defAt (i : Nat) : DefRec := match PySem.Challenge.pw_sz0102_01.main.body[i]? with
  | some (.FunctionDef name args body _ _ _ scope _ _ pos) => ⟨name, args, body, scope, pos⟩
  | _ => ⟨⟨#[]⟩, ⟨[], [], none, [], [], none, []⟩, [], ⟨.function, [], false, false, []⟩, ⟨0, 0, 0, 0⟩⟩
def defs : List DefRec := [2, 3, 4, 5, 6, 7, 8, 9, 10, 12, 13, 14, 15, 16, 17, 19, 20, 21, 22].map defAt
def boots : List (Str × Value) := [("sorted", .builtin "sorted"), ("dict", .type "dict"), ("list", .type "list"), ("tuple", .type "tuple"), ("range", .type "range"), ("len", .builtin "len"), ("max", .builtin "max"), ("abs", .builtin "abs"), ("int", .type "int")]

/-- the world that the top has left -/
structure Wld (mg mb : Str → Option Value) (h : Heap) : Prop where
  g : h.Ns mainGlobals mg
  b : h.Ns builtinsNs mb
  lim : h.NoLimit
  fn : ∀ d ∈ defs, ∃ a o pm code doc, mg d.name = some (.ref a) ∧ h.get? a = some o ∧ o.data = .func (docDef d.name d.params d.body d.scope pm code doc) ∧ h.CodeRec code d.name
  origin : ∃ t, mg "ORIGIN" = some (.int 0 t)
  boot : ∀ p ∈ boots, mg p.1 = none ∧ mb p.1 = some p.2
theorem Wld.keeps {mg mb : Str → Option Value} {h h' : Heap} (W : Wld mg mb h) (k : Kp h h') : Wld mg mb h' where
  g := W.g.keeps k
  b := W.b.keeps k
  lim := W.lim.keeps k
  fn := fun d hd => let ⟨a, o, pm, code, doc, h1, h2, h3, h4⟩ := W.fn d hd; ⟨a, o, pm, code, doc, h1, k _ _ h2, h3, h4.keeps k⟩
  origin := W.origin
  boot := W.boot

structure Ok (C : Cx) (s : Shared) : Prop where
  low : ∀ a ∈ C.H, ∃ o, s.heap.get? a = some o
  hd : C.A.handled = none
  units : C.A.units ≤ 9000
  kind : C.env.scope.kind = .function
  gl : C.env.globals = mainGlobals
  bl : C.env.builtins = builtinsNs
  wld : Wld C.mg C.mb s.heap
theorem Ok.later {C : Cx} {s s' : Shared} (O : Ok C s) (k : Keeps s s') : Ok C s' :=
  { O with low := fun a m => let ⟨o, e⟩ := O.low a m; ⟨o, keepsKp k _ _ e⟩, wld := O.wld.keeps (keepsKp k) }
theorem Ok.push {C : Cx} {s : Shared} {o : Obj} (O : Ok C s) (hf : o.isFreed = false := by rfl) : (hid C.H (s.heap.push o)).get? s.heap.objs.size = some o :=
  hideAll_get C.H (Heap.get?_push_size _ hf) fun m => let ⟨_, e⟩ := O.low _ m; Nat.lt_irrefl _ (Heap.lt_size e)

theorem Ev_tuple {C : Cx} {s : Shared} {es : List Expr} {Ts : List VP} {k pos} (O : Ok C s) (h : EvL C s es Ts) (hn : Ts.length ≤ 100 := by simp) : Ev C s (.Tuple es k pos) (.tup Ts) := fun s' E ks => by
  refine wpAny_Tuple (h.go.use ks fun vs s₁ k₁ hv => ⟨?_, keepsTrans k₁ (keepsPush _ _), s₁.heap.objs.size, vs.toArray, 0, rfl, ?_, ?_⟩)
  · have := hv.length; rw [sizeLine_eq]; omega
  · exact ((O.later ks).later k₁).push
  · exact hv.mono (hid_kp fun _ _ e => Heap.get?_push_of_some _ e)
theorem Ev_list {C : Cx} {s : Shared} {es : List Expr} {Ts : List VP} {pos} (O : Ok C s) (h : EvL C s es Ts) (hn : Ts.length ≤ 100 := by simp) : Ev C s (.List es pos) (.list Ts) := fun s' E ks => by
  refine wpAny_List (h.go.use ks fun vs s₁ k₁ hv => ⟨?_, keepsTrans k₁ (keepsPush _ _), s₁.heap.objs.size, vs.toArray, 0, rfl, ?_, ?_⟩)
  · have := hv.length; rw [sizeLine_eq]; omega
  · exact ((O.later ks).later k₁).push
  · exact hv.mono (hid_kp fun _ _ e => Heap.get?_push_of_some _ e)

/-- an operation on two values -/
def Op2 {α : Type} (C : Cx) (s : Shared) (f : Value → Value → Sem α) (T U : VP) (P : Heap → α → Prop) : Prop :=
  ∀ s' E a b, Keeps s s' → T.P (C.v s') a → U.P (C.v s') b → wpAny C.M C.A (f a b) (fun v s'' => Keeps s' s'' ∧ P (C.v s'') v) E s'
theorem Op2.use {α : Type} {C : Cx} {s s' : Shared} {f : Value → Value → Sem α} {T U : VP} {P : Heap → α → Prop} {a b : Value} {Q : α → Shared → Prop} {E : Value → Shared → Prop} (h : Op2 C s f T U P) (k : Keeps s s')
    (ha : T.P (C.v s') a) (hb : U.P (C.v s') b) (q : ∀ v s'', Keeps s' s'' → P (C.v s'') v → Q v s'') : wpAny C.M C.A (f a b) Q E s' := wpAny_mono (h s' E a b k ha hb) (fun v s'' x => q v s'' x.1 x.2) fun _ _ e => e
theorem Ev_cmp {C : Cx} {s : Shared} {l r : Expr} {op : CmpOp} {T U V : VP} {pos} (hl : Ev C s l T) (hr : Ev C s r U) (ho : Op2 C s (compareOp op) T U V.P) (hm : behindInMarks op r = false := by with_unfolding_all rfl) :
    Ev C s (.Compare l [op] [r] pos) V := fun s' E k =>
  wpAny_Compare1 (hl.use k fun a s₁ k₁ ha => hr.use (keepsTrans k k₁) fun b s₂ k₂ hb => ho.use (keepsTrans k (keepsTrans k₁ k₂)) (VP.mono _ (keepsV k₂) ha) hb fun v s₃ k₃ hv =>
    ⟨keepsTrans k₁ (keepsTrans k₂ k₃), hv⟩) hm
theorem Ev_bin {C : Cx} {s : Shared} {l r : Expr} {op : Operator} {T U V : VP} {pos} (hl : Ev C s l T) (hr : Ev C s r U) (ho : Op2 C s (binaryOp op) T U V.P) :
    Ev C s (.BinOp l op r pos) V := fun s' E k =>
  wpAny_BinOp (hl.use k fun a s₁ k₁ ha => hr.use (keepsTrans k k₁) fun b s₂ k₂ hb => ho.use (keepsTrans k (keepsTrans k₁ k₂)) (VP.mono _ (keepsV k₂) ha) hb fun v s₃ k₃ hv =>
    ⟨keepsTrans k₁ (keepsTrans k₂ k₃), hv⟩)
theorem Tst_cmp {C : Cx} {s : Shared} {l r : Expr} {op : CmpOp} {T U : VP} {b : Bool} {pos} (hl : Ev C s l T) (hr : Ev C s r U) (ho : Op2 C s (compareOp op) T U (VP.bool b).P) (hm : behindInMarks op r = false := by with_unfolding_all rfl) :
    Tst C s (.Compare l [op] [r] pos) b := fun s' E k =>
  wpAny_isTrue_Compare1 (hl.use k fun a s₁ k₁ ha => hr.use (keepsTrans k k₁) fun x s₂ k₂ hb => ho.use (keepsTrans k (keepsTrans k₁ k₂)) (VP.mono _ (keepsV k₂) ha) hb fun v s₃ k₃ hv => by
    have e : v = .bool b := hv
    subst e
    exact wpAny_truthy_bool ⟨keepsTrans k₁ (keepsTrans k₂ k₃), rfl⟩) hm
theorem Ev_if {C : Cx} {s : Shared} {t x y : Expr} {b : Bool} {T : VP} {pos} (ht : Tst C s t b) (hx : b = true → Ev C s x T) (hy : b = false → Ev C s y T) : Ev C s (.IfExp t x y pos) T := fun s' E k =>
  wpAny_IfExp (ht.use k fun c s₁ k₁ hc => by
    have e : c = b := hc
    subst e
    cases c with
    | true => exact (hx rfl).use (keepsTrans k k₁) fun v s₂ k₂ hv => ⟨keepsTrans k₁ k₂, hv⟩
    | false => exact (hy rfl).use (keepsTrans k k₁) fun v s₂ k₂ hv => ⟨keepsTrans k₁ k₂, hv⟩)

structure Room (k : Nat) (A : Around) : Prop where
  hd : A.handled = none
  depth : A.depth + k < 900
  units : A.units + 10 * k < 9000
theorem Room.deeper {k : Nat} {A : Around} {env : Env} (R : Room (k + 1) A) : Room k (A.deeper env) :=
  ⟨R.hd, by have := R.depth; rw [depth_deeper]; omega, by have := R.units; rw [units_deeper]; omega⟩

/-- a def does what it should: Ts in, T back -/
def FOk (prog : Program) (w : World) (mg mb : Str → Option Value) (d : DefRec) (k : Nat) (Ts : List VP) (T : VP) : Prop :=
  ∀ (s : Shared) (A : Around) (H : List Addr) (f : Addr) (args : List Value) (R : Result → Shared → Prop), Wld mg mb s.heap → mg d.name = some (.ref f) → Room k A → (∀ a ∈ H, ∃ o, s.heap.get? a = some o) →
    Els (hid H s.heap) Ts args → (∀ v s', Keeps s s' → T.P (hid H s'.heap) v → R (.ok (.ret v)) s') → codeAny (model prog w) A (.call (.ref f) ⟨args, []⟩) R s

/-- a name has a value -/
def Has (env : Env) (h : Heap) (x : Str) (v : Value) : Prop :=
  (env.kindOf x = some .local ∧ ∃ m, h.Ns env.locals m ∧ m x = some v) ∨ (env.kindOf x = some .cell ∧ ∃ c, env.cells.lookup x = some c ∧ h.IsCell c (some v))
theorem Has.keeps {env : Env} {h h' : Heap} {x : Str} {v : Value} (a : Has env h x v) (k : Kp h h') : Has env h' x v := by
  rcases a with ⟨e, m, n, q⟩ | ⟨e, c, l, q⟩
  · exact .inl ⟨e, m, n.keeps k, q⟩
  · exact .inr ⟨e, c, l, q.keeps k⟩

structure Wf (env : Env) (H : List Addr) (h : Heap) : Prop where
  ns : ∃ m, h.Ns env.locals m
  loc : env.locals ∈ H
  cell : ∀ n c, env.cells.lookup n = some c → (∃ v, h.IsCell c v) ∧ c ∈ H ∧ c ≠ env.locals
  apart : ∀ n n' c, env.cells.lookup n = some c → env.cells.lookup n' = some c → n = n'
theorem Wf.keeps {env : Env} {H : List Addr} {h h' : Heap} (W : Wf env H h) (k : Kp h h') : Wf env H h' :=
  { W with ns := let ⟨m, n⟩ := W.ns; ⟨m, n.keeps k⟩, cell := fun n c e => let ⟨⟨v, q⟩, r⟩ := W.cell n c e; ⟨⟨v, q.keeps k⟩, r⟩ }

/-- a place that is none of the frame's -/
def Off (env : Env) (a : Addr) : Prop := a ≠ env.locals ∧ ∀ n c, env.cells.lookup n = some c → a ≠ c
theorem Wf.but {env : Env} {H : List Addr} {h h' : Heap} {a : Addr} (W : Wf env H h) (s : Heap.ExtBut a h h') (o : Off env a) : Wf env H h' :=
  { W with
    ns := let ⟨m, n⟩ := W.ns; ⟨m, n.extBut s o.1.symm⟩
    cell := fun n c e => let ⟨⟨v, ob, q, d⟩, r⟩ := W.cell n c e; ⟨⟨v, ob, s c ob (Ne.symm (o.2 n c e)) q, d⟩, r⟩ }
theorem Has.but {env : Env} {h h' : Heap} {x : Str} {v : Value} {a : Addr} (q : Has env h x v) (s : Heap.ExtBut a h h') (o : Off env a) : Has env h' x v := by
  rcases q with ⟨e, m, n, q⟩ | ⟨e, c, l, ob, q, d⟩
  · exact .inl ⟨e, m, n.extBut s o.1.symm, q⟩
  · exact .inr ⟨e, c, l, ob, s c ob (Ne.symm (o.2 x c l)) q, d⟩

abbrev Rho := List (Str × VP)
def Vars (C : Cx) (s : Shared) (ρ : Rho) : Prop := ∀ x T, (x, T) ∈ ρ → ∃ v, Has C.env s.heap x v ∧ T.P (C.v s) v
theorem Vars.later {C : Cx} {s s' : Shared} {ρ : Rho} (V : Vars C s ρ) (k : Keeps s s') : Vars C s' ρ := fun x T m => let ⟨v, a, b⟩ := V x T m; ⟨v, a.keeps (keepsKp k), T.mono (keepsV k) b⟩

/-- what a place of one's own holds -/
structure MV where
  P : Heap → Obj → Prop
  mono : ∀ {g g' : Heap} {o : Obj}, Kp g g' → P g o → P g' o
abbrev Mu := List (Addr × MV)
def MV.list (Ts : List VP) : MV := ⟨fun g o => ∃ vs n, o = { cls := .type "list", dict := none, data := .seq vs n, slots := #[] } ∧ Els g Ts vs.toList, fun k h => by
  obtain ⟨vs, n, e, x⟩ := h; exact ⟨vs, n, e, x.mono k⟩⟩

def Sm (s₀ s : Shared) : Prop := ∃ h tk, s = { s₀ with heap := h, toks := tk }
theorem Sm.trans {a b c : Shared} (x : Sm a b) (y : Sm b c) : Sm a c := by obtain ⟨h, t, rfl⟩ := x; obtain ⟨h', t', rfl⟩ := y; exact ⟨h', t', rfl⟩
theorem smKeeps {a b : Shared} (x : Keeps a b) : Sm a b := let ⟨h, t, e, _⟩ := x; ⟨h, t, e⟩

/-- a place of one's own -/
structure Own (C : Cx) (a : Addr) : Prop where
  hid : a ∈ C.H
  off : Off C.env a
  new : C.g.get? a = none

/-- within a body -/
structure Bd (C : Cx) (s₀ : Shared) (H₀ : List Addr) (k : Nat) (s : Shared) (ρ : Rho) (μ : Mu) : Prop where
  low : ∀ a ∈ C.H, ∃ o, s.heap.get? a = some o
  room : Room k C.A
  kind : C.env.scope.kind = .function
  gl : C.env.globals = mainGlobals
  bl : C.env.builtins = builtinsNs
  w0 : Wld C.mg C.mb s₀.heap
  base : Kp s₀.heap C.g
  keep : Kp C.g s.heap
  sm : Sm s₀ s
  wf : Wf C.env C.H s.heap
  loc : C.g.get? C.env.locals = none
  sub : ∀ a ∈ H₀, a ∈ C.H
  vars : Vars C s ρ
  own : ∀ a V, (a, V) ∈ μ → Own C a ∧ ∃ o, s.heap.get? a = some o ∧ V.P (C.v s) o

section
variable {C : Cx} {s₀ s s' : Shared} {H₀ : List Addr} {k : Nat} {ρ ρ' : Rho} {μ μ' : Mu}
theorem Bd.keeps (B : Bd C s₀ H₀ k s ρ μ) : Keeps s₀ s := let ⟨h, t, e⟩ := B.sm; ⟨h, t, e, by have := B.base.trans B.keep; rw [e] at this; exact this⟩
theorem Bd.ok (B : Bd C s₀ H₀ k s ρ μ) : Ok C s :=
  ⟨B.low, B.room.hd, by have := B.room.units; omega, B.kind, B.gl, B.bl, B.w0.keeps (B.base.trans B.keep)⟩
theorem lowKp {H : List Addr} {h h' : Heap} (l : ∀ a ∈ H, ∃ o, h.get? a = some o) (k : Kp h h') : ∀ a ∈ H, ∃ o, h'.get? a = some o := fun a m => let ⟨o, e⟩ := l a m; ⟨o, k _ _ e⟩
theorem Bd.later (B : Bd C s₀ H₀ k s ρ μ) (ks : Keeps s s') : Bd C s₀ H₀ k s' ρ μ :=
  { B with
    low := lowKp B.low (keepsKp ks), keep := B.keep.trans (keepsKp ks), sm := B.sm.trans (smKeeps ks), wf := B.wf.keeps (keepsKp ks), vars := B.vars.later ks
    own := fun a V m => let ⟨h1, o, h2, h3⟩ := B.own a V m; ⟨h1, o, keepsKp ks _ _ h2, V.mono (keepsV ks) h3⟩ }
theorem Bd.less (B : Bd C s₀ H₀ k s ρ μ) (h : ∀ p ∈ ρ', p ∈ ρ) : Bd C s₀ H₀ k s ρ' μ := { B with vars := fun x T m => B.vars x T (h _ m) }
theorem Bd.lessM (B : Bd C s₀ H₀ k s ρ μ) (h : ∀ p ∈ μ', p ∈ μ) : Bd C s₀ H₀ k s ρ μ' := { B with own := fun x T m => B.own x T (h _ m) }
theorem Bd.add (B : Bd C s₀ H₀ k s ρ μ) {x : Str} {T : VP} (h : ∃ v, Has C.env s.heap x v ∧ T.P (C.v s) v) : Bd C s₀ H₀ k s ((x, T) :: ρ) μ :=
  { B with
    vars := fun y U m => by
      rcases List.mem_cons.mp m with e | m
      · cases e; exact h
      · exact B.vars y U m }
theorem Bd.addM (B : Bd C s₀ H₀ k s ρ μ) {a : Addr} {V : MV} (h : Own C a ∧ ∃ o, s.heap.get? a = some o ∧ V.P (C.v s) o) : Bd C s₀ H₀ k s ρ ((a, V) :: μ) :=
  { B with
    own := fun y U m => by
      rcases List.mem_cons.mp m with e | m
      · cases e; exact h
      · exact B.own y U m }

/-- all but one place as it was -/
def But (a : Addr) (s s' : Shared) : Prop := ∃ h' tk, s' = { s with heap := h', toks := tk } ∧ Heap.ExtBut a s.heap h'
theorem But.ext {a : Addr} (b : But a s s') : Heap.ExtBut a s.heap s'.heap := by obtain ⟨h, t, rfl, k⟩ := b; exact k
theorem But.sm {a : Addr} (b : But a s s') : Sm s s' := let ⟨h, t, e, _⟩ := b; ⟨h, t, e⟩
theorem kpBut {a : Addr} {g h h' : Heap} (k : Kp g h) (b : Heap.ExtBut a h h') (n : g.get? a = none) : Kp g h' := fun b' o q => b b' o (fun x => by rw [x, n] at q; cases q) (k b' o q)

/-- one place of one's own is changed -/
theorem Bd.but {a : Addr} (B : Bd C s₀ H₀ k s ρ μ) (b : But a s s') (o : Own C a) (l : ∃ ob, s'.heap.get? a = some ob) (hμ : ∀ p ∈ μ', p.1 ≠ a ∧ p ∈ μ) : Bd C s₀ H₀ k s' ρ μ' :=
  { B with
    low := fun c mc => by
      by_cases h : c = a
      · subst h; exact l
      · obtain ⟨ob, e⟩ := B.low c mc; exact ⟨ob, b.ext c ob h e⟩
    keep := kpBut B.keep b.ext o.new
    sm := B.sm.trans b.sm
    wf := B.wf.but b.ext o.off
    vars := fun x T q => let ⟨v, h1, h2⟩ := B.vars x T q; ⟨v, h1.but b.ext o.off, T.mono (hid_but b.ext o.hid) h2⟩
    own := fun c V m => let ⟨hne, m⟩ := hμ _ m; let ⟨h1, ob, h2, h3⟩ := B.own c V m; ⟨h1, ob, b.ext c ob hne h2, V.mono (hid_but b.ext o.hid) h3⟩ }
end

theorem wpAny_loadName_has {M : Model} {A : Around} {E : Value → Shared → Prop} {s : Shared} {env : Env} {x : Str} {v : Value} {Q : Value → Shared → Prop} (hk : env.scope.kind = .function) (a : Has env s.heap x v) (h : Q v s) : wpAny M A (loadName env x) Q E s := by
  rcases a with ⟨e, m, n, q⟩ | ⟨e, c, l, q⟩
  · exact wpAny_loadName_local hk e n q h
  · exact wpAny_loadName_cell hk e l q h

theorem Ev_has {C : Cx} {s : Shared} {x : Str} {v : Value} {T : VP} {pos} (O : Ok C s) (a : Has C.env s.heap x v) (hv : T.P (C.v s) v) (hd : (x == ("__debug__" : Str)) = false := by decide +kernel) : Ev C s (.Name x pos) T := fun s' E k =>
  wpAny_Name (wpAny_loadName_has O.kind (a.keeps (keepsKp k)) ⟨keepsRefl _, T.mono (keepsV k) hv⟩) hd
theorem Bd.ev {C : Cx} {s₀ s : Shared} {H₀ : List Addr} {k : Nat} {ρ : Rho} {μ : Mu} (B : Bd C s₀ H₀ k s ρ μ) {x : Str} {T : VP} {pos} (m : (x, T) ∈ ρ) (hd : (x == ("__debug__" : Str)) = false := by decide +kernel) : Ev C s (.Name x pos) T :=
  let ⟨_, a, b⟩ := B.vars x T m; Ev_has B.ok a b hd

theorem Ev_glob {C : Cx} {s : Shared} {x : Str} {v : Value} {pos} (O : Ok C s) (e : C.mg x = some v) (hx : C.env.kindOf x = some .globalImplicit) (hd : (x == ("__debug__" : Str)) = false := by decide +kernel) : Ev C s (.Name x pos) (VP.ex v) := fun s' E k =>
  Name_function_global O.kind hx (loadGlobal_global (O.gl ▸ (O.later k).wld.g) e ⟨keepsRefl _, rfl⟩) hd
theorem Ev_boot {C : Cx} {s : Shared} {x : Str} {v : Value} {pos} (O : Ok C s) (e : (x, v) ∈ boots) (hx : C.env.kindOf x = some .globalImplicit) (hd : (x == ("__debug__" : Str)) = false := by decide +kernel) : Ev C s (.Name x pos) (VP.ex v) := fun s' E k =>
  Name_function_global O.kind hx (loadGlobal_builtin (O.gl ▸ (O.later k).wld.g) (O.wld.boot _ e).1 (O.bl ▸ (O.later k).wld.b) (O.wld.boot _ e).2 ⟨keepsRefl _, rfl⟩) hd
theorem Ev_origin {C : Cx} {s : Shared} {pos} (O : Ok C s) (hx : C.env.kindOf "ORIGIN" = some .globalImplicit) : Ev C s (.Name "ORIGIN" pos) (VP.int 0) := fun s' E k => by
  obtain ⟨t, e⟩ := O.wld.origin
  exact (Ev_glob O e hx).use k fun v s'' k' hv => ⟨k', t, hv⟩

/-- a call of a def of the text -/
theorem Ev_call {C : Cx} {s : Shared} {d : DefRec} {k : Nat} {e : Expr} {es : List Expr} {T : VP} {Us : List VP} {U : VP} {p pos} (O : Ok C s) (R : Room k C.A) (F : FOk C.prog C.w C.mg C.mb d k (T :: Us) U) (hd : d ∈ defs)
    (hx : C.env.kindOf d.name = some .globalImplicit) (h : EvL C s (e :: es) (T :: Us)) (hq : (d.name == ("__debug__" : Str)) = false := by decide +kernel) : Ev C s (.Call (.Name d.name p) (e :: es) [] pos) U := fun s' E ks => by
  obtain ⟨a, o, pm, code, doc, h1, h2, h3, h4⟩ := O.wld.fn d hd
  refine wpAny_Call_ofName ((Ev_glob O h1 hx hq).use ks fun f s₁ k₁ hf => ?_)
  have hf : f = .ref a := hf
  subst hf
  have hh := h
  cases h with
  | cons _ _ he =>
    rw [he]
    refine callWith_function (o := o) (fd := docDef d.name d.params d.body d.scope pm code doc) (evalArgs_plain ?_)
    have := hh.go (pos := pos)
    rw [he] at this
    refine this.use (keepsTrans ks k₁) fun vs s₂ k₂ hv => ⟨⟨keepsKp (keepsTrans ks (keepsTrans k₁ k₂)) _ _ h2, h3⟩, ?_⟩
    refine wpAny_call (F s₂ C.A C.H a vs _ ((O.later ks).later (keepsTrans k₁ k₂)).wld h1 R ((O.later ks).later (keepsTrans k₁ k₂)).low hv fun v s₃ k₃ hr => ⟨keepsTrans k₁ (keepsTrans k₂ k₃), hr⟩)

/-- a call of something on given values -/
def OpN (C : Cx) (s : Shared) (f : Value) (Ts : List VP) (P : Heap → Value → Prop) : Prop :=
  ∀ s' E vs, Keeps s s' → Els (C.v s') Ts vs → wpAny C.M C.A (call f vs) (fun v s'' => Keeps s' s'' ∧ P (C.v s'') v) E s'

theorem Ev_callB {C : Cx} {s : Shared} {x : Str} {id : String} {e : Expr} {es : List Expr} {Ts : List VP} {U : VP} {p pos} (O : Ok C s) (hb : (x, Value.builtin id) ∈ boots) (hx : C.env.kindOf x = some .globalImplicit)
    (h : EvL C s (e :: es) Ts) (ho : OpN C s (.builtin id) Ts U.P) (hq : (x == ("__debug__" : Str)) = false := by decide +kernel) (hpl : (backTo pos (starEach es C.env)).any (·.1) = false := by rfl) : Ev C s (.Call (.Name x p) (e :: es) [] pos) U := fun s' E ks => by
  refine wpAny_Call_ofName ((Ev_boot O hb hx hq).use ks fun f s₁ k₁ hf => ?_)
  have hf : f = .builtin id := hf
  subst hf
  have hh := h
  cases h with
  | cons _ _ he =>
    refine callWith_method1 (hh.go.use (keepsTrans ks k₁) fun vs s₂ k₂ hv => ?_) he hpl
    exact wpAny_mono (ho s₂ E vs (keepsTrans ks (keepsTrans k₁ k₂)) hv) (fun v s₃ q => ⟨keepsTrans k₁ (keepsTrans k₂ q.1), q.2⟩) fun _ _ e => e
theorem Ev_callT {C : Cx} {s : Shared} {x : Str} {id : String} {e : Expr} {es : List Expr} {Ts : List VP} {U : VP} {p pos} (O : Ok C s) (hb : (x, Value.type id) ∈ boots) (hx : C.env.kindOf x = some .globalImplicit)
    (h : EvL C s (e :: es) Ts) (ho : OpN C s (.type id) Ts U.P) (hq : (x == ("__debug__" : Str)) = false := by decide +kernel) (hpl : (backTo pos (starEach es C.env)).any (·.1) = false := by rfl) : Ev C s (.Call (.Name x p) (e :: es) [] pos) U := fun s' E ks => by
  refine wpAny_Call_ofName ((Ev_boot O hb hx hq).use ks fun f s₁ k₁ hf => ?_)
  have hf : f = .type id := hf
  subst hf
  have hh := h
  cases h with
  | cons _ _ he =>
    refine callWith_type1 (hh.go.use (keepsTrans ks k₁) fun vs s₂ k₂ hv => ?_) he hpl
    exact wpAny_mono (ho s₂ E vs (keepsTrans ks (keepsTrans k₁ k₂)) hv) (fun v s₃ q => ⟨keepsTrans k₁ (keepsTrans k₂ q.1), q.2⟩) fun _ _ e => e

/-- the type T's method of that name -/
def Meth (C : Cx) (T : VP) (name : Str) (id : String) : Prop := ∀ s v pl E (Q : Value × List Value → Shared → Prop), T.P (C.v s) v → Q (.builtin id, [v]) s → wpAny C.M C.A (getMethod v name pl) Q E s
theorem Ev_meth0 {C : Cx} {s : Shared} {o : Expr} {name : Str} {id : String} {T U : VP} {apos pos} (hm : Meth C T name id) (h : Ev C s o T) (ho : OpN C s (.builtin id) [T] U.P)
    (hm2 : ∃ pl, eval (.Call (.Attribute o name apos) [] [] pos) C.env = (do
      let ov ← eval o C.env
      standAt apos.atName
      let (f, first) ← holding [ov] (getMethod ov name pl)
      callWith pos f first (backTo pos (starEach [] C.env)) []) := by exact ⟨_, rfl⟩) : Ev C s (.Call (.Attribute o name apos) [] [] pos) U := fun s' E ks => by
  obtain ⟨pl, he⟩ := hm2
  refine MethodCall_ (pl := pl) (h.use ks fun v s₁ k₁ hv => hm _ _ _ _ _ hv ?_) he
  refine callWith_method0 ?_
  exact wpAny_mono (ho s₁ E [v] (keepsTrans ks k₁) (.cons hv .nil)) (fun v s₃ q => ⟨keepsTrans k₁ q.1, q.2⟩) fun _ _ e => e
theorem Ev_meth {C : Cx} {s : Shared} {o e : Expr} {es : List Expr} {name : Str} {id : String} {T U : VP} {Ts : List VP} {apos pos} (hm : Meth C T name id) (h : Ev C s o T) (ha : EvL C s (e :: es) Ts) (ho : OpN C s (.builtin id) (T :: Ts) U.P)
    (hm2 : ∃ pl, eval (.Call (.Attribute o name apos) (e :: es) [] pos) C.env = (do
      let ov ← eval o C.env
      standAt apos.atName
      let (f, first) ← holding [ov] (getMethod ov name pl)
      callWith pos f first (backTo pos (starEach (e :: es) C.env)) []) := by exact ⟨_, rfl⟩) (hpl : (backTo pos (starEach es C.env)).any (·.1) = false := by rfl) : Ev C s (.Call (.Attribute o name apos) (e :: es) [] pos) U := fun s' E ks => by
  obtain ⟨pl, he⟩ := hm2
  refine MethodCall_ (pl := pl) (h.use ks fun v s₁ k₁ hv => hm _ _ _ _ _ hv ?_) he
  have hh := ha
  cases ha with
  | cons _ _ he =>
    refine callWith_method1 (hh.go.use (keepsTrans ks k₁) fun vs s₂ k₂ hvs => ?_) he hpl
    exact wpAny_mono (ho s₂ E (v :: vs) (keepsTrans ks (keepsTrans k₁ k₂)) (.cons (T.mono (keepsV k₂) hv) hvs)) (fun v s₃ q => ⟨keepsTrans k₁ (keepsTrans k₂ q.1), q.2⟩) fun _ _ e => e

def CellsNew (C : Cx) : Prop := ∀ n c, C.env.cells.lookup n = some c → C.g.get? c = none

section
variable {C : Cx} {s₀ s s' : Shared} {H₀ : List Addr} {k : Nat} {ρ ρ' : Rho} {μ μ' : Mu}
theorem Bd.storeL' (B : Bd C s₀ H₀ k s ρ μ) {x : Str} {T : VP} {v : Value} {Q : Unit → Shared → Prop} {E : Value → Shared → Prop}
    (hx : C.env.kindOf x = some .local) (hv : T.P (C.v s) v) (hρ : ∀ p ∈ ρ', p.1 ≠ x ∧ p ∈ ρ) (q : ∀ s', Kp (C.v s) (C.v s') → Bd C s₀ H₀ k s' ((x, T) :: ρ') μ → Q () s') : wpAny C.M C.A (storeName C.env x v) Q E s := by
  obtain ⟨m, hm⟩ := B.wf.ns
  refine wpAny_storeName_local hx hm (fun h' hn hs => ?_) (by rw [B.kind]; rfl)
  have hb : But C.env.locals s { s with heap := h', toks := s.toks + 1 } := ⟨h', _, rfl, hs.extBut⟩
  have hle : Kp (C.v s) (hid C.H h') := hid_but hs.extBut B.wf.loc
  refine q _ hle ?_
  refine { B with
    low := fun c mc => ?_
    keep := kpBut B.keep hb.ext B.loc
    sm := B.sm.trans hb.sm
    wf := ⟨⟨_, hn⟩, B.wf.loc, fun n c e => ?_, B.wf.apart⟩
    vars := fun y U my => ?_
    own := fun a V m => let ⟨h1, o, h2, h3⟩ := B.own a V m; ⟨h1, o, hb.ext a o h1.off.1 h2, V.mono hle h3⟩ }
  · by_cases h : c = C.env.locals
    · subst h; obtain ⟨o, _, _, e, _⟩ := hn; exact ⟨o, e⟩
    · obtain ⟨ob, e⟩ := B.low c mc; exact ⟨ob, hb.ext c ob h e⟩
  · obtain ⟨⟨v', ob, h1, h2⟩, h3, h4⟩ := B.wf.cell n c e
    exact ⟨⟨v', ob, hb.ext c ob h4 h1, h2⟩, h3, h4⟩
  · rcases List.mem_cons.mp my with e | my
    · cases e
      exact ⟨v, .inl ⟨hx, _, hn, if_pos rfl⟩, T.mono hle hv⟩
    · obtain ⟨hne, my⟩ := hρ _ my
      obtain ⟨u, hu, hp⟩ := B.vars y U my
      refine ⟨u, ?_, U.mono hle hp⟩
      rcases hu with ⟨e, m', n', q'⟩ | ⟨e, c, l, ob, g, d⟩
      · refine .inl ⟨e, _, hn, ?_⟩
        show (if y = x then some v else m y) = some u
        rw [if_neg hne]
        obtain ⟨o1, es, ep, a1, a2, a3, a4⟩ := n'
        obtain ⟨o2, es', ep', b1, b2, b3, b4⟩ := hm
        rw [a1] at b1; cases b1
        rw [a2] at b2; cases b2
        rw [← b4 y, a4 y]; exact q'
      · exact .inr ⟨e, c, l, ob, hb.ext c ob (B.wf.cell y c l).2.2 g, d⟩

theorem Bd.storeC' (B : Bd C s₀ H₀ k s ρ μ) {x : Str} {T : VP} {v : Value} {Q : Unit → Shared → Prop} {E : Value → Shared → Prop}
    (hx : C.env.kindOf x = some .cell) (hl : (C.env.cells.lookup x).isSome = true) (hc : CellsNew C) (hv : T.P (C.v s) v) (hρ : ∀ p ∈ ρ', p.1 ≠ x ∧ p ∈ ρ)
    (q : ∀ s', Kp (C.v s) (C.v s') → Bd C s₀ H₀ k s' ((x, T) :: ρ') μ → Q () s') : wpAny C.M C.A (storeName C.env x v) Q E s := by
  obtain ⟨c, hc'⟩ := Option.isSome_iff_exists.mp hl
  obtain ⟨⟨v₀, hv₀⟩, hcH, hcL⟩ := B.wf.cell x c hc'
  refine wpAny_storeName_cell B.kind hx hc' hv₀ fun h' hn hs => ?_
  have hb : But c s { s with heap := h' } := ⟨h', s.toks, rfl, hs.extBut⟩
  have hle : Kp (C.v s) (hid C.H h') := hid_but hs.extBut hcH
  refine q _ hle ?_
  refine { B with
    low := fun d md => ?_
    keep := kpBut B.keep hb.ext (hc x c hc')
    sm := B.sm.trans hb.sm
    wf := ⟨?_, B.wf.loc, fun n d e => ?_, B.wf.apart⟩
    vars := fun y U my => ?_
    own := fun a V m => let ⟨h1, o, h2, h3⟩ := B.own a V m; ⟨h1, o, hb.ext a o (h1.off.2 x c hc') h2, V.mono hle h3⟩ }
  · by_cases h : d = c
    · subst h; obtain ⟨o, e, _⟩ := hn; exact ⟨o, e⟩
    · obtain ⟨ob, e⟩ := B.low d md; exact ⟨ob, hb.ext d ob h e⟩
  · obtain ⟨m, hm⟩ := B.wf.ns
    exact ⟨m, hm.sameBut hs (Ne.symm hcL)⟩
  · obtain ⟨⟨v', ob, h1, h2⟩, h3, h4⟩ := B.wf.cell n d e
    by_cases h : d = c
    · subst h; exact ⟨⟨_, hn⟩, h3, h4⟩
    · exact ⟨⟨v', ob, hb.ext d ob h h1, h2⟩, h3, h4⟩
  · rcases List.mem_cons.mp my with e | my
    · cases e
      exact ⟨v, .inr ⟨hx, c, hc', hn⟩, T.mono hle hv⟩
    · obtain ⟨hne, my⟩ := hρ _ my
      obtain ⟨u, hu, hp⟩ := B.vars y U my
      refine ⟨u, ?_, U.mono hle hp⟩
      rcases hu with ⟨e, m', n', q'⟩ | ⟨e, d, l, ob, g, dd⟩
      · exact .inl ⟨e, m', n'.sameBut hs (Ne.symm hcL), q'⟩
      · exact .inr ⟨e, d, l, ob, hb.ext d ob (fun h => hne (B.wf.apart y x c (h ▸ l) hc')) g, dd⟩
theorem Bd.storeL (B : Bd C s₀ H₀ k s ρ μ) {x : Str} {T : VP} {v : Value} {Q : Unit → Shared → Prop} {E : Value → Shared → Prop}
    (hx : C.env.kindOf x = some .local) (hv : T.P (C.v s) v) (hρ : ∀ p ∈ ρ', p.1 ≠ x ∧ p ∈ ρ) (q : ∀ s', Bd C s₀ H₀ k s' ((x, T) :: ρ') μ → Q () s') : wpAny C.M C.A (storeName C.env x v) Q E s := B.storeL' hx hv hρ fun s' _ => q s'
theorem Bd.storeC (B : Bd C s₀ H₀ k s ρ μ) {x : Str} {T : VP} {v : Value} {Q : Unit → Shared → Prop} {E : Value → Shared → Prop}
    (hx : C.env.kindOf x = some .cell) (hl : (C.env.cells.lookup x).isSome = true) (hc : CellsNew C) (hv : T.P (C.v s) v) (hρ : ∀ p ∈ ρ', p.1 ≠ x ∧ p ∈ ρ)
    (q : ∀ s', Bd C s₀ H₀ k s' ((x, T) :: ρ') μ → Q () s') : wpAny C.M C.A (storeName C.env x v) Q E s := B.storeC' hx hl hc hv hρ fun s' _ => q s'
end

/-- what a body comes to: it gives back a T -/
def Back (s₀ : Shared) (H₀ : List Addr) (T : VP) (f : Flow) (s' : Shared) : Prop := ∃ v, f = .ret v ∧ Keeps s₀ s' ∧ T.P (hid H₀ s'.heap) v

theorem bindL_get {kindOf : Str → Option NameKind} : ∀ (binds : List (Str × Value)) (m : Str → Option Value) {x : Str} {v : Value}, (binds.map (·.1)).Nodup → (x, v) ∈ binds → kindOf x = some .local → bindL kindOf binds m x = some v := by
  have skip : ∀ (binds : List (Str × Value)) (m : Str → Option Value) {x : Str}, x ∉ binds.map (·.1) → bindL kindOf binds m x = m x := by
    intro binds
    induction binds with
    | nil => intro m x _; rfl
    | cons p r ih =>
      intro m x hn
      obtain ⟨n, u⟩ := p
      simp only [List.map_cons, List.mem_cons, not_or] at hn
      rw [bindL, ih _ hn.2]
      split
      · exact if_neg hn.1
      · rfl
  intro binds
  induction binds with
  | nil => intro m x v _ h; cases h
  | cons p r ih =>
    intro m x v hn h hk
    obtain ⟨n, u⟩ := p
    rw [List.map_cons, List.nodup_cons] at hn
    rw [bindL]
    rcases List.mem_cons.mp h with e | h
    · cases e
      rw [skip _ _ hn.1, if_pos hk, if_pos rfl]
    · exact ih _ hn.2 h hk
theorem bindC_get {kindOf : Str → Option NameKind} : ∀ (binds : List (Str × Value)) (m : Str → Option Value) {x : Str} {v : Value}, (binds.map (·.1)).Nodup → (x, v) ∈ binds → kindOf x = some .cell → bindC kindOf binds m x = some v := by
  have skip : ∀ (binds : List (Str × Value)) (m : Str → Option Value) {x : Str}, x ∉ binds.map (·.1) → bindC kindOf binds m x = m x := by
    intro binds
    induction binds with
    | nil => intro m x _; rfl
    | cons p r ih =>
      intro m x hn
      obtain ⟨n, u⟩ := p
      simp only [List.map_cons, List.mem_cons, not_or] at hn
      rw [bindC, ih _ hn.2]
      split
      · rfl
      · exact if_neg hn.1
  intro binds
  induction binds with
  | nil => intro m x v _ h; cases h
  | cons p r ih =>
    intro m x v hn h hk
    obtain ⟨n, u⟩ := p
    rw [List.map_cons, List.nodup_cons] at hn
    rw [bindC]
    rcases List.mem_cons.mp h with e | h
    · cases e
      rw [skip _ _ hn.1, if_neg (by rw [hk]; decide), if_pos rfl]
    · exact ih _ hn.2 h hk

theorem Els.zip {g : Heap} {Ts : List VP} {vs : List Value} (h : Els g Ts vs) : ∀ (xs : List Str) {x : Str} {T : VP}, (x, T) ∈ xs.zip Ts → ∃ v, (x, v) ∈ xs.zip vs ∧ T.P g v := by
  induction h with
  | nil => intro xs x T m; simp at m
  | cons a _ ih =>
    intro xs x T m
    cases xs with
    | nil => simp at m
    | cons y ys =>
      rw [List.zip_cons_cons] at m
      rcases List.mem_cons.mp m with e | m
      · cases e; exact ⟨_, .head _, a⟩
      · obtain ⟨v, h1, h2⟩ := ih ys m; exact ⟨v, .tail _ h1, h2⟩

theorem zip_maps {x : Str} {U : VP} : ∀ {ρ : Rho}, (x, U) ∈ ρ → (x, U) ∈ (ρ.map (·.1)).zip (ρ.map (·.2)) := by
  intro ρ
  induction ρ with
  | nil => intro m; cases m
  | cons p r ih =>
    intro m
    rw [List.map_cons, List.map_cons, List.zip_cons_cons]
    rcases List.mem_cons.mp m with e | m
    · rw [← e]; exact .head _
    · exact .tail _ (ih m)

/-- into a def -/
theorem enter {prog : Program} {w : World} {mg mb : Str → Option Value} {d : DefRec} {k : Nat} {Ts : List VP} {T : VP} (ρ : Rho) (xs : List Str) (hd : d ∈ defs) (hx : ρ.map (·.1) = xs) (hT : ρ.map (·.2) = Ts)
    (hb : ∀ pm code doc vs, vs.length = xs.length → bindArgs (docDef d.name d.params d.body d.scope pm code doc) ⟨vs, []⟩ = pure (xs.zip vs))
    (hk : xs.all (fun x => d.scope.names.lookup x == some .local || d.scope.names.lookup x == some .cell) = true) (hnd : xs.Nodup)
    (hf : d.scope.isCoroutine = false ∧ d.scope.isGenerator = false ∧ d.scope.kind = .function)
    (h : ∀ C s₀ H₀ s, C.prog = prog → C.w = w → C.mg = mg → C.mb = mb → C.env.scope = d.scope → C.env.cells = cellsFrom (C.env.locals + 1) d.scope.names [] → CellsNew C → Bd C s₀ H₀ k s ρ [] →
      wpAny C.M C.A (execs d.body C.env) (Back s₀ H₀ T) (fun _ _ => False) s) : FOk prog w mg mb d (k + 1) Ts T := by
  intro s A H f args R W hg RM low hargs hR
  have hlen : Ts.length = xs.length := by rw [← hx, ← hT]; simp
  have hρ : ∀ {x U}, (x, U) ∈ ρ → (x, U) ∈ xs.zip Ts := fun {x U} m => by rw [← hx, ← hT]; exact zip_maps m
  obtain ⟨a, o, pm, code, doc, h1, h2, h3, h4⟩ := W.fn d hd
  rw [hg] at h1; cases h1
  have hkind : ∀ x ∈ xs.zip args, d.scope.names.lookup x.1 = some .local ∨ d.scope.names.lookup x.1 = some .cell := fun x hx => by
    have hm : x.1 ∈ xs := (List.of_mem_zip hx).1
    have := List.all_eq_true.mp hk _ hm
    rcases Bool.or_eq_true_iff.mp this with q | q
    · exact .inl (by simpa using q)
    · exact .inr (by simpa using q)
  refine call_cells_ret (by have := RM.depth; show A.depth < 1000; omega) h2 h3 W.lim h4 (hb pm code doc args (by rw [← hargs.length, hlen])) (fun x hx => ?_) (fun h₁ tk F X => ?_) hf.1 hf.2.1 hf.2.2
  · exact (hkind x hx).imp id fun q => ⟨q, cellsFrom_some _ _ _ (.inl q)⟩
  · have hzip : (xs.zip args).map (·.1) = xs := by
      rw [List.map_fst_zip]; rw [← hargs.length, hlen]; exact Nat.le_refl _
    let env := envOfC d.name d.scope s.heap.objs.size f code
    let own : List Addr := s.heap.objs.size :: (cellsFrom (s.heap.objs.size + 1) d.scope.names []).filterMap fun p => (cellsFrom (s.heap.objs.size + 1) d.scope.names []).lookup p.1
    have hnew : ∀ b, s.heap.objs.size ≤ b → s.heap.get? b = none := fun b hb => Heap.get?_none_of_le hb
    have hcell : ∀ n c, (cellsFrom (s.heap.objs.size + 1) d.scope.names []).lookup n = some c → c ∈ own := fun n c e => List.mem_cons_of_mem _ (List.mem_filterMap.mpr ⟨_, mem_of_lookup e, e⟩)
    have hown : ∀ b ∈ own, s.heap.get? b = none := fun b hb => by
      rcases List.mem_cons.mp hb with rfl | hb
      · exact hnew _ (Nat.le_refl _)
      · obtain ⟨p, hm, e⟩ := List.mem_filterMap.mp hb
        exact hnew _ (Nat.le_of_lt (X.above p.1 b (mem_of_lookup e)))
    have key := h ⟨prog, w, mg, mb, A.deeper env, env, own ++ H, s.heap⟩ s H { s with heap := h₁, toks := tk } rfl rfl rfl rfl rfl rfl (fun n c e => hown c (hcell n c e))
      { low := fun b hb => by
          rcases List.mem_append.mp hb with hb | hb
          · rcases List.mem_cons.mp hb with rfl | hb
            · obtain ⟨ob, es, ep, e, _⟩ := F.ns
              exact ⟨_, e⟩
            · obtain ⟨p, hm, e⟩ := List.mem_filterMap.mp hb
              obtain ⟨ob, g, _⟩ := X.cell p.1 b e
              exact ⟨ob, g⟩
          · obtain ⟨ob, e⟩ := low b hb; exact ⟨ob, F.keep _ _ e⟩
        room := RM.deeper
        kind := hf.2.2
        gl := rfl
        bl := rfl
        w0 := W
        base := Kp.refl _
        keep := F.keep
        sm := ⟨h₁, tk, rfl⟩
        own := fun a V m => nomatch m
        wf := ⟨⟨_, F.ns⟩, .head _, fun n c e => ⟨⟨_, X.cell n c e⟩, List.mem_append_left _ (hcell n c e), Nat.ne_of_gt (X.above n c (mem_of_lookup e))⟩, fun n n' c e e' => name_of_addr X.apart (mem_of_lookup e) (mem_of_lookup e')⟩
        loc := hnew _ (Nat.le_refl _)
        sub := fun b hb => List.mem_append_right _ hb
        vars := fun x U m => by
          obtain ⟨v, hv, hp⟩ := hargs.zip xs (hρ m)
          refine ⟨v, ?_, U.mono (hid_new F.keep hown) hp⟩
          rcases hkind _ hv with q | q
          · exact .inl ⟨q, _, F.ns, bindL_get _ _ (by rw [hzip]; exact hnd) hv q⟩
          · obtain ⟨c, hc⟩ := Option.isSome_iff_exists.mp (cellsFrom_some (x := x) d.scope.names (s.heap.objs.size + 1) [] (.inl q))
            refine .inr ⟨q, c, hc, ?_⟩
            have := X.cell x c hc
            rw [bindC_get _ _ (by rw [hzip]; exact hnd) hv q] at this
            exact this }
    refine wpAny_mono key (fun fl s' hb => ?_) fun _ _ x => x
    obtain ⟨v, rfl, ks, hv⟩ := hb
    exact hR v s' ks hv

/-! ints -/
theorem op_eq_int {C : Cx} {s : Shared} {a b : Int} : Op2 C s (compareOp .Eq) (.int a) (.int b) (VP.bool (a == b)).P := fun s' E x y k ⟨t, hx⟩ ⟨u, hy⟩ => by
  subst hx hy; exact PyProof.Rows.eq_int ⟨keepsRefl _, rfl⟩
theorem op_ne_int {C : Cx} {s : Shared} {a b : Int} : Op2 C s (compareOp .NotEq) (.int a) (.int b) (VP.bool (a != b)).P := fun s' E x y k ⟨t, hx⟩ ⟨u, hy⟩ => by
  subst hx hy; exact PyProof.Rows.ne_int ⟨keepsRefl _, rfl⟩
theorem op_lt_int {C : Cx} {s : Shared} {a b : Int} : Op2 C s (compareOp .Lt) (.int a) (.int b) (VP.bool (decide (a < b))).P := fun s' E x y k ⟨t, hx⟩ ⟨u, hy⟩ => by
  subst hx hy; exact PyProof.Rows.lt_int ⟨keepsRefl _, rfl⟩
theorem op_add_int {C : Cx} {s : Shared} {a b : Int} : Op2 C s (binaryOp .Add) (.int a) (.int b) (VP.int (a + b)).P := fun s' E x y k ⟨t, hx⟩ ⟨u, hy⟩ => by
  subst hx hy; exact PyProof.Rows.add_int ⟨keepsToks _ _, _, rfl⟩
theorem op_sub_int {C : Cx} {s : Shared} {a b : Int} : Op2 C s (binaryOp .Sub) (.int a) (.int b) (VP.int (a - b)).P := fun s' E x y k ⟨t, hx⟩ ⟨u, hy⟩ => by
  subst hx hy; exact PyProof.Rows.sub_int ⟨keepsToks _ _, _, rfl⟩
theorem op_mod_int {C : Cx} {s : Shared} {a b : Int} (hb : b ≠ 0) : Op2 C s (binaryOp .Mod) (.int a) (.int b) (VP.int (a.fmod b)).P := fun s' E x y k ⟨t, hx⟩ ⟨u, hy⟩ => by
  subst hx hy; exact PyProof.Rows.mod_int hb ⟨keepsToks _ _, _, rfl⟩
theorem op_eq_bool {C : Cx} {s : Shared} {a b : Bool} : Op2 C s (compareOp .Eq) (.bool a) (.bool b) (VP.bool (a == b)).P := fun s' E x y k hx hy => by
  have hx : x = .bool a := hx
  have hy : y = .bool b := hy
  subst hx hy; exact PyProof.Rows.eq_bool ⟨keepsRefl _, rfl⟩

/-! paths -/
def pathV (p : Path) : VP := .tup (p.map VP.int)
theorem ints_are {g : Heap} (prog : Program) (w : World) : ∀ {p : List Int} {vs : List Value}, Els g (p.map VP.int) vs → ItemsAre (intKind prog w) p vs := by
  intro p
  induction p with
  | nil => intro vs h; cases h; exact .nil
  | cons i r ih =>
    intro vs h
    rw [List.map_cons] at h
    cases h with
    | cons a t =>
      obtain ⟨u, rfl⟩ := a
      exact .cons (by show Value.isInt i (.int i u) = true; simp [Value.isInt]) (ih t)
theorem path_key {g : Heap} {p : Path} {v : Value} (prog : Program) (w : World) (h : (pathV p).P g v) : ∃ a, v = .ref a ∧ IsTupleKey (intKind prog w) g p a := by
  obtain ⟨a, vs, n, e, t, x⟩ := h
  exact ⟨a, e, _, vs, n, t, rfl, rfl, ints_are prog w x⟩
theorem key_mono {prog : Program} {w : World} {g g' : Heap} {p : Path} {a : Addr} (h : IsTupleKey (intKind prog w) g p a) (k : Kp g g') : IsTupleKey (intKind prog w) g' p a := let ⟨o, i, n, e, r⟩ := h; ⟨o, i, n, k _ _ e, r⟩

theorem eqAt_path {A : Around} {s : Shared} {p q : Path} {x y : Value} (hu : A.units < cLine) (hx : (pathV p).P s.heap x) (hy : (pathV q).P s.heap y) : SeqAt.EqAt A s x y (decide (p = q)) := fun prog w E Q hq => by
  obtain ⟨a, rfl, ka⟩ := path_key prog w hx
  obtain ⟨b, rfl, kb⟩ := path_key prog w hy
  exact wpAny_eqBool_tuple hu ka kb hq
theorem eqAt_int {A : Around} {s : Shared} {i j : Int} {x y : Value} {g g' : Heap} (hx : (VP.int i).P g x) (hy : (VP.int j).P g' y) : SeqAt.EqAt A s x y (decide (i = j)) := by
  obtain ⟨t, rfl⟩ := hx; obtain ⟨u, rfl⟩ := hy
  have := SeqAt.EqAt.int_int (A := A) (s := s) i t j u
  rwa [show (i == j) = decide (i = j) from by cases h : decide (i = j) <;> simp_all] at this

theorem in1_units {A : Around} (h : A.units ≤ 9000) : A.in1.units < cLine := by rw [Around.in1_units, show cLine = 9900 from rfl]; omega
theorem Ok.u {C : Cx} {s : Shared} (O : Ok C s) : C.A.units < cLine := by have := O.units; rw [show cLine = 9900 from rfl]; omega
theorem Ok.u1 {C : Cx} {s : Shared} (O : Ok C s) : C.A.in1.units < cLine := in1_units O.units

theorem op_eq_path {C : Cx} {s : Shared} {p q : Path} (O : Ok C s) : Op2 C s (compareOp .Eq) (pathV p) (pathV q) (VP.bool (decide (p = q))).P := fun s' E x y k hx hy => by
  obtain ⟨a, rfl, ka⟩ := path_key C.prog C.w ((pathV p).mono hid_le hx)
  obtain ⟨b, rfl, kb⟩ := path_key C.prog C.w ((pathV q).mono hid_le hy)
  exact wpAny_richCompare_same_room (op := .Eq) ka.typeIs kb.typeIs PySem.F.slot_tuple_eq
      (wpAny_call_entry PySem.F.slot_tuple_eq ka.typeIs PySem.F.entry_tuple_eq (tuple_eq_tree ka kb ⟨_, rfl, (fun e => nomatch e), keepsRefl _, rfl⟩) (PySem.F.args_tuple_eq_2 _ _)) O.u

theorem getD_all_eq : ∀ (p q : List Int), ((List.range (min p.length q.length)).all (fun j => decide (p.getD j 0 = q.getD j 0)) && p.length == q.length) = decide (p = q) := by
  intro p q
  rw [Bool.eq_iff_iff]
  simp only [Bool.and_eq_true, List.all_eq_true, List.mem_range, decide_eq_true_eq, beq_iff_eq]
  constructor
  · rintro ⟨h, e⟩
    refine List.ext_getElem e fun i h1 h2 => ?_
    have := h i (by omega)
    rwa [List.getD_eq_getElem?_getD, List.getD_eq_getElem?_getD, List.getElem?_eq_getElem h1, List.getElem?_eq_getElem h2] at this
  · rintro rfl
    exact ⟨fun _ _ => rfl, rfl⟩
theorem Els.int_at {g : Heap} : ∀ {p : List Int} {vs : List Value}, Els g (p.map VP.int) vs → ∀ j (h : j < vs.length), (VP.int (p.getD j 0)).P g vs[j] := by
  intro p
  induction p with
  | nil => intro vs h j hj; cases h; simp at hj
  | cons i r ih =>
    intro vs h j hj
    rw [List.map_cons] at h
    cases h with
    | cons a t =>
      cases j with
      | zero => simpa using a
      | succ j => simpa using ih t j (by simpa using hj)

theorem op_ne_path {C : Cx} {s : Shared} {p q : Path} (O : Ok C s) : Op2 C s (compareOp .NotEq) (pathV p) (pathV q) (VP.bool (!decide (p = q))).P := fun s' E x y k hx hy => by
  obtain ⟨a, vs, n, rfl, ta, ea⟩ := (pathV p).mono hid_le hx
  obtain ⟨b, ws, m, rfl, tb, eb⟩ := (pathV q).mono hid_le hy
  have l1 : p.length = vs.size := by simpa using ea.length
  have l2 : q.length = ws.size := by simpa using eb.length
  refine PySem.richCompare_meets_room (op := .NotEq) ⟨_, ta, rfl⟩ ⟨_, tb, rfl⟩ PySem.F.slot_tuple_ne PySem.F.entry_tuple_ne (PySem.F.args_tuple_ne_2 _ _)
    (SeqAt.tuple_neAt a b vs ws n m _ _ _ _ fun j => decide (p.getD j 0 = q.getD j 0)) ⟨ta, tb, fun j h1 h2 => ?_, ?_, ?_⟩ O.u
  · have i1 := ea.int_at j (by simpa using h1)
    have i2 := eb.int_at j (by simpa using h2)
    rw [Array.getElem_toList] at i1 i2
    exact eqAt_int i1 i2
  · exact fun e => nomatch e
  · rw [← l1, ← l2, getD_all_eq]; exact ⟨keepsRefl _, rfl⟩

/-! dicts with int keys -/
def DictP (prog : Program) (w : World) (kvs : List (Int × VP)) (g : Heap) (v : Value) : Prop :=
  ∃ a ws, v = .ref a ∧ g.DictOf (intKind prog w) a ws ∧ ws.map (·.1) = kvs.map (·.1) ∧ Els g (kvs.map (·.2)) (ws.map (·.2)) ∧ (a == sysModules) = false
theorem dictOf_kp {prog : Program} {w : World} {g g' : Heap} {a : Addr} {ws : List (Int × Value)} (h : g.DictOf (intKind prog w) a ws) (k : Kp g g') : g'.DictOf (intKind prog w) a ws :=
  let ⟨o, es, ep, e, r⟩ := h; ⟨o, es, ep, k _ _ e, r⟩
def VP.dict (prog : Program) (w : World) (kvs : List (Int × VP)) : VP := ⟨DictP prog w kvs, fun k h => by
  obtain ⟨a, ws, e, d, m, x, l⟩ := h; exact ⟨a, ws, e, dictOf_kp d k, m, x.mono k, l⟩⟩
abbrev Cx.dict (C : Cx) (kvs : List (Int × VP)) : VP := VP.dict C.prog C.w kvs

theorem look_some {g : Heap} {k : Int} {T : VP} : ∀ {kvs : List (Int × VP)} {ws : List (Int × Value)}, ws.map (·.1) = kvs.map (·.1) → Els g (kvs.map (·.2)) (ws.map (·.2)) → look k kvs = some T → ∃ v, valueAt ws k = some v ∧ T.P g v := by
  intro kvs
  induction kvs with
  | nil => intro ws _ _ h; cases h
  | cons p r ih =>
    intro ws hm hx h
    obtain ⟨j, U⟩ := p
    cases ws with
    | nil => cases hm
    | cons q t =>
      obtain ⟨j', u⟩ := q
      simp only [List.map_cons, List.cons.injEq] at hm hx
      obtain ⟨rfl, hm⟩ := hm
      cases hx with
      | cons a tl =>
        rw [look] at h
        by_cases e : j' = k
        · subst e
          rw [if_pos rfl] at h; cases h
          exact ⟨u, by simp [valueAt], a⟩
        · rw [if_neg e] at h
          obtain ⟨v, h1, h2⟩ := ih hm tl h
          exact ⟨v, by rw [← h1]; simp [valueAt, List.find?_cons, e], h2⟩
theorem look_none {k : Int} : ∀ {kvs : List (Int × VP)} {ws : List (Int × Value)}, ws.map (·.1) = kvs.map (·.1) → look k kvs = none → valueAt ws k = none := by
  intro kvs
  induction kvs with
  | nil => intro ws hm _; cases ws with | nil => rfl | cons _ _ => cases hm
  | cons p r ih =>
    intro ws hm h
    obtain ⟨j, U⟩ := p
    cases ws with
    | nil => cases hm
    | cons q t =>
      obtain ⟨j', u⟩ := q
      simp only [List.map_cons, List.cons.injEq] at hm
      obtain ⟨rfl, hm⟩ := hm
      rw [look] at h
      by_cases e : j' = k
      · rw [if_pos e] at h; cases h
      · rw [if_neg e] at h
        rw [← ih hm h]; simp [valueAt, List.find?_cons, e]
theorem look_map {α : Type} (f : α → VP) (k : Int) : ∀ l : List (Int × α), look k (l.map fun p => (p.1, f p.2)) = (look k l).map f := by
  intro l
  induction l with
  | nil => rfl
  | cons p r ih =>
    rw [List.map_cons, look, ih]
    show _ = (look k ((p.1, p.2) :: r)).map f
    rw [look]; split <;> rfl

/-! subscripts -/
theorem Ev_sub {C : Cx} {s : Shared} {value slice : Expr} {T U V : VP} {tn id : String} {pos} (hv : Ev C s value T) (hi : Ev C s slice U) (ht : ∀ (s : Shared) v, T.P (C.v s) v → s.TypeIs v tn)
    (hl : typeLookup (.type tn) "__getitem__" = pure (some (.builtin id))) (ho : Op2 C s getItem T U V.P) (hs : ∀ o i, ∃ ops, subscripted slice false o i = operate ops (getItem o i) := by intro o i; exact ⟨_, rfl⟩) :
    Ev C s (.Subscript value slice pos) V := fun s' E k =>
  Subscript_ (hv.use k fun a s₁ k₁ ha => hi.use (keepsTrans k k₁) fun b s₂ k₂ hb => by
    obtain ⟨ops, he⟩ := hs a b
    exact tail_any (ht s₂ a (T.mono (keepsV k₂) ha)) hl (ho.use (keepsTrans k (keepsTrans k₁ k₂)) (VP.mono _ (keepsV k₂) ha) hb fun v s₃ k₃ hv => ⟨keepsTrans k₁ (keepsTrans k₂ k₃), hv⟩) he)

theorem dict_typeIs {C : Cx} {kvs : List (Int × VP)} (s : Shared) (v : Value) (h : (C.dict kvs).P (C.v s) v) : s.TypeIs v "dict" := by
  obtain ⟨a, ws, rfl, d, _⟩ := h
  obtain ⟨o, _, _, e, hc, _⟩ := d
  exact ⟨o, hid_le _ _ e, hc.1⟩
theorem tup_typeIs {C : Cx} {Ts : List VP} (s : Shared) (v : Value) (h : (VP.tup Ts).P (C.v s) v) : s.TypeIs v "tuple" := by
  obtain ⟨a, vs, n, rfl, d, _⟩ := h
  exact ⟨_, hid_le _ _ d, rfl⟩
theorem list_typeIs {C : Cx} {Ts : List VP} (s : Shared) (v : Value) (h : (VP.list Ts).P (C.v s) v) : s.TypeIs v "list" := by
  obtain ⟨a, vs, n, rfl, d, _⟩ := h
  exact ⟨_, hid_le _ _ d, rfl⟩

theorem op_item_dict {C : Cx} {s : Shared} {kvs : List (Int × VP)} {k : Int} {T : VP} (h : look k kvs = some T) : Op2 C s getItem (C.dict kvs) (.int k) T.P := fun s' E x y ks hx ⟨t, hy⟩ => by
  subst hy
  obtain ⟨a, ws, rfl, d, m, x, l⟩ := hx
  obtain ⟨v, h1, h2⟩ := look_some m x h
  exact wpAny_getItem_of (knd := intKind C.prog C.w) (k := k) (by show Value.isInt k (.int k t) = true; simp [Value.isInt]) (dictOf_kp d hid_le).mapOf h1 ⟨keepsToks _ _, T.mono (fun _ _ e => e) h2⟩
theorem Ev_item_dict {C : Cx} {s : Shared} {value slice : Expr} {kvs : List (Int × VP)} {k : Int} {T : VP} {pos} (hv : Ev C s value (C.dict kvs)) (hi : Ev C s slice (.int k)) (h : look k kvs = some T)
    (hs : ∀ o i, ∃ ops, subscripted slice false o i = operate ops (getItem o i) := by intro o i; exact ⟨_, rfl⟩) : Ev C s (.Subscript value slice pos) T :=
  Ev_sub hv hi dict_typeIs slot_dict_getitem.lookup (op_item_dict h) hs

theorem op_item_tup {C : Cx} {s : Shared} {Ts : List VP} {k : Nat} {T : VP} (h : Ts[k]? = some T) (hk : k < 1000) : Op2 C s getItem (.tup Ts) (.int k) T.P := fun s' E x y ks hx ⟨t, hy⟩ => by
  subst hy
  obtain ⟨a, vs, n, rfl, d, x⟩ := hx
  obtain ⟨v, h1, h2⟩ := x.get h
  have hsz : k < vs.size := by
    have := (List.getElem?_eq_some_iff.mp h1).1
    simpa using this
  refine PyProof.Rows.getItem_tuple (j := k) ⟨_, hid_le _ _ d, rfl, n, rfl⟩ (by omega) (by omega) ?_ (by simpa using h1) ⟨keepsRefl _, h2⟩
  unfold seqIndex?
  simp only [show ¬ ((k : Int) < 0) by omega, if_false]
  simp [hsz]
theorem Ev_item_tup {C : Cx} {s : Shared} {value slice : Expr} {Ts : List VP} {k : Nat} {T : VP} {pos} (hv : Ev C s value (.tup Ts)) (hi : Ev C s slice (.int k)) (h : Ts[k]? = some T) (hk : k < 1000)
    (hs : ∀ o i, ∃ ops, subscripted slice false o i = operate ops (getItem o i) := by intro o i; exact ⟨_, rfl⟩) : Ev C s (.Subscript value slice pos) T :=
  Ev_sub hv hi tup_typeIs slot_tuple_getitem.lookup (op_item_tup h hk) hs
theorem op_item_list {C : Cx} {s : Shared} {Ts : List VP} {k : Nat} {T : VP} (h : Ts[k]? = some T) (hk : k < 1000) : Op2 C s getItem (.list Ts) (.int k) T.P := fun s' E x y ks hx ⟨t, hy⟩ => by
  subst hy
  obtain ⟨a, vs, n, rfl, d, x⟩ := hx
  obtain ⟨v, h1, h2⟩ := x.get h
  exact wpAny_getItem_list (items := vs) ⟨_, hid_le _ _ d, rfl, n, rfl⟩ (by omega) (by omega) (by simpa using h1) ⟨keepsRefl _, h2⟩
theorem Ev_item_list {C : Cx} {s : Shared} {value slice : Expr} {Ts : List VP} {k : Nat} {T : VP} {pos} (hv : Ev C s value (.list Ts)) (hi : Ev C s slice (.int k)) (h : Ts[k]? = some T) (hk : k < 1000)
    (hs : ∀ o i, ∃ ops, subscripted slice false o i = operate ops (getItem o i) := by intro o i; exact ⟨_, rfl⟩) : Ev C s (.Subscript value slice pos) T :=
  Ev_sub hv hi list_typeIs slot_list_getitem.lookup (op_item_list h hk) hs

/-! slices -/
inductive PartV (C : Cx) (s : Shared) : Option Expr → Option Int → Prop
  | none : PartV C s none none
  | int {e : Expr} {i : Int} (h : Ev C s e (.int i)) : PartV C s (some e) (some i)
theorem PartV.go {C : Cx} {s : Shared} {e : Option Expr} {i : Option Int} (h : PartV C s e i) : Go C s (evalPart e C.env) fun _ v => IsPart v i := fun s' E k => by
  cases h with
  | none => exact wpAny_pure ⟨keepsRefl _, .none⟩
  | int h => exact h.use k fun v s₁ k₁ hv => by obtain ⟨t, rfl⟩ := hv; exact ⟨k₁, .int _ _⟩
def VP.slice (lo hi st : Option Int) : VP := ⟨fun g v => ∃ a vl vu vs, v = .ref a ∧ g.IsSliceOf a vl vu vs ∧ IsPart vl lo ∧ IsPart vu hi ∧ IsPart vs st, fun k h => by
  obtain ⟨a, vl, vu, vs, e, ⟨o, x, r⟩, q⟩ := h; exact ⟨a, vl, vu, vs, e, ⟨o, k _ _ x, r⟩, q⟩⟩
theorem Ev_slice {C : Cx} {s : Shared} {l u t : Option Expr} {lo hi st : Option Int} {p} (O : Ok C s) (h1 : PartV C s l lo) (h2 : PartV C s u hi) (h3 : PartV C s t st) : Ev C s (.Slice l u t p) (.slice lo hi st) := fun s' E k =>
  wpAny_Slice (h1.go.use k fun a s₁ k₁ ha => h2.go.use (keepsTrans k k₁) fun b s₂ k₂ hb => h3.go.use (keepsTrans k (keepsTrans k₁ k₂)) fun c s₃ k₃ hc =>
    ⟨keepsTrans k₁ (keepsTrans k₂ (keepsTrans k₃ (keepsPush _ _))), s₃.heap.objs.size, a, b, c, rfl, ⟨_, (O.later (keepsTrans k (keepsTrans k₁ (keepsTrans k₂ k₃)))).push, rfl, rfl⟩, ha, hb, hc⟩)

theorem op_tup_from {C : Cx} {s : Shared} {Ts : List VP} {a : Nat} (O : Ok C s) (h1 : 1 ≤ a) (h2 : a ≤ Ts.length) (h3 : Ts.length ≤ 1000) : Op2 C s getItem (.tup Ts) (.slice (some (a : Int)) none none) (VP.tup (Ts.drop a)).P := fun s' E x y k hx hy => by
  obtain ⟨c, vs, n, rfl, d, e⟩ := hx
  obtain ⟨b, vl, vu, vt, rfl, sl, p1, p2, p3⟩ := hy
  cases p1; cases p2; cases p3
  have hl : Ts.length = vs.size := by simpa using e.length
  refine getItem_tuple_from (a := a) ⟨_, hid_le _ _ d, rfl, n, rfl⟩ (let ⟨o, q, r⟩ := sl; ⟨o, hid_le _ _ q, r⟩) h1 (by omega) ?_ (by rw [sizeLine_eq]; omega)
  exact ⟨keepsPush _ _, _, _, 0, rfl, (O.later k).push, (e.drop a).mono (hid_kp fun _ _ q => Heap.get?_push_of_some _ q)⟩
theorem Ev_tup_from {C : Cx} {s : Shared} {value e : Expr} {Ts : List VP} {a : Nat} {p pos} (O : Ok C s) (hv : Ev C s value (.tup Ts)) (hi : Ev C s e (.int a)) (h1 : 1 ≤ a) (h2 : a ≤ Ts.length) (h3 : Ts.length ≤ 1000) :
    Ev C s (.Subscript value (.Slice (some e) none none p) pos) (.tup (Ts.drop a)) :=
  Ev_sub hv (Ev_slice O (.int hi) .none .none) tup_typeIs slot_tuple_getitem.lookup (op_tup_from O h1 h2 h3) fun o i => ⟨_, rfl⟩
theorem op_list_slice {C : Cx} {s : Shared} {Ts : List VP} {lo hi st : Option Int} {Us : List VP} (O : Ok C s) (h0 : st ≠ some 0) (h3 : Ts.length ≤ 1000)
    (hU : ∀ g vs, Els g Ts vs → Els g Us (slicePick vs.toArray lo hi st).toList) : Op2 C s getItem (.list Ts) (.slice lo hi st) (VP.list Us).P := fun s' E x y k hx hy => by
  obtain ⟨c, vs, n, rfl, d, e⟩ := hx
  obtain ⟨b, vl, vu, vt, rfl, sl, p1, p2, p3⟩ := hy
  have hl : Ts.length = vs.size := by simpa using e.length
  refine wpAny_getItem_list_slice (items := vs) ⟨_, hid_le _ _ d, rfl, n, rfl⟩ (let ⟨o, q, r⟩ := sl; ⟨o, hid_le _ _ q, r⟩) p1 p2 p3 h0 ?_ (by rw [sizeLine_eq]; omega)
  exact ⟨keepsPush _ _, _, _, 0, rfl, (O.later k).push, (by simpa using hU _ _ e : Els _ Us (slicePick vs lo hi st).toList).mono (hid_kp fun _ _ q => Heap.get?_push_of_some _ q)⟩
theorem Ev_list_slice {C : Cx} {s : Shared} {value : Expr} {l u t : Option Expr} {Ts Us : List VP} {lo hi st : Option Int} {p pos} (O : Ok C s) (hv : Ev C s value (.list Ts)) (p1 : PartV C s l lo) (p2 : PartV C s u hi) (p3 : PartV C s t st) (h0 : st ≠ some 0) (h3 : Ts.length ≤ 1000)
    (hU : ∀ g vs, Els g Ts vs → Els g Us (slicePick vs.toArray lo hi st).toList) (hs : ∀ o i, ∃ ops, subscripted (.Slice l u t p) false o i = operate ops (getItem o i) := by intro o i; exact ⟨_, rfl⟩) :
    Ev C s (.Subscript value (.Slice l u t p) pos) (.list Us) :=
  Ev_sub hv (Ev_slice O p1 p2 p3) list_typeIs slot_list_getitem.lookup (op_list_slice O h0 h3 hU) hs

/-! dict.get -/
theorem meth_dict {C : Cx} {kvs : List (Int × VP)} {name : Str} {id : String} (slot : Slot "dict" name id) (hty : typeOf (.builtin id) = pure (.type "method_descriptor")) : Meth C (C.dict kvs) name id := fun s v pl E Q h q =>
  getMethod_builtin (dict_typeIs s v h) PySem.F.plainAttrs_dict slot hty (fun a e => by
    obtain ⟨b, ws, rfl, d, _⟩ := h
    cases e
    obtain ⟨o, _, _, g, hc, _⟩ := d
    exact ⟨o, hid_le _ _ g, hc.2.1⟩) q
theorem op_get {C : Cx} {s : Shared} {kvs : List (Int × VP)} {k : Int} {T U : VP} (h : look k kvs = some U ∨ (look k kvs = none ∧ U = T)) : OpN C s (.builtin "dict.get") [C.dict kvs, .int k, T] U.P := fun s' E vs ks hv => by
  cases hv with | cons hx hv => cases hv with | cons hk hv => cases hv with | @cons _ w0 _ _ ht hv => cases hv with | nil =>
  obtain ⟨t, rfl⟩ := hk
  obtain ⟨a, ws, rfl, d, m, x, l⟩ := hx
  have hD := dictOf_kp d hid_le
  refine call_meetsIn PySem.F.slot_dict_get (show s'.TypeIs (.ref a) "dict" from let ⟨o, _, _, e, hc, _⟩ := hD; ⟨o, e, hc.1⟩) PySem.F.entry_dict_get (PySem.F.args_dict_get_3 _ _ _)
    (meets_dict_get_default (intKind C.prog C.w) a (k := k) (by show Value.isInt k (.int k t) = true; simp [Value.isInt]) l w0) ⟨_, hD.mapOf, ?_⟩
  rcases h with h | ⟨h, rfl⟩
  · obtain ⟨v, h1, h2⟩ := look_some m x h
    rw [h1]; exact ⟨keepsToks _ _, h2⟩
  · rw [look_none m h]; exact ⟨keepsToks _ _, ht⟩

/-- an iterator at I over Ts -/
structure Wk (C : Cx) (g : Heap) (I : Addr) (fp : List Addr) (Ts : List VP) (St : Nat → Heap → Prop) : Prop where
  w : ∃ P : Nat → Value → Prop, Walks C.prog C.w C.A I (I :: fp) [I] Ts.length P St ∧ ∀ i v, P i v → ∃ T, Ts[i]? = some T ∧ T.P g v
  look : ∀ i h, St i h → ∃ o c vs, h.get? I = some o ∧ o.cls = .type c ∧ o.data = .fields vs ∧ (["enumerate", "zip", "dict_itemiterator", "dict_reverseitemiterator", "odict_iterator", "itertools.zip_longest", "itertools.pairwise"] : List String).contains c = false
theorem Wk.live {C : Cx} {g : Heap} {I : Addr} {fp : List Addr} {Ts : List VP} {St : Nat → Heap → Prop} (W : Wk C g I fp Ts St) (i h) (st : St i h) : ∃ o, h.get? I = some o := let ⟨o, _, _, e, _⟩ := W.look i h st; ⟨o, e⟩

/-- values of T are iterated over, and give Ts -/
def Iterates (C : Cx) (T : VP) (Ts : List VP) : Prop :=
  ∀ (s : Shared) (v : Value) (E : Value → Shared → Prop) (Q : Value → Shared → Prop), Ok C s → T.P (C.v s) v →
    (∀ I s₁ fp St, Keeps s s₁ → s.heap.get? I = none → Wk C (C.v s) I fp Ts St → St 0 s₁.heap → (∀ b ∈ fp, b ∉ C.H ∧ b ≠ I ∧ ∃ o, s.heap.get? b = some o) → Q (.ref I) s₁) → wpAny C.M C.A (pyIter v) Q E s

theorem iter_list {C : Cx} {Ts : List VP} : Iterates C (.list Ts) Ts := fun s v E Q O hv q => by
  obtain ⟨a, vs, n, rfl, d, e⟩ := hv
  have d' := hid_le _ _ d
  have hne : a ≠ s.heap.objs.size := Nat.ne_of_lt (Heap.lt_size d')
  have hl : Ts.length = vs.size := by simpa using e.length
  have W : Wk C (C.v s) s.heap.objs.size [a] Ts _ := ⟨⟨_, hl ▸ Walks.list (prog := C.prog) (w := C.w) O.hd s.heap.objs.size a hne vs, fun i v h => by
    have : i < Ts.length := by rw [hl]; exact (Array.getElem?_eq_some_iff.mp h).1
    obtain ⟨u, h1, h2⟩ := e.get (List.getElem?_eq_getElem this)
    rw [Array.getElem?_toList, h] at h1; cases h1
    exact ⟨_, List.getElem?_eq_getElem this, h2⟩⟩, fun i h st => by obtain ⟨⟨o, h1, h2, h3⟩, _⟩ := st; exact ⟨o, _, _, h1, h2, h3, by decide⟩⟩
  refine wpAny_pyIter_list (items := vs) ⟨_, d', rfl, n, rfl⟩ (q s.heap.objs.size _ [a] _ (keepsPush _ _) (Heap.get?_none_of_le (Nat.le_refl _)) W ?_ ?_)
  · exact ⟨⟨_, Heap.get?_push_size _ rfl, rfl, rfl⟩, ⟨_, Heap.get?_push_of_some _ d', rfl, n, rfl⟩⟩
  · intro b hb
    rw [List.mem_singleton] at hb; subst hb
    exact ⟨hid_not d, hne, _, d'⟩
theorem iter_tup {C : Cx} {Ts : List VP} : Iterates C (.tup Ts) Ts := fun s v E Q O hv q => by
  obtain ⟨a, vs, n, rfl, d, e⟩ := hv
  have d' := hid_le _ _ d
  have hne : a ≠ s.heap.objs.size := Nat.ne_of_lt (Heap.lt_size d')
  have hl : Ts.length = vs.size := by simpa using e.length
  have W : Wk C (C.v s) s.heap.objs.size [a] Ts _ := ⟨⟨_, hl ▸ Walks.tuple (prog := C.prog) (w := C.w) O.hd s.heap.objs.size a hne vs, fun i v h => by
    have : i < Ts.length := by rw [hl]; exact (Array.getElem?_eq_some_iff.mp h).1
    obtain ⟨u, h1, h2⟩ := e.get (List.getElem?_eq_getElem this)
    rw [Array.getElem?_toList, h] at h1; cases h1
    exact ⟨_, List.getElem?_eq_getElem this, h2⟩⟩, fun i h st => by obtain ⟨⟨o, h1, h2, h3⟩, _⟩ := st; exact ⟨o, _, _, h1, h2, h3, by decide⟩⟩
  refine wpAny_pyIter_tuple (items := vs) ⟨_, d', rfl, n, rfl⟩ (q s.heap.objs.size _ [a] _ (keepsPush _ _) (Heap.get?_none_of_le (Nat.le_refl _)) W ?_ ?_)
  · exact ⟨⟨_, Heap.get?_push_size _ rfl, rfl, rfl⟩, ⟨_, Heap.get?_push_of_some _ d', rfl, n, rfl⟩⟩
  · intro b hb
    rw [List.mem_singleton] at hb; subst hb
    exact ⟨hid_not d, hne, _, d'⟩

section
variable {C : Cx} {s₀ s s' : Shared} {H₀ : List Addr} {k : Nat} {ρ ρ' : Rho} {μ μ' : Mu}

/-- the places that are not kept -/
def Cx.mine (C : Cx) : List Addr := C.H.filter fun a => (C.g.get? a).isNone
theorem mine_of {a : Addr} (h : a ∈ C.H) (n : C.g.get? a = none) : a ∈ C.mine := List.mem_filter.mpr ⟨h, by rw [n]; rfl⟩
theorem mine_H {a : Addr} (h : a ∈ C.mine) : a ∈ C.H := (List.mem_filter.mp h).1
theorem mine_g {a : Addr} (h : a ∈ C.mine) : C.g.get? a = none := by simpa using (List.mem_filter.mp h).2

theorem off_of_new (W : Wf C.env C.H s.heap) {a : Addr} (n : s.heap.get? a = none) : Off C.env a := by
  refine ⟨fun e => ?_, fun x c l e => ?_⟩
  · obtain ⟨m, o, _, _, h, _⟩ := W.ns
    rw [e, h] at n; cases n
  · obtain ⟨⟨v, o, h, _⟩, _⟩ := W.cell x c l
    rw [e, h] at n; cases n
theorem new_of_keep {g h : Heap} (kp : Kp g h) {a : Addr} (n : h.get? a = none) : g.get? a = none := by
  cases e : g.get? a with
  | none => rfl
  | some o => rw [kp a o e] at n; cases n

/-- a new place, hidden -/
theorem Bd.hide (B : Bd C s₀ H₀ k s ρ μ) {I : Addr} (ks : Keeps s s') (n : s.heap.get? I = none) (l : ∃ o, s'.heap.get? I = some o) : Bd { C with H := I :: C.H } s₀ H₀ k s' ρ μ ∧ Own { C with H := I :: C.H } I := by
  have B' := B.later ks
  have kp : Kp (C.v s) (hid (I :: C.H) s'.heap) := hid_new (H' := [I]) (keepsKp ks) fun a m => by rw [List.mem_singleton] at m; rw [m]; exact n
  refine ⟨{ B' with
    low := fun a m => ?_
    wf := { B'.wf with loc := .tail _ B'.wf.loc, cell := fun x c e => let ⟨h1, h2, h3⟩ := B'.wf.cell x c e; ⟨h1, .tail _ h2, h3⟩ }
    sub := fun a m => .tail _ (B.sub a m)
    vars := fun x T m => let ⟨v, h1, h2⟩ := B.vars x T m; ⟨v, h1.keeps (keepsKp ks), T.mono kp h2⟩
    own := fun a V m => let ⟨h1, o, h2, h3⟩ := B.own a V m; ⟨⟨.tail _ h1.hid, h1.off, h1.new⟩, o, keepsKp ks _ _ h2, V.mono kp h3⟩ }, .head _, off_of_new B.wf n, new_of_keep B.keep n⟩
  rcases List.mem_cons.mp m with rfl | m
  · exact l
  · exact B'.low a m

/-- a turn of a loop begins: all that is not one's own is kept from here on -/
theorem Bd.turn {I : Addr} (B : Bd { C with H := I :: C.H } s₀ H₀ k s ρ μ) (hI : I ∉ C.H) (hμ : ∀ p ∈ μ, p.1 ∈ C.H) (hl : C.env.locals ∈ C.H) : Bd { C with H := I :: C.H, g := hid C.mine s.heap } s₀ H₀ k s ρ μ := by
  have kg : Kp C.g (hid C.mine s.heap) := fun b o e => hideAll_get _ (B.keep b o e) fun m => by rw [mine_g m] at e; cases e
  exact { B with
    base := B.base.trans kg
    keep := hid_le
    loc := hideAll_none _ (mine_of hl B.loc)
    own := fun a V m => let ⟨h1, r⟩ := B.own a V m; ⟨⟨h1.hid, h1.off, hideAll_none _ (mine_of (hμ _ m) h1.new)⟩, r⟩ }

theorem kg_mine (keep : Kp C.g s.heap) : Kp C.g (hid C.mine s.heap) := fun b o e => hideAll_get _ (keep b o e) fun m => by rw [mine_g m] at e; cases e

/-- .. and ends -/
theorem Bd.unturn {I : Addr} {s₁ : Shared} {ρ₁ : Rho} {μ₁ : Mu} (B₁ : Bd { C with H := I :: C.H } s₀ H₀ k s₁ ρ₁ μ₁) (B : Bd { C with H := I :: C.H, g := hid C.mine s₁.heap } s₀ H₀ k s ρ μ) : Bd { C with H := I :: C.H } s₀ H₀ k s ρ μ := by
  have kg : Kp C.g (hid C.mine s₁.heap) := kg_mine B₁.keep
  exact { B with
    base := B₁.base
    keep := kg.trans B.keep
    loc := B₁.loc
    own := fun a V m => let ⟨h1, r⟩ := B.own a V m; ⟨⟨h1.hid, h1.off, new_of_keep kg h1.new⟩, r⟩ }

/-- out of a loop -/
theorem Bd.show {I : Addr} (B : Bd { C with H := I :: C.H } s₀ H₀ k s ρ μ) (b : But I s s') (hI : I ∉ C.H) (hμ : ∀ p ∈ μ, p.1 ∈ C.H) (hs : ∀ a ∈ H₀, a ∈ C.H) (n : C.g.get? I = none) (hw : C.env.locals ∈ C.H ∧ ∀ x c, C.env.cells.lookup x = some c → c ∈ C.H) : Bd C s₀ H₀ k s' ρ μ := by
  have kp : Kp (hid (I :: C.H) s.heap) (C.v s') := hid_of fun b' o nb e => ⟨b.ext b' o (fun q => nb (q ▸ .head _)) e, fun m => nb (.tail _ m)⟩
  have off : Off C.env I := ⟨fun e => hI (e ▸ hw.1), fun x c l e => hI (e ▸ hw.2 x c l)⟩
  refine { B with
    low := fun a m => ?_
    keep := kpBut B.keep b.ext n
    sm := B.sm.trans b.sm
    wf := { B.wf.but b.ext off with loc := hw.1, cell := fun x c e => let ⟨h1, h2, h3⟩ := (B.wf.but b.ext off).cell x c e; ⟨h1, hw.2 x c e, h3⟩ }
    sub := hs
    vars := fun x T m => let ⟨v, h1, h2⟩ := B.vars x T m; ⟨v, h1.but b.ext off, T.mono kp h2⟩
    own := fun a V m => let ⟨h1, o, h2, h3⟩ := B.own a V m; ⟨⟨hμ _ m, h1.off, h1.new⟩, o, b.ext a o (fun q => hI (by rw [← q]; exact hμ _ m)) h2, V.mono kp h3⟩ }
  obtain ⟨o, e⟩ := B.low a (.tail _ m)
  exact ⟨o, b.ext a o (fun q => hI (q ▸ m)) e⟩

/-- a for -/
theorem for_ (B : Bd C s₀ H₀ k s ρ μ) {target iter : Expr} {body : List Stmt} {pos : Pos} {T : VP} {Ts : List VP} {Q : Flow → Shared → Prop} {E : Value → Shared → Prop} (h : Ev C s iter T) (hi : Iterates C T Ts)
    (J : Nat → Prop) (ρf : Nat → Rho) (μf : Nat → Mu) (hJ : J 0) (hρ : ∀ p ∈ ρf 0, p ∈ ρ) (hμ : ∀ p ∈ μf 0, p ∈ μ)
    (step : ∀ H' g' s' i U v E', (CellsNew C → CellsNew { C with H := H', g := g' }) → J i → Ts[i]? = some U → U.P (hid H' s'.heap) v → Bd { C with H := H', g := g' } s₀ H₀ k s' (ρf i) (μf i) →
      wpAny C.M C.A (assign target C.env v) (fun _ s₂ => wpAny C.M C.A (execs body C.env) (fun f s₃ => match f with
        | .next | .cont => J (i + 1) ∧ Bd { C with H := H', g := g' } s₀ H₀ k s₃ (ρf (i + 1)) (μf (i + 1))
        | .brk => Q .next s₃
        | .ret v => Q (.ret v) s₃) E' s₂) E' s')
    (fin : ∀ s', J Ts.length → Bd C s₀ H₀ k s' (ρf Ts.length) (μf Ts.length) → Q .next s')
    (hf : ∀ x, foldedSetIterable iter C.env x = pure x := by intro _; rfl) (ht : ∀ v, letOwnedTupleGo target (.ref 0) v = pure () := by intro _; rfl)
    (ht' : ∀ I v, letOwnedTupleGo target (.ref I) v = letOwnedTupleGo target (.ref 0) v := by intro _ _; rfl) :
    wpAny C.M C.A (exec (.For target iter body [] pos) C.env) Q E s := by
  refine wpAny_For (h.use (keepsRefl _) fun v s₁ k₁ hv => hi s₁ v _ _ (B.later k₁).ok hv fun I s₂ fp St k₂ hnew W hst hfp => ?_) hf
  have B₁ := (B.less hρ).lessM hμ |>.later k₁
  have hlive := W.live
  obtain ⟨⟨P, WW, hP⟩, _⟩ := W
  have hIH : I ∉ C.H := fun m => by obtain ⟨o, e⟩ := B₁.low I m; rw [e] at hnew; cases hnew
  obtain ⟨B₂, hOI⟩ := B₁.hide k₂ hnew (hlive 0 _ hst)
  have hcH : ∀ x c, C.env.cells.lookup x = some c → c ∈ C.H := fun x c e => (B.wf.cell x c e).2.1
  have hkp : Kp (C.v s₁) (hid (I :: C.H) s₂.heap) := hid_new (H' := [I]) (keepsKp k₂) fun a m => by rw [List.mem_singleton] at m; rw [m]; exact hnew
  refine codeAny_forLoop (fun n s' => ∃ i, n = Ts.length + 1 - i ∧ i ≤ Ts.length ∧ J i ∧ St i s'.heap ∧ Bd { C with H := I :: C.H } s₀ H₀ k s' (ρf i) (μf i) ∧ (∀ p ∈ μf i, p.1 ∈ C.H) ∧ Kp (C.v s₁) (hid (I :: C.H) s'.heap)) ?_ (Ts.length + 1)
    ⟨0, rfl, Nat.zero_le _, hJ, hst, B₂, fun p m => (B₁.own p.1 p.2 m).1.hid, hkp⟩ (fun v => (ht' I v).trans (ht v))
  rintro n s' ⟨i, rfl, hin, hJi, hsti, Bi, hmi, hkpi⟩
  by_cases hlt : i < Ts.length
  · refine WW.item i _ _ _ hlt hsti fun u h' tk hPu hst' hk' => ?_
    obtain ⟨U, hU, hu⟩ := hP i u hPu
    have hb : But I s' { s' with heap := h', toks := tk } := ⟨h', tk, rfl, fun b o hne e => hk' b o (by simpa using hne) e⟩
    have B' := Bi.but (μ' := μf i) hb hOI (hlive _ _ hst') fun p m => ⟨fun e => hIH (e ▸ hmi p m), m⟩
    have hkp' : Kp (hid (I :: C.H) s'.heap) (hid (I :: C.H) h') := hid_but hb.ext (.head _)
    have Bt := B'.turn hIH hmi B.wf.loc
    refine wpAny_mono (step (I :: C.H) (hid C.mine h') _ i U u _ (fun hc x c e => hideAll_none _ (mine_of (hcH x c e) (hc x c e))) hJi hU (U.mono (hkpi.trans hkp') hu) Bt) (fun _ s₃ h₃ => wpAny_mono h₃ (fun f s₄ h₄ => ?_) fun _ _ e => e) fun _ _ e => e
    have nxt : J (i + 1) ∧ Bd { C with H := I :: C.H, g := hid C.mine h' } s₀ H₀ k s₄ (ρf (i + 1)) (μf (i + 1)) → ∃ m, m < Ts.length + 1 - i ∧ ∃ i, m = Ts.length + 1 - i ∧ i ≤ Ts.length ∧ J i ∧ St i s₄.heap ∧ Bd { C with H := I :: C.H } s₀ H₀ k s₄ (ρf i) (μf i) ∧ (∀ p ∈ μf i, p.1 ∈ C.H) ∧ Kp (C.v s₁) (hid (I :: C.H) s₄.heap) := fun ⟨hJ', b₄⟩ => by
      have kept : ∀ b o, b ∉ C.mine → h'.get? b = some o → s₄.heap.get? b = some o := fun b o hb e => b₄.keep b o (hideAll_get _ e hb)
      refine ⟨Ts.length + 1 - (i + 1), by omega, i + 1, rfl, hlt, hJ', WW.frame _ _ _ hst' fun b hb o e => kept b o (fun m => ?_) e, B'.unturn b₄, fun p m => ?_, hkpi.trans (hkp'.trans (hid_of fun b o nb e => ⟨kept b o (fun m => nb (.tail _ (mine_H m))) e, nb⟩))⟩
      · rcases List.mem_cons.mp hb with e | hb
        · exact hIH (e ▸ mine_H m)
        · exact (hfp b hb).1 (mine_H m)
      · obtain ⟨o, _⟩ := b₄.own p.1 p.2 m
        rcases List.mem_cons.mp o.hid with e | q
        · exfalso
          obtain ⟨oI, eI⟩ := hlive _ _ hst'
          have := o.new
          rw [e] at this
          rw [show (hid C.mine h').get? I = some oI from hideAll_get _ eI fun m => hIH (mine_H m)] at this
          cases this
        · exact q
    cases f with
    | next => exact nxt h₄
    | cont => exact nxt h₄
    | brk => exact h₄
    | ret v => exact h₄
  · have e : i = Ts.length := by omega
    subst e
    refine WW.done _ _ _ hsti fun h' tk hk' => wpAny_execs_nil ?_
    exact fin _ hJi (Bi.show ⟨h', tk, rfl, fun b o hne e => hk' b o (by simpa using hne) e⟩ hIH hmi B.sub (new_of_keep B₁.keep hnew) ⟨B.wf.loc, hcH⟩)
end

theorem sub_nil {x : Str} {ρ : Rho} : ∀ p ∈ ([] : Rho), p.1 ≠ x ∧ p ∈ ρ := fun p m => nomatch m
theorem sub_cons {x y : Str} {T : VP} {ρ r : Rho} (h : y ≠ x) (m : (y, T) ∈ ρ) (q : ∀ p ∈ r, p.1 ≠ x ∧ p ∈ ρ) : ∀ p ∈ (y, T) :: r, p.1 ≠ x ∧ p ∈ ρ := fun p hp => by
  rcases List.mem_cons.mp hp with e | hp
  · rw [e]; exact ⟨h, m⟩
  · exact q p hp
theorem less_nil {ρ : Rho} : ∀ p ∈ ([] : Rho), p ∈ ρ := fun p m => nomatch m
theorem less_cons {y : Str × VP} {ρ r : Rho} (m : y ∈ ρ) (q : ∀ p ∈ r, p ∈ ρ) : ∀ p ∈ y :: r, p ∈ ρ := fun p hp => by
  rcases List.mem_cons.mp hp with e | hp
  · rw [e]; exact m
  · exact q p hp

/-- the cells that a comprehension takes -/
def closOf (env : Env) : List (Str × NameKind) → List (Str × Addr) → List (Str × Addr)
  | [], acc => acc
  | (n, k) :: r, acc => closOf env r (if k == .free then (match env.cells.lookup n with | some c => (n, c) :: acc | none => acc) else acc)

theorem closureFor_eq {env : Env} {scope : Scope} (h : ∀ x ∈ scope.names, x.2 = .free → (env.cells.lookup x.1).isSome = true) : closureFor scope env = pure (closOf env scope.names []) := by
  unfold closureFor
  have key : ∀ (l : List (Str × NameKind)) (acc : List (Str × Addr)), (∀ x ∈ l, x.2 = .free → (env.cells.lookup x.1).isSome = true) →
      (forIn l acc (fun (x : Str × NameKind) (cs : List (Str × Addr)) => (if (x.2 == NameKind.free) = true then do let c ← cellOf env x.1; pure (ForInStep.yield ((x.1, c) :: cs)) else pure (ForInStep.yield cs) : Sem (ForInStep (List (Str × Addr)))))) = pure (closOf env l acc) := by
    intro l
    induction l with
    | nil => intro acc _; rfl
    | cons x r ih =>
      intro acc hx
      obtain ⟨n, kd⟩ := x
      rw [List.forIn_cons, closOf]
      by_cases hk : kd = .free
      · subst hk
        obtain ⟨c, hc⟩ := Option.isSome_iff_exists.mp (hx (n, .free) (.head _) rfl)
        have e : cellOf env n = pure c := by unfold cellOf; rw [hc]
        simp only [beq_self_eq_true, if_true, e, pure_bind, hc]
        exact ih _ fun y hy => hx y (.tail _ hy)
      · have hb : (kd == NameKind.free) = false := by simpa using hk
        simp only [hb, Bool.false_eq_true, if_false, pure_bind]
        exact ih _ fun y hy => hx y (.tail _ hy)
  have := key scope.names [] h
  simp only [bind_pure]
  exact this

theorem closOf_sub {env : Env} : ∀ (l : List (Str × NameKind)) (acc : List (Str × Addr)), (∀ n c, (n, c) ∈ acc → env.cells.lookup n = some c) → ∀ n c, (n, c) ∈ closOf env l acc → env.cells.lookup n = some c := by
  intro l
  induction l with
  | nil => intro acc h; exact h
  | cons x r ih =>
    intro acc h
    obtain ⟨n, kd⟩ := x
    rw [closOf]
    refine ih _ fun m c hm => ?_
    split at hm
    · split at hm
      · rename_i c' hc'
        rcases List.mem_cons.mp hm with e | hm
        · cases e; exact hc'
        · exact h m c hm
      · exact h m c hm
    · exact h m c hm

theorem mem_lookup_isSome {α : Type} {x : Str} {c : α} : ∀ {l : List (Str × α)}, (x, c) ∈ l → (l.lookup x).isSome = true := by
  intro l
  induction l with
  | nil => intro h; cases h
  | cons p r ih =>
    intro h
    obtain ⟨y, d⟩ := p
    rw [List.lookup_cons]
    cases hxy : x == y with
    | true => rfl
    | false =>
      rcases List.mem_cons.mp h with e | h
      · cases e; simp at hxy
      · exact ih h
theorem closOf_has {env : Env} {x : Str} {c : Addr} (hc : env.cells.lookup x = some c) : ∀ (l : List (Str × NameKind)) (acc : List (Str × Addr)), (x, c) ∈ acc ∨ (x, NameKind.free) ∈ l → (x, c) ∈ closOf env l acc := by
  intro l
  induction l with
  | nil => intro acc h; rcases h with h | h; exact h; cases h
  | cons p r ih =>
    intro acc h
    obtain ⟨n, kd⟩ := p
    rw [closOf]
    refine ih _ ?_
    rcases h with h | h
    · left
      split
      · split
        · exact .tail _ h
        · exact h
      · exact h
    · rcases List.mem_cons.mp h with e | h
      · cases e
        left
        simp only [beq_self_eq_true, if_true, hc]
        exact .head _
      · exact .inr h
theorem closOf_lookup {env : Env} {x : Str} {c : Addr} {sc : Scope} (hc : env.cells.lookup x = some c) (h : (x, NameKind.free) ∈ sc.names) : (closOf env sc.names []).lookup x = some c := by
  obtain ⟨c', hc'⟩ := Option.isSome_iff_exists.mp (mem_lookup_isSome (closOf_has hc sc.names [] (.inr h)))
  have := closOf_sub (env := env) sc.names [] (fun n c m => nomatch m) x c' (mem_of_lookup hc')
  rw [hc] at this; cases this; exact hc'

/-- a comprehension's names, within a def of these names -/
def relabelD (sc dsc : Scope) : Scope := { sc with names := sc.names.map fun (n, k) => if (k == .free && dsc.kind == .function && dsc.names.lookup n == some .cell) then (n, .cell) else (n, k) }
abbrev cenv (sc : Scope) (I : Addr) (env : Env) : Env := compEnvC sc (closOf env sc.names []) I env
theorem cenv_scope {sc : Scope} {I : Addr} {env : Env} {ds : Scope} (hs : env.scope = ds) : (cenv sc I env).scope = relabelD sc ds := by rw [← hs]; rfl

/-- what the comprehension's scope must be (by computation) -/
structure CompOk (sc ds : Scope) : Prop where
  free : (sc.names.all fun x => x.2 != .free || ds.names.lookup x.1 == some .cell) = true
  cell : (sc.names.all fun x => x.2 != .cell) = true
  kind : sc.kind = .function
  names : (sc.names.all fun x => x.2 != .local || sc.names.lookup x.1 == some .local) = true

theorem relabel_free {x : Str} {dsc : Scope} : ∀ {l : List (Str × NameKind)}, (l.all fun x => x.2 != .cell) = true →
    ((l.map fun (n, k) => if (k == .free && dsc.kind == .function && dsc.names.lookup n == some .cell) then (n, NameKind.cell) else (n, k)).lookup x == some .cell) = true → (x, NameKind.free) ∈ l ∧ dsc.names.lookup x = some .cell := by
  intro l
  induction l with
  | nil => intro _ h; cases h
  | cons p r ih =>
    intro hn h
    obtain ⟨n, kd⟩ := p
    rw [List.all_cons, Bool.and_eq_true] at hn
    rw [List.map_cons, List.lookup_cons] at h
    by_cases hc : (kd == NameKind.free && dsc.kind == .function && dsc.names.lookup n == some .cell) = true
    · simp only [hc, if_true] at h
      cases hx : x == n with
      | true =>
        have e : x = n := by simpa using hx
        subst e
        simp only [Bool.and_eq_true, beq_iff_eq] at hc
        exact ⟨by rw [hc.1.1]; exact .head _, hc.2⟩
      | false => rw [hx] at h; exact let ⟨a, b⟩ := ih hn.2 h; ⟨.tail _ a, b⟩
    · rw [Bool.not_eq_true] at hc
      simp only [hc, Bool.false_eq_true, if_false] at h
      cases hx : x == n with
      | true =>
        rw [hx] at h
        have : kd = .cell := by simpa using h
        subst this
        simp at hn
      | false => rw [hx] at h; exact let ⟨a, b⟩ := ih hn.2 h; ⟨.tail _ a, b⟩

section
variable {C : Cx} {s₀ s s' : Shared} {H₀ : List Addr} {k : Nat} {ρ ρ' : Rho} {μ μ' : Mu} {ds sc : Scope}

theorem lookup_cells {env : Env} {n : Nat} {x : Str} {ds : Scope} (hc : env.cells = cellsFrom n ds.names []) (h : ds.names.lookup x = some .cell) : ∃ c, env.cells.lookup x = some c := by
  rw [hc]; exact Option.isSome_iff_exists.mp (cellsFrom_some _ _ _ (.inl h))

/-- names taken into a comprehension -/
theorem Has.into {env : Env} {h : Heap} {x : Str} {v : Value} {I : Addr} (a : Has env h x v) (hs : env.scope = ds) (O : CompOk sc ds) (hx : ((relabelD sc ds).names.lookup x == some .cell) = true) : Has (cenv sc I env) h x v := by
  obtain ⟨hf, hd⟩ := relabel_free O.cell hx
  have hk : (cenv sc I env).kindOf x = some .cell := by
    show (cenv sc I env).scope.names.lookup x = some .cell
    rw [cenv_scope hs]; simpa using hx
  rcases a with ⟨e, _⟩ | ⟨e, c, l, q⟩
  · have e : env.scope.names.lookup x = some .local := e
    rw [hs, hd] at e; cases e
  · exact .inr ⟨hk, c, closOf_lookup l hf, q⟩

/-- one turn of a comprehension, the target bound -/
structure Turn (C : Cx) (s₀ : Shared) (H₀ : List Addr) (k : Nat) (s : Shared) (ifs : List Expr) (elt : Expr) (r : Option VP) : Prop where
  bd : Bd C s₀ H₀ k s [] []
  tests : Go C s (forIn ifs true fun c r => if r = true then do let ok ← isTrue c C.env (eval c C.env); pure (ForInStep.yield ok) else pure (ForInStep.yield r)) fun _ b => b = r.isSome
  elt : ∀ U, r = some U → Ev C s elt U

theorem tests_nil {C : Cx} {s : Shared} : Go C s (forIn ([] : List Expr) true fun c r => if r = true then do let ok ← isTrue c C.env (eval c C.env); pure (ForInStep.yield ok) else pure (ForInStep.yield r)) fun _ b => b = true :=
  fun s' E k => wpAny_tests_nil ⟨keepsRefl _, rfl⟩
theorem tests_one {C : Cx} {s : Shared} {c : Expr} {b : Bool} (h : Tst C s c b) : Go C s (forIn [c] true fun c r => if r = true then do let ok ← isTrue c C.env (eval c C.env); pure (ForInStep.yield ok) else pure (ForInStep.yield r)) fun _ x => x = b :=
  fun s' E k => wpAny_tests_one (h s' E k)

/-- the loop of a comprehension, the target of any kind -/
theorem compLoop_own {prog : Program} {w : World} {A : Around} {R : Result → Shared → Prop} {s : Shared} {elt target iter : Expr} {ifs : List Expr} {scope : Scope} {pos : Pos} {it acc : Value} {env : Env} (I : Nat → Shared → Prop)
    (turn : ∀ n s, I n s → wpAny (model prog w) A (pyNext it) (fun r s₁ => match r with
      | none => R (.ok .next) s₁
      | some v => wpAny (model prog w) A (letOwnedTupleGo target it v) (fun _ s₁ => wpAny (model prog w) A (assign target env v) (fun _ s₂ =>
          wpAny (model prog w) A (forIn ifs true fun c r => if r = true then do let ok ← isTrue c env (eval c env); pure (ForInStep.yield ok) else pure (ForInStep.yield r)) (fun ok s₃ =>
            if ok = true then wpAny (model prog w) A (eval elt env) (fun x s₄ =>
              wpAny (model prog w) A (call (.builtin "list.append") [acc, x]) (fun _ s₅ => ∃ m, m < n ∧ I m s₅) (notedBy (model prog w) A env fun e s' => R (.error e) s') s₄) (notedBy (model prog w) A env fun e s' => R (.error e) s') s₃
            else ∃ m, m < n ∧ I m s₃) (notedBy (model prog w) A env fun e s' => R (.error e) s') s₂) (notedBy (model prog w) A env fun e s' => R (.error e) s') s₁) (notedBy (model prog w) A env fun e s' => R (.error e) s') s₁) (notedBy (model prog w) A env fun e s' => R (.error e) s') s)
    (n : Nat) (h : I n s) : codeAny (model prog w) A (.compLoop (.ListComp elt [⟨target, iter, ifs, 0⟩] scope pos) 0 it acc env) R s := by
  refine codeAny_loop rfl I (fun n s hI => ?_) n h
  show wpAny _ _ ((compTurn (.ListComp elt [⟨target, iter, ifs, 0⟩] scope pos) 0 it acc env).onRaise (fun x => do noteFrame x env; theTreesLotGoes x)) _ _ s
  refine wpAny_noted ?_
  rw [compTurn_list]
  refine wpAny_bind (wpAny_standAt (wpAny_bind (wpAny_mono (turn n s hI) (fun r s₁ h₁ => ?_) fun _ _ h' => h')))
  cases r with
  | none => exact wpAny_pure h₁
  | some v =>
    refine wpAny_bind (wpAny_mono h₁ (fun _ s₁ h₁ => wpAny_bind (wpAny_mono h₁ (fun _ s₂ h₂ => wpAny_bind (wpAny_mono h₂ (fun ok s₃ h₃ => ?_) fun _ _ h' => h')) fun _ _ h' => h')) fun _ _ h' => h')
    cases ok with
    | false => exact wpAny_pure ⟨rfl, h₃⟩
    | true =>
      exact wpAny_bind (wpAny_bind (wpAny_mono h₃ (fun x s₄ h₄ => wpAny_bind (wpAny_mono h₄ (fun _ s₅ h₅ => wpAny_pure (wpAny_pure ⟨rfl, h₅⟩)) fun _ _ h' => h')) fun _ _ h' => h'))

/-- binding lets the pair alone -/
def LetsGo (target : Expr) : Prop := ∀ (M : Model) (A : Around) (s : Shared) (I : Addr) (v : Value) (Q : Unit → Shared → Prop) (E : Value → Shared → Prop), (∃ o c vs, s.heap.get? I = some o ∧ o.cls = .type c ∧ o.data = .fields vs ∧ (["enumerate", "zip", "dict_itemiterator", "dict_reverseitemiterator", "odict_iterator", "itertools.zip_longest", "itertools.pairwise"] : List String).contains c = false) → Q () s → wpAny M A (letOwnedTupleGo target (.ref I) v) Q E s
theorem letsGo_name {x px} : LetsGo (.Name x px) := fun M A s I v Q E _ h => wpAny_pure h
theorem letsGo_tuple {es kx px} : LetsGo (.Tuple es kx px) := fun M A s I v Q E ho h => by
  obtain ⟨o, c, vs, e, hc, hd, hn⟩ := ho
  unfold letOwnedTupleGo
  cases v with
  | ref a =>
    refine wpAny_bind (wpAny_load e ?_)
    rw [hc, hd]
    dsimp only
    rw [hn]
    exact wpAny_pure h
  | _ => exact wpAny_pure h

theorem comp_next {K D : Addr} {H' : List Addr} {ρ' : Rho} (Bc : Bd { C with env := cenv sc K C.env, H := H' } s₀ H₀ k s ρ' []) (hρ : ∀ p ∈ ρ', (cenv sc K C.env).kindOf p.1 = some .cell) (hD : D ∈ H') (hK : K ∈ H') (hsm : Sm s s')
    (hcK : ∀ n c, (cenv sc K C.env).cells.lookup n = some c → c ≠ D)
    (hk : ∀ b o, b ≠ K → b ≠ D → s.heap.get? b = some o → s'.heap.get? b = some o) (hns : ∃ m, s'.heap.Ns K m) (hDl : ∃ o, s'.heap.get? D = some o) (gD : C.g.get? D = none) : Bd { C with env := cenv sc K C.env, H := H' } s₀ H₀ k s' ρ' [] := by
  have cells : ∀ n c v, (cenv sc K C.env).cells.lookup n = some c → s.heap.IsCell c v → s'.heap.IsCell c v := fun n c v e ⟨o, q, d⟩ => ⟨o, hk c o (Bc.wf.cell n c e).2.2 (hcK n c e) q, d⟩
  have kp : Kp (hid H' s.heap) (hid H' s'.heap) := hid_of fun b o nb e => ⟨hk b o (fun q => nb (q ▸ hK)) (fun q => nb (q ▸ hD)) e, nb⟩
  refine { Bc with
    low := fun a m => ?_
    keep := fun b o e => hk b o (fun q => ?_) (fun q => ?_) (Bc.keep b o e)
    sm := Bc.sm.trans hsm
    wf := { Bc.wf with ns := hns, cell := fun n c e => let ⟨⟨v, h1⟩, r⟩ := Bc.wf.cell n c e; ⟨⟨v, cells n c v e h1⟩, r⟩ }
    vars := fun x T m => ?_
    own := fun a V m => nomatch m }
  · by_cases h1 : a = K
    · subst h1; obtain ⟨m, o, _, _, e, _⟩ := hns; exact ⟨o, e⟩
    · by_cases h2 : a = D
      · subst h2; exact hDl
      · obtain ⟨o, e⟩ := Bc.low a m; exact ⟨o, hk a o h1 h2 e⟩
  · have e' : C.g.get? b = some o := e
    have l : C.g.get? K = none := Bc.loc
    rw [q, l] at e'; cases e'
  · have e' : C.g.get? b = some o := e
    rw [q, gD] at e'; cases e'
  · obtain ⟨v, h1, h2⟩ := Bc.vars x T m
    refine ⟨v, ?_, T.mono kp h2⟩
    rcases h1 with ⟨e, _⟩ | ⟨e, c, l, q⟩
    · rw [hρ _ m] at e; cases e
    · exact .inr ⟨e, c, l, cells x c _ l q⟩

theorem take_succ_filterMap {α β : Type} (f : α → Option β) {l : List α} {i : Nat} {x : α} (h : l[i]? = some x) : (l.take (i + 1)).filterMap f = (l.take i).filterMap f ++ (f x).toList := by
  rw [List.take_add_one, h, List.filterMap_append]
  cases e : f x <;> simp [e]

/-- a list comprehension of one clause: its block -/
theorem comp_core (B : Bd C s₀ H₀ k s ρ μ) {n : Nat} (hs : C.env.scope = ds) (hc : C.env.cells = cellsFrom n ds.names []) (O : CompOk sc ds) {elt target iter : Expr} {ifs : List Expr} {pos : Pos} {T : VP} {Ts : List VP} (h : Ev C s iter T) (hi : Iterates C T Ts)
    (fs : List (Option VP)) (hlen : fs.length = Ts.length) (hsz : Ts.length ≤ 1000) (ρ' : Rho) (hρ : ∀ p ∈ ρ', p ∈ ρ ∧ ((relabelD sc ds).names.lookup p.1 == some .cell) = true) (hlg : LetsGo target)
    (step : ∀ (K : Addr) (H' : List Addr) (g' : Heap) (s' : Shared) (i : Nat) (U : VP) (r : Option VP) (v : Value) (E' : Value → Shared → Prop), Ts[i]? = some U → fs[i]? = some r → U.P (hid H' s'.heap) v → Bd { C with env := cenv sc K C.env, H := H', g := g' } s₀ H₀ k s' ρ' [] →
      wpAny C.M C.A (assign target (cenv sc K C.env) v) (fun _ s₂ => Turn { C with env := cenv sc K C.env, H := H', g := g' } s₀ H₀ k s₂ ifs elt r) E' s')
    {use : Option (Value → Sem Unit)} {Qc : Value → Shared → Prop} {E : Value → Shared → Prop}
    (hfin : ∀ (D K : Addr) (s' : Shared), Keeps s s' → s.heap.get? K = none → D ≠ K → (∃ m, s'.heap.Ns K m) → (VP.list (fs.filterMap id)).P (hid (K :: C.H) s'.heap) (.ref D) → compPost C.M C.A E use Qc (.ref D) K (.ok .next) s')
    (hf : ∀ x, foldedSetIterable iter C.env x = pure x := by intro _; rfl) : wpAny C.M C.A (comprehension (.ListComp elt [⟨target, iter, ifs, 0⟩] sc pos) sc C.env (firstIterPos [⟨target, iter, ifs, 0⟩] pos) (newList []) (firstAsync [⟨target, iter, ifs, 0⟩]) (firstIter [⟨target, iter, ifs, 0⟩] C.env) use) Qc E s := by
  have hcell : ∀ y ∈ sc.names, y.2 ≠ .cell := fun y hy => by simpa using List.all_eq_true.mp O.cell y hy
  have hnames : ∀ y ∈ sc.names, y.2 = .local → sc.names.lookup y.1 = some .local := fun y hy e => by
    have := List.all_eq_true.mp O.names y hy
    rw [e] at this; simpa using this
  have hfree : ∀ x ∈ sc.names, x.2 = .free → (C.env.cells.lookup x.1).isSome = true := fun x hx e => by
    have := List.all_eq_true.mp O.free x hx
    rw [e] at this
    obtain ⟨c, hc'⟩ := lookup_cells hc (x := x.1) (by simpa using this)
    rw [hc']; rfl
  refine wpAny_comprehension_free (use := use) rfl hf (closureFor_eq hfree) O.kind hnames (h.use (keepsRefl _) fun v s₁ k₁ hv => hi s₁ v _ _ (B.later k₁).ok hv fun I s₂ fp St k₂ hnew W hst hfp => ?_)
  refine wpAny_newObj_type (wpAny_newFunctionEnv hcell (by intro y hy; simp at hy) (fun h₁ hns₁ hsb₁ => ?_) O.kind)
  have B₁ := B.later k₁
  have hlive := W.live
  have hlook := W.look
  obtain ⟨⟨P, WW, hP⟩, _⟩ := W
  dsimp only at hns₁ hsb₁ ⊢
  generalize hH2 : s₂.heap.push { cls := .type "list", dict := none, data := .seq ([] : List Value).toArray } = H2 at hns₁ hsb₁ ⊢
  generalize hKd : H2.objs.size = K at hns₁ hsb₁ ⊢
  generalize hDd : s₂.heap.objs.size = D
  have hKD : K = D + 1 := by rw [← hKd, ← hH2, ← hDd, Heap.size_push]
  have fresh₂ : ∀ b, D ≤ b → s₂.heap.get? b = none := fun b hb => Heap.get?_none_of_le (hDd ▸ hb)
  have fresh₁ : ∀ b, D ≤ b → s₁.heap.get? b = none := fun b hb => new_of_keep (keepsKp k₂) (fresh₂ b hb)
  have old : ∀ b o, s₂.heap.get? b = some o → h₁.get? b = some o := fun b o e => hsb₁.extBut b o (fun q => by rw [fresh₂ b (by rw [q, hKD]; exact Nat.le_succ _)] at e; cases e) (Heap.get?_push_of_some _ (hH2 ▸ Heap.get?_push_of_some _ e))
  have hDl : h₁.PlainList D #[] := ⟨0, hsb₁.extBut _ _ (by rw [hKD]; exact Nat.ne_of_lt (Nat.lt_succ_self _)) (Heap.get?_push_of_some _ (hH2 ▸ hDd ▸ Heap.get?_push_size _ rfl))⟩
  have gnone : ∀ b, s₁.heap.get? b = none → C.g.get? b = none := fun b e => new_of_keep B₁.keep e
  have hIH : I ∉ C.H := fun m => by obtain ⟨o, e⟩ := B₁.low I m; rw [e] at hnew; cases hnew
  have hlow : ∀ a ∈ C.H, a < D := fun a m => by obtain ⟨o, e⟩ := B₁.low a m; rcases Nat.lt_or_ge a D with h | h; exact h; rw [fresh₁ a h] at e; cases e
  have hID : I < D := by obtain ⟨o, e⟩ := hlive 0 _ hst; rcases Nat.lt_or_ge I D with h | h; exact h; rw [fresh₂ I h] at e; cases e
  have ltK : ∀ b : Addr, b < D → b ≠ K := fun b hb q => by rw [q, hKD] at hb; exact Nat.not_succ_lt_self hb
  have neDK : D ≠ K := by rw [hKD]; exact Nat.ne_of_lt (Nat.lt_succ_self _)
  let H' : List Addr := K :: D :: I :: C.H
  let C' : Cx := { C with env := cenv sc K C.env, H := H' }
  let s₄ : Shared := { s₂ with heap := h₁, toks := s₂.toks + ([] : List (Str × Value)).length }
  have kp₂ : Kp (C.v s₁) (hid H' s₂.heap) := hid_new (H' := [K, D, I]) (keepsKp k₂) fun a m => by
    rcases List.mem_cons.mp m with e | m
    · rw [e, hKD]; exact fresh₁ _ (Nat.le_succ _)
    · rcases List.mem_cons.mp m with e | m
      · rw [e]; exact fresh₁ _ (Nat.le_refl _)
      · rw [List.mem_singleton.mp m]; exact hnew
  have kp₄ : Kp (C.v s₁) (hid H' h₁) := kp₂.trans (hid_kp old)
  have subc : ∀ x c, (cenv sc K C.env).cells.lookup x = some c → C.env.cells.lookup x = some c := fun x c e => closOf_sub sc.names [] (fun _ _ m => nomatch m) x c (mem_of_lookup e)
  have hcD : ∀ x c, (cenv sc K C.env).cells.lookup x = some c → c < D := fun x c e => hlow c (B₁.wf.cell x c (subc x c e)).2.1
  have kinds : ∀ p ∈ ρ', (cenv sc K C.env).kindOf p.1 = some .cell := fun p m => by
    show (cenv sc K C.env).scope.names.lookup p.1 = some .cell
    rw [cenv_scope hs]; simpa using (hρ p m).2
  have Bc : Bd C' s₀ H₀ k s₄ ρ' [] := {
    low := fun a m => by
      rcases List.mem_cons.mp m with e | m
      · obtain ⟨o, _, _, q, _⟩ := hns₁; exact ⟨o, e ▸ q⟩
      · rcases List.mem_cons.mp m with e | m
        · obtain ⟨_, q⟩ := hDl; exact ⟨_, e ▸ q⟩
        · rcases List.mem_cons.mp m with e | m
          · obtain ⟨o, q⟩ := hlive 0 _ hst; exact ⟨o, e ▸ old _ _ q⟩
          · obtain ⟨o, q⟩ := B₁.low a m; exact ⟨o, old _ _ (keepsKp k₂ _ _ q)⟩
    room := B₁.room
    kind := O.kind
    gl := B₁.gl
    bl := B₁.bl
    w0 := B₁.w0
    base := B₁.base
    keep := B₁.keep.trans ((keepsKp k₂).trans old)
    sm := (B₁.sm.trans (smKeeps k₂)).trans ⟨h₁, _, rfl⟩
    wf := ⟨⟨_, hns₁⟩, .head _, fun x c e => by
      obtain ⟨⟨v, q⟩, h2, h3⟩ := B₁.wf.cell x c (subc x c e)
      exact ⟨⟨v, (q.keeps (keepsKp k₂)).keeps old⟩, .tail _ (.tail _ (.tail _ h2)), fun q => by
        exact ltK c (hcD x c e) q⟩, fun x y c e e' => B₁.wf.apart x y c (subc x c e) (subc y c e')⟩
    loc := gnone K (fresh₁ K (by rw [hKD]; exact Nat.le_succ _))
    sub := fun a m => .tail _ (.tail _ (.tail _ (B₁.sub a m)))
    vars := fun x U m => by
      obtain ⟨m, hx⟩ := hρ _ m
      obtain ⟨v, h1, h2⟩ := B₁.vars x U m
      exact ⟨v, ((h1.keeps (keepsKp k₂)).keeps old).into hs O hx, U.mono kp₄ h2⟩
    own := fun a V m => nomatch m }
  have loop : ∀ s₅ : Shared, s₅ = s₄ → codeAny C.M C.A (.compLoop (.ListComp elt [⟨target, iter, ifs, 0⟩] sc pos) 0 (.ref I) (.ref D) (cenv sc K C.env))
      (compPost C.M C.A E use Qc (.ref D) K) s₅ := by
    rintro s₅ rfl
    refine compLoop_own (fun n s' => ∃ i ys, n = Ts.length + 1 - i ∧ i ≤ Ts.length ∧ St i s'.heap ∧ s'.heap.PlainList D ys ∧ Els (hid H' s'.heap) ((fs.take i).filterMap id) ys.toList ∧ Bd C' s₀ H₀ k s' ρ' [] ∧ Kp (C.v s₁) (hid H' s'.heap) ∧ Kp s₁.heap s'.heap) ?_ (Ts.length + 1)
      ⟨0, #[], rfl, Nat.zero_le _, WW.frame _ _ _ hst fun b _ o e => old b o e, hDl, by simpa using Els.nil, Bc, kp₄, (keepsKp k₂).trans old⟩
    rintro n s' ⟨i, ys, rfl, hin, hsti, hDi, hels, Bi, hkpi, hki⟩
    by_cases hlt : i < Ts.length
    · refine WW.item i _ _ _ hlt hsti fun u h' tk hPu hst' hk' => ?_
      obtain ⟨U, hU, hu⟩ := hP i u hPu
      obtain ⟨r, hr⟩ : ∃ r, fs[i]? = some r := ⟨_, List.getElem?_eq_getElem (by rw [hlen]; exact hlt)⟩
      have hb : But I s' { s' with heap := h', toks := tk } := ⟨h', tk, rfl, fun b o hne e => hk' b o (by simpa using hne) e⟩
      have oI : Own C' I := ⟨.tail _ (.tail _ (.head _)), ⟨fun e => ltK I hID e, fun x c e q => hIH (q ▸ (B₁.wf.cell x c (subc x c e)).2.1)⟩, gnone I hnew⟩
      have B' := Bi.but (μ' := []) hb oI (hlive _ _ hst') fun p m => nomatch m
      have hkp' : Kp (hid H' s'.heap) (hid H' h') := hid_but hb.ext (.tail _ (.tail _ (.head _)))
      have kgK : Kp C.g (hid [K] h') := fun b o e => hideAll_get _ (B'.keep b o e) fun m => by
        have l : C.g.get? K = none := Bc.loc
        rw [List.mem_singleton.mp m, l] at e; cases e
      have Bt : Bd { C with env := cenv sc K C.env, H := H', g := hid [K] h' } s₀ H₀ k { s' with heap := h', toks := tk } ρ' [] := { B' with base := B'.base.trans kgK, keep := hid_le, loc := hideAll_none _ (.head _), own := fun a V m => nomatch m }
      refine hlg _ _ _ _ _ _ _ (hlook _ _ hst') (wpAny_mono (step K H' (hid [K] h') _ i U r u _ hU hr (U.mono (hkpi.trans hkp') hu) Bt) (fun _ s₅ tn => ?_) fun _ _ e => e)
      refine tn.tests.use (keepsRefl _) fun ok s₆ k₆ hok => ?_
      have hok : ok = r.isSome := hok
      have kept₆ : ∀ b o, b ≠ K → h'.get? b = some o → s₆.heap.get? b = some o := fun b o hb e => keepsKp k₆ _ _ (tn.bd.keep b o (hideAll_get _ e fun m => hb (List.mem_singleton.mp m)))
      have sm₆ : Sm s' s₆ := (show Sm s' { s' with heap := h', toks := tk } from ⟨h', tk, rfl⟩).trans ((show Sm { s' with heap := h', toks := tk } s₅ from by
        obtain ⟨x1, x2, e1⟩ := Bt.sm
        obtain ⟨y1, y2, e2⟩ := tn.bd.sm
        exact ⟨y1, y2, by
          have e1' : s₀ = { ({ s' with heap := h', toks := tk } : Shared) with heap := s₀.heap, toks := s₀.toks } := by rw [e1]
          rw [e2, e1']⟩).trans (smKeeps k₆))
      -- the next turn's facts, D apart
      have next : ∀ (s₇ : Shared) ys', Sm s₆ s₇ → (∀ b o, b ≠ D → s₆.heap.get? b = some o → s₇.heap.get? b = some o) → s₇.heap.PlainList D ys' → Els (hid H' s₇.heap) ((fs.take (i + 1)).filterMap id) ys'.toList →
          ∃ m, m < Ts.length + 1 - i ∧ ∃ i ys, m = Ts.length + 1 - i ∧ i ≤ Ts.length ∧ St i s₇.heap ∧ s₇.heap.PlainList D ys ∧ Els (hid H' s₇.heap) ((fs.take i).filterMap id) ys.toList ∧ Bd C' s₀ H₀ k s₇ ρ' [] ∧ Kp (C.v s₁) (hid H' s₇.heap) ∧ Kp s₁.heap s₇.heap := fun s₇ ys' sm₇ hk₇ hD₇ hE₇ => by
        have kept₇ : ∀ b o, b ≠ K → b ≠ D → h'.get? b = some o → s₇.heap.get? b = some o := fun b o h1 h2 e => hk₇ b o h2 (kept₆ b o h1 e)
        have neK : ∀ b, b < D → b ≠ K ∧ b ≠ D := fun b hb => ⟨ltK b hb, Nat.ne_of_lt hb⟩
        refine ⟨Ts.length + 1 - (i + 1), by omega, i + 1, ys', rfl, hlt, WW.frame _ _ _ hst' fun b hb o e => ?_, hD₇, hE₇, ?_, ?_, fun b o e => ?_⟩
        · have lt : b < D := by
            rcases List.mem_cons.mp hb with q | hb
            · rw [q]; exact hID
            · obtain ⟨o', q⟩ := (hfp b hb).2.2
              rcases Nat.lt_or_ge b D with h | h
              · exact h
              · rw [fresh₁ b h] at q; cases q
          exact kept₇ b o (neK b lt).1 (neK b lt).2 e
        · refine comp_next (D := D) (s := { s' with heap := h', toks := tk }) B' kinds (.tail _ (.head _)) (.head _) ?_ (fun x c e => Nat.ne_of_lt (hcD x c e)) (fun b o h1 h2 e => kept₇ b o h1 h2 e) ?_ ?_ (gnone D (fresh₁ D (Nat.le_refl _)))
          · obtain ⟨a1, a2, e⟩ := sm₆.trans sm₇
            exact ⟨a1, a2, e⟩
          · obtain ⟨m, hm⟩ := tn.bd.wf.ns
            exact ⟨m, (hm.keeps (keepsKp k₆)).at' fun o e => hk₇ K o neDK.symm e⟩
          · obtain ⟨_, q⟩ := hD₇; exact ⟨_, q⟩
        · exact hkpi.trans (hkp'.trans (hid_of fun b o nb e => ⟨kept₇ b o (fun q => nb (q ▸ .head _)) (fun q => nb (q ▸ .tail _ (.head _))) e, nb⟩))
        · have lt : b < D := by
            rcases Nat.lt_or_ge b D with h | h
            · exact h
            · rw [fresh₁ b h] at e; cases e
          have neI : b ≠ I := fun q => by rw [q, hnew] at e; cases e
          exact kept₇ b o (neK b lt).1 (neK b lt).2 (hb.ext b o neI (hki b o e))
      have hD₆ : s₆.heap.PlainList D ys := hDi.at fun o e => kept₆ D o neDK (hb.ext D o (Nat.ne_of_gt hID) e)
      have kp₆ : Kp (hid H' s'.heap) (hid H' s₆.heap) := hkp'.trans (hid_of fun b o nb e => ⟨kept₆ b o (fun q => nb (q ▸ .head _)) e, nb⟩)
      have htk := take_succ_filterMap (id : Option VP → Option VP) hr
      cases r with
      | none =>
        rw [hok]
        exact next s₆ ys ⟨s₆.heap, s₆.toks, rfl⟩ (fun b o _ e => e) hD₆ (by rw [htk]; simpa using hels.mono kp₆)
      | some V =>
        rw [hok]
        refine (tn.elt V rfl).use k₆ fun y s₇ k₇ hy => ?_
        have hE : ((fs.take i).filterMap id).length = ys.toList.length := hels.length
        have hys : ys.size ≤ sizeLine := by
          have e1 : ((fs.take i).filterMap (id : Option VP → Option VP)).length ≤ (fs.take i).length := List.length_filterMap_le _ _
          have e2 : (fs.take i).length ≤ i := List.length_take_le _ _
          have e3 : ys.toList.length = ys.size := by simp
          rw [sizeLine_eq]; omega
        have hy : V.P (hid H' s₇.heap) y := hy
        refine wpAny_list_append_plain (hsz := hys) (hD₆.at fun o e => keepsKp k₇ _ _ e) fun h₈ hl₈ hs₈ => ?_
        have kp₈ : Kp (hid H' s₇.heap) (hid H' h₈) := hid_but hs₈.extBut (.tail _ (.head _))
        refine next { s₇ with heap := h₈ } _ ((smKeeps k₇).trans ⟨h₈, s₇.toks, rfl⟩) (fun b o hb e => hs₈.extBut b o hb (keepsKp k₇ _ _ e)) hl₈ ?_
        rw [htk]
        have := (hels.mono ((kp₆.trans (hid_kp (keepsKp k₇))).trans kp₈)).append (.cons (V.mono kp₈ hy) .nil)
        simpa using this
    · have e : i = Ts.length := by omega
      subst e
      refine WW.done _ _ _ hsti fun h' tk hk' => ?_
      obtain ⟨m, hm⟩ := Bi.wf.ns
      have neI : ∀ b, b ≠ I → b ∉ [I] := fun b hb => by simpa using hb
      have hm' : h'.Ns K m := Heap.Ns.at' hm fun o e => hk' K o (neI K fun q => ltK I hID q.symm) e
      refine hfin D K _ ?_ (new_of_keep (keepsKp k₁) (fresh₁ K (by rw [hKD]; exact Nat.le_succ _))) neDK ⟨m, hm'⟩ ?_
      · have kk := keepsKp k₁
        obtain ⟨b1, b2, e2⟩ := Bi.sm
        obtain ⟨c1, c2, e3⟩ := B.sm
        refine ⟨h', tk, ?_, fun b o e => ?_⟩
        · show ({ s' with heap := h', toks := tk } : Shared) = _
          rw [e2, e3]
        · have e₁ := keepsKp k₁ b o e
          exact hk' b o (neI b fun q => by rw [q, hnew] at e₁; cases e₁) (hki b o e₁)
      · obtain ⟨c, hD⟩ := hDi
        have hD'' : h'.get? D = some { cls := .type "list", data := .seq ys c } := hk' D _ (neI D (Nat.ne_of_gt hID)) hD
        refine ⟨D, ys, c, rfl, hideAll_get _ hD'' fun m => ?_, ?_⟩
        · rcases List.mem_cons.mp m with e | m
          · exact neDK e
          · exact Nat.lt_irrefl _ (hlow _ m)
        rw [List.take_of_length_le (by rw [hlen]; exact Nat.le_refl _)] at hels
        exact hels.mono (hid_of fun b o nb e => ⟨hk' b o (neI b fun q => nb (q ▸ .tail _ (.tail _ (.head _)))) e, fun m => by
          rcases List.mem_cons.mp m with e | m
          · exact nb (e ▸ .head _)
          · exact nb (.tail _ (.tail _ (.tail _ m)))⟩)
  have hst₄ : St 0 s₄.heap := WW.frame _ _ _ hst fun b _ o e => old b o e
  exact codeAny_compStart_list (loop _ rfl) (WW.self 0 _ _ _ hst₄ (loop _ rfl))

/-- .. as a value -/
theorem comp_ (B : Bd C s₀ H₀ k s ρ μ) {n : Nat} (hs : C.env.scope = ds) (hc : C.env.cells = cellsFrom n ds.names []) (O : CompOk sc ds) {elt target iter : Expr} {ifs : List Expr} {pos : Pos} {T : VP} {Ts : List VP} (h : Ev C s iter T) (hi : Iterates C T Ts)
    (fs : List (Option VP)) (hlen : fs.length = Ts.length) (hsz : Ts.length ≤ 1000) (ρ' : Rho) (hρ : ∀ p ∈ ρ', p ∈ ρ ∧ ((relabelD sc ds).names.lookup p.1 == some .cell) = true) (hlg : LetsGo target)
    (step : ∀ (K : Addr) (H' : List Addr) (g' : Heap) (s' : Shared) (i : Nat) (U : VP) (r : Option VP) (v : Value) (E' : Value → Shared → Prop), Ts[i]? = some U → fs[i]? = some r → U.P (hid H' s'.heap) v → Bd { C with env := cenv sc K C.env, H := H', g := g' } s₀ H₀ k s' ρ' [] →
      wpAny C.M C.A (assign target (cenv sc K C.env) v) (fun _ s₂ => Turn { C with env := cenv sc K C.env, H := H', g := g' } s₀ H₀ k s₂ ifs elt r) E' s')
    (hf : ∀ x, foldedSetIterable iter C.env x = pure x := by intro _; rfl) : Ev C s (.ListComp elt [⟨target, iter, ifs, 0⟩] sc pos) (.list (fs.filterMap id)) := fun s₀' E k₀ => by
  rw [eval_ListComp]
  refine comp_core (B.later k₀) hs hc O (h.later k₀) hi fs hlen hsz ρ' hρ hlg step (use := none) (fun D K s' ks n ne hns hl => ?_) hf
  obtain ⟨m, hm⟩ := hns
  refine ⟨m, hm, fun h'' hs'' => ⟨?_, (VP.list _).mono (hid_of fun b o nb e => ⟨hs''.extBut b o (fun q => nb (q ▸ .head _)) e, fun m => nb (.tail _ m)⟩) hl⟩⟩
  obtain ⟨h1, t1, rfl, kp⟩ := ks
  exact ⟨h'', t1, rfl, fun b o e => hs''.extBut b o (fun q => by rw [q, n] at e; cases e) (kp b o e)⟩

def MV.is (o₀ : Obj) : MV := ⟨fun _ o => o = o₀, fun _ h => h⟩
theorem swaps_used {env : Env} {ds : Scope} {elt : Expr} {gens : List Comprehension} {sc : Scope} {pos ppos : Pos} {x : Str} {line : Nat} (hs : env.scope = ds)
    (h : (ds.kind == .function && ds.names.lookup x == some .local && ppos.line == pos.line && !(sc.names.any fun (n, k) => n == x && (k == .local || k == .cell))) = true) :
    swapsWith (.ListComp elt gens sc pos) (some (.Name x ppos)) line env = pure true := by
  have hk : ds.kind = .function := by
    simp only [Bool.and_eq_true, beq_iff_eq] at h; exact h.1.1.1
  have e : (env.blockKind == .function && env.kindOf x == some .local && ppos.line == pos.line && !(sc.names.any fun (n, k) => n == x && (k == .local || k == .cell))) = true := by
    have : env.blockKind = .function := by unfold Env.blockKind; rw [hs, hk]; rfl
    have h2 : env.kindOf x = ds.names.lookup x := by rw [← hs]; rfl
    rw [this, h2]; rw [hk] at h; exact h
  show (pure (env.blockKind == .function && env.kindOf x == some .local && ppos.line == pos.line && !(sc.names.any fun (n, k) => n == x && (k == .local || k == .cell))) : Sem Bool) = _
  rw [e]

/-- .. stored in a local name at once -/
theorem comp_store (B : Bd C s₀ H₀ k s ρ μ) {n : Nat} (hs : C.env.scope = ds) (hc : C.env.cells = cellsFrom n ds.names []) (O : CompOk sc ds) {elt target iter : Expr} {ifs : List Expr} {pos : Pos} {T : VP} {Ts : List VP} (h : Ev C s iter T) (hi : Iterates C T Ts)
    (fs : List (Option VP)) (hlen : fs.length = Ts.length) (hsz : Ts.length ≤ 1000) (ρ' : Rho) (hρ : ∀ p ∈ ρ', p ∈ ρ ∧ ((relabelD sc ds).names.lookup p.1 == some .cell) = true) (hlg : LetsGo target)
    (step : ∀ (K : Addr) (H' : List Addr) (g' : Heap) (s' : Shared) (i : Nat) (U : VP) (r : Option VP) (v : Value) (E' : Value → Shared → Prop), Ts[i]? = some U → fs[i]? = some r → U.P (hid H' s'.heap) v → Bd { C with env := cenv sc K C.env, H := H', g := g' } s₀ H₀ k s' ρ' [] →
      wpAny C.M C.A (assign target (cenv sc K C.env) v) (fun _ s₂ => Turn { C with env := cenv sc K C.env, H := H', g := g' } s₀ H₀ k s₂ ifs elt r) E' s')
    {x : Str} {px spos : Pos} {ρ₂ : Rho} {Q : Flow → Shared → Prop} {E : Value → Shared → Prop}
    (hx : (ds.kind == .function && ds.names.lookup x == some .local && px.line == pos.line && !(sc.names.any fun (n, k) => n == x && (k == .local || k == .cell))) = true)
    (hρ₂ : ∀ p ∈ ρ₂, p.1 ≠ x ∧ p ∈ ρ) (q : ∀ s', Bd C s₀ H₀ k s' ((x, .list (fs.filterMap id)) :: ρ₂) μ → Q .next s')
    (hf : ∀ x, foldedSetIterable iter C.env x = pure x := by intro _; rfl) : wpAny C.M C.A (exec (.Assign [.Name x px] (.ListComp elt [⟨target, iter, ifs, 0⟩] sc pos) spos) C.env) Q E s := by
  rw [exec_Assign_Name_used _ _ _ _ (swaps_used hs hx)]
  refine wpAny_bind (wpAny_standAt (wpAny_bind ?_))
  show wpAny _ _ (do let _ ← comprehension (.ListComp elt [⟨target, iter, ifs, 0⟩] sc pos) sc C.env (firstIterPos [⟨target, iter, ifs, 0⟩] pos) (newList []) (firstAsync [⟨target, iter, ifs, 0⟩]) (firstIter [⟨target, iter, ifs, 0⟩] C.env) (some (assign (.Name x px) C.env))) _ _ s
  have hlx : C.env.kindOf x = some .local := by
    simp only [Bool.and_eq_true, beq_iff_eq] at hx
    show C.env.scope.names.lookup x = _
    rw [hs]; exact hx.1.1.2
  have hcH : ∀ x c, C.env.cells.lookup x = some c → c ∈ C.H := fun x c e => (B.wf.cell x c e).2.1
  refine wpAny_bind (wpAny_mono (comp_core B hs hc O h hi fs hlen hsz ρ' hρ hlg step (use := some (assign (.Name x px) C.env)) (Qc := fun _ s' => Q .next s') (E := E) (fun D K s' ks n ne hns hl => ?_) hf) (fun _ s' hq => wpAny_pure (wpAny_pure hq)) fun _ _ e => e)
  obtain ⟨m, hm⟩ := hns
  obtain ⟨oK, hoK⟩ : ∃ o, s'.heap.get? K = some o := by obtain ⟨o, _, _, e, _⟩ := hm; exact ⟨o, e⟩
  have hKH : K ∉ C.H := fun m => by obtain ⟨o, e⟩ := B.low K m; rw [e] at n; cases n
  have hμK : ∀ p ∈ μ, p.1 ∈ C.H := fun p m => (B.own p.1 p.2 m).1.hid
  obtain ⟨B₁, hOK⟩ := B.hide ks n ⟨oK, hoK⟩
  have B₂ := B₁.addM (a := K) (V := .is oK) ⟨hOK, oK, hoK, rfl⟩
  refine wpAny_assign_Name (Bd.storeL B₂ (T := .list (fs.filterMap id)) hlx hl hρ₂ fun s₃ B₃ => ?_)
  obtain ⟨_, o, h1, h2⟩ := B₃.own K (.is oK) (.head _)
  have h2 : o = oK := h2
  subst h2
  refine ⟨m, Heap.Ns.at' hm fun o e => by rw [hoK] at e; cases e; exact h1, fun h' hs' => q _ ?_⟩
  exact (B₃.lessM fun p m => .tail _ m).show ⟨h', s₃.toks, rfl, hs'.extBut⟩ hKH hμK B.sub (new_of_keep B.keep n) ⟨B.wf.loc, hcH⟩
end

/-! dict(pairs) -/
theorem list_no_keys : typeLookup (.type "list") "keys" = pure none := by rw [typeLookup_type, builtinLookup_eq_fast]; kernel_rfl

theorem getAttr?_keys {prog : Program} {w : World} {A : Around} {E : Value → Shared → Prop} {s : Shared} {a : Addr} {xs : Array Value} {k : Nat} {Q : Option Value → Shared → Prop}
    (hx : IsL s.heap a xs k) (hA : A.handled = none) (h : ∀ h' tk, Kp s.heap h' → Q none { s with heap := h', toks := tk }) : wpAny (model prog w) A (getAttr? (.ref a) "keys") Q E s := by
  obtain ⟨hp, g, d, tk, os⟩ := s
  have hT : ∀ tk', (⟨hp, g, d, tk', os⟩ : Shared).TypeIs (.ref a) "list" := fun _ => ⟨_, hx, rfl⟩
  have f1 := sub_AttributeError
  have f3 := PySem.F.slot_list_getattribute.lookup
  have f4 := PySem.F.slot_list_getattribute.bind (.ref a)
  have f5 := am_list_getattr_none
  unfold getAttr? getAttrBy? getAttrBy
  repeat (any_goals (first | assumption | exact hT _ | ((with_reducible show wpAny _ _ (call (Value.builtin "list.__getattribute__") _ _) _ _ _); refine call_meets PySem.F.slot_list_getattribute (hT _) am_entry_list_getattribute (PySem.F.args_list_getattribute_2 _ _) (meets_getattribute_miss_list a xs k _ "keys" _ list_no_keys (by decide +kernel) (by decide +kernel)) ⟨hx, hA, fun h' tk' e hx' => ?_⟩) | wp_step))
  obtain ⟨t', u', he⟩ := hx'.there
  have hTe : ∀ tk', (⟨h', g, d, tk', os⟩ : Shared).TypeIs (.ref e) "AttributeError" := fun _ => ⟨_, he, rfl⟩
  show wpAny _ _ (getattributeRaised _ _ _ _ _ _ _) _ _ _
  unfold getattributeRaised
  refine wpAny_bind (wpAny_isInstance (hTe _) f1 ?_)
  rw [if_pos rfl]
  refine wpAny_bind (wpAny_of_eq (show hookBehind (.type "list") none = pure none from f5) ?_)
  show wpAny _ _ (throw _) _ _ _
  refine wpAny_throw ?_
  show wpAny _ _ (isInstance _ _ >>= _) _ _ _
  refine wpAny_bind (wpAny_isInstance (hTe _) f1 ?_)
  rw [if_pos rfl]
  exact wpAny_pure (h h' tk' hx'.keeps)


theorem stored_put {α : Type} {k : Int} : ∀ {ws : List (Int × Value)}, (ws.map (·.1)).Nodup → ∀ v, stored ws k v = put k v ws := by
  intro ws
  induction ws with
  | nil => intro _ v; simp [stored, put]
  | cons p r ih =>
    intro hn v
    obtain ⟨j, u⟩ := p
    rw [List.map_cons, List.nodup_cons] at hn
    rw [put]
    by_cases e : j = k
    · subst e
      rw [if_pos rfl, stored, if_pos (by simp)]
      rw [List.map_cons]
      congr 1
      · simp
      · have : ∀ q ∈ r, (if q.1 = j then (q.1, v) else q) = q := fun q hq => if_neg fun (e : q.1 = j) => hn.1 (by rw [← e]; exact List.mem_map.mpr ⟨q, hq, rfl⟩)
        rw [List.map_congr_left this]; simp
    · rw [if_neg e, ← ih hn.2 v, stored, stored]
      simp only [List.any_cons, decide_eq_true_eq, e, decide_false, Bool.false_or]
      split
      · rw [List.map_cons]; simp [e]
      · rfl
theorem put_els {g : Heap} {k : Int} {T : VP} {v : Value} (hv : T.P g v) : ∀ {kvs : List (Int × VP)} {ws : List (Int × Value)}, ws.map (·.1) = kvs.map (·.1) → Els g (kvs.map (·.2)) (ws.map (·.2)) →
    (put k v ws).map (·.1) = (put k T kvs).map (·.1) ∧ Els g ((put k T kvs).map (·.2)) ((put k v ws).map (·.2)) := by
  intro kvs
  induction kvs with
  | nil =>
    intro ws hm _
    cases ws with
    | nil => exact ⟨rfl, .cons hv .nil⟩
    | cons _ _ => cases hm
  | cons p r ih =>
    intro ws hm hx
    obtain ⟨j, U⟩ := p
    cases ws with
    | nil => cases hm
    | cons q t =>
      obtain ⟨j', u⟩ := q
      simp only [List.map_cons, List.cons.injEq] at hm hx
      obtain ⟨rfl, hm⟩ := hm
      cases hx with
      | cons a tl =>
        rw [put, put]
        by_cases e : j' = k
        · rw [if_pos e, if_pos e]
          exact ⟨by simp [hm], .cons hv tl⟩
        · rw [if_neg e, if_neg e]
          obtain ⟨h1, h2⟩ := ih hm tl
          exact ⟨by simp [h1], .cons a h2⟩
theorem put_len {α β : Type} {k : Int} {v : α} : ∀ {l : List (Int × α)}, (put k v l).length ≤ l.length + 1 := by
  intro l
  induction l with
  | nil => simp [put]
  | cons p r ih =>
    obtain ⟨j, u⟩ := p
    rw [put]; split <;> simp <;> omega

theorem Els.two {g : Heap} {T U : VP} {vl : List Value} (h : Els g [T, U] vl) : ∃ x y, vl = [x, y] ∧ T.P g x ∧ U.P g y := by
  cases h with
  | cons a h =>
    cases h with
    | cons b h =>
      cases h
      exact ⟨_, _, rfl, a, b⟩

def ofPairs {α : Type} (l : List (Int × α)) : List (Int × α) := l.foldl (fun d p => put p.1 p.2 d) []
theorem foldl_put_len {α : Type} : ∀ (l : List (Int × α)) (d : List (Int × α)), (l.foldl (fun d p => put p.1 p.2 d) d).length ≤ d.length + l.length := by
  intro l
  induction l with
  | nil => intro d; simp
  | cons p r ih =>
    intro d
    rw [List.foldl_cons, List.length_cons]
    have := ih (put p.1 p.2 d)
    have := put_len (β := α) (k := p.1) (v := p.2) (l := d)
    omega
theorem ofPairs_take {α : Type} {l : List (Int × α)} {i : Nat} {k : Int} {v : α} (h : l[i]? = some (k, v)) : ofPairs (l.take (i + 1)) = put k v (ofPairs (l.take i)) := by
  unfold ofPairs
  rw [List.take_add_one, h, List.foldl_append]; rfl

def pairT (p : Int × VP) : VP := .tup [.int p.1, p.2]

theorem entry_update_loop : entryFor table "dict.update.loop" = some Builtin.«dict.update.loop» := entryFor_of_fast (by kernel_rfl)
theorem plain_update_loop : plainId "dict.update.loop" = true := by decide +kernel

theorem update_loop {prog : Program} {w : World} {A : Around} {g : Heap} {I D ax : Addr} {pairs : List (Int × VP)} {St : Nat → Heap → Prop} {P : Nat → Value → Prop} {R : Result → Shared → Prop}
    (W : Walks prog w A.in1 I [I, ax] [I] pairs.length P St) (hP : ∀ i v, P i v → ∃ T, (pairs.map pairT)[i]? = some T ∧ T.P g v) (hDI : D ≠ I) (hDa : D ≠ ax) (gD : g.get? D = none) (gI : g.get? I = none) (hsz : pairs.length ≤ 1000)
 :
    ∀ (n i : Nat) (j : Int) (s : Shared) (ws : List (Int × Value)), n + i = pairs.length → St i s.heap → Kp g s.heap → s.heap.DictOf (intKind prog w) D ws → ws.map (·.1) = (ofPairs (pairs.take i)).map (·.1) → Els g ((ofPairs (pairs.take i)).map (·.2)) (ws.map (·.2)) →
      (∀ s' ws, Sm s s' → (∀ b o, b ≠ I → b ≠ D → s.heap.get? b = some o → s'.heap.get? b = some o) → s'.heap.DictOf (intKind prog w) D ws → ws.map (·.1) = (ofPairs pairs).map (·.1) → Els g ((ofPairs pairs).map (·.2)) (ws.map (·.2)) → R (.ok (.ret .none)) s') →
      codeAny (model prog w) A (.builtin "dict.update.loop" ⟨[.ref D, .ref I, .int j 0, .none], []⟩) R s := by
  intro n
  induction n with
  | zero =>
    intro i j s ws hn hst hk hd hm hx hR
    have e : i = pairs.length := by omega
    subst e
    refine codeAny_builtin entry_update_loop ?_
    rw [Around.under_plainId plain_update_loop _]
    show wpAny _ A.in1 (pyNext (.ref I) >>= _) _ _ s
    refine wpAny_bind (W.done s _ _ hst fun h' tk hk' => ?_)
    show wpAny _ A.in1 (Builtin.Dict.addKeywords D [] >>= _) _ _ _
    refine wpAny_bind (wpAny_pure (wpAny_pure ?_))
    rw [List.take_length] at hm hx
    exact hR _ ws ⟨h', tk, rfl⟩ (fun b o h1 h2 e => hk' b o (by simpa using h1) e) (let ⟨o, es, ep, e, r⟩ := hd; ⟨o, es, ep, hk' _ _ (by simpa using hDI) e, r⟩) hm hx
  | succ n ih =>
    intro i j s ws hn hst hk hd hm hx hR
    have hlt : i < pairs.length := by omega
    refine codeAny_builtin entry_update_loop ?_
    rw [Around.under_plainId plain_update_loop _]
    show wpAny _ A.in1 (pyNext (.ref I) >>= _) _ _ s
    refine wpAny_bind (W.item i s _ _ hlt hst fun v h' tk hPv hst' hk' => ?_)
    obtain ⟨T, hT, hv⟩ := hP i v hPv
    rw [List.getElem?_map] at hT
    cases hp : pairs[i]? with
    | none => rw [hp] at hT; cases hT
    | some p =>
      rw [hp] at hT; cases hT
      obtain ⟨k, U⟩ := p
      obtain ⟨t, vs, c, rfl, ht, he⟩ := hv
      have hk1 : Kp g h' := fun b o e => hk' b o (by
        intro m; rw [List.mem_singleton.mp m, gI] at e; cases e) (hk b o e)
      have ht' : IsT h' t vs c := hk1 _ _ ht
      obtain ⟨vl⟩ := vs
      obtain ⟨x0, y0, rfl, ⟨tk0, rfl⟩, hy0⟩ := Els.two (show Els g [VP.int k, U] vl from he)
      let s₁ : Shared := { s with heap := h', toks := tk }
      have hTt : s₁.TypeIs (.ref t) "tuple" := ⟨_, ht', rfl⟩
      show wpAny _ A.in1 (holding [.ref t] _ >>= _) _ _ s₁
      refine wpAny_bind (wpAny_holding ?_)
      have hd₁ : h'.DictOf (intKind prog w) D ws := let ⟨o, es, ep, e, r⟩ := hd; ⟨o, es, ep, hk' _ _ (by simpa using hDI) e, r⟩
      refine wpAny_bind (wpAny_tryCatch ?_)
      unfold Builtin.Dict.pairItems
      refine wpAny_bind (wpAny_typeOf hTt ?_)
      rw [if_pos (by decide)]
      refine wpAny_bind (wpAny_seqItems ht' rfl (wpAny_pure ?_))
      show wpAny _ A.in1 (holding [.int k tk0, y0] (dictSet D (.int k tk0) y0)) _ _ s₁
      have hwl : ws.length ≤ 1000 := by
        have e1 : ws.length = (ofPairs (pairs.take i)).length := by simpa using congrArg List.length hm
        have e2 := foldl_put_len (pairs.take i) ([] : List (Int × VP))
        have e3 : (pairs.take i).length ≤ pairs.length := List.length_take_le' _ _
        unfold ofPairs at e1
        simp at e2
        omega
      refine wpAny_holding (wpAny_dictSet_pairs (knd := intKind prog w) (k := k) (by show Value.isInt k (.int k tk0) = true; simp [Value.isInt]) hd₁ (fun h₂ hd₂ hs₂ => ?_) (by rw [sizeLine_eq]; omega))
      have hn' : (ws.map (·.1)).Nodup := by obtain ⟨_, _, _, _, _, _, _, _, h⟩ := hd; exact h
      rw [stored_put (α := Value) hn'] at hd₂
      obtain ⟨q1, q2⟩ := put_els (k := k) hy0 hm hx
      refine wpAny_pure ⟨plainId_quiet plain_update_loop _, ih (i + 1) (j + 1) _ (put k y0 ws) (by omega) ?_ ?_ hd₂ ?_ ?_ ?_⟩
      · exact W.frame _ _ _ hst' fun b hb o e => hs₂.extBut b o (fun q => by
          rcases List.mem_cons.mp hb with e | hb
          · exact hDI (q.symm.trans e)
          · exact hDa (q.symm.trans (List.mem_singleton.mp hb))) e
      · exact fun b o e => hs₂.extBut b o (fun q => by rw [q, gD] at e; cases e) (hk1 b o e)
      · rw [ofPairs_take hp]; exact q1
      · rw [ofPairs_take hp]; exact q2
      · intro s' ws' sm hk₃ hd' hm' hx'
        refine hR s' ws' ((show Sm s _ from ⟨h₂, _, rfl⟩).trans sm) (fun b o h1 h2 e => hk₃ b o h1 h2 (hs₂.extBut b o h2 (hk' b o (by simpa using h1) e))) hd' hm' hx'

theorem Ok.notMods {C : Cx} {s : Shared} (O : Ok C s) : (s.heap.objs.size == sysModules) = false := beq_eq_false_iff_ne.mpr (Nat.ne_of_gt (modules_low O.wld.lim))

/-- dict(pairs), new -/
theorem op_dict_pairsF {C : Cx} {s : Shared} {pairs : List (Int × VP)} (O : Ok C s) (hsz : pairs.length ≤ 1000) (s' : Shared) (E : Value → Shared → Prop) (vs : List Value) (ks : Keeps s s') (hv : Els (C.v s') [.list (pairs.map pairT)] vs) :
    wpAny C.M C.A (call (.type "dict") vs) (fun v s'' => Keeps s' s'' ∧ ∃ D ws, v = .ref D ∧ s'.heap.get? D = none ∧ (D == sysModules) = false ∧ s''.heap.DictOf (intKind C.prog C.w) D ws ∧ ws.map (·.1) = (ofPairs pairs).map (·.1) ∧ Els (hid (D :: C.H) s''.heap) ((ofPairs pairs).map (·.2)) (ws.map (·.2))) E s' := by
  have O' := O.later ks
  cases hv with | cons hx hv => cases hv with | nil =>
  obtain ⟨a, items, c, rfl, d, e⟩ := hx
  have d' := hid_le _ _ d
  let D := s'.heap.objs.size
  let s₁ : Shared := { s' with heap := s'.heap.push { cls := .type "dict", data := .dict #[] } }
  have up : Kp s'.heap s₁.heap := fun _ _ e => Heap.get?_push_of_some _ e
  refine callType_codes (Q₁ := fun obj t => obj = .ref D ∧ t = s₁) PySem.F.kt_called_dict (PySem.F.kt_typeCall_dict_1 _) PySem.F.entry_dict_init (kt_code_dict_new _ ⟨rfl, rfl⟩) ?_
  rintro obj t ⟨rfl, rfl⟩
  have hnew : s₁.heap.DictOf (intKind C.prog C.w) D [] := Heap.DictOf.new s'.heap
  have hT : s₁.TypeIs (.ref D) "dict" := hnew.typeIs
  have d₁ : IsL s₁.heap a items c := up _ _ d'
  refine ⟨hT, PySem.F.args_dict_init_2 _ _, ?_⟩
  unfold Builtin.«dict.__init__»
  refine wpAny_bind ?_
  unfold Builtin.Dict.selfAndRest
  refine wpAny_bind (wpAny_notOrdered_dict hT ?_)
  show wpAny _ _ (pure (D, [Value.ref a])) _ _ _
  refine wpAny_pure ?_
  show wpAny _ _ (Builtin.Dict.updateFrom "dict.__init__" D (.ref a) [] .none) _ _ _
  unfold Builtin.Dict.updateFrom
  refine wpAny_bind (wpAny_typeOf (T := "list") ⟨_, d₁, rfl⟩ ?_)
  rw [if_pos (by decide)]
  refine wpAny_bind (getAttr?_keys d₁ O'.hd fun h' tk kp => ?_)
  rw [if_pos (show (Option.none : Option Value).isNone = true from rfl)]
  refine wpAny_bind (wpAny_rule ?_)
  have d₂ : IsL h' a items c := kp _ _ d₁
  have hne : a ≠ h'.objs.size := Nat.ne_of_lt (Heap.lt_size d₂)
  have hl : pairs.length = items.size := by simpa using e.length
  refine wpAny_bind (wpAny_pyIter_list (items := items) ⟨_, d₂, rfl, c, rfl⟩ ?_)
  let I := h'.objs.size
  let s₃ : Shared := { s' with heap := h'.push { cls := .type "list_iterator", data := .fields #[.ref a, .int 0 0] }, toks := tk }
  have up₃ : Kp h' s₃.heap := fun _ _ e => Heap.get?_push_of_some _ e
  have hDD : h'.get? D = some { cls := .type "dict", data := .dict #[] } := kp _ _ (Heap.get?_push_size _ rfl)
  have hDI : D ≠ I := Nat.ne_of_lt (Heap.lt_size hDD)
  have hDa : D ≠ a := Nat.ne_of_gt (Heap.lt_size d')
  have gI : (C.v s').get? I = none := by
    cases q : (C.v s').get? I with
    | none => rfl
    | some o => exact absurd (Heap.lt_size (kp _ _ (up _ _ (hid_le _ _ q)))) (Nat.lt_irrefl _)
  have gD : (C.v s').get? D = none := by
    cases q : (C.v s').get? D with
    | none => rfl
    | some o => exact absurd (Heap.lt_size (hid_le _ _ q)) (Nat.lt_irrefl _)
  have W : Walks C.prog C.w C.A.in1.in1 I [I, a] [I] pairs.length _ _ := hl ▸ Walks.list (prog := C.prog) (w := C.w) (A := C.A.in1.in1) O'.hd I a hne items
  refine wpAny_pure ⟨plainId_quiet plain_update_loop _, update_loop (A := C.A.in1) (g := C.v s') W (fun i v h => ?_) hDI hDa gD gI hsz pairs.length 0 0 s₃ [] (by omega) ?_ ?_ ?_ rfl .nil ?_⟩
  · have : i < (pairs.map pairT).length := by rw [List.length_map, hl]; exact (Array.getElem?_eq_some_iff.mp h).1
    obtain ⟨u, h1, h2⟩ := e.get (List.getElem?_eq_getElem this)
    rw [Array.getElem?_toList, h] at h1; cases h1
    exact ⟨_, List.getElem?_eq_getElem this, h2⟩
  · exact ⟨⟨_, Heap.get?_push_size _ rfl, rfl, rfl⟩, ⟨_, up₃ _ _ d₂, rfl, c, rfl⟩⟩
  · exact fun b o q => up₃ _ _ (kp _ _ (up _ _ (hid_le _ _ q)))
  · exact (hnew : s₁.heap.DictOf (intKind C.prog C.w) D []) |> fun ⟨o, es, ep, g, r⟩ => ⟨o, es, ep, up₃ _ _ (kp _ _ g), r⟩
  · intro s'' ws sm hk hd hm hx
    have kall : Kp s'.heap s''.heap := fun b o q => hk b o (fun z => by
        have := Heap.lt_size (kp _ _ (up _ _ q))
        rw [z] at this; exact Nat.lt_irrefl _ this) (fun z => by
        have := Heap.lt_size q
        rw [z] at this; exact Nat.lt_irrefl _ this) (up₃ _ _ (kp _ _ (up _ _ q)))
    refine ⟨rfl, ?_, D, ws, rfl, Heap.get?_none_of_le (Nat.le_refl _), O'.notMods, hd, hm, hx.mono (hid_new (H' := [D]) kall fun a m => by rw [List.mem_singleton.mp m]; exact Heap.get?_none_of_le (Nat.le_refl _))⟩
    obtain ⟨h9, t9, e9⟩ := sm
    exact ⟨h9, t9, by rw [e9], by rw [e9] at kall; exact kall⟩
theorem op_dict_pairs {C : Cx} {s : Shared} {pairs : List (Int × VP)} (O : Ok C s) (hsz : pairs.length ≤ 1000) : OpN C s (.type "dict") [.list (pairs.map pairT)] (C.dict (ofPairs pairs)).P := fun s' E vs ks hv =>
  wpAny_mono (op_dict_pairsF O hsz s' E vs ks hv) (fun v s'' h => by
    obtain ⟨k, D, ws, rfl, n, l, hd, hm, hx⟩ := h
    obtain ⟨o, es, ep, g, r⟩ := hd
    exact ⟨k, D, ws, rfl, ⟨o, es, ep, hideAll_get _ g fun m => (let ⟨o', q⟩ := (O.later ks).low _ m; by rw [q] at n; cases n), r⟩, hm, hx.mono (hid_sub fun b m => .tail _ m), l⟩) fun _ _ e => e

/-! list(..) -/
theorem new_not_hidden {C : Cx} {s : Shared} (O : Ok C s) : s.heap.objs.size ∉ C.H := fun m => by
  obtain ⟨o', q⟩ := O.low _ m
  exact Nat.lt_irrefl _ (Heap.lt_size q)
theorem op_list_tup {C : Cx} {s : Shared} {Ts : List VP} (O : Ok C s) (hsz : Ts.length ≤ 1000) : OpN C s (.type "list") [.tup Ts] (VP.list Ts).P := fun s' E vs ks hv => by
  cases hv with | cons hx hv => cases hv with | nil =>
  obtain ⟨a, items, c, rfl, d, e⟩ := hx
  have hl : Ts.length = items.size := by simpa using e.length
  exact call_list_seq (items := items) a (.inr rfl) (hid_le _ _ d) rfl rfl (fun h' c' hk hD => ⟨⟨h', s'.toks, rfl, hk⟩, s'.heap.objs.size, items, c', rfl, hideAll_get _ hD (new_not_hidden (O.later ks)), e.mono (hid_kp hk)⟩) (by rw [sizeLine_eq]; omega)

/-- the view of a dict's items -/
def VP.items (prog : Program) (w : World) (kvs : List (Int × VP)) : VP := ⟨fun g v => ∃ a d, v = .ref a ∧ g.IsItemsView a d ∧ DictP prog w kvs g (.ref d), fun k h => by
  obtain ⟨a, d, e, ⟨o, x, r⟩, q⟩ := h
  exact ⟨a, d, e, ⟨o, k _ _ x, r⟩, (VP.dict _ _ kvs).mono k q⟩⟩
theorem op_items {C : Cx} {s : Shared} {kvs : List (Int × VP)} (O : Ok C s) : OpN C s (.builtin "dict.items") [C.dict kvs] (VP.items C.prog C.w kvs).P := fun s' E vs ks hv => by
  cases hv with | cons hx hv => cases hv with | nil =>
  have hx' := hx
  obtain ⟨a, ws, rfl, d, m, x, l⟩ := hx
  have hD := dictOf_kp d hid_le
  refine call_meetsIn PySem.F.slot_dict_items (show s'.TypeIs (.ref a) "dict" from let ⟨o, _, _, e, hc, _⟩ := hD; ⟨o, e, hc.1⟩) PySem.F.entry_dict_items (PySem.F.args_dict_items_1 _)
    (meets_dict_items (intKind C.prog C.w) a l) ⟨⟨_, hD⟩, ?_⟩
  exact ⟨keepsPush _ _, s'.heap.objs.size, a, rfl, ⟨_, (O.later ks).push, rfl, rfl⟩, (C.dict kvs).mono (keepsV (C := C) (keepsPush s' _)) hx'⟩
theorem op_list_items {C : Cx} {s : Shared} {kvs : List (Int × VP)} (O : Ok C s) (hsz : kvs.length ≤ 1000) : OpN C s (.type "list") [VP.items C.prog C.w kvs] (VP.list (kvs.map pairT)).P := fun s' E vs ks hv => by
  have O' := O.later ks
  cases hv with | cons hx hv => cases hv with | nil =>
  obtain ⟨a, d, rfl, ⟨o, hv, hv1, hv2⟩, b, ws, e, hd, m, x, l⟩ := hx
  cases e
  obtain ⟨ep, hat⟩ := (dictOf_kp hd (hid_le (H := C.H))).dictAt
  have hl : ws.length = kvs.length := by simpa using congrArg List.length m
  refine kdx_call (knd := intKind C.prog C.w) O'.hd ⟨o, hid_le _ _ hv, hv1, hv2⟩ hat (by rw [hl, sizeLine_eq]; omega) fun h' tk acc c as hk hD has hG hacc => ?_
  refine ⟨⟨h', tk, rfl, hk⟩, s'.heap.objs.size, acc, c, rfl, hideAll_get _ hD (new_not_hidden O'), ?_⟩
  rw [hacc]
  have key : ∀ (n : Nat) (kvs : List (Int × VP)) (ws : List (Int × Value)) (as : List Addr), ws.map (·.1) = kvs.map (·.1) → Els (C.v s') (kvs.map (·.2)) (ws.map (·.2)) → as.length = ws.length →
      (∀ (j : Nat) (ad : Addr), as[j]? = some ad → s'.heap.objs.size < ad ∧ ∃ key k x, ws[j]? = some (k, x) ∧ (intKind C.prog C.w).is k key = true ∧ h'.get? ad = some { cls := .type "tuple", data := .seq #[key, x] }) →
      kvs.length = n → Els (hid C.H h') (kvs.map pairT) (as.map Value.ref) := by
    intro n
    induction n with
    | zero =>
      intro kvs ws as hm hx hl hp hn
      cases kvs with
      | nil =>
        cases ws with
        | nil => cases as with | nil => exact .nil | cons _ _ => cases hl
        | cons _ _ => cases hm
      | cons _ _ => cases hn
    | succ n ih =>
      intro kvs ws as hm hx hl hp hn
      cases kvs with
      | nil => cases hn
      | cons p r =>
        cases ws with
        | nil => cases hm
        | cons q t =>
          cases as with
          | nil => cases hl
          | cons ad as =>
            obtain ⟨k, T⟩ := p
            obtain ⟨k', v⟩ := q
            simp only [List.map_cons, List.cons.injEq] at hm hx
            obtain ⟨rfl, hm⟩ := hm
            cases hx with
            | cons hv hx =>
              obtain ⟨hlt, key, k2, x2, e1, e2, e3⟩ := hp 0 ad rfl
              simp only [List.getElem?_cons_zero, Option.some.injEq, Prod.mk.injEq] at e1
              obtain ⟨rfl, rfl⟩ := e1
              obtain ⟨tk2, rfl⟩ := Value.isInt_shape e2
              rw [List.map_cons, List.map_cons]
              refine .cons ⟨ad, _, 0, rfl, hideAll_get _ e3 fun m => ?_, .cons ⟨tk2, rfl⟩ (.cons (T.mono (hid_kp hk) hv) .nil)⟩ (ih r t as hm hx (by simpa using hl) (fun j a2 hj => hp (j + 1) a2 hj) (by simpa using hn))
              obtain ⟨o', q⟩ := O'.low _ m
              exact Nat.lt_asymm hlt (Heap.lt_size q)
  exact key kvs.length kvs ws as m x has (fun j ad hj => ⟨hG.above ad (List.mem_of_getElem? hj), hG.pairs j ad hj⟩) rfl

/-! sorting -/
theorem ins_perm (a : Int) : ∀ l, (ins a l).Perm (a :: l) := by
  intro l
  induction l with
  | nil => exact .refl _
  | cons b r ih =>
    rw [ins]; split
    · exact .refl _
    · exact (List.Perm.cons b ih).trans (.swap _ _ _)
theorem sortI_perm : ∀ l, (sortI l).Perm l := by
  intro l
  induction l with
  | nil => exact .refl _
  | cons a r ih => rw [sortI]; exact (ins_perm a _).trans (.cons a ih)
theorem ins_sorted (a : Int) : ∀ l, l.Pairwise (· ≤ ·) → (ins a l).Pairwise (· ≤ ·) := by
  intro l
  induction l with
  | nil => intro _; simp [ins]
  | cons b r ih =>
    intro h
    rw [List.pairwise_cons] at h
    rw [ins]; split
    · rename_i hab
      rw [List.pairwise_cons, List.pairwise_cons]
      refine ⟨fun x hx => ?_, h⟩
      rcases List.mem_cons.mp hx with rfl | hx
      · exact hab
      · exact Int.le_trans hab (h.1 x hx)
    · rename_i hab
      rw [List.pairwise_cons]
      refine ⟨fun x hx => ?_, ih h.2⟩
      rcases List.mem_cons.mp ((ins_perm a r).mem_iff.mp hx) with rfl | hx
      · omega
      · exact h.1 x hx
theorem sortI_sorted : ∀ l, (sortI l).Pairwise (· ≤ ·) := by
  intro l
  induction l with
  | nil => exact .nil
  | cons a r ih => rw [sortI]; exact ins_sorted a _ ih
theorem sorted_unique : ∀ {l m : List Int}, l.Perm m → l.Pairwise (· ≤ ·) → m.Pairwise (· ≤ ·) → l = m := by
  intro l
  induction l with
  | nil => intro m p _ _; exact p.nil_eq
  | cons a r ih =>
    intro m p hl hm
    cases m with
    | nil => exact absurd p.length_eq (by simp)
    | cons b t =>
      rw [List.pairwise_cons] at hl hm
      have e : a = b := by
        have h1 : a ∈ b :: t := p.mem_iff.mp (.head _)
        have h2 : b ∈ a :: r := p.mem_iff.mpr (.head _)
        rcases List.mem_cons.mp h1 with e | h1
        · exact e
        · rcases List.mem_cons.mp h2 with e | h2
          · exact e.symm
          · exact Int.le_antisymm (hl.1 b h2) (hm.1 a h1)
      subst e
      rw [ih (List.Perm.cons_inv p) hl.2 hm.2]
theorem sorted_is {l m : List Int} (p : l.Perm m) (h : l.Pairwise (· ≤ ·)) : l = sortI m := sorted_unique (p.trans (sortI_perm m).symm) h (sortI_sorted m)

theorem intsAre_of {g : Heap} : ∀ {ns : List Int} {vs : List Value}, Els g (ns.map VP.int) vs → IntsAre vs ns := by
  intro ns
  induction ns with
  | nil => intro vs h; cases h; exact .nil
  | cons n r ih => intro vs h; rw [List.map_cons] at h; cases h with | cons a t => obtain ⟨u, rfl⟩ := a; exact .cons n u (ih t)
theorem els_of_ints {g : Heap} {ns : List Int} {vs : List Value} (h : IntsAre vs ns) : Els g (ns.map VP.int) vs := by
  induction h with
  | nil => exact .nil
  | cons n t _ ih => exact .cons ⟨t, rfl⟩ ih

theorem op_sorted_list {C : Cx} {s : Shared} {ns : List Int} (O : Ok C s) (hsz : ns.length < 64) : OpN C s (.builtin "sorted") [.list (ns.map VP.int)] (VP.list ((sortI ns).map VP.int)).P := fun s' E vs ks hv => by
  cases hv with | cons hx hv => cases hv with | nil =>
  obtain ⟨a, items, c, rfl, d, e⟩ := hx
  have d' := hid_le _ _ d
  have hl : ns.length = items.size := by simpa using e.length
  have hlow := (O.later ks).low
  refine sorted_ints (vs := items.toList) (ns := ns) ⟨_, d', rfl, c, rfl⟩ (intsAre_of e) (by simp; omega) fun out ns' h1 h2 h3 => ?_
  obtain ⟨n, hn⟩ := sortedAll_at s'.heap items.toList out
  have kp : Kp s'.heap (sortedAll s'.heap items.toList out) := fun _ _ => sortedAll_old
  rw [sorted_is h2 h3] at h1
  refine ⟨⟨_, s'.toks, rfl, kp⟩, _, out, n, rfl, hideAll_get _ hn fun m => ?_, els_of_ints h1⟩
  obtain ⟨o', q⟩ := hlow _ m
  exact Nat.not_succ_lt_self (Heap.lt_size q)

theorem op_sorted_dict {C : Cx} {s : Shared} {kvs : List (Int × VP)} (O : Ok C s) (hsz : kvs.length < 64) : OpN C s (.builtin "sorted") [C.dict kvs] (VP.list ((sortI (kvs.map (·.1))).map VP.int)).P := fun s' E vs ks hv => by
  have O' := O.later ks
  cases hv with | cons hx hv => cases hv with | nil =>
  obtain ⟨a, ws, rfl, hd, m, x, l⟩ := hx
  obtain ⟨ep, hat⟩ := (dictOf_kp hd (hid_le (H := C.H))).dictAt
  have hl : ws.length = kvs.length := by simpa using congrArg List.length m
  refine call_function_entry kind_sorted plain_sorted entry_sorted (args_sorted1 _) ?_
  unfold Builtin.«sorted»
  refine wpAny_bind (m := checkCount "sorted" 1 1 _) (wpAny_pure ?_)
  refine wpAny_bind (kdu_collect (A := C.A.in1) (kdl_dict (knd := intKind C.prog C.w) (kvs := ws) (ep := ep) l) O'.hd hat (by rw [hl, sizeLine_eq]; omega) fun h' tk acc hk hacc => ?_)
  have hn : acc.toList.length = ws.length := by rw [Array.length_toList]; exact hacc.1
  have hI : IntsAre acc.toList (ws.map (·.1)) := by
    have key : ∀ (vs : List Value) (ws : List (Int × Value)), vs.length = ws.length → (∀ (j : Nat) (v : Value), vs[j]? = some v → ∃ k x, ws[j]? = some (k, x) ∧ (intKind C.prog C.w).is k v = true) → IntsAre vs (ws.map (·.1)) := by
      intro vs
      induction vs with
      | nil => intro ws hl _; cases ws with | nil => exact .nil | cons _ _ => cases hl
      | cons v r ih =>
        intro ws hl hp
        cases ws with
        | nil => cases hl
        | cons q t =>
          obtain ⟨k, x, e1, e2⟩ := hp 0 v rfl
          simp only [List.getElem?_cons_zero, Option.some.injEq] at e1
          obtain ⟨tk, rfl⟩ := Value.isInt_shape e2
          subst e1
          exact .cons k tk (ih t (by simpa using hl) fun j v hj => hp (j + 1) v hj)
    exact key _ _ hn fun j v hj => hacc.2 j v (by rw [← Array.getElem?_toList]; exact hj)
  refine wpAny_bind (wpAny_newList ?_ (by rw [hn, hl, sizeLine_eq]; omega))
  have hoL : (h'.push (seqObj "list" acc.toList.toArray 0)).get? h'.objs.size = some (seqObj "list" acc.toList.toArray 0) := Heap.get?_push_size _ rfl
  refine wpAny_bind (wpAny_holding (wpAny_call_entry slot_list_sort ⟨_, hoL, rfl⟩ entry_list_sort (list_sort_tree hoL hI (by rw [hn, hl]; exact hsz) fun out ns' a1 a2 a3 => ⟨_, rfl, ?_⟩) (args_list_sort _)))
  have kp : Kp s'.heap (sortedHeap (h'.push (seqObj "list" acc.toList.toArray 0)) h'.objs.size acc.toList out) := fun b o e => by
    have h1 := hk b o e
    have h2 := Heap.lt_size h1
    rw [sortedHeap_old (Nat.ne_of_lt h2) (by rw [size_push']; exact Nat.lt_succ_of_lt h2)]
    exact Heap.get?_push_of_some _ h1
  obtain ⟨n, hn'⟩ := sortedHeap_at (out := out) hoL
  rw [sorted_is a2 a3, m] at a1
  refine wpAny_pure ⟨_, rfl, ⟨_, tk, rfl, kp⟩, _, out, n, rfl, hideAll_get _ hn' fun mm => ?_, els_of_ints a1⟩
  obtain ⟨o', q⟩ := O'.low _ mm
  exact Nat.lt_irrefl _ (Heap.lt_size (hk _ _ q))

/-! states compared -/
theorem look_map_path (st : Stt) (k : Int) : look k (st.map fun p => (p.1, pathV p.2)) = (look k st).map pathV := look_map pathV k st
theorem hits {A : Around} {s : Shared} {g : Heap} (hu : A.units < cLine) (kp : Kp g s.heap) {b : Stt} {kb : List (Int × Value)} (mb : kb.map (·.1) = (b.map fun p => (p.1, pathV p.2)).map (·.1)) (xb : Els g ((b.map fun p => (p.1, pathV p.2)).map (·.2)) (kb.map (·.2))) :
    ∀ {a : Stt} {ka : List (Int × Value)}, ka.map (·.1) = (a.map fun p => (p.1, pathV p.2)).map (·.1) → Els g ((a.map fun p => (p.1, pathV p.2)).map (·.2)) (ka.map (·.2)) → KeqHits A s kb ka (subSt a b) := by
  intro a
  induction a with
  | nil => intro ka hm _; cases ka with | nil => exact .nil | cons _ _ => cases hm
  | cons p r ih =>
    intro ka hm hx
    obtain ⟨k, pa⟩ := p
    cases ka with
    | nil => cases hm
    | cons q t =>
      obtain ⟨k', v⟩ := q
      simp only [List.map_cons, List.cons.injEq] at hm hx
      obtain ⟨rfl, hm⟩ := hm
      cases hx with
      | cons hv hx =>
        rw [subSt]
        cases hl : look k' b with
        | none => exact .miss (look_none mb (by rw [look_map_path, hl]; rfl))
        | some q =>
          obtain ⟨y, h1, h2⟩ := look_some mb xb (k := k') (T := pathV q) (by rw [look_map_path, hl]; rfl)
          have := KeqHits.hit (r := t) h1 (eqAt_path (A := A) (s := s) hu ((pathV pa).mono kp hv) ((pathV q).mono kp h2)) (ih hm hx)
          have e : (if peq pa q then subSt r b else false) = (decide (pa = q) && subSt r b) := by
            have : peq pa q = decide (pa = q) := by
              have key : ∀ p q : Path, peq p q = decide (p = q) := by
                intro p
                induction p with
                | nil => intro q; cases q <;> simp [peq]
                | cons a r ih =>
                  intro q
                  cases q with
                  | nil => simp [peq]
                  | cons b t =>
                    rw [peq]
                    by_cases h : a = b
                    · subst h; rw [if_pos rfl, ih]; simp
                    · rw [if_neg h]; simp [h]
              exact key pa q
            rw [this]; cases decide (pa = q) <;> simp
          show KeqHits A s kb ((k', v) :: t) (if peq pa q then subSt r b else false)
          rw [e]; exact this

abbrev stV (prog : Program) (w : World) (st : Stt) : VP := VP.dict prog w (st.map fun p => (p.1, pathV p.2))
theorem steq_is (a b : Stt) : steq a b = (a.length == b.length && subSt a b) := by
  unfold steq
  by_cases h : a.length = b.length
  · rw [if_pos h]; simp [h]
  · rw [if_neg h]; simp [h]
theorem op_ne_st {C : Cx} {s : Shared} {a b : Stt} (O : Ok C s) : Op2 C s (compareOp .NotEq) (stV C.prog C.w a) (stV C.prog C.w b) (VP.bool (!steq a b)).P := fun s' E x y k hx hy => by
  obtain ⟨da, wa, rfl, ha, ma, xa, la⟩ := hx
  obtain ⟨db, wb, rfl, hb, mb, xb, lb⟩ := hy
  refine keq_ne la lb (dictOf_kp ha hid_le) (dictOf_kp hb hid_le) O.u (fun _ => hits O.u1 hid_le mb xb ma xa) ?_
  have l1 : wa.length = a.length := by simpa using congrArg List.length ma
  have l2 : wb.length = b.length := by simpa using congrArg List.length mb
  rw [l1, l2, ← steq_is]; exact ⟨keepsRefl _, rfl⟩
theorem op_eq_st {C : Cx} {s : Shared} {a b : Stt} (O : Ok C s) : Op2 C s (compareOp .Eq) (stV C.prog C.w a) (stV C.prog C.w b) (VP.bool (steq a b)).P := fun s' E x y k hx hy => by
  obtain ⟨da, wa, rfl, ha, ma, xa, la⟩ := hx
  obtain ⟨db, wb, rfl, hb, mb, xb, lb⟩ := hy
  refine keq_eq la lb (dictOf_kp ha hid_le) (dictOf_kp hb hid_le) O.u (fun _ => hits O.u1 hid_le mb xb ma xa) ?_
  have l1 : wa.length = a.length := by simpa using congrArg List.length ma
  have l2 : wb.length = b.length := by simpa using congrArg List.length mb
  rw [l1, l2, ← steq_is]; exact ⟨keepsRefl _, rfl⟩

/-! own places -/
def MV.dict (prog : Program) (w : World) (kvs : List (Int × VP)) : MV := ⟨fun g o => ∃ ws, o.IsDictOf (intKind prog w) ws ∧ ws.map (·.1) = kvs.map (·.1) ∧ Els g (kvs.map (·.2)) (ws.map (·.2)), fun k h => by
  obtain ⟨ws, d, m, x⟩ := h; exact ⟨ws, d, m, x.mono k⟩⟩

/-- a value that has just been made -/
def EvF (C : Cx) (s : Shared) (e : Expr) (V : MV) : Prop :=
  ∀ s' E, Keeps s s' → wpAny C.M C.A (eval e C.env) (fun v s'' => Keeps s' s'' ∧ ∃ a o, v = .ref a ∧ s'.heap.get? a = none ∧ (a == sysModules) = false ∧ s''.heap.get? a = some o ∧ V.P (hid (a :: C.H) s''.heap) o) E s'
theorem EvF_list {C : Cx} {s : Shared} {es : List Expr} {Ts : List VP} {pos} (O : Ok C s) (h : EvL C s es Ts) (hn : Ts.length ≤ 100 := by simp) : EvF C s (.List es pos) (.list Ts) := fun s' E ks => by
  refine wpAny_List (h.go.use ks fun vs s₁ k₁ hv => ⟨?_, keepsTrans k₁ (keepsPush _ _), s₁.heap.objs.size, _, rfl, ?_, ?_, Heap.get?_push_size _ rfl, vs.toArray, 0, rfl, ?_⟩)
  · have := hv.length; rw [sizeLine_eq]; omega
  · cases q : s'.heap.get? s₁.heap.objs.size with
    | none => rfl
    | some o => exact absurd (Heap.lt_size (keepsKp k₁ _ _ q)) (Nat.lt_irrefl _)
  · exact ((O.later ks).later k₁).notMods
  · exact hv.mono (hid_new (H' := [s₁.heap.objs.size]) (fun _ _ e => Heap.get?_push_of_some _ e) fun a m => by rw [List.mem_singleton.mp m]; exact Heap.get?_none_of_le (Nat.le_refl _))
theorem EvF_dict {C : Cx} {s : Shared} {pos} (O : Ok C s) : EvF C s (.Dict [] [] pos) (.dict C.prog C.w []) := fun s' E ks => by
  refine wpAny_Dict_empty ⟨keepsPush _ _, s'.heap.objs.size, _, rfl, Heap.get?_none_of_le (Nat.le_refl _), (O.later ks).notMods, Heap.get?_push_size _ rfl, [], ?_, rfl, .nil⟩
  obtain ⟨o, es, ep, e, r⟩ := (Heap.DictOf.new (knd := intKind C.prog C.w) s'.heap)
  rw [Heap.get?_push_size _ rfl] at e
  cases e
  exact ⟨es, ep, r⟩

section
variable {C : Cx} {s₀ s s' : Shared} {H₀ : List Addr} {k : Nat} {ρ ρ' : Rho} {μ μ' : Mu}

theorem Bd.made (B : Bd C s₀ H₀ k s ρ μ) {s' s'' : Shared} {a : Addr} {o : Obj} {V : MV} (k₁ : Keeps s s') (k₂ : Keeps s' s'') (n : s'.heap.get? a = none) (l : s''.heap.get? a = some o) (hV : V.P (hid (a :: C.H) s''.heap) o) :
    a ∉ C.H ∧ Bd { C with H := a :: C.H } s₀ H₀ k s'' ρ ((a, V) :: μ) := by
  have B' := B.later k₁
  obtain ⟨B₁, hO⟩ := B'.hide k₂ n ⟨o, l⟩
  exact ⟨fun m => (let ⟨o', e⟩ := B'.low a m; by rw [e] at n; cases n), B₁.addM ⟨hO, o, l, hV⟩⟩

/-- a new thing is stored -/
theorem own_storeL (B : Bd C s₀ H₀ k s ρ μ) {e : Expr} {V : MV} {x : Str} {px pos : Pos} {Q : Flow → Shared → Prop} {E : Value → Shared → Prop} (h : EvF C s e V) (hx : C.env.kindOf x = some .local) (hρ : ∀ p ∈ ρ', p.1 ≠ x ∧ p ∈ ρ)
    (q : ∀ a s', (a == sysModules) = false → a ∉ C.H → Bd { C with H := a :: C.H } s₀ H₀ k s' ((x, VP.ex (.ref a)) :: ρ') ((a, V) :: μ) → Q .next s')
    (hs : swapsWith e (some (.Name x px)) pos.line C.env = pure false := by rfl) : wpAny C.M C.A (exec (.Assign [.Name x px] e pos) C.env) Q E s := by
  refine wpAny_Assign_Name (wpAny_mono (h s E (keepsRefl _)) (fun v s₁ hv => ?_) fun _ _ e => e) hs
  obtain ⟨k₁, a, o, rfl, n, hm, l, hV⟩ := hv
  obtain ⟨ha, B₁⟩ := B.made (keepsRefl _) k₁ n l hV
  exact Bd.storeL (C := { C with H := a :: C.H }) B₁ hx (T := VP.ex (.ref a)) rfl hρ fun s₂ B₂ => q a s₂ hm ha B₂
theorem own_storeC (B : Bd C s₀ H₀ k s ρ μ) {e : Expr} {V : MV} {x : Str} {px pos : Pos} {Q : Flow → Shared → Prop} {E : Value → Shared → Prop} (h : EvF C s e V) (hx : C.env.kindOf x = some .cell) (hl : (C.env.cells.lookup x).isSome = true) (hc : CellsNew C) (hρ : ∀ p ∈ ρ', p.1 ≠ x ∧ p ∈ ρ)
    (q : ∀ a s', (a == sysModules) = false → a ∉ C.H → Bd { C with H := a :: C.H } s₀ H₀ k s' ((x, VP.ex (.ref a)) :: ρ') ((a, V) :: μ) → Q .next s')
    (hs : swapsWith e (some (.Name x px)) pos.line C.env = pure false := by rfl) : wpAny C.M C.A (exec (.Assign [.Name x px] e pos) C.env) Q E s := by
  refine wpAny_Assign_Name (wpAny_mono (h s E (keepsRefl _)) (fun v s₁ hv => ?_) fun _ _ e => e) hs
  obtain ⟨k₁, a, o, rfl, n, hm, l, hV⟩ := hv
  obtain ⟨ha, B₁⟩ := B.made (keepsRefl _) k₁ n l hV
  exact Bd.storeC (C := { C with H := a :: C.H }) B₁ hx hl hc (T := VP.ex (.ref a)) rfl hρ fun s₂ B₂ => q a s₂ hm ha B₂
/-- an own thing is one's own no longer -/
theorem Bd.show0 {a : Addr} {s₁ : Shared} {ρ₁ : Rho} {μ₁ : Mu} (B₀ : Bd C s₀ H₀ k s₁ ρ₁ μ₁) (B : Bd { C with H := a :: C.H } s₀ H₀ k s ρ μ) (ha : a ∉ C.H) (n : C.g.get? a = none) (hμ : ∀ p ∈ μ', p ∈ μ ∧ p.1 ∈ C.H) : Bd C s₀ H₀ k s ρ μ' :=
  (B.lessM fun p m => (hμ p m).1).show ⟨s.heap, s.toks, rfl, fun _ _ _ e => e⟩ ha (fun p m => (hμ p m).2) B₀.sub n ⟨B₀.wf.loc, fun x c e => (B₀.wf.cell x c e).2.1⟩
theorem kp_show {a : Addr} {H : List Addr} {h : Heap} : Kp (hid (a :: H) h) (hid H h) := hid_sub fun b m => .tail _ m
theorem Bd.free {a : Addr} {Ts : List VP} {x : Str} {s₁ : Shared} {ρ₁ : Rho} {μ₁ : Mu} (B₀ : Bd C s₀ H₀ k s₁ ρ₁ μ₁) (B : Bd { C with H := a :: C.H } s₀ H₀ k s ρ μ) (ha : a ∉ C.H) (hm : (a, MV.list Ts) ∈ μ) (hx : (x, VP.ex (.ref a)) ∈ ρ) (hμ : ∀ p ∈ μ', p ∈ μ ∧ p.1 ∈ C.H) :
    Bd C s₀ H₀ k s ((x, .list Ts) :: ρ) μ' := by
  obtain ⟨hO, o, e, hV⟩ := B.own a _ hm
  refine (Bd.show0 B₀ B ha hO.new hμ).add ?_
  obtain ⟨v, h1, h2⟩ := B.vars x _ hx
  have h2 : v = .ref a := h2
  subst h2
  obtain ⟨vs, n, rfl, hE⟩ := hV
  exact ⟨_, h1, a, vs, n, rfl, hideAll_get _ e ha, hE.mono kp_show⟩
theorem Bd.freeD {a : Addr} {kvs : List (Int × VP)} {x : Str} {s₁ : Shared} {ρ₁ : Rho} {μ₁ : Mu} (B₀ : Bd C s₀ H₀ k s₁ ρ₁ μ₁) (B : Bd { C with H := a :: C.H } s₀ H₀ k s ρ μ) (ha : a ∉ C.H) (hl : (a == sysModules) = false) (hm : (a, MV.dict C.prog C.w kvs) ∈ μ) (hx : (x, VP.ex (.ref a)) ∈ ρ) (hμ : ∀ p ∈ μ', p ∈ μ ∧ p.1 ∈ C.H) :
    Bd C s₀ H₀ k s ((x, C.dict kvs) :: ρ) μ' := by
  obtain ⟨hO, o, e, hV⟩ := B.own a _ hm
  refine (Bd.show0 B₀ B ha hO.new hμ).add ?_
  obtain ⟨v, h1, h2⟩ := B.vars x _ hx
  have h2 : v = .ref a := h2
  subst h2
  obtain ⟨ws, d, m, hE⟩ := hV
  exact ⟨_, h1, a, ws, rfl, Heap.dictOf_iff.mpr ⟨o, hideAll_get _ e ha, d⟩, m, hE.mono kp_show, hl⟩

theorem swaps_call {f : Expr} {as : List Expr} {ks : List Keyword} {pos : Pos} {line : Nat} {env : Env} : swapsWith (.Call f as ks pos) none line env = pure false := rfl
theorem Bd.quiet (B : Bd C s₀ H₀ k s ρ μ) : interactive C.env = false := by unfold interactive; rw [B.kind]; rfl

/-- found.append(e) -/
theorem own_append (B : Bd C s₀ H₀ k s ρ μ) {a : Addr} {x : Str} {e : Expr} {T : VP} {Ts : List VP} {px ap cp pos : Pos} {Q : Flow → Shared → Prop} {E : Value → Shared → Prop} (hx : (x, VP.ex (.ref a)) ∈ ρ) (ha : (a, MV.list Ts) ∈ μ) (h : Ev C s e T) (hsz : Ts.length ≤ 1000) (hμ : ∀ p ∈ μ', p.1 ≠ a ∧ p ∈ μ)
    (q : ∀ s', Bd C s₀ H₀ k s' ρ ((a, MV.list (Ts ++ [T])) :: μ') → Q .next s')
    (hm2 : ∃ pl, eval (.Call (.Attribute (.Name x px) "append" ap) [e] [] cp) C.env = (do
      let ov ← eval (.Name x px) C.env
      standAt ap.atName
      let (f, first) ← holding [ov] (getMethod ov "append" pl)
      callWith cp f first (backTo cp (starEach [e] C.env)) []) := by exact ⟨_, rfl⟩)
    (he : starEach [e] C.env = (false, eval e C.env) :: starEach [] C.env := by rfl) (hd : (x == ("__debug__" : Str)) = false := by decide +kernel) : wpAny C.M C.A (exec (.Expr (.Call (.Attribute (.Name x px) "append" ap) [e] [] cp) pos) C.env) Q E s := by
  obtain ⟨pl, hm2⟩ := hm2
  refine wpAny_Expr_any (MethodCall_ (pl := pl) ((B.ev hx hd).use (keepsRefl _) fun v s₁ k₁ hv => ?_) hm2) B.quiet swaps_call
  have hv : v = .ref a := hv
  subst hv
  have B₁ := B.later k₁
  obtain ⟨hO, o, eo, vs, n, rfl, hE⟩ := B₁.own a _ ha
  refine getMethod_builtin ⟨_, eo, rfl⟩ PySem.F.plainAttrs_list PySem.F.slot_list_append PySem.F.type_list_append (fun b hb => by cases hb; exact ⟨_, eo, rfl⟩) ?_
  refine callWith_method1 ((EvL.cons (h.later k₁) .nil he).go.use (keepsRefl _) fun ws s₂ k₂ hws => ?_) he rfl
  cases hws with
  | cons hw hws =>
    cases hws
    have B₂ := B₁.later k₂
    obtain ⟨_, o, eo, vs, n, rfl, hE⟩ := B₂.own a _ ha
    have hl : Ts.length = vs.size := by simpa using hE.length
    refine wpAny_list_append_plain ⟨n, eo⟩ (fun h' hl' hs' => ?_) (by rw [sizeLine_eq]; omega)
    obtain ⟨n', e'⟩ := hl'
    have hb : But a s₂ { s₂ with heap := h' } := ⟨h', s₂.toks, rfl, hs'.extBut⟩
    have kp := hid_but hb.ext hO.hid
    refine q _ ((B₂.but hb hO ⟨_, e'⟩ hμ).addM ⟨hO, _, e', _, n', rfl, ?_⟩)
    have := (hE.mono kp).append (.cons (T.mono kp hw) .nil)
    simpa using this
/-- found.extend(e) -/
theorem own_extend (B : Bd C s₀ H₀ k s ρ μ) {a : Addr} {x : Str} {e : Expr} {Us : List VP} {Ts : List VP} {px ap cp pos : Pos} {Q : Flow → Shared → Prop} {E : Value → Shared → Prop} (hx : (x, VP.ex (.ref a)) ∈ ρ) (ha : (a, MV.list Ts) ∈ μ) (h : Ev C s e (.list Us)) (hsz : Ts.length + Us.length ≤ 1000) (hμ : ∀ p ∈ μ', p.1 ≠ a ∧ p ∈ μ)
    (q : ∀ s', Bd C s₀ H₀ k s' ρ ((a, MV.list (Ts ++ Us)) :: μ') → Q .next s')
    (hm2 : ∃ pl, eval (.Call (.Attribute (.Name x px) "extend" ap) [e] [] cp) C.env = (do
      let ov ← eval (.Name x px) C.env
      standAt ap.atName
      let (f, first) ← holding [ov] (getMethod ov "extend" pl)
      callWith cp f first (backTo cp (starEach [e] C.env)) []) := by exact ⟨_, rfl⟩)
    (he : starEach [e] C.env = (false, eval e C.env) :: starEach [] C.env := by rfl) (hd : (x == ("__debug__" : Str)) = false := by decide +kernel) : wpAny C.M C.A (exec (.Expr (.Call (.Attribute (.Name x px) "extend" ap) [e] [] cp) pos) C.env) Q E s := by
  obtain ⟨pl, hm2⟩ := hm2
  refine wpAny_Expr_any (MethodCall_ (pl := pl) ((B.ev hx hd).use (keepsRefl _) fun v s₁ k₁ hv => ?_) hm2) B.quiet swaps_call
  have hv : v = .ref a := hv
  subst hv
  have B₁ := B.later k₁
  obtain ⟨hO, o, eo, vs, n, rfl, hE⟩ := B₁.own a _ ha
  refine getMethod_builtin ⟨_, eo, rfl⟩ PySem.F.plainAttrs_list PySem.F.slot_list_extend PySem.F.type_list_extend (fun b hb => by cases hb; exact ⟨_, eo, rfl⟩) ?_
  refine callWith_method1 ((EvL.cons (h.later k₁) .nil he).go.use (keepsRefl _) fun ws s₂ k₂ hws => ?_) he rfl
  cases hws with
  | cons hw hws =>
    cases hws
    have B₂ := B₁.later k₂
    obtain ⟨b, us, m, rfl, db, hU⟩ := hw
    obtain ⟨_, o, eo, vs, n, rfl, hE⟩ := B₂.own a _ ha
    have hl : Ts.length = vs.size := by simpa using hE.length
    have hl2 : Us.length = us.size := by simpa using hU.length
    have db' := hid_le _ _ db
    have hb : But a s₂ { s₂ with heap := s₂.heap.update a (Obj.mapSeq fun x => x ++ us) } := ⟨_, s₂.toks, rfl, (Heap.SameBut.update ..).extBut⟩
    refine call_meets PySem.F.slot_list_extend ⟨_, eo, rfl⟩ PySem.F.entry_list_extend (PySem.F.args_list_extend_2 _ _) (PySem.AutoSeq1.list_extend_list_list_0 a vs n b us m (PyProof.Rows.extend_door (by rw [sizeLine_eq]; omega)) (by rw [sizeLine_eq]; omega) (by rw [sizeLine_eq]; omega)) ⟨eo, db', ?_⟩
    have e' : (s₂.heap.update a (Obj.mapSeq fun x => x ++ us)).get? a = _ := Heap.get?_update_self _ eo rfl
    have kp := hid_but hb.ext hO.hid
    refine q _ ((B₂.but hb hO ⟨_, e'⟩ hμ).addM ⟨hO, _, e', vs ++ us, _, rfl, ?_⟩)
    have := (hE.mono kp).append (hU.mono kp)
    simpa using this
/-- found[e] = v -/
theorem own_set (B : Bd C s₀ H₀ k s ρ μ) {a : Addr} {x : Str} {e ev : Expr} {key : Int} {T : VP} {kvs : List (Int × VP)} {px sp pos : Pos} {Q : Flow → Shared → Prop} {E : Value → Shared → Prop} (hx : (x, VP.ex (.ref a)) ∈ ρ) (ha : (a, MV.dict C.prog C.w kvs) ∈ μ) (hv : Ev C s ev T) (he : Ev C s e (.int key)) (hsz : kvs.length ≤ 1000)
    (hμ : ∀ p ∈ μ', p.1 ≠ a ∧ p ∈ μ) (q : ∀ s', Bd C s₀ H₀ k s' ρ ((a, MV.dict C.prog C.w (put key T kvs)) :: μ') → Q .next s')
    (hs : swapsWith ev (some (.Subscript (.Name x px) e sp)) pos.line C.env = pure false := by rfl) (hd : (x == ("__debug__" : Str)) = false := by decide +kernel) : wpAny C.M C.A (exec (.Assign [.Subscript (.Name x px) e sp] ev pos) C.env) Q E s := by
  refine wpAny_Assign_Subscript (hv.use (keepsRefl _) fun v s₁ k₁ hv => ((B.later k₁).ev hx hd).use (keepsRefl _) fun d s₂ k₂ hd => (he.later (keepsTrans k₁ k₂)).use (keepsRefl _) fun i s₃ k₃ hi => ?_) hs
  have hd : d = .ref a := hd
  subst hd
  obtain ⟨t, rfl⟩ := hi
  have B₃ := (B.later k₁).later (keepsTrans k₂ k₃)
  obtain ⟨hO, o, eo, ws, dd, hm, hE⟩ := B₃.own a _ ha
  have hl : ws.length = kvs.length := by simpa using congrArg List.length hm
  have hD : s₃.heap.DictOf (intKind C.prog C.w) a ws := Heap.dictOf_iff.mpr ⟨o, eo, dd⟩
  have hn' : (ws.map (·.1)).Nodup := by obtain ⟨_, _, _, _, _, _, h⟩ := dd; exact h
  refine wpAny_setItem_pairs (knd := intKind C.prog C.w) (k := key) (by show Value.isInt key (.int key t) = true; simp [Value.isInt]) hD (fun h' hd' hs' => ?_) (by rw [hl, sizeLine_eq]; omega)
  rw [stored_put (α := Value) hn'] at hd'
  obtain ⟨o', eo', dd'⟩ := Heap.dictOf_iff.mp hd'
  have hb : But a s₃ { s₃ with heap := h', toks := s₃.toks + 1 } := ⟨h', _, rfl, hs'.extBut⟩
  have kp := hid_but hb.ext hO.hid
  obtain ⟨q1, q2⟩ := put_els (k := key) (T.mono kp (T.mono (keepsV (keepsTrans k₂ k₃)) hv)) hm (hE.mono kp)
  exact q _ ((B₃.but hb hO ⟨_, eo'⟩ hμ).addM ⟨hO, o', eo', _, dd', q1, q2⟩)

theorem mu_nil {a : Addr} : ∀ p ∈ ([] : Mu), p.1 ≠ a ∧ p ∈ μ := fun p m => nomatch m
theorem mu_show_nil : ∀ p ∈ ([] : Mu), p ∈ μ ∧ p.1 ∈ C.H := fun p m => nomatch m
end

/-! lists compared -/
theorem Els.at {g : Heap} {Ts : List VP} {vs : List Value} (h : Els g Ts vs) {j : Nat} (hj : j < vs.length) : ∃ T, Ts[j]? = some T ∧ T.P g vs[j] := by
  have hl := h.length
  have h1 : Ts[j]? = some (Ts[j]'(by omega)) := List.getElem?_eq_getElem _
  obtain ⟨v, h2, h3⟩ := h.get h1
  rw [List.getElem?_eq_getElem hj] at h2; cases h2
  exact ⟨_, h1, h3⟩
theorem op_eq_nil {C : Cx} {s : Shared} {Ts : List VP} (O : Ok C s) : Op2 C s (compareOp .Eq) (.list Ts) (.list []) (VP.bool Ts.isEmpty).P := fun s' E x y k hx hy => by
  obtain ⟨a, vs, n, rfl, da, ea⟩ := hx
  obtain ⟨b, us, m, rfl, db, eb⟩ := hy
  have l1 : Ts.length = vs.size := by simpa using ea.length
  have l2 : 0 = us.size := by simpa using eb.length
  have ia : s'.heap.IsList a vs := ⟨_, hid_le _ _ da, rfl, n, rfl⟩
  have ib : s'.heap.IsList b us := ⟨_, hid_le _ _ db, rfl, m, rfl⟩
  by_cases h : Ts.length = 0
  · refine SeqAt.eq_listAt (e := fun _ => true) ia ib (by omega) O.u (fun j h1 h2 => by omega) ⟨keepsRefl _, ?_⟩
    show Value.bool _ = Value.bool _
    rw [← l1, h, List.isEmpty_iff_length_eq_zero.mpr h]; rfl
  · refine SeqAt.eq_list_lengthsAt ia ib (by rw [← l1, ← l2]; simpa using h) O.u ⟨keepsRefl _, ?_⟩
    show Value.bool _ = Value.bool _
    cases Ts with
    | nil => simp at h
    | cons _ _ => rfl
theorem op_ne_nil {C : Cx} {s : Shared} {Ts : List VP} (O : Ok C s) : Op2 C s (compareOp .NotEq) (.list Ts) (.list []) (VP.bool (!Ts.isEmpty)).P := fun s' E x y k hx hy => by
  obtain ⟨a, vs, n, rfl, da, ea⟩ := hx
  obtain ⟨b, us, m, rfl, db, eb⟩ := hy
  have l1 : Ts.length = vs.size := by simpa using ea.length
  have l2 : 0 = us.size := by simpa using eb.length
  have ia : s'.heap.IsList a vs := ⟨_, hid_le _ _ da, rfl, n, rfl⟩
  have ib : s'.heap.IsList b us := ⟨_, hid_le _ _ db, rfl, m, rfl⟩
  by_cases h : Ts.length = 0
  · refine (SeqAt.RcNeAt.lists (e := fun _ => true) ia ib (by omega) O.u (fun j h1 h2 => by omega)) _ _ _ _ ⟨keepsRefl _, ?_⟩
    show Value.bool _ = Value.bool _
    rw [← l1, h, List.isEmpty_iff_length_eq_zero.mpr h]; rfl
  · refine (SeqAt.RcNeAt.lists_lengths ia ib (by rw [← l1, ← l2]; simpa using h) O.u) _ _ _ _ ⟨keepsRefl _, ?_⟩
    show Value.bool _ = Value.bool _
    cases Ts with
    | nil => simp at h
    | cons _ _ => rfl
theorem op_ne_ints {C : Cx} {s : Shared} {p q : List Int} (O : Ok C s) : Op2 C s (compareOp .NotEq) (.list (p.map VP.int)) (.list (q.map VP.int)) (VP.bool (!decide (p = q))).P := fun s' E x y k hx hy => by
  obtain ⟨a, vs, n, rfl, da, ea⟩ := hx
  obtain ⟨b, us, m, rfl, db, eb⟩ := hy
  have l1 : p.length = vs.size := by simpa using ea.length
  have l2 : q.length = us.size := by simpa using eb.length
  have ia : s'.heap.IsList a vs := ⟨_, hid_le _ _ da, rfl, n, rfl⟩
  have ib : s'.heap.IsList b us := ⟨_, hid_le _ _ db, rfl, m, rfl⟩
  have hg := getD_all_eq p q
  by_cases h : p.length = q.length
  · refine (SeqAt.RcNeAt.lists (e := fun j => decide (p.getD j 0 = q.getD j 0)) ia ib (by omega) O.u (fun j h1 h2 => ?_)) _ _ _ _ ⟨keepsRefl _, ?_⟩
    · have i1 := ea.int_at j (by simpa using h1)
      have i2 := eb.int_at j (by simpa using h2)
      rw [Array.getElem_toList] at i1 i2
      exact eqAt_int i1 i2
    · show Value.bool _ = Value.bool _
      rw [← hg, ← l1, show min p.length q.length = p.length by omega, h]; simp
  · refine (SeqAt.RcNeAt.lists_lengths ia ib (by rw [← l1, ← l2]; simpa using h) O.u) _ _ _ _ ⟨keepsRefl _, ?_⟩
    show Value.bool _ = Value.bool _
    rw [show decide (p = q) = false from decide_eq_false fun e => h (by rw [e])]; rfl

/-! what is in a list -/
theorem any_fam {α : Type} [DecidableEq α] (V : α → VP) {g : Heap} (hinj : ∀ x y v, (V x).P g v → (V y).P g v → x = y) (p : α) : ∀ {qs : List α} {vs : List Value}, Els g (qs.map V) vs → (vs.any fun y => @decide ((V p).P g y) (Classical.propDecidable _)) = qs.any fun q => decide (q = p) := by
  intro qs
  induction qs with
  | nil => intro vs h; cases h; rfl
  | cons q r ih =>
    intro vs h
    rw [List.map_cons] at h
    cases h with
    | cons a t =>
      rw [List.any_cons, List.any_cons, ih t]
      congr 1
      rw [Bool.eq_iff_iff]
      simp only [decide_eq_true_eq]
      exact ⟨fun h => hinj _ _ _ a h, fun e => e ▸ a⟩
theorem path_inj {g : Heap} (p q : Path) (v : Value) (h : (pathV p).P g v) (k : (pathV q).P g v) : p = q := by
  obtain ⟨a, vs, n, rfl, d, e⟩ := h
  obtain ⟨b, us, m, e2, d2, e'⟩ := k
  cases e2
  have d2 := (show g.get? a = _ from d).symm.trans (show g.get? a = _ from d2)
  injection d2 with d2
  injection d2 with _ _ d2 _
  injection d2 with d2 _
  subst d2
  have key : ∀ (p q : List Int) (vs : List Value), Els g (p.map VP.int) vs → Els g (q.map VP.int) vs → p = q := by
    intro p
    induction p with
    | nil =>
      intro q vs h k
      cases h
      cases q with
      | nil => rfl
      | cons _ _ => rw [List.map_cons] at k; cases k
    | cons i r ih =>
      intro q vs h k
      rw [List.map_cons] at h
      cases h with
      | cons a t =>
        cases q with
        | nil => cases k
        | cons j u =>
          rw [List.map_cons] at k
          cases k with
          | cons a' t' =>
            obtain ⟨_, rfl⟩ := a
            obtain ⟨_, e⟩ := a'
            cases e
            rw [ih u _ t t']
  exact key p q _ e e'
theorem int_inj {g : Heap} (p q : Int) (v : Value) (h : (VP.int p).P g v) (k : (VP.int q).P g v) : p = q := by
  obtain ⟨_, rfl⟩ := h; obtain ⟨_, e⟩ := k; cases e; rfl

/-- families whose members == tells apart -/
structure Fam {α : Type} (V : α → VP) [DecidableEq α] : Prop where
  inj : ∀ (g : Heap) x y v, (V x).P g v → (V y).P g v → x = y
  eq : ∀ (A : Around) (s : Shared) (g : Heap) p q x y, A.units < cLine → Kp g s.heap → (V p).P g x → (V q).P g y → SeqAt.EqAt A s x y (decide (p = q))
theorem fam_path : Fam pathV := ⟨fun g => path_inj, fun A s g p q x y hu k hx hy => eqAt_path hu ((pathV p).mono k hx) ((pathV q).mono k hy)⟩
theorem fam_int : Fam VP.int := ⟨fun g => int_inj, fun A s g p q x y hu k hx hy => eqAt_int hx hy⟩

theorem Fam.items {α : Type} [DecidableEq α] {V : α → VP} (F : Fam V) {A : Around} {s : Shared} {g : Heap} (hu : A.units < cLine) (k : Kp g s.heap) {p : α} {x : Value} (hx : (V p).P g x) : ∀ {qs : List α} {vs : List Value}, Els g (qs.map V) vs → ∀ y ∈ vs, SeqAt.EqAt A s y x (@decide ((V p).P g y) (Classical.propDecidable _)) := by
  intro qs
  induction qs with
  | nil => intro vs h y m; cases h; cases m
  | cons q r ih =>
    intro vs h y m
    rw [List.map_cons] at h
    cases h with
    | cons a t =>
      rcases List.mem_cons.mp m with e | m
      · subst e
        have := F.eq A s g q p _ _ hu k a hx
        have e2 : decide (q = p) = @decide ((V p).P g y) (Classical.propDecidable _) := by
          rw [Bool.eq_iff_iff]
          simp only [decide_eq_true_eq]
          exact ⟨fun e => e ▸ a, fun h => F.inj _ _ _ _ a h⟩
        rwa [e2] at this
      · exact ih t y m
theorem op_in_list {α : Type} [DecidableEq α] {V : α → VP} (F : Fam V) {C : Cx} {s : Shared} {p : α} {qs : List α} (O : Ok C s) : Op2 C s (compareOp .In) (V p) (.list (qs.map V)) (VP.bool (qs.any fun q => decide (q = p))).P := fun s' E x y k hx hy => by
  obtain ⟨b, us, m, rfl, db, eb⟩ := hy
  refine SeqAt.in_listAt _ ⟨_, hid_le _ _ db, rfl, m, rfl⟩ (fun y hy => F.items O.u1 hid_le hx eb y (by simpa using hy)) ⟨keepsRefl _, ?_⟩
  show Value.bool _ = Value.bool _
  rw [← any_fam V (F.inj _) p eb]; simp
theorem op_notin_list {α : Type} [DecidableEq α] {V : α → VP} (F : Fam V) {C : Cx} {s : Shared} {p : α} {qs : List α} (O : Ok C s) : Op2 C s (compareOp .NotIn) (V p) (.list (qs.map V)) (VP.bool (!qs.any fun q => decide (q = p))).P := fun s' E x y k hx hy => by
  obtain ⟨b, us, m, rfl, db, eb⟩ := hy
  refine SeqAt.notIn_listAt _ ⟨_, hid_le _ _ db, rfl, m, rfl⟩ (fun y hy => F.items O.u1 hid_le hx eb y (by simpa using hy)) ⟨keepsRefl _, ?_⟩
  show Value.bool _ = Value.bool _
  rw [← any_fam V (F.inj _) p eb]; simp
theorem op_in_tup {α : Type} [DecidableEq α] {V : α → VP} (F : Fam V) {C : Cx} {s : Shared} {p : α} {qs : List α} (O : Ok C s) : Op2 C s (compareOp .In) (V p) (.tup (qs.map V)) (VP.bool (qs.any fun q => decide (q = p))).P := fun s' E x y k hx hy => by
  obtain ⟨b, us, m, rfl, db, eb⟩ := hy
  refine SeqAt.in_tupleAt _ ⟨_, hid_le _ _ db, rfl, m, rfl⟩ (fun y hy => F.items O.u1 hid_le hx eb y (by simpa using hy)) ⟨keepsRefl _, ?_⟩
  show Value.bool _ = Value.bool _
  rw [← any_fam V (F.inj _) p eb]; simp

/-! numbers -/
theorem ints_items {g : Heap} {ns : List Int} {vs : List Value} (h : Els g (ns.map VP.int) vs) : ∃ xs : Array (Int × Tok), vs.toArray = intItems xs ∧ ns = xs.toList.map (·.1) := by
  have h := intsAre_of h
  obtain ⟨xs, e⟩ := h.allInts.items
  refine ⟨xs, e, ?_⟩
  rw [← nums_intItems, ← e]; exact h.numsOf.symm
theorem maxI_spec : ∀ (l : List Int) (a : Int), (l.foldl (fun m x => if x > m then x else m) a) ∈ a :: l ∧ ∀ x ∈ a :: l, x ≤ l.foldl (fun m x => if x > m then x else m) a := by
  intro l
  induction l with
  | nil => intro a; exact ⟨.head _, fun x hx => by rw [List.mem_singleton.mp hx]; exact Int.le_refl _⟩
  | cons b r ih =>
    intro a
    rw [List.foldl_cons]
    obtain ⟨h1, h2⟩ := ih (if b > a then b else a)
    have h3 := h2 _ (.head _)
    refine ⟨?_, fun x hx => ?_⟩
    · rcases List.mem_cons.mp h1 with e | h1
      · rw [e]; split
        · exact .tail _ (.head _)
        · exact .head _
      · exact .tail _ (.tail _ h1)
    · rcases List.mem_cons.mp hx with rfl | hx
      · refine Int.le_trans ?_ h3; split <;> omega
      · rcases List.mem_cons.mp hx with rfl | hx
        · refine Int.le_trans ?_ h3; split <;> omega
        · exact h2 x (.tail _ hx)
theorem op_max {C : Cx} {s : Shared} {ns : List Int} (O : Ok C s) (hne : ns ≠ []) : OpN C s (.builtin "max") [.list (ns.map VP.int)] (VP.int (maxI ns)).P := fun s' E vs ks hv => by
  cases hv with | cons hx hv => cases hv with | nil =>
  obtain ⟨a, items, c, rfl, d, e⟩ := hx
  obtain ⟨xs, e1, e2⟩ := ints_items e
  have e1 : items = intItems xs := by simpa using e1
  have hsz : 0 < xs.size := by
    rcases Nat.eq_zero_or_pos xs.size with h | h
    · exfalso; apply hne; rw [e2]; simpa using h
    · exact h
  refine max_intList O.hd (e1 ▸ ⟨_, hid_le _ _ d, rfl, c, rfl⟩) hsz fun v h' tk hv hk => ⟨⟨h', tk, rfl, hk⟩, ?_⟩
  obtain ⟨t, rfl⟩ := intItems_at hv
  obtain ⟨h1, h2⟩ := argBest_gt (numAt xs) (xs.size - 1)
  refine ⟨t, ?_⟩
  congr 1
  have m1 : numAt xs (argBest (fun i j => decide (numAt xs i > numAt xs j)) (xs.size - 1)) ∈ ns := by
    rw [e2, numAt_eq]; exact getD_mem (by rw [List.length_map, Array.length_toList]; omega)
  have m2 : ∀ x ∈ ns, x ≤ numAt xs (argBest (fun i j => decide (numAt xs i > numAt xs j)) (xs.size - 1)) := fun a ha => by
    rw [e2] at ha
    obtain ⟨j, hj, rfl⟩ := mem_getD ha
    rw [List.length_map, Array.length_toList] at hj
    rw [← numAt_eq]; exact h2 j (by omega)
  cases ns with
  | nil => exact absurd rfl hne
  | cons b r =>
    obtain ⟨q1, q2⟩ := maxI_spec r b
    exact Int.le_antisymm (q2 _ m1) (m2 _ q1)
theorem op_len_list {C : Cx} {s : Shared} {Ts : List VP} (O : Ok C s) (hsz : Ts.length ≤ 1000) : OpN C s (.builtin "len") [.list Ts] (VP.int Ts.length).P := fun s' E vs ks hv => by
  cases hv with | cons hx hv => cases hv with | nil =>
  obtain ⟨a, items, c, rfl, d, e⟩ := hx
  have l1 : Ts.length = items.size := by simpa using e.length
  exact call_len_list (items := items) ⟨_, hid_le _ _ d, rfl, c, rfl⟩ (by omega) ⟨⟨s'.heap, _, rfl, Kp.refl _⟩, _, by rw [l1]⟩
theorem op_len_tup {C : Cx} {s : Shared} {Ts : List VP} (O : Ok C s) (hsz : Ts.length ≤ 1000) : OpN C s (.builtin "len") [.tup Ts] (VP.int Ts.length).P := fun s' E vs ks hv => by
  cases hv with | cons hx hv => cases hv with | nil =>
  obtain ⟨a, items, c, rfl, d, e⟩ := hx
  have l1 : Ts.length = items.size := by simpa using e.length
  exact PySem.P.len_tuple (items := items) (hid_le _ _ d) (by omega) ⟨⟨s'.heap, _, rfl, Kp.refl _⟩, _, by rw [l1]⟩
theorem op_abs {C : Cx} {s : Shared} {n : Int} : OpN C s (.builtin "abs") [.int n] (VP.int (if n < 0 then -n else n)).P := fun s' E vs ks hv => by
  cases hv with | cons hx hv => cases hv with | nil =>
  obtain ⟨t, rfl⟩ := hx
  exact call_abs_int fun u tk => ⟨keepsToks _ _, _, rfl⟩
theorem op_tuple_list {C : Cx} {s : Shared} {Ts : List VP} (O : Ok C s) (hsz : Ts.length ≤ 1000) : OpN C s (.type "tuple") [.list Ts] (VP.tup Ts).P := fun s' E vs ks hv => by
  cases hv with | cons hx hv => cases hv with | nil =>
  obtain ⟨a, items, c, rfl, d, e⟩ := hx
  have l1 : Ts.length = items.size := by simpa using e.length
  refine call_tuple_list (items := items) ⟨_, hid_le _ _ d, rfl, c, rfl⟩ (fun h' kp => ⟨⟨_, _, rfl, fun b o q => Heap.get?_push_of_some _ (kp b o q)⟩, _, items, 0, rfl, hideAll_get _ (Heap.get?_push_size _ rfl) fun m => ?_, e.mono (hid_kp fun b o q => Heap.get?_push_of_some _ (kp b o q))⟩) (by rw [sizeLine_eq]; omega)
  obtain ⟨o', q⟩ := (O.later ks).low _ m
  exact Nat.lt_irrefl _ (Heap.lt_size (kp _ _ q))
theorem op_add_list {C : Cx} {s : Shared} {Ts Us : List VP} (O : Ok C s) (hsz : Ts.length + Us.length ≤ 1000) : Op2 C s (binaryOp .Add) (.list Ts) (.list Us) (VP.list (Ts ++ Us)).P := fun s' E x y k hx hy => by
  obtain ⟨a, vs, n, rfl, da, ea⟩ := hx
  obtain ⟨b, us, m, rfl, db, eb⟩ := hy
  have l1 : Ts.length = vs.size := by simpa using ea.length
  have l2 : Us.length = us.size := by simpa using eb.length
  exact PySem.P.add_list (hid_le _ _ da) (hid_le _ _ db) ⟨keepsPush _ _, _, _, 0, rfl, (O.later k).push, by simpa using (ea.append eb).mono (hid_kp fun _ _ e => Heap.get?_push_of_some _ e)⟩ (by rw [sizeLine_eq]; omega)
theorem op_add_tup {C : Cx} {s : Shared} {Ts Us : List VP} (O : Ok C s) (hsz : Ts.length + Us.length ≤ 1000) (h2 : Us ≠ []) : Op2 C s (binaryOp .Add) (.tup Ts) (.tup Us) (VP.tup (Ts ++ Us)).P := fun s' E x y k hx hy => by
  obtain ⟨a, vs, n, rfl, da, ea⟩ := hx
  obtain ⟨b, us, m, rfl, db, eb⟩ := hy
  have l1 : Ts.length = vs.size := by simpa using ea.length
  have l2 : Us.length = us.size := by simpa using eb.length
  have hu : ¬ us.isEmpty = true := fun e => h2 (List.length_eq_zero_iff.mp (by rw [l2]; simpa using e))
  by_cases h : vs.isEmpty = true
  · have e0 : Ts = [] := List.length_eq_zero_iff.mp (by rw [l1]; simpa using h)
    subst e0
    exact concat_meets ⟨_, hid_le _ _ da, rfl⟩ ⟨_, hid_le _ _ db, rfl⟩ noFill_tuple_add seq_tuple_add PySem.F.slot_tuple_add PySem.F.entry_tuple_add (PySem.F.args_tuple_add_2 _ _) (tuple_addW0 a b vs us n m _ _ _ _ h) ⟨hid_le _ _ da, hid_le _ _ db, keepsRefl _, _, _, _, rfl, db, eb⟩
  · exact PySem.P.add_tuple (hid_le _ _ da) (hid_le _ _ db) h hu ⟨keepsPush _ _, _, _, 0, rfl, (O.later k).push, by simpa using (ea.append eb).mono (hid_kp fun _ _ e => Heap.get?_push_of_some _ e)⟩ (by rw [sizeLine_eq]; omega)

/-! ranges -/
def VP.range (a b : Int) : VP := ⟨fun g v => ∃ r t u w, v = .ref r ∧ IsRange g r a b 1 t u w, fun k h => by
  obtain ⟨r, t, u, w, e, x⟩ := h; exact ⟨r, t, u, w, e, k _ _ x⟩⟩
def rangeL (a b : Int) : List Int := (List.range (b - a).toNat).map fun i : Nat => a + (i : Int)
theorem op_range {C : Cx} {s : Shared} {a b : Int} (O : Ok C s) : OpN C s (.type "range") [.int a, .int b] (VP.range a b).P := fun s' E vs ks hv => by
  cases hv with | cons hx hv => cases hv with | cons hy hv => cases hv with | nil =>
  obtain ⟨t, rfl⟩ := hx
  obtain ⟨u, rfl⟩ := hy
  exact call_range_2 ⟨⟨_, _, rfl, fun _ _ e => Heap.get?_push_of_some _ e⟩, _, _, _, _, rfl, (O.later ks).push⟩
theorem rangeSize_1 (a b : Int) : Builtin.Range.rangeSize a b 1 = ((b - a).toNat : Int) := by
  unfold Builtin.Range.rangeSize
  rw [if_pos (by decide)]
  by_cases h : a < b
  · rw [if_pos h, Int.ediv_one]; omega
  · rw [if_neg h]; omega
theorem range_small {a b : Int} (h : -1000 ≤ a ∧ a ≤ 1000 ∧ -1000 ≤ b ∧ b ≤ 1000) : Builtin.Range.small a b 1 = true := by
  have f : ∀ i : Int, -5000 ≤ i → i ≤ 5000 → Builtin.Range.rangeFitsLong i = true := fun i h1 h2 => by
    unfold Builtin.Range.rangeFitsLong
    simp only [Bool.and_eq_true, decide_eq_true_eq]; omega
  unfold Builtin.Range.small
  rw [rangeSize_1, f a (by omega) (by omega), f b (by omega) (by omega), f 1 (by omega) (by omega), f _ (by omega) (by omega), if_pos (by decide), f _ (by omega) (by omega)]
  simp
theorem rangeL_len (a b : Int) : (rangeL a b).length = (b - a).toNat := by
  show ((List.range (b - a).toNat).map fun i : Nat => a + (i : Int)).length = _
  rw [List.length_map, List.length_range]
theorem rangeL_at {a b : Int} {i : Nat} (h : i < (b - a).toNat) : (rangeL a b)[i]? = some (a + (i : Int)) := by
  show ((List.range (b - a).toNat).map fun i : Nat => a + (i : Int))[i]? = _
  rw [List.getElem?_map, List.getElem?_range h]; rfl
theorem iter_range {C : Cx} {a b : Int} (hb : -1000 ≤ a ∧ a ≤ 1000 ∧ -1000 ≤ b ∧ b ≤ 1000) : Iterates C (.range a b) ((rangeL a b).map VP.int) := fun s v E Q O hv q => by
  obtain ⟨r, t, u, w, rfl, d⟩ := hv
  have d' := hid_le _ _ d
  have hl : ((rangeL a b).map VP.int).length = (b - a).toNat := by rw [List.length_map, rangeL_len]
  refine wpAny_pyIter_range d' (range_small hb) ?_
  rw [rangeSize_1]
  have st : IsRangeIter (s.heap.push { cls := .type "range_iterator", data := .fields #[rawInt a, rawInt ((b - a).toNat : Int), rawInt 1] }) s.heap.objs.size (a + ((0 : Nat) : Int) * 1) (((b - a).toNat : Int) - ((0 : Nat) : Int)) 1 := by
    have := Heap.get?_push_size (h := s.heap) (o := { cls := .type "range_iterator", data := .fields #[rawInt a, rawInt ((b - a).toNat : Int), rawInt 1] }) rfl
    simpa using this
  refine q s.heap.objs.size _ [] (fun i h => IsRangeIter h s.heap.objs.size (a + (i : Nat) * 1) (((b - a).toNat : Int) - (i : Nat)) 1) (keepsPush _ _) (Heap.get?_none_of_le (Nat.le_refl _)) ⟨⟨fun i v => (∃ t, v = .int (a + i * 1) t) ∧ i < (b - a).toNat, ?_, fun i v h => ?_⟩, fun i h st => ⟨_, _, _, st, rfl, rfl, by decide⟩⟩ st (fun b m => nomatch m)
  · rw [hl]
    have W := Walks.range (prog := C.prog) (w := C.w) (A := C.A) O.hd s.heap.objs.size a 1 (b - a).toNat
    exact { W with item := fun i s E Q hi hst h => W.item i s E Q hi hst fun v h' tk hp hst' hk => h v h' tk ⟨hp, hi⟩ hst' hk }
  · obtain ⟨⟨t, rfl⟩, hi⟩ := h
    refine ⟨VP.int (a + i), ?_, t, ?_⟩
    · rw [List.getElem?_map, rangeL_at hi]; rfl
    · congr 1; omega

section
variable {C : Cx} {s₀ s s' : Shared} {H₀ : List Addr} {k : Nat} {ρ ρ' ρ'' : Rho} {μ μ' : Mu}

/-- a name that can be bound -/
def Pl (C : Cx) (x : Str) : Prop := C.env.kindOf x = some .local ∨ (C.env.kindOf x = some .cell ∧ (C.env.cells.lookup x).isSome = true ∧ CellsNew C)
theorem Bd.put (B : Bd C s₀ H₀ k s ρ μ) {x : Str} {T : VP} {v : Value} {Q : Unit → Shared → Prop} {E : Value → Shared → Prop}
    (hx : Pl C x) (hv : T.P (C.v s) v) (hρ : ∀ p ∈ ρ', p.1 ≠ x ∧ p ∈ ρ) (q : ∀ s', Kp (C.v s) (C.v s') → Bd C s₀ H₀ k s' ((x, T) :: ρ') μ → Q () s') : wpAny C.M C.A (storeName C.env x v) Q E s := by
  rcases hx with h | ⟨h, hl, hc⟩
  · exact B.storeL' h hv hρ q
  · exact B.storeC' h hl hc hv hρ q
theorem store_ (B : Bd C s₀ H₀ k s ρ μ) {e : Expr} {T : VP} {x : Str} {px pos : Pos} {Q : Flow → Shared → Prop} {E : Value → Shared → Prop} (h : Ev C s e T) (hx : Pl C x) (hρ : ∀ p ∈ ρ', p.1 ≠ x ∧ p ∈ ρ)
    (q : ∀ s', Bd C s₀ H₀ k s' ((x, T) :: ρ') μ → Q .next s')
    (hs : swapsWith e (some (.Name x px)) pos.line C.env = pure false := by rfl) : wpAny C.M C.A (exec (.Assign [.Name x px] e pos) C.env) Q E s :=
  wpAny_Assign_Name (h.use (keepsRefl _) fun v s₁ k₁ hv => Bd.put (B.later k₁) hx hv hρ fun s₂ _ B₂ => q s₂ B₂) hs

/-- a pair taken apart -/
theorem assign_pair (B : Bd C s₀ H₀ k s ρ μ) {x y : Str} {px py pos : Pos} {kx} {T U : VP} {v : Value} {Q : Unit → Shared → Prop} {E : Value → Shared → Prop} (hv : (VP.tup [T, U]).P (C.v s) v) (hx : Pl C x) (hy : Pl C y)
    (hρ : ∀ p ∈ ρ', p.1 ≠ x ∧ p ∈ ρ) (hρ' : ∀ p ∈ ρ'', p.1 ≠ y ∧ p ∈ (x, T) :: ρ') (q : ∀ s', Bd C s₀ H₀ k s' ((y, U) :: ρ'') μ → Q () s') : wpAny C.M C.A (assign (.Tuple [.Name x px, .Name y py] kx pos) C.env v) Q E s := by
  obtain ⟨a, vs, n, rfl, d, e⟩ := hv
  have d' := hid_le _ _ d
  have hl : vs.size = 2 := by simpa using e.length.symm
  refine assign_Tuple_tuple (items := vs) B.room.hd ⟨_, d', rfl, n, rfl⟩ (by rw [hl]; rfl) (by rfl) fun h' he => ?_
  have ks : Keeps s { s with heap := h' } := ⟨h', s.toks, rfl, fun b o q => he b o (Nat.ne_of_lt (Heap.lt_size q)) q⟩
  obtain ⟨vl⟩ := vs
  obtain ⟨x0, y0, rfl, h1, h2⟩ := Els.two (show Els _ [T, U] vl from e)
  have B₁ := B.later ks
  refine wpAny_assignInOrder_more (wpAny_assign_Name (Bd.put B₁ hx (T.mono (keepsV ks) h1) hρ fun s₂ k₂ B₂ => ?_))
  exact wpAny_assignInOrder_more (wpAny_assign_Name (Bd.put B₂ hy (U.mono k₂ (U.mono (keepsV ks) h2)) hρ' fun s₃ _ B₃ => wpAny_assignInOrder_none (q s₃ B₃)))
/-- x, y = e -/
theorem store_pair (B : Bd C s₀ H₀ k s ρ μ) {e : Expr} {T U : VP} {x y : Str} {px py tp pos : Pos} {kx} {Q : Flow → Shared → Prop} {E : Value → Shared → Prop} (h : Ev C s e (.tup [T, U])) (hx : Pl C x) (hy : Pl C y)
    (hρ : ∀ p ∈ ρ', p.1 ≠ x ∧ p ∈ ρ) (hρ' : ∀ p ∈ ρ'', p.1 ≠ y ∧ p ∈ (x, T) :: ρ') (q : ∀ s', Bd C s₀ H₀ k s' ((y, U) :: ρ'') μ → Q .next s')
    (hs : swapsWithSole [.Tuple [.Name x px, .Name y py] kx tp] e pos.line C.env = pure false := by rfl) (hw : swappedStores [.Tuple [.Name x px, .Name y py] kx tp] e C.env = pure none := by rfl) :
    wpAny C.M C.A (exec (.Assign [.Tuple [.Name x px, .Name y py] kx tp] e pos) C.env) Q E s :=
  wpAny_Assign_stores (h.use (keepsRefl _) fun v s₁ k₁ hv => by
    show wpAny _ _ (assign (.Tuple [.Name x px, .Name y py] kx tp) C.env v) _ _ _
    exact assign_pair (B.later k₁) hv hx hy hρ hρ' q) hs hw

/-- x += e -/
theorem aug_int_bool (B : Bd C s₀ H₀ k s ρ μ) {e : Expr} {x : Str} {n : Int} {b : Bool} {px pos : Pos} {Q : Flow → Shared → Prop} {E : Value → Shared → Prop} (hm : (x, VP.int n) ∈ ρ) (h : Ev C s e (.bool b)) (hx : Pl C x) (hρ : ∀ p ∈ ρ', p.1 ≠ x ∧ p ∈ ρ)
    (q : ∀ s', Bd C s₀ H₀ k s' ((x, .int (n + if b = true then 1 else 0)) :: ρ') μ → Q .next s') : wpAny C.M C.A (exec (.AugAssign (.Name x px) .Add e pos) C.env) Q E s := by
  obtain ⟨v, h1, t, rfl⟩ := B.vars x _ hm
  refine wpAny_AugAssign_Name (wpAny_loadName_has B.kind h1 (h.use (keepsRefl _) fun v s₁ k₁ hv => ?_))
  have hv : v = .bool b := hv
  subst hv
  exact PySem.iadd_int_bool (Bd.put (T := VP.int (n + if b = true then 1 else 0)) (B.later (keepsTrans k₁ (keepsToks _ _))) hx ⟨_, rfl⟩ hρ fun s₂ _ B₂ => q s₂ B₂)

/-- a new dict of pairs -/
theorem EvF_pairs {e : Expr} {pairs : List (Int × VP)} {p pos} (O : Ok C s) (hx : C.env.kindOf "dict" = some .globalImplicit) (h : Ev C s e (.list (pairs.map pairT))) (hsz : pairs.length ≤ 1000)
    (he : starEach [e] C.env = (false, eval e C.env) :: starEach [] C.env := by rfl) : EvF C s (.Call (.Name "dict" p) [e] [] pos) (.dict C.prog C.w (ofPairs pairs)) := fun s' E ks => by
  refine wpAny_Call_ofName ((Ev_boot (v := .type "dict") O (by decide +kernel) hx).use ks fun f s₁ k₁ hf => ?_)
  have hf : f = .type "dict" := hf
  subst hf
  refine callWith_type1 ((EvL.cons h .nil he).go.use (keepsTrans ks k₁) fun vs s₂ k₂ hv => ?_) he (by rfl)
  refine wpAny_mono (op_dict_pairsF O hsz s₂ E vs (keepsTrans ks (keepsTrans k₁ k₂)) hv) (fun v s₃ q => ?_) fun _ _ e => e
  obtain ⟨k₃, D, ws, rfl, n, l, hd, hm, hx⟩ := q
  obtain ⟨o, eo, dd⟩ := Heap.dictOf_iff.mp hd
  exact ⟨keepsTrans k₁ (keepsTrans k₂ k₃), D, o, rfl, new_of_keep (keepsKp (keepsTrans k₁ k₂)) n, l, eo, ws, dd, hm, hx⟩

/-! tests -/
theorem Tst_not {e : Expr} {b : Bool} {pos} (h : Tst C s e b) : Tst C s (.UnaryOp .Not e pos) (!b) := fun s' E ks =>
  wpAny_isTrue_Not (h.use ks fun c s₁ k₁ hc => ⟨k₁, by rw [hc]⟩)
theorem Tst_or {e f : Expr} {a b : Bool} {pos} (h : Tst C s e a) (h' : a = false → Tst C s f b) : Tst C s (.BoolOp .Or [e, f] pos) (a || b) := fun s' E ks => by
  refine wpAny_isTrue_BoolOp (wpAny_allTrue_Or_cons (h.use ks fun c s₁ k₁ hc => ?_))
  have hc : c = a := hc
  subst hc
  cases c with
  | true => exact ⟨k₁, rfl⟩
  | false => exact wpAny_allTrue_Or_cons ((h' rfl).use (keepsTrans ks k₁) fun d s₂ k₂ hd => by
      have hd : d = b := hd
      subst hd
      cases d with
      | true => exact ⟨keepsTrans k₁ k₂, rfl⟩
      | false => exact wpAny_allTrue_Or_nil ⟨keepsTrans k₁ k₂, rfl⟩)
theorem Tst_or3 {e f g : Expr} {a b c : Bool} {pos} (h : Tst C s e a) (h' : a = false → Tst C s f b) (h'' : a = false → b = false → Tst C s g c) : Tst C s (.BoolOp .Or [e, f, g] pos) (a || (b || c)) := fun s' E ks => by
  refine wpAny_isTrue_BoolOp (wpAny_allTrue_Or_cons (h.use ks fun c s₁ k₁ hc => ?_))
  have hc : c = a := hc
  subst hc
  cases c with
  | true => exact ⟨k₁, rfl⟩
  | false => exact wpAny_allTrue_Or_cons ((h' rfl).use (keepsTrans ks k₁) fun d s₂ k₂ hd => by
      have hd : d = b := hd
      subst hd
      cases d with
      | true => exact ⟨keepsTrans k₁ k₂, rfl⟩
      | false => exact wpAny_allTrue_Or_cons ((h'' rfl rfl).use (keepsTrans ks (keepsTrans k₁ k₂)) fun d s₃ k₃ hd => by
          subst hd
          cases d with
          | true => exact ⟨keepsTrans k₁ (keepsTrans k₂ k₃), rfl⟩
          | false => exact wpAny_allTrue_Or_nil ⟨keepsTrans k₁ (keepsTrans k₂ k₃), rfl⟩))

/-- list(e).index(x), x in it -/
theorem op_index {C : Cx} {s : Shared} {α : Type} [DecidableEq α] {V : α → VP} (F : Fam V) {p : α} {qs : List α} {j : Nat} (O : Ok C s) (hj : qs[j]? = some p) (hno : ∀ i, i < j → qs[i]? ≠ some p) (hsz : qs.length ≤ 1000) :
    OpN C s (.builtin "list.index") [.list (qs.map V), V p] (VP.int j).P := fun s' E vs ks hv => by
  cases hv with | cons hx hv => cases hv with | @cons _ y _ _ hy hv => cases hv with | nil =>
  obtain ⟨a, items, c, rfl, d, e⟩ := hx
  have hl : qs.length = items.size := by simpa using e.length
  have hjl : j < qs.length := (List.getElem?_eq_some_iff.mp hj).1
  have at' : ∀ m (hm : m < items.size), ∃ q, qs[m]? = some q ∧ (V q).P (C.v s') items[m] := fun m hm => by
    obtain ⟨T, h1, h2⟩ := e.at (j := m) (by simpa using hm)
    obtain ⟨q, hq, rfl⟩ : ∃ q, qs[m]? = some q ∧ T = V q := by
      rw [List.getElem?_map] at h1
      cases hq : qs[m]? with
      | none => rw [hq] at h1; cases h1
      | some q => rw [hq] at h1; exact ⟨q, rfl, (Option.some.inj h1).symm⟩
    rw [Array.getElem_toList] at h2
    exact ⟨q, hq, h2⟩
  refine call_meets PySem.F.slot_list_index ⟨_, hid_le _ _ d, rfl⟩ PySem.F.entry_list_index (PySem.F.args_list_index_2 _ _)
    (SeqAt.list_indexAt a items c none #[] y (fun z => @decide ((V p).P (C.v s') z) (Classical.propDecidable _)) j (by omega) (by omega) ?_ fun m hm hlt => ?_) ⟨hid_le _ _ d, fun z hz => F.items (in1_units (by have := O.units; show C.A.units ≤ 9000; exact this)) hid_le hy e z (by simpa using hz), keepsToks _ _, _, rfl⟩
  · obtain ⟨q, h1, h2⟩ := at' j (by omega)
    rw [hj] at h1; cases h1
    simpa using h2
  · obtain ⟨q, h1, h2⟩ := at' m hm
    simp only [decide_eq_false_iff_not]
    exact fun h => hno m hlt (by rw [h1, F.inj _ _ _ _ h2 h])
end

local macro_rules | `(tactic| k_mem) => `(tactic| first | with_reducible exact List.Mem.head _ | (with_reducible refine List.Mem.tail _ ?_; k_mem))
-- the names that stay, and are not the one that is stored
local macro_rules | `(tactic| k_all) => `(tactic| first | exact sub_nil | (refine sub_cons (by decide +kernel) (by k_mem) ?_; k_all))
-- fewer names
local macro_rules | `(tactic| k_upd) => `(tactic| first | exact less_nil | (refine less_cons (by k_mem) ?_; k_upd))

theorem kind_of {C : Cx} {d : DefRec} {x : Str} {k : NameKind} (hs : C.env.scope = d.scope) (h : (d.scope.names.lookup x == some k) = true) : C.env.kindOf x = some k := by
  show C.env.scope.names.lookup x = some k
  rw [hs]; simpa using h

theorem wpAny_ret {C : Cx} {s₀ s : Shared} {H₀ : List Addr} {k : Nat} {ρ : Rho} {μ : Mu} {T : VP} {e : Expr} {rest : List Stmt} {pos} {E : Value → Shared → Prop} (B : Bd C s₀ H₀ k s ρ μ) (h : Ev C s e T) :
    wpAny C.M C.A (execs (.Return (some e) pos :: rest) C.env) (Back s₀ H₀ T) E s :=
  wpAny_execs_cons (wpAny_Return_some (h.use (keepsRefl _) fun v s₁ k₁ hv => ⟨v, rfl, keepsTrans B.keeps k₁, T.mono (hid_sub B.sub) hv⟩))


set_option maxRecDepth 100000
set_option maxHeartbeats 400000
theorem mem_defs {i : Nat} (h : i ∈ [2, 3, 4, 5, 6, 7, 8, 9, 10, 12, 13, 14, 15, 16, 17, 19, 20, 21, 22]) : defAt i ∈ defs := List.mem_map_of_mem h

theorem path_of_ok {prog : Program} {w : World} {mg mb : Str → Option Value} {k : Nat} (st : Stt) (n : Int) : FOk prog w mg mb (defAt 2) (k + 1) [stV prog w st, .int n] (pathV (pathOf st n)) := by
  refine enter [("state", stV prog w st), ("node", .int n)] ["state", "node"] (mem_defs (by decide)) rfl rfl (fun pm code doc vs h => ?_) (by decide +kernel) (by decide +kernel) ⟨by decide +kernel, by decide +kernel, by decide +kernel⟩ fun C s₀ H₀ s hp hw hg hb hs hc hn B => ?_
  · match vs, h with
    | [a, b], _ => rfl
  · subst hp hw hg hb
    refine wpAny_ret B (Ev_if (b := n == 0) (Tst_cmp (B.ev (by k_mem)) (Ev_origin B.ok (kind_of hs (by decide +kernel))) op_eq_int) (fun h => ?_) fun h => ?_)
    · have e : n = 0 := by simpa using h
      subst e
      show Ev C s _ (.tup [.int 0])
      exact Ev_tuple B.ok (.cons (Ev_origin B.ok (kind_of hs (by decide +kernel))) .nil)
    · have e : n ≠ 0 := by simpa using h
      refine Ev_meth (meth_dict PySem.F.slot_dict_get PySem.F.type_dict_get) (B.ev (by k_mem)) (.cons (B.ev (by k_mem)) (.cons (Ev_tuple B.ok .nil) .nil)) (op_get (T := VP.tup []) ?_)
      rw [look_map pathV]
      unfold pathOf
      rw [if_neg e]
      cases look n st with
      | none => exact .inr ⟨rfl, rfl⟩
      | some p => exact .inl rfl

theorem peq_eq : ∀ p q : Path, peq p q = decide (p = q) := by
  intro p
  induction p with
  | nil => intro q; cases q <;> simp [peq]
  | cons a r ih =>
    intro q
    cases q with
    | nil => simp [peq]
    | cons b t =>
      rw [peq]
      by_cases h : a = b
      · subst h; rw [if_pos rfl, ih]; simp
      · rw [if_neg h]; simp [h]

theorem is_offered_ok {prog : Program} {w : World} {mg mb : Str → Option Value} {k : Nat} (st : Stt) (p : Path) (b : Bool) (h : isOffered st p = some b) (hl : p.length ≤ 100) :
    FOk prog w mg mb (defAt 3) (k + 2) [stV prog w st, pathV p] (.bool b) := by
  refine enter [("state", stV prog w st), ("path", pathV p)] ["state", "path"] (mem_defs (by decide)) rfl rfl (fun pm code doc vs h => ?_) (by decide +kernel) (by decide +kernel) ⟨by decide +kernel, by decide +kernel, by decide +kernel⟩ fun C s₀ H₀ s hp hw hg hb hs hc hn B => ?_
  · match vs, h with
    | [a, b], _ => rfl
  · subst hp hw hg hb
    match p, h with
    | a :: c :: r, h =>
      have e : b = decide (pathOf st c = c :: r) := by
        rw [isOffered, peq_eq] at h; exact (Option.some.inj h).symm
      subst e
      refine wpAny_ret B (Ev_cmp (Ev_call (d := defAt 2) (k := k + 1) B.ok B.room (path_of_ok st c) (mem_defs (by decide)) (kind_of hs (by decide +kernel)) (.cons (B.ev (by k_mem)) (.cons (Ev_item_tup (k := 1) (B.ev (by k_mem) : Ev C s _ (pathV (a :: c :: r))) Ev_int rfl (by decide)) .nil)))
        (Ev_tup_from (a := 1) (Ts := (a :: c :: r).map VP.int) B.ok (B.ev (by k_mem)) Ev_int (by decide) (by simp) (by simp at hl ⊢; omega)) (op_eq_path (p := pathOf st c) (q := c :: r) B.ok))

abbrev probV (prog : Program) (w : World) (pb : Prob) : VP := VP.dict prog w (pb.map fun p => (p.1, .tup (p.2.map pathV)))

/-- sizes in reason -/
def okPb (pb : Prob) : Prop := ∀ p ∈ pb, ∀ q ∈ p.2, q.length ≤ 100
theorem look_mem {α : Type} {k : Int} {x : α} : ∀ {l : List (Int × α)}, look k l = some x → (k, x) ∈ l := by
  intro l
  induction l with
  | nil => intro h; cases h
  | cons p r ih =>
    intro h
    obtain ⟨a, y⟩ := p
    rw [look] at h
    by_cases e : a = k
    · rw [if_pos e] at h; cases h; rw [e]; exact .head _
    · rw [if_neg e] at h; exact .tail _ (ih h)

theorem wpAny_seq {C : Cx} {s : Shared} {st : Stmt} {rest : List Stmt} {Q : Flow → Shared → Prop} {E : Value → Shared → Prop}
    (h : wpAny C.M C.A (exec st C.env) (fun f s' => match f with | .next => wpAny C.M C.A (execs rest C.env) Q E s' | f => Q f s') E s) : wpAny C.M C.A (execs (st :: rest) C.env) Q E s := wpAny_execs_cons h

theorem assign_name {C : Cx} {s : Shared} {x : Str} {px} {v : Value} {Q : Unit → Shared → Prop} {E : Value → Shared → Prop} (h : wpAny C.M C.A (storeName C.env x v) Q E s) : wpAny C.M C.A (assign (.Name x px) C.env v) Q E s := wpAny_assign_Name h

theorem wpAny_if {C : Cx} {s : Shared} {t : Expr} {b : Bool} {x y : List Stmt} {pos} {Q : Flow → Shared → Prop} {E : Value → Shared → Prop} (ht : Tst C s t b) (hx : ∀ s', Keeps s s' → b = true → wpAny C.M C.A (execs x C.env) Q E s')
    (hy : ∀ s', Keeps s s' → b = false → wpAny C.M C.A (execs y C.env) Q E s') : wpAny C.M C.A (exec (.If t x y pos) C.env) Q E s :=
  wpAny_If (ht.use (keepsRefl _) fun c s₁ k₁ hc => by
    have e : c = b := hc
    subst e
    cases c with
    | true => exact hx s₁ k₁ rfl
    | false => exact hy s₁ k₁ rfl)

/-- a call as a test -/
theorem Tst_val {C : Cx} {s : Shared} {e : Expr} {b : Bool} (h : Ev C s e (.bool b)) (he : isTrue e C.env (eval e C.env) = (do let v ← eval e C.env; standAt e.pos; holding [v] (truthy v)) := by rfl) : Tst C s e b := fun s' E k =>
  wpAny_isTrue_value (h.use k fun v s₁ k₁ hv => by
    have e : v = .bool b := hv
    subst e
    exact wpAny_truthy_bool ⟨k₁, rfl⟩) he

theorem bestOf_drop (st : Stt) : ∀ {ps : List Path} {r : Path}, bestOf st ps = some r → ∀ i, (∀ j q, j < i → ps[j]? = some q → isOffered st q = some false) → bestOf st (ps.drop i) = some r := by
  intro ps
  induction ps with
  | nil => intro r h i _; simpa using h
  | cons p t ih =>
    intro r h i hi
    cases i with
    | zero => exact h
    | succ i =>
      have e := hi 0 p (by omega) rfl
      rw [bestOf, e] at h
      exact ih h i fun j q hj hq => hi (j + 1) q (by omega) hq

theorem best_path_ok {prog : Program} {w : World} {mg mb : Str → Option Value} {k : Nat} (pb : Prob) (st : Stt) (n : Int) (r : Path) (h : bestPath pb st n = some r) (hl : okPb pb) :
    FOk prog w mg mb (defAt 4) (k + 3) [probV prog w pb, stV prog w st, .int n] (pathV r) := by
  refine enter [("problem", probV prog w pb), ("state", stV prog w st), ("node", .int n)] ["problem", "state", "node"] (mem_defs (by decide)) rfl rfl (fun pm code doc vs h => ?_) (by decide +kernel) (by decide +kernel) ⟨by decide +kernel, by decide +kernel, by decide +kernel⟩ fun C s₀ H₀ s hp hw hg hb hs hc hn B => ?_
  · match vs, h with
    | [a, b, c], _ => rfl
  · subst hp hw hg hb
    unfold bestPath at h
    cases hps : look n pb with
    | none => rw [hps] at h; cases h
    | some ps =>
      rw [hps] at h
      have h : bestOf st ps = some r := h
      have hl' : ∀ q ∈ ps, q.length ≤ 100 := hl _ (look_mem hps)
      have bd : ∀ i, (∀ j q, j < i → ps[j]? = some q → isOffered st q = some false) → bestOf st (ps.drop i) = some r := fun i => bestOf_drop st h i
      let ρ : Rho := [("problem", probV C.prog C.w pb), ("state", stV C.prog C.w st), ("node", .int n)]
      refine wpAny_seq (for_ B (T := .tup (ps.map pathV)) (Ts := ps.map pathV) (Ev_item_dict (kvs := pb.map fun p => (p.1, .tup (p.2.map pathV))) (B.ev (by k_mem)) (B.ev (by k_mem)) (by rw [look_map fun l : List Path => VP.tup (l.map pathV), hps]; rfl)) iter_tup
        (fun i => ∀ j q, j < i → ps[j]? = some q → isOffered st q = some false) (fun i => ρ) (fun _ => []) (fun j q hj => by omega) (fun p m => m) (fun p m => m) (fun H' g' s' i U v E' _ hJ hU hv B' => ?_) fun s' hJ B' => ?_)
      · rw [List.getElem?_map] at hU
        cases hq : ps[i]? with
        | none => rw [hq] at hU; cases hU
        | some q =>
          rw [hq] at hU; cases hU
          have hd : ps.drop i = q :: ps.drop (i + 1) := by
            obtain ⟨hlt, e⟩ := List.getElem?_eq_some_iff.mp hq
            rw [List.drop_eq_getElem_cons hlt, e]
          have hb := bd i hJ
          rw [hd, bestOf] at hb
          refine assign_name (Bd.storeL (C := { C with H := H', g := g' }) (ρ' := ρ) B' (x := "path") (kind_of hs (by decide +kernel)) hv (by k_all) fun s₂ B₂ => ?_)
          cases ho : isOffered st q with
          | none => rw [ho] at hb; cases hb
          | some b =>
            rw [ho] at hb
            refine wpAny_seq (wpAny_if (C := { C with H := H', g := g' }) (b := b) (Tst_val (Ev_call (d := defAt 3) (k := k + 2) B₂.ok B₂.room (is_offered_ok st q b ho (hl' q (List.mem_of_getElem? hq))) (mem_defs (by decide)) (kind_of hs (by decide +kernel)) (.cons (B₂.ev (by k_mem)) (.cons (B₂.ev (by k_mem)) .nil)))) (fun s₃ k₃ e => ?_) fun s₃ k₃ e => ?_)
            · subst e
              cases hb
              exact wpAny_mono (wpAny_ret (C := { C with H := H', g := g' }) (B₂.later k₃) ((B₂.later k₃).ev (by k_mem))) (fun f s₄ h₄ => by
                obtain ⟨v, rfl, h₄⟩ := h₄
                exact ⟨v, rfl, h₄⟩) fun _ _ e => e
            · subst e
              exact wpAny_execs_nil (wpAny_execs_nil ⟨fun j q' hj hq' => by
                rcases Nat.lt_or_ge j i with h | h
                · exact hJ j q' h hq'
                · have e : j = i := by omega
                  subst e
                  rw [hq] at hq'; cases hq'; exact ho, (B₂.later k₃).less fun p m => .tail _ m⟩)
      · have hb := bd _ hJ
        rw [List.length_map, List.drop_length] at hb
        cases hb
        exact wpAny_ret B' (show Ev C s' _ (.tup []) from Ev_tuple B'.ok .nil)


theorem cap_nil {ρ : Rho} {N : List (Str × NameKind)} : ∀ p ∈ ([] : Rho), p ∈ ρ ∧ (N.lookup p.1 == some .cell) = true := fun p m => nomatch m
theorem cap_cons {x : Str} {T : VP} {ρ r : Rho} {N : List (Str × NameKind)} (m : (x, T) ∈ ρ) (h : (N.lookup x == some .cell) = true) (q : ∀ p ∈ r, p ∈ ρ ∧ (N.lookup p.1 == some .cell) = true) : ∀ p ∈ (x, T) :: r, p ∈ ρ ∧ (N.lookup p.1 == some .cell) = true := fun p hp => by
  rcases List.mem_cons.mp hp with e | hp
  · rw [e]; exact ⟨m, h⟩
  · exact q p hp
theorem map_at {α β : Type} {f : α → β} {l : List α} {i : Nat} {u : β} (h : (l.map f)[i]? = some u) : ∃ x, l[i]? = some x ∧ u = f x := by
  rw [List.getElem?_map] at h
  cases e : l[i]? with
  | none => rw [e] at h; cases h
  | some x => rw [e] at h; exact ⟨x, rfl, (Option.some.inj h).symm⟩
theorem map_at2 {α β : Type} {f : α → β} {l : List α} {i : Nat} {u : β} {x : α} (h : (l.map f)[i]? = some u) (e : l[i]? = some x) : u = f x := by
  rw [List.getElem?_map, e] at h; exact (Option.some.inj h).symm

theorem kind_c {env : Env} {ds sc : Scope} {I : Addr} {x : Str} {k : NameKind} (hs : env.scope = ds) (h : ((relabelD sc ds).names.lookup x == some k) = true) : (cenv sc I env).kindOf x = some k := by
  show (cenv sc I env).scope.names.lookup x = some k
  rw [cenv_scope hs]; simpa using h

theorem filtO_some {α : Type} {f : α → Option Bool} (V : α → VP) : ∀ {l r : List α}, filtO f l = some r → (l.map fun n => if f n = some true then some (V n) else none).filterMap id = r.map V ∧ ∀ n ∈ l, ∃ b, f n = some b := by
  intro l
  induction l with
  | nil => intro r h; cases h; exact ⟨rfl, fun n m => nomatch m⟩
  | cons a t ih =>
    intro r h
    rw [filtO] at h
    cases ha : f a with
    | none => rw [ha] at h; cases h
    | some b =>
      rw [ha] at h
      cases ht : filtO f t with
      | none => rw [ht] at h; cases h
      | some bs =>
        rw [ht] at h
        obtain ⟨h1, h2⟩ := ih ht
        refine ⟨?_, fun n m => ?_⟩
        · have e : r = if b then a :: bs else bs := (Option.some.inj h).symm
          subst e
          rw [List.map_cons, ha]
          cases b with
          | true => simp [h1]
          | false => simp [h1]
        · rcases List.mem_cons.mp m with rfl | m
          · exact ⟨b, ha⟩
          · exact h2 n m
theorem mapO_some {α β : Type} {f : α → Option β} (V : β → VP) : ∀ {l : List α} {r : List β}, mapO f l = some r → (l.map fun n => (f n).map V).filterMap id = r.map V ∧ ∀ n ∈ l, ∃ b, f n = some b := by
  intro l
  induction l with
  | nil => intro r h; cases h; exact ⟨rfl, fun n m => nomatch m⟩
  | cons a t ih =>
    intro r h
    rw [mapO] at h
    cases ha : f a with
    | none => rw [ha] at h; cases h
    | some b =>
      rw [ha] at h
      cases ht : mapO f t with
      | none => rw [ht] at h; cases h
      | some bs =>
        rw [ht] at h
        cases h
        obtain ⟨h1, h2⟩ := ih ht
        refine ⟨by rw [List.map_cons, ha]; simp [h1], fun n m => ?_⟩
        rcases List.mem_cons.mp m with rfl | m
        · exact ⟨b, ha⟩
        · exact h2 n m
theorem keys_map {α β : Type} (f : α → β) : ∀ l : List (Int × α), (l.map fun p => (p.1, f p.2)).map (·.1) = keys l := by
  intro l
  induction l with
  | nil => rfl
  | cons p r ih => rw [List.map_cons, List.map_cons, ih]; rfl
theorem keys_len {α : Type} : ∀ l : List (Int × α), (keys l).length = l.length := by
  intro l
  induction l with
  | nil => rfl
  | cons p r ih => show (keys r).length + 1 = _; rw [ih]; rfl
theorem sortI_len (l : List Int) : (sortI l).length = l.length := (sortI_perm l).length_eq

/-- sorted(problem) -/
theorem Ev_sorted {C : Cx} {s : Shared} {α : Type} {f : α → VP} {l : List (Int × α)} {e : Expr} {p pos} (O : Ok C s) (hx : C.env.kindOf "sorted" = some .globalImplicit) (h : Ev C s e (C.dict (l.map fun p => (p.1, f p.2)))) (hsz : l.length < 64)
    (he : starEach [e] C.env = (false, eval e C.env) :: starEach [] C.env := by rfl) : Ev C s (.Call (.Name "sorted" p) [e] [] pos) (.list ((sortI (keys l)).map VP.int)) := by
  have := op_sorted_dict (C := C) (s := s) (kvs := l.map fun p => (p.1, f p.2)) O (by simpa using hsz)
  rw [keys_map] at this
  exact Ev_callB O (by decide +kernel) hx (.cons h .nil he) this

/-- what bounds a problem -/
structure Pb (pb : Prob) : Prop where
  n : pb.length < 64
  p : ∀ x ∈ pb, x.2.length ≤ 60 ∧ ∀ q ∈ x.2, q.length ≤ 60
theorem Pb.ok {pb : Prob} (h : Pb pb) : okPb pb := fun p hp q hq => Nat.le_trans ((h.p p hp).2 q hq) (by decide)

theorem unquiet_ok {prog : Program} {w : World} {mg mb : Str → Option Value} {k : Nat} (pb : Prob) (st : Stt) (r : List Int) (h : unquiet pb st = some r) (hl : Pb pb) :
    FOk prog w mg mb (defAt 5) (k + 4) [probV prog w pb, stV prog w st] (.list (r.map VP.int)) := by
  refine enter [("problem", probV prog w pb), ("state", stV prog w st)] ["problem", "state"] (mem_defs (by decide)) rfl rfl (fun pm code doc vs h => ?_) (by decide +kernel) (by decide +kernel) ⟨by decide +kernel, by decide +kernel, by decide +kernel⟩ fun C s₀ H₀ s hp hw hg hb hs hc hn B => ?_
  · match vs, h with
    | [a, b], _ => rfl
  · subst hp hw hg hb
    obtain ⟨hr, hall⟩ := filtO_some VP.int h
    rw [← hr]
    refine wpAny_ret B (comp_ B hs hc ⟨by decide +kernel, by decide +kernel, by decide +kernel, by decide +kernel⟩ (Ev_sorted (f := fun l : List Path => VP.tup (l.map pathV)) B.ok (kind_of hs (by decide +kernel)) (B.ev (by k_mem)) hl.n) iter_list _ (by rw [List.length_map, List.length_map]) (by rw [List.length_map, sortI_len, keys_len]; have := hl.n; omega)
      [("problem", probV C.prog C.w pb), ("state", stV C.prog C.w st)] ?_ letsGo_name fun K H' g' s' i U rr v E' hU hr hv B' => ?_)
    · exact cap_cons (by k_mem) (by decide +kernel) (cap_cons (by k_mem) (by decide +kernel) cap_nil)
    · obtain ⟨n, hn, rfl⟩ := map_at hU
      have hrr := map_at2 hr hn
      obtain ⟨b, hb⟩ := hall n (List.mem_of_getElem? hn)
      cases hbp : bestPath pb st n with
      | none => rw [hbp] at hb; cases hb
      | some p =>
        have hb2 := hb
        rw [hbp] at hb
        have eb : b = !decide (p = pathOf st n) := by rw [← peq_eq]; exact (Option.some.inj hb).symm
        have er : rr = if b = true then some (VP.int n) else none := by
          rw [hrr, hb2]; cases b <;> rfl
        refine assign_name (Bd.storeL (C := { C with env := cenv _ K C.env, H := H', g := g' }) (ρ' := [("problem", probV C.prog C.w pb), ("state", stV C.prog C.w st)]) B' (x := "node") (kind_c hs (by decide +kernel)) hv (by k_all) fun s₂ B₂ => ⟨B₂.less (by k_upd), ?_, ?_⟩)
        · have : rr.isSome = !decide (p = pathOf st n) := by rw [er, ← eb]; cases b <;> rfl
          rw [this]
          exact tests_one (Tst_cmp (Ev_call (d := defAt 4) (k := k + 3) B₂.ok B₂.room (best_path_ok pb st n p hbp hl.ok) (mem_defs (by decide)) (kind_c hs (by decide +kernel)) (.cons (B₂.ev (by k_mem)) (.cons (B₂.ev (by k_mem)) (.cons (B₂.ev (by k_mem)) .nil))))
            (Ev_call (d := defAt 2) (k := k + 3) B₂.ok B₂.room (path_of_ok st n) (mem_defs (by decide)) (kind_c hs (by decide +kernel)) (.cons (B₂.ev (by k_mem)) (.cons (B₂.ev (by k_mem)) .nil))) (op_ne_path B₂.ok))
        · intro U hU
          rw [er] at hU
          split at hU
          · cases hU; exact B₂.ev (by k_mem)
          · cases hU


theorem put_map {α β : Type} (f : α → β) (k : Int) (v : α) : ∀ l : List (Int × α), put k (f v) (l.map fun p => (p.1, f p.2)) = (put k v l).map fun p => (p.1, f p.2) := by
  intro l
  induction l with
  | nil => rfl
  | cons p r ih =>
    obtain ⟨a, x⟩ := p
    rw [List.map_cons, put, put]
    by_cases e : a = k
    · rw [if_pos e, if_pos e]; rfl
    · rw [if_neg e, if_neg e, ih]; rfl
theorem foldl_put_map {α β : Type} (f : α → β) : ∀ (l d : List (Int × α)), (l.map fun p => (p.1, f p.2)).foldl (fun d p => put p.1 p.2 d) (d.map fun p => (p.1, f p.2)) = (l.foldl (fun d p => put p.1 p.2 d) d).map fun p => (p.1, f p.2) := by
  intro l
  induction l with
  | nil => intro d; rfl
  | cons p r ih =>
    intro d
    rw [List.map_cons, List.foldl_cons, List.foldl_cons]
    show List.foldl _ (put p.1 (f p.2) _) _ = _
    rw [put_map, ih]
theorem ofPairs_map {α β : Type} (f : α → β) (l : List (Int × α)) : ofPairs (l.map fun p => (p.1, f p.2)) = (ofPairs l).map fun p => (p.1, f p.2) := foldl_put_map f l []
theorem put_new {α : Type} {k : Int} {v : α} : ∀ {l : List (Int × α)}, k ∉ l.map (·.1) → put k v l = l ++ [(k, v)] := by
  intro l
  induction l with
  | nil => intro _; rfl
  | cons p r ih =>
    intro h
    obtain ⟨a, x⟩ := p
    simp only [List.map_cons, List.mem_cons, not_or] at h
    rw [put, if_neg (Ne.symm h.1), ih h.2]; rfl
theorem foldl_put_nodup {α : Type} : ∀ (l d : List (Int × α)), ((d ++ l).map (·.1)).Nodup → l.foldl (fun d p => put p.1 p.2 d) d = d ++ l := by
  intro l
  induction l with
  | nil => intro d _; simp
  | cons p r ih =>
    intro d h
    have h' : ((d ++ [p] ++ r).map (·.1)).Nodup := by simpa using h
    rw [List.foldl_cons, put_new, ih _ (by simpa using h')]
    · simp
    · rw [List.map_append, List.nodup_append] at h
      exact fun m => h.2.2 _ m p.1 (by simp) rfl
theorem ofPairs_nodup {α : Type} {l : List (Int × α)} (h : (l.map (·.1)).Nodup) : ofPairs l = l := by
  have := foldl_put_nodup l [] (by simpa using h)
  rw [List.nil_append] at this
  exact this
theorem dict_nodup {prog : Program} {w : World} {kvs : List (Int × VP)} {g : Heap} {v : Value} (h : (VP.dict prog w kvs).P g v) : (kvs.map (·.1)).Nodup := by
  obtain ⟨a, ws, _, ⟨_, _, _, _, _, _, _, _, n⟩, m, _⟩ := h
  rw [← m]; exact n
theorem map_fst {α β : Type} (f : α → β) (l : List (Int × α)) : (l.map fun p => (p.1, f p.2)).map (·.1) = l.map (·.1) := by rw [List.map_map]; rfl

theorem is_stable_ok {prog : Program} {w : World} {mg mb : Str → Option Value} {k : Nat} (pb : Prob) (st : Stt) (r : List Int) (h : unquiet pb st = some r) (hl : Pb pb) :
    FOk prog w mg mb (defAt 6) (k + 5) [probV prog w pb, stV prog w st] (.bool r.isEmpty) := by
  refine enter [("problem", probV prog w pb), ("state", stV prog w st)] ["problem", "state"] (mem_defs (by decide)) rfl rfl (fun pm code doc vs h => ?_) (by decide +kernel) (by decide +kernel) ⟨by decide +kernel, by decide +kernel, by decide +kernel⟩ fun C s₀ H₀ s hp hw hg hb hs hc hn B => ?_
  · match vs, h with
    | [a, b], _ => rfl
  · subst hp hw hg hb
    have e : r.isEmpty = (r.map VP.int).isEmpty := by cases r <;> rfl
    rw [e]
    exact wpAny_ret B (Ev_cmp (Ev_call (d := defAt 5) (k := k + 4) B.ok B.room (unquiet_ok pb st r h hl) (mem_defs (by decide)) (kind_of hs (by decide +kernel)) (.cons (B.ev (by k_mem)) (.cons (B.ev (by k_mem)) .nil))) (Ev_list B.ok .nil) (op_eq_nil B.ok))

theorem activated_ok {prog : Program} {w : World} {mg mb : Str → Option Value} {k : Nat} (pb : Prob) (st r : Stt) (n : Int) (h : activated pb st n = some r) (hl : Pb pb) (hst : st.length ≤ 500) :
    FOk prog w mg mb (defAt 7) (k + 4) [probV prog w pb, stV prog w st, .int n] (stV prog w r) := by
  refine enter [("problem", probV prog w pb), ("state", stV prog w st), ("node", .int n)] ["problem", "state", "node"] (mem_defs (by decide)) rfl rfl (fun pm code doc vs h => ?_) (by decide +kernel) (by decide +kernel) ⟨by decide +kernel, by decide +kernel, by decide +kernel⟩ fun C s₀ H₀ s hp hw hg hb hs hc hn B => ?_
  · match vs, h with
    | [a, b, c], _ => rfl
  · subst hp hw hg hb
    unfold activated at h
    cases hbp : bestPath pb st n with
    | none => rw [hbp] at h; cases h
    | some p =>
      rw [hbp] at h
      have er : r = put n p st := (Option.some.inj h).symm
      subst er
      have hnd : (st.map (·.1)).Nodup := by
        obtain ⟨v, _, hv⟩ := B.vars "state" (stV C.prog C.w st) (by k_mem)
        have := dict_nodup hv
        rwa [map_fst] at this
      have hop : ofPairs (st.map fun p => (p.1, pathV p.2)) = st.map fun p => (p.1, pathV p.2) := ofPairs_nodup (by rw [map_fst]; exact hnd)
      refine wpAny_seq (own_storeL B (EvF_pairs (pairs := st.map fun p => (p.1, pathV p.2)) B.ok (kind_of hs (by decide +kernel)) (Ev_callT (id := "list") B.ok (by decide +kernel) (kind_of hs (by decide +kernel)) (.cons (Ev_meth0 (meth_dict PySem.F.slot_dict_items PySem.F.type_dict_items) (B.ev (by k_mem)) (op_items B.ok)) .nil) (op_list_items B.ok (by simpa using by omega))) (by simpa using by omega))
        (kind_of hs (by decide +kernel)) (ρ' := [("problem", probV C.prog C.w pb), ("state", stV C.prog C.w st), ("node", .int n)]) (by k_all) fun a s₁ hm ha B₁ => ?_)
      rw [hop] at B₁
      refine wpAny_seq (own_set (C := { C with H := a :: C.H }) (T := pathV p) (key := n) B₁ (by k_mem) (.head _) (Ev_call (C := { C with H := a :: C.H }) (d := defAt 4) (k := k + 3) B₁.ok B₁.room (best_path_ok pb st n p hbp hl.ok) (mem_defs (by decide)) (kind_of hs (by decide +kernel)) (.cons (B₁.ev (by k_mem)) (.cons (B₁.ev (by k_mem)) (.cons (B₁.ev (by k_mem)) .nil)))) (B₁.ev (by k_mem)) (by simp; omega) mu_nil fun s₂ B₂ => ?_)
      have B₃ := B.freeD B₂ ha hm (.head _) (x := "found") (by k_mem) mu_show_nil
      rw [put_map] at B₃
      exact wpAny_ret B₃ (B₃.ev (by k_mem))

theorem mapO_len {α β : Type} {f : α → Option β} : ∀ {l : List α} {r : List β}, mapO f l = some r → r.length = l.length := by
  intro l
  induction l with
  | nil => intro r h; cases h; rfl
  | cons a t ih =>
    intro r h
    rw [mapO] at h
    cases ha : f a with
    | none => rw [ha] at h; cases h
    | some b =>
      rw [ha] at h
      cases ht : mapO f t with
      | none => rw [ht] at h; cases h
      | some bs => rw [ht] at h; cases h; simp [ih ht]
theorem all_activated_ok {prog : Program} {w : World} {mg mb : Str → Option Value} {k : Nat} (pb : Prob) (st r : Stt) (h : allActivated pb st = some r) (hl : Pb pb) :
    FOk prog w mg mb (defAt 8) (k + 4) [probV prog w pb, stV prog w st] (stV prog w (ofPairs r)) := by
  refine enter [("problem", probV prog w pb), ("state", stV prog w st)] ["problem", "state"] (mem_defs (by decide)) rfl rfl (fun pm code doc vs h => ?_) (by decide +kernel) (by decide +kernel) ⟨by decide +kernel, by decide +kernel, by decide +kernel⟩ fun C s₀ H₀ s hp hw hg hb hs hc hn B => ?_
  · match vs, h with
    | [a, b], _ => rfl
  · subst hp hw hg hb
    have hlen : r.length = pb.length := by
      have := mapO_len h
      rw [this, sortI_len, keys_len]
    obtain ⟨hr, hall⟩ := mapO_some (fun q : Int × Path => pairT (q.1, pathV q.2)) h
    have e1 : (r.map fun p => (p.1, pathV p.2)).map pairT = r.map fun q : Int × Path => pairT (q.1, pathV q.2) := by rw [List.map_map]; rfl
    have er' : ∀ x : Stt, stV C.prog C.w (ofPairs x) = C.dict (ofPairs (x.map fun p => (p.1, pathV p.2))) := fun x => by rw [ofPairs_map]
    rw [er']
    refine wpAny_ret B (Ev_callT (id := "dict") B.ok (by decide +kernel) (kind_of hs (by decide +kernel)) (.cons ?_ .nil) (op_dict_pairs (pairs := r.map fun p => (p.1, pathV p.2)) B.ok (by rw [List.length_map, hlen]; have := hl.n; omega)))
    rw [e1, ← hr]
    refine comp_ B hs hc ⟨by decide +kernel, by decide +kernel, by decide +kernel, by decide +kernel⟩ (Ev_sorted (f := fun l : List Path => VP.tup (l.map pathV)) B.ok (kind_of hs (by decide +kernel)) (B.ev (by k_mem)) hl.n) iter_list _ (by rw [List.length_map, List.length_map]) (by rw [List.length_map, sortI_len, keys_len]; have := hl.n; omega)
      [("problem", probV C.prog C.w pb), ("state", stV C.prog C.w st)] ?_ letsGo_name fun K H' g' s' i U rr v E' hU hr hv B' => ?_
    · exact cap_cons (by k_mem) (by decide +kernel) (cap_cons (by k_mem) (by decide +kernel) cap_nil)
    · obtain ⟨n, hn, rfl⟩ := map_at hU
      have hrr := map_at2 hr hn
      obtain ⟨q, hq⟩ := hall n (List.mem_of_getElem? hn)
      cases hbp : bestPath pb st n with
      | none => rw [hbp] at hq; cases hq
      | some p =>
        rw [hbp] at hrr
        have er : rr = some (pairT (n, pathV p)) := hrr
        subst er
        exact assign_name (Bd.storeL (C := { C with env := cenv _ K C.env, H := H', g := g' }) (ρ' := [("problem", probV C.prog C.w pb), ("state", stV C.prog C.w st)]) B' (x := "node") (kind_c hs (by decide +kernel)) hv (by k_all) fun s₂ B₂ => ⟨B₂.less (by k_upd), tests_nil, fun U hU => by
          cases hU
          exact Ev_tuple B₂.ok (.cons (B₂.ev (by k_mem)) (.cons (Ev_call (d := defAt 4) (k := k + 3) B₂.ok B₂.room (best_path_ok pb st n p hbp hl.ok) (mem_defs (by decide)) (kind_c hs (by decide +kernel)) (.cons (B₂.ev (by k_mem)) (.cons (B₂.ev (by k_mem)) (.cons (B₂.ev (by k_mem)) .nil)))) .nil))⟩)

theorem no_paths_ok {prog : Program} {w : World} {mg mb : Str → Option Value} {k : Nat} (pb : Prob) (hl : Pb pb) :
    FOk prog w mg mb (defAt 9) (k + 1) [probV prog w pb] (stV prog w (ofPairs (noPaths pb))) := by
  refine enter [("problem", probV prog w pb)] ["problem"] (mem_defs (by decide)) rfl rfl (fun pm code doc vs h => ?_) (by decide +kernel) (by decide +kernel) ⟨by decide +kernel, by decide +kernel, by decide +kernel⟩ fun C s₀ H₀ s hp hw hg hb hs hc hn B => ?_
  · match vs, h with
    | [a], _ => rfl
  · subst hp hw hg hb
    have hlen : (noPaths pb).length = pb.length := by
      unfold noPaths; rw [List.length_map, sortI_len, keys_len]
    have e1 : ((noPaths pb).map fun p => (p.1, pathV p.2)).map pairT = ((sortI (keys pb)).map fun n => some (pairT (n, pathV []))).filterMap id := by
      unfold noPaths
      rw [List.map_map, List.map_map, List.filterMap_map]
      generalize sortI (keys pb) = l
      induction l with
      | nil => rfl
      | cons a t ih => rw [List.map_cons, ih]; rfl
    have er' : ∀ x : Stt, stV C.prog C.w (ofPairs x) = C.dict (ofPairs (x.map fun p => (p.1, pathV p.2))) := fun x => by rw [ofPairs_map]
    rw [er']
    refine wpAny_ret B (Ev_callT (id := "dict") B.ok (by decide +kernel) (kind_of hs (by decide +kernel)) (.cons ?_ .nil) (op_dict_pairs (pairs := (noPaths pb).map fun p => (p.1, pathV p.2)) B.ok (by rw [List.length_map, hlen]; have := hl.n; omega)))
    rw [e1]
    refine comp_ B hs hc ⟨by decide +kernel, by decide +kernel, by decide +kernel, by decide +kernel⟩ (Ev_sorted (f := fun l : List Path => VP.tup (l.map pathV)) B.ok (kind_of hs (by decide +kernel)) (B.ev (by k_mem)) hl.n) iter_list _ (by rw [List.length_map, List.length_map]) (by rw [List.length_map, sortI_len, keys_len]; have := hl.n; omega)
      [] cap_nil letsGo_name fun K H' g' s' i U rr v E' hU hr hv B' => ?_
    obtain ⟨n, hn, rfl⟩ := map_at hU
    have er := map_at2 hr hn
    subst er
    exact assign_name (Bd.storeL (C := { C with env := cenv _ K C.env, H := H', g := g' }) (ρ' := []) B' (x := "node") (kind_c hs (by decide +kernel)) hv (by k_all) fun s₂ B₂ => ⟨B₂.less (by k_upd), tests_nil, fun U hU => by
      cases hU
      exact Ev_tuple B₂.ok (.cons (B₂.ev (by k_mem)) (.cons (show Ev _ _ _ (.tup []) from Ev_tuple B₂.ok .nil) .nil))⟩)

theorem runRow_append (pb : Prob) : ∀ (l : List Int) (m : List Int) (st : Stt) (c : Int), runRow pb st (l ++ m) c = (match runRow pb st l c with | none => none | some (s', c') => runRow pb s' m c') := by
  intro l
  induction l with
  | nil => intro m st c; rfl
  | cons n r ih =>
    intro m st c
    rw [List.cons_append, runRow, runRow]
    cases activated pb st n with
    | none => rfl
    | some p => exact ih m p _
def rowAt (pb : Prob) (st : Stt) (row : List Int) (i : Nat) : Stt × Int := match runRow pb st (row.take i) 0 with | none => (st, 0) | some q => q
theorem rowAt_some {pb : Prob} {st : Stt} {row : List Int} {q : Stt × Int} (h : runRow pb st row 0 = some q) (i : Nat) : runRow pb st (row.take i) 0 = some (rowAt pb st row i) := by
  unfold rowAt
  cases e : runRow pb st (row.take i) 0 with
  | none =>
    have := runRow_append pb (row.take i) (row.drop i) st 0
    rw [List.take_append_drop, e, h] at this
    cases this
  | some q => rfl
theorem rowAt_next {pb : Prob} {st : Stt} {row : List Int} {q : Stt × Int} (h : runRow pb st row 0 = some q) {i : Nat} {n : Int} (hn : row[i]? = some n) : ∃ l, activated pb (rowAt pb st row i).1 n = some l ∧ rowAt pb st row (i + 1) = (l, if steq l (rowAt pb st row i).1 then (rowAt pb st row i).2 else (rowAt pb st row i).2 + 1) := by
  have h1 := rowAt_some h i
  have h2 := rowAt_some h (i + 1)
  rw [List.take_add_one, hn, Option.toList_some, runRow_append, h1] at h2
  generalize rowAt pb st row i = z at h2
  obtain ⟨a, b⟩ := z
  have h2 : (match activated pb a n with | none => none | some l => runRow pb l [] (if steq l a then b else b + 1)) = some (rowAt pb st row (i + 1)) := h2
  cases e : activated pb a n with
  | none => rw [e] at h2; cases h2
  | some l => rw [e] at h2; exact ⟨l, rfl, (Option.some.inj h2).symm⟩
theorem put_length {α : Type} {k : Int} {v : α} {l : List (Int × α)} : (put k v l).length ≤ l.length + 1 := put_len (β := α)
theorem rowAt_len {pb : Prob} {st : Stt} {row : List Int} {q : Stt × Int} (h : runRow pb st row 0 = some q) : ∀ i, (rowAt pb st row i).1.length ≤ st.length + i := by
  intro i
  induction i with
  | zero => exact Nat.le_refl _
  | succ i ih =>
    cases hn : row[i]? with
    | none =>
      have : row.take (i + 1) = row.take i := by rw [List.take_add_one, hn]; simp
      unfold rowAt
      rw [this]
      exact Nat.le_trans ih (Nat.le_succ _)
    | some n =>
      obtain ⟨l, h1, h2⟩ := rowAt_next h hn
      rw [h2]
      unfold activated at h1
      cases e : bestPath pb (rowAt pb st row i).1 n with
      | none => rw [e] at h1; cases h1
      | some p =>
        rw [e] at h1
        have e : l = put n p (rowAt pb st row i).1 := (Option.some.inj h1).symm
        subst e
        exact Nat.le_trans put_length (by omega)

theorem run_row_ok {prog : Program} {w : World} {mg mb : Str → Option Value} {k : Nat} (pb : Prob) (st : Stt) (row : List Int) (q : Stt × Int) (h : runRow pb st row 0 = some q) (hl : Pb pb) (hst : st.length + row.length ≤ 400) :
    FOk prog w mg mb (defAt 10) (k + 5) [probV prog w pb, stV prog w st, .list (row.map VP.int)] (.tup [stV prog w q.1, .int q.2]) := by
  refine enter [("problem", probV prog w pb), ("state", stV prog w st), ("row", .list (row.map VP.int))] ["problem", "state", "row"] (mem_defs (by decide)) rfl rfl (fun pm code doc vs h => ?_) (by decide +kernel) (by decide +kernel) ⟨by decide +kernel, by decide +kernel, by decide +kernel⟩ fun C s₀ H₀ s hp hw hg hb hs hc hn B => ?_
  · match vs, h with
    | [a, b, c], _ => rfl
  · subst hp hw hg hb
    refine wpAny_seq (store_ B Ev_int (.inl (kind_of hs (by decide +kernel))) (ρ' := [("problem", probV C.prog C.w pb), ("state", stV C.prog C.w st), ("row", .list (row.map VP.int))]) (by k_all) fun s₁ B₁ => ?_)
    refine wpAny_seq (for_ B₁ (B₁.ev (x := "row") (T := .list (row.map VP.int)) (by k_mem)) iter_list (fun i => True) (fun i => [("changes", .int (rowAt pb st row i).2), ("state", stV C.prog C.w (rowAt pb st row i).1), ("problem", probV C.prog C.w pb)]) (fun _ => []) trivial ?_ (fun p m => m) (fun H' g' s' i U v E' _ hJ hU hv B' => ?_) fun s' hJ B' => ?_)
    · show ∀ p ∈ ([("changes", VP.int 0), ("state", stV C.prog C.w st), ("problem", probV C.prog C.w pb)] : Rho), _
      k_upd
    · obtain ⟨n, hn, rfl⟩ := map_at hU
      obtain ⟨l, h1, h2⟩ := rowAt_next h hn
      rw [h2]
      have hlen := rowAt_len h i
      have hi : i < row.length := (List.getElem?_eq_some_iff.mp hn).1
      generalize rowAt pb st row i = z at B' h1 h2 hlen
      obtain ⟨a, b⟩ := z
      refine assign_name (Bd.storeL (C := { C with H := H', g := g' }) (ρ' := [("changes", .int b), ("state", stV C.prog C.w a), ("problem", probV C.prog C.w pb)]) B' (x := "node") (kind_of hs (by decide +kernel)) hv (by k_all) fun s₂ B₂ => ?_)
      refine wpAny_seq (store_ (C := { C with H := H', g := g' }) B₂ (T := stV C.prog C.w l) (Ev_call (C := { C with H := H', g := g' }) (d := defAt 7) (k := k + 4) B₂.ok B₂.room (activated_ok pb a l n h1 hl (by simp at hlen; omega)) (mem_defs (by decide)) (kind_of hs (by decide +kernel)) (.cons (B₂.ev (by k_mem)) (.cons (B₂.ev (by k_mem)) (.cons (B₂.ev (by k_mem)) .nil)))) (.inl (kind_of hs (by decide +kernel)))
        (ρ' := [("changes", .int b), ("state", stV C.prog C.w a), ("problem", probV C.prog C.w pb)]) (by k_all) fun s₃ B₃ => ?_)
      refine wpAny_seq (aug_int_bool (C := { C with H := H', g := g' }) B₃ (n := b) (b := !steq l a) (by k_mem) (Ev_cmp (B₃.ev (by k_mem)) (B₃.ev (by k_mem)) (op_ne_st B₃.ok)) (.inl (kind_of hs (by decide +kernel))) (ρ' := [("later", stV C.prog C.w l), ("problem", probV C.prog C.w pb)]) (by k_all) fun s₄ B₄ => ?_)
      refine wpAny_seq (store_ (C := { C with H := H', g := g' }) B₄ (T := stV C.prog C.w l) (B₄.ev (by k_mem)) (.inl (kind_of hs (by decide +kernel))) (ρ' := [("changes", .int (b + if (!steq l a) = true then 1 else 0)), ("problem", probV C.prog C.w pb)]) (by k_all) fun s₅ B₅ => ?_)
      refine wpAny_execs_nil ⟨trivial, B₅.less ?_⟩
      have e : (b + if (!steq l a) = true then 1 else 0) = if steq l a = true then b else b + 1 := by cases steq l a <;> simp
      rw [e]
      k_upd
    · have e : rowAt pb st row (row.map VP.int).length = q := by
        have := rowAt_some h (row.map VP.int).length
        rw [List.length_map, List.take_length, h] at this
        rw [List.length_map]; exact (Option.some.inj this).symm
      rw [e] at B'
      exact wpAny_ret B' (Ev_tuple B'.ok (.cons (B'.ev (by k_mem)) (.cons (B'.ev (by k_mem)) .nil)))

theorem adjust_upto (a n : Nat) : Builtin.Slice.sliceAdjust none (some (a : Int)) 1 (n : Int) = ((0 : Int), ((min a n : Nat) : Int)) := by
  unfold Builtin.Slice.sliceAdjust
  have h1 : ¬ ((1 : Int) < 0) := by omega
  have h2 : ¬ ((a : Int) < 0) := by omega
  simp only [h1, h2, if_false]
  congr 1
  omega
theorem places_upto (m : Nat) : Builtin.Slice.slicePlaces (0 : Int) (m : Int) 1 = m := by
  unfold Builtin.Slice.slicePlaces
  have h1 : (1 : Int) > 0 := by omega
  simp only [h1, if_true, Int.ediv_one]
  split <;> omega
section
variable {prog : Program} {w : World} {A : Around} {E : Value → Shared → Prop} {s : Shared}
theorem sliceApplied_upto {sl : Addr} {a n : Nat} {u : Tok} {Q : Int × Int × Nat → Shared → Prop} (hs : s.heap.IsSliceOf sl .none (.int a u) .none) (h : Q ((0 : Int), 1, min a n) s) :
    wpAny (model prog w) A (Builtin.Slice.sliceApplied (.ref sl) (pure (n : Int))) Q E s := by
  obtain ⟨os, hos, hcs, hds⟩ := id hs
  unfold Builtin.Slice.sliceApplied Builtin.Slice.sliceFields
  refine wpAny_bind (wpAny_bind (wpAny_field hos hds (x := .none) rfl (wpAny_bind (wpAny_field hos hds (x := .int a u) rfl (wpAny_bind (wpAny_field hos hds (x := .none) rfl (wpAny_pure ?_)))))))
  refine wpAny_bind (slicePart_none ?_)
  show wpAny _ _ (if ((1 : Int) == 0) = true then _ else _) _ _ s
  rw [if_neg (by decide)]
  refine wpAny_bind (slicePart_none (wpAny_bind (slicePart_int (wpAny_bind (wpAny_pure ?_)))))
  show wpAny _ _ (match Builtin.Slice.sliceAdjust none (some (a : Int)) 1 (n : Int) with | (lo, hi) => pure (lo, (1 : Int), Builtin.Slice.slicePlaces lo hi 1)) _ _ s
  rw [adjust_upto a n]
  show wpAny _ _ (pure ((0 : Int), (1 : Int), Builtin.Slice.slicePlaces (0 : Int) ((min a n : Nat) : Int) 1)) _ _ s
  rw [places_upto]
  exact wpAny_pure h
theorem pick_upto (xs : Array Value) (a : Nat) : ((List.range (min a xs.size)).filterMap fun (k : Nat) => xs[((0 : Int) + (k : Int) * 1).toNat]?).toArray = (xs.toList.take a).toArray := by
  congr 1
  have e : (fun (k : Nat) => xs[((0 : Int) + (k : Int) * 1).toNat]?) = fun k => xs.toList[k]? := by
    funext k
    have : ((0 : Int) + (k : Int) * 1).toNat = k := by omega
    rw [this, Array.getElem?_toList]
  rw [e, show xs.size = xs.toList.length from (Array.length_toList).symm]
  generalize xs.toList = l
  induction l generalizing a with
  | nil => simp
  | cons x r ih =>
    cases a with
    | zero => simp
    | succ a =>
      rw [List.take_succ_cons, ← ih a, List.length_cons, show min (a + 1) (r.length + 1) = min a r.length + 1 by omega, List.range_succ_eq_map, List.filterMap_cons, List.filterMap_map]
      rfl
theorem getItem_tuple_upto {t sl : Addr} {items : Array Value} {n : Nat} {a : Nat} {u : Tok} {Q : Value → Shared → Prop} (ht : IsT s.heap t items n) (hs : s.heap.IsSliceOf sl .none (.int a u) .none)
    (h : a < items.size → Q (.ref s.heap.objs.size) { s with heap := s.heap.push { cls := .type "tuple", data := .seq (items.toList.take a).toArray } }) (h' : items.size ≤ a → Q (.ref t) s)
    (hsz : items.size ≤ sizeLine) : wpAny (model prog w) A (getItem (.ref t) (.ref sl)) Q E s := by
  have htt : IsTup s.heap t items := ⟨_, ht, rfl, n, rfl⟩
  have hdrop : sizeOk (.seq (items.toList.take a).toArray) := by
    show (items.toList.take a).toArray.size ≤ sizeLine
    rw [List.size_toArray, List.length_take, Array.length_toList]
    omega
  obtain ⟨os, hos, hcs, hds⟩ := id hs
  have hTs : s.TypeIs (.ref sl) "slice" := ⟨os, hos, hcs⟩
  unfold getItem
  try with_reducible refine wpAny_holding ?_
  first | refine wpAny_bind (wpAny_pure ?_) | skip
  refine wpAny_bind (wpAny_sequenceKey htt.typeIs (by decide) ?_)
  refine wpAny_bind (wpAny_callSpecial?_slot (name := Str.ofString "__getitem__") htt.typeIs slot_tuple_getitem
    (wpAny_call_entry slot_tuple_getitem htt.typeIs entry_tuple_getitem ?_ (args_tuple_getitem _ _)))
  show wpAny _ _ (Builtin.Tuple.tupleItemsOf (.ref t) >>= _) _ _ s
  refine wpAny_bind (tupleItemsOf_ htt ?_)
  refine wpAny_bind (wpAny_typeOf hTs ?_)
  rw [if_pos (by decide)]
  refine wpAny_bind (sliceApplied_upto hs ?_)
  show wpAny _ _ (if ((0 : Int) == 0 && (1 : Int) == 1 && min a items.size == items.size) = true then _ else _) _ _ s
  by_cases hlt : a < items.size
  · have hno : ¬ (((0 : Int) == 0 && (1 : Int) == 1 && min a items.size == items.size) = true) := by
      have : (min a items.size == items.size) = false := by rw [beq_eq_false_iff_ne]; omega
      rw [this]; simp
    rw [if_neg hno, pick_upto]
    have h := h hlt
    first
      | exact wpAny_bind (m := Builtin.Tuple.tupleExact _) (wpAny_newObj_type (wpAny_pure ⟨_, rfl, wpAny_pure h⟩) hdrop)
      | exact wpAny_bind (m := Builtin.Tuple.tupleExact _) (wpAny_newObj_type (wpAny_bind (wpAny_pure (wpAny_pure ⟨_, rfl, wpAny_pure h⟩))) hdrop)
      | exact wpAny_bind (wpAny_bind (m := Builtin.Tuple.tupleExact _) (wpAny_newObj_type (wpAny_pure (wpAny_pure ⟨_, rfl, wpAny_pure h⟩)) hdrop))
      | exact wpAny_bind (wpAny_bind (m := Builtin.Tuple.tupleExact _) (wpAny_newObj_type (wpAny_pure ⟨_, rfl, wpAny_pure h⟩) hdrop))
  · have hyes : ((0 : Int) == 0 && (1 : Int) == 1 && min a items.size == items.size) = true := by
      have : (min a items.size == items.size) = true := by rw [beq_iff_eq]; omega
      rw [this]; rfl
    rw [if_pos hyes]
    have h := h' (by omega)
    unfold Builtin.Tuple.tupleIsExact
    first
      | exact wpAny_bind (wpAny_bind (wpAny_typeOf htt.typeIs (wpAny_pure (by rw [if_pos (by decide)]; exact wpAny_bind (wpAny_rule (wpAny_bind (wpAny_pure (wpAny_pure ⟨_, rfl, wpAny_pure h⟩))))))))
      | exact wpAny_bind (wpAny_bind (wpAny_bind (wpAny_typeOf htt.typeIs (wpAny_pure (by rw [if_pos (by decide)]; exact wpAny_bind (wpAny_rule (wpAny_bind (wpAny_pure (wpAny_pure ⟨_, rfl, wpAny_pure h⟩)))))))))
end

theorem op_tup_upto {C : Cx} {s : Shared} {Ts : List VP} {a : Nat} (O : Ok C s) (h3 : Ts.length ≤ 1000) : Op2 C s getItem (.tup Ts) (.slice none (some (a : Int)) none) (VP.tup (Ts.take a)).P := fun s' E x y k hx hy => by
  obtain ⟨c, vs, n, rfl, d, e⟩ := hx
  obtain ⟨b, vl, vu, vt, rfl, sl, p1, p2, p3⟩ := hy
  cases p1; cases p2; cases p3
  have hl : Ts.length = vs.size := by simpa using e.length
  refine getItem_tuple_upto (a := a) (hid_le _ _ d) (let ⟨o, q, r⟩ := sl; ⟨o, hid_le _ _ q, r⟩) (fun h => ?_) (fun h => ?_) (by rw [sizeLine_eq]; omega)
  · exact ⟨keepsPush _ _, _, _, 0, rfl, (O.later k).push, (e.take a).mono (hid_kp fun _ _ q => Heap.get?_push_of_some _ q)⟩
  · exact ⟨keepsRefl _, c, vs, n, rfl, d, by rw [List.take_of_length_le (by omega)]; exact e⟩
theorem Ev_tup_upto {C : Cx} {s : Shared} {value e : Expr} {Ts : List VP} {a : Nat} {p pos} (O : Ok C s) (hv : Ev C s value (.tup Ts)) (hi : Ev C s e (.int a)) (h3 : Ts.length ≤ 1000) :
    Ev C s (.Subscript value (.Slice none (some e) none p) pos) (.tup (Ts.take a)) :=
  Ev_sub hv (Ev_slice O .none (.int hi) .none) tup_typeIs slot_tuple_getitem.lookup (op_tup_upto O h3) fun o i => ⟨_, rfl⟩
theorem meth_list {C : Cx} {Ts : List VP} {name : Str} {id : String} (slot : Slot "list" name id) (hty : typeOf (.builtin id) = pure (.type "method_descriptor")) : Meth C (.list Ts) name id := fun s v pl E Q h q =>
  getMethod_builtin (list_typeIs s v h) PySem.F.plainAttrs_list slot hty (fun a e => by
    obtain ⟨b, vs, n, rfl, d, _⟩ := h
    cases e
    exact ⟨_, hid_le _ _ d, rfl⟩) q

/-! numbers of paths -/
theorem peq_dec : ∀ p q : Path, peq p q = decide (p = q) := by
  intro p
  induction p with
  | nil => intro q; cases q <;> simp [peq]
  | cons a r ih =>
    intro q
    cases q with
    | nil => simp [peq]
    | cons b t =>
      rw [peq]
      by_cases h : a = b
      · subst h; rw [if_pos rfl, ih]; simp
      · rw [if_neg h]; simp [h]
section
variable (prog : Program) (w : World)
abbrev pk : HeapKind prog w Path := tupleKind (intKind prog w)
structure NumX (nm : Num) (g : Heap) (xs : List (Path × Addr × Value)) : Prop where
  fst : xs.map (·.1) = nm.map (·.1)
  key : ∀ x ∈ xs, IsTupleKey (intKind prog w) g x.1 x.2.1
  els : Els g (nm.map fun p => VP.int p.2) (xs.map (·.2.2))
def MV.num (nm : Num) : MV := ⟨fun g o => ∃ xs es ep, o.ExactDict ∧ o.data = .dict es ep ∧ es.toList = xs.map (entryOfKey (pk prog w)) ∧ (xs.map (·.1)).Nodup ∧ NumX prog w nm g xs, fun k h => by
  obtain ⟨xs, es, ep, h1, h2, h3, h4, h5⟩ := h
  exact ⟨xs, es, ep, h1, h2, h3, h4, h5.fst, fun x m => key_mono (h5.key x m) k, h5.els.mono k⟩⟩
def VP.num (nm : Num) : VP := ⟨fun g v => ∃ a o, v = .ref a ∧ g.get? a = some o ∧ (MV.num prog w nm).P g o ∧ (a == sysModules) = false, fun k h => by
  obtain ⟨a, o, e, h1, h2, h3⟩ := h
  exact ⟨a, o, e, k _ _ h1, (MV.num prog w nm).mono k h2, h3⟩⟩
end
section
variable {prog : Program} {w : World}
theorem lookP_at {p : Path} : ∀ {nm : Num} {xs : List (Path × Addr × Value)} {g : Heap}, xs.map (·.1) = nm.map (·.1) → Els g (nm.map fun p => VP.int p.2) (xs.map (·.2.2)) →
    match lookP p nm with | none => atKey xs p = none | some n => ∃ b v, atKey xs p = some (b, v) ∧ (VP.int n).P g v := by
  intro nm
  induction nm with
  | nil => intro xs g h _; cases xs with | nil => rfl | cons _ _ => cases h
  | cons q r ih =>
    intro xs g h e
    obtain ⟨a, n⟩ := q
    cases xs with
    | nil => cases h
    | cons x t =>
      obtain ⟨a', b, v⟩ := x
      simp only [List.map_cons, List.cons.injEq] at h e
      obtain ⟨rfl, h⟩ := h
      cases e with
      | cons hv e =>
        rw [lookP, peq_dec]
        by_cases ha : a' = p
        · rw [if_pos (by simpa using ha)]
          exact ⟨b, v, by unfold atKey; rw [List.find?_cons, show decide (a' = p) = true from decide_eq_true ha]; rfl, hv⟩
        · rw [if_neg (by simpa using ha)]
          have := ih h e
          have ea : atKey ((a', b, v) :: t) p = atKey t p := by
            unfold atKey; rw [List.find?_cons, show decide (a' = p) = false from decide_eq_false ha]
          rw [ea]; exact this
def putH (k : Path) (a : Addr) (v : Value) : List (Path × Addr × Value) → List (Path × Addr × Value)
  | [] => [(k, a, v)]
  | (j, b, u) :: r => if j = k then (j, b, v) :: r else (j, b, u) :: putH k a v r
theorem putAt_id {k : Path} {v : Value} : ∀ {xs : List (Path × Addr × Value)}, k ∉ xs.map (·.1) → xs.map (putAt k v) = xs := by
  intro xs
  induction xs with
  | nil => intro _; rfl
  | cons x r ih =>
    intro h
    simp only [List.map_cons, List.mem_cons, not_or] at h
    rw [List.map_cons, ih h.2, putAt, if_neg (Ne.symm h.1)]
theorem storedH_put {k : Path} {a : Addr} {v : Value} : ∀ {xs : List (Path × Addr × Value)}, (xs.map (·.1)).Nodup → storedH xs k a v = putH k a v xs := by
  intro xs
  induction xs with
  | nil => intro _; rfl
  | cons x r ih =>
    intro hn
    obtain ⟨j, b, u⟩ := x
    rw [List.map_cons, List.nodup_cons] at hn
    rw [putH]
    by_cases e : j = k
    · subst e
      have ea : (atKey ((j, b, u) :: r) j).isSome = true := by unfold atKey; rw [List.find?_cons, show decide (j = j) = true from decide_eq_true rfl]; rfl
      rw [if_pos rfl, storedH, if_pos ea, List.map_cons, putAt_id hn.1, putAt, if_pos rfl]
    · have ea : atKey ((j, b, u) :: r) k = atKey r k := by unfold atKey; rw [List.find?_cons, show decide (j = k) = false from decide_eq_false e]
      rw [if_neg e, ← ih hn.2, storedH, storedH, ea]
      split
      · rw [List.map_cons, putAt, if_neg e]
      · rfl
theorem putH_keys {k : Path} {a : Addr} {v : Value} {g : Heap} {n : Int} (hv : (VP.int n).P g v) (ha : IsTupleKey (intKind prog w) g k a) : ∀ {nm : Num} {xs : List (Path × Addr × Value)}, NumX prog w nm g xs → NumX prog w (putP k n nm) g (putH k a v xs) := by
  intro nm
  induction nm with
  | nil =>
    intro xs h
    cases xs with
    | nil => exact ⟨rfl, fun x m => by rw [List.mem_singleton.mp m]; exact ha, .cons hv .nil⟩
    | cons _ _ => cases h.fst
  | cons q r ih =>
    intro xs h
    obtain ⟨p, i⟩ := q
    cases xs with
    | nil => cases h.fst
    | cons x t =>
      obtain ⟨p', b, u⟩ := x
      have h1 := h.fst
      have h3 := h.els
      simp only [List.map_cons, List.cons.injEq] at h1 h3
      obtain ⟨rfl, h1⟩ := h1
      cases h3 with
      | cons hu h3 =>
        have ht : NumX prog w r g t := ⟨h1, fun x m => h.key x (.tail _ m), h3⟩
        rw [putP, putH, peq_dec]
        by_cases e : p' = k
        · rw [if_pos (by simpa using e), if_pos e]
          refine ⟨by simp [h1], fun x m => ?_, .cons hv h3⟩
          rcases List.mem_cons.mp m with rfl | m
          · exact h.key (p', b, u) (.head _)
          · exact ht.key x m
        · rw [if_neg (by simpa using e), if_neg e]
          have := ih ht
          refine ⟨by simp [this.fst], fun x m => ?_, .cons hu this.els⟩
          rcases List.mem_cons.mp m with rfl | m
          · exact h.key _ (.head _)
          · exact this.key x m
theorem num_dictOf {nm : Num} {g h : Heap} {a : Addr} {o : Obj} (k : Kp g h) (e : h.get? a = some o) (hV : (MV.num prog w nm).P g o) : ∃ xs, h.DictOfH (pk prog w) a xs ∧ NumX prog w nm g xs := by
  obtain ⟨xs, es, ep, h1, h2, h3, h4, h5⟩ := hV
  exact ⟨xs, ⟨o, es, ep, e, h1, h2, h3, fun x m => key_mono (h5.key x m) k, h4⟩, h5⟩
end
theorem num_typeIs {C : Cx} {nm : Num} (s : Shared) (v : Value) (h : (VP.num C.prog C.w nm).P (C.v s) v) : s.TypeIs v "dict" := by
  obtain ⟨a, o, rfl, e, hV, _⟩ := h
  obtain ⟨xs, hd, _⟩ := num_dictOf hid_le (hid_le _ _ e) hV
  exact hd.typeIs
theorem op_notin_num {C : Cx} {s : Shared} {nm : Num} {p : Path} (O : Ok C s) : Op2 C s (compareOp .NotIn) (pathV p) (VP.num C.prog C.w nm) (VP.bool (lookP p nm).isNone).P := fun s' E x y k hx hy => by
  obtain ⟨a, o, rfl, e, hV, l⟩ := hy
  obtain ⟨xs, hd, hN⟩ := num_dictOf hid_le (hid_le _ _ e) hV
  obtain ⟨b, rfl, kb⟩ := path_key C.prog C.w ((pathV p).mono hid_le hx)
  refine wpAny_notIn_heap (knd := pk C.prog C.w) (k := p) O.u1 kb l hd ⟨keepsToks _ _, ?_⟩
  have := lookP_at (p := p) hN.fst hN.els
  show Value.bool _ = Value.bool _
  cases h : lookP p nm with
  | none => rw [h] at this; rw [show atKey xs p = none from this]; rfl
  | some n => rw [h] at this; obtain ⟨b, v, e, _⟩ := this; rw [e]; rfl
theorem op_item_num {C : Cx} {s : Shared} {nm : Num} {p : Path} {n : Int} (O : Ok C s) (h : lookP p nm = some n) : Op2 C s getItem (VP.num C.prog C.w nm) (pathV p) (VP.int n).P := fun s' E x y k hx hy => by
  obtain ⟨a, o, rfl, e, hV, l⟩ := hx
  obtain ⟨xs, hd, hN⟩ := num_dictOf hid_le (hid_le _ _ e) hV
  obtain ⟨b, rfl, kb⟩ := path_key C.prog C.w ((pathV p).mono hid_le hy)
  have := lookP_at (p := p) hN.fst hN.els
  rw [h] at this
  obtain ⟨b', v, e', hv⟩ := this
  exact wpAny_getItem_heap (knd := pk C.prog C.w) (k := p) (p := (b', v)) O.u1 kb hd e' ⟨keepsToks _ _, hv⟩
theorem Ev_item_num {C : Cx} {s : Shared} {value slice : Expr} {nm : Num} {p : Path} {n : Int} {pos} (O : Ok C s) (hv : Ev C s value (VP.num C.prog C.w nm)) (hi : Ev C s slice (pathV p)) (h : lookP p nm = some n)
    (hs : ∀ o i, ∃ ops, subscripted slice false o i = operate ops (getItem o i) := by intro o i; exact ⟨_, rfl⟩) : Ev C s (.Subscript value slice pos) (.int n) :=
  Ev_sub hv hi num_typeIs slot_dict_getitem.lookup (op_item_num O h) hs
section
variable {C : Cx} {s₀ s s' : Shared} {H₀ : List Addr} {k : Nat} {ρ ρ' ρ'' : Rho} {μ μ' : Mu}
/-- found[e] = v, by a path -/
theorem own_setN (B : Bd C s₀ H₀ k s ρ μ) {a : Addr} {x : Str} {e ev : Expr} {key : Path} {n : Int} {nm : Num} {px sp pos : Pos} {Q : Flow → Shared → Prop} {E : Value → Shared → Prop} (hx : (x, VP.ex (.ref a)) ∈ ρ) (ha : (a, MV.num C.prog C.w nm) ∈ μ) (hv : Ev C s ev (.int n)) (he : Ev C s e (pathV key)) (hsz : nm.length ≤ 1000)
    (hμ : ∀ p ∈ μ', p.1 ≠ a ∧ p ∈ μ) (q : ∀ s', Bd C s₀ H₀ k s' ρ ((a, MV.num C.prog C.w (putP key n nm)) :: μ') → Q .next s')
    (hs : swapsWith ev (some (.Subscript (.Name x px) e sp)) pos.line C.env = pure false := by rfl) (hd : (x == ("__debug__" : Str)) = false := by decide +kernel) : wpAny C.M C.A (exec (.Assign [.Subscript (.Name x px) e sp] ev pos) C.env) Q E s := by
  refine wpAny_Assign_Subscript (hv.use (keepsRefl _) fun v s₁ k₁ hv => ((B.later k₁).ev hx hd).use (keepsRefl _) fun d s₂ k₂ hd => (he.later (keepsTrans k₁ k₂)).use (keepsRefl _) fun i s₃ k₃ hi => ?_) hs
  have hd : d = .ref a := hd
  subst hd
  have B₃ := (B.later k₁).later (keepsTrans k₂ k₃)
  obtain ⟨hO, o, eo, hV⟩ := B₃.own a _ ha
  obtain ⟨b, rfl, kb⟩ := path_key C.prog C.w hi
  obtain ⟨xs, hD, hN⟩ := num_dictOf hid_le eo hV
  have hl : xs.length = nm.length := by simpa using congrArg List.length hN.fst
  have hn' : (xs.map (·.1)).Nodup := by obtain ⟨_, _, _, _, _, _, _, _, h⟩ := hD; exact h
  refine wpAny_setItem_heap (knd := pk C.prog C.w) (k := key) B₃.ok.u1 (key_mono kb hid_le) hD (fun h' hd' hs' => ?_) (by rw [hl, sizeLine_eq]; omega)
  rw [storedH_put hn'] at hd'
  obtain ⟨o', es', ep', e', d1, d2, d3, d4, d5⟩ := hd'
  have hb : But a s₃ { s₃ with heap := h', toks := s₃.toks + (pk C.prog C.w).draws key } := ⟨h', _, rfl, hs'.extBut⟩
  have kp := hid_but hb.ext hO.hid
  refine q _ ((B₃.but hb hO ⟨_, e'⟩ hμ).addM ⟨hO, o', e', _, es', ep', d1, d2, d3, d5, ?_⟩)
  exact putH_keys ((VP.int n).mono kp ((VP.int n).mono (keepsV (keepsTrans k₂ k₃)) hv)) (key_mono kb kp) ⟨hN.fst, fun x m => key_mono (hN.key x m) kp, hN.els.mono kp⟩
theorem Bd.freeN {a : Addr} {nm : Num} {x : Str} {s₁ : Shared} {ρ₁ : Rho} {μ₁ : Mu} (B₀ : Bd C s₀ H₀ k s₁ ρ₁ μ₁) (B : Bd { C with H := a :: C.H } s₀ H₀ k s ρ μ) (ha : a ∉ C.H) (hl : (a == sysModules) = false) (hm : (a, MV.num C.prog C.w nm) ∈ μ) (hx : (x, VP.ex (.ref a)) ∈ ρ) (hμ : ∀ p ∈ μ', p ∈ μ ∧ p.1 ∈ C.H) :
    Bd C s₀ H₀ k s ((x, VP.num C.prog C.w nm) :: ρ) μ' := by
  obtain ⟨hO, o, e, hV⟩ := B.own a _ hm
  refine (Bd.show0 B₀ B ha hO.new hμ).add ?_
  obtain ⟨v, h1, h2⟩ := B.vars x _ hx
  have h2 : v = .ref a := h2
  subst h2
  exact ⟨_, h1, a, o, rfl, hideAll_get _ e ha, (MV.num C.prog C.w nm).mono kp_show hV, hl⟩

/-- with one's own thing shown -/
abbrev Cx.but (C : Cx) (a : Addr) : Cx := { C with H := C.H.filter fun b => b != a }
theorem mem_but {a b : Addr} : b ∈ (C.but a).H ↔ b ∈ C.H ∧ b ≠ a := by
  show b ∈ C.H.filter _ ↔ _
  rw [List.mem_filter]; simp
theorem Bd.shown (B : Bd C s₀ H₀ k s ρ μ) {a : Addr} {V : MV} (hm : (a, V) ∈ μ) (ha : a ∉ H₀) {x : Str} {T : VP} (hx : (x, VP.ex (.ref a)) ∈ ρ)
    (hT : ∀ o, ((C.but a).v s).get? a = some o → V.P ((C.but a).v s) o → T.P ((C.but a).v s) (.ref a)) : Bd (C.but a) s₀ H₀ k s ((x, T) :: ρ) [] := by
  obtain ⟨hO, o, e, hV⟩ := B.own a V hm
  have kp : Kp (C.v s) ((C.but a).v s) := hid_sub fun b m => (mem_but.mp m).1
  have B' : Bd (C.but a) s₀ H₀ k s ρ [] := { B with
    low := fun b m => B.low b (mem_but.mp m).1
    wf := { B.wf with loc := mem_but.mpr ⟨B.wf.loc, fun q => hO.off.1 q.symm⟩, cell := fun n c l => let ⟨h1, h2, h3⟩ := B.wf.cell n c l; ⟨h1, mem_but.mpr ⟨h2, fun q => hO.off.2 n c l q.symm⟩, h3⟩ }
    sub := fun b m => mem_but.mpr ⟨B.sub b m, fun q => ha (q ▸ m)⟩
    vars := fun y U m => let ⟨v, h1, h2⟩ := B.vars y U m; ⟨v, h1, U.mono kp h2⟩
    own := fun b W m => nomatch m }
  refine B'.add ?_
  obtain ⟨v, h1, h2⟩ := B.vars x _ hx
  have h2 : v = .ref a := h2
  subst h2
  exact ⟨_, h1, hT o (hideAll_get _ e fun m => (mem_but.mp m).2 rfl) (V.mono kp hV)⟩
theorem Bd.shownL (B : Bd C s₀ H₀ k s ρ μ) {a : Addr} {Ts : List VP} (hm : (a, MV.list Ts) ∈ μ) (ha : a ∉ H₀) {x : Str} (hx : (x, VP.ex (.ref a)) ∈ ρ) : Bd (C.but a) s₀ H₀ k s ((x, .list Ts) :: ρ) [] :=
  B.shown hm ha hx fun o e hV => by obtain ⟨vs, n, rfl, hE⟩ := hV; exact ⟨a, vs, n, rfl, e, hE⟩
theorem Bd.shownN (B : Bd C s₀ H₀ k s ρ μ) {a : Addr} {nm : Num} (hm : (a, MV.num C.prog C.w nm) ∈ μ) (ha : a ∉ H₀) (hl : (a == sysModules) = false) {x : Str} (hx : (x, VP.ex (.ref a)) ∈ ρ) : Bd (C.but a) s₀ H₀ k s ((x, .num C.prog C.w nm) :: ρ) [] :=
  B.shown hm ha hx fun o e hV => ⟨a, o, rfl, e, hV, hl⟩
end

section
variable {C : Cx} {s₀ s s' : Shared} {H₀ : List Addr} {k : Nat} {ρ ρ' ρ'' : Rho} {μ μ' μ₁ : Mu} {ds sc : Scope}

/-- a comprehension, run with something shown that is hidden at the store -/
theorem comp_store' (H₁ : List Addr) (B : Bd C s₀ H₀ k s ρ μ) {ρ₁ : Rho} (B₁ : Bd { C with H := H₁ } s₀ H₀ k s ρ₁ μ₁) {n : Nat} (hs : C.env.scope = ds) (hc : C.env.cells = cellsFrom n ds.names []) (O : CompOk sc ds) {elt target iter : Expr} {ifs : List Expr} {pos : Pos} {T : VP} {Ts : List VP} (h : Ev { C with H := H₁ } s iter T) (hi : Iterates { C with H := H₁ } T Ts)
    (fs : List (Option VP)) (hlen : fs.length = Ts.length) (hsz : Ts.length ≤ 1000) (ρ' : Rho) (hρ : ∀ p ∈ ρ', p ∈ ρ₁ ∧ ((relabelD sc ds).names.lookup p.1 == some .cell) = true) (hlg : LetsGo target)
    (step : ∀ (K : Addr) (H' : List Addr) (g' : Heap) (s' : Shared) (i : Nat) (U : VP) (r : Option VP) (v : Value) (E' : Value → Shared → Prop), Ts[i]? = some U → fs[i]? = some r → U.P (hid H' s'.heap) v → Bd { C with env := cenv sc K C.env, H := H', g := g' } s₀ H₀ k s' ρ' [] →
      wpAny C.M C.A (assign target (cenv sc K C.env) v) (fun _ s₂ => Turn { C with env := cenv sc K C.env, H := H', g := g' } s₀ H₀ k s₂ ifs elt r) E' s')
    {x : Str} {px spos : Pos} {ρ₂ : Rho} {Q : Flow → Shared → Prop} {E : Value → Shared → Prop}
    (hx : (ds.kind == .function && ds.names.lookup x == some .local && px.line == pos.line && !(sc.names.any fun (n, k) => n == x && (k == .local || k == .cell))) = true)
    (hre : ∀ D K s', Keeps s s' → s.heap.get? K = none → (VP.list (fs.filterMap id)).P (hid (K :: H₁) s'.heap) (.ref D) → (VP.list (fs.filterMap id)).P (hid (K :: C.H) s'.heap) (.ref D))
    (hρ₂ : ∀ p ∈ ρ₂, p.1 ≠ x ∧ p ∈ ρ) (q : ∀ s', Bd C s₀ H₀ k s' ((x, .list (fs.filterMap id)) :: ρ₂) μ → Q .next s')
    (hf : ∀ x, foldedSetIterable iter C.env x = pure x := by intro _; rfl) : wpAny C.M C.A (exec (.Assign [.Name x px] (.ListComp elt [⟨target, iter, ifs, 0⟩] sc pos) spos) C.env) Q E s := by
  rw [exec_Assign_Name_used _ _ _ _ (swaps_used hs hx)]
  refine wpAny_bind (wpAny_standAt (wpAny_bind ?_))
  show wpAny _ _ (do let _ ← comprehension (.ListComp elt [⟨target, iter, ifs, 0⟩] sc pos) sc C.env (firstIterPos [⟨target, iter, ifs, 0⟩] pos) (newList []) (firstAsync [⟨target, iter, ifs, 0⟩]) (firstIter [⟨target, iter, ifs, 0⟩] C.env) (some (assign (.Name x px) C.env))) _ _ s
  have hlx : C.env.kindOf x = some .local := by
    simp only [Bool.and_eq_true, beq_iff_eq] at hx
    show C.env.scope.names.lookup x = _
    rw [hs]; exact hx.1.1.2
  have hcH : ∀ x c, C.env.cells.lookup x = some c → c ∈ C.H := fun x c e => (B.wf.cell x c e).2.1
  refine wpAny_bind (wpAny_mono (comp_core (C := { C with H := H₁ }) B₁ hs hc O h hi fs hlen hsz ρ' hρ hlg step (use := some (assign (.Name x px) C.env)) (Qc := fun _ s' => Q .next s') (E := E) (fun D K s' ks n ne hns hl => ?_) hf) (fun _ s' hq => wpAny_pure (wpAny_pure hq)) fun _ _ e => e)
  have hl := hre D K s' ks n hl
  obtain ⟨m, hm⟩ := hns
  obtain ⟨oK, hoK⟩ : ∃ o, s'.heap.get? K = some o := by obtain ⟨o, _, _, e, _⟩ := hm; exact ⟨o, e⟩
  have hKH : K ∉ C.H := fun m => by obtain ⟨o, e⟩ := B.low K m; rw [e] at n; cases n
  have hμK : ∀ p ∈ μ, p.1 ∈ C.H := fun p m => (B.own p.1 p.2 m).1.hid
  obtain ⟨B₁, hOK⟩ := B.hide ks n ⟨oK, hoK⟩
  have B₂ := B₁.addM (a := K) (V := .is oK) ⟨hOK, oK, hoK, rfl⟩
  refine wpAny_assign_Name (Bd.storeL (C := { C with H := K :: C.H }) B₂ (T := .list (fs.filterMap id)) hlx hl hρ₂ fun s₃ B₃ => ?_)
  obtain ⟨_, o, h1, h2⟩ := B₃.own K (.is oK) (.head _)
  have h2 : o = oK := h2
  subst h2
  refine ⟨m, Heap.Ns.at' hm fun o e => by rw [hoK] at e; cases e; exact h1, fun h' hs' => q _ ?_⟩
  exact (B₃.lessM fun p m => .tail _ m).show ⟨h', s₃.toks, rfl, hs'.extBut⟩ hKH hμK B.sub (new_of_keep B.keep n) ⟨B.wf.loc, hcH⟩

theorem rehide_ints {H H' : List Addr} {h : Heap} : ∀ {l : List Int} {vs : List Value}, Els (hid H h) (l.map VP.int) vs → Els (hid H' h) (l.map VP.int) vs := by
  intro l
  induction l with
  | nil => intro vs p; cases p; exact .nil
  | cons n r ih => intro vs p; rw [List.map_cons] at p; cases p with | cons a t => exact .cons a (ih t)
theorem rehide_get {H H' : List Addr} {h : Heap} {b : Addr} {o : Obj} (hH : ∀ c ∈ H', c ∉ H → ∀ o, h.get? c = some o → o.cls = .type "dict") (e : (hid H h).get? b = some o) (hc : o.cls ≠ .type "dict") : (hid H' h).get? b = some o :=
  hideAll_get _ (hid_le _ _ e) fun m => hc (hH b m (hid_not e) o (hid_le _ _ e))
theorem rehide_path {H H' : List Addr} {h : Heap} (hH : ∀ c ∈ H', c ∉ H → ∀ o, h.get? c = some o → o.cls = .type "dict") {p : Path} {v : Value} (x : (pathV p).P (hid H h) v) : (pathV p).P (hid H' h) v := by
  obtain ⟨a, vs, n, rfl, d, e⟩ := x
  exact ⟨a, vs, n, rfl, rehide_get hH d (by simp), rehide_ints e⟩
theorem rehide_paths {H H' : List Addr} {h : Heap} (hH : ∀ c ∈ H', c ∉ H → ∀ o, h.get? c = some o → o.cls = .type "dict") : ∀ {l : List Path} {vs : List Value}, Els (hid H h) (l.map pathV) vs → Els (hid H' h) (l.map pathV) vs := by
  intro l
  induction l with
  | nil => intro vs p; cases p; exact .nil
  | cons n r ih => intro vs p; rw [List.map_cons] at p; cases p with | cons a t => exact .cons (rehide_path hH a) (ih t)
theorem rehide_listP {H H' : List Addr} {h : Heap} (hH : ∀ c ∈ H', c ∉ H → ∀ o, h.get? c = some o → o.cls = .type "dict") {l : List Path} {v : Value} (x : (VP.list (l.map pathV)).P (hid H h) v) : (VP.list (l.map pathV)).P (hid H' h) v := by
  obtain ⟨a, vs, n, rfl, d, e⟩ := x
  exact ⟨a, vs, n, rfl, rehide_get hH d (by simp), rehide_paths hH e⟩
theorem rehide_listI {H H' : List Addr} {h : Heap} (hH : ∀ c ∈ H', c ∉ H → ∀ o, h.get? c = some o → o.cls = .type "dict") {l : List Int} {v : Value} (x : (VP.list (l.map VP.int)).P (hid H h) v) : (VP.list (l.map VP.int)).P (hid H' h) v := by
  obtain ⟨a, vs, n, rfl, d, e⟩ := x
  exact ⟨a, vs, n, rfl, rehide_get hH d (by simp), rehide_ints e⟩

/-- x, y = (e1, e2), e1 new -/
theorem store_pair_own (B : Bd C s₀ H₀ k s ρ μ) {e1 e2 : Expr} {V : MV} {U : VP} {x y : Str} {px py tp pos vp : Pos} {kx vx} {Q : Flow → Shared → Prop} {E : Value → Shared → Prop} (h1 : EvF C s e1 V)
    (h2 : ∀ a s₁, Bd { C with H := a :: C.H } s₀ H₀ k s₁ ρ ((a, V) :: μ) → Ev { C with H := a :: C.H } s₁ e2 U) (hx : Pl C x) (hy : Pl C y)
    (hρ : ∀ p ∈ ρ', p.1 ≠ x ∧ p ∈ ρ)
    (q : ∀ a s', (a == sysModules) = false → a ∉ C.H → Bd { C with H := a :: C.H } s₀ H₀ k s' ((y, U) :: (x, VP.ex (.ref a)) :: ρ') ((a, V) :: μ) → Q .next s')
    (hyx : x ≠ y) (hρy : ∀ p ∈ ρ', p.1 ≠ y)
    (hs : swapsWithSole [.Tuple [.Name x px, .Name y py] kx tp] (.Tuple [e1, e2] vx vp) pos.line C.env = pure false) (hw : swappedStores [.Tuple [.Name x px, .Name y py] kx tp] (.Tuple [e1, e2] vx vp) C.env = pure none)
    (he1 : starEach [e1, e2] C.env = (false, eval e1 C.env) :: starEach [e2] C.env := by rfl) (he2 : starEach [e2] C.env = (false, eval e2 C.env) :: starEach [] C.env := by rfl) :
    wpAny C.M C.A (exec (.Assign [.Tuple [.Name x px, .Name y py] kx tp] (.Tuple [e1, e2] vx vp) pos) C.env) Q E s := by
  refine wpAny_Assign_stores (wpAny_Tuple (wpAny_items_cons (wpAny_mono (h1 s E (keepsRefl _)) (fun v s₁ hv => ?_) fun _ _ e => e) he1)) hs hw
  obtain ⟨k₁, a, o, rfl, n, hm, l, hV⟩ := hv
  obtain ⟨ha, B₁⟩ := B.made (keepsRefl _) k₁ n l hV
  refine wpAny_items_cons ((h2 a s₁ B₁).use (keepsRefl _) fun v₂ s₂ k₂ hv₂ => wpAny_items_nil ⟨by rw [sizeLine_eq, List.length_cons, List.length_cons, List.length_nil]; omega, ?_⟩) he2
  show wpAny _ _ (assign (.Tuple [.Name x px, .Name y py] kx tp) C.env _) _ _ _
  have hpl : ∀ z, Pl C z → Pl { C with H := a :: C.H } z := fun z h => h
  have B₂ := B₁.later (k := k) (keepsTrans k₂ (keepsPush s₂ { cls := .type "tuple", data := .seq #[.ref a, v₂] }))
  refine assign_pair (C := { C with H := a :: C.H }) (T := VP.ex (.ref a)) (U := U) B₂ ⟨_, _, 0, rfl, (B₁.later k₂).ok.push, .cons rfl (.cons (U.mono (hid_kp fun _ _ e => Heap.get?_push_of_some _ e) hv₂) .nil)⟩ (hpl x hx) (hpl y hy) hρ (ρ'' := (x, VP.ex (.ref a)) :: ρ') (fun p hp => ?_) fun s₃ B₃ => q a s₃ hm ha B₃
  rcases List.mem_cons.mp hp with rfl | hp
  · exact ⟨hyx, .head _⟩
  · exact ⟨hρy p hp, .tail _ hp⟩
end


theorem idxOf_spec {p : Path} : ∀ {ps : List Path} {j : Nat}, idxOf p ps = some j → ps[j]? = some p ∧ ∀ i, i < j → ps[i]? ≠ some p := by
  intro ps
  induction ps with
  | nil => intro j h; cases h
  | cons q r ih =>
    intro j h
    rw [idxOf, peq_eq] at h
    by_cases e : q = p
    · rw [if_pos (by simpa using e)] at h
      cases h
      exact ⟨by rw [e]; rfl, fun i hi => by omega⟩
    · rw [if_neg (by simpa using e)] at h
      cases hr : idxOf p r with
      | none => rw [hr] at h; cases h
      | some i =>
        rw [hr] at h; cases h
        obtain ⟨h1, h2⟩ := ih hr
        refine ⟨h1, fun i' hi' => ?_⟩
        cases i' with
        | zero => exact fun h => e (Option.some.inj h)
        | succ i' => exact h2 i' (by omega)

theorem place_of_ok {prog : Program} {w : World} {mg mb : Str → Option Value} {k : Nat} (pb : Prob) (p : Path) (j : Nat) (h : placeOf pb p = some j) (hl : Pb pb) :
    FOk prog w mg mb (defAt 12) (k + 1) [probV prog w pb, pathV p] (.int j) := by
  refine enter [("problem", probV prog w pb), ("path", pathV p)] ["problem", "path"] (mem_defs (by decide)) rfl rfl (fun pm code doc vs h => ?_) (by decide +kernel) (by decide +kernel) ⟨by decide +kernel, by decide +kernel, by decide +kernel⟩ fun C s₀ H₀ s hp hw hg hb hs hc hn B => ?_
  · match vs, h with
    | [a, b], _ => rfl
  · subst hp hw hg hb
    cases p with
    | nil => cases h
    | cons a r =>
      have h : (match look a pb with | none => none | some ps => idxOf (a :: r) ps) = some j := h
      cases hps : look a pb with
      | none => rw [hps] at h; cases h
      | some ps =>
        rw [hps] at h
        obtain ⟨h1, h2⟩ := idxOf_spec h
        have hsz := (hl.p _ (look_mem hps)).1
        have hsz : ps.length ≤ 60 := hsz
        refine wpAny_ret B (Ev_meth (meth_list PySem.F.slot_list_index PySem.F.type_list_index) (Ev_callT (id := "list") (U := .list (ps.map pathV)) B.ok (by decide +kernel) (kind_of hs (by decide +kernel)) (.cons (Ev_item_dict (kvs := pb.map fun p => (p.1, .tup (p.2.map pathV))) (B.ev (by k_mem)) (Ev_item_tup (k := 0) (B.ev (by k_mem) : Ev C s _ (pathV (a :: r))) Ev_int rfl (by decide)) (by rw [look_map fun l : List Path => VP.tup (l.map pathV), hps]; rfl)) .nil) (op_list_tup B.ok (by rw [List.length_map]; omega)))
          (.cons (B.ev (by k_mem)) .nil) (op_index fam_path B.ok h1 h2 (by omega)))

/-! the ends of a path -/
def okEnd (pb : Prob) : Path → Bool
  | [] => false
  | a :: r => (match look a pb with | none => [] | some ps => ps).any fun q => decide (q = a :: r)
def endsUpTo (p : Path) (n : Nat) : List Path := (List.range n).map fun i => p.drop (i + 1)
def restsL (pb : Prob) (p : Path) : List Path := (endsUpTo p (p.length - 2)).filter (okEnd pb)
theorem endsUpTo_succ (p : Path) (n : Nat) : endsUpTo p (n + 1) = endsUpTo p n ++ [p.drop (n + 1)] := by
  unfold endsUpTo; rw [List.range_succ, List.map_append]; rfl

theorem rests_of_ok {prog : Program} {w : World} {mg mb : Str → Option Value} {k : Nat} (pb : Prob) (p : Path) (hp0 : 2 ≤ p.length) (hpl : p.length ≤ 60) (hl : Pb pb) :
    FOk prog w mg mb (defAt 14) (k + 1) [probV prog w pb, pathV p] (.list ((restsL pb p).map pathV)) := by
  refine enter [("problem", probV prog w pb), ("path", pathV p)] ["problem", "path"] (mem_defs (by decide)) rfl rfl (fun pm code doc vs h => ?_) (by decide +kernel) (by decide +kernel) ⟨by decide +kernel, by decide +kernel, by decide +kernel⟩ fun C s₀ H₀ s hp hw hg hb hs hc hn B => ?_
  · match vs, h with
    | [a, b], _ => rfl
  · subst hp hw hg hb
    refine wpAny_seq (own_storeL B (EvF_list B.ok .nil) (kind_of hs (by decide +kernel)) (ρ' := [("problem", probV C.prog C.w pb), ("path", pathV p)]) (by k_all) fun a s₁ hm ha B₁ => ?_)
    let C' : Cx := { C with H := a :: C.H }
    have hlen : (p.map VP.int).length = p.length := List.length_map _
    have hcast : (p.length : Int) - 1 = ((p.length - 1 : Nat) : Int) := by omega
    refine wpAny_seq (for_ (C := C') B₁ (T := .range 1 ((p.length : Int) - 1)) (Ts := (rangeL 1 ((p.length : Int) - 1)).map VP.int) (Ev_callT (id := "range") B₁.ok (by decide +kernel) (kind_of hs (by decide +kernel)) (.cons Ev_int (.cons (Ev_bin (T := .int (p.length : Int)) (Ev_callB (id := "len") B₁.ok (by decide +kernel) (kind_of hs (by decide +kernel)) (.cons (B₁.ev (by k_mem)) .nil) (by have := op_len_tup (C := C') (s := s₁) (Ts := p.map VP.int) B₁.ok (by omega); rw [hlen] at this; exact this)) Ev_int op_sub_int) .nil)) (op_range B₁.ok)) (iter_range (by omega))
      (fun i => True) (fun i => [("found", VP.ex (.ref a)), ("problem", probV C.prog C.w pb), ("path", pathV p)]) (fun i => [(a, MV.list (((endsUpTo p i).filter (okEnd pb)).map pathV))]) trivial (fun p m => m) (fun p m => m) (fun H' g' s' i U v E' _ hJ hU hv B' => ?_) fun s' hJ B' => ?_)
    · obtain ⟨n, hn, rfl⟩ := map_at hU
      have hi : i < p.length - 2 := by
        have := (List.getElem?_eq_some_iff.mp hn).1
        rw [rangeL_len] at this; omega
      have en : n = ((i + 1 : Nat) : Int) := by
        rw [rangeL_at (by omega)] at hn
        have := Option.some.inj hn
        omega
      subst en
      refine assign_name (Bd.storeL (C := { C with H := H', g := g' }) (ρ' := [("found", VP.ex (.ref a)), ("problem", probV C.prog C.w pb), ("path", pathV p)]) B' (x := "at") (kind_of hs (by decide +kernel)) hv (by k_all) fun s₂ B₂ => ?_)
      obtain ⟨c, r, hcr⟩ : ∃ c r, p.drop (i + 1) = c :: r := by
        cases e : p.drop (i + 1) with
        | nil => have := congrArg List.length e; simp at this; omega
        | cons c r => exact ⟨c, r, rfl⟩
      have hc' : p[i + 1]? = some c := by
        have := List.getElem?_drop (xs := p) (i := i + 1) (j := 0)
        rw [hcr] at this; simpa using this.symm
      have hT : ∀ (C'' : Cx) (s₂ : Shared), Ok C'' s₂ → Ev C'' s₂ (.Name "path" ⟨0,0,0,0⟩) (pathV p) → True := fun _ _ _ _ => trivial
      have edrop : pathV (c :: r) = .tup ((p.map VP.int).drop (i + 1)) := by rw [← hcr]; unfold pathV; rw [List.map_drop]
      have hsl : ∀ s₃, Bd { C with H := H', g := g' } s₀ H₀ k s₃ [("at", VP.int ((i + 1 : Nat) : Int)), ("found", VP.ex (.ref a)), ("problem", probV C.prog C.w pb), ("path", pathV p)] [(a, MV.list (((endsUpTo p i).filter (okEnd pb)).map pathV))] → ∀ {q q' pos1 pos2}, Ev { C with H := H', g := g' } s₃ (.Subscript (.Name "path" q) (.Slice (some (.Name "at" q')) none none pos1) pos2) (pathV (c :: r)) := fun s₃ B₃ => fun {q q' pos1 pos2} => by
        rw [edrop]
        exact Ev_tup_from (C := { C with H := H', g := g' }) (a := i + 1) (Ts := p.map VP.int) B₃.ok (B₃.ev (by k_mem)) (B₃.ev (by k_mem)) (by omega) (by rw [hlen]; omega) (by rw [hlen]; omega)
      refine wpAny_seq (wpAny_if (C := { C with H := H', g := g' }) (b := okEnd pb (c :: r)) (Tst_cmp (hsl s₂ B₂) (Ev_meth (T := probV C.prog C.w pb) (U := .tup ((match look c pb with | none => [] | some ps => ps).map pathV)) (meth_dict PySem.F.slot_dict_get PySem.F.type_dict_get) (B₂.ev (by k_mem)) (.cons (Ev_item_tup (C := { C with H := H', g := g' }) (k := i + 1) (Ts := p.map VP.int) (T := .int c) (B₂.ev (by k_mem)) (B₂.ev (by k_mem)) (by rw [List.getElem?_map, hc']; rfl) (by omega)) (.cons (Ev_tuple B₂.ok .nil) .nil)) (op_get (T := VP.tup []) ?_)) (op_in_tup fam_path B₂.ok)) (fun s₃ k₃ e => ?_) fun s₃ k₃ e => ?_)
      · rw [look_map fun l : List Path => VP.tup (l.map pathV)]
        cases look c pb with
        | none => exact .inr ⟨rfl, rfl⟩
        | some ps => exact .inl rfl
      · have B₃ := B₂.later k₃
        have hf : ((endsUpTo p i).filter (okEnd pb)).length ≤ 60 := Nat.le_trans (List.length_filter_le _ _) (by unfold endsUpTo; rw [List.length_map, List.length_range]; omega)
        refine wpAny_seq (own_append (C := { C with H := H', g := g' }) B₃ (by k_mem) (.head _) (hsl s₃ B₃) (by rw [List.length_map]; omega) mu_nil fun s₄ B₄ => ?_)
        refine wpAny_execs_nil (wpAny_execs_nil ⟨trivial, ?_⟩)
        have ee : ((endsUpTo p i).filter (okEnd pb)).map pathV ++ [pathV (c :: r)] = ((endsUpTo p (i + 1)).filter (okEnd pb)).map pathV := by
          rw [endsUpTo_succ, List.filter_append, List.map_append, hcr, List.filter_cons, if_pos e]; rfl
        rw [ee] at B₄
        exact B₄.less (by k_upd)
      · refine wpAny_execs_nil (wpAny_execs_nil ⟨trivial, ?_⟩)
        have ee : ((endsUpTo p i).filter (okEnd pb)).map pathV = ((endsUpTo p (i + 1)).filter (okEnd pb)).map pathV := by
          rw [endsUpTo_succ, List.filter_append, List.map_append, hcr, List.filter_cons, if_neg (by rw [e]; simp)]; simp
        rw [← ee]
        exact (B₂.later k₃).less (by k_upd)
    · have en : ((rangeL 1 ((p.length : Int) - 1)).map VP.int).length = p.length - 2 := by rw [List.length_map, rangeL_len]; omega
      rw [en] at B'
      have B₃ := B.free B' ha (.head _) (x := "found") (by k_mem) mu_show_nil
      exact wpAny_ret B₃ (B₃.ev (by k_mem))


structure PbS (pb : Prob) : Prop where
  n : pb.length ≤ 8
  p : ∀ x ∈ pb, x.2.length ≤ 8 ∧ ∀ q ∈ x.2, 2 ≤ q.length ∧ q.length ≤ 8
theorem PbS.pb {pb : Prob} (h : PbS pb) : Pb pb := ⟨by have := h.n; omega, fun x m => ⟨by have := (h.p x m).1; omega, fun q mq => by have := (h.p x m).2 q mq; omega⟩⟩

abbrev rrV (r : Path × Path) : VP := .tup [pathV r.1, pathV r.2]
def rimsUpTo (pb : Prob) (ps : List Path) (n : Nat) : List (Path × Path) := ((ps.take n).map fun rim => (restsL pb rim).map fun rest => (rim, rest)).flatten
def rimsL (pb : Prob) (p : Path) : Option (List (Path × Path)) := match p with
  | [] => none
  | a :: r => match look a pb with
    | none => none
    | some ps => match idxOf (a :: r) ps with
      | none => none
      | some i => some (rimsUpTo pb ps (i + 1))
theorem restsL_len (pb : Prob) (p : Path) : (restsL pb p).length ≤ p.length - 2 := by
  unfold restsL endsUpTo
  refine Nat.le_trans (List.length_filter_le _ _) ?_
  rw [List.length_map, List.length_range]; exact Nat.le_refl _
theorem rimsUpTo_succ (pb : Prob) {ps : List Path} {n : Nat} {rim : Path} (h : ps[n]? = some rim) : rimsUpTo pb ps (n + 1) = rimsUpTo pb ps n ++ (restsL pb rim).map fun rest => (rim, rest) := by
  unfold rimsUpTo
  rw [List.take_add_one, h, Option.toList_some, List.map_append, List.flatten_append]
  simp
theorem rimsUpTo_len (pb : Prob) (ps : List Path) (hl : ∀ q ∈ ps, q.length ≤ 8) : ∀ n, (rimsUpTo pb ps n).length ≤ 6 * n := by
  intro n
  induction n with
  | zero => unfold rimsUpTo; simp
  | succ n ih =>
    cases h : ps[n]? with
    | none =>
      have : ps.take (n + 1) = ps.take n := by rw [List.take_add_one, h]; simp
      unfold rimsUpTo at ih ⊢
      rw [this]; omega
    | some rim =>
      rw [rimsUpTo_succ pb h, List.length_append, List.length_map]
      have h1 := restsL_len pb rim
      have h2 := hl rim (List.mem_of_getElem? h)
      omega

theorem cell_of {env : Env} {ds : Scope} {n : Nat} {x : Str} (hc : env.cells = cellsFrom n ds.names []) (h : (ds.names.lookup x == some .cell) = true) : (env.cells.lookup x).isSome = true := by
  obtain ⟨c, e⟩ := lookup_cells hc (x := x) (by simpa using h)
  rw [e]; rfl
theorem rims_of_ok {prog : Program} {w : World} {mg mb : Str → Option Value} {k : Nat} (pb : Prob) (p : Path) (r : List (Path × Path)) (h : rimsL pb p = some r) (hl : PbS pb) :
    FOk prog w mg mb (defAt 15) (k + 2) [probV prog w pb, pathV p] (.list (r.map rrV)) := by
  refine enter [("problem", probV prog w pb), ("spoke", pathV p)] ["problem", "spoke"] (mem_defs (by decide)) rfl rfl (fun pm code doc vs h => ?_) (by decide +kernel) (by decide +kernel) ⟨by decide +kernel, by decide +kernel, by decide +kernel⟩ fun C s₀ H₀ s hp hw hg hb hs hc hn B => ?_
  · match vs, h with
    | [a, b], _ => rfl
  · subst hp hw hg hb
    match p, h with
    | a :: t, h =>
      have h : (match look a pb with | none => none | some ps => match idxOf (a :: t) ps with | none => none | some i => some (rimsUpTo pb ps (i + 1))) = some r := h
      cases hps : look a pb with
      | none => rw [hps] at h; cases h
      | some ps =>
        rw [hps] at h
        have h : (match idxOf (a :: t) ps with | none => none | some i => some (rimsUpTo pb ps (i + 1))) = some r := h
        cases hj : idxOf (a :: t) ps with
        | none => rw [hj] at h; cases h
        | some j =>
          rw [hj] at h
          have er : r = rimsUpTo pb ps (j + 1) := (Option.some.inj h).symm
          subst er
          obtain ⟨hsz, hq⟩ := hl.p _ (look_mem hps)
          have hsz : ps.length ≤ 8 := hsz
          have hq : ∀ q ∈ ps, 2 ≤ q.length ∧ q.length ≤ 8 := hq
          have hplace : placeOf pb (a :: t) = some j := by
            show (match look a pb with | none => none | some ps => idxOf (a :: t) ps) = some j
            rw [hps]; exact hj
          have hjl : j < ps.length := (List.getElem?_eq_some_iff.mp (idxOf_spec hj).1).1
          refine wpAny_seq (own_storeL B (EvF_list B.ok .nil) (kind_of hs (by decide +kernel)) (ρ' := [("problem", probV C.prog C.w pb), ("spoke", pathV (a :: t))]) (by k_all) fun A s₁ hm ha B₁ => ?_)
          let C' : Cx := { C with H := A :: C.H }
          have hn' : CellsNew C' := hn
          refine wpAny_seq (for_ (C := C') B₁ (T := .tup ((ps.map pathV).take (j + 1))) (Ts := (ps.map pathV).take (j + 1)) (Ev_tup_upto (C := C') (a := j + 1) (Ts := ps.map pathV) B₁.ok (Ev_item_dict (kvs := pb.map fun p => (p.1, .tup (p.2.map pathV))) (B₁.ev (by k_mem)) (Ev_item_tup (k := 0) (B₁.ev (by k_mem) : Ev C' s₁ _ (pathV (a :: t))) Ev_int rfl (by decide)) (by rw [look_map fun l : List Path => VP.tup (l.map pathV), hps]; rfl))
              (Ev_bin (T := .int (j : Int)) (Ev_call (d := defAt 12) (k := k + 1) B₁.ok B₁.room (place_of_ok pb (a :: t) j hplace hl.pb) (mem_defs (by decide)) (kind_of hs (by decide +kernel)) (.cons (B₁.ev (by k_mem)) (.cons (B₁.ev (by k_mem)) .nil))) Ev_int op_add_int) (by rw [List.length_map]; omega)) iter_tup
            (fun i => True) (fun i => [("found", VP.ex (.ref A)), ("problem", probV C.prog C.w pb)]) (fun i => [(A, MV.list ((rimsUpTo pb ps i).map rrV))]) trivial (by k_upd) (fun p m => m) (fun H' g' s' i U v E' hcn hJ hU hv B' => ?_) fun s' hJ B' => ?_)
          · rw [← List.map_take] at hU
            obtain ⟨rim, hrim, rfl⟩ := map_at hU
            have hi : i < j + 1 := by have := (List.getElem?_eq_some_iff.mp hrim).1; rw [List.length_take] at this; omega
            rw [List.getElem?_take_of_lt hi] at hrim
            have hrl := hq rim (List.mem_of_getElem? hrim)
            let C₂ : Cx := { C with H := H', g := g' }
            have hlc : (C.env.cells.lookup ("rim" : Str)).isSome = true := cell_of hc (by decide +kernel)
            refine assign_name (Bd.put (C := C₂) (T := pathV rim) (ρ' := [("found", VP.ex (.ref A)), ("problem", probV C.prog C.w pb)]) B' (x := "rim") (.inr ⟨kind_of hs (by decide +kernel), hlc, hcn hn'⟩) hv (by k_all) fun s₂ _ B₂ => ?_)
            have hb1 := rimsUpTo_len pb ps (fun q m => (hq q m).2) i
            have hb2 := restsL_len pb rim
            have e1 : ((restsL pb rim).map fun rest => some (rrV (rim, rest))).filterMap id = ((restsL pb rim).map fun rest => (rim, rest)).map rrV := by
              generalize restsL pb rim = l
              induction l with
              | nil => rfl
              | cons x y ih => simp only [List.map_cons]; rw [← ih]; rfl
            refine wpAny_seq (own_extend (C := C₂) (Us := ((restsL pb rim).map fun rest => (rim, rest)).map rrV) B₂ (by k_mem) (.head _) ?_ (by rw [List.length_map, List.length_map, List.length_map]; omega) mu_nil fun s₃ B₃ => ?_)
            · rw [← e1]
              refine comp_ (C := C₂) B₂ hs hc ⟨by decide +kernel, by decide +kernel, by decide +kernel, by decide +kernel⟩ (Ev_call (C := C₂) (d := defAt 14) (k := k + 1) B₂.ok B₂.room (rests_of_ok pb rim hrl.1 (by omega) hl.pb) (mem_defs (by decide)) (kind_of hs (by decide +kernel)) (.cons (B₂.ev (by k_mem)) (.cons (B₂.ev (by k_mem)) .nil))) iter_list _ (by rw [List.length_map, List.length_map]) (by rw [List.length_map]; omega)
                [("rim", pathV rim)] ?_ letsGo_name fun K H'' g'' s' i U rr v E' hU hr hv B' => ?_
              · exact cap_cons (by k_mem) (by decide +kernel) cap_nil
              · obtain ⟨rest, hre, rfl⟩ := map_at hU
                have er := map_at2 hr hre
                subst er
                exact assign_name (Bd.storeL (C := { C with env := cenv _ K C.env, H := H'', g := g'' }) (ρ' := [("rim", pathV rim)]) B' (x := "rest") (kind_c hs (by decide +kernel)) hv (by k_all) fun s₂ B₂ => ⟨B₂.less (by k_upd), tests_nil, fun U hU => by
                  cases hU
                  exact Ev_tuple B₂.ok (.cons (B₂.ev (by k_mem)) (.cons (B₂.ev (by k_mem)) .nil))⟩)
            · refine wpAny_execs_nil ⟨trivial, ?_⟩
              rw [← List.map_append, ← rimsUpTo_succ pb hrim] at B₃
              exact B₃.less (by k_upd)
          · have en : ((ps.map pathV).take (j + 1)).length = j + 1 := by rw [List.length_take, List.length_map]; omega
            rw [en] at B'
            have B₃ := B.free B' ha (.head _) (x := "found") (by k_mem) mu_show_nil
            exact wpAny_ret B₃ (B₃.ev (by k_mem))

section
variable {prog : Program} {w : World} {A : Around} {R : Result → Shared → Prop} {s : Shared}

/-- a comprehension of two clauses -/
abbrev two (elt : Expr) (t1 i1 t2 i2 : Expr) (sc : Scope) (pos : Pos) : Expr := .ListComp elt [⟨t1, i1, [], 0⟩, ⟨t2, i2, [], 0⟩] sc pos
theorem turn_two0 (elt t1 i1 t2 i2 : Expr) (sc : Scope) (pos : Pos) (it acc : Value) (env : Env) : compTurn (two elt t1 i1 t2 i2 sc pos) 0 it acc env = (standAt i1.pos >>= fun _ => pyNext it >>= fun r => match r with
      | none => pure (.done .next)
      | some v => letOwnedTupleGo t1 it v >>= fun _ => assign t1 env v >>= fun _ =>
        eval i2 env >>= fun x => standAt i2.pos >>= fun _ => foldedSetIterable i2 env x >>= fun x => holding [x] (pyIter x) >>= fun i => runOwn (.compStart (two elt t1 i1 t2 i2 sc pos) 1 i acc env) env >>= fun _ =>
          again (.compLoop (two elt t1 i1 t2 i2 sc pos) 0 it acc env)) := by rfl
theorem turn_two1 (elt t1 i1 t2 i2 : Expr) (sc : Scope) (pos : Pos) (it acc : Value) (env : Env) : compTurn (two elt t1 i1 t2 i2 sc pos) 1 it acc env = (standAt i2.pos >>= fun _ => pyNext it >>= fun r => match r with
      | none => pure (.done .next)
      | some v => letOwnedTupleGo t2 it v >>= fun _ => assign t2 env v >>= fun _ =>
        (eval elt env >>= fun x => call (.builtin "list.append") [acc, x] >>= fun _ => pure ()) >>= fun _ =>
          again (.compLoop (two elt t1 i1 t2 i2 sc pos) 1 it acc env)) := by rfl

theorem start_two1 {elt t1 i1 t2 i2 : Expr} {sc : Scope} {pos : Pos} {it acc : Value} {env : Env}
    (h0 : codeAny (model prog w) A (.compLoop (two elt t1 i1 t2 i2 sc pos) 1 it acc env) R s)
    (h : ∀ E, wpAny (model prog w) A (pyIter it) (fun it' s' => codeAny (model prog w) A (.compLoop (two elt t1 i1 t2 i2 sc pos) 1 it' acc env) R s') E s) :
    codeAny (model prog w) A (.compStart (two elt t1 i1 t2 i2 sc pos) 1 it acc env) R s := by
  refine codeAny_of_tree ?_
  show wpAny _ _ ((compStart (two elt t1 i1 t2 i2 sc pos) 1 it acc env).onRaise (fun x => do noteFrame x env; standAt theWindowsPlace)) _ _ s
  refine wpAny_notedAt ?_
  unfold compStart
  show wpAny _ _ (ask >>= _) _ _ s
  refine wpAny_bind (wpAny_askSetting (wpAny_ite ?_))
  split
  · first
      | exact wpAny_bind (wpAny_pure (wpAny_pure (And.intro rfl h0)))
      | exact wpAny_pure (And.intro rfl h0)
  · exact wpAny_bind (wpAny_rule (wpAny_bind (wpAny_standAt (wpAny_bind (wpAny_mono (h _) (fun it' s' h' => wpAny_pure (And.intro rfl h')) fun _ _ x => x)))))

theorem loop_two1 {elt t1 i1 t2 i2 : Expr} {sc : Scope} {pos : Pos} {it acc : Value} {env : Env} (I : Nat → Shared → Prop)
    (turn : ∀ n s E, I n s → wpAny (model prog w) A (pyNext it) (fun r s₁ => match r with
      | none => R (.ok .next) s₁
      | some v => wpAny (model prog w) A (assign t2 env v) (fun _ s₂ => wpAny (model prog w) A (eval elt env) (fun x s₃ =>
          wpAny (model prog w) A (call (.builtin "list.append") [acc, x]) (fun _ s₄ => ∃ m, m < n ∧ I m s₄) E s₃) E s₂) E s₁) E s)
    (n : Nat) (h : I n s) (ht : ∀ v, letOwnedTupleGo t2 it v = pure ()) : codeAny (model prog w) A (.compLoop (two elt t1 i1 t2 i2 sc pos) 1 it acc env) R s := by
  refine codeAny_loop rfl I (fun n s hI => ?_) n h
  show wpAny _ _ ((compTurn (two elt t1 i1 t2 i2 sc pos) 1 it acc env).onRaise (fun x => do noteFrame x env; theTreesLotGoes x)) _ _ s
  refine wpAny_noted ?_
  rw [turn_two1]
  refine wpAny_bind (wpAny_standAt (wpAny_bind (wpAny_mono (turn n s _ hI) (fun r s₁ h₁ => ?_) fun _ _ h' => h')))
  cases r with
  | none => exact wpAny_pure h₁
  | some v =>
    refine wpAny_bind (wpAny_of_eq (ht v) ?_)
    exact wpAny_bind (wpAny_mono h₁ (fun _ s₂ h₂ => wpAny_bind (wpAny_bind (wpAny_mono h₂ (fun x s₃ h₃ => wpAny_bind (wpAny_mono h₃
      (fun _ s₄ h₄ => wpAny_pure (wpAny_pure ⟨rfl, h₄⟩)) fun _ _ h' => h')) fun _ _ h' => h'))) fun _ _ h' => h')

theorem loop_two0 {elt t1 i1 t2 i2 : Expr} {sc : Scope} {pos : Pos} {it acc : Value} {env : Env} (I : Nat → Shared → Prop)
    (turn : ∀ n s E, I n s → wpAny (model prog w) A (pyNext it) (fun r s₁ => match r with
      | none => R (.ok .next) s₁
      | some v => wpAny (model prog w) A (assign t1 env v) (fun _ s₂ => wpAny (model prog w) A (eval i2 env) (fun x s₃ => wpAny (model prog w) A (pyIter x) (fun i s₄ =>
          codeAny (model prog w) A (.compStart (two elt t1 i1 t2 i2 sc pos) 1 i acc env) (fun r s₅ => ∃ f, r = .ok f ∧ ∃ m, m < n ∧ I m s₅) s₄) E s₃) E s₂) E s₁) E s)
    (n : Nat) (h : I n s) (ht : ∀ v, letOwnedTupleGo t1 it v = pure ()) (hf : ∀ x, foldedSetIterable i2 env x = pure x) : codeAny (model prog w) A (.compLoop (two elt t1 i1 t2 i2 sc pos) 0 it acc env) R s := by
  refine codeAny_loop rfl I (fun n s hI => ?_) n h
  show wpAny _ _ ((compTurn (two elt t1 i1 t2 i2 sc pos) 0 it acc env).onRaise (fun x => do noteFrame x env; theTreesLotGoes x)) _ _ s
  refine wpAny_noted ?_
  rw [turn_two0]
  refine wpAny_bind (wpAny_standAt (wpAny_bind (wpAny_mono (turn n s _ hI) (fun r s₁ h₁ => ?_) fun _ _ h' => h')))
  cases r with
  | none => exact wpAny_pure h₁
  | some v =>
    refine wpAny_bind (wpAny_of_eq (ht v) ?_)
    refine wpAny_bind (wpAny_mono h₁ (fun _ s₂ h₂ => wpAny_bind (wpAny_mono h₂ (fun x s₃ h₃ => wpAny_bind (wpAny_standAt (wpAny_bind (wpAny_of_eq (hf x) (wpAny_bind (wpAny_holding (wpAny_mono h₃ (fun i s₄ h₄ => wpAny_bind (wpAny_runOwn (codeAny_mono h₄ fun r s₅ h₅ => ?_))) fun _ _ h' => h'))))))) fun _ _ h' => h')) fun _ _ h' => h')
    obtain ⟨f, rfl, h₅⟩ := h₅
    exact wpAny_pure ⟨rfl, h₅⟩
end

section
variable {C : Cx} {s₀ s s' : Shared} {H₀ : List Addr} {k : Nat} {ρ ρ' ρ'' : Rho} {μ μ' μ₁ : Mu} {ds sc : Scope}

/-- the inner loop: what is iterated over is taken over -/
theorem inner_two {x y : Str} {px py py' : Pos} {i1 i2 : Expr} {pos : Pos} {I K D : Addr} {env : Env} {fp : List Addr} {Us : List VP} {St : Nat → Heap → Prop} {H : List Addr} {g : Heap} {s₄ : Shared} {ys₀ : Array Value} {done : List VP} {R : Result → Shared → Prop}
    (hA : Room k C.A) (hk : env.scope.kind = .function) (hloc : env.locals = K) (hy : env.kindOf y = some .local) (hyd : (y == ("__debug__" : Str)) = false)
    (hIK : I ≠ K) (hID : I ≠ D) (hKD : K ≠ D) (hIH : I ∈ H) (hKH : K ∈ H) (hDH : D ∈ H) (hfK : K ∉ fp) (hfD : D ∉ fp)
    (W : Wk C g I fp Us St) (hst : St 0 s₄.heap) (hns : ∃ m, s₄.heap.Ns K m) (hD : s₄.heap.PlainList D ys₀) (hel : Els (hid H s₄.heap) done ys₀.toList) (hg : Kp g (hid H s₄.heap)) (hsz : done.length + Us.length ≤ 1000)
    (fin : ∀ s₅ ys, Sm s₄ s₅ → (∀ b o, b ≠ I → b ≠ K → b ≠ D → s₄.heap.get? b = some o → s₅.heap.get? b = some o) → (∃ m, s₅.heap.Ns K m) → s₅.heap.PlainList D ys → Els (hid H s₅.heap) (done ++ Us) ys.toList → R (.ok .next) s₅) :
    codeAny C.M C.A (.compStart (two (.Name y py') (.Name x px) i1 (.Name y py) i2 sc pos) 1 (.ref I) (.ref D) env) R s₄ := by
  obtain ⟨⟨P, WW, hP⟩, _⟩ := W
  have loop : codeAny C.M C.A (.compLoop (two (.Name y py') (.Name x px) i1 (.Name y py) i2 sc pos) 1 (.ref I) (.ref D) env) R s₄ := by
    refine loop_two1 (fun n s' => ∃ i ys, n = Us.length + 1 - i ∧ i ≤ Us.length ∧ St i s'.heap ∧ (∃ m, s'.heap.Ns K m) ∧ s'.heap.PlainList D ys ∧ Els (hid H s'.heap) (done ++ Us.take i) ys.toList ∧ Sm s₄ s' ∧
      (∀ b o, b ≠ I → b ≠ K → b ≠ D → s₄.heap.get? b = some o → s'.heap.get? b = some o)) ?_ (Us.length + 1) ⟨0, ys₀, rfl, Nat.zero_le _, hst, hns, hD, by simpa using hel, ⟨s₄.heap, s₄.toks, rfl⟩, fun b o _ _ _ e => e⟩ (fun v => rfl)
    rintro n s' E ⟨i, ys, rfl, hin, hsti, ⟨m, hm⟩, hDi, hE, hsm, hkp⟩
    by_cases hlt : i < Us.length
    · refine WW.item i _ _ _ hlt hsti fun u h' tk hPu hst' hk' => ?_
      obtain ⟨U, hU, hu⟩ := hP i u hPu
      have hk1 : ∀ b o, b ≠ I → s'.heap.get? b = some o → h'.get? b = some o := fun b o hb e => hk' b o (by simpa using hb) e
      have hm' : h'.Ns K m := hm.at' fun o e => hk1 K o hIK.symm e
      refine wpAny_assign_Name (wpAny_storeName_local hy (hloc ▸ hm') (fun h₂ hn₂ hs₂ => ?_) (by rw [hk]; rfl))
      rw [hloc] at hn₂ hs₂
      refine wpAny_Name (wpAny_loadName_local hk hy (hloc ▸ hn₂) (if_pos rfl) ?_) hyd
      have hD₂ : h₂.PlainList D ys := by
        obtain ⟨c, e⟩ := hDi
        exact ⟨c, hs₂.extBut D _ hKD.symm (hk1 D _ hID.symm e)⟩
      have hl : (done ++ Us.take i).length = ys.toList.length := hE.length
      have hys : ys.size ≤ sizeLine := by
        rw [List.length_append, List.length_take] at hl
        have : ys.toList.length = ys.size := by simp
        rw [sizeLine_eq]; omega
      refine wpAny_list_append_plain (hsz := hys) hD₂ fun h₃ hl₃ hs₃ => ?_
      have kept : ∀ b o, b ≠ I → b ≠ K → b ≠ D → s'.heap.get? b = some o → h₃.get? b = some o := fun b o h1 h2 h3 e => hs₃.extBut b o h3 (hs₂.extBut b o h2 (hk1 b o h1 e))
      have kp : Kp (hid H s'.heap) (hid H h₃) := hid_of fun b o nb e => ⟨kept b o (fun q => nb (q ▸ hIH)) (fun q => nb (q ▸ hKH)) (fun q => nb (q ▸ hDH)) e, nb⟩
      have kg : Kp g (hid H h₃) := hg.trans (hid_of fun b o nb e => ⟨kept b o (fun q => nb (q ▸ hIH)) (fun q => nb (q ▸ hKH)) (fun q => nb (q ▸ hDH)) (hkp b o (fun q => nb (q ▸ hIH)) (fun q => nb (q ▸ hKH)) (fun q => nb (q ▸ hDH)) e), nb⟩)
      refine ⟨Us.length + 1 - (i + 1), by omega, i + 1, _, rfl, hlt, ?_, ?_, hl₃, ?_, hsm.trans ⟨h₃, _, rfl⟩, fun b o h1 h2 h3 e => kept b o h1 h2 h3 (hkp b o h1 h2 h3 e)⟩
      · refine WW.frame _ _ _ hst' fun b hb o e => ?_
        have hbK : b ≠ K := fun q => by
          rcases List.mem_cons.mp hb with e | hb
          · exact hIK (e.symm.trans q)
          · exact hfK (q ▸ hb)
        have hbD : b ≠ D := fun q => by
          rcases List.mem_cons.mp hb with e | hb
          · exact hID (e.symm.trans q)
          · exact hfD (q ▸ hb)
        exact hs₃.extBut b o hbD (hs₂.extBut b o hbK e)
      · exact ⟨_, hn₂.sameBut hs₃ hKD⟩
      · rw [List.take_add_one, hU, Option.toList_some, ← List.append_assoc, Array.toList_push]
        exact (hE.mono kp).append (.cons (U.mono kg hu) .nil)
    · have e : i = Us.length := by omega
      subst e
      refine WW.done _ _ _ hsti fun h' tk hk' => ?_
      have hk1 : ∀ b o, b ≠ I → s'.heap.get? b = some o → h'.get? b = some o := fun b o hb e => hk' b o (by simpa using hb) e
      rw [List.take_length] at hE
      refine fin { s' with heap := h', toks := tk } ys (hsm.trans ⟨h', tk, rfl⟩) (fun b o h1 h2 h3 e => hk1 b o h1 (hkp b o h1 h2 h3 e)) ⟨m, hm.at' fun o e => hk1 K o hIK.symm e⟩ ?_ (hE.mono (hid_of fun b o nb e => ⟨hk1 b o (fun q => nb (q ▸ hIH)) e, nb⟩))
      obtain ⟨c, e⟩ := hDi
      exact ⟨c, hk1 D _ hID.symm e⟩
  exact start_two1 loop fun E => WW.self 0 _ _ _ hst loop

theorem comp_two_core (B : Bd C s₀ H₀ k s ρ μ) {n : Nat} (hs : C.env.scope = ds) (hc : C.env.cells = cellsFrom n ds.names []) (O : CompOk sc ds) {x y : Str} {px py py' : Pos} {iter i2 : Expr} {pos : Pos} {T : VP} {Ts : List VP} (h : Ev C s iter T) (hi : Iterates C T Ts)
    (fs : List (List VP)) (hlen : fs.length = Ts.length) (hsz : fs.flatten.length ≤ 1000) (ρ' : Rho) (hρ : ∀ p ∈ ρ', p ∈ ρ ∧ ((relabelD sc ds).names.lookup p.1 == some .cell) = true)
    (hx : ((relabelD sc ds).names.lookup x == some .local) = true) (hy : ((relabelD sc ds).names.lookup y == some .local) = true) (hyd : (y == ("__debug__" : Str)) = false) (hρx : ∀ p ∈ ρ', p.1 ≠ x)
    (step : ∀ (K : Addr) (H' : List Addr) (g' : Heap) (s' : Shared) (i : Nat) (U : VP) (Us : List VP), Ts[i]? = some U → fs[i]? = some Us → Bd { C with env := cenv sc K C.env, H := H', g := g' } s₀ H₀ k s' ((x, U) :: ρ') [] →
      ∃ T2, Ev { C with env := cenv sc K C.env, H := H', g := g' } s' i2 T2 ∧ Iterates { C with env := cenv sc K C.env, H := H', g := g' } T2 Us)
    {use : Option (Value → Sem Unit)} {Qc : Value → Shared → Prop} {E : Value → Shared → Prop}
    (hfin : ∀ (D K : Addr) (s' : Shared), Keeps s s' → s.heap.get? K = none → D ≠ K → (∃ m, s'.heap.Ns K m) → (VP.list (fs.flatten)).P (hid (K :: C.H) s'.heap) (.ref D) → compPost C.M C.A E use Qc (.ref D) K (.ok .next) s')
    (hf : ∀ x, foldedSetIterable iter C.env x = pure x := by intro _; rfl) (hf2 : ∀ env x, foldedSetIterable i2 env x = pure x := by intro _ _; rfl) : wpAny C.M C.A (comprehension (two (.Name y py') (.Name x px) iter (.Name y py) i2 sc pos) sc C.env (firstIterPos [⟨.Name x px, iter, [], 0⟩, ⟨.Name y py, i2, [], 0⟩] pos) (newList []) (firstAsync [⟨.Name x px, iter, [], 0⟩, ⟨.Name y py, i2, [], 0⟩]) (firstIter [⟨.Name x px, iter, [], 0⟩, ⟨.Name y py, i2, [], 0⟩] C.env) use) Qc E s := by
  have hcell : ∀ y ∈ sc.names, y.2 ≠ .cell := fun y hy => by simpa using List.all_eq_true.mp O.cell y hy
  have hnames : ∀ y ∈ sc.names, y.2 = .local → sc.names.lookup y.1 = some .local := fun y hy e => by
    have := List.all_eq_true.mp O.names y hy
    rw [e] at this; simpa using this
  have hfree : ∀ x ∈ sc.names, x.2 = .free → (C.env.cells.lookup x.1).isSome = true := fun x hx e => by
    have := List.all_eq_true.mp O.free x hx
    rw [e] at this
    obtain ⟨c, hc'⟩ := lookup_cells hc (x := x.1) (by simpa using this)
    rw [hc']; rfl
  refine wpAny_comprehension_free (use := use) rfl hf (closureFor_eq hfree) O.kind hnames (h.use (keepsRefl _) fun v s₁ k₁ hv => hi s₁ v _ _ (B.later k₁).ok hv fun I s₂ fp St k₂ hnew W hst hfp => ?_)
  refine wpAny_newObj_type (wpAny_newFunctionEnv hcell (by intro y hy; simp at hy) (fun h₁ hns₁ hsb₁ => ?_) O.kind)
  have B₁ := B.later k₁
  have hlive := W.live
  have hlook := W.look
  obtain ⟨⟨P, WW, hP⟩, _⟩ := W
  dsimp only at hns₁ hsb₁ ⊢
  generalize hH2 : s₂.heap.push { cls := .type "list", dict := none, data := .seq ([] : List Value).toArray } = H2 at hns₁ hsb₁ ⊢
  generalize hKd : H2.objs.size = K at hns₁ hsb₁ ⊢
  generalize hDd : s₂.heap.objs.size = D
  have hKD : K = D + 1 := by rw [← hKd, ← hH2, ← hDd, Heap.size_push]
  have fresh₂ : ∀ b, D ≤ b → s₂.heap.get? b = none := fun b hb => Heap.get?_none_of_le (hDd ▸ hb)
  have fresh₁ : ∀ b, D ≤ b → s₁.heap.get? b = none := fun b hb => new_of_keep (keepsKp k₂) (fresh₂ b hb)
  have old : ∀ b o, s₂.heap.get? b = some o → h₁.get? b = some o := fun b o e => hsb₁.extBut b o (fun q => by rw [fresh₂ b (by rw [q, hKD]; exact Nat.le_succ _)] at e; cases e) (Heap.get?_push_of_some _ (hH2 ▸ Heap.get?_push_of_some _ e))
  have hDl : h₁.PlainList D #[] := ⟨0, hsb₁.extBut _ _ (by rw [hKD]; exact Nat.ne_of_lt (Nat.lt_succ_self _)) (Heap.get?_push_of_some _ (hH2 ▸ hDd ▸ Heap.get?_push_size _ rfl))⟩
  have gnone : ∀ b, s₁.heap.get? b = none → C.g.get? b = none := fun b e => new_of_keep B₁.keep e
  have hIH : I ∉ C.H := fun m => by obtain ⟨o, e⟩ := B₁.low I m; rw [e] at hnew; cases hnew
  have hlow : ∀ a ∈ C.H, a < D := fun a m => by obtain ⟨o, e⟩ := B₁.low a m; rcases Nat.lt_or_ge a D with h | h; exact h; rw [fresh₁ a h] at e; cases e
  have hID : I < D := by obtain ⟨o, e⟩ := hlive 0 _ hst; rcases Nat.lt_or_ge I D with h | h; exact h; rw [fresh₂ I h] at e; cases e
  have ltK : ∀ b : Addr, b < D → b ≠ K := fun b hb q => by rw [q, hKD] at hb; exact Nat.not_succ_lt_self hb
  have neDK : D ≠ K := by rw [hKD]; exact Nat.ne_of_lt (Nat.lt_succ_self _)
  let H' : List Addr := K :: D :: I :: C.H
  let C' : Cx := { C with env := cenv sc K C.env, H := H' }
  let s₄ : Shared := { s₂ with heap := h₁, toks := s₂.toks + ([] : List (Str × Value)).length }
  have kp₂ : Kp (C.v s₁) (hid H' s₂.heap) := hid_new (H' := [K, D, I]) (keepsKp k₂) fun a m => by
    rcases List.mem_cons.mp m with e | m
    · rw [e, hKD]; exact fresh₁ _ (Nat.le_succ _)
    · rcases List.mem_cons.mp m with e | m
      · rw [e]; exact fresh₁ _ (Nat.le_refl _)
      · rw [List.mem_singleton.mp m]; exact hnew
  have kp₄ : Kp (C.v s₁) (hid H' h₁) := kp₂.trans (hid_kp old)
  have subc : ∀ x c, (cenv sc K C.env).cells.lookup x = some c → C.env.cells.lookup x = some c := fun x c e => closOf_sub sc.names [] (fun _ _ m => nomatch m) x c (mem_of_lookup e)
  have hcD : ∀ x c, (cenv sc K C.env).cells.lookup x = some c → c < D := fun x c e => hlow c (B₁.wf.cell x c (subc x c e)).2.1
  have kinds : ∀ p ∈ ρ', (cenv sc K C.env).kindOf p.1 = some .cell := fun p m => by
    show (cenv sc K C.env).scope.names.lookup p.1 = some .cell
    rw [cenv_scope hs]; simpa using (hρ p m).2
  have Bc : Bd C' s₀ H₀ k s₄ ρ' [] := {
    low := fun a m => by
      rcases List.mem_cons.mp m with e | m
      · obtain ⟨o, _, _, q, _⟩ := hns₁; exact ⟨o, e ▸ q⟩
      · rcases List.mem_cons.mp m with e | m
        · obtain ⟨_, q⟩ := hDl; exact ⟨_, e ▸ q⟩
        · rcases List.mem_cons.mp m with e | m
          · obtain ⟨o, q⟩ := hlive 0 _ hst; exact ⟨o, e ▸ old _ _ q⟩
          · obtain ⟨o, q⟩ := B₁.low a m; exact ⟨o, old _ _ (keepsKp k₂ _ _ q)⟩
    room := B₁.room
    kind := O.kind
    gl := B₁.gl
    bl := B₁.bl
    w0 := B₁.w0
    base := B₁.base
    keep := B₁.keep.trans ((keepsKp k₂).trans old)
    sm := (B₁.sm.trans (smKeeps k₂)).trans ⟨h₁, _, rfl⟩
    wf := ⟨⟨_, hns₁⟩, .head _, fun x c e => by
      obtain ⟨⟨v, q⟩, h2, h3⟩ := B₁.wf.cell x c (subc x c e)
      exact ⟨⟨v, (q.keeps (keepsKp k₂)).keeps old⟩, .tail _ (.tail _ (.tail _ h2)), fun q => by
        exact ltK c (hcD x c e) q⟩, fun x y c e e' => B₁.wf.apart x y c (subc x c e) (subc y c e')⟩
    loc := gnone K (fresh₁ K (by rw [hKD]; exact Nat.le_succ _))
    sub := fun a m => .tail _ (.tail _ (.tail _ (B₁.sub a m)))
    vars := fun x U m => by
      obtain ⟨m, hx⟩ := hρ _ m
      obtain ⟨v, h1, h2⟩ := B₁.vars x U m
      exact ⟨v, ((h1.keeps (keepsKp k₂)).keeps old).into hs O hx, U.mono kp₄ h2⟩
    own := fun a V m => nomatch m }
  have loop : ∀ s₅ : Shared, s₅ = s₄ → codeAny C.M C.A (.compLoop (two (.Name y py') (.Name x px) iter (.Name y py) i2 sc pos) 0 (.ref I) (.ref D) (cenv sc K C.env))
      (compPost C.M C.A E use Qc (.ref D) K) s₅ := by
    rintro s₅ rfl
    refine loop_two0 (fun n s' => ∃ i ys, n = Ts.length + 1 - i ∧ i ≤ Ts.length ∧ St i s'.heap ∧ s'.heap.PlainList D ys ∧ Els (hid H' s'.heap) ((fs.take i).flatten) ys.toList ∧ Bd C' s₀ H₀ k s' ρ' [] ∧ Kp (C.v s₁) (hid H' s'.heap) ∧ Kp s₁.heap s'.heap) ?_ (Ts.length + 1)
      ⟨0, #[], rfl, Nat.zero_le _, WW.frame _ _ _ hst fun b _ o e => old b o e, hDl, by simpa using Els.nil, Bc, kp₄, (keepsKp k₂).trans old⟩ (fun v => rfl) (hf2 _)
    rintro n s' E' ⟨i, ys, rfl, hin, hsti, hDi, hels, Bi, hkpi, hki⟩
    by_cases hlt : i < Ts.length
    · refine WW.item i _ _ _ hlt hsti fun u h' tk hPu hst' hk' => ?_
      obtain ⟨U, hU, hu⟩ := hP i u hPu
      obtain ⟨r, hr⟩ : ∃ r, fs[i]? = some r := ⟨_, List.getElem?_eq_getElem (by rw [hlen]; exact hlt)⟩
      have hb : But I s' { s' with heap := h', toks := tk } := ⟨h', tk, rfl, fun b o hne e => hk' b o (by simpa using hne) e⟩
      have oI : Own C' I := ⟨.tail _ (.tail _ (.head _)), ⟨fun e => ltK I hID e, fun x c e q => hIH (q ▸ (B₁.wf.cell x c (subc x c e)).2.1)⟩, gnone I hnew⟩
      have B' := Bi.but (μ' := []) hb oI (hlive _ _ hst') fun p m => nomatch m
      have hkp' : Kp (hid H' s'.heap) (hid H' h') := hid_but hb.ext (.tail _ (.tail _ (.head _)))
      have kgK : Kp C.g (hid [K] h') := fun b o e => hideAll_get _ (B'.keep b o e) fun m => by
        have l : C.g.get? K = none := Bc.loc
        rw [List.mem_singleton.mp m, l] at e; cases e
      have Bt : Bd { C with env := cenv sc K C.env, H := H', g := hid [K] h' } s₀ H₀ k { s' with heap := h', toks := tk } ρ' [] := { B' with base := B'.base.trans kgK, keep := hid_le, loc := hideAll_none _ (.head _), own := fun a V m => nomatch m }
      have hxk : (cenv sc K C.env).kindOf x = some .local := by
        show (cenv sc K C.env).scope.names.lookup x = some .local
        rw [cenv_scope hs]; simpa using hx
      have hyk : (cenv sc K C.env).kindOf y = some .local := by
        show (cenv sc K C.env).scope.names.lookup y = some .local
        rw [cenv_scope hs]; simpa using hy
      refine wpAny_assign_Name (Bd.storeL (C := { C with env := cenv sc K C.env, H := H', g := hid [K] h' }) Bt (T := U) hxk (U.mono (hkpi.trans hkp') hu) (ρ' := ρ') (fun p m => ⟨hρx p m, m⟩) fun s₅ B₅ => ?_)
      obtain ⟨T2, hEv, hIt⟩ := step K H' (hid [K] h') s₅ i U r hU hr B₅
      refine hEv.use (keepsRefl _) fun x2 s₆ k₆ hx2 => ?_
      refine hIt s₆ x2 _ _ (B₅.later k₆).ok hx2 fun I2 s₇ fp2 St2 k₇ hnew2 W2 hst2 hfp2 => ?_
      have kept₅ : ∀ b o, b ≠ K → h'.get? b = some o → s₅.heap.get? b = some o := fun b o hb e => B₅.keep b o (hideAll_get _ e fun m => hb (List.mem_singleton.mp m))
      have kept₆ : ∀ b o, b ≠ K → h'.get? b = some o → s₆.heap.get? b = some o := fun b o hb e => keepsKp k₆ _ _ (kept₅ b o hb e)
      have sm₆ : Sm s' s₆ := (show Sm s' { s' with heap := h', toks := tk } from ⟨h', tk, rfl⟩).trans ((show Sm { s' with heap := h', toks := tk } s₅ from by
        obtain ⟨x1, x2, e1⟩ := Bt.sm
        obtain ⟨y1, y2, e2⟩ := B₅.sm
        exact ⟨y1, y2, by
          have e1' : s₀ = { ({ s' with heap := h', toks := tk } : Shared) with heap := s₀.heap, toks := s₀.toks } := by rw [e1]
          rw [e2, e1']⟩).trans (smKeeps k₆))
      have next : ∀ (s₈ : Shared) ys', Sm s₆ s₈ → (∀ b o, b ≠ K → b ≠ D → h'.get? b = some o → s₈.heap.get? b = some o) → (∃ m, s₈.heap.Ns K m) → s₈.heap.PlainList D ys' → Els (hid H' s₈.heap) ((fs.take (i + 1)).flatten) ys'.toList →
          ∃ m, m < Ts.length + 1 - i ∧ ∃ i ys, m = Ts.length + 1 - i ∧ i ≤ Ts.length ∧ St i s₈.heap ∧ s₈.heap.PlainList D ys ∧ Els (hid H' s₈.heap) ((fs.take i).flatten) ys.toList ∧ Bd C' s₀ H₀ k s₈ ρ' [] ∧ Kp (C.v s₁) (hid H' s₈.heap) ∧ Kp s₁.heap s₈.heap := fun s₈ ys' sm₈ kept₈ hns₈ hD₈ hE₈ => by
        have neK : ∀ b, b < D → b ≠ K ∧ b ≠ D := fun b hb => ⟨ltK b hb, Nat.ne_of_lt hb⟩
        refine ⟨Ts.length + 1 - (i + 1), by omega, i + 1, ys', rfl, hlt, WW.frame _ _ _ hst' fun b hb o e => ?_, hD₈, hE₈, ?_, ?_, fun b o e => ?_⟩
        · have lt : b < D := by
            rcases List.mem_cons.mp hb with q | hb
            · rw [q]; exact hID
            · obtain ⟨o', q⟩ := (hfp b hb).2.2
              rcases Nat.lt_or_ge b D with h | h
              · exact h
              · rw [fresh₁ b h] at q; cases q
          exact kept₈ b o (neK b lt).1 (neK b lt).2 e
        · refine comp_next (D := D) (s := { s' with heap := h', toks := tk }) B' kinds (.tail _ (.head _)) (.head _) ?_ (fun x c e => Nat.ne_of_lt (hcD x c e)) (fun b o h1 h2 e => kept₈ b o h1 h2 e) hns₈ ?_ (gnone D (fresh₁ D (Nat.le_refl _)))
          · obtain ⟨a1, a2, e⟩ := sm₆.trans sm₈
            exact ⟨a1, a2, e⟩
          · obtain ⟨_, q⟩ := hD₈; exact ⟨_, q⟩
        · exact hkpi.trans (hkp'.trans (hid_of fun b o nb e => ⟨kept₈ b o (fun q => nb (q ▸ .head _)) (fun q => nb (q ▸ .tail _ (.head _))) e, nb⟩))
        · have lt : b < D := by
            rcases Nat.lt_or_ge b D with h | h
            · exact h
            · rw [fresh₁ b h] at e; cases e
          have neI : b ≠ I := fun q => by rw [q, hnew] at e; cases e
          exact kept₈ b o (neK b lt).1 (neK b lt).2 (hb.ext b o neI (hki b o e))
      have hD₆ : s₆.heap.PlainList D ys := hDi.at fun o e => kept₆ D o neDK (hb.ext D o (Nat.ne_of_gt hID) e)
      have kp₆ : Kp (hid H' s'.heap) (hid H' s₆.heap) := hkp'.trans (hid_of fun b o nb e => ⟨kept₆ b o (fun q => nb (q ▸ .head _)) e, nb⟩)
      have kp₇ : Kp (hid H' s₆.heap) (hid (I2 :: H') s₇.heap) := hid_new (H' := [I2]) (keepsKp k₇) fun a m => by rw [List.mem_singleton.mp m]; exact hnew2
      obtain ⟨m₆, hm₆⟩ := (B₅.later k₆).wf.ns
      have hIK : I2 ≠ K := fun q => by obtain ⟨o, _, _, e, _⟩ := hm₆; have e : s₆.heap.get? K = some o := e; rw [q] at hnew2; rw [hnew2] at e; cases e
      have hI2D : I2 ≠ D := fun q => by obtain ⟨_, e⟩ := hD₆; rw [q] at hnew2; rw [hnew2] at e; cases e
      have htk : (fs.take (i + 1)).flatten = (fs.take i).flatten ++ r := by rw [List.take_add_one, hr, Option.toList_some, List.flatten_append]; simp
      refine inner_two (g := hid H' s₆.heap) (H := I2 :: H') (K := K) (D := D) (fp := fp2) (Us := r) (St := St2) (done := (fs.take i).flatten) (ys₀ := ys) B₅.room O.kind rfl hyk hyd hIK hI2D (Ne.symm neDK) (.head _) (.tail _ (.head _)) (.tail _ (.tail _ (.head _)))
        (fun m => (hfp2 K m).1 (.head _)) (fun m => (hfp2 D m).1 (.tail _ (.head _))) ⟨W2.w, W2.look⟩ hst2 ⟨m₆, hm₆.keeps (keepsKp k₇)⟩ (hD₆.at fun o e => keepsKp k₇ _ _ e) (hels.mono (kp₆.trans kp₇)) kp₇ ?_ fun s₈ ys' sm₈ kept₈ hns₈ hD₈ hE₈ => ⟨_, rfl, ?_⟩
      · have e1 : (fs.take i).flatten.length + r.length = (fs.take (i + 1)).flatten.length := by rw [htk, List.length_append]
        have e2 : fs.flatten = (fs.take (i + 1)).flatten ++ (fs.drop (i + 1)).flatten := by rw [← List.flatten_append, List.take_append_drop]
        rw [e1]; rw [e2, List.length_append] at hsz; omega
      · refine next s₈ ys' ((smKeeps k₇).trans sm₈) (fun b o h1 h2 e => ?_) hns₈ hD₈ ?_
        · have e6 := kept₆ b o h1 e
          exact kept₈ b o (fun q => by rw [q, hnew2] at e6; cases e6) h1 h2 (keepsKp k₇ _ _ e6)
        · rw [htk]; exact hE₈.mono (hid_sub fun b m => .tail _ m)
    · have e : i = Ts.length := by omega
      subst e
      refine WW.done _ _ _ hsti fun h' tk hk' => ?_
      obtain ⟨m, hm⟩ := Bi.wf.ns
      have neI : ∀ b, b ≠ I → b ∉ [I] := fun b hb => by simpa using hb
      have hm' : h'.Ns K m := Heap.Ns.at' hm fun o e => hk' K o (neI K fun q => ltK I hID q.symm) e
      refine hfin D K _ ?_ (new_of_keep (keepsKp k₁) (fresh₁ K (by rw [hKD]; exact Nat.le_succ _))) neDK ⟨m, hm'⟩ ?_
      · have kk := keepsKp k₁
        obtain ⟨b1, b2, e2⟩ := Bi.sm
        obtain ⟨c1, c2, e3⟩ := B.sm
        refine ⟨h', tk, ?_, fun b o e => ?_⟩
        · show ({ s' with heap := h', toks := tk } : Shared) = _
          rw [e2, e3]
        · have e₁ := keepsKp k₁ b o e
          exact hk' b o (neI b fun q => by rw [q, hnew] at e₁; cases e₁) (hki b o e₁)
      · obtain ⟨c, hD⟩ := hDi
        have hD'' : h'.get? D = some { cls := .type "list", data := .seq ys c } := hk' D _ (neI D (Nat.ne_of_gt hID)) hD
        refine ⟨D, ys, c, rfl, hideAll_get _ hD'' fun m => ?_, ?_⟩
        · rcases List.mem_cons.mp m with e | m
          · exact neDK e
          · exact Nat.lt_irrefl _ (hlow _ m)
        rw [List.take_of_length_le (by rw [hlen]; exact Nat.le_refl _)] at hels
        exact hels.mono (hid_of fun b o nb e => ⟨hk' b o (neI b fun q => nb (q ▸ .tail _ (.tail _ (.head _)))) e, fun m => by
          rcases List.mem_cons.mp m with e | m
          · exact nb (e ▸ .head _)
          · exact nb (.tail _ (.tail _ (.tail _ m)))⟩)
  have hst₄ : St 0 s₄.heap := WW.frame _ _ _ hst fun b _ o e => old b o e
  exact codeAny_compStart_list (rest := [⟨.Name y py, i2, [], 0⟩]) (loop _ rfl) (WW.self 0 _ _ _ hst₄ (loop _ rfl))


theorem comp_two (B : Bd C s₀ H₀ k s ρ μ) {n : Nat} (hs : C.env.scope = ds) (hc : C.env.cells = cellsFrom n ds.names []) (O : CompOk sc ds) {x y : Str} {px py py' : Pos} {iter i2 : Expr} {pos : Pos} {T : VP} {Ts : List VP} (h : Ev C s iter T) (hi : Iterates C T Ts)
    (fs : List (List VP)) (hlen : fs.length = Ts.length) (hsz : fs.flatten.length ≤ 1000) (ρ' : Rho) (hρ : ∀ p ∈ ρ', p ∈ ρ ∧ ((relabelD sc ds).names.lookup p.1 == some .cell) = true)
    (hx : ((relabelD sc ds).names.lookup x == some .local) = true) (hy : ((relabelD sc ds).names.lookup y == some .local) = true) (hyd : (y == ("__debug__" : Str)) = false) (hρx : ∀ p ∈ ρ', p.1 ≠ x)
    (step : ∀ (K : Addr) (H' : List Addr) (g' : Heap) (s' : Shared) (i : Nat) (U : VP) (Us : List VP), Ts[i]? = some U → fs[i]? = some Us → Bd { C with env := cenv sc K C.env, H := H', g := g' } s₀ H₀ k s' ((x, U) :: ρ') [] →
      ∃ T2, Ev { C with env := cenv sc K C.env, H := H', g := g' } s' i2 T2 ∧ Iterates { C with env := cenv sc K C.env, H := H', g := g' } T2 Us)
    (hf : ∀ x, foldedSetIterable iter C.env x = pure x := by intro _; rfl) (hf2 : ∀ env x, foldedSetIterable i2 env x = pure x := by intro _ _; rfl) : Ev C s (two (.Name y py') (.Name x px) iter (.Name y py) i2 sc pos) (.list fs.flatten) := fun s₀' E k₀ => by
  rw [eval_ListComp]
  refine comp_two_core (B.later k₀) hs hc O (h.later k₀) hi fs hlen hsz ρ' hρ hx hy hyd hρx step (use := none) (fun D K s' ks n ne hns hl => ?_) hf hf2
  obtain ⟨m, hm⟩ := hns
  refine ⟨m, hm, fun h'' hs'' => ⟨?_, (VP.list _).mono (hid_of fun b o nb e => ⟨hs''.extBut b o (fun q => nb (q ▸ .head _)) e, fun m => nb (.tail _ m)⟩) hl⟩⟩
  obtain ⟨h1, t1, rfl, kp⟩ := ks
  exact ⟨h'', t1, rfl, fun b o e => hs''.extBut b o (fun q => by rw [q, n] at e; cases e) (kp b o e)⟩
end

theorem swapped_none {env : Env} {x y : Str} {px py tp vp : Pos} {kx vx} {e1 e2 : Expr} (h : (env.kindOf x == some .local) = false) :
    swappedStores [.Tuple [.Name x px, .Name y py] kx tp] (.Tuple [e1, e2] vx vp) env = pure none := by
  unfold swappedStores
  have key : (([Expr.Name x px, Expr.Name y py].filterMap fun
      | .Name id pos => if (env.kindOf id == some .local && pos.line == (([Expr.Name x px, Expr.Name y py].head?.map (·.pos.line)).getD 0)) = true then some id else none
      | _ => none).length != [Expr.Name x px, Expr.Name y py].length) = true := by
    rw [List.filterMap_cons_none (by show (if (env.kindOf x == some .local && _) = true then _ else _) = none; rw [h]; rfl)]
    rw [bne_iff_ne]
    refine Nat.ne_of_lt (Nat.lt_of_le_of_lt (List.length_filterMap_le _ _) (Nat.lt_succ_self 1))
  simp only []
  split
  · rfl
  · split
    · rfl
    · split
      · rfl
      · rename_i hh
        exact absurd (by rw [Bool.or_eq_true]; exact .inl key) hh

section
variable {C : Cx} {s₀ s s' : Shared} {H₀ : List Addr} {k : Nat} {ρ ρ' ρ'' : Rho} {μ μ' μ₁ : Mu} {ds sc : Scope}

theorem EvF_dictN {s : Shared} {pos} (O : Ok C s) : EvF C s (.Dict [] [] pos) (.num C.prog C.w []) := fun s' E ks => by
  refine wpAny_Dict_empty ⟨keepsPush _ _, s'.heap.objs.size, _, rfl, Heap.get?_none_of_le (Nat.le_refl _), (O.later ks).notMods, Heap.get?_push_size _ rfl, [], ?_⟩
  obtain ⟨o, es, ep, e, h1, h2, h3, h4, h5⟩ := (Heap.DictOfH.new (knd := pk C.prog C.w) s'.heap)
  rw [Heap.get?_push_size _ rfl] at e
  cases e
  refine ⟨es, ep, h1, h2, h3, h5, NumX.mk rfl (fun x m => nomatch m) Els.nil⟩

theorem while2_ {σ : Type} (B : Bd C s₀ H₀ k s ρ μ) {test : Expr} {body : List Stmt} {pos : Pos} {Q : Flow → Shared → Prop} {E : Value → Shared → Prop} (N : Nat) (x₀ : σ) (J : Nat → σ → Prop) (ρf : σ → Rho) (μf : σ → Mu) (hJ : J N x₀) (hρ : ∀ p ∈ ρf x₀, p ∈ ρ) (hμ : ∀ p ∈ μf x₀, p ∈ μ)
    (step : ∀ s' n x E', J n x → Bd C s₀ H₀ k s' (ρf x) (μf x) → wpAny C.M C.A (isTrue test C.env (eval test C.env)) (fun b s₂ => if b then wpAny C.M C.A (execs body C.env) (fun f s₃ => match f with
        | .next | .cont => ∃ m y, m < n ∧ J m y ∧ Bd C s₀ H₀ k s₃ (ρf y) (μf y)
        | .brk => Q .next s₃
        | .ret v => Q (.ret v) s₃) E' s₂ else Q .next s₂) E' s') : wpAny C.M C.A (exec (.While test body [] pos) C.env) Q E s := by
  refine wpAny_While (codeAny_whileLoop (fun n s' => ∃ x, J n x ∧ Bd C s₀ H₀ k s' (ρf x) (μf x)) (fun n s' h => ?_) N ⟨x₀, hJ, (B.less hρ).lessM hμ⟩)
  obtain ⟨x, h1, h2⟩ := h
  refine wpAny_mono (step s' n x _ h1 h2) (fun b s₂ h₂ => ?_) fun _ _ e => e
  cases b with
  | true =>
    refine wpAny_mono h₂ (fun f s₃ h₃ => ?_) fun _ _ e => e
    cases f with
    | next => obtain ⟨m, y, a, b, c⟩ := h₃; exact ⟨m, a, y, b, c⟩
    | cont => obtain ⟨m, y, a, b, c⟩ := h₃; exact ⟨m, a, y, b, c⟩
    | brk => exact h₃
    | ret v => exact h₃
  | false => exact wpAny_execs_nil h₂

theorem rehide_own (B : Bd C s₀ H₀ k s ρ μ) {a : Addr} {V : MV} (hm : (a, V) ∈ μ) (hV : ∀ g o, V.P g o → o.cls = .type "dict") (ks : Keeps s s') (K : Addr) : ∀ c ∈ K :: C.H, c ∉ K :: (C.but a).H → ∀ o, s'.heap.get? c = some o → o.cls = .type "dict" := fun c hc hn o e => by
  have hca : c = a := by
    rcases List.mem_cons.mp hc with q | q
    · exact absurd (q ▸ .head _) hn
    · by_cases h : c = a
      · exact h
      · exact absurd (.tail _ (mem_but.mpr ⟨q, h⟩)) hn
  subst hca
  obtain ⟨_, o', e', h⟩ := B.own c V hm
  have := keepsKp ks c o' e'
  rw [e] at this; cases this
  exact hV _ _ h
theorem num_cls {prog : Program} {w : World} {nm : Num} (g : Heap) (o : Obj) (h : (MV.num prog w nm).P g o) : o.cls = .type "dict" := by
  obtain ⟨_, _, _, h1, _⟩ := h; exact h1.1
end


theorem mapO_at {α β : Type} {f : α → Option β} : ∀ {l : List α} {r : List β}, mapO f l = some r → ∀ {i : Nat} {x : α}, l[i]? = some x → ∃ b, f x = some b ∧ r[i]? = some b := by
  intro l
  induction l with
  | nil => intro r h i x hx; simp at hx
  | cons a t ih =>
    intro r h i x hx
    rw [mapO] at h
    cases ha : f a with
    | none => rw [ha] at h; cases h
    | some b =>
      rw [ha] at h
      cases ht : mapO f t with
      | none => rw [ht] at h; cases h
      | some bs =>
        rw [ht] at h; cases h
        cases i with
        | zero => simp at hx; subst hx; exact ⟨b, ha, rfl⟩
        | succ i => simp at hx; obtain ⟨c, h1, h2⟩ := ih ht hx; exact ⟨c, h1, by simpa using h2⟩
theorem flatten_len {α : Type} (n : Nat) : ∀ (l : List (List α)), (∀ x ∈ l, x.length ≤ n) → l.flatten.length ≤ n * l.length := by
  intro l
  induction l with
  | nil => intro _; simp
  | cons a r ih =>
    intro h
    rw [List.flatten_cons, List.length_append, List.length_cons, Nat.mul_succ]
    have h1 := h a (.head _)
    have h2 := ih fun x m => h x (.tail _ m)
    omega
theorem mapO_mem {α β : Type} {f : α → Option β} : ∀ {l : List α} {r : List β}, mapO f l = some r → ∀ b ∈ r, ∃ x ∈ l, f x = some b := by
  intro l
  induction l with
  | nil => intro r h b m; cases h; cases m
  | cons a t ih =>
    intro r h b m
    rw [mapO] at h
    cases ha : f a with
    | none => rw [ha] at h; cases h
    | some c =>
      rw [ha] at h
      cases ht : mapO f t with
      | none => rw [ht] at h; cases h
      | some bs =>
        rw [ht] at h; cases h
        rcases List.mem_cons.mp m with rfl | m
        · exact ⟨a, .head _, ha⟩
        · obtain ⟨x, h1, h2⟩ := ih ht b m; exact ⟨x, .tail _ h1, h2⟩
theorem allP_len {pb : Prob} {r : List Path} (h : allPermitted pb = some r) (hl : PbS pb) : r.length ≤ 64 := by
  unfold allPermitted at h
  cases hm : mapO (fun n => look n pb) (sortI (keys pb)) with
  | none => rw [hm] at h; cases h
  | some psl =>
    rw [hm] at h; cases h
    have h1 := flatten_len 8 psl fun x m => by
      obtain ⟨n, _, e⟩ := mapO_mem hm x m
      exact (hl.p _ (look_mem e)).1
    have h2 := mapO_len hm
    rw [sortI_len, keys_len] at h2
    have := hl.n
    omega

theorem all_permitted_ok {prog : Program} {w : World} {mg mb : Str → Option Value} {k : Nat} (pb : Prob) (r : List Path) (h : allPermitted pb = some r) (hl : PbS pb) :
    FOk prog w mg mb (defAt 13) (k + 1) [probV prog w pb] (.list (r.map pathV)) := by
  refine enter [("problem", probV prog w pb)] ["problem"] (mem_defs (by decide)) rfl rfl (fun pm code doc vs h => ?_) (by decide +kernel) (by decide +kernel) ⟨by decide +kernel, by decide +kernel, by decide +kernel⟩ fun C s₀ H₀ s hp hw hg hb hs hc hn B => ?_
  · match vs, h with
    | [a], _ => rfl
  · subst hp hw hg hb
    have hlen := allP_len h hl
    unfold allPermitted at h
    cases hm : mapO (fun n => look n pb) (sortI (keys pb)) with
    | none => rw [hm] at h; cases h
    | some psl =>
      rw [hm] at h
      have er : r = psl.flatten := (Option.some.inj h).symm
      subst er
      have e1 : psl.flatten.map pathV = (psl.map fun ps => ps.map pathV).flatten := by rw [List.map_flatten]
      rw [e1]
      refine wpAny_ret B (comp_two B hs hc ⟨by decide +kernel, by decide +kernel, by decide +kernel, by decide +kernel⟩ (Ev_sorted (f := fun l : List Path => VP.tup (l.map pathV)) B.ok (kind_of hs (by decide +kernel)) (B.ev (by k_mem)) hl.pb.n) iter_list (psl.map fun ps => ps.map pathV) (by rw [List.length_map, List.length_map, mapO_len hm]) (by rw [← e1, List.length_map]; omega)
        [("problem", probV C.prog C.w pb)] (cap_cons (by k_mem) (by decide +kernel) cap_nil) (by decide +kernel) (by decide +kernel) (by decide +kernel) (fun p m => by rw [List.mem_singleton.mp m]; show ("problem" : Str) ≠ "node"; decide +kernel) fun K H' g' s' i U Us hU hUs B' => ?_)
      obtain ⟨n, hn, rfl⟩ := map_at hU
      obtain ⟨ps, h1, h2⟩ := mapO_at hm hn
      have e := map_at2 hUs h2
      subst e
      exact ⟨.tup (ps.map pathV), Ev_item_dict (C := { C with env := cenv _ K C.env, H := H', g := g' }) (kvs := pb.map fun p => (p.1, .tup (p.2.map pathV))) (B'.ev (by k_mem)) (B'.ev (by k_mem)) (by rw [look_map fun l : List Path => VP.tup (l.map pathV), h1]; rfl), iter_tup⟩


def isReadyL (pb : Prob) (nm : Num) (p : Path) : Option Bool := match rimsL pb p with
  | none => none
  | some l => some ((l.filter fun rr => (lookP rr.2 nm).isNone).isEmpty)
def numOf (b : List Int) : Int := match b with | [] => 0 | _ :: _ => 1 + maxI b
def numberL (pb : Prob) (nm : Num) (p : Path) : Option Num := match rimsL pb p with
  | none => none
  | some l => match mapO (fun rr : Path × Path => lookP rr.2 nm) l with
    | none => none
    | some b => some (putP p (numOf b) nm)
def numberAllL (pb : Prob) : Num → List Path → Option Num
  | nm, [] => some nm
  | nm, p :: r => match numberL pb nm p with
    | none => none
    | some nm' => numberAllL pb nm' r
def peelL (pb : Prob) : Nat → Num → List Path → Option (Num × List Path)
  | 0, _, _ => none
  | k + 1, nm, left => match filtO (isReadyL pb nm) left with
    | none => none
    | some [] => some (nm, left)
    | some (a :: r) => match numberAllL pb nm (a :: r) with
      | none => none
      | some nm' => peelL pb k nm' (left.filter fun p => (lookP p nm').isNone)
def peeledL (pb : Prob) : Option (Num × List Path) := match allPermitted pb with | none => none | some l => peelL pb 12 [] l

theorem filtO_filter {α : Type} {f : α → Option Bool} : ∀ {l r : List α}, filtO f l = some r → r = l.filter fun n => f n == some true := by
  intro l
  induction l with
  | nil => intro r h; cases h; rfl
  | cons a t ih =>
    intro r h
    rw [filtO] at h
    cases ha : f a with
    | none => rw [ha] at h; cases h
    | some b =>
      rw [ha] at h
      cases ht : filtO f t with
      | none => rw [ht] at h; cases h
      | some bs =>
        rw [ht] at h
        have e : r = if b then a :: bs else bs := (Option.some.inj h).symm
        rw [e, List.filter_cons, ha, ← ih ht]
        cases b <;> rfl
theorem filtO_mem {α : Type} {f : α → Option Bool} : ∀ {l r : List α}, filtO f l = some r → ∀ n ∈ l, ∃ b, f n = some b := fun h => (filtO_some (fun _ => VP.none) h).2
theorem putP_len {p : Path} {n : Int} : ∀ {nm : Num}, (putP p n nm).length ≤ nm.length + 1 := by
  intro nm
  induction nm with
  | nil => simp [putP]
  | cons q r ih =>
    obtain ⟨a, x⟩ := q
    rw [putP]; split <;> simp <;> omega
theorem numberAllL_append (pb : Prob) : ∀ (l m : List Path) (nm : Num), numberAllL pb nm (l ++ m) = (match numberAllL pb nm l with | none => none | some nm' => numberAllL pb nm' m) := by
  intro l
  induction l with
  | nil => intro m nm; rfl
  | cons p r ih =>
    intro m nm
    rw [List.cons_append, numberAllL, numberAllL]
    cases numberL pb nm p with
    | none => rfl
    | some nm' => exact ih m nm'
def nmAt (pb : Prob) (nm : Num) (l : List Path) (i : Nat) : Num := match numberAllL pb nm (l.take i) with | none => nm | some q => q
theorem nmAt_some {pb : Prob} {nm : Num} {l : List Path} {q : Num} (h : numberAllL pb nm l = some q) (i : Nat) : numberAllL pb nm (l.take i) = some (nmAt pb nm l i) := by
  unfold nmAt
  cases e : numberAllL pb nm (l.take i) with
  | none =>
    have := numberAllL_append pb (l.take i) (l.drop i) nm
    rw [List.take_append_drop, e, h] at this
    cases this
  | some q => rfl
theorem nmAt_next {pb : Prob} {nm : Num} {l : List Path} {q : Num} (h : numberAllL pb nm l = some q) {i : Nat} {p : Path} (hp : l[i]? = some p) : numberL pb (nmAt pb nm l i) p = some (nmAt pb nm l (i + 1)) := by
  have h1 := nmAt_some h i
  have h2 := nmAt_some h (i + 1)
  rw [List.take_add_one, hp, Option.toList_some, numberAllL_append, h1] at h2
  have h2 : (match numberL pb (nmAt pb nm l i) p with | none => none | some nm' => numberAllL pb nm' []) = some (nmAt pb nm l (i + 1)) := h2
  cases e : numberL pb (nmAt pb nm l i) p with
  | none => rw [e] at h2; cases h2
  | some l => rw [e] at h2; exact h2
theorem numberL_len {pb : Prob} {nm q : Num} {p : Path} (h : numberL pb nm p = some q) : q.length ≤ nm.length + 1 := by
  unfold numberL at h
  cases hr : rimsL pb p with
  | none => rw [hr] at h; cases h
  | some l =>
    rw [hr] at h
    have h : (match mapO (fun rr : Path × Path => lookP rr.2 nm) l with | none => none | some b => some (putP p (numOf b) nm)) = some q := h
    cases hb : mapO (fun rr : Path × Path => lookP rr.2 nm) l with
    | none => rw [hb] at h; cases h
    | some b => rw [hb] at h; rw [← Option.some.inj h]; exact putP_len
theorem nmAt_len {pb : Prob} {nm : Num} {l : List Path} {q : Num} (h : numberAllL pb nm l = some q) : ∀ i, i ≤ l.length → (nmAt pb nm l i).length ≤ nm.length + i := by
  intro i
  induction i with
  | zero => intro _; exact Nat.le_refl _
  | succ i ih =>
    intro hi
    have := numberL_len (nmAt_next h (List.getElem?_eq_getElem (show i < l.length by omega)))
    have := ih (by omega)
    omega

theorem peelL_ready {pb : Prob} {k : Nat} {nm : Num} {left : List Path} {q : Num × List Path} (h : peelL pb (k + 1) nm left = some q) : ∃ rd, filtO (isReadyL pb nm) left = some rd ∧
    ((rd = [] ∧ q = (nm, left)) ∨ (rd ≠ [] ∧ ∃ nm', numberAllL pb nm rd = some nm' ∧ peelL pb k nm' (left.filter fun p => (lookP p nm').isNone) = some q)) := by
  rw [peelL] at h
  cases hf : filtO (isReadyL pb nm) left with
  | none => rw [hf] at h; cases h
  | some rd =>
    rw [hf] at h
    refine ⟨rd, rfl, ?_⟩
    cases rd with
    | nil => exact .inl ⟨rfl, (Option.some.inj h).symm⟩
    | cons a r =>
      refine .inr ⟨by simp, ?_⟩
      have h : (match numberAllL pb nm (a :: r) with | none => none | some nm' => peelL pb k nm' (left.filter fun p => (lookP p nm').isNone)) = some q := h
      cases hn : numberAllL pb nm (a :: r) with
      | none => rw [hn] at h; cases h
      | some nm' => rw [hn] at h; exact ⟨nm', rfl, h⟩
theorem isReadyL_some {pb : Prob} {nm : Num} {p : Path} {b : Bool} (h : isReadyL pb nm p = some b) : ∃ l, rimsL pb p = some l ∧ b = (l.filter fun rr => (lookP rr.2 nm).isNone).isEmpty := by
  unfold isReadyL at h
  cases hr : rimsL pb p with
  | none => rw [hr] at h; cases h
  | some l => rw [hr] at h; exact ⟨l, rfl, (Option.some.inj h).symm⟩
theorem rimsL_len {pb : Prob} {p : Path} {l : List (Path × Path)} (h : rimsL pb p = some l) (hl : PbS pb) : l.length ≤ 48 := by
  match p, h with
  | a :: t, h =>
    have h : (match look a pb with | none => none | some ps => match idxOf (a :: t) ps with | none => none | some i => some (rimsUpTo pb ps (i + 1))) = some l := h
    cases hps : look a pb with
    | none => rw [hps] at h; cases h
    | some ps =>
      rw [hps] at h
      have h : (match idxOf (a :: t) ps with | none => none | some i => some (rimsUpTo pb ps (i + 1))) = some l := h
      cases hj : idxOf (a :: t) ps with
      | none => rw [hj] at h; cases h
      | some j =>
        rw [hj] at h
        rw [← Option.some.inj h]
        obtain ⟨hsz, hq⟩ := hl.p _ (look_mem hps)
        have hsz : ps.length ≤ 8 := hsz
        have := rimsUpTo_len pb ps (fun q m => (hq q m).2) (j + 1)
        have := (List.getElem?_eq_some_iff.mp (idxOf_spec hj).1).1
        omega

/-- [rest for rim, rest in rims if rest not in numbers] -/
theorem filter_rests (nm : Num) (l : List (Path × Path)) : ((l.map fun rr => if (lookP rr.2 nm).isNone = true then some (pathV rr.2) else none).filterMap id).isEmpty = (l.filter fun rr => (lookP rr.2 nm).isNone).isEmpty := by
  induction l with
  | nil => rfl
  | cons a r ih =>
    rw [List.map_cons, List.filter_cons]
    by_cases h : (lookP a.2 nm).isNone = true
    · rw [if_pos h, if_pos h]; rfl
    · rw [if_neg h, if_neg h, ← ih]; rfl


def rdAt (pb : Prob) (nm : Num) (left : List Path) (i : Nat) : List Path := (left.take i).filter fun p => isReadyL pb nm p == some true

theorem peeled_ok {prog : Program} {w : World} {mg mb : Str → Option Value} {k : Nat} (pb : Prob) (r : Num × List Path) (h : peeledL pb = some r) (hl : PbS pb) :
    FOk prog w mg mb (defAt 16) (k + 3) [probV prog w pb] (.tup [VP.num prog w r.1, .list (r.2.map pathV)]) := by
  refine enter [("problem", probV prog w pb)] ["problem"] (mem_defs (by decide)) rfl rfl (fun pm code doc vs h => ?_) (by decide +kernel) (by decide +kernel) ⟨by decide +kernel, by decide +kernel, by decide +kernel⟩ fun C s₀ H₀ s hp hw hg hb hs hc hn B => ?_
  · match vs, h with
    | [a], _ => rfl
  · subst hp hw hg hb
    unfold peeledL at h
    cases hap : allPermitted pb with
    | none => rw [hap] at h; cases h
    | some left₀ =>
      rw [hap] at h
      have h : peelL pb 12 [] left₀ = some r := h
      have hlen₀ := allP_len hap hl
      have pn : Pl C "numbers" := .inr ⟨kind_of hs (by decide +kernel), cell_of hc (by decide +kernel), hn⟩
      have plft : Pl C "left" := .inl (kind_of hs (by decide +kernel))
      refine wpAny_seq (store_pair_own B (EvF_dictN B.ok) (fun a s₁ B₁ => Ev_call (C := { C with H := a :: C.H }) (d := defAt 13) (k := k + 2) (U := .list (left₀.map pathV)) B₁.ok B₁.room (all_permitted_ok pb left₀ hap hl) (mem_defs (by decide)) (kind_of hs (by decide +kernel)) (.cons (B₁.ev (by k_mem)) .nil)) pn plft (ρ' := [("problem", probV C.prog C.w pb)]) (by k_all)
        (fun a s₁ hm ha B₁ => ?_) (by decide +kernel) (fun p m => by rw [List.mem_singleton.mp m]; show ("problem" : Str) ≠ "left"; decide +kernel) rfl (swapped_none (by rw [kind_of hs (k := .cell) (by decide +kernel)]; rfl)))
      have haH : a ∉ H₀ := fun m => ha (B.sub a m)
      let C' : Cx := { C with H := a :: C.H }
      refine wpAny_seq (while2_ (C := C') (σ := Num × List Path) B₁ 12 ([], left₀) (fun n x => peelL pb n x.1 x.2 = some r ∧ x.1.length ≤ 64 * (12 - n) ∧ x.2.length ≤ 64 ∧ n ≤ 12) (fun x => [("numbers", VP.ex (.ref a)), ("left", .list (x.2.map pathV)), ("problem", probV C.prog C.w pb)]) (fun x => [(a, MV.num C.prog C.w x.1)]) ⟨h, by simp, hlen₀, by omega⟩ (by k_upd) (fun p m => m) fun s' n x E' hJ B' => ?_)
      obtain ⟨nm, left⟩ := x
      obtain ⟨hpeel, hnm, hlf, hn12⟩ := hJ
      have hnm : nm.length ≤ 64 * (12 - n) := hnm
      have hlf : left.length ≤ 64 := hlf
      cases n with
      | zero => cases hpeel
      | succ n =>
      obtain ⟨rd, hrd, hcase⟩ := peelL_ready (q := r) hpeel
      have hrdf := filtO_filter hrd
      refine (show Tst C' s' _ true from Tst_val Ev_bool).use (keepsRefl _) fun b s₂ k₂ hb => ?_
      have hb : b = true := hb
      subst hb
      rw [if_pos rfl]
      have B₂ := B'.later k₂
      -- ready = []
      refine wpAny_seq (own_storeL (C := C') B₂ (EvF_list B₂.ok .nil) (kind_of hs (by decide +kernel)) (ρ' := [("numbers", VP.ex (.ref a)), ("left", .list (left.map pathV)), ("problem", probV C.prog C.w pb)]) (by k_all) fun d s₃ hmd hd B₃ => ?_)
      have hda : d ≠ a := fun e => hd (e ▸ .head _)
      let C₂ : Cx := { C with H := d :: a :: C.H }
      -- for spoke in left
      refine wpAny_seq (for_ (C := C₂) B₃ (B₃.ev (x := "left") (T := .list (left.map pathV)) (by k_mem)) iter_list (fun i => True) (fun i => [("ready", VP.ex (.ref d)), ("numbers", VP.ex (.ref a)), ("left", .list (left.map pathV)), ("problem", probV C.prog C.w pb)])
        (fun i => [(d, MV.list ((rdAt pb nm left i).map pathV)), (a, MV.num C.prog C.w nm)]) trivial (fun p m => m) (fun p m => m) (fun H' g' s' i U v E' hcn hJ hU hv B' => ?_) fun s₄ hJ B₄ => ?_)
      · obtain ⟨p, hpi, rfl⟩ := map_at hU
        let C₃ : Cx := { C with H := H', g := g' }
        obtain ⟨b, hb⟩ := filtO_mem hrd p (List.mem_of_getElem? hpi)
        obtain ⟨l, hrl, eb⟩ := isReadyL_some hb
        have hll := rimsL_len hrl hl
        refine assign_name (Bd.storeL (C := C₃) (ρ' := [("ready", VP.ex (.ref d)), ("numbers", VP.ex (.ref a)), ("left", .list (left.map pathV)), ("problem", probV C.prog C.w pb)]) B' (x := "spoke") (kind_of hs (by decide +kernel)) hv (by k_all) fun s₄ B₄ => ?_)
        have Bs := B₄.shownN (nm := nm) (.tail _ (.head _)) haH hm (x := "numbers") (by k_mem)
        refine wpAny_seq (wpAny_if (C := C₃) (b := b) ?_ (fun s₅ k₅ e => ?_) fun s₅ k₅ e => ?_)
        · rw [eb, ← filter_rests]
          show Tst (C₃.but a) s₄ _ _
          refine Tst_cmp (C := C₃.but a) (comp_ (C := C₃.but a) Bs hs hc ⟨by decide +kernel, by decide +kernel, by decide +kernel, by decide +kernel⟩ (Ev_call (C := C₃.but a) (d := defAt 15) (k := k + 2) Bs.ok Bs.room (rims_of_ok pb p l hrl hl) (mem_defs (by decide)) (kind_of hs (by decide +kernel)) (.cons (Bs.ev (by k_mem)) (.cons (Bs.ev (by k_mem)) .nil))) iter_list
            (l.map fun rr => if (lookP rr.2 nm).isNone = true then some (pathV rr.2) else none) (by rw [List.length_map, List.length_map]) (by rw [List.length_map]; omega) [("numbers", VP.num C.prog C.w nm)] (cap_cons (by k_mem) (by decide +kernel) cap_nil) letsGo_tuple fun K H'' g'' s' i U rr v E' hU hr hv B' => ?_) (Ev_list Bs.ok .nil) (op_eq_nil Bs.ok)
          obtain ⟨q, hq, rfl⟩ := map_at hU
          have er := map_at2 hr hq
          refine assign_pair (C := { C with env := cenv _ K C.env, H := H'', g := g'' }) (T := pathV q.1) (U := pathV q.2) (ρ' := [("numbers", VP.num C.prog C.w nm)]) (ρ'' := [("numbers", VP.num C.prog C.w nm)]) B' hv (x := "rim") (y := "rest") (.inl (kind_c hs (by decide +kernel))) (.inl (kind_c hs (by decide +kernel))) (by k_all) (by k_all) fun s₅ B₅ => ⟨B₅.less (by k_upd), ?_, ?_⟩
          · have : rr.isSome = (lookP q.2 nm).isNone := by
              rw [er]; cases (lookP q.2 nm).isNone <;> rfl
            rw [this]
            exact tests_one (Tst_cmp (C := { C with env := cenv _ K C.env, H := H'', g := g'' }) (B₅.ev (by k_mem)) (B₅.ev (by k_mem)) (op_notin_num B₅.ok))
          · intro U hU
            rw [er] at hU
            split at hU
            · cases hU; exact B₅.ev (by k_mem)
            · cases hU
        · have B₅ := B₄.later k₅
          have hf : (rdAt pb nm left i).length ≤ 64 := Nat.le_trans (List.length_filter_le _ _) (Nat.le_trans (List.length_take_le' _ _) hlf)
          refine wpAny_seq (own_append (C := C₃) (T := pathV p) B₅ (by k_mem) (.head _) (B₅.ev (by k_mem)) (by rw [List.length_map]; omega) (μ' := [(a, MV.num C.prog C.w nm)]) (fun q m => by rw [List.mem_singleton.mp m]; exact ⟨hda.symm, .tail _ (.head _)⟩) fun s₆ B₆ => ?_)
          refine wpAny_execs_nil (wpAny_execs_nil ⟨trivial, ?_⟩)
          have ee : (rdAt pb nm left i).map pathV ++ [pathV p] = (rdAt pb nm left (i + 1)).map pathV := by
            unfold rdAt
            rw [List.take_add_one, hpi, Option.toList_some, List.filter_append, List.map_append, List.filter_cons, if_pos (by rw [hb, e]; rfl)]; rfl
          rw [ee] at B₆
          exact B₆.less (by k_upd)
        · refine wpAny_execs_nil (wpAny_execs_nil ⟨trivial, ?_⟩)
          have ee : rdAt pb nm left i = rdAt pb nm left (i + 1) := by
            unfold rdAt
            rw [List.take_add_one, hpi, Option.toList_some, List.filter_append, List.filter_cons, if_neg (by rw [hb, e]; decide)]; simp
          rw [← ee]
          exact (B₄.later k₅).less (by k_upd)
      · have en : rdAt pb nm left (left.map pathV).length = rd := by
          unfold rdAt
          rw [List.length_map, List.take_length]; exact hrdf.symm
        rw [en] at B₄
        have hrdl : rd.length ≤ 64 := by rw [hrdf]; exact Nat.le_trans (List.length_filter_le _ _) hlf
        have B₅ := B₂.free B₄ hd (.head _) (x := "ready") (by k_mem) (μ' := [(a, MV.num C.prog C.w nm)]) (fun q m => by rw [List.mem_singleton.mp m]; exact ⟨.tail _ (.head _), .head _⟩)
        have ei : rd.isEmpty = (rd.map pathV).isEmpty := by cases rd <;> rfl
        refine wpAny_seq (wpAny_if (C := C') (b := rd.isEmpty) (by rw [ei]; exact Tst_cmp (C := C') (B₅.ev (x := "ready") (T := .list (rd.map pathV)) (by k_mem)) (Ev_list B₅.ok .nil) (op_eq_nil B₅.ok)) (fun s₆ k₆ e => ?_) fun s₆ k₆ e => ?_)
        · have erd : rd = [] := List.isEmpty_iff.mp e
          have er : r = (nm, left) := by
            rcases hcase with ⟨_, h⟩ | ⟨h, _⟩
            · exact h
            · exact absurd erd h
          subst er
          have B₆ := B.freeN (B₅.later k₆) ha hm (.head _) (x := "numbers") (by k_mem) mu_show_nil
          show wpAny C.M C.A (execs _ C.env) _ _ _
          refine wpAny_mono (wpAny_ret B₆ (T := .tup [VP.num C.prog C.w nm, .list (left.map pathV)]) (Ev_tuple B₆.ok (.cons (B₆.ev (by k_mem)) (.cons (B₆.ev (by k_mem)) .nil)))) (fun f s₇ h₇ => ?_) fun _ _ e => e
          obtain ⟨v, rfl, h₇⟩ := h₇
          exact ⟨v, rfl, h₇⟩
        · have erd : rd ≠ [] := fun h => by rw [h] at e; cases e
          obtain ⟨nm', hna, hpl'⟩ : ∃ nm', numberAllL pb nm rd = some nm' ∧ peelL pb n nm' (left.filter fun p => (lookP p nm').isNone) = some r := by
            rcases hcase with ⟨h, _⟩ | ⟨_, h⟩
            · exact absurd h erd
            · exact h
          have B₆ := B₅.later k₆
          refine wpAny_execs_nil ?_
          refine wpAny_seq (for_ (C := C') B₆ (B₆.ev (x := "ready") (T := .list (rd.map pathV)) (by k_mem)) iter_list (fun i => True) (fun i => [("ready", .list (rd.map pathV)), ("numbers", VP.ex (.ref a)), ("left", .list (left.map pathV)), ("problem", probV C.prog C.w pb)])
            (fun i => [(a, MV.num C.prog C.w (nmAt pb nm rd i))]) trivial (by k_upd) (fun p m => m) (fun H' g' s' i U v E' hcn hJ hU hv B' => ?_) fun s₇ hJ B₇ => ?_)
          · obtain ⟨p, hpi, rfl⟩ := map_at hU
            have hnum := nmAt_next hna hpi
            have hnl := nmAt_len hna i (Nat.le_of_lt (List.getElem?_eq_some_iff.mp hpi).1)
            have hil := (List.getElem?_eq_some_iff.mp hpi).1
            generalize nmAt pb nm rd i = nmi at B' hnum hnl
            unfold numberL at hnum
            cases hrl : rimsL pb p with
            | none => rw [hrl] at hnum; cases hnum
            | some l =>
            rw [hrl] at hnum
            have hnum : (match mapO (fun rr : Path × Path => lookP rr.2 nmi) l with | none => none | some b => some (putP p (numOf b) nmi)) = some (nmAt pb nm rd (i + 1)) := hnum
            cases hbh : mapO (fun rr : Path × Path => lookP rr.2 nmi) l with
            | none => rw [hbh] at hnum; cases hnum
            | some bh =>
            rw [hbh] at hnum
            have enm : nmAt pb nm rd (i + 1) = putP p (numOf bh) nmi := (Option.some.inj hnum).symm
            rw [enm]
            have hll := rimsL_len hrl hl
            obtain ⟨hmap, hall⟩ := mapO_some VP.int hbh
            let C₃ : Cx := { C with H := H', g := g' }
            refine assign_name (Bd.storeL (C := C₃) (ρ' := [("ready", .list (rd.map pathV)), ("numbers", VP.ex (.ref a)), ("left", .list (left.map pathV)), ("problem", probV C.prog C.w pb)]) B' (x := "spoke") (kind_of hs (by decide +kernel)) hv (by k_all) fun s₄ B₄ => ?_)
            have Bs := B₄.shownN (nm := nmi) (.head _) haH hm (x := "numbers") (by k_mem)
            refine wpAny_seq (comp_store' (C := C₃) (C₃.but a).H B₄ (B₁ := Bs) hs hc ⟨by decide +kernel, by decide +kernel, by decide +kernel, by decide +kernel⟩ (Ev_call (C := C₃.but a) (d := defAt 15) (k := k + 2) Bs.ok Bs.room (rims_of_ok pb p l hrl hl) (mem_defs (by decide)) (kind_of hs (by decide +kernel)) (.cons (Bs.ev (by k_mem)) (.cons (Bs.ev (by k_mem)) .nil))) iter_list
              (l.map fun rr => (lookP rr.2 nmi).map VP.int) (by rw [List.length_map, List.length_map]) (by rw [List.length_map]; omega) [("numbers", VP.num C.prog C.w nmi)] (cap_cons (by k_mem) (by decide +kernel) cap_nil) letsGo_tuple (fun K H'' g'' s' i U rr v E' hU hr hv B' => ?_) (by decide +kernel)
              (fun D K s'' ks hK hv => ?_) (ρ₂ := [("spoke", pathV p), ("ready", .list (rd.map pathV)), ("numbers", VP.ex (.ref a)), ("left", .list (left.map pathV)), ("problem", probV C.prog C.w pb)]) (by k_all) fun s₅ B₅ => ?_)
            · obtain ⟨q, hq, rfl⟩ := map_at hU
              have er := map_at2 hr hq
              obtain ⟨n0, hn0⟩ := hall q (List.mem_of_getElem? hq)
              rw [hn0] at er
              have er : rr = some (VP.int n0) := er
              subst er
              exact assign_pair (C := { C with env := cenv _ K C.env, H := H'', g := g'' }) (T := pathV q.1) (U := pathV q.2) (ρ' := [("numbers", VP.num C.prog C.w nmi)]) (ρ'' := [("numbers", VP.num C.prog C.w nmi)]) B' hv (x := "rim") (y := "rest") (.inl (kind_c hs (by decide +kernel))) (.inl (kind_c hs (by decide +kernel))) (by k_all) (by k_all) fun s₅ B₅ => ⟨B₅.less (by k_upd), tests_nil, fun U hU => by
                cases hU
                exact Ev_item_num (C := { C with env := cenv _ K C.env, H := H'', g := g'' }) B₅.ok (B₅.ev (by k_mem)) (B₅.ev (by k_mem)) hn0⟩
            · rw [hmap] at hv ⊢
              exact rehide_listI (rehide_own B₄ (.head _) num_cls ks K) hv
            · rw [hmap] at B₅
              have hbl : bh.length ≤ 48 := by rw [mapO_len hbh]; exact hll
              refine wpAny_seq (own_setN (C := C₃) (n := numOf bh) (key := p) B₅ (by k_mem) (.head _) (Ev_if (b := !(bh.map VP.int).isEmpty) (Tst_cmp (C := C₃) (B₅.ev (x := "behind") (T := .list (bh.map VP.int)) (by k_mem)) (Ev_list B₅.ok .nil) (op_ne_nil B₅.ok)) (fun h => ?_) fun h => ?_) (B₅.ev (by k_mem)) (by omega) mu_nil fun s₆ B₆ => ?_)
              · cases bh with
                | nil => cases h
                | cons x y => exact Ev_bin (C := C₃) (T := .int 1) (U := .int (maxI (x :: y))) Ev_int (Ev_callB (id := "max") B₅.ok (by decide +kernel) (kind_of hs (by decide +kernel)) (.cons (B₅.ev (by k_mem)) .nil) (op_max B₅.ok (by simp))) op_add_int
              · cases bh with
                | nil => exact Ev_int
                | cons x y => cases h
              · exact wpAny_execs_nil ⟨trivial, B₆.less (by k_upd)⟩
          · have enm : nmAt pb nm rd (rd.map pathV).length = nm' := by
              have := nmAt_some hna (rd.map pathV).length
              rw [List.length_map, List.take_length, hna] at this
              rw [List.length_map]; exact (Option.some.inj this).symm
            rw [enm] at B₇
            have hnl := nmAt_len hna rd.length (Nat.le_refl _)
            rw [List.length_map] at enm
            rw [enm] at hnl
            have Bs := B₇.shownN (nm := nm') (.head _) haH hm (x := "numbers") (by k_mem)
            have hfs : (left.map fun p => if (lookP p nm').isNone = true then some (pathV p) else none).filterMap id = (left.filter fun p => (lookP p nm').isNone).map pathV := by
              generalize left = l
              induction l with
              | nil => rfl
              | cons x y ih =>
                rw [List.map_cons, List.filter_cons]
                by_cases h : (lookP x nm').isNone = true
                · rw [if_pos h, if_pos h, List.map_cons, ← ih]; rfl
                · rw [if_neg h, if_neg h, ← ih]; rfl
            refine wpAny_seq (comp_store' (C := C') (C'.but a).H B₇ (B₁ := Bs) hs hc ⟨by decide +kernel, by decide +kernel, by decide +kernel, by decide +kernel⟩ (Bs.ev (x := "left") (T := .list (left.map pathV)) (by k_mem)) iter_list
              (left.map fun p => if (lookP p nm').isNone = true then some (pathV p) else none) (by rw [List.length_map, List.length_map]) (by rw [List.length_map]; omega) [("numbers", VP.num C.prog C.w nm')] (cap_cons (by k_mem) (by decide +kernel) cap_nil) letsGo_name (fun K H'' g'' s' i U rr v E' hU hr hv B' => ?_) (by decide +kernel)
              (fun D K s'' ks hK hv => ?_) (ρ₂ := [("numbers", VP.ex (.ref a)), ("problem", probV C.prog C.w pb)]) (by k_all) fun s₅ B₅ => ?_)
            · obtain ⟨p, hp, rfl⟩ := map_at hU
              have er := map_at2 hr hp
              refine assign_name (Bd.storeL (C := { C with env := cenv _ K C.env, H := H'', g := g'' }) (ρ' := [("numbers", VP.num C.prog C.w nm')]) B' (x := "spoke") (kind_c hs (by decide +kernel)) hv (by k_all) fun s₅ B₅ => ⟨B₅.less (by k_upd), ?_, ?_⟩)
              · have : rr.isSome = (lookP p nm').isNone := by
                  rw [er]; cases (lookP p nm').isNone <;> rfl
                rw [this]
                exact tests_one (Tst_cmp (C := { C with env := cenv _ K C.env, H := H'', g := g'' }) (B₅.ev (by k_mem)) (B₅.ev (by k_mem)) (op_notin_num B₅.ok))
              · intro U hU
                rw [er] at hU
                split at hU
                · cases hU; exact B₅.ev (by k_mem)
                · cases hU
            · rw [hfs] at hv ⊢
              exact rehide_listP (rehide_own B₇ (.head _) num_cls ks K) hv
            · rw [hfs] at B₅
              exact wpAny_execs_nil ⟨n, (nm', left.filter fun p => (lookP p nm').isNone), Nat.lt_succ_self n, ⟨hpl', (show nm'.length ≤ 64 * (12 - n) by omega), Nat.le_trans (List.length_filter_le _ _) hlf, by omega⟩, B₅.less (by k_upd)⟩


theorem swapped_some {env : Env} {x y : Str} {px py tp vp : Pos} {kx vx} {e1 e2 : Expr} (h1 : env.kindOf x = some .local) (h2 : env.kindOf y = some .local) (hb : env.blockKind = .function) (hl : (px.line == py.line) = true) (hxy : (x == y) = false)
    (hs : (match e1 with | .Starred .. => true | _ => false) = false) (hs2 : (match e2 with | .Starred .. => true | _ => false) = false) (hf : ([e1, e2].all (foldedForSure 8)) = false) (hc : ([e1, e2].all (constantsAlone 8)) = false) :
    swappedStores [.Tuple [.Name x px, .Name y py] kx tp] (.Tuple [e1, e2] vx vp) env = pure (some [x, y]) := by
  have hl' : (py.line == px.line) = true := by rw [beq_iff_eq] at hl ⊢; exact hl.symm
  have hxy' : (y == x) = false := by
    rw [beq_eq_false_iff_ne] at hxy ⊢; exact fun e => hxy e.symm
  have key : ∀ f : Expr → Option Str, (∀ id pos, f (.Name id pos) = if (env.kindOf id == some .local && pos.line == px.line) = true then some id else none) → List.filterMap f [Expr.Name x px, Expr.Name y py] = [x, y] := fun f hf => by
    rw [List.filterMap_cons_some (b := x) (by rw [hf, h1]; simp), List.filterMap_cons_some (b := y) (by rw [hf, h2, hl']; rfl)]
    rfl
  have hd : [x, y].eraseDups = [x, y] := by
    simp [List.eraseDups_cons, hxy']
  unfold swappedStores
  simp only []
  rw [hb]
  split
  · rename_i h; exact absurd h (by simp)
  · split
    · rename_i h
      exfalso
      rw [List.any_cons, List.any_cons, List.any_nil, Bool.or_false, Bool.or_eq_true] at h
      rcases h with h | h
      · exact absurd (h.symm.trans (show _ = false from hs)) (by decide)
      · exact absurd (h.symm.trans (show _ = false from hs2)) (by decide)
    · split
      · rename_i h
        exfalso
        rw [key _ (fun _ _ => rfl), hd] at h
        exact absurd h (by simp)
      · rw [hf, hc]
        rw [key _ (fun _ _ => rfl)]
        rfl

section
variable {C : Cx} {s₀ s s' : Shared} {H₀ : List Addr} {k : Nat} {ρ ρ' ρ'' : Rho} {μ μ' μ₁ : Mu} {ds sc : Scope}
/-- x, y = (e1, e2), the second stored first -/
theorem assign_sw {M : Model} {A : Around} {env : Env} {s : Shared} {e1 e2 : Expr} {x y : Str} {px py tp pos vp : Pos} {kx vx} {Q : Flow → Shared → Prop} {E : Value → Shared → Prop}
    (h : wpAny M A (eval (.Tuple [e1, e2] vx vp) env) (fun v s₁ => wpAny M A (unpackItems v 2 none) (fun items s₂ => wpAny M A (assignInOrder [bindName env y, bindName env x] items.reverse) (fun _ => Q .next) E s₂) E s₁) E s)
    (hs : swapsWithSole [.Tuple [.Name x px, .Name y py] kx tp] (.Tuple [e1, e2] vx vp) pos.line env = pure false) (hw : swappedStores [.Tuple [.Name x px, .Name y py] kx tp] (.Tuple [e1, e2] vx vp) env = pure (some [x, y])) :
    wpAny M A (exec (.Assign [.Tuple [.Name x px, .Name y py] kx tp] (.Tuple [e1, e2] vx vp) pos) env) Q E s := by
  rw [exec_Assign_arm]
  refine wpAny_bind (wpAny_standAt ?_)
  rw [hs]
  refine wpAny_bind (wpAny_pure ?_)
  rw [if_neg (by decide)]
  refine wpAny_bind (wpAny_mono h (fun v s₁ h₁ => ?_) fun _ _ x => x)
  rw [hw]
  refine wpAny_bind (wpAny_pure ?_)
  show wpAny M A (rule "assign.swapped-stores" >>= fun _ => unpackItems v 2 none >>= fun items => assignInOrder [bindName env y, bindName env x] items.reverse >>= fun _ => pure .next) Q E s₁
  exact wpAny_bind (wpAny_rule (wpAny_bind (wpAny_mono h₁ (fun items s₂ h₂ => wpAny_bind (wpAny_mono h₂ (fun _ s₃ h₃ => wpAny_pure h₃) fun _ _ x => x)) fun _ _ x => x)))
theorem unpack_sw (B : Bd C s₀ H₀ k s ρ μ) {T U : VP} {v : Value} {x y : Str} {Q : Flow → Shared → Prop} {E : Value → Shared → Prop} (hv : (VP.tup [T, U]).P (C.v s) v) (hx : Pl C x) (hy : Pl C y)
    (hρ : ∀ p ∈ ρ', p.1 ≠ y ∧ p ∈ ρ) (hρ' : ∀ p ∈ ρ'', p.1 ≠ x ∧ p ∈ (y, U) :: ρ') (q : ∀ s', Bd C s₀ H₀ k s' ((x, T) :: ρ'') μ → Q .next s') :
    wpAny C.M C.A (unpackItems v 2 none) (fun items s₂ => wpAny C.M C.A (assignInOrder [bindName C.env y, bindName C.env x] items.reverse) (fun _ => Q .next) E s₂) E s := by
  obtain ⟨a, vs, n, rfl, d, e⟩ := hv
  have d' := hid_le _ _ d
  have hl : vs.size = 2 := by simpa using e.length.symm
  rw [← hl]
  refine unpackItems_tuple (items := vs) B.room.hd ⟨_, d', rfl, n, rfl⟩ fun h' he => ?_
  have ks : Keeps s { s with heap := h' } := ⟨h', s.toks, rfl, fun b o q => he b o (Nat.ne_of_lt (Heap.lt_size q)) q⟩
  obtain ⟨vl⟩ := vs
  obtain ⟨x0, y0, rfl, h1, h2⟩ := Els.two (show Els _ [T, U] vl from e)
  have B₁ := B.later ks
  show wpAny _ _ (assignInOrder [bindName C.env y, bindName C.env x] [y0, x0]) _ _ _
  refine wpAny_assignInOrder_more (wpAny_bindName (Bd.put B₁ hy (U.mono (keepsV ks) h2) hρ fun s₂ k₂ B₂ => ?_))
  exact wpAny_assignInOrder_more (wpAny_bindName (Bd.put B₂ hx (T.mono k₂ (T.mono (keepsV ks) h1)) hρ' fun s₃ _ B₃ => wpAny_assignInOrder_none (q s₃ B₃)))

theorem store_pair_own_sw (B : Bd C s₀ H₀ k s ρ μ) {e1 e2 : Expr} {V : MV} {U : VP} {x y : Str} {px py tp pos vp : Pos} {kx vx} {Q : Flow → Shared → Prop} {E : Value → Shared → Prop} (h1 : EvF C s e1 V)
    (h2 : ∀ a s₁, Bd { C with H := a :: C.H } s₀ H₀ k s₁ ρ ((a, V) :: μ) → Ev { C with H := a :: C.H } s₁ e2 U) (hx : Pl C x) (hy : Pl C y)
    (hρ : ∀ p ∈ ρ', p.1 ≠ y ∧ p ∈ ρ)
    (q : ∀ a s', (a == sysModules) = false → a ∉ C.H → Bd { C with H := a :: C.H } s₀ H₀ k s' ((x, VP.ex (.ref a)) :: (y, U) :: ρ') ((a, V) :: μ) → Q .next s')
    (hyx : y ≠ x) (hρx : ∀ p ∈ ρ', p.1 ≠ x)
    (hs : swapsWithSole [.Tuple [.Name x px, .Name y py] kx tp] (.Tuple [e1, e2] vx vp) pos.line C.env = pure false) (hw : swappedStores [.Tuple [.Name x px, .Name y py] kx tp] (.Tuple [e1, e2] vx vp) C.env = pure (some [x, y]))
    (he1 : starEach [e1, e2] C.env = (false, eval e1 C.env) :: starEach [e2] C.env := by rfl) (he2 : starEach [e2] C.env = (false, eval e2 C.env) :: starEach [] C.env := by rfl) :
    wpAny C.M C.A (exec (.Assign [.Tuple [.Name x px, .Name y py] kx tp] (.Tuple [e1, e2] vx vp) pos) C.env) Q E s := by
  refine assign_sw (wpAny_Tuple (wpAny_items_cons (wpAny_mono (h1 s E (keepsRefl _)) (fun v s₁ hv => ?_) fun _ _ e => e) he1)) hs hw
  obtain ⟨k₁, a, o, rfl, n, hm, l, hV⟩ := hv
  obtain ⟨ha, B₁⟩ := B.made (keepsRefl _) k₁ n l hV
  refine wpAny_items_cons ((h2 a s₁ B₁).use (keepsRefl _) fun v₂ s₂ k₂ hv₂ => wpAny_items_nil ⟨by rw [sizeLine_eq, List.length_cons, List.length_cons, List.length_nil]; omega, ?_⟩) he2
  have hpl : ∀ z, Pl C z → Pl { C with H := a :: C.H } z := fun z h => h
  have B₂ := B₁.later (k := k) (keepsTrans k₂ (keepsPush s₂ { cls := .type "tuple", data := .seq #[.ref a, v₂] }))
  refine unpack_sw (C := { C with H := a :: C.H }) (T := VP.ex (.ref a)) (U := U) B₂ ⟨_, _, 0, rfl, (B₁.later k₂).ok.push, .cons rfl (.cons (U.mono (hid_kp fun _ _ e => Heap.get?_push_of_some _ e) hv₂) .nil)⟩ (hpl x hx) (hpl y hy) hρ (ρ'' := (y, U) :: ρ') (fun p hp => ?_) fun s₃ B₃ => q a s₃ hm ha B₃
  rcases List.mem_cons.mp hp with rfl | hp
  · exact ⟨hyx, .head _⟩
  · exact ⟨hρx p hp, .tail _ hp⟩
end


def wheelL (pb : Prob) (nm : Num) : Nat → List (Path × Path) → Path → Bool
  | 0, _, _ => false
  | k + 1, row, sp => if ((row.map (·.1)).any fun q => decide (q = sp)) = true then true else match rimsL pb sp with
    | none => false
    | some l => match l.filter fun rr => (lookP rr.2 nm).isNone with
      | [] => false
      | rr :: _ => wheelL pb nm k (row ++ [(sp, rr.1)]) rr.2
/-- is there none? -/
def noWheel (pb : Prob) : Option Bool := match peeledL pb with
  | none => none
  | some (nm, left) => match left with
    | [] => some true
    | sp :: _ => if wheelL pb nm 12 [] sp = true then some false else none
def VP.refV : VP := ⟨fun _ v => ∃ a, v = .ref a, fun _ h => h⟩
def wheelV (b : Bool) : VP := if b = true then VP.none else VP.refV

theorem wheelL_next {pb : Prob} {nm : Num} {k : Nat} {row : List (Path × Path)} {sp : Path} (h : wheelL pb nm (k + 1) row sp = true) (hn : ((row.map (·.1)).any fun q => decide (q = sp)) = false) :
    ∃ l rr r, rimsL pb sp = some l ∧ (l.filter fun rr => (lookP rr.2 nm).isNone) = rr :: r ∧ wheelL pb nm k (row ++ [(sp, rr.1)]) rr.2 = true := by
  rw [wheelL, if_neg (by rw [hn]; decide)] at h
  cases hr : rimsL pb sp with
  | none => rw [hr] at h; cases h
  | some l =>
    rw [hr] at h
    have h : (match l.filter fun rr => (lookP rr.2 nm).isNone with | [] => false | rr :: _ => wheelL pb nm k (row ++ [(sp, rr.1)]) rr.2) = true := h
    cases hf : l.filter fun rr => (lookP rr.2 nm).isNone with
    | nil => rw [hf] at h; cases h
    | cons rr r => rw [hf] at h; exact ⟨l, rr, r, rfl, hf, h⟩
theorem filter_pairs (nm : Num) (l : List (Path × Path)) : (l.map fun rr => if (lookP rr.2 nm).isNone = true then some (rrV rr) else none).filterMap id = (l.filter fun rr => (lookP rr.2 nm).isNone).map rrV := by
  induction l with
  | nil => rfl
  | cons a r ih =>
    rw [List.map_cons, List.filter_cons]
    by_cases h : (lookP a.2 nm).isNone = true
    · rw [if_pos h, if_pos h, List.map_cons, ← ih]; rfl
    · rw [if_neg h, if_neg h, ← ih]; rfl
theorem ones (l : List (Path × Path)) : (l.map fun rr => some (pathV rr.1)).filterMap id = (l.map (·.1)).map pathV := by
  induction l with
  | nil => rfl
  | cons a r ih => simp only [List.map_cons]; rw [← ih]; rfl
theorem any_idx {p : Path} : ∀ {l : List Path}, (l.any fun q => decide (q = p)) = true → ∃ j : Nat, l[j]? = some p ∧ ∀ i : Nat, i < j → l[i]? ≠ some p := by
  intro l
  induction l with
  | nil => intro h; cases h
  | cons a r ih =>
    intro h
    by_cases e : a = p
    · exact ⟨0, by rw [e]; rfl, fun i hi => by omega⟩
    · rw [List.any_cons, show decide (a = p) = false from decide_eq_false e, Bool.false_or] at h
      obtain ⟨j, h1, h2⟩ := ih h
      refine ⟨j + 1, h1, fun i hi => ?_⟩
      cases i with
      | zero => exact fun h => e (Option.some.inj h)
      | succ i => exact h2 i (by omega)

theorem find_wheel_ok {prog : Program} {w : World} {mg mb : Str → Option Value} {k : Nat} (pb : Prob) (b : Bool) (h : noWheel pb = some b) (hl : PbS pb) :
    FOk prog w mg mb (defAt 17) (k + 4) [probV prog w pb] (wheelV b) := by
  refine enter [("problem", probV prog w pb)] ["problem"] (mem_defs (by decide)) rfl rfl (fun pm code doc vs h => ?_) (by decide +kernel) (by decide +kernel) ⟨by decide +kernel, by decide +kernel, by decide +kernel⟩ fun C s₀ H₀ s hp hw hg hb hs hc hn B => ?_
  · match vs, h with
    | [a], _ => rfl
  · subst hp hw hg hb
    unfold noWheel at h
    cases hpe : peeledL pb with
    | none => rw [hpe] at h; cases h
    | some q =>
      rw [hpe] at h
      obtain ⟨nm, left⟩ := q
      have pn : Pl C "numbers" := .inr ⟨kind_of hs (by decide +kernel), cell_of hc (by decide +kernel), hn⟩
      refine wpAny_seq (store_pair B (T := VP.num C.prog C.w nm) (U := .list (left.map pathV)) (Ev_call (d := defAt 16) (k := k + 3) B.ok B.room (peeled_ok pb (nm, left) hpe hl) (mem_defs (by decide)) (kind_of hs (by decide +kernel)) (.cons (B.ev (by k_mem)) .nil)) pn (.inl (kind_of hs (by decide +kernel))) (ρ' := [("problem", probV C.prog C.w pb)]) (by k_all) (ρ'' := [("numbers", VP.num C.prog C.w nm), ("problem", probV C.prog C.w pb)]) (by k_all) fun s₁ B₁ => ?_)
      have ei : left.isEmpty = (left.map pathV).isEmpty := by cases left <;> rfl
      refine wpAny_seq (wpAny_if (b := left.isEmpty) (by rw [ei]; exact Tst_cmp (B₁.ev (x := "left") (T := .list (left.map pathV)) (by k_mem)) (Ev_list B₁.ok .nil) (op_eq_nil B₁.ok)) (fun s₂ k₂ e => ?_) fun s₂ k₂ e => wpAny_execs_nil ?_)
      · cases left with
        | cons _ _ => cases e
        | nil =>
          have eb : b = true := (Option.some.inj (show some true = some b from h)).symm
          subst eb
          refine wpAny_mono (wpAny_ret (B₁.later k₂) (T := VP.none) Ev_none) (fun f s₇ h₇ => ?_) fun _ _ e => e
          obtain ⟨v, rfl, h₇⟩ := h₇
          exact ⟨v, rfl, h₇⟩
      · cases left with
        | nil => cases e
        | cons sp₀ lr =>
          have h : (if wheelL pb nm 12 [] sp₀ = true then some false else none) = some b := h
          by_cases hw : wheelL pb nm 12 [] sp₀ = true
          case neg => rw [if_neg hw] at h; cases h
          rw [if_pos hw] at h
          have eb : b = false := (Option.some.inj h).symm
          subst eb
          have B₂ := B₁.later k₂
          have klr : C.env.kindOf "row" = some .local := kind_of hs (by decide +kernel)
          have kls : C.env.kindOf "spoke" = some .local := kind_of hs (by decide +kernel)
          refine wpAny_seq (store_pair_own_sw B₂ (EvF_list B₂.ok .nil) (U := pathV sp₀) (fun a s₁ B₁ => Ev_item_list (C := { C with H := a :: C.H }) (k := 0) (Ts := (sp₀ :: lr).map pathV) (B₁.ev (by k_mem)) Ev_int rfl (by decide)) (.inl klr) (.inl kls) (ρ' := [("numbers", VP.num C.prog C.w nm), ("problem", probV C.prog C.w pb)]) (by k_all)
            (fun a s₃ hm ha B₃ => ?_) (by decide +kernel) (fun p m => by
              rcases List.mem_cons.mp m with rfl | m
              · show ("numbers" : Str) ≠ "row"; decide +kernel
              · rw [List.mem_singleton.mp m]; show ("problem" : Str) ≠ "row"; decide +kernel) rfl (swapped_some klr kls (by unfold Env.blockKind; rw [hs]; decide +kernel) (by decide +kernel) (by decide +kernel) rfl rfl rfl rfl))
          have haH : a ∉ H₀ := fun m => ha (B.sub a m)
          let C' : Cx := { C with H := a :: C.H }
          refine wpAny_seq (while2_ (C := C') (σ := List (Path × Path) × Path) B₃ 12 ([], sp₀) (fun n x => wheelL pb nm n x.1 x.2 = true ∧ x.1.length ≤ 12 - n ∧ n ≤ 12) (fun x => [("row", VP.ex (.ref a)), ("spoke", pathV x.2), ("numbers", VP.num C.prog C.w nm), ("problem", probV C.prog C.w pb)]) (fun x => [(a, MV.list (x.1.map rrV))]) ⟨hw, by simp, by omega⟩ (by k_upd) (fun p m => m) fun s' n x E' hJ B' => ?_)
          obtain ⟨row, sp⟩ := x
          obtain ⟨hwh, hrow, hn12⟩ := hJ
          have hrow : row.length ≤ 12 - n := hrow
          cases n with
          | zero => cases hwh
          | succ n =>
          have Bs := B'.shownL (.head _) haH (x := "row") (by k_mem)
          refine wpAny_mono ((?_ : Tst C' s' _ (!((row.map (·.1)).any fun q => decide (q = sp)))) s' E' (keepsRefl _)) (fun c s₄ hh => ?_) fun _ _ e => e
          · show Tst (C'.but a) s' _ _
            refine Tst_cmp (C := C'.but a) (T := pathV sp) (U := .list ((row.map (·.1)).map pathV)) (Bs.ev (by k_mem)) ?_ (op_notin_list fam_path Bs.ok)
            rw [← ones]
            refine comp_ (C := C'.but a) Bs hs hc ⟨by decide +kernel, by decide +kernel, by decide +kernel, by decide +kernel⟩ (Bs.ev (x := "row") (T := .list (row.map rrV)) (by k_mem)) iter_list
              _ (by rw [List.length_map, List.length_map]) (by rw [List.length_map]; omega) [] cap_nil letsGo_tuple fun K H'' g'' s' i U rr v E' hU hr hv B' => ?_
            obtain ⟨q, hq, rfl⟩ := map_at hU
            have er := map_at2 hr hq
            subst er
            exact assign_pair (C := { C with env := cenv _ K C.env, H := H'', g := g'' }) (T := pathV q.1) (U := pathV q.2) (ρ' := []) (ρ'' := [("one", pathV q.1)]) B' hv (x := "one") (y := "rim") (.inl (kind_c hs (by decide +kernel))) (.inl (kind_c hs (by decide +kernel))) (by k_all) (by k_all) fun s₅ B₅ => ⟨B₅.less (by k_upd), tests_nil, fun U hU => by
              cases hU
              exact B₅.ev (by k_mem)⟩
          obtain ⟨k₄, hc'⟩ := hh
          have hc' : c = !((row.map (·.1)).any fun q => decide (q = sp)) := hc'
          have B₄ := B'.later k₄
          cases hany : (row.map (·.1)).any fun q => decide (q = sp) with
          | false =>
            rw [hany] at hc'
            subst hc'
            rw [if_pos (show (!false) = true from rfl)]
            obtain ⟨l, rr, r, hrl, hfl, hwn⟩ := wheelL_next hwh hany
            have hll := rimsL_len hrl hl
            refine wpAny_seq (store_pair (C := C') B₄ (T := pathV rr.1) (U := pathV rr.2) (Ev_item_list (C := C') (k := 0) (Ts := (l.filter fun rr => (lookP rr.2 nm).isNone).map rrV) ?_ Ev_int (by rw [hfl]; rfl) (by decide)) (.inl (kind_of hs (by decide +kernel))) (.inl (kind_of hs (by decide +kernel))) (ρ' := [("row", VP.ex (.ref a)), ("spoke", pathV sp), ("numbers", VP.num C.prog C.w nm), ("problem", probV C.prog C.w pb)]) (by k_all)
              (ρ'' := [("rim", pathV rr.1), ("row", VP.ex (.ref a)), ("spoke", pathV sp), ("numbers", VP.num C.prog C.w nm), ("problem", probV C.prog C.w pb)]) (by k_all) fun s₅ B₅ => ?_)
            · rw [← filter_pairs]
              refine comp_ (C := C') B₄ hs hc ⟨by decide +kernel, by decide +kernel, by decide +kernel, by decide +kernel⟩ (Ev_call (C := C') (d := defAt 15) (k := k + 3) B₄.ok B₄.room (rims_of_ok pb sp l hrl hl) (mem_defs (by decide)) (kind_of hs (by decide +kernel)) (.cons (B₄.ev (by k_mem)) (.cons (B₄.ev (by k_mem)) .nil))) iter_list
                _ (by rw [List.length_map, List.length_map]) (by rw [List.length_map]; omega) [("numbers", VP.num C.prog C.w nm)] (cap_cons (by k_mem) (by decide +kernel) cap_nil) letsGo_name fun K H'' g'' s' i U rr v E' hU hr hv B' => ?_
              obtain ⟨q, hq, rfl⟩ := map_at hU
              have er := map_at2 hr hq
              refine assign_name (Bd.storeL (C := { C with env := cenv _ K C.env, H := H'', g := g'' }) (ρ' := [("numbers", VP.num C.prog C.w nm)]) B' (x := "pair") (kind_c hs (by decide +kernel)) hv (by k_all) fun s₅ B₅ => ⟨B₅.less (by k_upd), ?_, ?_⟩)
              · have : rr.isSome = (lookP q.2 nm).isNone := by
                  rw [er]; cases (lookP q.2 nm).isNone <;> rfl
                rw [this]
                exact tests_one (Tst_cmp (C := { C with env := cenv _ K C.env, H := H'', g := g'' }) (T := pathV q.2) (Ev_item_tup (k := 1) (Ts := [pathV q.1, pathV q.2]) (B₅.ev (by k_mem)) Ev_int rfl (by decide)) (B₅.ev (by k_mem)) (op_notin_num B₅.ok))
              · intro U hU
                rw [er] at hU
                split at hU
                · cases hU; exact B₅.ev (by k_mem)
                · cases hU
            · refine wpAny_seq (own_append (C := C') (T := rrV (sp, rr.1)) B₅ (by k_mem) (.head _) (Ev_tuple B₅.ok (.cons (B₅.ev (by k_mem)) (.cons (B₅.ev (by k_mem)) .nil))) (by rw [List.length_map]; omega) mu_nil fun s₆ B₆ => ?_)
              refine wpAny_seq (store_ (C := C') B₆ (T := pathV rr.2) (B₆.ev (by k_mem)) (.inl kls) (ρ' := [("row", VP.ex (.ref a)), ("numbers", VP.num C.prog C.w nm), ("problem", probV C.prog C.w pb)]) (by k_all) fun s₇ B₇ => ?_)
              have ee : row.map rrV ++ [rrV (sp, rr.1)] = (row ++ [(sp, rr.1)]).map rrV := by rw [List.map_append]; rfl
              rw [ee] at B₇
              exact wpAny_execs_nil ⟨n, (row ++ [(sp, rr.1)], rr.2), Nat.lt_succ_self n, ⟨hwn, (by show (row ++ [(sp, rr.1)]).length ≤ 12 - n; rw [List.length_append, List.length_singleton]; omega), by omega⟩, B₇.less (by k_upd)⟩
          | true =>
            rw [hany] at hc'
            subst hc'
            rw [if_neg (show ¬ (!true) = true by decide)]
            obtain ⟨j, hj1, hj2⟩ := any_idx hany
            have B₅ := B.free B₄ ha (.head _) (x := "row") (by k_mem) mu_show_nil
            show wpAny C.M C.A (execs _ C.env) _ _ _
            refine wpAny_mono (wpAny_ret B₅ (T := VP.list ((row.map rrV).drop j)) ?_) (fun f s₇ h₇ => ?_) fun _ _ e => e
            · refine Ev_list_slice (lo := some (j : Int)) (hi := none) (st := none) (Ts := row.map rrV) B₅.ok (B₅.ev (x := "row") (T := .list (row.map rrV)) (by k_mem)) (.int (Ev_meth (T := .list ((row.map (·.1)).map pathV)) (meth_list PySem.F.slot_list_index PySem.F.type_list_index) ?_ (.cons (B₅.ev (by k_mem)) .nil) (op_index fam_path B₅.ok hj1 hj2 (by rw [List.length_map]; omega)))) .none .none (by decide) (by rw [List.length_map]; omega) (fun g vs hE => by rw [slicePick_from']; simpa using hE.drop j)
              rw [← ones]
              refine comp_ B₅ hs hc ⟨by decide +kernel, by decide +kernel, by decide +kernel, by decide +kernel⟩ (B₅.ev (x := "row") (T := .list (row.map rrV)) (by k_mem)) iter_list
                _ (by rw [List.length_map, List.length_map]) (by rw [List.length_map]; omega) [] cap_nil letsGo_tuple fun K H'' g'' s' i U rr v E' hU hr hv B' => ?_
              obtain ⟨q, hq, rfl⟩ := map_at hU
              have er := map_at2 hr hq
              subst er
              exact assign_pair (C := { C with env := cenv _ K C.env, H := H'', g := g'' }) (T := pathV q.1) (U := pathV q.2) (ρ' := []) (ρ'' := [("one", pathV q.1)]) B' hv (x := "one") (y := "rim") (.inl (kind_c hs (by decide +kernel))) (.inl (kind_c hs (by decide +kernel))) (by k_all) (by k_all) fun s₅ B₅ => ⟨B₅.less (by k_upd), tests_nil, fun U hU => by
                cases hU
                exact B₅.ev (by k_mem)⟩
            obtain ⟨v, rfl, ks, ad, vs, nn, rfl, _⟩ := h₇
            exact ⟨_, rfl, ks, ad, rfl⟩

/-- what a body comes to that changes the thing at p -/
def BackM (s₀ : Shared) (H₀ : List Addr) (p : Addr) (T : VP) (V' : MV) (f : Flow) (s' : Shared) : Prop := ∃ v, f = .ret v ∧ Keeps s₀ s' ∧ T.P (hid H₀ s'.heap) v ∧ ∃ o, s'.heap.get? p = some o ∧ V'.P (hid H₀ s'.heap) o
/-- into a def -/
theorem enter_mut {prog : Program} {w : World} {mg mb : Str → Option Value} {d : DefRec} {k : Nat} {T : VP} {p : Addr} {V V' : MV} (ρ : Rho) (xs : List Str) (hd : d ∈ defs) (hx : ρ.map (·.1) = xs)
    (hb : ∀ pm code doc vs, vs.length = xs.length → bindArgs (docDef d.name d.params d.body d.scope pm code doc) ⟨vs, []⟩ = pure (xs.zip vs))
    (hk : xs.all (fun x => d.scope.names.lookup x == some .local || d.scope.names.lookup x == some .cell) = true) (hnd : xs.Nodup)
    (hf : d.scope.isCoroutine = false ∧ d.scope.isGenerator = false ∧ d.scope.kind = .function)
    (h : ∀ C s₀ H₀ s, C.prog = prog → C.w = w → C.mg = mg → C.mb = mb → C.env.scope = d.scope → C.env.cells = cellsFrom (C.env.locals + 1) d.scope.names [] → CellsNew C → p ∈ H₀ → Bd C s₀ H₀ k s ρ [(p, V)] →
      wpAny C.M C.A (execs d.body C.env) (BackM s₀ H₀ p T V') (fun _ _ => False) s)
    (s : Shared) (A : Around) (H : List Addr) (f : Addr) (args : List Value) (R : Result → Shared → Prop) (W : Wld mg mb (hid [p] s.heap)) (hg : mg d.name = some (.ref f)) (RM : Room (k + 1) A) (low : ∀ a ∈ H, ∃ o, s.heap.get? a = some o) (hp : p ∈ H)
    (hargs : Els (hid H s.heap) (ρ.map (·.2)) args) (hpo : ∃ o, s.heap.get? p = some o ∧ V.P (hid H s.heap) o)
    (hR : ∀ v s', But p s s' → T.P (hid H s'.heap) v → (∃ o, s'.heap.get? p = some o ∧ V'.P (hid H s'.heap) o) → R (.ok (.ret v)) s') : codeAny (model prog w) A (.call (.ref f) ⟨args, []⟩) R s := by
  generalize hT : ρ.map (·.2) = Ts at hargs
  have hlen : Ts.length = xs.length := by rw [← hx, ← hT]; simp
  have hρ : ∀ {x U}, (x, U) ∈ ρ → (x, U) ∈ xs.zip Ts := fun {x U} m => by rw [← hx, ← hT]; exact zip_maps m
  obtain ⟨a, o, pm, code, doc, h1, h2, h3, h4⟩ := W.fn d hd
  have h2 := hid_le _ _ h2
  have h4 := h4.keeps (hid_le (H := [p]))
  rw [hg] at h1; cases h1
  have hkind : ∀ x ∈ xs.zip args, d.scope.names.lookup x.1 = some .local ∨ d.scope.names.lookup x.1 = some .cell := fun x hx => by
    have hm : x.1 ∈ xs := (List.of_mem_zip hx).1
    have := List.all_eq_true.mp hk _ hm
    rcases Bool.or_eq_true_iff.mp this with q | q
    · exact .inl (by simpa using q)
    · exact .inr (by simpa using q)
  refine call_cells_ret (by have := RM.depth; show A.depth < 1000; omega) h2 h3 (W.lim.keeps (hid_le (H := [p]))) h4 (hb pm code doc args (by rw [← hargs.length, hlen])) (fun x hx => ?_) (fun h₁ tk F X => ?_) hf.1 hf.2.1 hf.2.2
  · exact (hkind x hx).imp id fun q => ⟨q, cellsFrom_some _ _ _ (.inl q)⟩
  · have hzip : (xs.zip args).map (·.1) = xs := by
      rw [List.map_fst_zip]; rw [← hargs.length, hlen]; exact Nat.le_refl _
    let env := envOfC d.name d.scope s.heap.objs.size f code
    let own : List Addr := s.heap.objs.size :: (cellsFrom (s.heap.objs.size + 1) d.scope.names []).filterMap fun p => (cellsFrom (s.heap.objs.size + 1) d.scope.names []).lookup p.1
    have hnew : ∀ b, s.heap.objs.size ≤ b → s.heap.get? b = none := fun b hb => Heap.get?_none_of_le hb
    have hcell : ∀ n c, (cellsFrom (s.heap.objs.size + 1) d.scope.names []).lookup n = some c → c ∈ own := fun n c e => List.mem_cons_of_mem _ (List.mem_filterMap.mpr ⟨_, mem_of_lookup e, e⟩)
    have hown : ∀ b ∈ own, s.heap.get? b = none := fun b hb => by
      rcases List.mem_cons.mp hb with rfl | hb
      · exact hnew _ (Nat.le_refl _)
      · obtain ⟨p, hm, e⟩ := List.mem_filterMap.mp hb
        exact hnew _ (Nat.le_of_lt (X.above p.1 b (mem_of_lookup e)))
    have key := h ⟨prog, w, mg, mb, A.deeper env, env, own ++ H, hid [p] s.heap⟩ { s with heap := hid [p] s.heap } H { s with heap := h₁, toks := tk } rfl rfl rfl rfl rfl rfl (fun n c e => new_of_keep hid_le (hown c (hcell n c e))) hp
      { low := fun b hb => by
          rcases List.mem_append.mp hb with hb | hb
          · rcases List.mem_cons.mp hb with rfl | hb
            · obtain ⟨ob, es, ep, e, _⟩ := F.ns
              exact ⟨_, e⟩
            · obtain ⟨p, hm, e⟩ := List.mem_filterMap.mp hb
              obtain ⟨ob, g, _⟩ := X.cell p.1 b e
              exact ⟨ob, g⟩
          · obtain ⟨ob, e⟩ := low b hb; exact ⟨ob, F.keep _ _ e⟩
        room := RM.deeper
        kind := hf.2.2
        gl := rfl
        bl := rfl
        w0 := W
        base := Kp.refl _
        keep := (hid_le (H := [p])).trans F.keep
        sm := ⟨h₁, tk, rfl⟩
        own := fun a W m => by
          obtain ⟨o, e, hV⟩ := hpo
          rw [List.mem_singleton] at m
          cases m
          refine ⟨⟨List.mem_append_right _ hp, ⟨fun q => ?_, fun n c l q => ?_⟩, hideAll_none _ (.head _)⟩, o, F.keep _ _ e, V.mono (hid_new F.keep hown) hV⟩
          · rw [q] at e; exact absurd (e.symm.trans (hnew _ (Nat.le_refl _))) (by simp)
          · rw [q] at e; exact absurd (e.symm.trans (hown c (hcell n c l))) (by simp)
        wf := ⟨⟨_, F.ns⟩, .head _, fun n c e => ⟨⟨_, X.cell n c e⟩, List.mem_append_left _ (hcell n c e), Nat.ne_of_gt (X.above n c (mem_of_lookup e))⟩, fun n n' c e e' => name_of_addr X.apart (mem_of_lookup e) (mem_of_lookup e')⟩
        loc := new_of_keep hid_le (hnew _ (Nat.le_refl _))
        sub := fun b hb => List.mem_append_right _ hb
        vars := fun x U m => by
          obtain ⟨v, hv, hp⟩ := hargs.zip xs (hρ m)
          refine ⟨v, ?_, U.mono (hid_new F.keep hown) hp⟩
          rcases hkind _ hv with q | q
          · exact .inl ⟨q, _, F.ns, bindL_get _ _ (by rw [hzip]; exact hnd) hv q⟩
          · obtain ⟨c, hc⟩ := Option.isSome_iff_exists.mp (cellsFrom_some (x := x) d.scope.names (s.heap.objs.size + 1) [] (.inl q))
            refine .inr ⟨q, c, hc, ?_⟩
            have := X.cell x c hc
            rw [bindC_get _ _ (by rw [hzip]; exact hnd) hv q] at this
            exact this }
    refine wpAny_mono key (fun fl s' hb => ?_) fun _ _ x => x
    obtain ⟨v, rfl, ks, hv, hq⟩ := hb
    obtain ⟨h2', t2, e2, kp2⟩ := ks
    have e2' : s' = { s with heap := h2', toks := t2 } := by rw [e2]
    refine hR v s' ⟨h2', t2, e2', fun b o hb e => kp2 b o (hideAll_get _ e fun m => hb (List.mem_singleton.mp m))⟩ hv hq


/-! a list of one's own whose items are set -/
def MV.wl (Ts : List VP) : MV := ⟨fun g o => o.cls = .type "list" ∧ ∃ vs n, o.data = .seq vs n ∧ Els g Ts vs.toList, fun k h => by
  obtain ⟨c, vs, n, e, x⟩ := h; exact ⟨c, vs, n, e, x.mono k⟩⟩
def VP.wl (Ts : List VP) : VP := ⟨fun g v => ∃ a vs, v = .ref a ∧ g.IsList a vs ∧ Els g Ts vs.toList, fun k h => by
  obtain ⟨a, vs, e, ⟨o, h1, h2⟩, x⟩ := h; exact ⟨a, vs, e, ⟨o, k _ _ h1, h2⟩, x.mono k⟩⟩
theorem MV.wl_of {Ts : List VP} {g : Heap} {o : Obj} (h : (MV.list Ts).P g o) : (MV.wl Ts).P g o := by
  obtain ⟨vs, n, rfl, x⟩ := h; exact ⟨rfl, vs, n, rfl, x⟩
theorem wl_typeIs {C : Cx} {Ts : List VP} (s : Shared) (v : Value) (h : (VP.wl Ts).P (C.v s) v) : s.TypeIs v "list" := by
  obtain ⟨a, vs, rfl, ⟨o, d, hc, _⟩, _⟩ := h
  exact ⟨o, hid_le _ _ d, hc⟩
theorem op_item_wl {C : Cx} {s : Shared} {Ts : List VP} {k : Nat} {T : VP} (h : Ts[k]? = some T) (hk : k < 1000) : Op2 C s getItem (.wl Ts) (.int k) T.P := fun s' E x y ks hx ⟨t, hy⟩ => by
  subst hy
  obtain ⟨a, vs, rfl, ⟨o, d, hc⟩, x⟩ := hx
  obtain ⟨v, h1, h2⟩ := x.get h
  exact wpAny_getItem_list (items := vs) ⟨o, hid_le _ _ d, hc⟩ (by omega) (by omega) (by simpa using h1) ⟨keepsRefl _, h2⟩
theorem Ev_item_wl {C : Cx} {s : Shared} {value slice : Expr} {Ts : List VP} {k : Nat} {T : VP} {pos} (hv : Ev C s value (.wl Ts)) (hi : Ev C s slice (.int k)) (h : Ts[k]? = some T) (hk : k < 1000)
    (hs : ∀ o i, ∃ ops, subscripted slice false o i = operate ops (getItem o i) := by intro o i; exact ⟨_, rfl⟩) : Ev C s (.Subscript value slice pos) T :=
  Ev_sub hv hi wl_typeIs slot_list_getitem.lookup (op_item_wl h hk) hs
theorem Els.set {g : Heap} {T : VP} {v : Value} (hv : T.P g v) : ∀ {Ts : List VP} {vs : List Value}, Els g Ts vs → ∀ i, Els g (Ts.set i T) (vs.set i v) := by
  intro Ts vs h
  induction h with
  | nil => intro i; exact .nil
  | cons a t ih =>
    intro i
    cases i with
    | zero => exact .cons hv t
    | succ i => exact .cons a (ih i)
section
variable {C : Cx} {s₀ s s' : Shared} {H₀ : List Addr} {k : Nat} {ρ ρ' ρ'' : Rho} {μ μ' μ₁ : Mu} {ds sc : Scope}
theorem Bd.loose (B : Bd C s₀ H₀ k s ρ μ) : Bd C s₀ [] k s ρ μ := { B with sub := fun _ m => nomatch m }
theorem Bd.shownW (B : Bd C s₀ H₀ k s ρ μ) {a : Addr} {Ts : List VP} (hm : (a, MV.wl Ts) ∈ μ) {x : Str} (hx : (x, VP.ex (.ref a)) ∈ ρ) : Bd (C.but a) s₀ [] k s ((x, .wl Ts) :: ρ) [] :=
  B.loose.shown hm (fun m => nomatch m) hx fun o e hV => by obtain ⟨hc, vs, n, hd, hE⟩ := hV; exact ⟨a, vs, rfl, ⟨o, e, hc, n, hd⟩, hE⟩
/-- x[i] = e -/
theorem own_setW (B : Bd C s₀ H₀ k s ρ μ) {a : Addr} {x : Str} {e ev : Expr} {i : Nat} {T : VP} {Ts : List VP} {px sp pos : Pos} {Q : Flow → Shared → Prop} {E : Value → Shared → Prop} (hx : (x, VP.ex (.ref a)) ∈ ρ) (ha : (a, MV.wl Ts) ∈ μ) (hv : Ev C s ev T) (he : Ev C s e (.int i)) (hi : i < Ts.length) (hsz : i ≤ 1000)
    (hμ : ∀ p ∈ μ', p.1 ≠ a ∧ p ∈ μ) (q : ∀ s', Bd C s₀ H₀ k s' ρ ((a, MV.wl (Ts.set i T)) :: μ') → Q .next s')
    (hs : swapsWith ev (some (.Subscript (.Name x px) e sp)) pos.line C.env = pure false := by rfl) (hd : (x == ("__debug__" : Str)) = false := by decide +kernel) : wpAny C.M C.A (exec (.Assign [.Subscript (.Name x px) e sp] ev pos) C.env) Q E s := by
  refine wpAny_Assign_Subscript (hv.use (keepsRefl _) fun v s₁ k₁ hv => ((B.later k₁).ev hx hd).use (keepsRefl _) fun d s₂ k₂ hd => (he.later (keepsTrans k₁ k₂)).use (keepsRefl _) fun iv s₃ k₃ hiv => ?_) hs
  have hd : d = .ref a := hd
  subst hd
  obtain ⟨t, rfl⟩ := hiv
  have B₃ := (B.later k₁).later (keepsTrans k₂ k₃)
  obtain ⟨hO, o, eo, hc, vs, n, hdat, hE⟩ := B₃.own a _ ha
  have hl : Ts.length = vs.size := by simpa using hE.length
  refine wpAny_setItem_list (items := vs) ⟨o, eo, hc, n, hdat⟩ (by omega) (by omega) (by omega) fun h' hl' hs' => ?_
  obtain ⟨o', eo', hc', n', hd'⟩ := hl'
  have hb : But a s₃ { s₃ with heap := h' } := ⟨h', s₃.toks, rfl, hs'.extBut⟩
  have kp := hid_but hb.ext hO.hid
  refine q _ ((B₃.but hb hO ⟨_, eo'⟩ hμ).addM ⟨hO, o', eo', hc', _, n', hd', ?_⟩)
  have := Els.set (T.mono kp (T.mono (keepsV (keepsTrans k₂ k₃)) hv)) (hE.mono kp) i
  simpa using this
end


def tbl : List Int := [1, 1, 1, 0, 0, 1, 1, 0, 0, 1, 2, 1]
def rawAt (cells : List Int) (i : Nat) : Int := match cells[i]? with
  | some c => if c < 0 then -c else c
  | none => match tbl[i % 12]? with | some c => c | none => 0
def drawAt (cells : List Int) (i : Nat) (m : Int) : Int := (rawAt cells i).fmod m
abbrev poolT (cells : List Int) (i : Nat) : List VP := [.list (cells.map VP.int), .int (i : Int)]

theorem consI {C : Cx} {s : Shared} {i : Int} {k pos} {es : List Expr} {Ts : List VP} (h : EvL C s es Ts) : EvL C s (.Constant (.int i) k pos :: es) (.int i :: Ts) := .cons Ev_int h (by rfl)
def tblV : List VP := [.int 1, .int 1, .int 1, .int 0, .int 0, .int 1, .int 1, .int 0, .int 0, .int 1, .int 2, .int 1]
theorem Ev_tupE {C : Cx} {s : Shared} {e : Expr} {es : List Expr} {Ts : List VP} {k pos} (O : Ok C s) (he : e = .Tuple es k pos) (h : EvL C s es Ts) (hn : Ts.length ≤ 100) : Ev C s e (.tup Ts) := he ▸ Ev_tuple O h hn
theorem draw_ok {prog : Program} {w : World} {mg mb : Str → Option Value} {k : Nat} (cells : List Int) (i : Nat) (m : Int) (hm : m ≠ 0) (hc : cells.length ≤ 100) (hi : i ≤ 100)
    (s : Shared) (A : Around) (H : List Addr) (f p : Addr) (args : List Value) (R : Result → Shared → Prop) (W : Wld mg mb (hid [p] s.heap)) (hg : mg (defAt 19).name = some (.ref f)) (RM : Room (k + 1) A) (low : ∀ a ∈ H, ∃ o, s.heap.get? a = some o) (hp : p ∈ H)
    (hargs : Els (hid H s.heap) [VP.ex (.ref p), .int m] args) (hpo : ∃ o, s.heap.get? p = some o ∧ (MV.wl (poolT cells i)).P (hid H s.heap) o)
    (hR : ∀ v s', But p s s' → (VP.int (drawAt cells i m)).P (hid H s'.heap) v → (∃ o, s'.heap.get? p = some o ∧ (MV.wl (poolT cells (i + 1))).P (hid H s'.heap) o) → R (.ok (.ret v)) s') : codeAny (model prog w) A (.call (.ref f) ⟨args, []⟩) R s := by
  refine enter_mut (d := defAt 19) (T := VP.int (drawAt cells i m)) (V := MV.wl (poolT cells i)) (V' := MV.wl (poolT cells (i + 1))) [("pool", VP.ex (.ref p)), ("many", .int m)] ["pool", "many"] (mem_defs (by decide)) rfl (fun pm code doc vs h => ?_) (by decide +kernel) (by decide +kernel) ⟨by decide +kernel, by decide +kernel, by decide +kernel⟩ (fun C s₀ H₀ s hp hw hg hb hs hc' hn hpH B => ?_) s A H f args R W hg RM low hp hargs hpo hR
  · match vs, h with
    | [a, b], _ => rfl
  · subst hp hw hg hb
    have Bs := B.shownW (.head _) (x := "pool") (by k_mem)
    refine wpAny_seq (store_ B (T := .int (i : Int)) (show Ev (C.but p) s _ (.int (i : Int)) from Ev_item_wl (k := 1) (Ts := poolT cells i) (Bs.ev (by k_mem)) Ev_int rfl (by decide)) (.inl (kind_of hs (by decide +kernel))) (ρ' := [("pool", VP.ex (.ref p)), ("many", .int m)]) (by k_all) fun s₁ B₁ => ?_)
    refine wpAny_seq (own_setW B₁ (i := 1) (T := .int ((i : Int) + 1)) (by k_mem) (.head _) (Ev_bin (T := .int (i : Int)) (B₁.ev (by k_mem)) Ev_int op_add_int) Ev_int (by simp) (by decide) mu_nil fun s₂ B₂ => ?_)
    have ep : (poolT cells i).set 1 (.int ((i : Int) + 1)) = poolT cells (i + 1) := rfl
    rw [ep] at B₂
    have Bs := B₂.shownW (.head _) (x := "pool") (by k_mem)
    have hcl : (cells.map VP.int).length = cells.length := List.length_map _
    have fin : ∀ s₃, Keeps s₂ s₃ → ∀ {e pos rest}, Ev C s₃ e (.int (drawAt cells i m)) → wpAny C.M C.A (execs (.Return (some e) pos :: rest) C.env) (BackM s₀ H₀ p (VP.int (drawAt cells i m)) (MV.wl (poolT cells (i + 1)))) (fun _ _ => False) s₃ := fun s₃ k₃ e pos rest h =>
      wpAny_execs_cons (wpAny_Return_some (h.use (keepsRefl _) fun v s₄ k₄ hv => by
        have B₄ := B₂.later (keepsTrans k₃ k₄)
        obtain ⟨hO, o, eo, hV⟩ := B₄.own p _ (.head _)
        exact ⟨v, rfl, B₄.keeps, hv, o, eo, (MV.wl _).mono (hid_sub B₄.sub) hV⟩))
    by_cases hlt : i < cells.length
    · obtain ⟨c, hcc⟩ : ∃ c, cells[i]? = some c := ⟨_, List.getElem?_eq_getElem hlt⟩
      have er : drawAt cells i m = (if c < 0 then -c else c).fmod m := by unfold drawAt rawAt; rw [hcc]
      refine wpAny_seq (wpAny_if (b := decide ((i : Int) < cells.length)) ?_ (fun s₃ k₃ e => ?_) fun s₃ k₃ e => ?_)
      · show Tst (C.but p) s₂ _ _
        exact Tst_cmp (C := C.but p) (T := .int (i : Int)) (U := .int (cells.length : Int)) (Bs.ev (by k_mem)) (Ev_callB (C := C.but p) (id := "len") Bs.ok (by decide +kernel) (kind_of hs (by decide +kernel)) (.cons (Ev_item_wl (C := C.but p) (k := 0) (Ts := poolT cells (i + 1)) (Bs.ev (by k_mem)) Ev_int rfl (by decide)) .nil) (by have := op_len_list (C := C.but p) (s := s₂) (Ts := cells.map VP.int) Bs.ok (by omega); rw [hcl] at this; exact this)) op_lt_int
      · have Bs₃ := Bs.later k₃
        refine wpAny_mono (fin s₃ k₃ ?_) (fun f s₄ h₄ => ?_) fun _ _ e => e
        · rw [er]
          show Ev (C.but p) s₃ _ (.int ((if c < 0 then -c else c).fmod m))
          exact Ev_bin (C := C.but p) (T := .int (if c < 0 then -c else c)) (U := .int m) (Ev_callB (C := C.but p) (id := "abs") Bs₃.ok (by decide +kernel) (kind_of hs (by decide +kernel)) (.cons (Ev_item_list (C := C.but p) (k := i) (Ts := cells.map VP.int) (T := .int c) (Ev_item_wl (C := C.but p) (k := 0) (Ts := poolT cells (i + 1)) (Bs₃.ev (by k_mem)) Ev_int rfl (by decide)) (Bs₃.ev (by k_mem)) (by rw [List.getElem?_map, hcc]; rfl) (by omega)) .nil) op_abs) (Bs₃.ev (by k_mem)) (op_mod_int hm)
        · obtain ⟨v, rfl, h₄⟩ := h₄
          exact ⟨v, rfl, h₄⟩
      · exfalso
        have := of_decide_eq_false e
        omega
    · have hcc : cells[i]? = none := List.getElem?_eq_none (by omega)
      obtain ⟨c, htc⟩ : ∃ c, tbl[i % 12]? = some c := ⟨_, List.getElem?_eq_getElem (show i % 12 < tbl.length from Nat.mod_lt _ (by decide))⟩
      have er : drawAt cells i m = c.fmod m := by unfold drawAt rawAt; rw [hcc, htc]
      refine wpAny_seq (wpAny_if (b := decide ((i : Int) < cells.length)) ?_ (fun s₃ k₃ e => ?_) fun s₃ k₃ e => ?_)
      · show Tst (C.but p) s₂ _ _
        exact Tst_cmp (C := C.but p) (T := .int (i : Int)) (U := .int (cells.length : Int)) (Bs.ev (by k_mem)) (Ev_callB (C := C.but p) (id := "len") Bs.ok (by decide +kernel) (kind_of hs (by decide +kernel)) (.cons (Ev_item_wl (C := C.but p) (k := 0) (Ts := poolT cells (i + 1)) (Bs.ev (by k_mem)) Ev_int rfl (by decide)) .nil) (by have := op_len_list (C := C.but p) (s := s₂) (Ts := cells.map VP.int) Bs.ok (by omega); rw [hcl] at this; exact this)) op_lt_int
      · exfalso
        have := of_decide_eq_true e
        omega
      · refine wpAny_execs_nil ?_
        show wpAny C.M C.A (execs _ C.env) _ _ _
        refine fin s₃ k₃ ?_
        have B₃ := B₂.later k₃
        rw [er]
        have emod : ((i : Int)).fmod 12 = ((i % 12 : Nat) : Int) := by rw [Int.fmod_eq_emod_of_nonneg _ (by decide)]; rfl
        generalize hE : Expr.Tuple _ _ _ = tup
        refine Ev_bin (T := .int c) (U := .int m) (Ev_item_tup (k := i % 12) (Ts := tblV) (T := .int c) (Ev_tupE (Ts := tblV) B₃.ok hE.symm ?_ (by decide)) ?_ ?_ (by omega)) (B₃.ev (by k_mem)) (op_mod_int hm)
        · repeat (first | exact .nil | refine consI ?_)
        · rw [← emod]; exact Ev_bin (T := .int (i : Int)) (U := .int 12) (B₃.ev (by k_mem)) Ev_int (op_mod_int (by decide))
        · rw [show tblV = tbl.map VP.int from rfl, List.getElem?_map, htc]; rfl


abbrev besV (prog : Program) (w : World) (bs : Bes) : VP := VP.dict prog w (bs.map fun p => (p.1, .list (p.2.map VP.int)))
def hasI (l : List Int) (n : Int) : Bool := l.any fun q => decide (q = n)
def takenL (bs : Bes) : List Int → List Int → Option (List Int)
  | fd, [] => some fd
  | fd, n :: r => match look n bs with
    | none => none
    | some l => takenL bs (if (l.filter fun o => hasI fd o).isEmpty = true then fd ++ [n] else fd) r
theorem takenL_append (bs : Bes) : ∀ (l m fd : List Int), takenL bs fd (l ++ m) = (match takenL bs fd l with | none => none | some fd' => takenL bs fd' m) := by
  intro l
  induction l with
  | nil => intro m fd; rfl
  | cons n r ih =>
    intro m fd
    rw [List.cons_append, takenL, takenL]
    cases look n bs with
    | none => rfl
    | some p => exact ih m _
def tkAt (bs : Bes) (nodes : List Int) (i : Nat) : List Int := match takenL bs [] (nodes.take i) with | none => [] | some q => q
theorem tkAt_some {bs : Bes} {nodes q : List Int} (h : takenL bs [] nodes = some q) (i : Nat) : takenL bs [] (nodes.take i) = some (tkAt bs nodes i) := by
  unfold tkAt
  cases e : takenL bs [] (nodes.take i) with
  | none =>
    have := takenL_append bs (nodes.take i) (nodes.drop i) []
    rw [List.take_append_drop, e, h] at this
    cases this
  | some q => rfl
theorem tkAt_next {bs : Bes} {nodes q : List Int} (h : takenL bs [] nodes = some q) {i : Nat} {n : Int} (hn : nodes[i]? = some n) : ∃ l, look n bs = some l ∧ tkAt bs nodes (i + 1) = if (l.filter fun o => hasI (tkAt bs nodes i) o).isEmpty = true then tkAt bs nodes i ++ [n] else tkAt bs nodes i := by
  have h1 := tkAt_some h i
  have h2 := tkAt_some h (i + 1)
  rw [List.take_add_one, hn, Option.toList_some, takenL_append, h1] at h2
  have h2 : (match look n bs with | none => none | some l => takenL bs (if (l.filter fun o => hasI (tkAt bs nodes i) o).isEmpty = true then tkAt bs nodes i ++ [n] else tkAt bs nodes i) []) = some (tkAt bs nodes (i + 1)) := h2
  cases e : look n bs with
  | none => rw [e] at h2; cases h2
  | some l => rw [e] at h2; exact ⟨l, rfl, (Option.some.inj h2).symm⟩
theorem tkAt_len {bs : Bes} {nodes q : List Int} (h : takenL bs [] nodes = some q) : ∀ i, i ≤ nodes.length → (tkAt bs nodes i).length ≤ i := by
  intro i
  induction i with
  | zero => intro _; exact Nat.le_refl _
  | succ i ih =>
    intro hi
    obtain ⟨l, h1, h2⟩ := tkAt_next h (List.getElem?_eq_getElem (show i < nodes.length by omega))
    have := ih (by omega)
    rw [h2]; split
    · rw [List.length_append, List.length_singleton]; omega
    · omega
/-- sizes -/
structure BesS (bs : Bes) : Prop where
  n : bs.length ≤ 8
  p : ∀ x ∈ bs, x.2.length ≤ 8

theorem filter_ints (f : Int → Bool) (l : List Int) : (l.map fun o => if f o = true then some (VP.int o) else none).filterMap id = (l.filter f).map VP.int := by
  induction l with
  | nil => rfl
  | cons a r ih =>
    rw [List.map_cons, List.filter_cons]
    by_cases h : f a = true
    · rw [if_pos h, if_pos h, List.map_cons, ← ih]; rfl
    · rw [if_neg h, if_neg h, ← ih]; rfl
theorem ints_empty (l : List Int) : (l.map VP.int).isEmpty = l.isEmpty := by cases l <;> rfl

theorem taken_ok {prog : Program} {w : World} {mg mb : Str → Option Value} {k : Nat} (bs : Bes) (nodes q : List Int) (h : takenL bs [] nodes = some q) (hl : BesS bs) (hnl : nodes.length ≤ 8) :
    FOk prog w mg mb (defAt 20) (k + 1) [.list (nodes.map VP.int), besV prog w bs] (.list (q.map VP.int)) := by
  refine enter [("nodes", .list (nodes.map VP.int)), ("beside", besV prog w bs)] ["nodes", "beside"] (mem_defs (by decide)) rfl rfl (fun pm code doc vs h => ?_) (by decide +kernel) (by decide +kernel) ⟨by decide +kernel, by decide +kernel, by decide +kernel⟩ fun C s₀ H₀ s hp hw hg hb hs hc hn B => ?_
  · match vs, h with
    | [a, b], _ => rfl
  · subst hp hw hg hb
    refine wpAny_seq (own_storeC B (EvF_list B.ok .nil) (kind_of hs (by decide +kernel)) (cell_of hc (by decide +kernel)) hn (ρ' := [("nodes", .list (nodes.map VP.int)), ("beside", besV C.prog C.w bs)]) (by k_all) fun a s₁ hm ha B₁ => ?_)
    have haH : a ∉ H₀ := fun m => ha (B.sub a m)
    let C' : Cx := { C with H := a :: C.H }
    refine wpAny_seq (for_ (C := C') B₁ (B₁.ev (x := "nodes") (T := .list (nodes.map VP.int)) (by k_mem)) iter_list (fun i => True) (fun i => [("found", VP.ex (.ref a)), ("beside", besV C.prog C.w bs)]) (fun i => [(a, MV.list ((tkAt bs nodes i).map VP.int))]) trivial (by k_upd) (fun p m => m) (fun H' g' s' i U v E' _ hJ hU hv B' => ?_) fun s' hJ B' => ?_)
    · obtain ⟨n, hn', rfl⟩ := map_at hU
      obtain ⟨l, hlk, hnx⟩ := tkAt_next h hn'
      have hil := (List.getElem?_eq_some_iff.mp hn').1
      have htl := tkAt_len h i (by omega)
      have hll := hl.p _ (look_mem hlk)
      have hll : l.length ≤ 8 := hll
      rw [hnx]
      generalize tkAt bs nodes i = fd at B' htl
      let C₃ : Cx := { C with H := H', g := g' }
      refine assign_name (Bd.storeL (C := C₃) (ρ' := [("found", VP.ex (.ref a)), ("beside", besV C.prog C.w bs)]) B' (x := "node") (kind_of hs (by decide +kernel)) hv (by k_all) fun s₂ B₂ => ?_)
      have Bs := B₂.shownL (.head _) haH (x := "found") (by k_mem)
      refine wpAny_seq (wpAny_if (C := C₃) (b := (l.filter fun o => hasI fd o).isEmpty) ?_ (fun s₃ k₃ e => ?_) fun s₃ k₃ e => ?_)
      · rw [← ints_empty, ← filter_ints]
        show Tst (C₃.but a) s₂ _ _
        refine Tst_cmp (C := C₃.but a) (comp_ (C := C₃.but a) Bs hs hc ⟨by decide +kernel, by decide +kernel, by decide +kernel, by decide +kernel⟩ (Ev_item_dict (C := C₃.but a) (kvs := bs.map fun p => (p.1, .list (p.2.map VP.int))) (T := .list (l.map VP.int)) (Bs.ev (by k_mem)) (Bs.ev (by k_mem)) (by rw [look_map fun l : List Int => VP.list (l.map VP.int), hlk]; rfl)) iter_list
          (l.map fun o => if hasI fd o = true then some (VP.int o) else none) (by rw [List.length_map, List.length_map]) (by rw [List.length_map]; omega) [("found", .list (fd.map VP.int))] (cap_cons (by k_mem) (by decide +kernel) cap_nil) letsGo_name fun K H'' g'' s' i U rr v E' hU hr hv B' => ?_) (Ev_list Bs.ok .nil) (op_eq_nil Bs.ok)
        obtain ⟨o, ho, rfl⟩ := map_at hU
        have er := map_at2 hr ho
        refine assign_name (Bd.storeL (C := { C with env := cenv _ K C.env, H := H'', g := g'' }) (ρ' := [("found", .list (fd.map VP.int))]) B' (x := "other") (kind_c hs (by decide +kernel)) hv (by k_all) fun s₅ B₅ => ⟨B₅.less (by k_upd), ?_, ?_⟩)
        · have : rr.isSome = hasI fd o := by
            rw [er]; cases hasI fd o <;> rfl
          rw [this]
          exact tests_one (Tst_cmp (C := { C with env := cenv _ K C.env, H := H'', g := g'' }) (T := .int o) (U := .list (fd.map VP.int)) (B₅.ev (by k_mem)) (B₅.ev (by k_mem)) (op_in_list fam_int B₅.ok))
        · intro U hU
          rw [er] at hU
          split at hU
          · cases hU; exact B₅.ev (by k_mem)
          · cases hU
      · rw [if_pos e]
        have B₃ := B₂.later k₃
        refine wpAny_seq (own_append (C := C₃) (T := .int n) B₃ (by k_mem) (.head _) (B₃.ev (by k_mem)) (by rw [List.length_map]; omega) mu_nil fun s₄ B₄ => ?_)
        refine wpAny_execs_nil (wpAny_execs_nil ⟨trivial, ?_⟩)
        have ee : fd.map VP.int ++ [.int n] = (fd ++ [n]).map VP.int := by rw [List.map_append]; rfl
        rw [ee] at B₄
        exact B₄.less (by k_upd)
      · rw [if_neg (by rw [e]; decide)]
        exact wpAny_execs_nil (wpAny_execs_nil ⟨trivial, (B₂.later k₃).less (by k_upd)⟩)
    · have en : tkAt bs nodes (nodes.map VP.int).length = q := by
        have := tkAt_some h (nodes.map VP.int).length
        rw [List.length_map, List.take_length, h] at this
        rw [List.length_map]; exact (Option.some.inj this).symm
      rw [en] at B'
      have B₃ := B.free B' ha (.head _) (x := "found") (by k_mem) mu_show_nil
      exact wpAny_ret B₃ (B₃.ev (by k_mem))

def dueOfL (bs : Bes) (lot : List Int) (n : Int) : Option Path := match look n bs with
  | none => none
  | some l => if hasI lot n = true then some [n, 0] else match l.filter fun o => hasI lot o with
    | [] => none
    | o :: _ => some [n, o, 0]
def duesL (bs : Bes) (lot : List Int) : Option Stt := mapO (fun n => match dueOfL bs lot n with | none => none | some p => some (n, p)) (sortI (keys bs))

theorem due_ok {prog : Program} {w : World} {mg mb : Str → Option Value} {k : Nat} (bs : Bes) (lot : List Int) (q : Stt) (h : duesL bs lot = some q) (hl : BesS bs) :
    FOk prog w mg mb (defAt 21) (k + 1) [.list (lot.map VP.int), besV prog w bs] (stV prog w (ofPairs q)) := by
  refine enter [("lot", .list (lot.map VP.int)), ("beside", besV prog w bs)] ["lot", "beside"] (mem_defs (by decide)) rfl rfl (fun pm code doc vs h => ?_) (by decide +kernel) (by decide +kernel) ⟨by decide +kernel, by decide +kernel, by decide +kernel⟩ fun C s₀ H₀ s hp hw hg hb hs hc hn B => ?_
  · match vs, h with
    | [a, b], _ => rfl
  · subst hp hw hg hb
    have hql : q.length = bs.length := by rw [mapO_len h, sortI_len, keys_len]
    have hqP : ∀ i, (ofPairs (q.take i)).length ≤ 8 := fun i => by
      have e2 := foldl_put_len (q.take i) ([] : Stt)
      have e3 : (q.take i).length ≤ q.length := List.length_take_le' _ _
      have := hl.n
      unfold ofPairs
      simp at e2
      omega
    refine wpAny_seq (own_storeL B (EvF_dict B.ok) (kind_of hs (by decide +kernel)) (ρ' := [("lot", .list (lot.map VP.int)), ("beside", besV C.prog C.w bs)]) (by k_all) fun a s₁ hm ha B₁ => ?_)
    let C' : Cx := { C with H := a :: C.H }
    refine wpAny_seq (for_ (C := C') B₁ (T := .list ((sortI (keys bs)).map VP.int)) (Ev_sorted (C := C') (f := fun l : List Int => VP.list (l.map VP.int)) B₁.ok (kind_of hs (by decide +kernel)) (B₁.ev (by k_mem)) (by have := hl.n; omega)) iter_list (fun i => True) (fun i => [("found", VP.ex (.ref a)), ("lot", .list (lot.map VP.int)), ("beside", besV C.prog C.w bs)])
      (fun i => [(a, MV.dict C.prog C.w ((ofPairs (q.take i)).map fun p => (p.1, pathV p.2)))]) trivial (by k_upd) (fun p m => m) (fun H' g' s' i U v E' _ hJ hU hv B' => ?_) fun s' hJ B' => ?_)
    · obtain ⟨n, hn', rfl⟩ := map_at hU
      obtain ⟨np, h1, h2⟩ := mapO_at h hn'
      cases hd : dueOfL bs lot n with
      | none => rw [hd] at h1; cases h1
      | some p =>
      rw [hd] at h1
      have enp : np = (n, p) := (Option.some.inj h1).symm
      subst enp
      rw [ofPairs_take h2, ← put_map]
      unfold dueOfL at hd
      cases hlk : look n bs with
      | none => rw [hlk] at hd; cases hd
      | some l =>
      rw [hlk] at hd
      have hd : (if hasI lot n = true then some [n, 0] else match l.filter fun o => hasI lot o with | [] => none | o :: _ => some [n, o, 0]) = some p := hd
      have hll : l.length ≤ 8 := hl.p _ (look_mem hlk)
      have hsz := hqP i
      let C₃ : Cx := { C with H := H', g := g' }
      refine assign_name (Bd.storeL (C := C₃) (ρ' := [("found", VP.ex (.ref a)), ("lot", .list (lot.map VP.int)), ("beside", besV C.prog C.w bs)]) B' (x := "node") (kind_of hs (by decide +kernel)) hv (by k_all) fun s₂ B₂ => ?_)
      refine wpAny_seq (comp_store (C := C₃) B₂ hs hc ⟨by decide +kernel, by decide +kernel, by decide +kernel, by decide +kernel⟩ (Ev_item_dict (C := C₃) (kvs := bs.map fun p => (p.1, .list (p.2.map VP.int))) (T := .list (l.map VP.int)) (B₂.ev (by k_mem)) (B₂.ev (by k_mem)) (by rw [look_map fun l : List Int => VP.list (l.map VP.int), hlk]; rfl)) iter_list
        (l.map fun o => if hasI lot o = true then some (VP.int o) else none) (by rw [List.length_map, List.length_map]) (by rw [List.length_map]; omega) [("lot", .list (lot.map VP.int))] (cap_cons (by k_mem) (by decide +kernel) cap_nil) letsGo_name (fun K H'' g'' s' i U rr v E' hU hr hv B' => ?_) (by decide +kernel)
        (ρ₂ := [("node", .int n), ("found", VP.ex (.ref a)), ("lot", .list (lot.map VP.int)), ("beside", besV C.prog C.w bs)]) (by k_all) fun s₃ B₃ => ?_)
      · obtain ⟨o, ho, rfl⟩ := map_at hU
        have er := map_at2 hr ho
        refine assign_name (Bd.storeL (C := { C with env := cenv _ K C.env, H := H'', g := g'' }) (ρ' := [("lot", .list (lot.map VP.int))]) B' (x := "other") (kind_c hs (by decide +kernel)) hv (by k_all) fun s₅ B₅ => ⟨B₅.less (by k_upd), ?_, ?_⟩)
        · have : rr.isSome = hasI lot o := by
            rw [er]; cases hasI lot o <;> rfl
          rw [this]
          exact tests_one (Tst_cmp (C := { C with env := cenv _ K C.env, H := H'', g := g'' }) (T := .int o) (U := .list (lot.map VP.int)) (B₅.ev (by k_mem)) (B₅.ev (by k_mem)) (op_in_list fam_int B₅.ok))
        · intro U hU
          rw [er] at hU
          split at hU
          · cases hU; exact B₅.ev (by k_mem)
          · cases hU
      · rw [filter_ints] at B₃
        refine wpAny_seq (own_set (C := C₃) (key := n) (T := pathV p) B₃ (by k_mem) (.head _) (Ev_if (b := hasI lot n) (Tst_cmp (C := C₃) (T := .int n) (U := .list (lot.map VP.int)) (B₃.ev (by k_mem)) (B₃.ev (by k_mem)) (op_in_list fam_int B₃.ok)) (fun hh => ?_) fun hh => ?_) (B₃.ev (by k_mem)) (by rw [List.length_map]; omega) mu_nil fun s₄ B₄ => ?_)
        · rw [if_pos hh] at hd
          have ep : p = [n, 0] := (Option.some.inj hd).symm
          subst ep
          show Ev C₃ s₃ _ (.tup [.int n, .int 0])
          exact Ev_tuple B₃.ok (.cons (B₃.ev (by k_mem)) (.cons Ev_int .nil))
        · rw [if_neg (by rw [hh]; decide)] at hd
          cases hf : l.filter fun o => hasI lot o with
          | nil => rw [hf] at hd; cases hd
          | cons o r =>
            rw [hf] at hd B₃
            have ep : p = [n, o, 0] := (Option.some.inj hd).symm
            subst ep
            show Ev C₃ s₃ _ (.tup [.int n, .int o, .int 0])
            exact Ev_tuple B₃.ok (.cons (B₃.ev (by k_mem)) (.cons (Ev_item_list (C := C₃) (k := 0) (Ts := (o :: r).map VP.int) (B₃.ev (by k_mem)) Ev_int rfl (by decide)) (.cons Ev_int .nil)))
        · exact wpAny_execs_nil ⟨trivial, B₄.less (by k_upd)⟩
    · have en : q.take ((sortI (keys bs)).map VP.int).length = q := by
        rw [List.length_map, sortI_len, keys_len, ← hql, List.take_length]
      rw [en] at B'
      have B₃ := B.freeD B' ha hm (.head _) (x := "found") (by k_mem) mu_show_nil
      exact wpAny_ret B₃ (B₃.ev (by k_mem))


section
variable {C : Cx} {s₀ s s' : Shared} {H₀ : List Addr} {k : Nat} {ρ ρ' ρ'' : Rho} {μ μ' μ₁ : Mu} {ds sc : Scope}

/-- a draw, as an expression -/
theorem draw_ev (B : Bd C s₀ H₀ (k + 1) s ρ μ) {p : Addr} {cells : List Int} {i : Nat} {m : Int} {e : Expr} {p1 p2 pos : Pos} {Q : Value → Shared → Prop} {E : Value → Shared → Prop} (hm0 : m ≠ 0) (hcl : cells.length ≤ 100) (hi : i ≤ 100)
    (hx : (("pool" : Str), VP.ex (.ref p)) ∈ ρ) (ha : (p, MV.wl (poolT cells i)) ∈ μ) (he : Ev C s e (.int m)) (hk : C.env.kindOf (defAt 19).name = some .globalImplicit) (hμ : ∀ q ∈ μ', q.1 ≠ p ∧ q ∈ μ)
    (q : ∀ v s', (VP.int (drawAt cells i m)).P (C.v s') v → Bd C s₀ H₀ (k + 1) s' ρ ((p, MV.wl (poolT cells (i + 1))) :: μ') → Q v s')
    (he1 : starEach [.Name "pool" p2, e] C.env = (false, eval (.Name "pool" p2) C.env) :: starEach [e] C.env := by rfl) (he2 : starEach [e] C.env = (false, eval e C.env) :: starEach [] C.env := by rfl) :
    wpAny C.M C.A (eval (.Call (.Name (defAt 19).name p1) [.Name "pool" p2, e] [] pos) C.env) Q E s := by
  have O := B.ok
  obtain ⟨a, o, pm, code, doc, h1, h2, h3, h4⟩ := O.wld.fn (defAt 19) (mem_defs (by decide))
  refine wpAny_Call_ofName ((Ev_glob O h1 hk (by decide +kernel)).use (keepsRefl _) fun f s₁ k₁ hf => ?_)
  have hf : f = .ref a := hf
  subst hf
  have hh : EvL C s [.Name "pool" p2, e] [VP.ex (.ref p), .int m] := .cons (B.ev hx) (.cons he .nil he2) he1
  rw [he1]
  refine callWith_function (o := o) (fd := docDef (defAt 19).name (defAt 19).params (defAt 19).body (defAt 19).scope pm code doc) (evalArgs_plain ?_)
  have := hh.go (pos := pos)
  rw [he1] at this
  refine this.use k₁ fun vs s₂ k₂ hv => ⟨⟨keepsKp (keepsTrans k₁ k₂) _ _ h2, h3⟩, ?_⟩
  have B₂ := B.later (keepsTrans k₁ k₂)
  obtain ⟨hO, oo, eo, hV⟩ := B₂.own p _ ha
  have W : Wld C.mg C.mb (hid [p] s₂.heap) := (B₂.w0.keeps B₂.base).keeps fun b ob e => hideAll_get _ (B₂.keep b ob e) fun m => by rw [List.mem_singleton.mp m, hO.new] at e; cases e
  refine wpAny_call (draw_ok (k := k) cells i m hm0 hcl hi s₂ C.A C.H a p vs _ W h1 B₂.room B₂.low hO.hid hv ⟨oo, eo, hV⟩ fun v s₃ hb hr hp' => ?_)
  obtain ⟨o', eo', hV'⟩ := hp'
  exact q v s₃ hr ((B₂.but hb hO ⟨_, eo'⟩ hμ).addM ⟨hO, o', eo', hV'⟩)

/-- several new places, hidden -/
theorem Bd.hides (B : Bd C s₀ H₀ k s ρ μ) {Is : List Addr} (ks : Keeps s s') (n : ∀ I ∈ Is, s.heap.get? I = none) (l : ∀ I ∈ Is, ∃ o, s'.heap.get? I = some o) : Bd { C with H := Is ++ C.H } s₀ H₀ k s' ρ μ ∧ ∀ I ∈ Is, Own { C with H := Is ++ C.H } I := by
  have B' := B.later ks
  have kp : Kp (C.v s) (hid (Is ++ C.H) s'.heap) := hid_new (H' := Is) (keepsKp ks) n
  refine ⟨{ B' with
    low := fun a m => ?_
    wf := { B'.wf with loc := List.mem_append_right _ B'.wf.loc, cell := fun x c e => let ⟨h1, h2, h3⟩ := B'.wf.cell x c e; ⟨h1, List.mem_append_right _ h2, h3⟩ }
    sub := fun a m => List.mem_append_right _ (B.sub a m)
    vars := fun x T m => let ⟨v, h1, h2⟩ := B.vars x T m; ⟨v, h1.keeps (keepsKp ks), T.mono kp h2⟩
    own := fun a V m => let ⟨h1, o, h2, h3⟩ := B.own a V m; ⟨⟨List.mem_append_right _ h1.hid, h1.off, h1.new⟩, o, keepsKp ks _ _ h2, V.mono kp h3⟩ }, fun I m => ⟨List.mem_append_left _ m, off_of_new B.wf (n I m), new_of_keep B.keep (n I m)⟩⟩
  rcases List.mem_append.mp m with m | m
  · exact l a m
  · exact B'.low a m
end


section
variable {C : Cx} {s₀ s s' : Shared} {H₀ : List Addr} {k : Nat} {ρ ρ' ρ'' : Rho} {μ μ' μ₁ : Mu} {ds sc : Scope}

/-- o.append(e), o any expression for an own list -/
theorem own_appendE (B : Bd C s₀ H₀ k s ρ μ) {a : Addr} {ob e : Expr} {T : VP} {Ts : List VP} {ap cp pos : Pos} {Q : Flow → Shared → Prop} {E : Value → Shared → Prop} (hx : Ev C s ob (VP.ex (.ref a))) (ha : (a, MV.list Ts) ∈ μ) (h : Ev C s e T) (hsz : Ts.length ≤ 1000) (hμ : ∀ p ∈ μ', p.1 ≠ a ∧ p ∈ μ)
    (q : ∀ s', Bd C s₀ H₀ k s' ρ ((a, MV.list (Ts ++ [T])) :: μ') → Q .next s')
    (hm2 : ∃ pl, eval (.Call (.Attribute ob "append" ap) [e] [] cp) C.env = (do
      let ov ← eval ob C.env
      standAt ap.atName
      let (f, first) ← holding [ov] (getMethod ov "append" pl)
      callWith cp f first (backTo cp (starEach [e] C.env)) []) := by exact ⟨_, rfl⟩)
    (he : starEach [e] C.env = (false, eval e C.env) :: starEach [] C.env := by rfl) : wpAny C.M C.A (exec (.Expr (.Call (.Attribute ob "append" ap) [e] [] cp) pos) C.env) Q E s := by
  obtain ⟨pl, hm2⟩ := hm2
  refine wpAny_Expr_any (MethodCall_ (pl := pl) (hx.use (keepsRefl _) fun v s₁ k₁ hv => ?_) hm2) B.quiet swaps_call
  have hv : v = .ref a := hv
  subst hv
  have B₁ := B.later k₁
  obtain ⟨hO, o, eo, vs, n, rfl, hE⟩ := B₁.own a _ ha
  refine getMethod_builtin ⟨_, eo, rfl⟩ PySem.F.plainAttrs_list PySem.F.slot_list_append PySem.F.type_list_append (fun b hb => by cases hb; exact ⟨_, eo, rfl⟩) ?_
  refine callWith_method1 ((EvL.cons (h.later k₁) .nil he).go.use (keepsRefl _) fun ws s₂ k₂ hws => ?_) he rfl
  cases hws with
  | cons hw hws =>
    cases hws
    have B₂ := B₁.later k₂
    obtain ⟨_, o, eo, vs, n, rfl, hE⟩ := B₂.own a _ ha
    have hl : Ts.length = vs.size := by simpa using hE.length
    refine wpAny_list_append_plain ⟨n, eo⟩ (fun h' hl' hs' => ?_) (by rw [sizeLine_eq]; omega)
    obtain ⟨n', e'⟩ := hl'
    have hb : But a s₂ { s₂ with heap := h' } := ⟨h', s₂.toks, rfl, hs'.extBut⟩
    have kp := hid_but hb.ext hO.hid
    refine q _ ((B₂.but hb hO ⟨_, e'⟩ hμ).addM ⟨hO, _, e', _, n', rfl, ?_⟩)
    have := (hE.mono kp).append (.cons (T.mono kp hw) .nil)
    simpa using this
theorem Bd.shownD (B : Bd C s₀ H₀ k s ρ μ) {a : Addr} {kvs : List (Int × VP)} (hm : (a, MV.dict C.prog C.w kvs) ∈ μ) (hl : (a == sysModules) = false) {x : Str} (hx : (x, VP.ex (.ref a)) ∈ ρ) : Bd (C.but a) s₀ [] k s ((x, C.dict kvs) :: ρ) [] :=
  B.loose.shown hm (fun m => nomatch m) hx fun o e hV => by obtain ⟨ws, d, m, hE⟩ := hV; exact ⟨a, ws, rfl, Heap.dictOf_iff.mpr ⟨o, e, d⟩, m, hE, hl⟩
end

/-! the graph while it is made -/
abbrev Gr := Int → List Int
def Gr.add (G : Gr) (n o : Int) : Gr := fun m => if m = n then G n ++ [o] else G m
abbrev grM (G : Gr) (ls : List (Int × Addr)) : Mu := ls.map fun x => (x.2, MV.list ((G x.1).map VP.int))
abbrev grD (prog : Program) (w : World) (ls : List (Int × Addr)) : MV := MV.dict prog w (ls.map fun x => (x.1, VP.ex (.ref x.2)))
structure LsOk (ls : List (Int × Addr)) (p b : Addr) : Prop where
  a : (ls.map (·.2)).Nodup
  k : (ls.map (·.1)).Nodup
  pb : p ≠ b
  p : ∀ x ∈ ls, x.2 ≠ p ∧ x.2 ≠ b
abbrev gMu (prog : Program) (w : World) (cells : List Int) (p b : Addr) (ls : List (Int × Addr)) (i : Nat) (G : Gr) : Mu := (p, MV.wl (poolT cells i)) :: (b, grD prog w ls) :: grM G ls

theorem ls_at {ls : List (Int × Addr)} (h : (ls.map (·.1)).Nodup) {n : Int} {a : Addr} (m : (n, a) ∈ ls) : look n ls = some a := by
  induction ls with
  | nil => cases m
  | cons x r ih =>
    obtain ⟨j, c⟩ := x
    rw [List.map_cons, List.nodup_cons] at h
    rw [look]
    rcases List.mem_cons.mp m with e | m
    · cases e; rw [if_pos rfl]
    · rw [if_neg (fun e : j = n => h.1 (by rw [e]; exact List.mem_map.mpr ⟨_, m, rfl⟩))]
      exact ih h.2 m
theorem ls_inj {ls : List (Int × Addr)} (h : (ls.map (·.2)).Nodup) {n m : Int} {a : Addr} (x : (n, a) ∈ ls) (y : (m, a) ∈ ls) : n = m := by
  induction ls with
  | nil => cases x
  | cons z r ih =>
    rw [List.map_cons, List.nodup_cons] at h
    rcases List.mem_cons.mp x with e | x
    · rcases List.mem_cons.mp y with e' | y
      · rw [← e'] at e; cases e; rfl
      · exact absurd (List.mem_map.mpr ⟨_, y, by rw [← e]⟩) h.1
    · rcases List.mem_cons.mp y with e' | y
      · exact absurd (List.mem_map.mpr ⟨_, x, by rw [← e']⟩) h.1
      · exact ih h.2 x y

section
variable {C : Cx} {s₀ s s' : Shared} {H₀ : List Addr} {k : Nat} {ρ ρ' ρ'' : Rho} {μ' : Mu}
/-- beside[x].append(y) -/
theorem beside_append (B : Bd C s₀ H₀ k s ρ (gMu C.prog C.w cells p b ls i G)) (L : LsOk ls p b) (hb : (b == sysModules) = false) {n o : Int} {a : Addr} (hn : (n, a) ∈ ls) (hG : (G n).length ≤ 900) {x y : Str} {p1 p2 p3 sp ap cp pos : Pos} {Q : Flow → Shared → Prop} {E : Value → Shared → Prop}
    (hbe : (("beside" : Str), VP.ex (.ref b)) ∈ ρ) (hx : (x, VP.int n) ∈ ρ) (hy : (y, VP.int o) ∈ ρ) (hxd : (x == ("__debug__" : Str)) = false) (hyd : (y == ("__debug__" : Str)) = false)
    (q : ∀ s', Bd C s₀ H₀ k s' ρ (gMu C.prog C.w cells p b ls i (G.add n o)) → Q .next s')
    (hm2 : ∃ pl, eval (.Call (.Attribute (.Subscript (.Name "beside" p1) (.Name x p2) sp) "append" ap) [.Name y p3] [] cp) C.env = (do
      let ov ← eval (.Subscript (.Name "beside" p1) (.Name x p2) sp) C.env
      standAt ap.atName
      let (f, first) ← holding [ov] (getMethod ov "append" pl)
      callWith cp f first (backTo cp (starEach [.Name y p3] C.env)) []) := by exact ⟨_, rfl⟩) :
    wpAny C.M C.A (exec (.Expr (.Call (.Attribute (.Subscript (.Name "beside" p1) (.Name x p2) sp) "append" ap) [.Name y p3] [] cp) pos) C.env) Q E s := by
  have Bs := B.shownD (a := b) (kvs := ls.map fun x => (x.1, VP.ex (.ref x.2))) (.tail _ (.head _)) hb hbe
  have hm : (a, MV.list ((G n).map VP.int)) ∈ gMu C.prog C.w cells p b ls i G := .tail _ (.tail _ (List.mem_map.mpr ⟨(n, a), hn, rfl⟩))
  have hob : Ev C s (.Subscript (.Name "beside" p1) (.Name x p2) sp) (VP.ex (.ref a)) := by
    show Ev (C.but b) s _ (VP.ex (.ref a))
    exact Ev_item_dict (C := C.but b) (kvs := ls.map fun x => (x.1, VP.ex (.ref x.2))) (Bs.ev (.head _)) (Bs.ev (.tail _ hx) hxd) (by rw [look_map fun a : Addr => VP.ex (.ref a), ls_at L.k hn]; rfl)
  refine own_appendE B (T := .int o) (μ' := (gMu C.prog C.w cells p b ls i G).filter fun q => q.1 != a) hob hm (B.ev hy hyd) (by rw [List.length_map]; omega) (fun q m => by
    have := List.mem_filter.mp m
    exact ⟨by simpa using this.2, this.1⟩) (fun s' B' => q s' (B'.lessM fun z m => ?_)) hm2
  have hadd : (G n).map VP.int ++ [.int o] = (G.add n o n).map VP.int := by unfold Gr.add; rw [if_pos rfl, List.map_append]; rfl
  rcases List.mem_cons.mp m with rfl | m
  · exact .tail _ (List.mem_filter.mpr ⟨.head _, by simpa using Ne.symm (L.p _ hn).1⟩)
  rcases List.mem_cons.mp m with rfl | m
  · exact .tail _ (List.mem_filter.mpr ⟨.tail _ (.head _), by simpa using Ne.symm (L.p _ hn).2⟩)
  obtain ⟨⟨j, c⟩, hj, rfl⟩ := List.mem_map.mp m
  by_cases e : c = a
  · subst e
    have : j = n := ls_inj L.a hj hn
    subst this
    rw [hadd]; exact .head _
  · have hjn : j ≠ n := fun q => by
      subst q
      have h1 := ls_at L.k hj
      rw [ls_at L.k hn] at h1; cases h1; exact e rfl
    refine .tail _ (List.mem_filter.mpr ⟨.tail _ (.tail _ (List.mem_map.mpr ⟨(j, c), hj, ?_⟩)), by simpa using e⟩)
    show (c, MV.list ((G j).map VP.int)) = (c, MV.list ((G.add n o j).map VP.int))
    unfold Gr.add; rw [if_neg hjn]
end


/-- the law's own statements -/
def lawAt (i : Nat) : Stmt := match (defAt 22).body.drop i with | s :: _ => s | [] => .Pass ⟨0, 0, 0, 0⟩
theorem law_body : (defAt 22).body = [lawAt 0, lawAt 1, lawAt 2, lawAt 3, lawAt 4, lawAt 5, lawAt 6, lawAt 7, lawAt 8, lawAt 9, lawAt 10, lawAt 11, lawAt 12, lawAt 13, lawAt 14, lawAt 15, lawAt 16, lawAt 17, lawAt 18, lawAt 19] := by rfl

/-! the edges -/
def edgeIn (cells : List Int) (n : Int) : Nat × Gr → List Int → Nat × Gr
  | x, [] => x
  | x, o :: r => edgeIn cells n (x.1 + 1, if drawAt cells x.1 2 = 1 then (x.2.add n o).add o n else x.2) r
def edgeAll (cells : List Int) (top : Int) : Nat × Gr → List Int → Nat × Gr
  | x, [] => x
  | x, n :: r => edgeAll cells top (edgeIn cells n x (rangeL (n + 1) (top + 1))) r
theorem edgeIn_append (cells : List Int) (n : Int) : ∀ (l m : List Int) (x : Nat × Gr), edgeIn cells n x (l ++ m) = edgeIn cells n (edgeIn cells n x l) m := by
  intro l
  induction l with
  | nil => intro m x; rfl
  | cons o r ih => intro m x; rw [List.cons_append, edgeIn, edgeIn]; exact ih m _
theorem edgeAll_append (cells : List Int) (top : Int) : ∀ (l m : List Int) (x : Nat × Gr), edgeAll cells top x (l ++ m) = edgeAll cells top (edgeAll cells top x l) m := by
  intro l
  induction l with
  | nil => intro m x; rfl
  | cons o r ih => intro m x; rw [List.cons_append, edgeAll, edgeAll]; exact ih m _
theorem edgeIn_spot (cells : List Int) (n : Int) : ∀ (l : List Int) (x : Nat × Gr), (edgeIn cells n x l).1 = x.1 + l.length := by
  intro l
  induction l with
  | nil => intro x; rfl
  | cons o r ih => intro x; rw [edgeIn, ih, List.length_cons]; omega
theorem edge_fit (cells : List Int) (n : Int) : ∀ (l : List Int) (x : Nat × Gr), (∀ m, (x.2 m).length ≤ 2 * x.1) → ∀ m, ((edgeIn cells n x l).2 m).length ≤ 2 * (edgeIn cells n x l).1 := by
  intro l
  induction l with
  | nil => intro x h m; exact h m
  | cons o r ih =>
    intro x h m
    rw [edgeIn]
    refine ih _ (fun m => ?_) m
    have := h m
    show List.length ((if drawAt cells x.1 2 = 1 then (x.2.add n o).add o n else x.2) m) ≤ 2 * (x.1 + 1)
    split
    · have h1 := h n
      have h2 := h o
      by_cases e1 : m = o
      · subst e1
        by_cases e2 : m = n
        · subst e2; simp [Gr.add]; omega
        · simp [Gr.add, e2]; omega
      · by_cases e2 : m = n
        · subst e2; simp [Gr.add, e1]; omega
        · simp [Gr.add, e1, e2]; omega
    · omega
section
variable {C : Cx} {s₀ s s' : Shared} {H₀ : List Addr} {k : Nat} {ρ ρ' ρ'' : Rho} {μ μ' : Mu}
/-- if draw == 1 -/
theorem draw_test (B : Bd C s₀ H₀ (k + 1) s ρ μ) {p : Addr} {cells : List Int} {i : Nat} {m : Int} {e : Expr} {p1 p2 pos ppos : Pos} {kc pc} {Q : Bool → Shared → Prop} {E : Value → Shared → Prop} (hm0 : m ≠ 0) (hcl : cells.length ≤ 100) (hi : i ≤ 100)
    (hx : (("pool" : Str), VP.ex (.ref p)) ∈ ρ) (ha : (p, MV.wl (poolT cells i)) ∈ μ) (he : Ev C s e (.int m)) (hk : C.env.kindOf (defAt 19).name = some .globalImplicit) (hμ : ∀ q ∈ μ', q.1 ≠ p ∧ q ∈ μ)
    (q : ∀ s', Bd C s₀ H₀ (k + 1) s' ρ ((p, MV.wl (poolT cells (i + 1))) :: μ') → Q (decide (drawAt cells i m = 1)) s')
    (he1 : starEach [.Name "pool" p2, e] C.env = (false, eval (.Name "pool" p2) C.env) :: starEach [e] C.env := by rfl) (he2 : starEach [e] C.env = (false, eval e C.env) :: starEach [] C.env := by rfl) :
    wpAny C.M C.A (isTrue (.Compare (.Call (.Name (defAt 19).name p1) [.Name "pool" p2, e] [] pos) [.Eq] [.Constant (.int 1) kc pc] ppos) C.env (eval (.Compare (.Call (.Name (defAt 19).name p1) [.Name "pool" p2, e] [] pos) [.Eq] [.Constant (.int 1) kc pc] ppos) C.env)) Q E s := by
  refine wpAny_isTrue_Compare1 (draw_ev B hm0 hcl hi hx ha he hk hμ (fun v s₁ hv B₁ => ?_) he1 he2) (by with_unfolding_all rfl)
  obtain ⟨t, rfl⟩ := hv
  refine wpAny_Constant_int ?_
  refine PyProof.Rows.eq_int (wpAny_truthy_bool ?_)
  have := q _ (B₁.later (keepsToks s₁ (s₁.toks + 1)))
  rwa [show (drawAt cells i m == 1) = decide (drawAt cells i m = 1) from by cases h : decide (drawAt cells i m = 1) <;> simp_all]


theorem mem_rangeL {a b x : Int} : x ∈ rangeL a b ↔ a ≤ x ∧ x < b := by
  unfold rangeL
  rw [List.mem_map]
  constructor
  · rintro ⟨i, hi, rfl⟩
    rw [List.mem_range] at hi; omega
  · rintro ⟨h1, h2⟩
    exact ⟨(x - a).toNat, by rw [List.mem_range]; omega, by omega⟩
theorem ls_has {ls : List (Int × Addr)} {n : Int} (h : n ∈ ls.map (·.1)) : ∃ a, (n, a) ∈ ls := by
  obtain ⟨⟨j, a⟩, m, rfl⟩ := List.mem_map.mp h
  exact ⟨a, m⟩

theorem phaseD (hs : C.env.scope = (defAt 22).scope) (hc : C.env.cells = cellsFrom (C.env.locals + 1) (defAt 22).scope.names []) (hn : CellsNew C) {cells : List Int} {p b : Addr} {ls : List (Int × Addr)} {m bk : Int}
    (B : Bd C s₀ H₀ (k + 1) s [("beside", VP.ex (.ref b)), ("pool", VP.ex (.ref p)), ("many", .int m), ("backwards", .int bk)] (gMu C.prog C.w cells p b ls 2 fun _ => [])) (L : LsOk ls p b) (hb : (b == sysModules) = false) (hcl : cells.length ≤ 100) (hm : 3 ≤ m ∧ m ≤ 4) (hls : ls.map (·.1) = rangeL 1 (m + 1)) {Q : Flow → Shared → Prop} {E : Value → Shared → Prop}
    (q : ∀ s', Bd C s₀ H₀ (k + 1) s' [("beside", VP.ex (.ref b)), ("pool", VP.ex (.ref p)), ("many", .int m), ("backwards", .int bk)] (gMu C.prog C.w cells p b ls (edgeAll cells m (2, fun _ => []) (rangeL 1 (m + 1))).1 (edgeAll cells m (2, fun _ => []) (rangeL 1 (m + 1))).2) → Q .next s') : wpAny C.M C.A (exec (lawAt 3) C.env) Q E s := by
  have hpl : ("pool" : Str) ≠ "node" := by decide +kernel
  refine for_ B (T := .range 1 (m + 1)) (Ts := (rangeL 1 (m + 1)).map VP.int) (Ev_callT (id := "range") B.ok (by decide +kernel) (kind_of hs (by decide +kernel)) (.cons Ev_int (.cons (Ev_bin (T := .int m) (B.ev (by k_mem)) Ev_int op_add_int) .nil)) (op_range B.ok)) (iter_range (by omega))
    (fun i => (∀ x, ((edgeAll cells m (2, fun _ => []) ((rangeL 1 (m + 1)).take i)).2 x).length ≤ 2 * (edgeAll cells m (2, fun _ => []) ((rangeL 1 (m + 1)).take i)).1) ∧ (edgeAll cells m (2, fun _ => []) ((rangeL 1 (m + 1)).take i)).1 ≤ 2 + 4 * i) (fun i => [("beside", VP.ex (.ref b)), ("pool", VP.ex (.ref p)), ("many", .int m), ("backwards", .int bk)])
    (fun i => gMu C.prog C.w cells p b ls (edgeAll cells m (2, fun _ => []) ((rangeL 1 (m + 1)).take i)).1 (edgeAll cells m (2, fun _ => []) ((rangeL 1 (m + 1)).take i)).2) ⟨fun x => by simp [edgeAll], by simp [edgeAll]⟩ (fun p m => m) (fun p m => m) (fun H' g' s' i U v E' hcn hJ hU hv B' => ?_) fun s' hJ B' => q s' ?_
  · obtain ⟨n, hni, rfl⟩ := map_at hU
    have hnr := mem_rangeL.mp (List.mem_of_getElem? hni)
    have hi4 : i < 4 := by
      have := (List.getElem?_eq_some_iff.mp hni).1
      rw [rangeL_len] at this; omega
    have hnext : edgeAll cells m (2, fun _ => []) ((rangeL 1 (m + 1)).take (i + 1)) = edgeIn cells n (edgeAll cells m (2, fun _ => []) ((rangeL 1 (m + 1)).take i)) (rangeL (n + 1) (m + 1)) := by
      rw [List.take_add_one, hni, Option.toList_some, edgeAll_append]; rfl
    rw [hnext]
    generalize edgeAll cells m (2, fun _ => []) ((rangeL 1 (m + 1)).take i) = st at B' hJ
    obtain ⟨hJ1, hJ2⟩ := hJ
    let C₃ : Cx := { C with H := H', g := g' }
    have hn₃ : CellsNew C₃ := hcn hn
    refine assign_name (Bd.put (C := C₃) (T := .int n) (ρ' := [("beside", VP.ex (.ref b)), ("pool", VP.ex (.ref p)), ("many", .int m), ("backwards", .int bk)]) B' (x := "node") (.inr ⟨kind_of hs (by decide +kernel), cell_of hc (by decide +kernel), hn₃⟩) hv (by k_all) fun s₂ _ B₂ => ?_)
    refine wpAny_seq (for_ (C := C₃) B₂ (T := .range (n + 1) (m + 1)) (Ts := (rangeL (n + 1) (m + 1)).map VP.int) (Ev_callT (C := C₃) (id := "range") B₂.ok (by decide +kernel) (kind_of hs (by decide +kernel)) (.cons (Ev_bin (T := .int n) (B₂.ev (by k_mem)) Ev_int op_add_int) (.cons (Ev_bin (T := .int m) (B₂.ev (by k_mem)) Ev_int op_add_int) .nil)) (op_range B₂.ok)) (iter_range (by omega))
      (fun j => True) (fun j => [("node", .int n), ("beside", VP.ex (.ref b)), ("pool", VP.ex (.ref p)), ("many", .int m), ("backwards", .int bk)])
      (fun j => gMu C.prog C.w cells p b ls (edgeIn cells n st ((rangeL (n + 1) (m + 1)).take j)).1 (edgeIn cells n st ((rangeL (n + 1) (m + 1)).take j)).2) trivial (fun p m => m) (fun p m => m) (fun H'' g'' s'' j U v E'' hcn' hJ' hU hv B' => ?_) fun s'' hJ' B' => ?_)
    · obtain ⟨o, hoj, rfl⟩ := map_at hU
      have hor := mem_rangeL.mp (List.mem_of_getElem? hoj)
      have hj4 : j < 4 := by
        have := (List.getElem?_eq_some_iff.mp hoj).1
        rw [rangeL_len] at this; omega
      have hnext : edgeIn cells n st ((rangeL (n + 1) (m + 1)).take (j + 1)) = (((edgeIn cells n st ((rangeL (n + 1) (m + 1)).take j)).1 + 1), if drawAt cells (edgeIn cells n st ((rangeL (n + 1) (m + 1)).take j)).1 2 = 1 then ((edgeIn cells n st ((rangeL (n + 1) (m + 1)).take j)).2.add n o).add o n else (edgeIn cells n st ((rangeL (n + 1) (m + 1)).take j)).2) := by
        rw [List.take_add_one, hoj, Option.toList_some, edgeIn_append]; rfl
      have hfit := edge_fit cells n ((rangeL (n + 1) (m + 1)).take j) st hJ1
      have hspot := edgeIn_spot cells n ((rangeL (n + 1) (m + 1)).take j) st
      rw [List.length_take] at hspot
      rw [hnext]
      generalize edgeIn cells n st ((rangeL (n + 1) (m + 1)).take j) = z at B' hfit hspot
      have hz1 : z.1 ≤ 30 := by omega
      let C₄ : Cx := { C with H := H'', g := g'' }
      refine assign_name (Bd.storeL (C := C₄) (T := .int o) (ρ' := [("node", .int n), ("beside", VP.ex (.ref b)), ("pool", VP.ex (.ref p)), ("many", .int m), ("backwards", .int bk)]) B' (x := "other") (kind_of hs (by decide +kernel)) hv (by k_all) fun s₄ B₄ => ?_)
      have hpb : ∀ q ∈ (b, grD C.prog C.w ls) :: grM z.2 ls, q.1 ≠ p ∧ q ∈ gMu C.prog C.w cells p b ls z.1 z.2 := fun q m => by
        refine ⟨?_, .tail _ m⟩
        rcases List.mem_cons.mp m with rfl | m
        · exact Ne.symm L.pb
        · obtain ⟨x, hx, rfl⟩ := List.mem_map.mp m
          exact (L.p x hx).1
      refine wpAny_seq (wpAny_If (draw_test (C := C₄) B₄ (m := 2) (by decide) hcl (by omega) (by k_mem) (.head _) Ev_int (kind_of hs (by decide +kernel)) hpb fun s₅ B₅ => ?_))
      obtain ⟨an, han⟩ := ls_has (ls := ls) (n := n) (by rw [hls]; exact mem_rangeL.mpr hnr)
      obtain ⟨ao, hao⟩ := ls_has (ls := ls) (n := o) (by rw [hls]; exact mem_rangeL.mpr ⟨by omega, hor.2⟩)
      cases hd : decide (drawAt cells z.1 2 = 1) with
      | true =>
        have hd : drawAt cells z.1 2 = 1 := of_decide_eq_true hd
        rw [if_pos hd]
        have f1 := hfit n
        have f2 : ((z.2.add n o) o).length ≤ 900 := by
          have := hfit o
          unfold Gr.add; split
          · simp; omega
          · omega
        refine wpAny_seq (beside_append (C := C₄) B₅ L hb han (by omega) (by k_mem) (by k_mem) (by k_mem) (by decide +kernel) (by decide +kernel) fun s₆ B₆ => ?_)
        refine wpAny_seq (beside_append (C := C₄) B₆ L hb hao f2 (by k_mem) (by k_mem) (by k_mem) (by decide +kernel) (by decide +kernel) fun s₇ B₇ => ?_)
        exact wpAny_execs_nil (wpAny_execs_nil ⟨trivial, B₇.less (by k_upd)⟩)
      | false =>
        have hd : ¬ drawAt cells z.1 2 = 1 := of_decide_eq_false hd
        rw [if_neg hd]
        exact wpAny_execs_nil (wpAny_execs_nil ⟨trivial, B₅.less (by k_upd)⟩)
    · have e : (rangeL (n + 1) (m + 1)).take ((rangeL (n + 1) (m + 1)).map VP.int).length = rangeL (n + 1) (m + 1) := by rw [List.length_map, List.take_length]
      rw [e] at B'
      refine wpAny_execs_nil ⟨⟨edge_fit cells n _ st hJ1, ?_⟩, B'.less (by k_upd)⟩
      rw [edgeIn_spot, rangeL_len]; omega
  · have e : (rangeL 1 (m + 1)).take ((rangeL 1 (m + 1)).map VP.int).length = rangeL 1 (m + 1) := by rw [List.length_map, List.take_length]
    rw [e] at B'
    exact B'
end


section
variable {C : Cx} {s₀ s s' : Shared} {H₀ : List Addr} {k : Nat} {ρ ρ' ρ'' : Rho} {μ μ' : Mu}
theorem Bd.weakW (B : Bd C s₀ H₀ k s ρ ((p, MV.list Ts) :: μ)) : Bd C s₀ H₀ k s ρ ((p, MV.wl Ts) :: μ) :=
  let ⟨h1, o, h2, h3⟩ := B.own p _ (.head _)
  (B.lessM fun q m => .tail _ m).addM ⟨h1, o, h2, MV.wl_of h3⟩

theorem phaseB (hs : C.env.scope = (defAt 22).scope) {cells : List Int} {p : Addr}
    (B : Bd C s₀ H₀ (k + 1) s [("pool", VP.ex (.ref p))] [(p, MV.wl (poolT cells 0))]) (hcl : cells.length ≤ 100) {Q : Flow → Shared → Prop} {E : Value → Shared → Prop}
    (q : ∀ s', Bd C s₀ H₀ (k + 1) s' [("many", .int (3 + drawAt cells 0 2)), ("backwards", .int (drawAt cells 1 2)), ("pool", VP.ex (.ref p))] [(p, MV.wl (poolT cells 2))] → Q .next s') : wpAny C.M C.A (exec (lawAt 1) C.env) Q E s := by
  have k1 : C.env.kindOf "many" = some .local := kind_of hs (by decide +kernel)
  have k2 : C.env.kindOf "backwards" = some .local := kind_of hs (by decide +kernel)
  refine assign_sw (x := "many") (y := "backwards") (wpAny_Tuple (wpAny_items_cons (wpAny_BinOp (wpAny_Constant_int (draw_ev (C := C) (B.later (keepsToks s (s.toks + 1))) (m := 2) (μ' := []) (by decide) hcl (by decide) (by k_mem) (.head _) Ev_int (kind_of hs (by decide +kernel)) mu_nil fun v s₁ hv B₁ => ?_))) ?_)) ?_ ?_
  · obtain ⟨t, rfl⟩ := hv
    refine PyProof.Rows.add_int ?_
    have B₁ := B₁.later (keepsToks s₁ (s₁.toks + 1))
    refine wpAny_items_cons (draw_ev B₁ (m := 2) (μ' := []) (by decide) hcl (by decide) (by k_mem) (.head _) Ev_int (kind_of hs (by decide +kernel)) mu_nil fun v s₂ hv B₂ => ?_) (by rfl)
    obtain ⟨t2, rfl⟩ := hv
    refine wpAny_items_nil ⟨by rw [sizeLine_eq, List.length_cons, List.length_cons, List.length_nil]; omega, ?_⟩
    have B₃ := B₂.later (keepsPush s₂ { cls := .type "tuple", data := .seq #[.int (3 + drawAt cells 0 2) s₁.toks, .int (drawAt cells 1 2) t2] })
    refine unpack_sw (T := .int (3 + drawAt cells 0 2)) (U := .int (drawAt cells 1 2)) B₃ ⟨_, _, 0, rfl, B₂.ok.push, .cons ⟨_, rfl⟩ (.cons ⟨_, rfl⟩ .nil)⟩ (.inl k1) (.inl k2) (ρ' := [("pool", VP.ex (.ref p))]) (by k_all) (ρ'' := [("backwards", .int (drawAt cells 1 2)), ("pool", VP.ex (.ref p))]) (by k_all) fun s₄ B₄ => q s₄ B₄
  · rfl
  · rfl
  · exact swapped_some k1 k2 (by unfold Env.blockKind; rw [hs]; decide +kernel) (by decide +kernel) (by decide +kernel) rfl rfl rfl rfl

theorem phaseE (hs : C.env.scope = (defAt 22).scope) (hk : C.env.kindOf "nodes" = some .local) (hk2 : C.env.kindOf "problem" = some .local)
    (B : Bd C s₀ H₀ k s ρ μ) (hρ : ∀ p ∈ ρ', (p.1 ≠ "problem" ∧ p.1 ≠ "nodes") ∧ p ∈ ρ) {Q : Flow → Shared → Prop} {E : Value → Shared → Prop}
    (q : ∀ a s', (a == sysModules) = false → a ∉ C.H → Bd { C with H := a :: C.H } s₀ H₀ k s' (("nodes", .list []) :: ("problem", VP.ex (.ref a)) :: ρ') ((a, MV.dict C.prog C.w []) :: μ) → Q .next s') : wpAny C.M C.A (exec (lawAt 4) C.env) Q E s := by
  refine assign_sw (x := "nodes") (y := "problem") (wpAny_Tuple (wpAny_items_cons ((Ev_list (Ts := []) B.ok .nil).use (keepsRefl _) fun v s₁ k₁ hv => ?_) ?_)) ?_ ?_
  · have B₁ := B.later k₁
    refine wpAny_items_cons (wpAny_mono (EvF_dict B₁.ok s₁ E (keepsRefl _)) (fun v₂ s₂ h₂ => ?_) fun _ _ e => e) (by rfl)
    obtain ⟨k₂, a, o, rfl, n, hm, l, hV⟩ := h₂
    obtain ⟨ha, B₂⟩ := B₁.made (keepsRefl _) k₂ n l hV
    refine wpAny_items_nil ⟨by rw [sizeLine_eq, List.length_cons, List.length_cons, List.length_nil]; omega, ?_⟩
    have kp : Kp (C.v s₁) (hid (a :: C.H) s₂.heap) := hid_new (H' := [a]) (keepsKp k₂) fun c m => by rw [List.mem_singleton.mp m]; exact n
    have B₃ := B₂.later (keepsPush s₂ { cls := .type "tuple", data := .seq #[v, .ref a] })
    refine unpack_sw (C := { C with H := a :: C.H }) (T := .list []) (U := VP.ex (.ref a)) B₃ ⟨_, _, 0, rfl, B₂.ok.push, .cons ((VP.list []).mono (kp.trans (hid_kp fun _ _ e => Heap.get?_push_of_some _ e)) hv) (.cons rfl .nil)⟩ (.inl hk) (.inl hk2) (ρ' := ρ') (fun p m => ⟨(hρ p m).1.1, (hρ p m).2⟩) (ρ'' := ("problem", VP.ex (.ref a)) :: ρ') (fun p m => ?_) fun s₄ B₄ => q a s₄ hm ha B₄
    rcases List.mem_cons.mp m with rfl | m
    · exact ⟨by show ("problem" : Str) ≠ "nodes"; decide +kernel, .head _⟩
    · exact ⟨(hρ p m).1.2, .tail _ m⟩
  · rfl
  · rfl
  · exact swapped_some hk hk2 (by unfold Env.blockKind; rw [hs]; decide +kernel) (by decide +kernel) (by decide +kernel) rfl rfl rfl rfl
end
section
variable {C : Cx} {s₀ s s' : Shared} {H₀ : List Addr} {k : Nat} {ρ ρ' : Rho} {μ μ' : Mu} {ds sc : Scope}
/-- a comprehension, with a statement of one's own about what it has made -/
theorem comp_inv (B : Bd C s₀ H₀ k s ρ μ) {n : Nat} (hs : C.env.scope = ds) (hc : C.env.cells = cellsFrom n ds.names []) (O : CompOk sc ds) {elt target iter : Expr} {pos : Pos} {T : VP} {Ts : List VP} (h : Ev C s iter T) (hi : Iterates C T Ts)
    (hsz : Ts.length ≤ 1000) (Inv : Nat → Heap → List Value → Prop) (hI0 : ∀ g, Kp (C.v s) g → Inv 0 g []) (hIm : ∀ {i g g' ys}, Kp g g' → Inv i g ys → Inv i g' ys) (hIl : ∀ {i g ys}, Inv i g ys → ys.length = i) (ρ' : Rho) (hρ : ∀ p ∈ ρ', p ∈ ρ ∧ ((relabelD sc ds).names.lookup p.1 == some .cell) = true) (hlg : LetsGo target)
    (step : ∀ (K : Addr) (H' : List Addr) (g' : Heap) (s' : Shared) (i : Nat) (U : VP) (v : Value) (E' : Value → Shared → Prop), Ts[i]? = some U → U.P (hid H' s'.heap) v → Bd { C with env := cenv sc K C.env, H := H', g := g' } s₀ H₀ k s' ρ' [] →
      wpAny C.M C.A (assign target (cenv sc K C.env) v) (fun _ s₂ => Bd { C with env := cenv sc K C.env, H := H', g := g' } s₀ H₀ k s₂ [] [] ∧ ∀ ys s₃ E₃, Keeps s₂ s₃ → Inv i (hid H' s₃.heap) ys → wpAny C.M C.A (eval elt (cenv sc K C.env)) (fun v s₄ => Keeps s₃ s₄ ∧ Inv (i + 1) (hid H' s₄.heap) (ys ++ [v])) E₃ s₃) E' s')
    {use : Option (Value → Sem Unit)} {Qc : Value → Shared → Prop} {E : Value → Shared → Prop}
    (hfin : ∀ (D K : Addr) (s' : Shared), Keeps s s' → s.heap.get? K = none → D ≠ K → (∃ m, s'.heap.Ns K m) → (∃ vs n, IsL (hid (K :: C.H) s'.heap) D vs n ∧ Inv Ts.length (hid (K :: C.H) s'.heap) vs.toList) → compPost C.M C.A E use Qc (.ref D) K (.ok .next) s')
    (hf : ∀ x, foldedSetIterable iter C.env x = pure x := by intro _; rfl) : wpAny C.M C.A (comprehension (.ListComp elt [⟨target, iter, [], 0⟩] sc pos) sc C.env (firstIterPos [⟨target, iter, [], 0⟩] pos) (newList []) (firstAsync [⟨target, iter, [], 0⟩]) (firstIter [⟨target, iter, [], 0⟩] C.env) use) Qc E s := by
  have hcell : ∀ y ∈ sc.names, y.2 ≠ .cell := fun y hy => by simpa using List.all_eq_true.mp O.cell y hy
  have hnames : ∀ y ∈ sc.names, y.2 = .local → sc.names.lookup y.1 = some .local := fun y hy e => by
    have := List.all_eq_true.mp O.names y hy
    rw [e] at this; simpa using this
  have hfree : ∀ x ∈ sc.names, x.2 = .free → (C.env.cells.lookup x.1).isSome = true := fun x hx e => by
    have := List.all_eq_true.mp O.free x hx
    rw [e] at this
    obtain ⟨c, hc'⟩ := lookup_cells hc (x := x.1) (by simpa using this)
    rw [hc']; rfl
  refine wpAny_comprehension_free (use := use) rfl hf (closureFor_eq hfree) O.kind hnames (h.use (keepsRefl _) fun v s₁ k₁ hv => hi s₁ v _ _ (B.later k₁).ok hv fun I s₂ fp St k₂ hnew W hst hfp => ?_)
  refine wpAny_newObj_type (wpAny_newFunctionEnv hcell (by intro y hy; simp at hy) (fun h₁ hns₁ hsb₁ => ?_) O.kind)
  have B₁ := B.later k₁
  have hlive := W.live
  have hlook := W.look
  obtain ⟨⟨P, WW, hP⟩, _⟩ := W
  dsimp only at hns₁ hsb₁ ⊢
  generalize hH2 : s₂.heap.push { cls := .type "list", dict := none, data := .seq ([] : List Value).toArray } = H2 at hns₁ hsb₁ ⊢
  generalize hKd : H2.objs.size = K at hns₁ hsb₁ ⊢
  generalize hDd : s₂.heap.objs.size = D
  have hKD : K = D + 1 := by rw [← hKd, ← hH2, ← hDd, Heap.size_push]
  have fresh₂ : ∀ b, D ≤ b → s₂.heap.get? b = none := fun b hb => Heap.get?_none_of_le (hDd ▸ hb)
  have fresh₁ : ∀ b, D ≤ b → s₁.heap.get? b = none := fun b hb => new_of_keep (keepsKp k₂) (fresh₂ b hb)
  have old : ∀ b o, s₂.heap.get? b = some o → h₁.get? b = some o := fun b o e => hsb₁.extBut b o (fun q => by rw [fresh₂ b (by rw [q, hKD]; exact Nat.le_succ _)] at e; cases e) (Heap.get?_push_of_some _ (hH2 ▸ Heap.get?_push_of_some _ e))
  have hDl : h₁.PlainList D #[] := ⟨0, hsb₁.extBut _ _ (by rw [hKD]; exact Nat.ne_of_lt (Nat.lt_succ_self _)) (Heap.get?_push_of_some _ (hH2 ▸ hDd ▸ Heap.get?_push_size _ rfl))⟩
  have gnone : ∀ b, s₁.heap.get? b = none → C.g.get? b = none := fun b e => new_of_keep B₁.keep e
  have hIH : I ∉ C.H := fun m => by obtain ⟨o, e⟩ := B₁.low I m; rw [e] at hnew; cases hnew
  have hlow : ∀ a ∈ C.H, a < D := fun a m => by obtain ⟨o, e⟩ := B₁.low a m; rcases Nat.lt_or_ge a D with h | h; exact h; rw [fresh₁ a h] at e; cases e
  have hID : I < D := by obtain ⟨o, e⟩ := hlive 0 _ hst; rcases Nat.lt_or_ge I D with h | h; exact h; rw [fresh₂ I h] at e; cases e
  have ltK : ∀ b : Addr, b < D → b ≠ K := fun b hb q => by rw [q, hKD] at hb; exact Nat.not_succ_lt_self hb
  have neDK : D ≠ K := by rw [hKD]; exact Nat.ne_of_lt (Nat.lt_succ_self _)
  let H' : List Addr := K :: D :: I :: C.H
  let C' : Cx := { C with env := cenv sc K C.env, H := H' }
  let s₄ : Shared := { s₂ with heap := h₁, toks := s₂.toks + ([] : List (Str × Value)).length }
  have kp₂ : Kp (C.v s₁) (hid H' s₂.heap) := hid_new (H' := [K, D, I]) (keepsKp k₂) fun a m => by
    rcases List.mem_cons.mp m with e | m
    · rw [e, hKD]; exact fresh₁ _ (Nat.le_succ _)
    · rcases List.mem_cons.mp m with e | m
      · rw [e]; exact fresh₁ _ (Nat.le_refl _)
      · rw [List.mem_singleton.mp m]; exact hnew
  have kp₄ : Kp (C.v s₁) (hid H' h₁) := kp₂.trans (hid_kp old)
  have subc : ∀ x c, (cenv sc K C.env).cells.lookup x = some c → C.env.cells.lookup x = some c := fun x c e => closOf_sub sc.names [] (fun _ _ m => nomatch m) x c (mem_of_lookup e)
  have hcD : ∀ x c, (cenv sc K C.env).cells.lookup x = some c → c < D := fun x c e => hlow c (B₁.wf.cell x c (subc x c e)).2.1
  have kinds : ∀ p ∈ ρ', (cenv sc K C.env).kindOf p.1 = some .cell := fun p m => by
    show (cenv sc K C.env).scope.names.lookup p.1 = some .cell
    rw [cenv_scope hs]; simpa using (hρ p m).2
  have Bc : Bd C' s₀ H₀ k s₄ ρ' [] := {
    low := fun a m => by
      rcases List.mem_cons.mp m with e | m
      · obtain ⟨o, _, _, q, _⟩ := hns₁; exact ⟨o, e ▸ q⟩
      · rcases List.mem_cons.mp m with e | m
        · obtain ⟨_, q⟩ := hDl; exact ⟨_, e ▸ q⟩
        · rcases List.mem_cons.mp m with e | m
          · obtain ⟨o, q⟩ := hlive 0 _ hst; exact ⟨o, e ▸ old _ _ q⟩
          · obtain ⟨o, q⟩ := B₁.low a m; exact ⟨o, old _ _ (keepsKp k₂ _ _ q)⟩
    room := B₁.room
    kind := O.kind
    gl := B₁.gl
    bl := B₁.bl
    w0 := B₁.w0
    base := B₁.base
    keep := B₁.keep.trans ((keepsKp k₂).trans old)
    sm := (B₁.sm.trans (smKeeps k₂)).trans ⟨h₁, _, rfl⟩
    wf := ⟨⟨_, hns₁⟩, .head _, fun x c e => by
      obtain ⟨⟨v, q⟩, h2, h3⟩ := B₁.wf.cell x c (subc x c e)
      exact ⟨⟨v, (q.keeps (keepsKp k₂)).keeps old⟩, .tail _ (.tail _ (.tail _ h2)), fun q => by
        exact ltK c (hcD x c e) q⟩, fun x y c e e' => B₁.wf.apart x y c (subc x c e) (subc y c e')⟩
    loc := gnone K (fresh₁ K (by rw [hKD]; exact Nat.le_succ _))
    sub := fun a m => .tail _ (.tail _ (.tail _ (B₁.sub a m)))
    vars := fun x U m => by
      obtain ⟨m, hx⟩ := hρ _ m
      obtain ⟨v, h1, h2⟩ := B₁.vars x U m
      exact ⟨v, ((h1.keeps (keepsKp k₂)).keeps old).into hs O hx, U.mono kp₄ h2⟩
    own := fun a V m => nomatch m }
  have loop : ∀ s₅ : Shared, s₅ = s₄ → codeAny C.M C.A (.compLoop (.ListComp elt [⟨target, iter, [], 0⟩] sc pos) 0 (.ref I) (.ref D) (cenv sc K C.env))
      (compPost C.M C.A E use Qc (.ref D) K) s₅ := by
    rintro s₅ rfl
    refine compLoop_own (fun n s' => ∃ i ys, n = Ts.length + 1 - i ∧ i ≤ Ts.length ∧ St i s'.heap ∧ s'.heap.PlainList D ys ∧ Inv i (hid H' s'.heap) ys.toList ∧ Bd C' s₀ H₀ k s' ρ' [] ∧ Kp (C.v s₁) (hid H' s'.heap) ∧ Kp s₁.heap s'.heap) ?_ (Ts.length + 1)
      ⟨0, #[], rfl, Nat.zero_le _, WW.frame _ _ _ hst fun b _ o e => old b o e, hDl, hI0 _ ((keepsV k₁).trans kp₄), Bc, kp₄, (keepsKp k₂).trans old⟩
    rintro n s' ⟨i, ys, rfl, hin, hsti, hDi, hels, Bi, hkpi, hki⟩
    by_cases hlt : i < Ts.length
    · refine WW.item i _ _ _ hlt hsti fun u h' tk hPu hst' hk' => ?_
      obtain ⟨U, hU, hu⟩ := hP i u hPu
      have hb : But I s' { s' with heap := h', toks := tk } := ⟨h', tk, rfl, fun b o hne e => hk' b o (by simpa using hne) e⟩
      have oI : Own C' I := ⟨.tail _ (.tail _ (.head _)), ⟨fun e => ltK I hID e, fun x c e q => hIH (q ▸ (B₁.wf.cell x c (subc x c e)).2.1)⟩, gnone I hnew⟩
      have B' := Bi.but (μ' := []) hb oI (hlive _ _ hst') fun p m => nomatch m
      have hkp' : Kp (hid H' s'.heap) (hid H' h') := hid_but hb.ext (.tail _ (.tail _ (.head _)))
      have kgK : Kp C.g (hid [K] h') := fun b o e => hideAll_get _ (B'.keep b o e) fun m => by
        have l : C.g.get? K = none := Bc.loc
        rw [List.mem_singleton.mp m, l] at e; cases e
      have Bt : Bd { C with env := cenv sc K C.env, H := H', g := hid [K] h' } s₀ H₀ k { s' with heap := h', toks := tk } ρ' [] := { B' with base := B'.base.trans kgK, keep := hid_le, loc := hideAll_none _ (.head _), own := fun a V m => nomatch m }
      refine hlg _ _ _ _ _ _ _ (hlook _ _ hst') (wpAny_mono (step K H' (hid [K] h') _ i U u _ hU (U.mono (hkpi.trans hkp') hu) Bt) (fun _ s₅ tn => ?_) fun _ _ e => e)
      obtain ⟨tnb, tne⟩ := tn
      refine wpAny_tests_nil ?_
      obtain ⟨s₆, es₆⟩ : ∃ s₆ : Shared, s₆ = s₅ := ⟨_, rfl⟩
      have k₆ : Keeps s₅ s₆ := es₆ ▸ keepsRefl _
      rw [if_pos rfl, ← es₆]
      have kept₆ : ∀ b o, b ≠ K → h'.get? b = some o → s₆.heap.get? b = some o := fun b o hb e => keepsKp k₆ _ _ (tnb.keep b o (hideAll_get _ e fun m => hb (List.mem_singleton.mp m)))
      have sm₆ : Sm s' s₆ := (show Sm s' { s' with heap := h', toks := tk } from ⟨h', tk, rfl⟩).trans ((show Sm { s' with heap := h', toks := tk } s₅ from by
        obtain ⟨x1, x2, e1⟩ := Bt.sm
        obtain ⟨y1, y2, e2⟩ := tnb.sm
        exact ⟨y1, y2, by
          have e1' : s₀ = { ({ s' with heap := h', toks := tk } : Shared) with heap := s₀.heap, toks := s₀.toks } := by rw [e1]
          rw [e2, e1']⟩).trans (smKeeps k₆))
      -- the next turn's facts, D apart
      have next : ∀ (s₇ : Shared) ys', Sm s₆ s₇ → (∀ b o, b ≠ D → s₆.heap.get? b = some o → s₇.heap.get? b = some o) → s₇.heap.PlainList D ys' → Inv (i + 1) (hid H' s₇.heap) ys'.toList →
          ∃ m, m < Ts.length + 1 - i ∧ ∃ i ys, m = Ts.length + 1 - i ∧ i ≤ Ts.length ∧ St i s₇.heap ∧ s₇.heap.PlainList D ys ∧ Inv i (hid H' s₇.heap) ys.toList ∧ Bd C' s₀ H₀ k s₇ ρ' [] ∧ Kp (C.v s₁) (hid H' s₇.heap) ∧ Kp s₁.heap s₇.heap := fun s₇ ys' sm₇ hk₇ hD₇ hE₇ => by
        have kept₇ : ∀ b o, b ≠ K → b ≠ D → h'.get? b = some o → s₇.heap.get? b = some o := fun b o h1 h2 e => hk₇ b o h2 (kept₆ b o h1 e)
        have neK : ∀ b, b < D → b ≠ K ∧ b ≠ D := fun b hb => ⟨ltK b hb, Nat.ne_of_lt hb⟩
        refine ⟨Ts.length + 1 - (i + 1), by omega, i + 1, ys', rfl, hlt, WW.frame _ _ _ hst' fun b hb o e => ?_, hD₇, hE₇, ?_, ?_, fun b o e => ?_⟩
        · have lt : b < D := by
            rcases List.mem_cons.mp hb with q | hb
            · rw [q]; exact hID
            · obtain ⟨o', q⟩ := (hfp b hb).2.2
              rcases Nat.lt_or_ge b D with h | h
              · exact h
              · rw [fresh₁ b h] at q; cases q
          exact kept₇ b o (neK b lt).1 (neK b lt).2 e
        · refine comp_next (D := D) (s := { s' with heap := h', toks := tk }) B' kinds (.tail _ (.head _)) (.head _) ?_ (fun x c e => Nat.ne_of_lt (hcD x c e)) (fun b o h1 h2 e => kept₇ b o h1 h2 e) ?_ ?_ (gnone D (fresh₁ D (Nat.le_refl _)))
          · obtain ⟨a1, a2, e⟩ := sm₆.trans sm₇
            exact ⟨a1, a2, e⟩
          · obtain ⟨m, hm⟩ := tnb.wf.ns
            exact ⟨m, (hm.keeps (keepsKp k₆)).at' fun o e => hk₇ K o neDK.symm e⟩
          · obtain ⟨_, q⟩ := hD₇; exact ⟨_, q⟩
        · exact hkpi.trans (hkp'.trans (hid_of fun b o nb e => ⟨kept₇ b o (fun q => nb (q ▸ .head _)) (fun q => nb (q ▸ .tail _ (.head _))) e, nb⟩))
        · have lt : b < D := by
            rcases Nat.lt_or_ge b D with h | h
            · exact h
            · rw [fresh₁ b h] at e; cases e
          have neI : b ≠ I := fun q => by rw [q, hnew] at e; cases e
          exact kept₇ b o (neK b lt).1 (neK b lt).2 (hb.ext b o neI (hki b o e))
      have hD₆ : s₆.heap.PlainList D ys := hDi.at fun o e => kept₆ D o neDK (hb.ext D o (Nat.ne_of_gt hID) e)
      have kp₆ : Kp (hid H' s'.heap) (hid H' s₆.heap) := hkp'.trans (hid_of fun b o nb e => ⟨kept₆ b o (fun q => nb (q ▸ .head _)) e, nb⟩)
      refine wpAny_mono (tne ys.toList s₆ _ k₆ (hIm kp₆ hels)) (fun y s₇ hy => ?_) fun _ _ e => e
      obtain ⟨k₇, hy⟩ := hy
      have hys : ys.size ≤ sizeLine := by
        have e1 := hIl hels
        have e3 : ys.toList.length = ys.size := by simp
        rw [sizeLine_eq]; omega
      refine wpAny_list_append_plain (hsz := hys) (hD₆.at fun o e => keepsKp k₇ _ _ e) fun h₈ hl₈ hs₈ => ?_
      have kp₈ : Kp (hid H' s₇.heap) (hid H' h₈) := hid_but hs₈.extBut (.tail _ (.head _))
      refine next { s₇ with heap := h₈ } _ ((smKeeps k₇).trans ⟨h₈, s₇.toks, rfl⟩) (fun b o hb e => hs₈.extBut b o hb (keepsKp k₇ _ _ e)) hl₈ ?_
      rw [Array.toList_push]
      exact hIm kp₈ hy
    · have e : i = Ts.length := by omega
      subst e
      refine WW.done _ _ _ hsti fun h' tk hk' => ?_
      obtain ⟨m, hm⟩ := Bi.wf.ns
      have neI : ∀ b, b ≠ I → b ∉ [I] := fun b hb => by simpa using hb
      have hm' : h'.Ns K m := Heap.Ns.at' hm fun o e => hk' K o (neI K fun q => ltK I hID q.symm) e
      refine hfin D K _ ?_ (new_of_keep (keepsKp k₁) (fresh₁ K (by rw [hKD]; exact Nat.le_succ _))) neDK ⟨m, hm'⟩ ?_
      · have kk := keepsKp k₁
        obtain ⟨b1, b2, e2⟩ := Bi.sm
        obtain ⟨c1, c2, e3⟩ := B.sm
        refine ⟨h', tk, ?_, fun b o e => ?_⟩
        · show ({ s' with heap := h', toks := tk } : Shared) = _
          rw [e2, e3]
        · have e₁ := keepsKp k₁ b o e
          exact hk' b o (neI b fun q => by rw [q, hnew] at e₁; cases e₁) (hki b o e₁)
      · obtain ⟨c, hD⟩ := hDi
        have hD'' : h'.get? D = some { cls := .type "list", data := .seq ys c } := hk' D _ (neI D (Nat.ne_of_gt hID)) hD
        refine ⟨ys, c, hideAll_get _ hD'' fun m => ?_, ?_⟩
        · rcases List.mem_cons.mp m with e | m
          · exact neDK e
          · exact Nat.lt_irrefl _ (hlow _ m)
        exact hIm (hid_of fun b o nb e => ⟨hk' b o (neI b fun q => nb (q ▸ .tail _ (.tail _ (.head _)))) e, fun m => by
          rcases List.mem_cons.mp m with e | m
          · exact nb (e ▸ .head _)
          · exact nb (.tail _ (.tail _ (.tail _ m)))⟩) hels
  have hst₄ : St 0 s₄.heap := WW.frame _ _ _ hst fun b _ o e => old b o e
  exact codeAny_compStart_list (loop _ rfl) (WW.self 0 _ _ _ hst₄ (loop _ rfl))

end


/-- the lists that the comprehension has made -/
structure InvC (h₀ : Heap) (ks : List Int) (i : Nat) (g : Heap) (ys : List Value) (as : List Addr) : Prop where
  la : as.length = i
  ly : ys.length = i
  kp : Kp h₀ g
  nd : as.Nodup
  fr : ∀ a ∈ as, h₀.get? a = none
  at' : ∀ a ∈ as, ∃ n, IsL g a #[] n
  el : Els g (((ks.take i).zip as).map fun x => pairT (x.1, VP.ex (.ref x.2))) ys
theorem zip_snoc {α β : Type} : ∀ {l : List α} {m : List β} {a : α} {b : β}, l.length = m.length → (l ++ [a]).zip (m ++ [b]) = l.zip m ++ [(a, b)] := by
  intro l m a b h
  rw [List.zip_append h]; rfl
theorem rangeL_nodup (a b : Int) : (rangeL a b).Nodup := by
  unfold rangeL
  refine List.Pairwise.map _ (fun i j h e => ?_) List.nodup_range
  exact h (by omega)

section
variable {C : Cx} {s₀ s s' : Shared} {H₀ : List Addr} {k : Nat} {ρ ρ' ρ'' : Rho} {μ μ' : Mu}
theorem phaseC_comp (hs : C.env.scope = (defAt 22).scope) (hc : C.env.cells = cellsFrom (C.env.locals + 1) (defAt 22).scope.names []) (B : Bd C s₀ H₀ k s ρ μ) {m : Int} (hm : 3 ≤ m ∧ m ≤ 4) (hmany : (("many" : Str), VP.int m) ∈ ρ) {elt iter : Expr} {px : Pos} {sc : Scope} {pos : Pos} {Q : Value → Shared → Prop} {E : Value → Shared → Prop}
    (O : CompOk sc (defAt 22).scope) (hx : ((relabelD sc (defAt 22).scope).names.lookup ("node" : Str) == some .local) = true)
    (hiter : Ev C s iter (.range 1 (m + 1))) (helt : ∃ p1 p2 p3 k3, elt = .Tuple [.Name "node" p1, .List [] p2] k3 p3)
    (hf : ∀ x, foldedSetIterable iter C.env x = pure x)
    (q : ∀ D as s', Keeps s s' → (∃ vs n, IsL (C.v s') D vs n ∧ InvC (C.v s) (rangeL 1 (m + 1)) (rangeL 1 (m + 1)).length (C.v s') vs.toList as) → Q (.ref D) s') :
    wpAny C.M C.A (eval (.ListComp elt [⟨.Name "node" px, iter, [], 0⟩] sc pos) C.env) Q E s := by
  obtain ⟨p1, p2, p3, k3, rfl⟩ := helt
  rw [eval_ListComp]
  refine comp_inv (use := none) (Qc := Q) B hs hc O hiter (iter_range (by omega)) (by rw [List.length_map, rangeL_len]; omega) (fun i g ys => ∃ as, InvC (C.v s) (rangeL 1 (m + 1)) i g ys as)
    (fun g kp => ⟨[], ⟨rfl, rfl, kp, .nil, fun a m => (nomatch m), fun a m => (nomatch m), by simpa using Els.nil⟩⟩) (fun {i g g' ys} kp ⟨as, h⟩ => ⟨as, ⟨h.la, h.ly, h.kp.trans kp, h.nd, h.fr, fun a m => let ⟨n, e⟩ := h.at' a m; ⟨n, kp _ _ e⟩, h.el.mono kp⟩⟩) (fun {i g ys} ⟨as, h⟩ => h.ly) [] cap_nil letsGo_name
    (fun K H' g' s' i U v E' hU hv B' => ?_) (fun D K s' ks n ne hns hl => ?_) hf
  · obtain ⟨n, hn, rfl⟩ := map_at hU
    refine assign_name (Bd.storeL (C := { C with env := cenv sc K C.env, H := H', g := g' }) (ρ' := []) B' (x := "node") (kind_c hs hx) hv (by k_all) fun s₂ B₂ => ⟨B₂.less (by k_upd), fun ys s₃ E₃ k₃ hI => ?_⟩)
    obtain ⟨as, hI⟩ := hI
    have B₃ := B₂.later k₃
    refine wpAny_Tuple (wpAny_items_cons ((B₃.ev (x := "node") (T := .int n) (by k_mem)).use (keepsRefl _) fun v s₄ k₄ hv => ?_) (by rfl))
    have B₄ := B₃.later k₄
    refine wpAny_items_cons (wpAny_mono (EvF_list (C := { C with env := cenv sc K C.env, H := H', g := g' }) (es := []) (pos := p2) B₄.ok .nil (by simp) s₄ E₃ (keepsRefl _)) (fun v₂ s₅ h₅ => ?_) fun _ _ e => e) (by rfl)
    obtain ⟨k₅, a, o, rfl, hnew, hms, hl, hV⟩ := h₅
    refine wpAny_items_nil ⟨by rw [sizeLine_eq, List.length_cons, List.length_cons, List.length_nil]; omega, keepsTrans k₄ (keepsTrans k₅ (keepsPush _ _)), as ++ [a], ?_⟩
    have B₅ := B₄.later k₅
    have kv : Kp (hid H' s₃.heap) (hid H' (s₅.heap.push { cls := .type "tuple", data := .seq #[v, .ref a] })) := hid_kp fun b o e => Heap.get?_push_of_some _ (keepsKp (keepsTrans k₄ k₅) b o e)
    have haH : a ∉ H' := fun mm => (let ⟨o', e'⟩ := B₄.low a mm; by rw [e'] at hnew; cases hnew)
    have hvis : ∀ c o, s₃.heap.get? c = some o → c ≠ a := fun c o e q => by
      have := keepsKp k₄ c o e
      rw [q, hnew] at this; cases this
    obtain ⟨vs, nn, rfl, hE⟩ := hV
    have hvs : vs = #[] := by cases hE' : vs.toList with
      | nil => exact Array.toList_eq_nil_iff.mp hE'
      | cons x y => rw [hE'] at hE; cases hE
    subst hvs
    have hi : i < (rangeL 1 (m + 1)).length := (List.getElem?_eq_some_iff.mp hn).1
    refine ⟨by rw [List.length_append, hI.la]; rfl, by rw [List.length_append, hI.ly]; rfl, hI.kp.trans kv, ?_, fun c mc => ?_, fun c mc => ?_, ?_⟩
    · rw [List.nodup_append]
      refine ⟨hI.nd, List.pairwise_singleton _ _, fun c mc d md e => ?_⟩
      rw [List.mem_singleton] at md
      obtain ⟨n', e'⟩ := hI.at' c mc
      exact hvis c _ (hid_le _ _ e') (e.trans md)
    · rcases List.mem_append.mp mc with mc | mc
      · exact hI.fr c mc
      · rw [List.mem_singleton.mp mc]
        cases e : (C.v s).get? a with
        | none => rfl
        | some o' => exact absurd rfl (hvis a o' (hid_le _ _ (hI.kp a o' e)))
    · rcases List.mem_append.mp mc with mc | mc
      · obtain ⟨n', e'⟩ := hI.at' c mc
        exact ⟨n', kv _ _ e'⟩
      · rw [List.mem_singleton.mp mc]
        exact ⟨nn, hideAll_get _ (Heap.get?_push_of_some _ hl) haH⟩
    · rw [List.take_add_one, hn, Option.toList_some, zip_snoc (by rw [List.length_take, hI.la]; omega), List.map_append]
      refine (hI.el.mono kv).append (.cons ⟨_, _, 0, rfl, B₅.ok.push, .cons ((VP.int n).mono (fun _ _ e => e) hv) (.cons rfl .nil)⟩ .nil)
  · obtain ⟨mm, hmm⟩ := hns
    obtain ⟨vs, nn, hL, as, hI⟩ := hl
    refine ⟨mm, hmm, fun h'' hs'' => ?_⟩
    have kp : Kp (hid (K :: C.H) s'.heap) (hid C.H h'') := hid_of fun b o nb e => ⟨hs''.extBut b o (fun q => nb (q ▸ .head _)) e, fun m => nb (.tail _ m)⟩
    rw [List.length_map] at hI
    refine q D as _ ?_ ⟨vs, nn, kp _ _ hL, ⟨hI.la, hI.ly, hI.kp.trans kp, hI.nd, hI.fr, fun a m => let ⟨n, e⟩ := hI.at' a m; ⟨n, kp _ _ e⟩, hI.el.mono kp⟩⟩
    obtain ⟨h1, t1, rfl, kp1⟩ := ks
    exact ⟨h'', t1, rfl, fun b o e => hs''.extBut b o (fun q => by rw [q, n] at e; cases e) (kp1 b o e)⟩
end


theorem els_ex {g g' : Heap} : ∀ {ls : List (Int × Addr)} {vs : List Value}, Els g (ls.map fun x => VP.ex (.ref x.2)) vs → Els g' (ls.map fun x => VP.ex (.ref x.2)) vs := by
  intro ls
  induction ls with
  | nil => intro vs h; cases h; exact .nil
  | cons x r ih => intro vs h; rw [List.map_cons] at h; cases h with | cons a t => exact .cons a (ih t)
section
variable {C : Cx} {s₀ s s' : Shared} {H₀ : List Addr} {k : Nat} {ρ ρ' ρ'' : Rho} {μ μ' : Mu}
theorem phaseC (hs : C.env.scope = (defAt 22).scope) (hc : C.env.cells = cellsFrom (C.env.locals + 1) (defAt 22).scope.names []) (hn : CellsNew C) {cells : List Int} {p : Addr} {m bk : Int} (hm : 3 ≤ m ∧ m ≤ 4)
    (B : Bd C s₀ H₀ k s [("many", .int m), ("backwards", .int bk), ("pool", VP.ex (.ref p))] [(p, MV.wl (poolT cells 2))]) {Q : Flow → Shared → Prop} {E : Value → Shared → Prop}
    (q : ∀ b ls s', (b == sysModules) = false → LsOk ls p b → ls.map (·.1) = rangeL 1 (m + 1) → b ∉ C.H → (∀ x ∈ ls, x.2 ∉ C.H) → Bd { C with H := (b :: ls.map (·.2)) ++ C.H } s₀ H₀ k s' [("beside", VP.ex (.ref b)), ("pool", VP.ex (.ref p)), ("many", .int m), ("backwards", .int bk)] (gMu C.prog C.w cells p b ls 2 fun _ => []) → Q .next s') : wpAny C.M C.A (exec (lawAt 2) C.env) Q E s := by
  refine wpAny_Assign_Name (wpAny_Call_ofName ((Ev_boot (v := .type "dict") B.ok (by decide +kernel) (kind_of hs (by decide +kernel))).use (keepsRefl _) fun f s₁ k₁ hf => ?_)) (by rfl)
  have hf : f = .type "dict" := hf
  subst hf
  have B₁ := B.later k₁
  refine callWith_type1 (wpAny_items_cons (phaseC_comp hs hc B₁ hm (by k_mem) ⟨by decide +kernel, by decide +kernel, by decide +kernel, by decide +kernel⟩ (by decide +kernel) (Ev_callT (id := "range") B₁.ok (by decide +kernel) (kind_of hs (by decide +kernel)) (.cons Ev_int (.cons (Ev_bin (T := .int m) (B₁.ev (by k_mem)) Ev_int op_add_int) .nil)) (op_range B₁.ok)) ⟨_, _, _, _, rfl⟩ (fun _ => rfl) fun D₀ as s₂ k₂ hI => ?_) (by rfl)) (by rfl) (by rfl)
  obtain ⟨vs, n, hL, hI⟩ := hI
  refine wpAny_items_nil ?_
  have hla := hI.la
  let ls := (rangeL 1 (m + 1)).zip as
  have hl1 : ls.map (·.1) = rangeL 1 (m + 1) := List.map_fst_zip (by omega)
  have hl2 : ls.map (·.2) = as := List.map_snd_zip (by omega)
  have hel := hI.el
  rw [List.take_length] at hel
  have hpl : ls.length ≤ 1000 := by
    have := congrArg List.length hl1
    rw [List.length_map, rangeL_len] at this; omega
  refine wpAny_mono (op_dict_pairsF (pairs := ls.map fun x => (x.1, VP.ex (.ref x.2))) (B₁.later k₂).ok (by rw [List.length_map]; exact hpl) s₂ E [.ref D₀] (keepsRefl _) (.cons ⟨D₀, vs, n, rfl, hL, by rw [List.map_map]; exact hel⟩ .nil)) (fun v s₃ h₃ => ?_) fun _ _ e => e
  obtain ⟨k₃, b, ws, rfl, hnb, hbm, hD, hm3, hx3⟩ := h₃
  have hop : ofPairs (ls.map fun x => (x.1, VP.ex (.ref x.2))) = ls.map fun x => (x.1, VP.ex (.ref x.2)) := ofPairs_nodup (by rw [map_fst fun a : Addr => VP.ex (.ref a)]; rw [hl1]; exact rangeL_nodup _ _)
  rw [hop] at hm3 hx3
  have has : ∀ a ∈ as, a ∉ C.H ∧ s₁.heap.get? a = none ∧ ∃ n, s₂.heap.get? a = some { cls := .type "list", dict := none, data := .seq #[] n, slots := #[] } := fun a ma => by
    obtain ⟨n', e'⟩ := hI.at' a ma
    refine ⟨hid_not e', ?_, n', hid_le _ _ e'⟩
    cases e : s₁.heap.get? a with
    | none => rfl
    | some o =>
      have : (C.v s₁).get? a = some o := hideAll_get _ e (hid_not e')
      rw [hI.fr a ma] at this; cases this
  have hb1 : s₁.heap.get? b = none := new_of_keep (keepsKp k₂) hnb
  have hbH : b ∉ C.H := fun mm => (let ⟨o', e'⟩ := B₁.low b mm; by rw [e'] at hb1; cases hb1)
  obtain ⟨ob, eb, db⟩ := Heap.dictOf_iff.mp hD
  obtain ⟨hOp, opo, ep, hVp⟩ := B₁.own p _ (.head _)
  obtain ⟨Bh, hOw⟩ := B₁.hides (Is := b :: as) (keepsTrans k₂ k₃) (fun I mI => by
    rcases List.mem_cons.mp mI with rfl | mI
    · exact hb1
    · exact (has I mI).2.1) (fun I mI => by
    rcases List.mem_cons.mp mI with rfl | mI
    · exact ⟨ob, eb⟩
    · obtain ⟨n', e'⟩ := (has I mI).2.2
      exact ⟨_, keepsKp k₃ _ _ e'⟩)
  have hpb : p ≠ b := fun e => by
    rw [e, hb1] at ep
    cases ep
  have hpx : ∀ x ∈ ls, x.2 ≠ p ∧ x.2 ≠ b := fun x hx => by
    have mx : x.2 ∈ as := by rw [← hl2]; exact List.mem_map.mpr ⟨x, hx, rfl⟩
    refine ⟨fun e => ?_, fun e => ?_⟩
    · have := (has _ mx).2.1
      rw [e, ep] at this
      cases this
    · obtain ⟨n', e'⟩ := (has _ mx).2.2
      rw [e, hnb] at e'
      cases e'
  have L : LsOk ls p b := ⟨by rw [hl2]; exact hI.nd, by rw [hl1]; exact rangeL_nodup _ _, hpb, hpx⟩
  have Bg : Bd { C with H := (b :: as) ++ C.H } s₀ H₀ k s₃ [("many", .int m), ("backwards", .int bk), ("pool", VP.ex (.ref p))] (gMu C.prog C.w cells p b ls 2 fun _ => []) := { Bh with
    own := fun a V mm => by
      rcases List.mem_cons.mp mm with e | mm
      · cases e; exact Bh.own p _ (.head _)
      · rcases List.mem_cons.mp mm with e | mm
        · cases e
          refine ⟨hOw b (.head _), ob, eb, ws, db, hm3, ?_⟩
          have : (ls.map fun x => (x.1, VP.ex (.ref x.2))).map (·.2) = ls.map fun x => VP.ex (.ref x.2) := by rw [List.map_map]; rfl
          rw [this] at hx3 ⊢
          exact els_ex hx3
        · obtain ⟨x, hx, e⟩ := List.mem_map.mp mm
          cases e
          have mx : x.2 ∈ as := by rw [← hl2]; exact List.mem_map.mpr ⟨x, hx, rfl⟩
          obtain ⟨n', e'⟩ := (has _ mx).2.2
          exact ⟨hOw x.2 (.tail _ mx), _, keepsKp k₃ _ _ e', #[], n', rfl, .nil⟩ }
  refine Bd.put (C := { C with H := (b :: as) ++ C.H }) (T := VP.ex (.ref b)) (ρ' := [("pool", VP.ex (.ref p)), ("many", .int m), ("backwards", .int bk)]) Bg (x := "beside") (.inr ⟨kind_of hs (by decide +kernel), cell_of hc (by decide +kernel), hn⟩) rfl (by k_all) fun s₄ _ B₄ => q b ls s₄ hbm L hl1 hbH (fun x hx => (has _ (by rw [← hl2]; exact List.mem_map.mpr ⟨x, hx, rfl⟩)).1) ?_
  rw [hl2]; exact B₄
end


theorem els_ints_any {g g' : Heap} : ∀ {l : List Int} {vs : List Value}, Els g (l.map VP.int) vs → Els g' (l.map VP.int) vs := fun h => by
  rename_i l vs
  induction l generalizing vs with
  | nil => cases h; exact .nil
  | cons n r ih => rw [List.map_cons] at h; cases h with | cons a t => exact .cons a (ih t)
theorem els_frozen {g g' : Heap} {G : Gr} : ∀ {ls : List (Int × Addr)} {vs : List Value}, (∀ x ∈ ls, (VP.list ((G x.1).map VP.int)).P g' (.ref x.2)) → Els g (ls.map fun x => VP.ex (.ref x.2)) vs → Els g' (ls.map fun x => VP.list ((G x.1).map VP.int)) vs := by
  intro ls
  induction ls with
  | nil => intro vs _ h; cases h; exact .nil
  | cons x r ih =>
    intro vs hx h
    rw [List.map_cons] at h
    cases h with
    | cons a t =>
      have a : _ = Value.ref x.2 := a
      subst a
      exact .cons (hx x (.head _)) (ih (fun y m => hx y (.tail _ m)) t)
def besOf (G : Gr) (ns : List Int) : Bes := ns.map fun n => (n, G n)
section
variable {C : Cx} {s₀ s s' : Shared} {H₀ : List Addr} {k : Nat} {ρ ρ' ρ'' : Rho} {μ μ' : Mu}
/-- the lists are changed no more -/
theorem Bd.froze {s₁ : Shared} {ρ₁ : Rho} {μ₁ : Mu} {p b : Addr} {ls : List (Int × Addr)} (B₀ : Bd C s₀ H₀ k s₁ ρ₁ μ₁) (hp : p ∈ C.H) (hb : b ∉ C.H) (hx : ∀ x ∈ ls, x.2 ∉ C.H) (L : LsOk ls p b)
    (B : Bd { C with H := (b :: ls.map (·.2)) ++ C.H } s₀ H₀ k s ρ (gMu C.prog C.w cells p b ls i G)) :
    Bd { C with H := b :: C.H } s₀ H₀ k s ρ [(p, MV.wl (poolT cells i)), (b, MV.dict C.prog C.w ((besOf G (ls.map (·.1))).map fun p => (p.1, .list (p.2.map VP.int))))] := by
  have hsub : ∀ a ∈ b :: C.H, a ∈ (b :: ls.map (·.2)) ++ C.H := fun a m => by
    rcases List.mem_cons.mp m with rfl | m
    · exact .head _
    · exact List.mem_append_right _ m
  have kp : Kp (hid ((b :: ls.map (·.2)) ++ C.H) s.heap) (hid (b :: C.H) s.heap) := hid_sub hsub
  have hkeys : ((besOf G (ls.map (·.1))).map fun p => (p.1, VP.list (p.2.map VP.int))) = ls.map fun x => (x.1, VP.list ((G x.1).map VP.int)) := by
    unfold besOf; rw [List.map_map, List.map_map]; rfl
  obtain ⟨hOp, op, ep, hVp⟩ := B.own p _ (.head _)
  obtain ⟨hOb, ob, eb, ws, db, hm, hE⟩ := B.own b _ (.tail _ (.head _))
  refine { B with
    low := fun a m => B.low a (hsub a m)
    wf := { B.wf with loc := .tail _ B₀.wf.loc, cell := fun n c e => let ⟨h1, h2, h3⟩ := B.wf.cell n c e; ⟨h1, .tail _ (B₀.wf.cell n c e).2.1, h3⟩ }
    sub := fun a m => .tail _ (B₀.sub a m)
    vars := fun x T m => let ⟨v, h1, h2⟩ := B.vars x T m; ⟨v, h1, T.mono kp h2⟩
    own := fun a V m => ?_ }
  rcases List.mem_cons.mp m with e | m
  · cases e
    exact ⟨⟨.tail _ hp, hOp.off, hOp.new⟩, op, ep, (MV.wl _).mono kp hVp⟩
  · rw [List.mem_singleton] at m
    cases m
    refine ⟨⟨.head _, hOb.off, hOb.new⟩, ob, eb, ws, db, ?_, ?_⟩
    · rw [hkeys, hm, List.map_map, List.map_map]; rfl
    · rw [hkeys, List.map_map]
      have e1 : (ls.map fun x => (x.1, VP.ex (.ref x.2))).map (·.2) = ls.map fun x => VP.ex (.ref x.2) := by rw [List.map_map]; rfl
      rw [e1] at hE
      refine els_frozen (fun x hxl => ?_) hE
      obtain ⟨hO, o, e, vs, n, rfl, hI⟩ := B.own x.2 (MV.list ((G x.1).map VP.int)) (.tail _ (.tail _ (List.mem_map.mpr ⟨x, hxl, rfl⟩)))
      refine ⟨x.2, vs, n, rfl, hideAll_get _ e fun mm => ?_, els_ints_any hI⟩
      rcases List.mem_cons.mp mm with q | q
      · exact (L.p x hxl).2 q
      · exact hx x hxl q
end


theorem Ev_neg {C : Cx} {s : Shared} {e : Expr} {n : Int} {pos} (h : Ev C s e (.int n)) : Ev C s (.UnaryOp .USub e pos) (.int (-n)) := fun s' E k =>
  wpAny_UnaryOp (h.use k fun v s₁ k₁ hv => by
    obtain ⟨t, rfl⟩ := hv
    exact PyProof.Rows.neg_int ⟨keepsTrans k₁ (keepsToks _ _), _, rfl⟩)
theorem op_int {C : Cx} {s : Shared} {n : Int} : OpN C s (.type "int") [.int n] (VP.int n).P := fun s' E vs ks hv => by
  cases hv with | cons hx hv => cases hv with | nil =>
  obtain ⟨t, rfl⟩ := hx
  exact call_int_int ⟨keepsRefl _, _, rfl⟩
section
variable {C : Cx} {s₀ s s' : Shared} {H₀ : List Addr} {k : Nat} {ρ ρ' ρ'' : Rho} {μ μ' : Mu}
theorem phaseA (hs : C.env.scope = (defAt 22).scope) (hc : C.env.cells = cellsFrom (C.env.locals + 1) (defAt 22).scope.names []) {ns : List Int} (hns : ns.length ≤ 900)
    (B : Bd C s₀ H₀ k s [("script", .list (ns.map VP.int))] []) {Q : Flow → Shared → Prop} {E : Value → Shared → Prop}
    (q : ∀ p s', (p == sysModules) = false → p ∉ C.H → Bd { C with H := p :: C.H } s₀ H₀ k s' [("pool", VP.ex (.ref p))] [(p, MV.wl (poolT (ns.take 12) 0))] → Q .next s') : wpAny C.M C.A (exec (lawAt 0) C.env) Q E s := by
  have e1 : ((ns.take 12).map fun n => some (VP.int n)).filterMap id = (ns.take 12).map VP.int := by
    generalize ns.take 12 = l
    induction l with
    | nil => rfl
    | cons a r ih => rw [List.map_cons, List.map_cons, ← ih]; rfl
  have hcomp : ∀ {elt it : Expr} {px : Pos} {sc : Scope} {pos : Pos}, CompOk sc (defAt 22).scope → ((relabelD sc (defAt 22).scope).names.lookup ("cell" : Str) == some .local) = true → ((relabelD sc (defAt 22).scope).names.lookup ("int" : Str) == some .globalImplicit) = true → Ev C s it (.list ((ns.take 12).map VP.int)) →
      (∃ p1 p2 p3, elt = .Call (.Name "int" p1) [.Name "cell" p2] [] p3) → (∀ x, foldedSetIterable it C.env x = pure x) → Ev C s (.ListComp elt [⟨.Name "cell" px, it, [], 0⟩] sc pos) (.list ((ns.take 12).map VP.int)) := fun {elt it px sc pos} O h1 h2 hit he hf => by
    obtain ⟨p1, p2, p3, rfl⟩ := he
    rw [← e1]
    refine comp_ B hs hc O hit iter_list _ (by rw [List.length_map, List.length_map]) (by rw [List.length_map, List.length_take]; omega) [] cap_nil letsGo_name (fun K H' g' s' i U rr v E' hU hr hv B' => ?_) hf
    obtain ⟨n, hn, rfl⟩ := map_at hU
    have er := map_at2 hr hn
    subst er
    exact assign_name (Bd.storeL (C := { C with env := cenv sc K C.env, H := H', g := g' }) (ρ' := []) B' (x := "cell") (kind_c hs h1) hv (by k_all) fun s₂ B₂ => ⟨B₂.less (by k_upd), tests_nil, fun U hU => by
      cases hU
      exact Ev_callT (C := { C with env := cenv sc K C.env, H := H', g := g' }) (id := "int") B₂.ok (by decide +kernel) (kind_c hs h2) (.cons (B₂.ev (by k_mem)) .nil) op_int⟩)
  refine own_storeL (ρ' := []) B (EvF_list (Ts := poolT (ns.take 12) 0) B.ok (.cons (hcomp ⟨by decide +kernel, by decide +kernel, by decide +kernel, by decide +kernel⟩ (by decide +kernel) (by decide +kernel) (Ev_list_slice (lo := none) (hi := some (12 : Int)) (st := none) (Ts := ns.map VP.int) B.ok (B.ev (by k_mem)) .none (.int Ev_int) .none (by decide) (by rw [List.length_map]; omega) (fun g vs hE => by
    have := slicePick_upto' vs.toArray 12
    rw [show ((12 : Nat) : Int) = 12 from rfl] at this
    rw [this, List.map_take]; simpa using hE.take 12)) ⟨_, _, _, rfl⟩ (fun _ => rfl)) (.cons Ev_int .nil))) (kind_of hs (by decide +kernel)) (by k_all) fun a s' hm ha B' => q a s' hm ha B'.weakW
end


theorem slicePick_rev (xs : Array Value) : (slicePick xs none none (some (-1))).toList = xs.toList.reverse := by
  unfold slicePick
  have hb : sliceBounds none none (some (-1)) xs.size = ((xs.size : Int) - 1, -1, -1) := rfl
  rw [hb]
  have hr : sliceRange ((xs.size : Int) - 1) (-1) (-1) = (List.range xs.size).map fun k => xs.size - 1 - k := by
    unfold sliceRange
    rw [if_neg (by decide)]
    have hc : (if (xs.size : Int) - 1 > -1 then ((xs.size : Int) - 1 - -1 - -1 - 1) / (- -1) else 0).toNat = xs.size := by
      rw [show (- -1 : Int) = 1 from rfl, Int.ediv_one]
      split <;> omega
    show (List.range (if (xs.size : Int) - 1 > -1 then ((xs.size : Int) - 1 - -1 - -1 - 1) / (- -1) else 0).toNat).map _ = _
    rw [hc]
    refine List.map_congr_left fun k hk => ?_
    rw [List.mem_range] at hk
    omega
  show ((sliceRange ((xs.size : Int) - 1) (-1) (-1)).filterMap (xs[·]?)) = _
  rw [hr]
  refine List.ext_getElem? fun i => ?_
  rw [List.filterMap_map]
  have key : ∀ l : List Nat, (∀ k ∈ l, k < xs.size) → l.filterMap ((fun x => xs[x]?) ∘ fun k => xs.size - 1 - k) = l.map fun k => xs.toList[xs.size - 1 - k]?.getD .none := by
    intro l
    induction l with
    | nil => intro _; rfl
    | cons a r ih =>
      intro h
      have ha := h a (.head _)
      have hlt : xs.size - 1 - a < xs.size := by omega
      rw [List.map_cons, List.filterMap_cons_some (b := xs.toList[xs.size - 1 - a]?.getD .none) (by
        show xs[xs.size - 1 - a]? = _
        rw [Array.getElem?_toList, Array.getElem?_eq_getElem hlt]; rfl), ih fun k m => h k (.tail _ m)]
  rw [key _ fun k m => List.mem_range.mp m, List.getElem?_map]
  by_cases hi : i < xs.size
  · rw [List.getElem?_range hi, List.getElem?_reverse (by simpa using hi)]
    have hlt : xs.size - 1 - i < xs.size := by omega
    simp [Array.getElem?_eq_getElem hlt]
  · rw [List.getElem?_eq_none (by simpa using hi), List.getElem?_eq_none (by simpa using hi)]; rfl
theorem Ev_rev {C : Cx} {s : Shared} {value : Expr} {e : Expr} {Ts : List VP} {p pos} (O : Ok C s) (hv : Ev C s value (.list Ts)) (he : Ev C s e (.int (-1))) (h3 : Ts.length ≤ 1000) :
    Ev C s (.Subscript value (.Slice none none (some e) p) pos) (.list Ts.reverse) :=
  Ev_sub hv (Ev_slice O .none .none (.int he)) list_typeIs slot_list_getitem.lookup (op_list_slice O (by decide) h3 fun g vs hE => by rw [slicePick_rev]; exact hE.reverse) fun o i => ⟨_, rfl⟩


theorem dict_cls {prog : Program} {w : World} {kvs : List (Int × VP)} (g : Heap) (o : Obj) (h : (MV.dict prog w kvs).P g o) : o.cls = .type "dict" := by
  obtain ⟨_, ⟨_, _, h1, _⟩, _⟩ := h; exact h1.1
theorem rehide_tupP {H H' : List Addr} {h : Heap} (hH : ∀ c ∈ H', c ∉ H → ∀ o, h.get? c = some o → o.cls = .type "dict") {l : List Path} {v : Value} (x : (VP.tup (l.map pathV)).P (hid H h) v) : (VP.tup (l.map pathV)).P (hid H' h) v := by
  obtain ⟨a, vs, n, rfl, d, e⟩ := x
  exact ⟨a, vs, n, rfl, rehide_get hH d (by simp), rehide_paths hH e⟩
section
variable {C : Cx} {s₀ s s' : Shared} {H₀ : List Addr} {k : Nat} {ρ ρ' ρ'' : Rho} {μ μ' : Mu}
theorem unpeek_own (B : Bd C s₀ H₀ k s ρ μ) {a : Addr} {V : MV} (hm : (a, V) ∈ μ) (hV : ∀ g o, V.P g o → o.cls = .type "dict") (ks : Keeps s s') : ∀ c ∈ C.H, c ∉ (C.but a).H → ∀ o, s'.heap.get? c = some o → o.cls = .type "dict" := fun c hc hn o e => by
  have hca : c = a := by
    by_cases h : c = a
    · exact h
    · exact absurd (mem_but.mpr ⟨hc, h⟩) hn
  subst hca
  obtain ⟨_, o', e', h⟩ := B.own c V hm
  have := keepsKp ks c o' e'
  rw [e] at this; cases this
  exact hV _ _ h
theorem unpeek_ints (B : Bd C s₀ H₀ k s ρ μ) {a : Addr} {V : MV} (hm : (a, V) ∈ μ) (hV : ∀ g o, V.P g o → o.cls = .type "dict") {e : Expr} {l : List Int} (h : Ev (C.but a) s e (.list (l.map VP.int))) : Ev C s e (.list (l.map VP.int)) := fun s' E k =>
  wpAny_mono (h s' E k) (fun v s'' x => ⟨x.1, rehide_listI (unpeek_own B hm hV (keepsTrans k x.1)) x.2⟩) fun _ _ e => e
theorem unpeek_tupP (B : Bd C s₀ H₀ k s ρ μ) {a : Addr} {V : MV} (hm : (a, V) ∈ μ) (hV : ∀ g o, V.P g o → o.cls = .type "dict") {e : Expr} {l : List Path} (h : Ev (C.but a) s e (.tup (l.map pathV))) : Ev C s e (.tup (l.map pathV)) := fun s' E k =>
  wpAny_mono (h s' E k) (fun v s'' x => ⟨x.1, rehide_tupP (unpeek_own B hm hV (keepsTrans k x.1)) x.2⟩) fun _ _ e => e
end

/-! the places -/
def sortB (bk : Int) (l : List Int) : List Int := if bk = 1 then (sortI l).reverse else sortI l
def rowP (n : Int) (l : List Int) : List Path := (l.map fun o => [n, o, 0]) ++ [[n, 0]]
structure FS where
  i : Nat
  nodes : List Int
  bs : Bes
  pb : Prob
def fStep (cells : List Int) (bk : Int) (x : FS) (n : Int) : Option FS := match look n x.bs with
  | none => none
  | some l => some ⟨x.i + 1, (x.nodes.take (drawAt cells x.i n).toNat ++ [n]) ++ x.nodes.drop (drawAt cells x.i n).toNat, put n (sortB bk l) x.bs, put n (rowP n (sortB bk l)) x.pb⟩
def fAll (cells : List Int) (bk : Int) : FS → List Int → Option FS
  | x, [] => some x
  | x, n :: r => match fStep cells bk x n with
    | none => none
    | some y => fAll cells bk y r
theorem fAll_append (cells : List Int) (bk : Int) : ∀ (l m : List Int) (x : FS), fAll cells bk x (l ++ m) = (match fAll cells bk x l with | none => none | some y => fAll cells bk y m) := by
  intro l
  induction l with
  | nil => intro m x; rfl
  | cons n r ih =>
    intro m x
    rw [List.cons_append, fAll, fAll]
    cases fStep cells bk x n with
    | none => rfl
    | some y => exact ih m y
def fAt (cells : List Int) (bk : Int) (x : FS) (l : List Int) (i : Nat) : FS := match fAll cells bk x (l.take i) with | none => x | some q => q
theorem fAt_some {cells : List Int} {bk : Int} {x q : FS} {l : List Int} (h : fAll cells bk x l = some q) (i : Nat) : fAll cells bk x (l.take i) = some (fAt cells bk x l i) := by
  unfold fAt
  cases e : fAll cells bk x (l.take i) with
  | none =>
    have := fAll_append cells bk (l.take i) (l.drop i) x
    rw [List.take_append_drop, e, h] at this
    cases this
  | some q => rfl
theorem fAt_next {cells : List Int} {bk : Int} {x q : FS} {l : List Int} (h : fAll cells bk x l = some q) {i : Nat} {n : Int} (hn : l[i]? = some n) : fStep cells bk (fAt cells bk x l i) n = some (fAt cells bk x l (i + 1)) := by
  have h1 := fAt_some h i
  have h2 := fAt_some h (i + 1)
  rw [List.take_add_one, hn, Option.toList_some, fAll_append, h1] at h2
  have h2 : (match fStep cells bk (fAt cells bk x l i) n with | none => none | some y => fAll cells bk y []) = some (fAt cells bk x l (i + 1)) := h2
  cases e : fStep cells bk (fAt cells bk x l i) n with
  | none => rw [e] at h2; cases h2
  | some y => rw [e] at h2; exact h2


theorem put_mem {α : Type} {k : Int} {v : α} : ∀ {l : List (Int × α)} {x : Int × α}, x ∈ put k v l → x = (k, v) ∨ x ∈ l := by
  intro l
  induction l with
  | nil => intro x m; exact .inl (List.mem_singleton.mp m)
  | cons p r ih =>
    intro x m
    obtain ⟨a, y⟩ := p
    rw [put] at m
    by_cases e : a = k
    · rw [if_pos e] at m
      rcases List.mem_cons.mp m with h | m
      · exact .inl (by rw [h, e])
      · exact .inr (.tail _ m)
    · rw [if_neg e] at m
      rcases List.mem_cons.mp m with h | m
      · exact .inr (h ▸ .head _)
      · rcases ih m with h | h
        · exact .inl h
        · exact .inr (.tail _ h)
theorem put_len_of {α : Type} {k : Int} {v w : α} : ∀ {l : List (Int × α)}, look k l = some w → (put k v l).length = l.length := by
  intro l
  induction l with
  | nil => intro h; cases h
  | cons p r ih =>
    intro h
    obtain ⟨a, y⟩ := p
    rw [look] at h
    rw [put]
    by_cases e : a = k
    · rw [if_pos e]; rfl
    · rw [if_neg e] at h; rw [if_neg e, List.length_cons, ih h, List.length_cons]
theorem sortB_len (bk : Int) (l : List Int) : (sortB bk l).length = l.length := by
  unfold sortB; split
  · rw [List.length_reverse, sortI_len]
  · exact sortI_len l
theorem fStep_fit {cells : List Int} {bk : Int} {x y : FS} {n : Int} (h : fStep cells bk x n = some y) (hb : BesS x.bs) : y.i = x.i + 1 ∧ y.nodes.length = x.nodes.length + 1 ∧ BesS y.bs ∧ y.pb.length ≤ x.pb.length + 1 := by
  unfold fStep at h
  cases hl : look n x.bs with
  | none => rw [hl] at h; cases h
  | some l =>
    rw [hl] at h
    have e := (Option.some.inj h).symm
    subst e
    refine ⟨rfl, ?_, ⟨?_, fun z m => ?_⟩, put_length⟩
    · show ((x.nodes.take _ ++ [n]) ++ x.nodes.drop _).length = _
      rw [List.length_append, List.length_append, List.length_take, List.length_drop, List.length_singleton]; omega
    · show (put n (sortB bk l) x.bs).length ≤ 8
      rw [put_len_of hl]; exact hb.n
    · rcases put_mem m with rfl | m
      · show (sortB bk l).length ≤ 8
        rw [sortB_len]; exact hb.p _ (look_mem hl)
      · exact hb.p z m
theorem fAt_fit {cells : List Int} {bk : Int} {x q : FS} {l : List Int} (h : fAll cells bk x l = some q) (hb : BesS x.bs) : ∀ i, i ≤ l.length → (fAt cells bk x l i).i = x.i + i ∧ (fAt cells bk x l i).nodes.length = x.nodes.length + i ∧ BesS (fAt cells bk x l i).bs ∧ (fAt cells bk x l i).pb.length ≤ x.pb.length + i := by
  intro i
  induction i with
  | zero => intro _; exact ⟨rfl, rfl, hb, Nat.le_refl _⟩
  | succ i ih =>
    intro hi
    obtain ⟨h1, h2, h3, h4⟩ := ih (by omega)
    obtain ⟨g1, g2, g3, g4⟩ := fStep_fit (fAt_next h (List.getElem?_eq_getElem (show i < l.length by omega))) h3
    exact ⟨by omega, by omega, g3, by omega⟩
theorem drawAt_nonneg (cells : List Int) (i : Nat) {m : Int} (hm : 0 < m) : 0 ≤ drawAt cells i m ∧ drawAt cells i m < m := by
  unfold drawAt
  exact ⟨Int.fmod_nonneg_of_pos _ hm, Int.fmod_lt_of_pos _ hm⟩


abbrev probM (prog : Program) (w : World) (pb : Prob) : MV := MV.dict prog w (pb.map fun p => (p.1, .tup (p.2.map pathV)))
abbrev besM (prog : Program) (w : World) (bs : Bes) : MV := MV.dict prog w (bs.map fun p => (p.1, .list (p.2.map VP.int)))
theorem look_put {α : Type} {k : Int} {v : α} : ∀ {l : List (Int × α)}, look k (put k v l) = some v := by
  intro l
  induction l with
  | nil => rw [put, look, if_pos rfl]
  | cons p r ih =>
    obtain ⟨a, y⟩ := p
    rw [put]
    by_cases e : a = k
    · rw [if_pos e, look, if_pos e]
    · rw [if_neg e, look, if_neg e]; exact ih
section
variable {C : Cx} {s₀ s s' : Shared} {H₀ : List Addr} {k : Nat} {ρ ρ' ρ'' : Rho} {μ μ' : Mu}
theorem phaseF (hs : C.env.scope = (defAt 22).scope) (hc : C.env.cells = cellsFrom (C.env.locals + 1) (defAt 22).scope.names []) (hn : CellsNew C) {cells : List Int} {p b d : Addr} {m bk : Int} (hm : 3 ≤ m ∧ m ≤ 4) (hcl : cells.length ≤ 100) (hpb : p ≠ b) (hpd : p ≠ d) (hbd : b ≠ d) (hbm : (b == sysModules) = false)
    {x q : FS} (hx1 : x.nodes = []) (hx2 : x.pb = []) (hx3 : x.i ≤ 50) (hbs : BesS x.bs) (hf : fAll cells bk x (rangeL 1 (m + 1)) = some q)
    (B : Bd C s₀ H₀ (k + 1) s [("nodes", .list (x.nodes.map VP.int)), ("problem", VP.ex (.ref d)), ("beside", VP.ex (.ref b)), ("pool", VP.ex (.ref p)), ("many", .int m), ("backwards", .int bk)] [(d, probM C.prog C.w x.pb), (p, MV.wl (poolT cells x.i)), (b, besM C.prog C.w x.bs)]) {Q : Flow → Shared → Prop} {E : Value → Shared → Prop}
    (fin : ∀ s', Bd C s₀ H₀ (k + 1) s' [("nodes", .list (q.nodes.map VP.int)), ("problem", VP.ex (.ref d)), ("beside", VP.ex (.ref b)), ("pool", VP.ex (.ref p)), ("many", .int m), ("backwards", .int bk)] [(d, probM C.prog C.w q.pb), (p, MV.wl (poolT cells q.i)), (b, besM C.prog C.w q.bs)] → Q .next s') : wpAny C.M C.A (exec (lawAt 5) C.env) Q E s := by
  refine for_ B (T := .range 1 (m + 1)) (Ts := (rangeL 1 (m + 1)).map VP.int) (Ev_callT (id := "range") B.ok (by decide +kernel) (kind_of hs (by decide +kernel)) (.cons Ev_int (.cons (Ev_bin (T := .int m) (B.ev (by k_mem)) Ev_int op_add_int) .nil)) (op_range B.ok)) (iter_range (by omega))
    (fun i => True) (fun i => [("nodes", .list ((fAt cells bk x (rangeL 1 (m + 1)) i).nodes.map VP.int)), ("problem", VP.ex (.ref d)), ("beside", VP.ex (.ref b)), ("pool", VP.ex (.ref p)), ("many", .int m), ("backwards", .int bk)])
    (fun i => [(d, probM C.prog C.w (fAt cells bk x (rangeL 1 (m + 1)) i).pb), (p, MV.wl (poolT cells (fAt cells bk x (rangeL 1 (m + 1)) i).i)), (b, besM C.prog C.w (fAt cells bk x (rangeL 1 (m + 1)) i).bs)]) trivial (fun p m => m) (fun p m => m) (fun H' g' s' i U v E' hcn hJ hU hv B' => ?_) fun s' hJ B' => fin s' ?_
  · obtain ⟨n, hni, rfl⟩ := map_at hU
    have hnr := mem_rangeL.mp (List.mem_of_getElem? hni)
    have hil := (List.getElem?_eq_some_iff.mp hni).1
    have hi4 : i < 4 := by rw [rangeL_len] at hil; omega
    obtain ⟨z1, z2, z3, z4⟩ := fAt_fit hf hbs i (by omega)
    have hst := fAt_next hf hni
    rw [hx1] at z2
    rw [hx2] at z4
    generalize fAt cells bk x (rangeL 1 (m + 1)) i = z at B' hst z1 z2 z3 z4
    have z5 : z.pb.length ≤ i := by simpa using z4
    unfold fStep at hst
    cases hl : look n z.bs with
    | none => rw [hl] at hst; cases hst
    | some l =>
    rw [hl] at hst
    have ez := (Option.some.inj hst).symm
    rw [ez]
    have hll : l.length ≤ 8 := z3.p _ (look_mem hl)
    obtain ⟨d1, d2⟩ := drawAt_nonneg cells z.i (m := n) (by omega)
    have hpl : drawAt cells z.i n = ((drawAt cells z.i n).toNat : Int) := by omega
    let C₃ : Cx := { C with H := H', g := g' }
    have hn₃ : CellsNew C₃ := hcn hn
    have hnl : (z.nodes.map VP.int).length = i := by rw [List.length_map, z2]; simp
    refine assign_name (Bd.put (C := C₃) (T := .int n) (ρ' := [("nodes", .list (z.nodes.map VP.int)), ("problem", VP.ex (.ref d)), ("beside", VP.ex (.ref b)), ("pool", VP.ex (.ref p)), ("many", .int m), ("backwards", .int bk)]) B' (x := "node") (.inr ⟨kind_of hs (by decide +kernel), cell_of hc (by decide +kernel), hn₃⟩) hv (by k_all) fun s₂ _ B₂ => ?_)
    refine wpAny_seq (wpAny_Assign_Name (draw_ev (C := C₃) B₂ (p := p) (i := z.i) (m := n) (μ' := [(d, probM C.prog C.w z.pb), (b, besM C.prog C.w z.bs)]) (by omega) hcl (by omega) (by k_mem) (.tail _ (.head _)) (B₂.ev (by k_mem)) (kind_of hs (by decide +kernel)) (fun q m => ?_) fun v s₃ hv B₃ => Bd.storeL (C := C₃) (T := .int (drawAt cells z.i n)) (ρ' := [("node", .int n), ("nodes", .list (z.nodes.map VP.int)), ("problem", VP.ex (.ref d)), ("beside", VP.ex (.ref b)), ("pool", VP.ex (.ref p)), ("many", .int m), ("backwards", .int bk)]) B₃ (x := "place") (kind_of hs (by decide +kernel)) hv (by k_all) fun s₄ B₄ => ?_) (by rfl))
    · rcases List.mem_cons.mp m with rfl | m
      · exact ⟨Ne.symm hpd, .head _⟩
      · rw [List.mem_singleton.mp m]; exact ⟨Ne.symm hpb, .tail _ (.tail _ (.head _))⟩
    · have hplE : ∀ s₅, Bd C₃ s₀ H₀ (k + 1) s₅ [("place", .int (drawAt cells z.i n)), ("node", .int n), ("nodes", .list (z.nodes.map VP.int)), ("problem", VP.ex (.ref d)), ("beside", VP.ex (.ref b)), ("pool", VP.ex (.ref p)), ("many", .int m), ("backwards", .int bk)] ((p, MV.wl (poolT cells (z.i + 1))) :: [(d, probM C.prog C.w z.pb), (b, besM C.prog C.w z.bs)]) → ∀ {q}, Ev C₃ s₅ (.Name "place" q) (.int ((drawAt cells z.i n).toNat : Int)) := fun s₅ B₅ {q} => by
        rw [← hpl]; exact B₅.ev (by k_mem)
      refine wpAny_seq (store_ (C := C₃) B₄ (T := .list ((z.nodes.map VP.int).take (drawAt cells z.i n).toNat ++ [.int n] ++ (z.nodes.map VP.int).drop (drawAt cells z.i n).toNat)) (Ev_bin (C := C₃) (T := .list ((z.nodes.map VP.int).take (drawAt cells z.i n).toNat ++ [.int n])) (Ev_bin (C := C₃) (T := .list ((z.nodes.map VP.int).take (drawAt cells z.i n).toNat)) (U := .list [.int n]) (Ev_list_slice (C := C₃) (lo := none) (hi := some ((drawAt cells z.i n).toNat : Int)) (st := none) (Ts := z.nodes.map VP.int) B₄.ok (B₄.ev (by k_mem)) .none (.int (hplE _ B₄)) .none (by decide) (by omega) (fun g vs hE => by rw [slicePick_upto']; simpa using hE.take _)) (Ev_list B₄.ok (.cons (B₄.ev (by k_mem)) .nil)) (op_add_list B₄.ok (by simp only [List.length_take, List.length_singleton]; omega)))
        (U := .list ((z.nodes.map VP.int).drop (drawAt cells z.i n).toNat)) (Ev_list_slice (C := C₃) (lo := some ((drawAt cells z.i n).toNat : Int)) (hi := none) (st := none) (Ts := z.nodes.map VP.int) B₄.ok (B₄.ev (by k_mem)) (.int (hplE _ B₄)) .none .none (by decide) (by omega) (fun g vs hE => by rw [slicePick_from']; simpa using hE.drop _)) (op_add_list B₄.ok (by simp only [List.length_append, List.length_take, List.length_drop, List.length_singleton]; omega))) (.inl (kind_of hs (by decide +kernel)))
        (ρ' := [("node", .int n), ("problem", VP.ex (.ref d)), ("beside", VP.ex (.ref b)), ("pool", VP.ex (.ref p)), ("many", .int m), ("backwards", .int bk)]) (by k_all) fun s₅ B₅ => ?_)
      have enodes : (z.nodes.map VP.int).take (drawAt cells z.i n).toNat ++ [.int n] ++ (z.nodes.map VP.int).drop (drawAt cells z.i n).toNat = ((z.nodes.take (drawAt cells z.i n).toNat ++ [n]) ++ z.nodes.drop (drawAt cells z.i n).toNat).map VP.int := by
        rw [List.map_append, List.map_append, List.map_take, List.map_drop]; rfl
      rw [enodes] at B₅
      have hsort : ∀ {q}, Ev C₃ s₅ (.Call (.Name "sorted" ⟨101, 72, 101, 78⟩) [.Name "x" q] [] q) (.list []) → True := fun _ => trivial
      have Bs := B₅.shownD (a := b) (kvs := z.bs.map fun p => (p.1, .list (p.2.map VP.int))) (.tail _ (.tail _ (.head _))) hbm (x := "beside") (by k_mem)
      have hbe : ∀ {p1 p2 p3}, Ev (C₃.but b) s₅ (.Subscript (.Name "beside" p1) (.Name "node" p2) p3) (.list (l.map VP.int)) := fun {p1 p2 p3} =>
        Ev_item_dict (C := C₃.but b) (kvs := z.bs.map fun p => (p.1, .list (p.2.map VP.int))) (Bs.ev (by k_mem)) (Bs.ev (by k_mem)) (by rw [look_map fun l : List Int => VP.list (l.map VP.int), hl]; rfl)
      have hso : ∀ {e p pos}, Ev (C₃.but b) s₅ e (.list (l.map VP.int)) → starEach [e] C.env = (false, eval e C.env) :: starEach [] C.env → Ev (C₃.but b) s₅ (.Call (.Name "sorted" p) [e] [] pos) (.list ((sortI l).map VP.int)) := fun h he =>
        Ev_callB (C := C₃.but b) (id := "sorted") Bs.ok (by decide +kernel) (kind_of hs (by decide +kernel)) (.cons h .nil he) (op_sorted_list Bs.ok (by omega))
      refine wpAny_seq (own_set (C := C₃) (a := b) (key := n) (T := .list ((sortB bk l).map VP.int)) B₅ (by k_mem) (.tail _ (.tail _ (.head _))) (unpeek_ints B₅ (.tail _ (.tail _ (.head _))) dict_cls (Ev_if (C := C₃.but b) (b := bk == 1) (Tst_cmp (C := C₃.but b) (T := .int bk) (U := .int 1) (Bs.ev (by k_mem)) Ev_int op_eq_int) (fun hh => ?_) fun hh => ?_)) (B₅.ev (by k_mem)) (by have := z3.n; rw [List.length_map]; omega)
        (μ' := [(p, MV.wl (poolT cells (z.i + 1))), (d, probM C.prog C.w z.pb)]) (fun q mm => ?_) fun s₆ B₆ => ?_)
      · have e1 : (sortB bk l).map VP.int = ((sortI l).map VP.int).reverse := by
          unfold sortB; rw [if_pos (by simpa using hh), List.map_reverse]
        rw [e1]
        exact Ev_rev (C := C₃.but b) Bs.ok (hso hbe (by rfl)) (Ev_neg Ev_int) (by rw [List.length_map, sortI_len]; omega)
      · have e1 : sortB bk l = sortI l := by
          unfold sortB; rw [if_neg (by simpa using hh)]
        rw [e1]
        exact hso hbe (by rfl)
      · rcases List.mem_cons.mp mm with rfl | mm
        · exact ⟨hpb, .head _⟩
        · rw [List.mem_singleton.mp mm]; exact ⟨Ne.symm hbd, .tail _ (.head _)⟩
      · rw [put_map (fun l : List Int => VP.list (l.map VP.int))] at B₆
        have hlk : look n (put n (sortB bk l) z.bs) = some (sortB bk l) := look_put
        have hl8 : (sortB bk l).length ≤ 8 := by rw [sortB_len]; exact hll
        generalize sortB bk l = l' at *
        generalize put n l' z.bs = bs' at *
        have Bs := B₆.shownD (a := b) (kvs := bs'.map fun p => (p.1, .list (p.2.map VP.int))) (.head _) hbm (x := "beside") (by k_mem)
        have ec : (l'.map fun o => some (pathV [n, o, 0])).filterMap id = (l'.map fun o => [n, o, 0]).map pathV := by
          generalize l' = t
          induction t with
          | nil => rfl
          | cons a r ih => simp only [List.map_cons]; rw [← ih]; rfl
        have er : (rowP n l').map pathV = (l'.map fun o => [n, o, 0]).map pathV ++ [pathV [n, 0]] := by
          unfold rowP; rw [List.map_append]; rfl
        refine wpAny_seq (own_set (C := C₃) (a := d) (key := n) (T := .tup ((rowP n l').map pathV)) B₆ (by k_mem) (.tail _ (.tail _ (.head _))) (unpeek_tupP B₆ (.head _) dict_cls ?_) (B₆.ev (by k_mem)) (by rw [List.length_map]; omega) (μ' := [(p, MV.wl (poolT cells (z.i + 1))), (b, besM C.prog C.w bs')]) (fun q mm => ?_) fun s₇ B₇ => ?_)
        · rw [er]
          refine Ev_bin (C := C₃.but b) (T := .tup ((l'.map fun o => [n, o, 0]).map pathV)) (U := .tup [pathV [n, 0]]) (Ev_callT (C := C₃.but b) (id := "tuple") (U := .tup ((l'.map fun o => [n, o, 0]).map pathV)) Bs.ok (by decide +kernel) (kind_of hs (by decide +kernel)) (.cons (T := .list ((l'.map fun o => [n, o, 0]).map pathV)) ?_ .nil) (op_tuple_list Bs.ok (by rw [List.length_map, List.length_map]; omega))) (Ev_tuple Bs.ok (.cons (show Ev (C₃.but b) s₆ _ (.tup [.int n, .int 0]) from Ev_tuple Bs.ok (.cons (Bs.ev (by k_mem)) (.cons Ev_int .nil))) .nil)) (op_add_tup Bs.ok (by rw [List.length_map, List.length_map, List.length_singleton]; omega) (by simp))
          rw [← ec]
          refine comp_ (C := C₃.but b) Bs hs hc ⟨by decide +kernel, by decide +kernel, by decide +kernel, by decide +kernel⟩ (Ev_item_dict (C := C₃.but b) (kvs := bs'.map fun p => (p.1, .list (p.2.map VP.int))) (T := .list (l'.map VP.int)) (Bs.ev (by k_mem)) (Bs.ev (by k_mem)) (by rw [look_map fun l : List Int => VP.list (l.map VP.int), hlk]; rfl)) iter_list _ (by rw [List.length_map, List.length_map]) (by rw [List.length_map]; omega)
            [("node", .int n)] (cap_cons (by k_mem) (by decide +kernel) cap_nil) letsGo_name fun K H'' g'' s' i U rr v E' hU hr hv B' => ?_
          obtain ⟨o, ho, rfl⟩ := map_at hU
          have er := map_at2 hr ho
          subst er
          exact assign_name (Bd.storeL (C := { C with env := cenv _ K C.env, H := H'', g := g'' }) (ρ' := [("node", .int n)]) B' (x := "other") (kind_c hs (by decide +kernel)) hv (by k_all) fun s₅ B₅ => ⟨B₅.less (by k_upd), tests_nil, fun U hU => by
            cases hU
            exact (show Ev _ _ _ (.tup [.int n, .int o, .int 0]) from Ev_tuple B₅.ok (.cons (B₅.ev (by k_mem)) (.cons (B₅.ev (by k_mem)) (.cons Ev_int .nil))))⟩)
        · rcases List.mem_cons.mp mm with rfl | mm
          · exact ⟨hpd, .tail _ (.head _)⟩
          · rw [List.mem_singleton.mp mm]; exact ⟨hbd, .head _⟩
        · rw [put_map (fun l : List Path => VP.tup (l.map pathV))] at B₇
          exact wpAny_execs_nil ⟨trivial, (B₇.less (by k_upd))⟩
  · have e : fAt cells bk x (rangeL 1 (m + 1)) ((rangeL 1 (m + 1)).map VP.int).length = q := by
      have := fAt_some hf ((rangeL 1 (m + 1)).map VP.int).length
      rw [List.length_map, List.take_length, hf] at this
      rw [List.length_map]; exact (Option.some.inj this).symm
    rw [e] at B'
    exact B'
end


def manyOf (cells : List Int) : Int := 3 + drawAt cells 0 2
def backOf (cells : List Int) : Int := drawAt cells 1 2
def startF (cells : List Int) : FS :=
  let e := edgeAll cells (manyOf cells) (2, fun _ => []) (rangeL 1 (manyOf cells + 1))
  ⟨e.1, [], besOf e.2 (rangeL 1 (manyOf cells + 1)), []⟩
theorem e_cons {x : Str} {T : VP} {ρ r : Rho} {a b : Str} (h : x ≠ a) (h2 : x ≠ b) (m : (x, T) ∈ ρ) (q : ∀ p ∈ r, (p.1 ≠ a ∧ p.1 ≠ b) ∧ p ∈ ρ) : ∀ p ∈ (x, T) :: r, (p.1 ≠ a ∧ p.1 ≠ b) ∧ p ∈ ρ := fun p hp => by
  rcases List.mem_cons.mp hp with e | hp
  · rw [e]; exact ⟨⟨h, h2⟩, m⟩
  · exact q p hp
theorem law_head {prog : Program} {w : World} {mg mb : Str → Option Value} {k : Nat} (ns : List Int) (hns : ns.length ≤ 900) (q : FS) (hq : fAll (ns.take 12) (backOf (ns.take 12)) (startF (ns.take 12)) (rangeL 1 (manyOf (ns.take 12) + 1)) = some q) (hst : (startF (ns.take 12)).i ≤ 50) (hbs : BesS (startF (ns.take 12)).bs)
    (rest : ∀ C s₀ H₀ s, C.prog = prog → C.w = w → C.mg = mg → C.mb = mb → C.env.scope = (defAt 22).scope → C.env.cells = cellsFrom (C.env.locals + 1) (defAt 22).scope.names [] → CellsNew C →
      Bd C s₀ H₀ (k + 5) s [("nodes", .list (q.nodes.map VP.int)), ("problem", probV C.prog C.w q.pb), ("beside", besV C.prog C.w q.bs), ("many", .int (manyOf (ns.take 12))), ("backwards", .int (backOf (ns.take 12)))] [] →
      wpAny C.M C.A (execs [lawAt 6, lawAt 7, lawAt 8, lawAt 9, lawAt 10, lawAt 11, lawAt 12, lawAt 13, lawAt 14, lawAt 15, lawAt 16, lawAt 17, lawAt 18, lawAt 19] C.env) (Back s₀ H₀ (.bool true)) (fun _ _ => False) s) :
    FOk prog w mg mb (defAt 22) (k + 6) [.list (ns.map VP.int)] (.bool true) := by
  refine enter [("script", .list (ns.map VP.int))] ["script"] (mem_defs (by decide)) rfl rfl (fun pm code doc vs h => ?_) (by decide +kernel) (by decide +kernel) ⟨by decide +kernel, by decide +kernel, by decide +kernel⟩ fun C s₀ H₀ s hp hw hg hb hs hc hn B => ?_
  · match vs, h with
    | [a], _ => rfl
  · rw [law_body]
    have hcl : (ns.take 12).length ≤ 100 := by rw [List.length_take]; omega
    obtain ⟨m1, m2⟩ := drawAt_nonneg (ns.take 12) 0 (m := 2) (by decide)
    have hm : 3 ≤ manyOf (ns.take 12) ∧ manyOf (ns.take 12) ≤ 4 := by unfold manyOf; omega
    refine wpAny_seq (phaseA hs hc hns B fun p s₁ hpm hpH B₁ => ?_)
    generalize ns.take 12 = cells at *
    let C₁ : Cx := { C with H := p :: C.H }
    refine wpAny_seq (phaseB (C := C₁) hs B₁ hcl fun s₂ B₂ => ?_)
    refine wpAny_seq (phaseC (C := C₁) hs hc hn (m := manyOf cells) (bk := backOf cells) hm B₂ fun b ls s₃ hbm L hls hbH hxH B₃ => ?_)
    let C₂ : Cx := { C with H := (b :: ls.map (·.2)) ++ (p :: C.H) }
    refine wpAny_seq (phaseD (C := C₂) hs hc hn B₃ L hbm hcl hm hls fun s₄ B₄ => ?_)
    have B₅ := Bd.froze (C := C₁) B₂ (.head _) hbH hxH L B₄
    let C₃ : Cx := { C with H := b :: p :: C.H }
    refine wpAny_seq (phaseE (C := C₃) hs (kind_of hs (by decide +kernel)) (kind_of hs (by decide +kernel)) B₅ (ρ' := [("beside", VP.ex (.ref b)), ("pool", VP.ex (.ref p)), ("many", .int (manyOf cells)), ("backwards", .int (backOf cells))]) ?_ fun d s₆ hdm hdH B₆ => ?_)
    · exact e_cons (by decide +kernel) (by decide +kernel) (by k_mem) (e_cons (by decide +kernel) (by decide +kernel) (by k_mem) (e_cons (by decide +kernel) (by decide +kernel) (by k_mem) (e_cons (by decide +kernel) (by decide +kernel) (by k_mem) fun p m => nomatch m)))
    · have hpb : p ≠ b := fun e => hbH (e ▸ .head _)
      have hpd : p ≠ d := fun e => hdH (e ▸ .tail _ (.head _))
      have hbd : b ≠ d := fun e => hdH (e ▸ .head _)
      let C₄ : Cx := { C with H := d :: b :: p :: C.H }
      rw [hls] at B₆
      refine wpAny_seq (phaseF (C := C₄) hs hc hn (cells := cells) (p := p) (b := b) (d := d) (m := manyOf cells) (bk := backOf cells) hm hcl hpb hpd hbd hbm (x := startF cells) (q := q) rfl rfl hst hbs hq B₆ fun s₇ B₇ => ?_)
      have B₈ := Bd.freeD (C := C₃) B₅ B₇ hdH hdm (.head _) (x := "problem") (by k_mem) (μ' := [(p, MV.wl (poolT cells q.i)), (b, besM C.prog C.w q.bs)]) (fun z m => by
        rcases List.mem_cons.mp m with rfl | m
        · exact ⟨.tail _ (.head _), .tail _ (.head _)⟩
        · rw [List.mem_singleton.mp m]; exact ⟨.tail _ (.tail _ (.head _)), .head _⟩)
      have B₉ := Bd.freeD (C := C₁) B₂ B₈ hbH hbm (.tail _ (.head _)) (x := "beside") (by k_mem) (μ' := [(p, MV.wl (poolT cells q.i))]) (fun z m => by
        rw [List.mem_singleton.mp m]; exact ⟨.head _, .head _⟩)
      have B₁₀ := Bd.show0 (μ' := []) B B₉ hpH (B₉.own p _ (.head _)).1.new (fun z m => nomatch m)
      exact rest C s₀ H₀ s₇ hp hw hg hb hs hc hn (B₁₀.less (by k_upd))

theorem dictOf_any {prog prog' : Program} {w w' : World} {h : Heap} {a : Addr} {ws : List (Int × Value)} (d : h.DictOf (intKind prog w) a ws) : h.DictOf (intKind prog' w') a ws := by
  obtain ⟨o, es, ep, ho, hc, hd, hk, hp, hn⟩ := d
  refine ⟨o, es, ep, ho, hc, hd, hk, ?_, hn⟩
  clear hn hk hd
  generalize es.toList = l at hp
  induction hp with
  | nil => exact .nil
  | cons a b _ c => exact .cons a b c
theorem pairs_fun {prog : Program} {w : World} : ∀ {l : List DictEntry} {ws us : List (Int × Value)}, Pairs (intKind prog w) l ws → Pairs (intKind prog w) l us → ws = us := by
  intro l
  induction l with
  | nil => intro ws us h k; cases h; cases k; rfl
  | cons e r ih =>
    intro ws us h k
    cases h with
    | cons a v b =>
      cases k with
      | cons a' v' b' =>
        rw [ih b b', Prod.ext ((intKind prog w).inj _ _ _ a a') (v.symm.trans v')]
theorem paths_fun {g : Heap} : ∀ {a b : List Path} {vs : List Value}, Els g (a.map pathV) vs → Els g (b.map pathV) vs → a = b := by
  intro a
  induction a with
  | nil =>
    intro b vs h k
    cases h
    cases b with
    | nil => rfl
    | cons _ _ => rw [List.map_cons] at k; cases k
  | cons p r ih =>
    intro b vs h k
    rw [List.map_cons] at h
    cases h with
    | cons x t =>
      cases b with
      | nil => cases k
      | cons q u =>
        rw [List.map_cons] at k
        cases k with
        | cons x' t' => rw [path_inj _ _ _ x x', ih t t']
theorem split_eq {α β : Type} : ∀ {a b : List (α × β)}, a.map (·.1) = b.map (·.1) → a.map (·.2) = b.map (·.2) → a = b := by
  intro a
  induction a with
  | nil => intro b h _; cases b with | nil => rfl | cons _ _ => cases h
  | cons p r ih =>
    intro b h k
    cases b with
    | nil => cases h
    | cons q u =>
      simp only [List.map_cons, List.cons.injEq] at h k
      rw [ih h.2 k.2, Prod.ext h.1 k.1]
theorem peq_refl (p : Path) : peq p p = true := by rw [peq_eq]; simp
theorem subSt_self : ∀ (r d : Stt), ((d ++ r).map (·.1)).Nodup → subSt r (d ++ r) = true := by
  intro r
  induction r with
  | nil => intro d _; rfl
  | cons p t ih =>
    intro d h
    obtain ⟨k, q⟩ := p
    have hl : look k (d ++ (k, q) :: t) = some q := by
      have hk : k ∉ d.map (·.1) := by
        rw [List.map_append, List.nodup_append] at h
        exact fun m => h.2.2 _ m k (by simp) rfl
      clear h ih
      induction d with
      | nil => show look k ((k, q) :: t) = _; rw [look, if_pos rfl]
      | cons x y ih =>
        obtain ⟨a, v⟩ := x
        simp only [List.map_cons, List.mem_cons, not_or] at hk
        show look k ((a, v) :: (y ++ (k, q) :: t)) = _
        rw [look, if_neg (Ne.symm hk.1)]
        exact ih hk.2
    rw [subSt, hl]
    show (if peq q q = true then subSt t (d ++ (k, q) :: t) else false) = true
    rw [if_pos (peq_refl q)]
    have := ih (d ++ [(k, q)]) (by simpa using h)
    simpa using this
theorem steq_self {a : Stt} (h : (a.map (·.1)).Nodup) : steq a a = true := by
  unfold steq
  rw [if_pos rfl]
  exact subSt_self a [] h

theorem eqAt_st {A : Around} {s : Shared} {prog : Program} {w : World} {g : Heap} (hu : A.units < cLine) (hu1 : A.in1.units < cLine) (kp : Kp g s.heap) {a b : Stt} {x y : Value} (hx : (stV prog w a).P g x) (hy : (stV prog w b).P g y) : SeqAt.EqAt A s x y (steq a b) := by
  obtain ⟨da, wa, rfl, ha, ma, xa, la⟩ := hx
  obtain ⟨db, wb, rfl, hb, mb, xb, lb⟩ := hy
  by_cases e : da = db
  · subst e
    have ew : wa = wb := by
      obtain ⟨o, es, ep, ho, _, hd, _, hp, _⟩ := ha
      obtain ⟨o', es', ep', ho', _, hd', _, hp', _⟩ := hb
      rw [ho] at ho'; cases ho'
      rw [hd] at hd'; cases hd'
      exact pairs_fun hp hp'
    subst ew
    have e1 : (a.map fun p => (p.1, pathV p.2)).map (·.1) = a.map (·.1) := map_fst pathV a
    have e2 : (b.map fun p => (p.1, pathV p.2)).map (·.1) = b.map (·.1) := map_fst pathV b
    have e3 : ∀ c : Stt, (c.map fun p => (p.1, pathV p.2)).map (·.2) = (c.map (·.2)).map pathV := fun c => by rw [List.map_map, List.map_map]; rfl
    rw [e3] at xa xb
    have hab : a = b := split_eq (by rw [← e1, ← e2, ← ma, ← mb]) (paths_fun xa xb)
    subst hab
    have hnd : (a.map (·.1)).Nodup := by
      obtain ⟨_, _, _, _, _, _, _, _, n⟩ := ha
      rw [← e1, ← ma]; exact n
    rw [steq_self hnd]
    exact SeqAt.EqAt.same _
  · refine SeqAt.EqAt.of_refs e fun prog' w' E Q hq => ?_
    refine keq_eq (knd := intKind prog' w') (r := subSt a b) la lb (dictOf_any (dictOf_kp ha kp)) (dictOf_any (dictOf_kp hb kp)) hu (fun _ => hits hu1 kp mb xb ma xa) ?_
    have l1 : wa.length = a.length := by simpa using congrArg List.length ma
    have l2 : wb.length = b.length := by simpa using congrArg List.length mb
    rw [l1, l2, ← steq_is]; exact hq

abbrev stnV (prog : Program) (w : World) (q : Stt × Int) : VP := .tup [stV prog w q.1, .int q.2]
theorem op_ne_stn {C : Cx} {s : Shared} {a b : Stt × Int} (O : Ok C s) : Op2 C s (compareOp .NotEq) (stnV C.prog C.w a) (stnV C.prog C.w b) (VP.bool (!(steq a.1 b.1 && a.2 == b.2))).P := fun s' E x y k hx hy => by
  obtain ⟨l, vs, n, rfl, d, e⟩ := hx
  obtain ⟨m, us, n', rfl, d', e'⟩ := hy
  obtain ⟨vl⟩ := vs
  obtain ⟨ul⟩ := us
  obtain ⟨x0, x1, rfl, h0, h1⟩ := Els.two (show Els _ [_, _] vl from e)
  obtain ⟨y0, y1, rfl, i0, i1⟩ := Els.two (show Els _ [_, _] ul from e')
  have hu2 : C.A.in1.in1.units < cLine := by
    have := O.units
    rw [Around.in1_units, Around.in1_units, show cLine = 9900 from rfl]; omega
  refine SeqAt.RcNeAt.tuples (e := fun j => if j = 0 then steq a.1 b.1 else decide (a.2 = b.2)) ⟨_, hid_le _ _ d, rfl, n, rfl⟩ ⟨_, hid_le _ _ d', rfl, n', rfl⟩ O.u (fun j h1' h2' => ?_) _ _ _ _ ⟨keepsRefl _, ?_⟩
  · have hj : j < 2 := h1'
    match j, hj with
    | 0, _ => exact eqAt_st O.u1 hu2 hid_le h0 i0
    | 1, _ => exact eqAt_int h1 i1
  · show Value.bool _ = Value.bool _
    have : decide (a.2 = b.2) = (a.2 == b.2) := by rw [Bool.eq_iff_iff]; simp
    simp [List.range_succ, this]


def isStraight (st : Stt) (n : Int) : Bool := match look n st with
  | none => false
  | some p => peq p [n, 0]
theorem look_st {prog : Program} {w : World} (st : Stt) {n : Int} {p : Path} (h : look n st = some p) : look n (st.map fun p => (p.1, pathV p.2)) = some (pathV p) := by
  rw [look_map pathV, h]; rfl
section
variable {C : Cx} {s₀ s s' : Shared} {H₀ : List Addr} {k : Nat} {ρ ρ' ρ'' : Rho} {μ μ' : Mu}
theorem phaseG (hs : C.env.scope = (defAt 22).scope) (hc : C.env.cells = cellsFrom (C.env.locals + 1) (defAt 22).scope.names []) (hn : CellsNew C)
    {bs : Bes} {pb : Prob} {m : Int} {nodes lot : List Int} {first : Stt} (hbs : BesS bs) (hpb : Pb pb) (hp8 : pb.length ≤ 8) (hn8 : nodes.length ≤ 8)
    (h1 : takenL bs [] nodes = some lot) (h2 : runRow pb (ofPairs (noPaths pb)) nodes 0 = some (first, m)) (h3 : ∀ n ∈ nodes, ∃ p, look n first = some p) (h4 : nodes.filter (isStraight first) = lot)
    (B : Bd C s₀ H₀ (k + 5) s [("nodes", .list (nodes.map VP.int)), ("problem", probV C.prog C.w pb), ("beside", besV C.prog C.w bs), ("many", .int m)] []) {rest : List Stmt} {Q : Flow → Shared → Prop} {E : Value → Shared → Prop}
    (fin : ∀ s', Bd C s₀ H₀ (k + 5) s' [("first", stV C.prog C.w first), ("lot", .list (lot.map VP.int)), ("nodes", .list (nodes.map VP.int)), ("problem", probV C.prog C.w pb), ("beside", besV C.prog C.w bs), ("many", .int m)] [] → wpAny C.M C.A (execs rest C.env) Q E s') :
    wpAny C.M C.A (execs (lawAt 6 :: lawAt 7 :: lawAt 8 :: rest) C.env) Q E s := by
  have hnp : (ofPairs (noPaths pb)).length ≤ 8 := by
    have e2 := foldl_put_len (noPaths pb) ([] : Stt)
    have e3 : (noPaths pb).length = pb.length := by unfold noPaths; rw [List.length_map, sortI_len, keys_len]
    unfold ofPairs
    simp at e2
    omega
  refine wpAny_seq (store_ B (T := .list (lot.map VP.int)) (Ev_call (d := defAt 20) (k := k + 5) B.ok B.room (taken_ok bs nodes lot h1 hbs hn8) (mem_defs (by decide)) (kind_of hs (by decide +kernel)) (.cons (B.ev (by k_mem)) (.cons (B.ev (by k_mem)) .nil))) (.inr ⟨kind_of hs (by decide +kernel), cell_of hc (by decide +kernel), hn⟩)
    (ρ' := [("nodes", .list (nodes.map VP.int)), ("problem", probV C.prog C.w pb), ("beside", besV C.prog C.w bs), ("many", .int m)]) (by k_all) fun s₁ B₁ => ?_)
  refine wpAny_seq (store_pair B₁ (x := "first") (y := "changes") (T := stV C.prog C.w first) (U := .int m) (Ev_call (d := defAt 10) (k := k + 5) B₁.ok B₁.room (run_row_ok pb (ofPairs (noPaths pb)) nodes (first, m) h2 hpb (by omega)) (mem_defs (by decide)) (kind_of hs (by decide +kernel)) (.cons (B₁.ev (by k_mem)) (.cons (Ev_call (d := defAt 9) (k := k + 5) B₁.ok B₁.room (no_paths_ok pb hpb) (mem_defs (by decide)) (kind_of hs (by decide +kernel)) (.cons (B₁.ev (by k_mem)) .nil)) (.cons (B₁.ev (by k_mem)) .nil))))
    (.inr ⟨kind_of hs (by decide +kernel), cell_of hc (by decide +kernel), hn⟩) (.inl (kind_of hs (by decide +kernel)))
    (ρ' := [("lot", .list (lot.map VP.int)), ("nodes", .list (nodes.map VP.int)), ("problem", probV C.prog C.w pb), ("beside", besV C.prog C.w bs), ("many", .int m)]) (by k_all)
    (ρ'' := [("first", stV C.prog C.w first), ("lot", .list (lot.map VP.int)), ("nodes", .list (nodes.map VP.int)), ("problem", probV C.prog C.w pb), ("beside", besV C.prog C.w bs), ("many", .int m)]) (by k_all) fun s₂ B₂ => ?_)
  have et : ((m != m) || !decide (nodes.filter (isStraight first) = lot)) = false := by rw [h4]; simp
  refine wpAny_seq (wpAny_if (Tst_or (a := m != m) (b := !decide (nodes.filter (isStraight first) = lot)) (Tst_cmp (T := .int m) (U := .int m) (B₂.ev (by k_mem)) (B₂.ev (by k_mem)) op_ne_int) fun _ => ?_) (fun s₃ k₃ e => absurd e (by rw [et]; decide)) fun s₃ k₃ e => wpAny_execs_nil (fin s₃ ((B₂.later k₃).less (by k_upd))))
  refine Tst_cmp (T := .list ((nodes.filter (isStraight first)).map VP.int)) (U := .list (lot.map VP.int)) ?_ (B₂.ev (by k_mem)) (op_ne_ints B₂.ok)
  rw [← filter_ints]
  refine comp_ B₂ hs hc ⟨by decide +kernel, by decide +kernel, by decide +kernel, by decide +kernel⟩ (B₂.ev (x := "nodes") (T := .list (nodes.map VP.int)) (by k_mem)) iter_list _ (by rw [List.length_map, List.length_map]) (by rw [List.length_map]; omega)
    [("first", stV C.prog C.w first)] (cap_cons (by k_mem) (by decide +kernel) cap_nil) letsGo_name fun K H' g' s' i U rr v E' hU hr hv B' => ?_
  obtain ⟨n, hni, rfl⟩ := map_at hU
  have er := map_at2 hr hni
  obtain ⟨p, hp⟩ := h3 n (List.mem_of_getElem? hni)
  have hf : isStraight first n = decide (p = [n, 0]) := by unfold isStraight; rw [hp]; exact peq_eq _ _
  refine assign_name (Bd.storeL (C := { C with env := cenv _ K C.env, H := H', g := g' }) (ρ' := [("first", stV C.prog C.w first)]) B' (x := "node") (kind_c hs (by decide +kernel)) hv (by k_all) fun s₅ B₅ => ⟨B₅.less (by k_upd), ?_, ?_⟩)
  · have : rr.isSome = decide (p = [n, 0]) := by
      rw [er, ← hf]; cases isStraight first n <;> rfl
    rw [this]
    exact tests_one (Tst_cmp (C := { C with env := cenv _ K C.env, H := H', g := g' }) (T := pathV p) (U := pathV [n, 0]) (Ev_item_dict (C := { C with env := cenv _ K C.env, H := H', g := g' }) (kvs := first.map fun p => (p.1, pathV p.2)) (B₅.ev (by k_mem)) (B₅.ev (by k_mem)) (look_st (prog := C.prog) (w := C.w) first hp)) (Ev_tuple B₅.ok (.cons (B₅.ev (by k_mem)) (.cons Ev_int .nil))) (op_eq_path B₅.ok))
  · intro U hU
    rw [er] at hU
    split at hU
    · cases hU; exact B₅.ev (by k_mem)
    · cases hU
end


def isOff (st du : Stt) (n : Int) : Bool := match look n st with
  | none => false
  | some p => match look n du with
    | none => false
    | some q => !peq p q
section
variable {C : Cx} {s₀ s s' : Shared} {H₀ : List Addr} {k : Nat} {ρ ρ' ρ'' : Rho} {μ μ' : Mu}
theorem phaseH (hs : C.env.scope = (defAt 22).scope) (hc : C.env.cells = cellsFrom (C.env.locals + 1) (defAt 22).scope.names []) (hn : CellsNew C)
    {bs : Bes} {pb : Prob} {m : Int} {nodes lot : List Int} {first du r2 : Stt} {c2 : Int} (hbs : BesS bs) (hpb : Pb pb) (hf8 : first.length ≤ 100) (hn8 : nodes.length ≤ 8)
    (h1 : duesL bs lot = some du) (h2 : runRow pb first nodes 0 = some (r2, c2)) (h3 : ∀ n ∈ nodes, (∃ p, look n first = some p) ∧ ∃ p, look n (ofPairs du) = some p)
    (h4 : steq r2 (ofPairs du) = true) (h5 : c2 = ((nodes.filter (isOff first (ofPairs du))).length : Int)) (h6 : unquiet pb (ofPairs du) = some [])
    (B : Bd C s₀ H₀ (k + 5) s [("first", stV C.prog C.w first), ("lot", .list (lot.map VP.int)), ("nodes", .list (nodes.map VP.int)), ("problem", probV C.prog C.w pb), ("beside", besV C.prog C.w bs), ("many", .int m)] []) {rest : List Stmt} {Q : Flow → Shared → Prop} {E : Value → Shared → Prop}
    (fin : ∀ s', Bd C s₀ H₀ (k + 5) s' [("nodes", .list (nodes.map VP.int)), ("problem", probV C.prog C.w pb), ("beside", besV C.prog C.w bs), ("many", .int m)] [] → wpAny C.M C.A (execs rest C.env) Q E s') :
    wpAny C.M C.A (execs (lawAt 9 :: lawAt 10 :: lawAt 11 :: rest) C.env) Q E s := by
  refine wpAny_seq (store_ B (T := stV C.prog C.w (ofPairs du)) (Ev_call (d := defAt 21) (k := k + 5) B.ok B.room (due_ok bs lot du h1 hbs) (mem_defs (by decide)) (kind_of hs (by decide +kernel)) (.cons (B.ev (by k_mem)) (.cons (B.ev (by k_mem)) .nil))) (.inr ⟨kind_of hs (by decide +kernel), cell_of hc (by decide +kernel), hn⟩)
    (ρ' := [("first", stV C.prog C.w first), ("nodes", .list (nodes.map VP.int)), ("problem", probV C.prog C.w pb), ("beside", besV C.prog C.w bs), ("many", .int m)]) (by k_all) fun s₁ B₁ => ?_)
  generalize ofPairs du = due at *
  refine wpAny_seq (comp_store B₁ hs hc ⟨by decide +kernel, by decide +kernel, by decide +kernel, by decide +kernel⟩ (B₁.ev (x := "nodes") (T := .list (nodes.map VP.int)) (by k_mem)) iter_list (nodes.map fun n => if isOff first due n = true then some (VP.int n) else none) (by rw [List.length_map, List.length_map]) (by rw [List.length_map]; omega)
    [("first", stV C.prog C.w first), ("due", stV C.prog C.w due)] (cap_cons (by k_mem) (by decide +kernel) (cap_cons (by k_mem) (by decide +kernel) cap_nil)) letsGo_name (fun K H' g' s' i U rr v E' hU hr hv B' => ?_) (by decide +kernel)
    (ρ₂ := [("due", stV C.prog C.w due), ("first", stV C.prog C.w first), ("nodes", .list (nodes.map VP.int)), ("problem", probV C.prog C.w pb), ("beside", besV C.prog C.w bs), ("many", .int m)]) (by k_all) fun s₂ B₂ => ?_)
  · obtain ⟨n, hni, rfl⟩ := map_at hU
    have er := map_at2 hr hni
    obtain ⟨⟨p, hp⟩, q, hq⟩ := h3 n (List.mem_of_getElem? hni)
    have hf : isOff first due n = !decide (p = q) := by unfold isOff; rw [hp, hq, ← peq_eq]
    refine assign_name (Bd.storeL (C := { C with env := cenv _ K C.env, H := H', g := g' }) (ρ' := [("first", stV C.prog C.w first), ("due", stV C.prog C.w due)]) B' (x := "node") (kind_c hs (by decide +kernel)) hv (by k_all) fun s₅ B₅ => ⟨B₅.less (by k_upd), ?_, ?_⟩)
    · have : rr.isSome = !decide (p = q) := by
        rw [er, ← hf]; cases isOff first due n <;> rfl
      rw [this]
      exact tests_one (Tst_cmp (C := { C with env := cenv _ K C.env, H := H', g := g' }) (T := pathV p) (U := pathV q) (Ev_item_dict (C := { C with env := cenv _ K C.env, H := H', g := g' }) (kvs := first.map fun p => (p.1, pathV p.2)) (B₅.ev (by k_mem)) (B₅.ev (by k_mem)) (look_st (prog := C.prog) (w := C.w) first hp))
        (Ev_item_dict (C := { C with env := cenv _ K C.env, H := H', g := g' }) (kvs := due.map fun p => (p.1, pathV p.2)) (B₅.ev (by k_mem)) (B₅.ev (by k_mem)) (look_st (prog := C.prog) (w := C.w) due hq)) (op_ne_path B₅.ok))
    · intro U hU
      rw [er] at hU
      split at hU
      · cases hU; exact B₅.ev (by k_mem)
      · cases hU
  · rw [filter_ints] at B₂
    have hfl : (nodes.filter (isOff first due)).length ≤ 8 := Nat.le_trans (List.length_filter_le _ _) hn8
    have et : (!(steq r2 due && c2 == ((nodes.filter (isOff first due)).length : Int)) || !([] : List Int).isEmpty) = false := by rw [h4, h5]; simp
    refine wpAny_seq (wpAny_if (Tst_or (a := !(steq r2 due && c2 == ((nodes.filter (isOff first due)).length : Int))) (b := !([] : List Int).isEmpty) ?_ fun _ => ?_) (fun s₃ k₃ e => absurd e (by rw [et]; decide)) fun s₃ k₃ e => wpAny_execs_nil (fin s₃ ((B₂.later k₃).less (by k_upd))))
    · refine Tst_cmp (T := stnV C.prog C.w (r2, c2)) (U := stnV C.prog C.w (due, ((nodes.filter (isOff first due)).length : Int))) (Ev_call (d := defAt 10) (k := k + 5) B₂.ok B₂.room (run_row_ok pb first nodes (r2, c2) h2 hpb (by omega)) (mem_defs (by decide)) (kind_of hs (by decide +kernel)) (.cons (B₂.ev (by k_mem)) (.cons (B₂.ev (by k_mem)) (.cons (B₂.ev (by k_mem)) .nil)))) ?_ (op_ne_stn (a := (r2, c2)) (b := (due, ((nodes.filter (isOff first due)).length : Int))) B₂.ok)
      refine Ev_tuple B₂.ok (.cons (B₂.ev (by k_mem)) (.cons (Ev_callB (id := "len") (Ts := [.list ((nodes.filter (isOff first due)).map VP.int)]) B₂.ok (by decide +kernel) (kind_of hs (by decide +kernel)) (.cons (B₂.ev (by k_mem)) .nil) ?_) .nil))
      have := op_len_list (Ts := (nodes.filter (isOff first due)).map VP.int) B₂.ok (by rw [List.length_map]; omega)
      rw [List.length_map] at this
      exact this
    · refine Tst_not (b := ([] : List Int).isEmpty) ?_
      exact Tst_val (Ev_call (d := defAt 6) (k := k + 5) B₂.ok B₂.room (is_stable_ok pb due [] h6 hpb) (mem_defs (by decide)) (kind_of hs (by decide +kernel)) (.cons (B₂.ev (by k_mem)) (.cons (B₂.ev (by k_mem)) .nil)))
end


section
variable {C : Cx} {s₀ s s' : Shared} {H₀ : List Addr} {k : Nat} {ρ ρ' ρ'' : Rho} {μ μ' : Mu}
theorem takenL_len {bs : Bes} {nodes q : List Int} (h : takenL bs [] nodes = some q) : q.length ≤ nodes.length := by
  have := tkAt_some h nodes.length
  rw [List.take_length, h] at this
  have e := (Option.some.inj this)
  have := tkAt_len h nodes.length (Nat.le_refl _)
  rwa [← e] at this
theorem phaseI (hs : C.env.scope = (defAt 22).scope) (hc : C.env.cells = cellsFrom (C.env.locals + 1) (defAt 22).scope.names []) (hn : CellsNew C)
    {bs : Bes} {pb : Prob} {m : Int} {nodes lot : List Int} {du r3 : Stt} (hbs : BesS bs) (hpb : Pb pb) (hp8 : pb.length ≤ 8) (hn8 : nodes.length ≤ 8)
    (h1 : takenL bs [] nodes.reverse = some lot) (h2 : runRow pb (ofPairs (noPaths pb)) (lot ++ nodes.filter fun n => !hasI lot n) 0 = some (r3, m)) (h3 : duesL bs lot = some du)
    (h4 : steq r3 (ofPairs du) = true)
    (B : Bd C s₀ H₀ (k + 5) s [("nodes", .list (nodes.map VP.int)), ("problem", probV C.prog C.w pb), ("beside", besV C.prog C.w bs), ("many", .int m)] []) {rest : List Stmt} {Q : Flow → Shared → Prop} {E : Value → Shared → Prop}
    (fin : ∀ s', Bd C s₀ H₀ (k + 5) s' [("nodes", .list (nodes.map VP.int)), ("problem", probV C.prog C.w pb), ("beside", besV C.prog C.w bs)] [] → wpAny C.M C.A (execs rest C.env) Q E s') :
    wpAny C.M C.A (execs (lawAt 12 :: lawAt 13 :: rest) C.env) Q E s := by
  have hnp : (ofPairs (noPaths pb)).length ≤ 8 := by
    have e2 := foldl_put_len (noPaths pb) ([] : Stt)
    have e3 : (noPaths pb).length = pb.length := by unfold noPaths; rw [List.length_map, sortI_len, keys_len]
    unfold ofPairs
    simp at e2
    omega
  have hl8 := takenL_len h1
  rw [List.length_reverse] at hl8
  have hfl : (nodes.filter fun n => !hasI lot n).length ≤ 8 := Nat.le_trans (List.length_filter_le _ _) hn8
  refine wpAny_seq (store_ B (T := .list (lot.map VP.int)) (Ev_call (d := defAt 20) (k := k + 5) B.ok B.room (taken_ok bs nodes.reverse lot h1 hbs (by rw [List.length_reverse]; exact hn8)) (mem_defs (by decide)) (kind_of hs (by decide +kernel)) (.cons ?_ (.cons (B.ev (by k_mem)) .nil))) (.inr ⟨kind_of hs (by decide +kernel), cell_of hc (by decide +kernel), hn⟩)
    (ρ' := [("nodes", .list (nodes.map VP.int)), ("problem", probV C.prog C.w pb), ("beside", besV C.prog C.w bs), ("many", .int m)]) (by k_all) fun s₁ B₁ => ?_)
  · rw [List.map_reverse]
    exact Ev_rev B.ok (B.ev (by k_mem)) (Ev_neg Ev_int) (by rw [List.length_map]; omega)
  · have et : (!(steq r3 (ofPairs du) && m == m)) = false := by rw [h4]; simp
    refine wpAny_seq (wpAny_if (b := !(steq r3 (ofPairs du) && m == m)) ?_ (fun s₃ k₃ e => absurd e (by rw [et]; decide)) fun s₃ k₃ e => wpAny_execs_nil (fin s₃ ((B₁.later k₃).less (by k_upd))))
    refine Tst_cmp (T := stnV C.prog C.w (r3, m)) (U := stnV C.prog C.w (ofPairs du, m)) (Ev_call (d := defAt 10) (k := k + 5) B₁.ok B₁.room (run_row_ok pb (ofPairs (noPaths pb)) (lot ++ nodes.filter fun n => !hasI lot n) (r3, m) h2 hpb (by rw [List.length_append]; omega)) (mem_defs (by decide)) (kind_of hs (by decide +kernel)) (.cons (B₁.ev (by k_mem)) (.cons (Ev_call (d := defAt 9) (k := k + 5) B₁.ok B₁.room (no_paths_ok pb hpb) (mem_defs (by decide)) (kind_of hs (by decide +kernel)) (.cons (B₁.ev (by k_mem)) .nil)) (.cons ?_ .nil))))
      (Ev_tuple B₁.ok (.cons (Ev_call (d := defAt 21) (k := k + 5) B₁.ok B₁.room (due_ok bs lot du h3 hbs) (mem_defs (by decide)) (kind_of hs (by decide +kernel)) (.cons (B₁.ev (by k_mem)) (.cons (B₁.ev (by k_mem)) .nil))) (.cons (B₁.ev (by k_mem)) .nil))) (op_ne_stn (a := (r3, m)) (b := (ofPairs du, m)) B₁.ok)
    rw [List.map_append]
    refine Ev_bin (T := .list (lot.map VP.int)) (U := .list ((nodes.filter fun n => !hasI lot n).map VP.int)) (B₁.ev (by k_mem)) ?_ (op_add_list B₁.ok (by rw [List.length_map, List.length_map]; omega))
    rw [← filter_ints]
    refine comp_ B₁ hs hc ⟨by decide +kernel, by decide +kernel, by decide +kernel, by decide +kernel⟩ (B₁.ev (x := "nodes") (T := .list (nodes.map VP.int)) (by k_mem)) iter_list _ (by rw [List.length_map, List.length_map]) (by rw [List.length_map]; omega)
      [("lot", .list (lot.map VP.int))] (cap_cons (by k_mem) (by decide +kernel) cap_nil) letsGo_name fun K H' g' s' i U rr v E' hU hr hv B' => ?_
    obtain ⟨n, hni, rfl⟩ := map_at hU
    have er := map_at2 hr hni
    refine assign_name (Bd.storeL (C := { C with env := cenv _ K C.env, H := H', g := g' }) (ρ' := [("lot", .list (lot.map VP.int))]) B' (x := "node") (kind_c hs (by decide +kernel)) hv (by k_all) fun s₅ B₅ => ⟨B₅.less (by k_upd), ?_, ?_⟩)
    · have : rr.isSome = !hasI lot n := by
        rw [er]; cases hasI lot n <;> rfl
      rw [this]
      exact tests_one (Tst_cmp (C := { C with env := cenv _ K C.env, H := H', g := g' }) (T := .int n) (U := .list (lot.map VP.int)) (B₅.ev (by k_mem)) (B₅.ev (by k_mem)) (op_notin_list fam_int B₅.ok))
    · intro U hU
      rw [er] at hU
      split at hU
      · cases hU; exact B₅.ev (by k_mem)
      · cases hU
end


def straightL (nodes : List Int) : Stt := nodes.map fun n => (n, [n, 0])
def byAt (bs : Bes) (n : Int) : Option (Int × Path) := match look n bs with
  | none => none
  | some l => match l with
    | [] => some (n, [n, 0])
    | o :: _ => some (n, [n, o, 0])
def byL (bs : Bes) (nodes : List Int) : Option Stt := mapO (byAt bs) nodes

theorem op_is_none {C : Cx} {s : Shared} {b : Bool} : Op2 C s (compareOp .Is) (wheelV b) VP.none (VP.bool b).P := fun s' E x y k hx hy => by
  have hy : y = .none := hy
  subst hy
  cases b with
  | true =>
    have hx : x = .none := hx
    subst hx
    exact wpAny_is_self (by rfl) ⟨keepsRefl _, rfl⟩
  | false =>
    obtain ⟨a, rfl⟩ := (show VP.refV.P _ x from hx)
    exact wpAny_is_other (by rfl) (fun e => nomatch e) ⟨keepsRefl _, rfl⟩
section
variable {C : Cx} {s₀ s s' : Shared} {H₀ : List Addr} {k : Nat} {ρ ρ' ρ'' : Rho} {μ μ' : Mu}
/-- dict of pairs, a state -/
theorem Ev_dict_st {e : Expr} {p pos} {r : Stt} (O : Ok C s) (hx : C.env.kindOf "dict" = some .globalImplicit) (h : Ev C s e (.list ((r.map fun p => (p.1, pathV p.2)).map pairT))) (hsz : r.length ≤ 1000)
    (he : starEach [e] C.env = (false, eval e C.env) :: starEach [] C.env := by rfl) : Ev C s (.Call (.Name "dict" p) [e] [] pos) (stV C.prog C.w (ofPairs r)) := by
  have er' : stV C.prog C.w (ofPairs r) = C.dict (ofPairs (r.map fun p => (p.1, pathV p.2))) := by rw [ofPairs_map]
  rw [er']
  exact Ev_callT (id := "dict") O (by decide +kernel) hx (.cons h .nil he) (op_dict_pairs (pairs := r.map fun p => (p.1, pathV p.2)) O (by rw [List.length_map]; exact hsz))
theorem phaseJ (hs : C.env.scope = (defAt 22).scope) (hc : C.env.cells = cellsFrom (C.env.locals + 1) (defAt 22).scope.names []) (hn : CellsNew C)
    {bs : Bes} {pb : Prob} {nodes : List Int} {by_ here later l3 : Stt} {b : Bool} (hpb : Pb pb) (hps : PbS pb) (hn8 : nodes.length ≤ 8)
    (h1 : byL bs nodes = some by_) (h2 : allActivated pb (ofPairs (noPaths pb)) = some here) (h3 : allActivated pb (ofPairs here) = some later) (h4 : allActivated pb (ofPairs later) = some l3)
    (h5 : steq (ofPairs here) (ofPairs (straightL nodes)) = true) (h6 : steq (ofPairs later) (ofPairs by_) = true) (h7 : steq (ofPairs l3) (ofPairs (straightL nodes)) = true)
    (h8 : noWheel pb = some b) (h9 : b = steq (ofPairs later) (ofPairs here))
    (B : Bd C s₀ H₀ (k + 5) s [("nodes", .list (nodes.map VP.int)), ("problem", probV C.prog C.w pb), ("beside", besV C.prog C.w bs)] []) {E : Value → Shared → Prop} :
    wpAny C.M C.A (execs [lawAt 14, lawAt 15, lawAt 16, lawAt 17, lawAt 18, lawAt 19] C.env) (Back s₀ H₀ (.bool true)) E s := by
  have hbl : by_.length ≤ 8 := by rw [mapO_len h1]; exact hn8
  refine wpAny_seq (store_ B (T := stV C.prog C.w (ofPairs (straightL nodes))) (Ev_dict_st B.ok (kind_of hs (by decide +kernel)) ?_ (by unfold straightL; rw [List.length_map]; omega)) (.inl (kind_of hs (by decide +kernel)))
    (ρ' := [("nodes", .list (nodes.map VP.int)), ("problem", probV C.prog C.w pb), ("beside", besV C.prog C.w bs)]) (by k_all) fun s₁ B₁ => ?_)
  · have e1 : ((straightL nodes).map fun p => (p.1, pathV p.2)).map pairT = (nodes.map fun n => some (pairT (n, pathV [n, 0]))).filterMap id := by
      unfold straightL
      rw [List.map_map, List.map_map, List.filterMap_map]
      generalize nodes = l
      induction l with
      | nil => rfl
      | cons a t ih => rw [List.map_cons, ih]; rfl
    rw [e1]
    refine comp_ B hs hc ⟨by decide +kernel, by decide +kernel, by decide +kernel, by decide +kernel⟩ (B.ev (x := "nodes") (T := .list (nodes.map VP.int)) (by k_mem)) iter_list _ (by rw [List.length_map, List.length_map]) (by rw [List.length_map]; omega)
      [] cap_nil letsGo_name fun K H' g' s' i U rr v E' hU hr hv B' => ?_
    obtain ⟨n, hni, rfl⟩ := map_at hU
    have er := map_at2 hr hni
    subst er
    exact assign_name (Bd.storeL (C := { C with env := cenv _ K C.env, H := H', g := g' }) (ρ' := []) B' (x := "node") (kind_c hs (by decide +kernel)) hv (by k_all) fun s₅ B₅ => ⟨B₅.less (by k_upd), tests_nil, fun U hU => by
      cases hU
      exact Ev_tuple B₅.ok (.cons (B₅.ev (by k_mem)) (.cons (show Ev _ _ _ (.tup [.int n, .int 0]) from Ev_tuple B₅.ok (.cons (B₅.ev (by k_mem)) (.cons Ev_int .nil))) .nil))⟩)
  · refine wpAny_seq (store_ B₁ (T := stV C.prog C.w (ofPairs by_)) (Ev_dict_st B₁.ok (kind_of hs (by decide +kernel)) ?_ (by omega)) (.inl (kind_of hs (by decide +kernel)))
      (ρ' := [("straight", stV C.prog C.w (ofPairs (straightL nodes))), ("nodes", .list (nodes.map VP.int)), ("problem", probV C.prog C.w pb), ("beside", besV C.prog C.w bs)]) (by k_all) fun s₂ B₂ => ?_)
    · obtain ⟨hr0, hall⟩ := mapO_some (fun q : Int × Path => pairT (q.1, pathV q.2)) h1
      have e1 : (by_.map fun p => (p.1, pathV p.2)).map pairT = by_.map fun q : Int × Path => pairT (q.1, pathV q.2) := by rw [List.map_map]; rfl
      rw [e1, ← hr0]
      refine comp_ B₁ hs hc ⟨by decide +kernel, by decide +kernel, by decide +kernel, by decide +kernel⟩ (B₁.ev (x := "nodes") (T := .list (nodes.map VP.int)) (by k_mem)) iter_list _ (by rw [List.length_map, List.length_map]) (by rw [List.length_map]; omega)
        [("beside", besV C.prog C.w bs)] (cap_cons (by k_mem) (by decide +kernel) cap_nil) letsGo_name fun K H' g' s' i U rr v E' hU hr hv B' => ?_
      obtain ⟨n, hni, rfl⟩ := map_at hU
      have er := map_at2 hr hni
      obtain ⟨q, hq⟩ := hall n (List.mem_of_getElem? hni)
      rw [hq] at er
      have er : rr = some (pairT (q.1, pathV q.2)) := er
      subst er
      unfold byAt at hq
      cases hl : look n bs with
      | none => rw [hl] at hq; cases hq
      | some l =>
      rw [hl] at hq
      have hq : (match (generalizing := false) l with | [] => some (n, [n, 0]) | o :: _ => some (n, [n, o, 0])) = some q := hq
      refine assign_name (Bd.storeL (C := { C with env := cenv _ K C.env, H := H', g := g' }) (ρ' := [("beside", besV C.prog C.w bs)]) B' (x := "node") (kind_c hs (by decide +kernel)) hv (by k_all) fun s₅ B₅ => ⟨B₅.less (by k_upd), tests_nil, fun U hU => ?_⟩)
      cases hU
      have hbe : ∀ {p1 p2 p3}, Ev { C with env := cenv _ K C.env, H := H', g := g' } s₅ (.Subscript (.Name "beside" p1) (.Name "node" p2) p3) (.list (l.map VP.int)) := fun {p1 p2 p3} =>
        Ev_item_dict (C := { C with env := cenv _ K C.env, H := H', g := g' }) (kvs := bs.map fun p => (p.1, .list (p.2.map VP.int))) (B₅.ev (by k_mem)) (B₅.ev (by k_mem)) (by rw [look_map fun l : List Int => VP.list (l.map VP.int), hl]; rfl)
      have eq1 : q.1 = n := by
        cases l with
        | nil => cases hq; rfl
        | cons o r => cases hq; rfl
      rw [eq1]
      refine Ev_tuple B₅.ok (.cons (B₅.ev (by k_mem)) (.cons (T := pathV q.2) (Ev_if (b := (l.map VP.int).isEmpty) (Tst_cmp (C := { C with env := cenv _ K C.env, H := H', g := g' }) hbe (Ev_list B₅.ok .nil) (op_eq_nil B₅.ok)) (fun hh => ?_) fun hh => ?_) .nil))
      · cases l with
        | cons _ _ => cases hh
        | nil =>
          cases hq
          exact (show Ev _ _ _ (.tup [.int n, .int 0]) from Ev_tuple B₅.ok (.cons (B₅.ev (by k_mem)) (.cons Ev_int .nil)))
      · cases l with
        | nil => cases hh
        | cons o r =>
          cases hq
          exact (show Ev _ _ _ (.tup [.int n, .int o, .int 0]) from Ev_tuple B₅.ok (.cons (B₅.ev (by k_mem)) (.cons (Ev_item_list (C := { C with env := cenv _ K C.env, H := H', g := g' }) (k := 0) (Ts := (o :: r).map VP.int) hbe Ev_int rfl (by decide)) (.cons Ev_int .nil))))
    · refine wpAny_seq (store_ B₂ (T := stV C.prog C.w (ofPairs here)) (Ev_call (d := defAt 8) (k := k + 5) B₂.ok B₂.room (all_activated_ok pb (ofPairs (noPaths pb)) here h2 hpb) (mem_defs (by decide)) (kind_of hs (by decide +kernel)) (.cons (B₂.ev (by k_mem)) (.cons (Ev_call (d := defAt 9) (k := k + 5) B₂.ok B₂.room (no_paths_ok pb hpb) (mem_defs (by decide)) (kind_of hs (by decide +kernel)) (.cons (B₂.ev (by k_mem)) .nil)) .nil))) (.inl (kind_of hs (by decide +kernel)))
        (ρ' := [("by", stV C.prog C.w (ofPairs by_)), ("straight", stV C.prog C.w (ofPairs (straightL nodes))), ("problem", probV C.prog C.w pb)]) (by k_all) fun s₃ B₃ => ?_)
      refine wpAny_seq (store_ B₃ (T := stV C.prog C.w (ofPairs later)) (Ev_call (d := defAt 8) (k := k + 5) B₃.ok B₃.room (all_activated_ok pb (ofPairs here) later h3 hpb) (mem_defs (by decide)) (kind_of hs (by decide +kernel)) (.cons (B₃.ev (by k_mem)) (.cons (B₃.ev (by k_mem)) .nil))) (.inl (kind_of hs (by decide +kernel)))
        (ρ' := [("here", stV C.prog C.w (ofPairs here)), ("by", stV C.prog C.w (ofPairs by_)), ("straight", stV C.prog C.w (ofPairs (straightL nodes))), ("problem", probV C.prog C.w pb)]) (by k_all) fun s₄ B₄ => ?_)
      have et : (!steq (ofPairs here) (ofPairs (straightL nodes)) || (!steq (ofPairs later) (ofPairs by_) || !steq (ofPairs l3) (ofPairs (straightL nodes)))) = false := by rw [h5, h6, h7]; rfl
      refine wpAny_seq (wpAny_if (Tst_or3 (a := !steq (ofPairs here) (ofPairs (straightL nodes))) (b := !steq (ofPairs later) (ofPairs by_)) (c := !steq (ofPairs l3) (ofPairs (straightL nodes)))
        (Tst_cmp (B₄.ev (by k_mem)) (B₄.ev (by k_mem)) (op_ne_st (a := ofPairs here) (b := ofPairs (straightL nodes)) B₄.ok)) (fun _ => Tst_cmp (B₄.ev (by k_mem)) (B₄.ev (by k_mem)) (op_ne_st (a := ofPairs later) (b := ofPairs by_) B₄.ok))
        fun _ _ => Tst_cmp (Ev_call (d := defAt 8) (k := k + 5) B₄.ok B₄.room (all_activated_ok pb (ofPairs later) l3 h4 hpb) (mem_defs (by decide)) (kind_of hs (by decide +kernel)) (.cons (B₄.ev (by k_mem)) (.cons (B₄.ev (by k_mem)) .nil))) (B₄.ev (by k_mem)) (op_ne_st (a := ofPairs l3) (b := ofPairs (straightL nodes)) B₄.ok))
        (fun s₅ k₅ e => absurd e (by rw [et]; decide)) fun s₅ k₅ e => wpAny_execs_nil ?_)
      have B₅ := B₄.later k₅
      have eb : (b == steq (ofPairs later) (ofPairs here)) = true := by rw [h9]; simp
      rw [← eb]
      exact wpAny_ret B₅ (Ev_cmp (T := .bool b) (U := .bool (steq (ofPairs later) (ofPairs here))) (Ev_cmp (T := wheelV b) (U := VP.none) (Ev_call (d := defAt 17) (k := k + 5) B₅.ok B₅.room (find_wheel_ok pb b h8 hps) (mem_defs (by decide)) (kind_of hs (by decide +kernel)) (.cons (B₅.ev (by k_mem)) .nil)) Ev_none op_is_none)
        (Ev_cmp (B₅.ev (by k_mem)) (B₅.ev (by k_mem)) (op_eq_st (a := ofPairs later) (b := ofPairs here) B₅.ok)) op_eq_bool)
end


def opt {α : Type} (o : Option α) (f : α → Bool) : Bool := match o with
  | none => false
  | some a => f a
theorem opt_true {α : Type} {o : Option α} {f : α → Bool} (h : opt o f = true) : ∃ a, o = some a ∧ f a = true := by
  cases o with
  | none => cases h
  | some a => exact ⟨a, rfl, h⟩
def has (st : Stt) (n : Int) : Bool := (look n st).isSome
theorem has_some {st : Stt} {n : Int} (h : has st n = true) : ∃ p, look n st = some p := Option.isSome_iff_exists.mp h
/-- what a run from the top asks, and the run behind it -/
def tail1 (bs : Bes) (pb : Prob) (m : Int) (nodes : List Int) : Bool :=
  opt (takenL bs [] nodes) fun lot => opt (runRow pb (ofPairs (noPaths pb)) nodes 0) fun q => opt (duesL bs lot) fun du => opt (runRow pb q.1 nodes 0) fun q2 => opt (unquiet pb (ofPairs du)) fun uq =>
    q.2 == m && (peq (nodes.filter (isStraight q.1)) lot && (nodes.all (has q.1) && (nodes.all (has (ofPairs du)) && (steq q2.1 (ofPairs du) && (q2.2 == ((nodes.filter (isOff q.1 (ofPairs du))).length : Int) && (uq.isEmpty && Nat.ble q.1.length 100))))))
def tail2 (bs : Bes) (pb : Prob) (m : Int) (nodes : List Int) : Bool :=
  opt (takenL bs [] nodes.reverse) fun lot => opt (runRow pb (ofPairs (noPaths pb)) (lot ++ nodes.filter fun n => !hasI lot n) 0) fun q => opt (duesL bs lot) fun du => q.2 == m && steq q.1 (ofPairs du)
def tail3 (bs : Bes) (pb : Prob) (nodes : List Int) : Bool :=
  opt (byL bs nodes) fun b => opt (allActivated pb (ofPairs (noPaths pb))) fun here => opt (allActivated pb (ofPairs here)) fun later => opt (allActivated pb (ofPairs later)) fun l3 => opt (noWheel pb) fun nw =>
    steq (ofPairs here) (ofPairs (straightL nodes)) && (steq (ofPairs later) (ofPairs b) && (steq (ofPairs l3) (ofPairs (straightL nodes)) && (nw == steq (ofPairs later) (ofPairs here))))
theorem law_tail {C : Cx} {s₀ s : Shared} {H₀ : List Addr} {k : Nat} (hs : C.env.scope = (defAt 22).scope) (hc : C.env.cells = cellsFrom (C.env.locals + 1) (defAt 22).scope.names []) (hn : CellsNew C)
    {bs : Bes} {pb : Prob} {m : Int} {nodes : List Int} (hbs : BesS bs) (hps : PbS pb) (hn8 : nodes.length ≤ 8)
    (t1 : tail1 bs pb m nodes = true) (t2 : tail2 bs pb m nodes = true) (t3 : tail3 bs pb nodes = true)
    (B : Bd C s₀ H₀ (k + 5) s [("nodes", .list (nodes.map VP.int)), ("problem", probV C.prog C.w pb), ("beside", besV C.prog C.w bs), ("many", .int m)] []) {E : Value → Shared → Prop} :
    wpAny C.M C.A (execs [lawAt 6, lawAt 7, lawAt 8, lawAt 9, lawAt 10, lawAt 11, lawAt 12, lawAt 13, lawAt 14, lawAt 15, lawAt 16, lawAt 17, lawAt 18, lawAt 19] C.env) (Back s₀ H₀ (.bool true)) E s := by
  obtain ⟨lot, a1, t1⟩ := opt_true t1
  obtain ⟨⟨first, ch⟩, a2, t1⟩ := opt_true t1
  obtain ⟨du, a3, t1⟩ := opt_true t1
  obtain ⟨⟨r2, c2⟩, a4, t1⟩ := opt_true t1
  obtain ⟨uq, a5, t1⟩ := opt_true t1
  obtain ⟨lot2, b1, t2⟩ := opt_true t2
  obtain ⟨⟨r3, c3⟩, b2, t2⟩ := opt_true t2
  obtain ⟨du2, b3, t2⟩ := opt_true t2
  obtain ⟨by_, c1, t3⟩ := opt_true t3
  obtain ⟨here, d2, t3⟩ := opt_true t3
  obtain ⟨later, d3, t3⟩ := opt_true t3
  obtain ⟨l3, d4, t3⟩ := opt_true t3
  obtain ⟨nw, d5, t3⟩ := opt_true t3
  obtain ⟨x1, t1⟩ := Bool.and_eq_true_iff.mp t1
  obtain ⟨x2, t1⟩ := Bool.and_eq_true_iff.mp t1
  obtain ⟨x3, t1⟩ := Bool.and_eq_true_iff.mp t1
  obtain ⟨x4, t1⟩ := Bool.and_eq_true_iff.mp t1
  obtain ⟨x5, t1⟩ := Bool.and_eq_true_iff.mp t1
  obtain ⟨x6, t1⟩ := Bool.and_eq_true_iff.mp t1
  obtain ⟨x7, x8⟩ := Bool.and_eq_true_iff.mp t1
  obtain ⟨y1, y2⟩ := Bool.and_eq_true_iff.mp t2
  obtain ⟨z1, t3⟩ := Bool.and_eq_true_iff.mp t3
  obtain ⟨z2, t3⟩ := Bool.and_eq_true_iff.mp t3
  obtain ⟨z3, z4⟩ := Bool.and_eq_true_iff.mp t3
  have x1 : ch = m := by simpa using x1
  subst x1
  have y1 : c3 = ch := by simpa using y1
  subst y1
  have x2 : nodes.filter (isStraight first) = lot := by rw [peq_eq] at x2; simpa using x2
  have x7 : uq = [] := List.isEmpty_iff.mp x7
  subst x7
  have x6 : c2 = ((nodes.filter (isOff first (ofPairs du))).length : Int) := by simpa using x6
  have x8 : first.length ≤ 100 := Nat.le_of_ble_eq_true x8
  have z4 : nw = steq (ofPairs later) (ofPairs here) := by simpa using z4
  refine phaseG hs hc hn hbs hps.pb hps.n hn8 a1 a2 (fun n m => has_some (List.all_eq_true.mp x3 n m)) x2 B fun s₁ B₁ => ?_
  refine phaseH hs hc hn hbs hps.pb x8 hn8 a3 a4 (fun n m => ⟨has_some (List.all_eq_true.mp x3 n m), has_some (List.all_eq_true.mp x4 n m)⟩) x5 x6 a5 B₁ fun s₂ B₂ => ?_
  refine phaseI hs hc hn hbs hps.pb hps.n hn8 b1 b2 b3 y2 B₂ fun s₃ B₃ => ?_
  exact phaseJ hs hc hn hps.pb hps hn8 c1 d2 d3 d4 z1 z2 z3 d5 z4 B₃


/-! draws by an oracle -/
def edgeInD (d : Nat → Int → Int) (n : Int) : Nat × Gr → List Int → Nat × Gr
  | x, [] => x
  | x, o :: r => edgeInD d n (x.1 + 1, if d x.1 2 = 1 then (x.2.add n o).add o n else x.2) r
def edgeAllD (d : Nat → Int → Int) (top : Int) : Nat × Gr → List Int → Nat × Gr
  | x, [] => x
  | x, n :: r => edgeAllD d top (edgeInD d n x (rangeL (n + 1) (top + 1))) r
def fStepD (d : Nat → Int → Int) (bk : Int) (x : FS) (n : Int) : Option FS := match look n x.bs with
  | none => none
  | some l => some ⟨x.i + 1, (x.nodes.take (d x.i n).toNat ++ [n]) ++ x.nodes.drop (d x.i n).toNat, put n (sortB bk l) x.bs, put n (rowP n (sortB bk l)) x.pb⟩
def fAllD (d : Nat → Int → Int) (bk : Int) : FS → List Int → Option FS
  | x, [] => some x
  | x, n :: r => match fStepD d bk x n with
    | none => none
    | some y => fAllD d bk y r
def startD (d : Nat → Int → Int) (m : Int) : FS :=
  let e := edgeAllD d m (2, fun _ => []) (rangeL 1 (m + 1))
  ⟨e.1, [], besOf e.2 (rangeL 1 (m + 1)), []⟩
theorem edgeIn_D (cells : List Int) (n : Int) : ∀ (l : List Int) (x : Nat × Gr), edgeIn cells n x l = edgeInD (drawAt cells) n x l := by
  intro l
  induction l with
  | nil => intro x; rfl
  | cons o r ih => intro x; rw [edgeIn, edgeInD, ih]
theorem edgeAll_D (cells : List Int) (m : Int) : ∀ (l : List Int) (x : Nat × Gr), edgeAll cells m x l = edgeAllD (drawAt cells) m x l := by
  intro l
  induction l with
  | nil => intro x; rfl
  | cons o r ih => intro x; rw [edgeAll, edgeAllD, edgeIn_D, ih]
theorem fAll_D (cells : List Int) (bk : Int) : ∀ (l : List Int) (x : FS), fAll cells bk x l = fAllD (drawAt cells) bk x l := by
  intro l
  induction l with
  | nil => intro x; rfl
  | cons o r ih =>
    intro x
    rw [fAll, fAllD, show fStep cells bk x o = fStepD (drawAt cells) bk x o from rfl]
    cases fStepD (drawAt cells) bk x o with
    | none => rfl
    | some y => exact ih y
theorem start_D (cells : List Int) : startF cells = startD (drawAt cells) (manyOf cells) := by
  unfold startF startD
  rw [edgeAll_D]

def stepN (p : Int) (n : Int) (ns : List Int) : List Int := (ns.take p.toNat ++ [n]) ++ ns.drop p.toNat
def orc (l : List Int) : Nat → Int → Int := fun i _ => l.getD i 0
def gr3 (a b c : Int) : Gr := (edgeAllD (orc [0, 0, a, b, c]) 3 (2, fun _ => []) (rangeL 1 4)).2
def gr4 (a b c d e f : Int) : Gr := (edgeAllD (orc [0, 0, a, b, c, d, e, f]) 4 (2, fun _ => []) (rangeL 1 5)).2
def bs3 (bk : Int) (G : Gr) : Bes := [(1, sortB bk (G 1)), (2, sortB bk (G 2)), (3, sortB bk (G 3))]
def bs4 (bk : Int) (G : Gr) : Bes := [(1, sortB bk (G 1)), (2, sortB bk (G 2)), (3, sortB bk (G 3)), (4, sortB bk (G 4))]
def pbOf (bs : Bes) : Prob := bs.map fun p => (p.1, rowP p.1 p.2)
theorem start3 (d : Nat → Int → Int) : startD d 3 = ⟨5, [], besOf (gr3 (d 2 2) (d 3 2) (d 4 2)) [1, 2, 3], []⟩ := rfl
theorem start4 (d : Nat → Int → Int) : startD d 4 = ⟨8, [], besOf (gr4 (d 2 2) (d 3 2) (d 4 2) (d 5 2) (d 6 2) (d 7 2)) [1, 2, 3, 4], []⟩ := rfl
theorem all3 (d : Nat → Int → Int) (bk : Int) (G : Gr) : fAllD d bk ⟨5, [], besOf G [1, 2, 3], []⟩ [1, 2, 3] = some ⟨8, stepN (d 7 3) 3 (stepN (d 6 2) 2 (stepN (d 5 1) 1 [])), bs3 bk G, pbOf (bs3 bk G)⟩ := rfl
theorem all4 (d : Nat → Int → Int) (bk : Int) (G : Gr) : fAllD d bk ⟨8, [], besOf G [1, 2, 3, 4], []⟩ [1, 2, 3, 4] = some ⟨12, stepN (d 11 4) 4 (stepN (d 10 3) 3 (stepN (d 9 2) 2 (stepN (d 8 1) 1 []))), bs4 bk G, pbOf (bs4 bk G)⟩ := rfl


/-! small data written out -/
def fI (n : Int) (f : Int → Bool) : Bool := if n = 0 then f 0 else if n = 1 then f 1 else if n = 2 then f 2 else if n = 3 then f 3 else if n = 4 then f 4 else false
theorem fI_ok {n : Int} {f : Int → Bool} (h : fI n f = true) : f n = true := by
  unfold fI at h
  split at h
  · rename_i e; rw [e]; exact h
  · split at h
    · rename_i e; rw [e]; exact h
    · split at h
      · rename_i e; rw [e]; exact h
      · split at h
        · rename_i e; rw [e]; exact h
        · split at h
          · rename_i e; rw [e]; exact h
          · cases h
def fL : List Int → (List Int → Bool) → Bool
  | [], f => f []
  | a :: r, f => fI a fun a => fL r fun r => f (a :: r)
theorem fL_ok : ∀ {l : List Int} {f : List Int → Bool}, fL l f = true → f l = true := by
  intro l
  induction l with
  | nil => intro f h; exact h
  | cons a r ih => intro f h; exact ih (fI_ok (f := fun a => fL r fun r => f (a :: r)) h)
def fLL : List (List Int) → (List (List Int) → Bool) → Bool
  | [], f => f []
  | a :: r, f => fL a fun a => fLL r fun r => f (a :: r)
theorem fLL_ok : ∀ {l : List (List Int)} {f : List (List Int) → Bool}, fLL l f = true → f l = true := by
  intro l
  induction l with
  | nil => intro f h; exact h
  | cons a r ih => intro f h; exact ih (fL_ok (f := fun a => fLL r fun r => f (a :: r)) h)
def fB : Bes → (Bes → Bool) → Bool
  | [], f => f []
  | a :: r, f => fI a.1 fun x => fL a.2 fun y => fB r fun r => f ((x, y) :: r)
theorem fB_ok : ∀ {l : Bes} {f : Bes → Bool}, fB l f = true → f l = true := by
  intro l
  induction l with
  | nil => intro f h; exact h
  | cons a r ih => intro f h; exact ih (fL_ok (f := fun y => fB r fun r => f ((a.1, y) :: r)) (fI_ok (f := fun x => fL a.2 fun y => fB r fun r => f ((x, y) :: r)) h))
def fP : Prob → (Prob → Bool) → Bool
  | [], f => f []
  | a :: r, f => fI a.1 fun x => fLL a.2 fun y => fP r fun r => f ((x, y) :: r)
theorem fP_ok : ∀ {l : Prob} {f : Prob → Bool}, fP l f = true → f l = true := by
  intro l
  induction l with
  | nil => intro f h; exact h
  | cons a r ih => intro f h; exact ih (fLL_ok (f := fun y => fP r fun r => f ((a.1, y) :: r)) (fI_ok (f := fun x => fLL a.2 fun y => fP r fun r => f ((x, y) :: r)) h))

def besB (bs : Bes) : Bool := Nat.ble bs.length 8 && bs.all fun p => Nat.ble p.2.length 8
def pbB (pb : Prob) : Bool := Nat.ble pb.length 8 && pb.all fun p => Nat.ble p.2.length 8 && p.2.all fun q => Nat.ble 2 q.length && Nat.ble q.length 8
theorem besB_ok {bs : Bes} (h : besB bs = true) : BesS bs := by
  obtain ⟨h1, h2⟩ := Bool.and_eq_true_iff.mp h
  exact ⟨Nat.le_of_ble_eq_true h1, fun x m => Nat.le_of_ble_eq_true (List.all_eq_true.mp h2 x m)⟩
theorem pbB_ok {pb : Prob} (h : pbB pb = true) : PbS pb := by
  obtain ⟨h1, h2⟩ := Bool.and_eq_true_iff.mp h
  refine ⟨Nat.le_of_ble_eq_true h1, fun x m => ?_⟩
  obtain ⟨h3, h4⟩ := Bool.and_eq_true_iff.mp (List.all_eq_true.mp h2 x m)
  refine ⟨Nat.le_of_ble_eq_true h3, fun q mq => ?_⟩
  obtain ⟨h5, h6⟩ := Bool.and_eq_true_iff.mp (List.all_eq_true.mp h4 q mq)
  exact ⟨Nat.le_of_ble_eq_true h5, Nat.le_of_ble_eq_true h6⟩

def tailB (bs : Bes) (pb : Prob) (m : Int) (nodes : List Int) : Bool := Nat.ble nodes.length 8 && (tail1 bs pb m nodes && (tail2 bs pb m nodes && tail3 bs pb nodes))
def ok3 (bk a b c : Int) : Bool := fB (bs3 bk (gr3 a b c)) fun bs => besB bs && fP (pbOf bs) fun pb => pbB pb && [0, 1].all fun p2 => [0, 1, 2].all fun p3 => fL (stepN p3 3 (stepN p2 2 (stepN 0 1 []))) fun nodes => tailB bs pb 3 nodes
def ok4 (bk a b c d e f : Int) : Bool := fB (bs4 bk (gr4 a b c d e f)) fun bs => besB bs && fP (pbOf bs) fun pb => pbB pb && [0, 1].all fun p2 => [0, 1, 2].all fun p3 => [0, 1, 2, 3].all fun p4 => fL (stepN p4 4 (stepN p3 3 (stepN p2 2 (stepN 0 1 [])))) fun nodes => tailB bs pb 4 nodes
def all3B : Bool := [0, 1].all fun bk => [0, 1].all fun a => [0, 1].all fun b => [0, 1].all fun c => ok3 bk a b c
theorem fin3 : all3B = true := by decide +kernel


def all4C (bk a b c d : Int) : Bool := [0, 1].all fun e => [0, 1].all fun f => ok4 bk a b c d e f
theorem fin4_00000 : all4C 0 0 0 0 0 = true := by decide +kernel
theorem fin4_00001 : all4C 0 0 0 0 1 = true := by decide +kernel
theorem fin4_00010 : all4C 0 0 0 1 0 = true := by decide +kernel
theorem fin4_00011 : all4C 0 0 0 1 1 = true := by decide +kernel
theorem fin4_00100 : all4C 0 0 1 0 0 = true := by decide +kernel
theorem fin4_00101 : all4C 0 0 1 0 1 = true := by decide +kernel
theorem fin4_00110 : all4C 0 0 1 1 0 = true := by decide +kernel
theorem fin4_00111 : all4C 0 0 1 1 1 = true := by decide +kernel
theorem fin4_01000 : all4C 0 1 0 0 0 = true := by decide +kernel
theorem fin4_01001 : all4C 0 1 0 0 1 = true := by decide +kernel
theorem fin4_01010 : all4C 0 1 0 1 0 = true := by decide +kernel
theorem fin4_01011 : all4C 0 1 0 1 1 = true := by decide +kernel
theorem fin4_01100 : all4C 0 1 1 0 0 = true := by decide +kernel
theorem fin4_01101 : all4C 0 1 1 0 1 = true := by decide +kernel
theorem fin4_01110 : all4C 0 1 1 1 0 = true := by decide +kernel
theorem fin4_01111 : all4C 0 1 1 1 1 = true := by decide +kernel
theorem fin4_10000 : all4C 1 0 0 0 0 = true := by decide +kernel
theorem fin4_10001 : all4C 1 0 0 0 1 = true := by decide +kernel
theorem fin4_10010 : all4C 1 0 0 1 0 = true := by decide +kernel
theorem fin4_10011 : all4C 1 0 0 1 1 = true := by decide +kernel
theorem fin4_10100 : all4C 1 0 1 0 0 = true := by decide +kernel
theorem fin4_10101 : all4C 1 0 1 0 1 = true := by decide +kernel
theorem fin4_10110 : all4C 1 0 1 1 0 = true := by decide +kernel
theorem fin4_10111 : all4C 1 0 1 1 1 = true := by decide +kernel
theorem fin4_11000 : all4C 1 1 0 0 0 = true := by decide +kernel
theorem fin4_11001 : all4C 1 1 0 0 1 = true := by decide +kernel
theorem fin4_11010 : all4C 1 1 0 1 0 = true := by decide +kernel
theorem fin4_11011 : all4C 1 1 0 1 1 = true := by decide +kernel
theorem fin4_11100 : all4C 1 1 1 0 0 = true := by decide +kernel
theorem fin4_11101 : all4C 1 1 1 0 1 = true := by decide +kernel
theorem fin4_11110 : all4C 1 1 1 1 0 = true := by decide +kernel
theorem fin4_11111 : all4C 1 1 1 1 1 = true := by decide +kernel
def bit (n : Int) : Prop := n = 0 ∨ n = 1
theorem fin4 {bk a b c d : Int} (hk : bit bk) (ha : bit a) (hb : bit b) (hc : bit c) (hd : bit d) : all4C bk a b c d = true := by
  rcases hk with rfl | rfl <;> rcases ha with rfl | rfl <;> rcases hb with rfl | rfl <;> rcases hc with rfl | rfl <;> rcases hd with rfl | rfl
  · exact fin4_00000
  · exact fin4_00001
  · exact fin4_00010
  · exact fin4_00011
  · exact fin4_00100
  · exact fin4_00101
  · exact fin4_00110
  · exact fin4_00111
  · exact fin4_01000
  · exact fin4_01001
  · exact fin4_01010
  · exact fin4_01011
  · exact fin4_01100
  · exact fin4_01101
  · exact fin4_01110
  · exact fin4_01111
  · exact fin4_10000
  · exact fin4_10001
  · exact fin4_10010
  · exact fin4_10011
  · exact fin4_10100
  · exact fin4_10101
  · exact fin4_10110
  · exact fin4_10111
  · exact fin4_11000
  · exact fin4_11001
  · exact fin4_11010
  · exact fin4_11011
  · exact fin4_11100
  · exact fin4_11101
  · exact fin4_11110
  · exact fin4_11111


theorem mem01 {n : Int} (h : bit n) : n ∈ ([0, 1] : List Int) := by
  rcases h with rfl | rfl <;> decide
theorem mem012 {n : Int} (h : 0 ≤ n ∧ n < 3) : n ∈ ([0, 1, 2] : List Int) := by
  have : n = 0 ∨ n = 1 ∨ n = 2 := by omega
  rcases this with rfl | rfl | rfl <;> decide
theorem mem0123 {n : Int} (h : 0 ≤ n ∧ n < 4) : n ∈ ([0, 1, 2, 3] : List Int) := by
  have : n = 0 ∨ n = 1 ∨ n = 2 ∨ n = 3 := by omega
  rcases this with rfl | rfl | rfl | rfl <;> decide
theorem bit_draw (cells : List Int) (i : Nat) : bit (drawAt cells i 2) := by
  have := drawAt_nonneg cells i (m := 2) (by decide)
  unfold bit; omega
/-- what the check gives -/
def Good (bs : Bes) (pb : Prob) (m : Int) (nodes : List Int) : Prop := BesS bs ∧ PbS pb ∧ nodes.length ≤ 8 ∧ tail1 bs pb m nodes = true ∧ tail2 bs pb m nodes = true ∧ tail3 bs pb nodes = true
theorem good_of {bs : Bes} {pb : Prob} {m : Int} {nodes : List Int} (h1 : besB bs = true) (h2 : pbB pb = true) (h3 : tailB bs pb m nodes = true) : Good bs pb m nodes := by
  obtain ⟨a, h3⟩ := Bool.and_eq_true_iff.mp h3
  obtain ⟨b, h3⟩ := Bool.and_eq_true_iff.mp h3
  obtain ⟨c, e⟩ := Bool.and_eq_true_iff.mp h3
  exact ⟨besB_ok h1, pbB_ok h2, Nat.le_of_ble_eq_true a, b, c, e⟩
theorem good3 {bk a b c p2 p3 : Int} (hk : bit bk) (ha : bit a) (hb : bit b) (hc : bit c) (h2 : bit p2) (h3 : 0 ≤ p3 ∧ p3 < 3) :
    Good (bs3 bk (gr3 a b c)) (pbOf (bs3 bk (gr3 a b c))) 3 (stepN p3 3 (stepN p2 2 (stepN 0 1 []))) := by
  have h := List.all_eq_true.mp (List.all_eq_true.mp (List.all_eq_true.mp (List.all_eq_true.mp fin3 bk (mem01 hk)) a (mem01 ha)) b (mem01 hb)) c (mem01 hc)
  have h := fB_ok h
  obtain ⟨x1, h⟩ := Bool.and_eq_true_iff.mp h
  have h := fP_ok h
  obtain ⟨x2, h⟩ := Bool.and_eq_true_iff.mp h
  have h := List.all_eq_true.mp (List.all_eq_true.mp h p2 (mem01 h2)) p3 (mem012 h3)
  exact good_of x1 x2 (fL_ok h)
theorem good4 {bk a b c d e f p2 p3 p4 : Int} (hk : bit bk) (ha : bit a) (hb : bit b) (hc : bit c) (hd : bit d) (he : bit e) (hf : bit f) (h2 : bit p2) (h3 : 0 ≤ p3 ∧ p3 < 3) (h4 : 0 ≤ p4 ∧ p4 < 4) :
    Good (bs4 bk (gr4 a b c d e f)) (pbOf (bs4 bk (gr4 a b c d e f))) 4 (stepN p4 4 (stepN p3 3 (stepN p2 2 (stepN 0 1 [])))) := by
  have h := List.all_eq_true.mp (List.all_eq_true.mp (fin4 hk ha hb hc hd) e (mem01 he)) f (mem01 hf)
  have h := fB_ok h
  obtain ⟨x1, h⟩ := Bool.and_eq_true_iff.mp h
  have h := fP_ok h
  obtain ⟨x2, h⟩ := Bool.and_eq_true_iff.mp h
  have h := List.all_eq_true.mp (List.all_eq_true.mp (List.all_eq_true.mp h p2 (mem01 h2)) p3 (mem012 h3)) p4 (mem0123 h4)
  exact good_of x1 x2 (fL_ok h)
theorem besS_of3 {bk : Int} {G : Gr} (h : BesS (bs3 bk G)) : BesS (besOf G [1, 2, 3]) := by
  refine ⟨h.n, fun x m => ?_⟩
  have e : ∀ n, (n, sortB bk (G n)) ∈ bs3 bk G → (G n).length ≤ 8 := fun n m => by have := h.p _ m; rwa [sortB_len] at this
  have m : x ∈ [(1, G 1), (2, G 2), (3, G 3)] := m
  simp only [List.mem_cons, List.not_mem_nil, or_false] at m
  rcases m with rfl | rfl | rfl
  · exact e 1 (by simp [bs3])
  · exact e 2 (by simp [bs3])
  · exact e 3 (by simp [bs3])
theorem besS_of4 {bk : Int} {G : Gr} (h : BesS (bs4 bk G)) : BesS (besOf G [1, 2, 3, 4]) := by
  refine ⟨h.n, fun x m => ?_⟩
  have e : ∀ n, (n, sortB bk (G n)) ∈ bs4 bk G → (G n).length ≤ 8 := fun n m => by have := h.p _ m; rwa [sortB_len] at this
  have m : x ∈ [(1, G 1), (2, G 2), (3, G 3), (4, G 4)] := m
  simp only [List.mem_cons, List.not_mem_nil, or_false] at m
  rcases m with rfl | rfl | rfl | rfl
  · exact e 1 (by simp [bs4])
  · exact e 2 (by simp [bs4])
  · exact e 3 (by simp [bs4])
  · exact e 4 (by simp [bs4])

/-- all that the law's body comes to -/
theorem spec_ok (cells : List Int) : ∃ q, fAll cells (backOf cells) (startF cells) (rangeL 1 (manyOf cells + 1)) = some q ∧ (startF cells).i ≤ 50 ∧ BesS (startF cells).bs ∧ Good q.bs q.pb (manyOf cells) q.nodes := by
  have hb : ∀ i, bit (drawAt cells i 2) := bit_draw cells
  have hm : manyOf cells = 3 ∨ manyOf cells = 4 := by
    have := hb 0
    unfold bit at this
    unfold manyOf; omega
  rcases hm with hm | hm
  · rw [start_D, fAll_D, hm, start3, show rangeL 1 (3 + 1) = [1, 2, 3] from rfl, all3]
    have hp := drawAt_nonneg cells 5 (m := 1) (by decide)
    have hp : drawAt cells 5 1 = 0 := by omega
    have g := good3 (hb 1) (hb 2) (hb 3) (hb 4) (hb 6) (drawAt_nonneg cells 7 (m := 3) (by decide))
    rw [hp]
    exact ⟨_, rfl, by show (5 : Nat) ≤ 50; decide, besS_of3 g.1, g⟩
  · rw [start_D, fAll_D, hm, start4, show rangeL 1 (4 + 1) = [1, 2, 3, 4] from rfl, all4]
    have hp := drawAt_nonneg cells 8 (m := 1) (by decide)
    have hp : drawAt cells 8 1 = 0 := by omega
    have g := good4 (hb 1) (hb 2) (hb 3) (hb 4) (hb 5) (hb 6) (hb 7) (hb 9) (drawAt_nonneg cells 10 (m := 3) (by decide)) (drawAt_nonneg cells 11 (m := 4) (by decide))
    rw [hp]
    exact ⟨_, rfl, by show (8 : Nat) ≤ 50; decide, besS_of4 g.1, g⟩

theorem law_ok {prog : Program} {w : World} {mg mb : Str → Option Value} {k : Nat} (ns : List Int) (hns : ns.length ≤ 900) : FOk prog w mg mb (defAt 22) (k + 6) [.list (ns.map VP.int)] (.bool true) := by
  obtain ⟨q, h1, h2, h3, g⟩ := spec_ok (ns.take 12)
  obtain ⟨g1, g2, g3, g4, g5, g6⟩ := g
  exact law_head ns hns q h1 h2 h3 fun C s₀ H₀ s hp hw hg hb hs hc hn B => law_tail hs hc hn g1 g2 g3 g4 g5 g6 (B.less (by k_upd))
theorem els_of_well {P : Params} {h : Heap} {a : Addr} {ns : List Int} {vs : List Value} (w : Well P h (.ref a) (ofPy (.list (ns.map PyData.int)))) (hL : h.IsList a vs.toArray) (hI : IntsAre vs ns) : Els (hid [] h) [.list (ns.map VP.int)] [.ref a] := by
  have e : ofPy (.list (ns.map PyData.int)) = .list (ofPys (ns.map PyData.int)) := by rw [ofPy]
  rw [e] at w
  cases w with
  | @list _ us _ g _ =>
    obtain ⟨o, h1, _, n, h2⟩ := hL
    rw [g] at h1; cases h1
    have h2 : Data.seq us.toArray 0 = Data.seq vs.toArray n := h2
    injection h2 with h2 _
    rw [h2] at g
    exact .cons ⟨a, vs.toArray, 0, rfl, hideAll_get [] g (fun m => nomatch m), els_of_ints hI⟩ .nil
theorem wld_of {p : Program} {loose : List Str} {mean : ExcName → Option Value} {mg mb : Str → Option Value} {h : Heap} (T : Top p loose mean mg mb h) (h1 : recsOf p = defs) (h2 : valOf p "ORIGIN" = some (.int 0))
    (h3 : (boots.all fun q => !(startupNames ++ loose ++ (recsOf p).map (·.name) ++ (litsOf p).map (·.1) ++ (clssOf p loose).map (·.name)).contains q.1) = true) (h4 : (boots.all fun q => bootBuiltins q.1 == some q.2) = true) : Wld mg mb h where
  g := T.g
  b := T.b
  lim := T.nolimit
  fn := fun d hd => T.fn d (h1 ▸ hd)
  origin := by
    obtain ⟨v, e, r⟩ := T.const _ _ h2
    have := r {}
    cases this with
    | int i t => exact ⟨t, e⟩
  boot := fun q hq => by
    have n := List.all_eq_true.mp h3 q hq
    have e := List.all_eq_true.mp h4 q hq
    simp only [Bool.not_eq_true', List.contains_eq_mem, decide_eq_false_iff_not, List.mem_append, not_or] at n
    refine ⟨T.free _ n.1.1.1.1 n.1.1.1.2 n.1.1.2 n.1.2 n.2, ?_⟩
    rw [T.builtins]
    · simpa using e
    · simp only [boots, List.mem_cons, List.not_mem_nil, or_false] at hq
      rcases hq with rfl | rfl | rfl | rfl | rfl | rfl | rfl | rfl | rfl <;> decide +kernel
theorem room_caller : Room 6 callerA := ⟨rfl, by decide +kernel, by decide +kernel⟩

end
end Mine
open PySem PySem.W PyProof.Rows
set_option maxRecDepth 100000 in
set_option maxHeartbeats 8000000 in
theorem PySem.Challenge.cw_sz0102_01_holds : PySem.Challenge.rw_sz0102_01.Holds := by
  w_on; o_law; k_head; (case hw => w_witness2)
  k_fill
  intro w s₀ s₁ mg mb G Y fa o pm cd doc dV kV ho hd hcd hD hmg hg args vals as hpre hlay hrd hwl hlo
  refine Ground.open G ?_
  intro T B D TE TW
  wrow_args hpre hlay hrd hwl hlo
  all_goals (
    rename_i hL _ w1 _ hI _ hlen _
    have W : Mine.Wld mg mb s₁.heap := Mine.wld_of T (by kernel_rfl) (by kernel_rfl) (by decide +kernel) (by decide +kernel)
    refine enter_call ?_
    refine Mine.law_ok (k := 0) _ ?_ s₁ callerA [] fa _ _ W hmg Mine.room_caller (fun a m => nomatch m) (Mine.els_of_well w1 hL hI) fun v s' ks hv => ?_
    · omega
    · have hv : v = .bool true := hv
      subst hv
      obtain ⟨h', tk, rfl, kp⟩ := ks
      refine ⟨.inl ⟨.bool true, .bool true, [], rfl, fun _ => rfl, .bool true, ?_, fun _ => ⟨.nil, fun _ m => nomatch m⟩⟩, .of_keep kp, rfl, ?_⟩
      · with_unfolding_all rfl
      · exact .of_eq hg)
