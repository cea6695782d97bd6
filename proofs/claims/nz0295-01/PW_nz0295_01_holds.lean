import PyProof.Rows.All
import Wide.All
import OpenK.AllK
import Wide.FinOn
import PySem.Challenge.RW_nz0295_01

section
open PySem PySem.W PySem.Calls PyProof.Rows PySem.Spec
set_option Elab.async false
set_option linter.unusedVariables false
set_option maxRecDepth 100000
namespace Mine

/-- the frame at hand -/
structure Fx where
  prog : Program
  w : World
  A : Around
  env : Env
  h0 : Heap
  exc : Value → Heap → Prop := fun _ _ => False
  pas : ∀ (E : Value → Shared → Prop) (s : Shared) (e : Value), exc e s.heap → (∀ e' h' tk, exc e' h' → E e' { s with heap := h', toks := tk }) → notedBy (model prog w) A env (cameBackBy (model prog w) A env E) e s := by exact fun _ _ _ x => x.elim

abbrev Fx.M (X : Fx) : Model := model X.prog X.w

/-- what a value is said to be, at the heap where it is met -/
inductive Sp where
  | pl (P : Value → Prop)
  | hp (P : Value → Heap → Prop) (mono : ∀ v h h', h.StaysIn h' → P v h → P v h')
  | nw (P : Obj → Prop)

def Sp.Is : Sp → Heap → Value → Heap → Prop
  | .pl P, _, v, _ => P v
  | .hp P _, _, v, h' => P v h'
  | .nw P, h, v, h' => ∃ a o, v = .ref a ∧ h.get? a = none ∧ h'.get? a = some o ∧ P o

theorem stays_refl (h : Heap) : h.StaysIn h := fun _ _ e => e
theorem stays_trans {a b c : Heap} (x : a.StaysIn b) (y : b.StaysIn c) : a.StaysIn c := fun _ _ e => y _ _ (x _ _ e)
theorem none_of_stays {h h1 : Heap} {a : Addr} (k : h.StaysIn h1) (e : h1.get? a = none) : h.get? a = none := by
  cases q : h.get? a with
  | none => rfl
  | some o => rw [k _ _ q] at e; cases e

theorem Sp.wk {sp : Sp} {h h1 h2 h' : Heap} {v : Value} (k1 : h.StaysIn h1) (k2 : h2.StaysIn h') (x : sp.Is h1 v h2) : sp.Is h v h' := by
  cases sp with
  | pl P => exact x
  | hp P mono => exact mono _ _ _ k2 x
  | nw P => obtain ⟨a, o, e, e1, e2, e3⟩ := x; exact ⟨a, o, e, none_of_stays k1 e1, k2 _ _ e2, e3⟩

/-- a tree that leaves all that stands as it is -/
def Rn {α : Type} (X : Fx) (S : Heap → Prop) (t : Sem α) (V : Heap → α → Heap → Prop) : Prop :=
  ∀ (Q : α → Shared → Prop) (E : Value → Shared → Prop) (s : Shared), S s.heap →
    (∀ v h' tk, s.heap.StaysIn h' → V s.heap v h' → Q v { s with heap := h', toks := tk }) → wpAny X.M X.A t Q E s

structure St (X : Fx) (m : Str → Option Value) (N : List (Addr × Obj)) (h : Heap) : Prop where
  fr : Fr X.h0 X.env.locals h m
  nw : News X.h0 X.env.locals h N
  nd : (N.map (·.1)).Nodup

theorem St.stay {X : Fx} {m : Str → Option Value} {N : List (Addr × Obj)} {h h' : Heap} (S : St X m N h) (k : h.StaysIn h') : St X m N h' :=
  ⟨⟨S.fr.ns.keeps k, fun b o e => k _ _ (S.fr.keep b o e), S.fr.above⟩, fun p hp => ⟨k _ _ (S.nw p hp).1, (S.nw p hp).2⟩, S.nd⟩
theorem St.base {X : Fx} {m : Str → Option Value} {N : List (Addr × Obj)} {h : Heap} (S : St X m N h) : X.h0.StaysIn h := S.fr.keep
theorem St.get {X : Fx} {m : Str → Option Value} {N : List (Addr × Obj)} {h : Heap} {a : Addr} {o : Obj} (S : St X m N h) (hm : (a, o) ∈ N) : h.get? a = some o := (S.nw _ hm).1

abbrev Ev (X : Fx) (m : Str → Option Value) (N : List (Addr × Obj)) (e : Expr) (sp : Sp) : Prop := Rn X (St X m N) (eval e X.env) sp.Is
abbrev Ts (X : Fx) (m : Str → Option Value) (N : List (Addr × Obj)) (e : Expr) (b : Bool) : Prop := Rn X (St X m N) (isTrue e X.env (eval e X.env)) (fun _ v _ => v = b)

abbrev pI (i : Int) : Value → Prop := fun v => ∃ t, v = .int i t
abbrev pB (b : Bool) : Value → Prop := fun v => v = .bool b
abbrev pT (x : Str) : Value → Prop := fun v => ∃ t, v = .str x t
abbrev pY (b : Array UInt8) : Value → Prop := fun v => ∃ t, v = .bytes b t
abbrev sI (i : Int) : Sp := .pl (pI i)
abbrev sB (b : Bool) : Sp := .pl (pB b)
abbrev sT (x : Str) : Sp := .pl (pT x)
abbrev sY (b : Array UInt8) : Sp := .pl (pY b)
abbrev sV (v : Value) : Sp := .pl (fun u => u = v)

section
variable {X : Fx} {α β : Type} {S : Heap → Prop} {m : Str → Option Value} {N : List (Addr × Obj)}

theorem Rn.mono {t : Sem α} {V V' : Heap → α → Heap → Prop} (h : Rn X S t V) (k : ∀ h v h', S h → h.StaysIn h' → V h v h' → V' h v h') : Rn X S t V' :=
  fun Q E s hs q => h Q E s hs fun v h' tk st hv => q v h' tk st (k _ _ _ hs st hv)
theorem Rn.pre {S' : Heap → Prop} {t : Sem α} {V : Heap → α → Heap → Prop} (h : Rn X S t V) (k : ∀ h, S' h → S h) : Rn X S' t V :=
  fun Q E s hs q => h Q E s (k _ hs) q
theorem Rn.pure {a : α} {V : Heap → α → Heap → Prop} (h : ∀ h, S h → V h a h) : Rn X S (Pure.pure a : Sem α) V :=
  fun _ _ s hs q => wpAny_pure (q _ _ s.toks (stays_refl _) (h _ hs))
/-- the rest from any state -/
theorem Rn.use {t : Sem α} {V : Heap → α → Heap → Prop} {Q : α → Shared → Prop} {E : Value → Shared → Prop} {s : Shared} (h : Rn X S t V) (hs : S s.heap)
    (q : ∀ v h' tk, s.heap.StaysIn h' → V s.heap v h' → Q v { s with heap := h', toks := tk }) : wpAny X.M X.A t Q E s := h Q E s hs q
/-- two in a row: the second where the first has ended -/
theorem Rn.seq {t : Sem α} {V : Heap → α → Heap → Prop} {Q : β → Shared → Prop} {E : Value → Shared → Prop} {s : Shared} {W : Heap → β → Heap → Prop} {f : α → Sem β}
    (h : Rn X S t V) (hs : S s.heap) (g : ∀ v h', s.heap.StaysIn h' → V s.heap v h' → Rn X (· = h') (f v) W)
    (q : ∀ v u h1 h' tk, s.heap.StaysIn h1 → h1.StaysIn h' → V s.heap v h1 → W h1 u h' → Q u { s with heap := h', toks := tk }) :
    wpAny X.M X.A t (fun v s₁ => wpAny X.M X.A (f v) Q E s₁) E s :=
  h _ _ s hs fun v h' tk st hv => g v h' st hv _ _ _ rfl fun u h2 tk2 st2 hu => q v u h' h2 tk2 st st2 hv hu

/-- a binary operation on plain values -/
def Op2 (X : Fx) (op : Operator) (P1 P2 P3 : Value → Prop) : Prop := ∀ a b, P1 a → P2 b → Rn X (fun _ => True) (binaryOp op a b) (fun _ v _ => P3 v)
def Cm2 (X : Fx) (op : CmpOp) (P1 P2 : Value → Prop) (b : Bool) : Prop := ∀ x y, P1 x → P2 y → Rn X (fun _ => True) (compareOp op x y) (fun _ v _ => v = .bool b)

theorem Ev.bin {l r : Expr} {op : Operator} {pos : Pos} {P1 P2 P3 : Value → Prop} (hl : Ev X m N l (.pl P1)) (hr : Ev X m N r (.pl P2)) (ho : Op2 X op P1 P2 P3) : Ev X m N (.BinOp l op r pos) (.pl P3) := by
  intro Q E s hs q
  refine wpAny_BinOp (hl _ _ s hs fun a h1 tk1 st1 ha => hr _ _ _ (hs.stay st1) fun b h2 tk2 st2 hb => ho a b ha hb _ _ _ trivial fun v h3 tk3 st3 hv => ?_)
  exact q v h3 tk3 (stays_trans (stays_trans st1 st2) st3) hv

theorem Ev.cmp {l r : Expr} {op : CmpOp} {pos : Pos} {P1 P2 : Value → Prop} {b : Bool} (hl : Ev X m N l (.pl P1)) (hr : Ev X m N r (.pl P2)) (ho : Cm2 X op P1 P2 b)
    (hm : behindInMarks op r = false := by with_unfolding_all rfl) : Ev X m N (.Compare l [op] [r] pos) (sB b) := by
  intro Q E s hs q
  refine wpAny_Compare1 (hl _ _ s hs fun a h1 tk1 st1 ha => hr _ _ _ (hs.stay st1) fun b h2 tk2 st2 hb => ho a b ha hb _ _ _ trivial fun v h3 tk3 st3 hv => ?_) hm
  exact q v h3 tk3 (stays_trans (stays_trans st1 st2) st3) hv
theorem Ts.cmp {l r : Expr} {op : CmpOp} {pos : Pos} {P1 P2 : Value → Prop} {b : Bool} (hl : Ev X m N l (.pl P1)) (hr : Ev X m N r (.pl P2)) (ho : Cm2 X op P1 P2 b)
    (hm : behindInMarks op r = false := by with_unfolding_all rfl) : Ts X m N (.Compare l [op] [r] pos) b := by
  intro Q E s hs q
  refine wpAny_isTrue_Compare1 (hl _ _ s hs fun a h1 tk1 st1 ha => hr _ _ _ (hs.stay st1) fun b h2 tk2 st2 hb => ho a b ha hb _ _ _ trivial fun v h3 tk3 st3 hv => ?_) hm
  subst hv
  exact wpAny_truthy_bool (q _ h3 tk3 (stays_trans (stays_trans st1 st2) st3) rfl)

theorem Ev.int {i : Int} {k : Nat} {pos : Pos} : Ev X m N (.Constant (.int i) k pos) (sI i) :=
  fun _ _ s _ q => wpAny_Constant_int (q _ s.heap _ (stays_refl _) ⟨_, rfl⟩)
theorem Ev.bool {b : Bool} {k : Nat} {pos : Pos} : Ev X m N (.Constant (.bool b) k pos) (sB b) :=
  fun _ _ s _ q => Constant_bool (q _ s.heap s.toks (stays_refl _) rfl)
theorem Ev.str {x : Str} {k : Nat} {pos : Pos} : Ev X m N (.Constant (.str x) k pos) (sT x) :=
  fun _ _ s _ q => Calls.Constant_str (q _ s.heap _ (stays_refl _) ⟨_, rfl⟩)

/-- a name of the frame's -/
theorem Ev.name {x : Str} {pos : Pos} {v : Value} (hv : m x = some v) (hk : X.env.scope.kind = .function := by rfl) (hl : X.env.kindOf x = some .local := by rfl)
    (hd : (x == ("__debug__" : Str)) = false := by decide) : Ev X m N (.Name x pos) (sV v) :=
  fun _ _ s hs q => wpAny_Name (wpAny_loadName_local hk hl hs.fr.ns hv (q _ s.heap s.toks (stays_refl _) rfl)) hd
theorem Ev.wk {e : Expr} {P P' : Value → Prop} (h : Ev X m N e (.pl P)) (k : ∀ v, P v → P' v) : Ev X m N e (.pl P') := Rn.mono h fun _ v _ _ _ => k v
theorem Ev.nameI {x : Str} {pos : Pos} {i : Int} {t : Tok} (hv : m x = some (.int i t)) (hk : X.env.scope.kind = .function := by rfl) (hl : X.env.kindOf x = some .local := by rfl)
    (hd : (x == ("__debug__" : Str)) = false := by decide) : Ev X m N (.Name x pos) (sI i) := (Ev.name hv hk hl hd).wk fun _ e => ⟨_, e⟩
end

/-- how deep a call may still go -/
structure Lv (A : Around) (n : Nat) : Prop where
  hd : A.handled = none
  dp : A.depth + n < recursionLimit
  un : A.units + 10 * n < cLine
theorem Lv.deeper {A : Around} {n : Nat} {env : Env} (l : Lv A (n + 1)) : Lv (A.deeper env) n :=
  ⟨l.hd, by show A.depth + 1 + n < _; have := l.dp; omega, by show A.units + 3 + 10 * n < _; have := l.un; omega⟩
theorem Lv.in1 {A : Around} {n : Nat} (l : Lv A (n + 1)) : Lv A.in1 n :=
  ⟨l.hd, by show A.depth + n < _; have := l.dp; omega, by show A.units + 1 + 10 * n < _; have := l.un; omega⟩
theorem Lv.le {A : Around} {n k : Nat} (l : Lv A n) (h : k ≤ n) : Lv A k := ⟨l.hd, by have := l.dp; omega, by have := l.un; omega⟩

abbrev Zt := Flow → (Str → Option Value) → List (Addr × Obj) → Heap → Prop
/-- statements: how they end -/
def Go (X : Fx) (m : Str → Option Value) (N : List (Addr × Obj)) (ss : List Stmt) (Z : Zt) : Prop :=
  ∀ (Q : Flow → Shared → Prop) (E : Value → Shared → Prop) (s : Shared), St X m N s.heap →
    (∀ fl m' N' h' tk, St X m' N' h' → Z fl m' N' h' → Q fl { s with heap := h', toks := tk }) → (∀ e h' tk, X.exc e h' → E e { s with heap := h', toks := tk }) → wpAny X.M X.A (execs ss X.env) Q E s
def seqZ (X : Fx) (rest : List Stmt) (Z : Zt) : Zt := fun fl m N h => match fl with
  | .next => Go X m N rest Z
  | fl => Z fl m N h
def upd (m : Str → Option Value) (x : Str) (v : Value) : Str → Option Value := fun y => if y = x then some v else m y
theorem upd_self {m : Str → Option Value} {x : Str} {v : Value} : upd m x v x = some v := if_pos rfl
theorem upd_ne {m : Str → Option Value} {x y : Str} {v : Value} {o : Option Value} (h : m y = o) (ne : decide (y = x) = false := by rfl) : upd m x v y = o := by
  unfold upd; rw [if_neg (of_decide_eq_false ne)]; exact h

/-- a call of a def of the text's -/
def Fn (prog : Program) (w : World) (W : Heap → Prop) (lv : Nat) (f : Addr) (args : List Value) (sp : Sp) : Prop :=
  ∀ (A : Around) (s : Shared) (R : Result → Shared → Prop), Lv A lv → W s.heap →
    (∀ v h' tk, s.heap.StaysIn h' → sp.Is s.heap v h' → R (.ok (.ret v)) { s with heap := h', toks := tk }) → codeAny (model prog w) A (.call (.ref f) ⟨args, []⟩) R s
/-- how a body ends -/
def retZ (X : Fx) (sp : Sp) : Zt := fun fl _ _ h => match fl with
  | .ret v => sp.Is X.h0 v h
  | .next => sp.Is X.h0 .none h
  | _ => False

section
variable {X : Fx} {m : Str → Option Value} {N : List (Addr × Obj)} {Z : Zt} {rest : List Stmt}

theorem Go.nil (h : ∀ h, St X m N h → Z .next m N h) : Go X m N [] Z := fun _ _ s hs q qe => wpAny_execs_nil (q _ _ _ s.heap s.toks hs (h _ hs))
theorem Go.nilSeq {r : List Stmt} (h : Go X m N r Z) : Go X m N [] (seqZ X r Z) := Go.nil fun _ _ => h
theorem Go.ret {e : Expr} {pos : Pos} {sp : Sp} (he : Ev X m N e sp) (h : ∀ h v h', St X m N h → h.StaysIn h' → sp.Is h v h' → Z (.ret v) m N h') : Go X m N (.Return (some e) pos :: rest) Z :=
  fun _ _ s hs q qe => wpAny_execs_cons (wpAny_Return_some (he _ _ s hs fun v h' tk st hv => q _ m N h' tk (hs.stay st) (h _ _ _ hs st hv)))
theorem Go.retZ {e : Expr} {pos : Pos} {sp : Sp} (he : Ev X m N e sp) : Go X m N (.Return (some e) pos :: rest) (retZ X sp) :=
  Go.ret he fun h v h' hs st hv => Sp.wk hs.base (stays_refl _) hv
theorem St.store {h h' : Heap} {x : Str} {v : Value} (S : St X m N h) (hn : h'.Ns X.env.locals (fun y => if y = x then some v else m y)) (hs : Heap.SameBut X.env.locals h h') : St X (upd m x v) N h' :=
  ⟨S.fr.set hn hs, S.nw.set hs, S.nd⟩
theorem St.cons {h : Heap} {a : Addr} {o : Obj} (S : St X m N h) (ho : h.get? a = some o) (h1 : a ≠ X.env.locals) (h2 : X.h0.get? a = none) (h3 : ∀ p ∈ N, p.1 ≠ a) : St X m ((a, o) :: N) h :=
  ⟨S.fr, fun p hp => (List.mem_cons.mp hp).elim (fun e => by subst e; exact ⟨ho, h1, h2⟩) (S.nw p), by
    rw [List.map_cons]
    refine List.nodup_cons.mpr ⟨fun hm => ?_, S.nd⟩
    obtain ⟨p, hp, e⟩ := List.mem_map.mp hm
    exact h3 p hp e⟩
theorem St.fresh {h h' : Heap} {a : Addr} {o : Obj} (S : St X m N h) (st : h.StaysIn h') (hn : h.get? a = none) (ho : h'.get? a = some o) : St X m ((a, o) :: N) h' := by
  obtain ⟨oL, _, _, hL, _⟩ := S.fr.ns
  refine (S.stay st).cons ho (fun e => ?_) (none_of_stays S.base hn) fun p hp e => ?_
  · rw [← e, hn] at hL; cases hL
  · have := S.get (a := p.1) (o := p.2) hp
    rw [e, hn] at this; cases this

theorem Go.assign {x : Str} {p1 p2 : Pos} {e : Expr} {P : Value → Prop} (he : Ev X m N e (.pl P)) (h : ∀ v, P v → Go X (upd m x v) N rest Z)
    (hs : swapsWith e (some (.Name x p1)) p2.line X.env = pure false := by rfl) (hl : X.env.kindOf x = some .local := by rfl)
    (hp : (X.env.scope.kind == .class || (X.env.scope.kind == .module && X.env.locals != X.env.globals)) = false := by rfl) : Go X m N (.Assign [.Name x p1] e p2 :: rest) Z := by
  intro Q E s hs' q qe
  refine wpAny_execs_cons (wpAny_Assign_Name (he _ _ s hs' fun v h1 tk1 st1 hv => ?_) hs)
  refine wpAny_storeName_local hl (hs'.stay st1).fr.ns (fun h2 hn hsb => ?_) hp
  exact h v hv _ _ _ ((hs'.stay st1).store hn hsb) q qe
theorem Go.assignN {x : Str} {p1 p2 : Pos} {e : Expr} {P : Obj → Prop} (he : Ev X m N e (.nw P)) (h : ∀ a o, P o → Go X (upd m x (.ref a)) ((a, o) :: N) rest Z)
    (hs : swapsWith e (some (.Name x p1)) p2.line X.env = pure false := by rfl) (hl : X.env.kindOf x = some .local := by rfl)
    (hp : (X.env.scope.kind == .class || (X.env.scope.kind == .module && X.env.locals != X.env.globals)) = false := by rfl) : Go X m N (.Assign [.Name x p1] e p2 :: rest) Z := by
  intro Q E s hs' q qe
  refine wpAny_execs_cons (wpAny_Assign_Name (he _ _ s hs' fun v h1 tk1 st1 hv => ?_) hs)
  obtain ⟨a, o, rfl, e1, e2, e3⟩ := hv
  have S1 := hs'.fresh st1 e1 e2
  refine wpAny_storeName_local hl S1.fr.ns (fun h2 hn hsb => ?_) hp
  exact h a o e3 _ _ _ (S1.store hn hsb) q qe
theorem Go.run {ss : List Stmt} {Q : Flow → Shared → Prop} {E : Value → Shared → Prop} {s : Shared} (g : Go X m N ss (seqZ X rest Z)) (hs : St X m N s.heap)
    (q : ∀ fl m' N' h' tk, St X m' N' h' → Z fl m' N' h' → Q fl { s with heap := h', toks := tk }) (qe : ∀ e h' tk, X.exc e h' → E e { s with heap := h', toks := tk }) :
    wpAny X.M X.A (execs ss X.env) (fun f s' => match f with | .next => wpAny X.M X.A (execs rest X.env) Q E s' | f => Q f s') E s :=
  g _ _ s hs (fun fl m' N' h' tk hS hZ => by
    cases fl with
    | next => exact hZ _ _ _ hS q qe
    | brk => exact q _ _ _ _ _ hS hZ
    | cont => exact q _ _ _ _ _ hS hZ
    | ret v => exact q _ _ _ _ _ hS hZ) qe
theorem Go.ite {t : Expr} {body orelse : List Stmt} {pos : Pos} {b : Bool} (ht : Ts X m N t b) (h1 : b = true → Go X m N body (seqZ X rest Z)) (h2 : b = false → Go X m N orelse (seqZ X rest Z)) :
    Go X m N (.If t body orelse pos :: rest) Z := by
  intro Q E s hs q qe
  refine wpAny_execs_cons (wpAny_If (ht _ _ s hs fun v h' tk st hv => ?_))
  subst hv
  cases v with
  | true => exact (h1 rfl).run (hs.stay st) q qe
  | false => exact (h2 rfl).run (hs.stay st) q qe
end

section
variable {prog : Program} {w : World} {W : Heap → Prop} {lv : Nat} {f : Addr} {args : List Value} {sp : Sp}
theorem Fn.intro {K : Frag} {oc : Value} {od : Option Addr} {osl : Array (Option Value)} {fd : FuncData} {b0 : Stmt} {bs : List Stmt} {binds : List (Str × Value)}
    (ho : K.lookup f = some ⟨oc, od, .func fd, osl⟩) (hb : fd.body = .stmts (b0 :: bs)) (hcd : codeIn K fd.code fd.qualname = true) (hW : ∀ h, W h → K.In h ∧ h.NoLimit)
    (hbind : bindArgs fd ⟨args, []⟩ = pure binds) (hloc : (binds.all fun x => decide (fd.scope.names.lookup x.1 = some .local)) = true)
    (hcell : ∀ x ∈ fd.scope.names, x.2 ≠ .cell)
    (h : ∀ A h0 L, Lv A lv → W h0 → Go { prog := prog, w := w, A := A, env := callEnv fd L f, h0 := h0 } (fun x => binds.reverse.lookup x) [] (b0 :: bs) (retZ { prog := prog, w := w, A := A, env := callEnv fd L f, h0 := h0 } sp))
    (hco : fd.scope.isCoroutine = false := by rfl) (hgen : fd.scope.isGenerator = false := by rfl) (hk : fd.scope.kind = .function := by rfl) : Fn prog w W (lv + 1) f args sp := by
  intro A s R hA hs q
  obtain ⟨X, hl⟩ := hW _ hs
  refine codeAny_call_def (by have := hA.dp; omega) (X _ _ ho) rfl hl (codeRec_of X hcd) hb (BindsTo.of_eq hbind) hcell (fun x hx => of_decide_eq_true (List.all_eq_true.mp hloc x hx)) (fun h1 hns hk1 => ?_) hco hgen hk
  refine h _ s.heap s.heap.objs.size hA.deeper hs _ _ _ ⟨⟨hns, hk1, Nat.le_refl _⟩, (fun _ hp => nomatch hp), List.nodup_nil⟩ (fun fl m' N' h' tk hS hZ => ?_) fun _ _ _ x => x.elim
  cases fl with
  | ret v => exact q v h' tk hS.base hZ
  | next => exact q .none h' tk hS.base hZ
  | brk => exact hZ.elim
  | cont => exact hZ.elim
end
end Mine
end

section
open PySem PySem.W PySem.Calls PyProof.Rows PySem.Spec
set_option Elab.async false
set_option linter.unusedVariables false
set_option maxRecDepth 100000
namespace Mine
section
variable {X : Fx} {m : Str → Option Value} {N : List (Addr × Obj)}

theorem Ts.mono {e : Expr} {b c : Bool} (h : Ts X m N e b) (k : b = c) : Ts X m N e c := k ▸ h
theorem Ev.b {e : Expr} {b c : Bool} (h : Ev X m N e (sB b)) (k : b = c) : Ev X m N e (sB c) := k ▸ h
theorem Ev.i {e : Expr} {b c : Int} (h : Ev X m N e (sI b)) (k : b = c) : Ev X m N e (sI c) := k ▸ h
theorem Ev.t {e : Expr} {b c : Str} (h : Ev X m N e (sT b)) (k : b = c) : Ev X m N e (sT c) := k ▸ h

theorem Ev.cmp2 {l r1 r2 : Expr} {op1 op2 : CmpOp} {pos : Pos} {P1 P2 P3 : Value → Prop} {b c : Bool} (hl : Ev X m N l (.pl P1)) (hr : Ev X m N r1 (.pl P2)) (hr2 : Ev X m N r2 (.pl P3)) (ho : Cm2 X op1 P1 P2 b) (ho2 : Cm2 X op2 P2 P3 c)
    (hm : lastMarks [op1, op2] [r1, r2] = false := by with_unfolding_all rfl) : Ev X m N (.Compare l [op1, op2] [r1, r2] pos) (sB (b && c)) := by
  intro Q E s hs q
  refine Compare_chain (hl _ _ s hs fun a h1 tk1 st1 ha => ?_) hm
  show wpAny X.M X.A (do
    let rv ← holding [a] (eval r1 X.env)
    standAt pos
    let c ← holding [a, rv] (compareOp op1 a rv)
    release [a, rv] [c]
    if ← holding [c, rv] (truthy c) then compareChain pos rv [op2] [eval r2 X.env] else pure c) Q E _
  refine wpAny_bind (wpAny_holding (hr _ _ _ (hs.stay st1) fun b' h2 tk2 st2 hb => wpAny_bind (wpAny_standAt (wpAny_bind (wpAny_holding (ho a b' ha hb _ _ _ trivial fun v h3 tk3 st3 hv => ?_))))))
  subst hv
  refine wpAny_bind (fun Γ p hΓ => ?_)
  rw [Sem.wp_release]
  refine wpAny_bind (wpAny_holding (wpAny_truthy_bool ?_))
  have st := stays_trans (stays_trans st1 st2) st3
  cases b with
  | false => exact wpAny_pure (q _ h3 tk3 st rfl)
  | true =>
    show wpAny X.M X.A (do
      let rv ← holding [b'] (eval r2 X.env)
      standAt pos
      operate [b', rv] (compareOp op2 b' rv)) Q E _
    refine wpAny_bind (wpAny_holding (hr2 _ _ _ (hs.stay st) fun c' h4 tk4 st4 hc => wpAny_bind (wpAny_standAt fun Γ p hΓ => ?_)))
    rw [Sem.wp_operate]
    refine ho2 b' c' hb hc _ _ _ trivial (fun v h5 tk5 st5 hv => ?_) Γ p hΓ
    exact q v h5 tk5 (stays_trans (stays_trans st st4) st5) (by simpa [Sp.Is] using hv)
theorem Ts.cmp2 {l r1 r2 : Expr} {op1 op2 : CmpOp} {pos : Pos} {P1 P2 P3 : Value → Prop} {b c : Bool} (hl : Ev X m N l (.pl P1)) (hr : Ev X m N r1 (.pl P2)) (hr2 : Ev X m N r2 (.pl P3)) (ho : Cm2 X op1 P1 P2 b) (ho2 : Cm2 X op2 P2 P3 c)
    (hm : lastMarks [op1, op2] [r1, r2] = false := by with_unfolding_all rfl) : Ts X m N (.Compare l [op1, op2] [r1, r2] pos) (b && c) := by
  intro Q E s hs q
  refine isTrue_chain (hl _ _ s hs fun a h1 tk1 st1 ha => ?_) hm
  show wpAny X.M X.A (do
    let rv ← holding [a] (eval r1 X.env)
    standAt pos
    let c ← holding [a, rv] (compareOp op1 a rv)
    release [a, rv] [c]
    if ← holding [c, rv] (truthy c) then testChain pos rv [op2] [eval r2 X.env] else pure false) Q E _
  refine wpAny_bind (wpAny_holding (hr _ _ _ (hs.stay st1) fun b' h2 tk2 st2 hb => wpAny_bind (wpAny_standAt (wpAny_bind (wpAny_holding (ho a b' ha hb _ _ _ trivial fun v h3 tk3 st3 hv => ?_))))))
  subst hv
  refine wpAny_bind (fun Γ p hΓ => ?_)
  rw [Sem.wp_release]
  refine wpAny_bind (wpAny_holding (wpAny_truthy_bool ?_))
  have st := stays_trans (stays_trans st1 st2) st3
  cases b with
  | false => exact wpAny_pure (q _ h3 tk3 st rfl)
  | true =>
    show wpAny X.M X.A (do
      let rv ← holding [b'] (eval r2 X.env)
      standAt pos
      let c ← operate [b', rv] (compareOp op2 b' rv)
      holding [c] (truthy c)) Q E _
    refine wpAny_bind (wpAny_holding (hr2 _ _ _ (hs.stay st) fun c' h4 tk4 st4 hc => wpAny_bind (wpAny_standAt (wpAny_bind fun Γ p hΓ => ?_))))
    rw [Sem.wp_operate]
    refine ho2 b' c' hb hc _ _ _ trivial (fun v h5 tk5 st5 hv => ?_) Γ p hΓ
    subst hv
    exact wpAny_holding (wpAny_truthy_bool (q _ h5 tk5 (stays_trans (stays_trans st st4) st5) (by simp)))

theorem Ev.or1 {e : Expr} {op : BoolOp} {pos : Pos} {sp : Sp} (h : Ev X m N e sp) : Ev X m N (.BoolOp op [e] pos) sp := fun Q E s hs q => BoolOp_one (h _ _ s hs q)
theorem Ev.or {e₁ e₂ : Expr} {rest : List Expr} {pos : Pos} {b c : Bool} (h : Ev X m N e₁ (sB b)) (h2 : b = false → Ev X m N (.BoolOp .Or (e₂ :: rest) pos) (sB c)) : Ev X m N (.BoolOp .Or (e₁ :: e₂ :: rest) pos) (sB (b || c)) := by
  intro Q E s hs q
  refine BoolOp_or (h _ _ s hs fun v h1 tk1 st1 hv => ?_)
  have hv' : v = .bool b := hv
  subst hv'
  refine wpAny_truthy_bool ?_
  cases b with
  | true => exact q _ h1 tk1 st1 rfl
  | false => exact h2 rfl _ _ _ (hs.stay st1) fun v h3 tk3 st3 hv => q v h3 tk3 (stays_trans st1 st3) (by simpa [Sp.Is] using hv)
theorem Ev.and {e₁ e₂ : Expr} {rest : List Expr} {pos : Pos} {b c : Bool} (h : Ev X m N e₁ (sB b)) (h2 : b = true → Ev X m N (.BoolOp .And (e₂ :: rest) pos) (sB c)) : Ev X m N (.BoolOp .And (e₁ :: e₂ :: rest) pos) (sB (b && c)) := by
  intro Q E s hs q
  refine BoolOp_and (h _ _ s hs fun v h1 tk1 st1 hv => ?_)
  have hv' : v = .bool b := hv
  subst hv'
  refine wpAny_truthy_bool ?_
  cases b with
  | false => exact q _ h1 tk1 st1 rfl
  | true => exact h2 rfl _ _ _ (hs.stay st1) fun v h3 tk3 st3 hv => q v h3 tk3 (stays_trans st1 st3) (by simpa [Sp.Is] using hv)
theorem Ts.orN {pos : Pos} : Ts X m N (.BoolOp .Or [] pos) false := fun Q E s hs q => isTrue_or_nil (q _ s.heap s.toks (stays_refl _) rfl)
theorem Ts.andN {pos : Pos} : Ts X m N (.BoolOp .And [] pos) true := fun Q E s hs q => isTrue_and_nil (q _ s.heap s.toks (stays_refl _) rfl)
def Tb (X : Fx) (m : Str → Option Value) (N : List (Addr × Obj)) (op : BoolOp) (es : List Expr) (pos : Pos) (b : Bool) : Prop :=
  ∀ whole, Rn X (St X m N) (isTrue (.BoolOp op es pos) X.env whole) (fun _ v _ => v = b)
theorem Tb.orN {pos : Pos} : Tb X m N .Or [] pos false := fun _ Q E s hs q => isTrue_or_nil (q _ s.heap s.toks (stays_refl _) rfl)
theorem Tb.andN {pos : Pos} : Tb X m N .And [] pos true := fun _ Q E s hs q => isTrue_and_nil (q _ s.heap s.toks (stays_refl _) rfl)
theorem Tb.or {x : Expr} {rest : List Expr} {pos : Pos} {b c : Bool} (h : Ts X m N x b) (h2 : b = false → Tb X m N .Or rest pos c) : Tb X m N .Or (x :: rest) pos (b || c) := by
  intro whole Q E s hs q
  refine isTrue_or (h _ _ s hs fun v h1 tk1 st1 hv => ?_)
  subst hv
  cases v with
  | true => exact q _ h1 tk1 st1 rfl
  | false => exact h2 rfl _ _ _ _ (hs.stay st1) fun v h3 tk3 st3 hv => q v h3 tk3 (stays_trans st1 st3) (by simpa using hv)
theorem Tb.and {x : Expr} {rest : List Expr} {pos : Pos} {b c : Bool} (h : Ts X m N x b) (h2 : b = true → Tb X m N .And rest pos c) : Tb X m N .And (x :: rest) pos (b && c) := by
  intro whole Q E s hs q
  refine isTrue_and (h _ _ s hs fun v h1 tk1 st1 hv => ?_)
  subst hv
  cases v with
  | false => exact q _ h1 tk1 st1 rfl
  | true => exact h2 rfl _ _ _ _ (hs.stay st1) fun v h3 tk3 st3 hv => q v h3 tk3 (stays_trans st1 st3) (by simpa using hv)
theorem Ts.tb {op : BoolOp} {es : List Expr} {pos : Pos} {b : Bool} (h : Tb X m N op es pos b) : Ts X m N (.BoolOp op es pos) b := h _
theorem Ts.not {x : Expr} {pos : Pos} {b : Bool} (h : Ts X m N x b) : Ts X m N (.UnaryOp .Not x pos) (!b) := by
  intro Q E s hs q
  exact isTrue_not (h _ _ s hs fun v h1 tk1 st1 hv => q _ h1 tk1 st1 (by rw [hv]))
theorem Ts.plain {e : Expr} {b : Bool} (h : Ev X m N e (sB b)) (he : isTrue e X.env (eval e X.env) = (do let v ← eval e X.env; standAt e.pos; holding [v] (truthy v)) := by rfl) : Ts X m N e b := by
  intro Q E s hs q
  refine isTrue_plain (h _ _ s hs fun v h1 tk1 st1 hv => ?_) he
  have hv' : v = .bool b := hv
  subst hv'
  exact wpAny_truthy_bool (q _ h1 tk1 st1 rfl)
theorem Ev.ife {test body orelse : Expr} {pos : Pos} {b : Bool} {sp : Sp} (ht : Ts X m N test b) (h1 : b = true → Ev X m N body sp) (h2 : b = false → Ev X m N orelse sp) : Ev X m N (.IfExp test body orelse pos) sp := by
  intro Q E s hs q
  refine IfExp_ (ht _ _ s hs fun v h3 tk1 st1 hv => ?_)
  subst hv
  cases v with
  | true => exact h1 rfl _ _ _ (hs.stay st1) fun v h3 tk3 st3 hv => q v h3 tk3 (stays_trans st1 st3) (Sp.wk st1 (stays_refl _) hv)
  | false => exact h2 rfl _ _ _ (hs.stay st1) fun v h3 tk3 st3 hv => q v h3 tk3 (stays_trans st1 st3) (Sp.wk st1 (stays_refl _) hv)
theorem Ev.neg {e : Expr} {pos : Pos} {i : Int} (h : Ev X m N e (sI i)) : Ev X m N (.UnaryOp .USub e pos) (sI (-i)) := by
  intro Q E s hs q
  refine UnaryOp_ (h _ _ s hs fun v h1 tk1 st1 hv => ?_)
  obtain ⟨t, rfl⟩ := hv
  exact neg_int (q _ h1 _ st1 ⟨_, rfl⟩)
theorem Ev.not {e : Expr} {pos : Pos} {b : Bool} (h : Ev X m N e (sB b)) : Ev X m N (.UnaryOp .Not e pos) (sB (!b)) := by
  intro Q E s hs q
  refine UnaryOp_ (h _ _ s hs fun v h1 tk1 st1 hv => ?_)
  have hv' : v = .bool b := hv
  subst hv'
  exact not_of (wpAny_truthy_bool (q _ h1 tk1 st1 rfl))

-- operations on plain values
theorem o_add {i j : Int} : Op2 X .Add (pI i) (pI j) (pI (i + j)) := by
  rintro _ _ ⟨t, rfl⟩ ⟨u, rfl⟩ Q E s _ q; exact add_int (q _ s.heap _ (stays_refl _) ⟨_, rfl⟩)
theorem o_sub {i j : Int} : Op2 X .Sub (pI i) (pI j) (pI (i - j)) := by
  rintro _ _ ⟨t, rfl⟩ ⟨u, rfl⟩ Q E s _ q; exact sub_int (q _ s.heap _ (stays_refl _) ⟨_, rfl⟩)
theorem o_and {i j : Int} : Op2 X .BitAnd (pI i) (pI j) (pI (Builtin.bitAnd i j)) := by
  rintro _ _ ⟨t, rfl⟩ ⟨u, rfl⟩ Q E s _ q; exact and_int (q _ s.heap _ (stays_refl _) ⟨_, rfl⟩)
theorem o_shr {i j : Int} (h : 0 ≤ j) : Op2 X .RShift (pI i) (pI j) (pI (i.fdiv (2 ^ j.toNat))) := by
  rintro _ _ ⟨t, rfl⟩ ⟨u, rfl⟩ Q E s _ q; exact rshift_int h (q _ s.heap _ (stays_refl _) ⟨_, rfl⟩)
theorem o_shl {i j : Int} (h : 0 ≤ j) (h2 : j ≤ 1000000) (h3 : i.natAbs < 2 ^ 64) : Op2 X .LShift (pI i) (pI j) (pI (i * 2 ^ j.toNat)) := by
  rintro _ _ ⟨t, rfl⟩ ⟨u, rfl⟩ Q E s _ q; exact lshift_int_small h h2 h3 (q _ s.heap _ (stays_refl _) ⟨_, rfl⟩)
theorem o_cat {x y : Str} (h : x.length + y.length ≤ sizeLine) : Op2 X .Add (pT x) (pT y) (pT (x ++ y)) := by
  rintro _ _ ⟨t, rfl⟩ ⟨u, rfl⟩ Q E s _ q; exact SBL.add (fun t' k _ => q _ s.heap k (stays_refl _) ⟨_, rfl⟩) h
theorem c_le {i j : Int} : Cm2 X .LtE (pI i) (pI j) (decide (i ≤ j)) := by
  rintro _ _ ⟨t, rfl⟩ ⟨u, rfl⟩ Q E s _ q; exact le_int (q _ s.heap s.toks (stays_refl _) rfl)
theorem c_lt {i j : Int} : Cm2 X .Lt (pI i) (pI j) (decide (i < j)) := by
  rintro _ _ ⟨t, rfl⟩ ⟨u, rfl⟩ Q E s _ q; exact lt_int (q _ s.heap s.toks (stays_refl _) rfl)
theorem c_gt {i j : Int} : Cm2 X .Gt (pI i) (pI j) (decide (i > j)) := by
  rintro _ _ ⟨t, rfl⟩ ⟨u, rfl⟩ Q E s _ q; exact gt_int (q _ s.heap s.toks (stays_refl _) rfl)
theorem c_ge {i j : Int} : Cm2 X .GtE (pI i) (pI j) (decide (i ≥ j)) := by
  rintro _ _ ⟨t, rfl⟩ ⟨u, rfl⟩ Q E s _ q; exact ge_int (q _ s.heap s.toks (stays_refl _) rfl)
theorem c_eq {i j : Int} : Cm2 X .Eq (pI i) (pI j) (decide (i = j)) := by
  rintro _ _ ⟨t, rfl⟩ ⟨u, rfl⟩ Q E s _ q; exact eq_int (q _ s.heap s.toks (stays_refl _) rfl)
theorem c_ne {i j : Int} : Cm2 X .NotEq (pI i) (pI j) (decide (i ≠ j)) := by
  rintro _ _ ⟨t, rfl⟩ ⟨u, rfl⟩ Q E s _ q; exact ne_int (q _ s.heap s.toks (stays_refl _) (congrArg Value.bool (by rw [Bool.eq_iff_iff]; simp)))
theorem c_eqT {x y : Str} : Cm2 X .Eq (pT x) (pT y) (x == y) := by
  rintro _ _ ⟨t, rfl⟩ ⟨u, rfl⟩ Q E s _ q; exact eq_str (q _ s.heap s.toks (stays_refl _) rfl)
theorem c_neT {x y : Str} : Cm2 X .NotEq (pT x) (pT y) (x != y) := by
  rintro _ _ ⟨t, rfl⟩ ⟨u, rfl⟩ Q E s _ q; exact ne_str (q _ s.heap s.toks (stays_refl _) rfl)
theorem c_leT {x y : Str} : Cm2 X .LtE (pT x) (pT y) (!decide (y.cps.toList < x.cps.toList)) := by
  rintro _ _ ⟨t, rfl⟩ ⟨u, rfl⟩ Q E s _ q; exact P.le_str (q _ s.heap s.toks (stays_refl _) rfl)
theorem c_inT {x y : Str} : Cm2 X .In (pT y) (pT x) (!(Builtin.Str.occurrences x y 0 x.length 1).isEmpty) := by
  rintro _ _ ⟨t, rfl⟩ ⟨u, rfl⟩ Q E s _ q; exact in_str (q _ s.heap s.toks (stays_refl _) rfl)

/-- arguments, one after another -/
def Evs (X : Fx) (m : Str → Option Value) (N : List (Addr × Obj)) : List Expr → List Sp → Prop
  | [], [] => True
  | e :: es, sp :: sps => Ev X m N e sp ∧ Evs X m N es sps
  | _, _ => False
def AllIs : List Sp → Heap → List Value → Heap → Prop
  | [], _, [], _ => True
  | sp :: sps, h, v :: vs, h' => sp.Is h v h' ∧ AllIs sps h vs h'
  | _, _, _, _ => False
theorem AllIs.wk : ∀ {sps : List Sp} {h h1 h2 h' : Heap} {vs : List Value}, h.StaysIn h1 → h2.StaysIn h' → AllIs sps h1 vs h2 → AllIs sps h vs h'
  | [], _, _, _, _, [], _, _, x => x
  | _ :: _, _, _, _, _, _ :: _, k1, k2, x => ⟨Sp.wk k1 k2 x.1, AllIs.wk k1 k2 x.2⟩
  | [], _, _, _, _, _ :: _, _, _, x => x.elim
  | _ :: _, _, _, _, _, [], _, _, x => x.elim
def plainE : Expr → Bool
  | .Starred .. => false
  | _ => true
theorem starEach_plain {env : Env} {pos : Pos} : ∀ {es : List Expr}, es.all plainE = true → backTo pos (starEach es env) = es.map fun e => (false, eval e env)
  | [], _ => rfl
  | e :: es, h => by
    rw [List.all_cons, Bool.and_eq_true] at h
    have ih := starEach_plain (env := env) (pos := pos) h.2
    cases e <;> first | (exact absurd h.1 Bool.false_ne_true) | (show (false, eval _ env) :: backTo pos (starEach es env) = _; rw [ih]; rfl)
theorem spliced_all : ∀ {es : List Expr} {sps : List Sp}, Evs X m N es sps → Rn X (St X m N) (spliced (es.map fun e => (false, eval e X.env))) (AllIs sps)
  | [], [], _ => fun Q E s hs q => Calls.spliced_nil (q _ s.heap s.toks (stays_refl _) trivial)
  | e :: es, sp :: sps, h => fun Q E s hs q => Calls.spliced_cons (h.1 _ _ s hs fun v h1 tk1 st1 hv => spliced_all h.2 _ _ _ (hs.stay st1) fun vs h2 tk2 st2 hvs =>
      q _ h2 tk2 (stays_trans st1 st2) ⟨Sp.wk (stays_refl _) st2 hv, AllIs.wk st1 (stays_refl _) hvs⟩)
  | [], _ :: _, h => h.elim
  | _ :: _, [], h => h.elim
theorem spliced_pos {es : List Expr} {sps : List Sp} {pos : Pos} (h : Evs X m N es sps) (hp : es.all plainE = true) : Rn X (St X m N) (spliced (backTo pos (starEach es X.env))) (AllIs sps) := by
  rw [starEach_plain hp]; exact spliced_all h
end
end Mine
end

section
open PySem PySem.W PySem.Calls PyProof.Rows PySem.Spec
set_option Elab.async false
set_option linter.unusedVariables false
set_option maxRecDepth 100000
namespace Mine
/-- what stands at the top -/
structure Wd (K : Frag) (mg mb : Str → Option Value) (h : Heap) : Prop where
  ki : K.In h
  g : h.Ns mainGlobals mg
  b : h.Ns builtinsNs mb
  nl : h.NoLimit
  bt : ∀ x : Str, x ≠ "__name__" → mb x = bootBuiltins x
theorem Wd.kn {K : Frag} {mg mb : Str → Option Value} (h : Heap) (x : Wd K mg mb h) : K.In h ∧ h.NoLimit := ⟨x.ki, x.nl⟩
theorem Wd.stay {K : Frag} {mg mb : Str → Option Value} {h h' : Heap} (x : Wd K mg mb h) (k : h.StaysIn h') : Wd K mg mb h' :=
  ⟨x.ki.keeps k, x.g.keeps k, x.b.keeps k, x.nl.keeps k, x.bt⟩

section
variable {X : Fx} {m : Str → Option Value} {N : List (Addr × Obj)} {K : Frag} {mg mb : Str → Option Value}

theorem Ev.glob {x : Str} {pos : Pos} {v : Value} (hW : Wd K mg mb X.h0) (e : nsIn K mainGlobals x = some (some v)) (hk : X.env.scope.kind = .function := by rfl) (hl : X.env.kindOf x = some .globalImplicit := by rfl)
    (hg : X.env.globals = mainGlobals := by rfl) (hd : (x == ("__debug__" : Str)) = false := by decide) : Ev X m N (.Name x pos) (sV v) := by
  intro Q E s hs q
  refine wpAny_Name ?_ hd
  unfold loadName
  simp only [Env.blockKind, hk, hl, ScopeKind.isAnnotationScope, Bool.false_and, Bool.false_eq_true, if_false]
  exact loadGlobal_global (by rw [hg]; exact hW.g.keeps hs.base) (mg_of hW.ki hW.g e) (q _ s.heap s.toks (stays_refl _) rfl)
theorem Ev.blt {x : Str} {pos : Pos} {v : Value} (hW : Wd K mg mb X.h0) (e : nsIn K mainGlobals x = some none) (hv : bootBuiltins x = some v) (hn : x ≠ "__name__" := by decide) (hk : X.env.scope.kind = .function := by rfl)
    (hl : X.env.kindOf x = some .globalImplicit := by rfl) (hg : X.env.globals = mainGlobals := by rfl) (hb : X.env.builtins = builtinsNs := by rfl) (hd : (x == ("__debug__" : Str)) = false := by decide) : Ev X m N (.Name x pos) (sV v) := by
  intro Q E s hs q
  refine wpAny_Name ?_ hd
  unfold loadName
  simp only [Env.blockKind, hk, hl, ScopeKind.isAnnotationScope, Bool.false_and, Bool.false_eq_true, if_false]
  exact loadGlobal_builtin (by rw [hg]; exact hW.g.keeps hs.base) (mg_none_of hW.ki hW.g e) (by rw [hb]; exact hW.b.keeps hs.base) ((hW.bt x hn).trans hv) (q _ s.heap s.toks (stays_refl _) rfl)
theorem Ev.cellv {x : Str} {pos : Pos} {c : Addr} {v : Value} (hc : X.env.cells.lookup x = some c) (hv : ∀ h, St X m N h → h.IsCell c (some v)) (hk : X.env.scope.kind = .function := by rfl) (hl : X.env.kindOf x = some .cell := by rfl)
    (hd : (x == ("__debug__" : Str)) = false := by decide) : Ev X m N (.Name x pos) (sV v) :=
  fun Q E s hs q => wpAny_Name (wpAny_loadName_cell hk hl hc (hv _ hs) (q _ s.heap s.toks (stays_refl _) rfl)) hd
theorem Ev.free {x : Str} {pos : Pos} {c : Addr} {v : Value} (hc : X.env.cells.lookup x = some c) (hv : ∀ h, St X m N h → h.IsCell c (some v)) (hk : X.env.scope.kind = .function := by rfl) (hl : X.env.kindOf x = some .free := by rfl)
    (hd : (x == ("__debug__" : Str)) = false := by decide) (hn : (x == ("__classdict__" : Str)) = false := by decide) : Ev X m N (.Name x pos) (sV v) :=
  fun Q E s hs q => wpAny_Name (wpAny_loadName_free hk hl hc (hv _ hs) (q _ s.heap s.toks (stays_refl _) rfl) hn) hd

/-- a call of what needs no frame of ours -/
def CallRn (X : Fx) (m : Str → Option Value) (N : List (Addr × Obj)) (f : Value) (first : List Value) (sps : List Sp) (sp : Sp) : Prop :=
  ∀ h0 vs h, h0.StaysIn h → St X m N h → AllIs sps h0 vs h → Rn X (fun h' => h' = h) (call f (first ++ vs)) sp.Is

theorem callWs {f : Value} {first : List Value} {pos : Pos} {es : List Expr} {sps : List Sp} {sp : Sp} {Q : Value → Shared → Prop} {E : Value → Shared → Prop} {s : Shared}
    (hk : ∀ h, St X m N h → ∃ k, (k = Keeper.frame ∨ k = Keeper.machine ∨ k = Keeper.boundFrame) ∧ Looks X.M h (keeperOf f) k)
    (hes : Evs X m N es sps) (hp : es.all plainE = true) (hs : St X m N s.heap) (hc : ∀ vs h, s.heap.StaysIn h → St X m N h → AllIs sps s.heap vs h → Rn X (· = h) (call f (first ++ vs)) sp.Is)
    (q : ∀ v h' tk, s.heap.StaysIn h' → sp.Is s.heap v h' → Q v { s with heap := h', toks := tk }) : wpAny X.M X.A (callWith pos f first (backTo pos (starEach es X.env)) []) Q E s := by
  have hany : ((backTo pos (starEach es X.env)).any (·.1) || ([] : List (Option Str × Sem Value)).any (·.1.isNone)) = false := by
    rw [starEach_plain hp]
    simp
  have fin : wpAny X.M X.A (spliced (backTo pos (starEach es X.env))) (fun vs s₁ => St X m N s₁.heap ∧ wpAny X.M X.A (call f (first ++ vs)) Q E s₁) E s :=
    spliced_pos hes hp _ _ s hs fun vs h1 tk1 st1 hvs => ⟨hs.stay st1, hc _ _ st1 (hs.stay st1) hvs _ _ _ rfl fun v h2 tk2 st2 hv => q v h2 tk2 (stays_trans st1 st2) (Sp.wk st1 (stays_refl _) hv)⟩
  refine callWith_of (P := St X m N) hany hk ?_
  cases es with
  | nil => exact evalArgs_nil3 ⟨hs, by
      cases sps with
      | nil => exact hc [] s.heap (stays_refl _) hs trivial _ _ _ rfl fun v h2 tk2 st2 hv => q v h2 tk2 st2 hv
      | cons _ _ => exact hes.elim⟩
  | cons e es =>
    rw [starEach_plain hp] at fin ⊢
    exact evalArgs_plain fin
theorem callW {f : Value} {first : List Value} {pos : Pos} {es : List Expr} {sps : List Sp} {sp : Sp} (hk : ∀ h, St X m N h → ∃ k, (k = Keeper.frame ∨ k = Keeper.machine ∨ k = Keeper.boundFrame) ∧ Looks X.M h (keeperOf f) k)
    (hes : Evs X m N es sps) (hp : es.all plainE = true) (hc : CallRn X m N f first sps sp) : Rn X (St X m N) (callWith pos f first (backTo pos (starEach es X.env)) []) sp.Is :=
  fun Q E s hs q => callWs hk hes hp hs (fun vs h st hs' hvs => hc _ _ _ st hs' hvs) q

theorem keep_def {f : Addr} (hW : Wd K mg mb X.h0) (hk : keepIn K (.ref f) = true) : ∀ h, St X m N h → ∃ k, (k = Keeper.frame ∨ k = Keeper.machine ∨ k = Keeper.boundFrame) ∧ Looks X.M h (keeperOf (.ref f)) k :=
  fun h hs => keeps_K hk h (hW.ki.keeps hs.base)
theorem keep_blt {id : String} : ∀ h, St X m N h → ∃ k, (k = Keeper.frame ∨ k = Keeper.machine ∨ k = Keeper.boundFrame) ∧ Looks X.M h (keeperOf (.builtin id)) k :=
  fun h _ => ⟨.machine, .inr (.inl rfl), Looks.of_pure rfl⟩
theorem keep_typ {id : String} : ∀ h, St X m N h → ∃ k, (k = Keeper.frame ∨ k = Keeper.machine ∨ k = Keeper.boundFrame) ∧ Looks X.M h (keeperOf (.type id)) k :=
  fun h _ => ⟨.machine, .inr (.inl rfl), Looks.of_pure rfl⟩

theorem Ev.call {fe : Expr} {es : List Expr} {pos : Pos} {f : Value} {sps : List Sp} {sp : Sp} (hf : Ev X m N fe (sV f)) (hk : ∀ h, St X m N h → ∃ k, (k = Keeper.frame ∨ k = Keeper.machine ∨ k = Keeper.boundFrame) ∧ Looks X.M h (keeperOf f) k)
    (hes : Evs X m N es sps) (hc : CallRn X m N f [] sps sp) (hp : es.all plainE = true := by rfl)
    (he : eval (.Call fe es [] pos) X.env = (do callWith pos (← eval fe X.env) [] (backTo pos (starEach es X.env)) (backToKw pos (keywordEach [] X.env))) := by rfl) : Ev X m N (.Call fe es [] pos) sp := by
  intro Q E s hs q
  refine Call_ (hf _ _ s hs fun v h1 tk1 st1 hv => ?_) he
  have hv' : v = f := hv
  subst hv'
  exact callW hk hes hp hc _ _ _ (hs.stay st1) fun v h2 tk2 st2 hv => q v h2 tk2 (stays_trans st1 st2) (Sp.wk st1 (stays_refl _) hv)

theorem crn_def {f : Addr} {W : Heap → Prop} {lv : Nat} {sps : List Sp} {sp : Sp} (hA : Lv X.A lv) (h : ∀ h0 vs h, h0.StaysIn h → St X m N h → AllIs sps h0 vs h → W h ∧ Fn X.prog X.w W lv f vs sp) : CallRn X m N (.ref f) [] sps sp := by
  intro h0 vs h1 st hs hvs Q E s e q
  subst e
  obtain ⟨a, b⟩ := h _ _ _ st hs hvs
  exact wpAny_call (b X.A s _ hA a fun v h' tk st' hv => q v h' tk st' hv)
end
end Mine
end

section
open PySem PySem.W PySem.Calls PyProof.Rows PySem.Spec
set_option Elab.async false
set_option linter.unusedVariables false
set_option maxRecDepth 100000
namespace Mine
/-- texts and bytes by their numbers -/
def sx (l : List Nat) : Str := ⟨l.toArray⟩
def bx (l : List Nat) : Array UInt8 := (l.map Nat.toUInt8).toArray
theorem sx_len (l : List Nat) : (sx l).length = l.length := by simp [sx, Str.length]
theorem bx_size (l : List Nat) : (bx l).size = l.length := by simp [bx]
theorem sx_app (a b : List Nat) : sx a ++ sx b = sx (a ++ b) := by
  show (⟨(sx a).cps ++ (sx b).cps⟩ : Str) = _
  simp [sx]
theorem sx_inj {a b : List Nat} : (sx a == sx b) = decide (a = b) := by
  rw [Bool.eq_iff_iff]; simp [sx]
abbrev lo (vs : List Value) (n : Nat) : Obj := { cls := .type "list", data := .seq vs.toArray n }
abbrev tu (vs : List Value) (n : Nat) : Obj := { cls := .type "tuple", data := .seq vs.toArray n }
/-- a list that stands -/
def sL (P : List Value → Prop) : Sp := .hp (fun v h => ∃ a vs n, v = .ref a ∧ h.get? a = some (lo vs n) ∧ P vs)
  (by rintro v h h' k ⟨a, vs, n, e, ho, hp⟩; exact ⟨a, vs, n, e, k _ _ ho, hp⟩)
theorem isList_of {h : Heap} {a : Addr} {vs : List Value} {n : Nat} (e : h.get? a = some (lo vs n)) : h.IsList a vs.toArray := ⟨_, e, rfl, n, rfl⟩
def sU (P : List Value → Prop) : Sp := .hp (fun v h => ∃ a vs n, v = .ref a ∧ h.get? a = some (tu vs n) ∧ P vs)
  fun v h h' k ⟨a, vs, n, e, hl, hp⟩ => ⟨a, vs, n, e, k _ _ hl, hp⟩
abbrev nL (P : List Value → Prop) : Sp := .nw fun o => ∃ vs n, o = lo vs n ∧ P vs
abbrev nU (P : List Value → Prop) : Sp := .nw fun o => ∃ vs n, o = tu vs n ∧ P vs

section
variable {X : Fx} {m : Str → Option Value} {N : List (Addr × Obj)}
theorem Ev.asL {e : Expr} {P : List Value → Prop} (h : Ev X m N e (nL P)) : Ev X m N e (sL P) :=
  Rn.mono h fun h v h' _ _ ⟨a, o, e, _, e2, vs, n, e3, hp⟩ => ⟨a, vs, n, e, e3 ▸ e2, hp⟩
theorem Ev.asU {e : Expr} {P : List Value → Prop} (h : Ev X m N e (nU P)) : Ev X m N e (sU P) :=
  Rn.mono h fun h v h' _ _ ⟨a, o, e, _, e2, vs, n, e3, hp⟩ => ⟨a, vs, n, e, e3 ▸ e2, hp⟩
theorem get_size (h : Heap) : h.get? h.objs.size = none := by
  cases e : h.get? h.objs.size with
  | none => rfl
  | some o => exact absurd (Heap.lt_size e) (Nat.lt_irrefl _)
/-- a list of ours that a name holds -/
theorem Ev.lname {x : Str} {pos : Pos} {a : Addr} {vs : List Value} {n : Nat} {P : List Value → Prop} (hv : m x = some (.ref a)) (hm : (a, lo vs n) ∈ N) (hp : P vs) (hk : X.env.scope.kind = .function := by rfl) (hl : X.env.kindOf x = some .local := by rfl)
    (hd : (x == ("__debug__" : Str)) = false := by decide) : Ev X m N (.Name x pos) (sL P) :=
  fun Q E s hs q => Ev.name hv hk hl hd Q E s hs fun v h' tk st hv => q v h' tk st ⟨a, vs, n, hv, (hs.stay st).get hm, hp⟩
theorem Ev.hname {x : Str} {pos : Pos} {a : Addr} {vs : List Value} {n : Nat} {P : List Value → Prop} (hv : m x = some (.ref a)) (hm : X.h0.get? a = some (lo vs n)) (hp : P vs) (hk : X.env.scope.kind = .function := by rfl) (hl : X.env.kindOf x = some .local := by rfl)
    (hd : (x == ("__debug__" : Str)) = false := by decide) : Ev X m N (.Name x pos) (sL P) :=
  fun Q E s hs q => Ev.name hv hk hl hd Q E s hs fun v h' tk st hv => q v h' tk st ⟨a, vs, n, hv, (hs.stay st).base _ _ hm, hp⟩

theorem Ev.list {es : List Expr} {pos : Pos} {sps : List Sp} {P : List Value → Prop} (h : Evs X m N es sps) (hP : ∀ h vs h', AllIs sps h vs h' → P vs) (hn : es.length ≤ 1000 := by decide) (hp : es.all plainE = true := by rfl) : Ev X m N (.List es pos) (nL P) := by
  intro Q E s hs q
  refine List_ (spliced_pos h hp _ _ s hs fun vs h1 tk1 st1 hvs => ?_)
  have hl : ∀ {sps : List Sp} {es : List Expr} {vs : List Value}, Evs X m N es sps → AllIs sps s.heap vs h1 → vs.length = es.length := by
    intro sps
    induction sps with
    | nil => intro es vs a b; cases es <;> cases vs <;> first | rfl | exact a.elim | exact b.elim
    | cons sp sps ih => intro es vs a b; cases es <;> cases vs <;> first | exact a.elim | exact b.elim | exact congrArg (· + 1) (ih a.2 b.2)
  have hz : sizeOk (.seq vs.toArray) := by
    show vs.toArray.size ≤ sizeLine
    rw [List.size_toArray, hl h hvs, sizeLine_eq]; omega
  exact wpAny_newObj_type (q _ _ tk1 (fun b o e => Heap.get?_push_of_some _ (st1 _ _ e)) ⟨h1.objs.size, lo vs 0, rfl, none_of_stays st1 (get_size h1), Heap.get?_push_size _ rfl, vs, 0, rfl, hP _ _ _ hvs⟩) hz
theorem Ev.tuple {es : List Expr} {k : Nat} {pos : Pos} {sps : List Sp} {P : List Value → Prop} (h : Evs X m N es sps) (hP : ∀ h vs h', AllIs sps h vs h' → P vs) (hn : es.length ≤ 1000 := by decide) (hp : es.all plainE = true := by rfl) : Ev X m N (.Tuple es k pos) (nU P) := by
  intro Q E s hs q
  refine Tuple_ (spliced_pos h hp _ _ s hs fun vs h1 tk1 st1 hvs => ?_)
  have hl : ∀ {sps : List Sp} {es : List Expr} {vs : List Value}, Evs X m N es sps → AllIs sps s.heap vs h1 → vs.length = es.length := by
    intro sps
    induction sps with
    | nil => intro es vs a b; cases es <;> cases vs <;> first | rfl | exact a.elim | exact b.elim
    | cons sp sps ih => intro es vs a b; cases es <;> cases vs <;> first | exact a.elim | exact b.elim | exact congrArg (· + 1) (ih a.2 b.2)
  have hz : sizeOk (.seq vs.toArray) := by
    show vs.toArray.size ≤ sizeLine
    rw [List.size_toArray, hl h hvs, sizeLine_eq]; omega
  exact wpAny_newObj_type (q _ _ tk1 (fun b o e => Heap.get?_push_of_some _ (st1 _ _ e)) ⟨h1.objs.size, tu vs 0, rfl, none_of_stays st1 (get_size h1), Heap.get?_push_size _ rfl, vs, 0, rfl, hP _ _ _ hvs⟩) hz

/-- an item: v[i] -/
theorem Ev.sub {value slice : Expr} {pos : Pos} {sp1 : Sp} {P2 : Value → Prop} {sp : Sp} (h1 : Ev X m N value sp1) (h2 : Ev X m N slice (.pl P2))
    (h : ∀ h0 o i h, h0.StaysIn h → sp1.Is h0 o h → P2 i → Rn X (fun h' => h' = h) (subscriptTail value slice o i) sp.Is) : Ev X m N (.Subscript value slice pos) sp := by
  intro Q E s hs q
  refine Subscript_ (h1 _ _ s hs fun o h1 tk1 st1 ho => h2 _ _ _ (hs.stay st1) fun i h2 tk2 st2 hi => ?_)
  exact h _ o i h2 (stays_trans st1 st2) (Sp.wk (stays_refl _) st2 ho) hi _ _ _ rfl fun v h3 tk3 st3 hv => q v h3 tk3 (stays_trans (stays_trans st1 st2) st3) (Sp.wk (stays_trans st1 st2) (stays_refl _) hv)

theorem item_sx {l : List Nat} {i : Nat} (hi : i < l.length) : Txt.item (sx l) (i : Int) = sx [l.getD i 0] := by
  rw [item_meets (n := l.getD i 0) (by omega) (by simp [sx, hi])]
  rfl
theorem ssize_of {i : Int} (h0 : -1000000000 ≤ i) (h1 : i < 1000000000) : fitsSsize i = true := by
  simp [fitsSsize]; omega
theorem t_strI {value slice : Expr} {l : List Nat} {i : Nat} (hi : i < l.length) (hl : l.length ≤ 1000000)
    (hs : ∀ a b c d, subscripted slice false (Value.str a b) (Value.int c d) = operate [Value.str a b, Value.int c d] (getItem (.str a b) (Value.int c d)) := by intro _ _ _ _; rfl)
    (ht : ∀ a b r, letTemporaryGo value (.str a b) r = pure () := by intro _ _ _; rfl) (h0 : Heap) (o j : Value) (h : Heap) (st : h0.StaysIn h) (h1 : (sT (sx l)).Is h0 o h) (h2 : pI (i : Int) j) :
    Rn X (fun h' => h' = h) (subscriptTail value slice o j) (sT (sx [l.getD i 0])).Is := by
  obtain ⟨t, rfl⟩ := h1
  obtain ⟨u, rfl⟩ := h2
  intro Q E s e q
  subst e
  exact item_str (ssize_of (by omega) (by omega)) (by have := sx_len l; omega) (by rw [sx_len]; omega) (fun _ => q _ s.heap _ (stays_refl _) ⟨_, by rw [item_sx hi]⟩) (hs _ _ _ _) (fun r => ht _ _ r)
theorem Ev.strI {value slice : Expr} {pos : Pos} {l : List Nat} {i : Nat} (h1 : Ev X m N value (sT (sx l))) (h2 : Ev X m N slice (sI (i : Int))) (hi : i < l.length) (hl : l.length ≤ 1000000)
    (hs : ∀ a b c d, subscripted slice false (Value.str a b) (Value.int c d) = operate [Value.str a b, Value.int c d] (getItem (.str a b) (Value.int c d)) := by intro _ _ _ _; rfl)
    (ht : ∀ a b r, letTemporaryGo value (.str a b) r = pure () := by intro _ _ _; rfl) : Ev X m N (.Subscript value slice pos) (sT (sx [l.getD i 0])) :=
  Ev.sub h1 h2 (t_strI hi hl hs ht)
theorem Ev.bytI {value slice : Expr} {pos : Pos} {l : List Nat} {i : Nat} (h1 : Ev X m N value (sY (bx l))) (h2 : Ev X m N slice (sI (i : Int))) (hi : i < l.length) (hl : l.length ≤ 1000000) (hb : ∀ n ∈ l, n < 256)
    (hs : ∀ a b c d, subscripted slice false (Value.bytes a b) (Value.int c d) = operate [Value.bytes a b, Value.int c d] (getItem (.bytes a b) (Value.int c d)) := by intro _ _ _ _; rfl)
    (ht : ∀ a b r, letTemporaryGo value (.bytes a b) r = pure () := by intro _ _ _; rfl) : Ev X m N (.Subscript value slice pos) (sI (l.getD i 0 : Nat)) := by
  refine Ev.sub h1 h2 ?_
  rintro h0 _ _ h st ⟨t, rfl⟩ ⟨u, rfl⟩ Q E s e q
  subst e
  have h3 := hb _ (List.getElem_mem hi)
  have e : ((((l.map Nat.toUInt8).getD (i : Int).toNat 0).toNat : Nat) : Int) = ((l.getD i 0 : Nat) : Int) := by
    simp [List.getD_eq_getElem?_getD, hi, Nat.toUInt8, UInt8.toNat_ofNat', Nat.mod_eq_of_lt h3]
  exact tail_of_ItemOn ⟨"bytes", _, FB.slot_bytes_getitem.lookup, typeIs_bytes _ (bx l) t, getItem_bytes (l := l.map Nat.toUInt8) (by simp; omega) (by omega) (by simp; omega) (q _ s.heap _ (stays_refl _) ⟨_, by rw [e]⟩)⟩ (hs _ _ _ _) (ht _ _)
theorem Ev.lstI {value slice : Expr} {pos : Pos} {P : List Value → Prop} {P' : Value → Prop} {i : Nat} (h1 : Ev X m N value (sL P)) (h2 : Ev X m N slice (sI (i : Int))) (hP : ∀ vs, P vs → ∃ v, vs[i]? = some v ∧ P' v) (hi : i < 1000000)
    (hs : ∀ a c d, subscripted slice false (Value.ref a) (Value.int c d) = operate [Value.ref a, Value.int c d] (getItem (.ref a) (Value.int c d)) := by intro _ _ _; rfl)
    (ht : ∀ a r, letTemporaryGo value (.ref a) r = pure () := by intro _ _; rfl) : Ev X m N (.Subscript value slice pos) (.pl P') := by
  refine Ev.sub h1 h2 ?_
  rintro h0 _ _ h st ⟨a, vs, n, rfl, hl, hp⟩ ⟨u, rfl⟩ Q E s e q
  subst e
  have hl := isList_of hl
  obtain ⟨v, hv, hv'⟩ := hP _ hp
  exact tail_of_ItemOn ⟨"list", _, slot_list_getitem.lookup, hl.typeIs, wpAny_getItem_list hl (by omega) (by omega) (by simpa using hv) (q _ s.heap _ (stays_refl _) hv')⟩ (hs _ _ _) (ht _)
end
end Mine
end

section
open PySem PySem.W PySem.Calls PyProof.Rows PySem.Spec
set_option Elab.async false
set_option linter.unusedVariables false
set_option maxRecDepth 100000
namespace Mine
section
variable {X : Fx} {m : Str → Option Value} {N : List (Addr × Obj)} {K : Frag} {mg mb : Str → Option Value}

/-- a builtin of one argument -/
theorem crn1 {f : Value} {first : List Value} {sp1 sp : Sp} (h : ∀ h0 v h, h0.StaysIn h → St X m N h → sp1.Is h0 v h → Rn X (fun h' => h' = h) (call f (first ++ [v])) sp.Is) : CallRn X m N f first [sp1] sp := by
  intro h0 vs h1 st hs hvs
  match vs, hvs with
  | [v], hv => exact h _ _ _ st hs hv.1
theorem crn2 {f : Value} {first : List Value} {sp1 sp2 sp : Sp} (h : ∀ h0 v u h, h0.StaysIn h → St X m N h → sp1.Is h0 v h → sp2.Is h0 u h → Rn X (fun h' => h' = h) (call f (first ++ [v, u])) sp.Is) : CallRn X m N f first [sp1, sp2] sp := by
  intro h0 vs h1 st hs hvs
  match vs, hvs with
  | [v, u], hv => exact h _ _ _ _ st hs hv.1 hv.2.1
theorem crn3 {f : Value} {first : List Value} {sp1 sp2 sp3 sp : Sp} (h : ∀ h0 v u x h, h0.StaysIn h → St X m N h → sp1.Is h0 v h → sp2.Is h0 u h → sp3.Is h0 x h → Rn X (fun h' => h' = h) (call f (first ++ [v, u, x])) sp.Is) : CallRn X m N f first [sp1, sp2, sp3] sp := by
  intro h0 vs h1 st hs hvs
  match vs, hvs with
  | [v, u, x], hv => exact h _ _ _ _ _ st hs hv.1 hv.2.1 hv.2.2.1

theorem k_lenT {l : List Nat} (hl : l.length ≤ 1000000) : CallRn X m N (.builtin "len") [] [sT (sx l)] (sI (l.length : Nat)) :=
  crn1 fun h0 v h _ _ hv => by
    obtain ⟨t, rfl⟩ := hv
    intro Q E s e q
    subst e
    exact SBL.len (by rw [sx_len]; omega) (q _ s.heap _ (stays_refl _) ⟨_, by rw [sx_len]⟩)
theorem k_lenY {l : List Nat} (hl : l.length ≤ 1000000) : CallRn X m N (.builtin "len") [] [sY (bx l)] (sI (l.length : Nat)) :=
  crn1 fun h0 v h _ _ hv => by
    obtain ⟨t, rfl⟩ := hv
    intro Q E s e q
    subst e
    exact len_bytes (by rw [bx_size]; omega) (q _ s.heap _ (stays_refl _) ⟨_, by rw [bx_size]⟩)
theorem k_lenL {P : List Value → Prop} {n : Nat} (hP : ∀ vs, P vs → vs.length = n) (hl : n ≤ 1000000) : CallRn X m N (.builtin "len") [] [sL P] (sI (n : Nat)) :=
  crn1 fun h0 v h _ _ hv => by
    obtain ⟨a, vs, n', rfl, hl', hp⟩ := hv
    have hn := hP _ hp
    have hl' := isList_of hl'
    intro Q E s e q
    subst e
    exact len_list hl' (by simp [hn]; omega) (q _ s.heap _ (stays_refl _) ⟨_, congrArg (Value.int · _) (by simp [hn])⟩)
theorem k_ord {c : Nat} : CallRn X m N (.builtin "ord") [] [sT (sx [c])] (sI (c : Nat)) :=
  crn1 fun h0 v h _ _ hv => by
    obtain ⟨t, rfl⟩ := hv
    intro Q E s e q
    subst e
    exact P.ord_of_char (q _ s.heap _ (stays_refl _) ⟨_, rfl⟩)
theorem k_chr {c : Nat} (hc : c < 1114112) : CallRn X m N (.builtin "chr") [] [sI (c : Nat)] (sT (sx [c])) :=
  crn1 fun h0 v h _ _ hv => by
    obtain ⟨t, rfl⟩ := hv
    intro Q E s e q
    subst e
    exact P.chr_of_int (by simp; omega) (q _ s.heap _ (stays_refl _) ⟨_, congrArg (Value.str · _) (by simp [sx])⟩)

/-- a range -/
abbrev sR (a b c : Int) : Sp := .hp (fun v h => ∃ r t u w, v = .ref r ∧ IsRange h r a b c t u w) (by rintro v h h' k ⟨r, t, u, w, e, hr⟩; exact ⟨r, t, u, w, e, k _ _ hr⟩)
theorem k_range1 {n : Int} : CallRn X m N (.type "range") [] [sI n] (sR 0 n 1) :=
  crn1 fun h0 v h _ _ hv => by
    obtain ⟨t, rfl⟩ := hv
    intro Q E s e q
    subst e
    exact call_range_1 (q _ _ _ (fun b o e => Heap.get?_push_of_some _ e) ⟨_, _, _, _, rfl, Heap.get?_push_size _ rfl⟩)
theorem k_range2 {a b : Int} : CallRn X m N (.type "range") [] [sI a, sI b] (sR a b 1) :=
  crn2 fun h0 v u h _ _ hv hu => by
    obtain ⟨t, rfl⟩ := hv
    obtain ⟨t, rfl⟩ := hu
    intro Q E s e q
    subst e
    exact call_range_2 (q _ _ _ (fun b o e => Heap.get?_push_of_some _ e) ⟨_, _, _, _, rfl, Heap.get?_push_size _ rfl⟩)
theorem k_range3 {a b c : Int} (hc : c ≠ 0) (hd : Builtin.divisionGoesByPylong (b - a) c = false) : CallRn X m N (.type "range") [] [sI a, sI b, sI c] (sR a b c) :=
  crn3 fun h0 v u x h _ _ hv hu hx => by
    obtain ⟨t, rfl⟩ := hv
    obtain ⟨t, rfl⟩ := hu
    obtain ⟨t, rfl⟩ := hx
    intro Q E s e q
    subst e
    exact call_range_3 hc (q _ _ _ (fun b o e => Heap.get?_push_of_some _ e) ⟨_, _, _, _, rfl, Heap.get?_push_size _ rfl⟩) (.inl hd)

/-- a method of a text's -/
theorem ev_mcall {o : Expr} {name : Str} {apos pos : Pos} {es : List Expr} {sp0 : Sp} {sps : List Sp} {sp : Sp} {id : String} {pl : Sem Bool} (ho : Ev X m N o sp0)
    (hm : ∀ h0 v h (Q : Value × List Value → Shared → Prop) (E : Value → Shared → Prop) (s : Shared), s.heap = h → sp0.Is h0 v h → Q (.builtin id, [v]) s → wpAny X.M X.A (getMethod v name pl) Q E s)
    (hes : Evs X m N es sps) (hc : ∀ h0 v vs h, h0.StaysIn h → St X m N h → sp0.Is h0 v h → AllIs sps h0 vs h → Rn X (fun h' => h' = h) (call (.builtin id) (v :: vs)) sp.Is) (hp : es.all plainE = true := by rfl)
    (he : eval (.Call (.Attribute o name apos) es [] pos) X.env = (do
        let ov ← eval o X.env
        standAt apos.atName
        let (f, first) ← holding [ov] (getMethod ov name pl)
        callWith pos f first (backTo pos (starEach es X.env)) []) := by rfl) : Ev X m N (.Call (.Attribute o name apos) es [] pos) sp := by
  intro Q E s hs q
  refine MethodCall_ (ho _ _ s hs fun v h1 tk1 st1 hv => ?_) he
  refine hm s.heap v h1 _ _ _ rfl hv ?_
  refine callWs (f := .builtin id) (first := [v]) (sp := sp) keep_blt hes hp (hs.stay st1) (fun vs h st hs' hvs => ?_) fun u h2 tk2 st2 hu => q u h2 tk2 (stays_trans st1 st2) (Sp.wk st1 (stays_refl _) hu)
  exact hc s.heap v vs h (stays_trans st1 st) hs' (Sp.wk (stays_refl _) st hv) (AllIs.wk st1 (stays_refl _) hvs)
theorem gm_str {x : Str} {name : Str} {id : String} {pl : Sem Bool} (hs : Slot "str" name id) (ht : typeOf (.builtin id) = pure (.type "method_descriptor")) (hp : PlainAttrs "str") (h0 : Heap) (v : Value) (h : Heap) (Q : Value × List Value → Shared → Prop) (E : Value → Shared → Prop) (s : Shared) (e : s.heap = h) (hv : (sT x).Is h0 v h)
    (q : Q (.builtin id, [v]) s) : wpAny X.M X.A (getMethod v name pl) Q E s := by
  obtain ⟨t, rfl⟩ := hv
  exact getMethod_builtin (typeIs_str _ _ _) hp hs ht (fun a e => by cases e) q
end
end Mine
end

section
open PySem PySem.W PySem.Calls PyProof.Rows PySem.Spec
set_option Elab.async false
set_option linter.unusedVariables false
set_option linter.unusedSimpArgs false
set_option maxRecDepth 100000
namespace Mine
/-- what is walked: n items -/
def Src (X : Fx) (D : Addr → Prop) (st : Heap) (v : Value) (h : Heap) (n : Nat) (P : Nat → Value → Prop) : Prop :=
  ∀ (Q : Value → Shared → Prop) (E : Value → Shared → Prop) (s : Shared), s.heap = h →
    (∀ (I : Addr) (fp fq wr : List Addr) (S : Nat → Heap → Prop) (h' : Heap) (tk : Nat), h.StaysIn h' → Walks X.prog X.w X.A I fp wr n P S → S 0 h' → fq.Nodup → (∀ b ∈ fq, st.get? b = none) →
      (∀ b ∈ fp, b ∈ fq ∨ D b) → (∀ b ∈ fq, b ∈ fp) → (∀ b ∈ wr, b ∈ fq) → (∀ i h, S i h → ∀ b ∈ fp, ∃ o, h.get? b = some o) → Q (.ref I) { s with heap := h', toks := tk }) →
    wpAny X.M X.A (pyIter v) Q E s

section
variable {X : Fx} {m : Str → Option Value} {N : List (Addr × Obj)} {Z : Zt} {rest : List Stmt} {D : Addr → Prop}

theorem src_range {a b c : Int} {n : Nat} {v : Value} {st h : Heap} (hv : (sR a b c).Is st v h) (hA : X.A.handled = none) (k : st.StaysIn h) (hs : Builtin.Range.small a b c = true) (hn : Builtin.Range.rangeSize a b c = n) :
    Src X D st v h n (fun i v => ∃ t, v = .int (a + i * c) t) := by
  obtain ⟨r, t, u, w, rfl, hr⟩ := hv
  intro Q E s e q
  subst e
  refine wpAny_pyIter_range hr hs (q s.heap.objs.size [s.heap.objs.size] [s.heap.objs.size] [s.heap.objs.size] _ _ s.toks (fun b o e => Heap.get?_push_of_some _ e) (Walks.range hA _ a c n) ?_ (by simp) ?_ ?_ ?_ ?_ ?_)
  · show IsRangeIter _ _ _ _ _
    rw [hn]
    simpa using Heap.get?_push_size s.heap (o := { cls := .type "range_iterator", data := .fields #[rawInt a, rawInt n, rawInt c] }) rfl
  · intro b hb; rw [List.mem_singleton.mp hb]; exact none_of_stays k (get_size _)
  · intro b hb; exact .inl hb
  · intro b hb; exact hb
  · intro b hb; exact hb
  · intro i h hi b hb; rw [List.mem_singleton.mp hb]; exact ⟨_, hi⟩
theorem src_one {s : Shared} {st : Heap} {n : Nat} {P : Nat → Value → Prop} {S : Nat → Heap → Prop} {o : Obj} {Q : Value → Shared → Prop} (k : st.StaysIn s.heap) (W : Walks X.prog X.w X.A s.heap.objs.size [s.heap.objs.size] [s.heap.objs.size] n P S)
    (h0 : S 0 (s.heap.push o)) (hl : ∀ i h, S i h → ∃ o, h.get? s.heap.objs.size = some o)
    (q : ∀ (I : Addr) (fp fq wr : List Addr) (S : Nat → Heap → Prop) (h' : Heap) (tk : Nat), s.heap.StaysIn h' → Walks X.prog X.w X.A I fp wr n P S → S 0 h' → fq.Nodup → (∀ b ∈ fq, st.get? b = none) →
      (∀ b ∈ fp, b ∈ fq ∨ D b) → (∀ b ∈ fq, b ∈ fp) → (∀ b ∈ wr, b ∈ fq) → (∀ i h, S i h → ∀ b ∈ fp, ∃ o, h.get? b = some o) → Q (.ref I) { s with heap := h', toks := tk }) :
    Q (.ref s.heap.objs.size) { s with heap := s.heap.push o } := by
  refine q _ _ [s.heap.objs.size] _ S _ s.toks (fun b o e => Heap.get?_push_of_some _ e) W h0 (by simp) ?_ (fun b hb => .inl hb) (fun b hb => hb) (fun b hb => hb) ?_
  · intro b hb; rw [List.mem_singleton.mp hb]; exact none_of_stays k (get_size _)
  · intro i h hi b hb; rw [List.mem_singleton.mp hb]; exact hl i h hi
theorem src_str {l : List Nat} {v : Value} {st h : Heap} (hv : (sT (sx l)).Is st v h) (hA : X.A.handled = none) (k : st.StaysIn h) : Src X D st v h l.length (fun i v => ∃ t c, l[i]? = some c ∧ v = .str (sx [c]) t) := by
  obtain ⟨t, rfl⟩ := hv
  intro Q E s e q
  subst e
  have hP : SignAt (sx l) = fun i v => ∃ t c, l[i]? = some c ∧ v = .str (sx [c]) t := by
    funext i v
    refine propext ⟨?_, ?_⟩
    · rintro ⟨c, u, hc, rfl⟩; exact ⟨u, c, by simpa [sx] using hc, rfl⟩
    · rintro ⟨u, c, hc, rfl⟩; exact ⟨c, u, by simpa [sx] using hc, rfl⟩
  have hn : (sx l).cps.size = l.length := by simp [sx]
  cases ha : (sx l).cps.all (· < 128)
  · have W := Walks.strWide (prog := X.prog) (w := X.w) hA s.heap.objs.size (sx l) t
    rw [hP, hn] at W
    exact wpAny_pyIter_wide ha (src_one (D := D) k W ⟨_, Heap.get?_push_size _ rfl, rfl, rfl⟩ (fun i h ⟨o, ho, _⟩ => ⟨o, ho⟩) q)
  · have W := Walks.strAscii (prog := X.prog) (w := X.w) hA s.heap.objs.size (sx l) t
    rw [hP, hn] at W
    exact wpAny_pyIter_ascii ha (src_one (D := D) k W ⟨_, Heap.get?_push_size _ rfl, rfl, rfl⟩ (fun i h ⟨o, ho, _⟩ => ⟨o, ho⟩) q)
theorem src_bytes {l : List Nat} {v : Value} {st h : Heap} (hv : (sY (bx l)).Is st v h) (hA : X.A.handled = none) (k : st.StaysIn h) (hb : ∀ n ∈ l, n < 256) : Src X D st v h l.length (fun i v => ∃ t c, l[i]? = some c ∧ v = .int (c : Nat) t) := by
  obtain ⟨t, rfl⟩ := hv
  intro Q E s e q
  subst e
  have W := KBw.walks (prog := X.prog) (w := X.w) hA s.heap.objs.size (bx l) t
  have hP : (fun (i : Nat) (v : Value) => ∃ (c : UInt8) (u : Tok), (bx l)[i]? = some c ∧ v = Value.int (c.toNat : Int) u) = fun i v => ∃ t c, l[i]? = some c ∧ v = .int (c : Nat) t := by
    funext i v
    refine propext ⟨?_, ?_⟩
    · rintro ⟨c, u, hc, rfl⟩
      simp [bx] at hc
      obtain ⟨n, hn, rfl⟩ := hc
      have := hb n (List.mem_of_getElem? hn)
      exact ⟨u, n, hn, by simp [Nat.toUInt8, UInt8.toNat_ofNat', Nat.mod_eq_of_lt this]⟩
    · rintro ⟨u, c, hc, rfl⟩
      have := hb c (List.mem_of_getElem? hc)
      exact ⟨c.toUInt8, u, by simp [bx, hc], by simp [Nat.toUInt8, UInt8.toNat_ofNat', Nat.mod_eq_of_lt this]⟩
  rw [hP, bx_size] at W
  exact KBw.pyIter_bytes (src_one (D := D) k W ⟨_, Heap.get?_push_size _ rfl, rfl, rfl⟩ (fun i h ⟨o, ho, _⟩ => ⟨o, ho⟩) q)
/-- a list: it stands where D says, or is new -/
theorem src_list {vs : List Value} {a : Addr} {st h : Heap} (hl : h.IsList a vs.toArray) (hA : X.A.handled = none) (k : st.StaysIn h) (hD : D a ∨ st.get? a = none) : Src X D st (.ref a) h vs.length (fun i v => vs[i]? = some v) := by
  intro Q E s e q
  subst e
  obtain ⟨oa, hoa, hca, hda⟩ := id hl
  have hne : a ≠ s.heap.objs.size := Nat.ne_of_lt (Heap.lt_size hoa)
  refine wpAny_pyIter_list hl ?_
  have W := Walks.list (prog := X.prog) (w := X.w) hA s.heap.objs.size a hne vs.toArray
  have e1 : (fun (i : Nat) (v : Value) => vs.toArray[i]? = some v) = fun i v => vs[i]? = some v := by funext i v; simp
  rw [List.size_toArray, e1] at W
  have l0 : (s.heap.push { cls := .type "list_iterator", data := .fields #[.ref a, .int 0 0] }).IsListIter s.heap.objs.size a 0 ∧ (s.heap.push { cls := .type "list_iterator", data := .fields #[.ref a, .int 0 0] }).IsList a vs.toArray :=
    ⟨⟨_, Heap.get?_push_size _ rfl, rfl, rfl⟩, ⟨oa, Heap.get?_push_of_some _ hoa, hca, hda⟩⟩
  have live : ∀ (i : Nat) (h : Heap), (h.IsListIter s.heap.objs.size a i ∧ h.IsList a vs.toArray) → ∀ b ∈ [s.heap.objs.size, a], ∃ o, h.get? b = some o := by
    rintro i h ⟨⟨o, ho, _⟩, ⟨o2, ho2, _⟩⟩ b hb
    rcases List.mem_cons.mp hb with rfl | hb
    · exact ⟨o, ho⟩
    · rw [List.mem_singleton.mp hb]; exact ⟨o2, ho2⟩
  rcases hD with hD | hD
  · refine q _ _ [s.heap.objs.size] _ _ _ s.toks (fun b o e => Heap.get?_push_of_some _ e) W l0 (by simp) ?_ ?_ (fun b hb => by rw [List.mem_singleton.mp hb]; exact .head _) (fun b hb => hb) live
    · intro b hb; rw [List.mem_singleton.mp hb]; exact none_of_stays k (get_size _)
    · intro b hb
      rcases List.mem_cons.mp hb with rfl | hb
      · exact .inl (.head _)
      · rw [List.mem_singleton.mp hb]; exact .inr hD
  · refine q _ _ [s.heap.objs.size, a] _ _ _ s.toks (fun b o e => Heap.get?_push_of_some _ e) W l0 (by simp [Ne.symm hne]) ?_ (fun b hb => .inl hb) (fun b hb => hb) (fun b hb => by rw [List.mem_singleton.mp hb]; exact .head _) live
    intro b hb
    rcases List.mem_cons.mp hb with rfl | hb
    · exact none_of_stays k (get_size _)
    · rw [List.mem_singleton.mp hb]; exact hD

theorem nodup_append_of {a b : List (Addr × Obj)} (ha : (a.map (·.1)).Nodup) (hb : (b.map (·.1)).Nodup) (h : ∀ p ∈ a, ∀ q ∈ b, p.1 ≠ q.1) : ((a ++ b).map (·.1)).Nodup := by
  rw [List.map_append, List.nodup_append]
  refine ⟨ha, hb, fun x hx y hy e => ?_⟩
  obtain ⟨p, hp, rfl⟩ := List.mem_map.mp hx
  obtain ⟨q, hq, rfl⟩ := List.mem_map.mp hy
  exact h p hp q hq e
/-- the walker's own objects, as they stand -/
def ownAt (h : Heap) (fq : List Addr) : List (Addr × Obj) := fq.map fun b => (b, (h.get? b).getD default)
theorem ownAt_map (h : Heap) (fq : List Addr) : (ownAt h fq).map (·.1) = fq := by simp [ownAt, List.map_map, Function.comp_def]
theorem mem_ownAt {h : Heap} {fq : List Addr} {b : Addr} {o : Obj} (hb : b ∈ fq) (ho : h.get? b = some o) : (b, o) ∈ ownAt h fq := List.mem_map.mpr ⟨b, hb, by rw [ho]; rfl⟩

theorem Go.loop {x : Str} {px pos : Pos} {iter : Expr} {body : List Stmt} {spIt : Sp} {n : Nat} {P : Nat → Value → Prop} (J : Nat → (Str → Option Value) → List (Addr × Obj) → Prop) (hit : Ev X m N iter spIt)
    (hsrc : ∀ h0 v h, h0.StaysIn h → St X m N h0 → spIt.Is h0 v h → Src X (fun b => ∃ o, X.h0.get? b = some o) h0 v h n P) (h0 : J 0 m N)
    (turn : ∀ i v m1 N1 own, i < n → P i v → J i m1 N1 → N1.map (·.1) = N.map (·.1) → Go X (upd m1 x v) (N1 ++ own) body (fun fl m2 N2 h => match fl with
      | .next => ∃ N3, N2 = N3 ++ own ∧ N3.map (·.1) = N.map (·.1) ∧ J (i + 1) m2 N3
      | .cont => ∃ N3, N2 = N3 ++ own ∧ N3.map (·.1) = N.map (·.1) ∧ J (i + 1) m2 N3
      | .brk => False
      | .ret v => Z (.ret v) m2 N2 h))
    (done : ∀ m1 N1, J n m1 N1 → N1.map (·.1) = N.map (·.1) → Go X m1 N1 rest Z)
    (hs : ∀ x, foldedSetIterable iter X.env x = pure x := by intro _; rfl) (hx : X.env.kindOf x = some .local := by rfl)
    (hp : (X.env.scope.kind == .class || (X.env.scope.kind == .module && X.env.locals != X.env.globals)) = false := by rfl) : Go X m N (.For (.Name x px) iter body [] pos :: rest) Z := by
  intro Q E s hs' q qe
  refine wpAny_execs_cons (wpAny_For (hit _ _ s hs' fun v h1 tk1 st1 hv => hsrc s.heap v h1 st1 hs' hv _ _ _ rfl fun I fp fq wr S h2 tk2 st2 W hS0 hnd hfr hfp hfq hwr hlive => ?_) hs)
  have S2 := (hs'.stay st1).stay st2
  obtain ⟨oL, _, _, hL, _⟩ := hs'.fr.ns
  have hLq : X.env.locals ∉ fq := fun hm => by rw [hfr _ hm] at hL; cases hL
  have hLf : X.env.locals ∉ fp := fun hm => by
    rcases hfp _ hm with hq | ⟨o, ho⟩
    · exact hLq hq
    · exact absurd (Nat.lt_of_lt_of_le (Heap.lt_size ho) hs'.fr.above) (Nat.lt_irrefl _)
  have hbq : ∀ b ∈ fq, X.h0.get? b = none := fun b hb => none_of_stays hs'.base (hfr b hb)
  have hNq : ∀ N1 : List (Addr × Obj), N1.map (·.1) = N.map (·.1) → ∀ p ∈ N1, p.1 ∉ fq := fun N1 e p hp hm => by
    have h1 : p.1 ∈ N.map (·.1) := e ▸ List.mem_map_of_mem hp
    obtain ⟨p', hp', e'⟩ := List.mem_map.mp h1
    have := hs'.get (a := p'.1) (o := p'.2) hp'
    rw [e', hfr _ hm] at this; cases this
  refine codeAny_forLoop (fun k s' => ∃ i m1 N1 h' tk, s' = { s with heap := h', toks := tk } ∧ S i h' ∧ St X m1 N1 h' ∧ N1.map (·.1) = N.map (·.1) ∧ J i m1 N1 ∧ i ≤ n ∧ k = n + 1 - i) ?_ (n + 1) ⟨0, m, N, h2, tk2, rfl, hS0, S2, rfl, h0, Nat.zero_le _, rfl⟩
  rintro k s' ⟨i, m1, N1, h', tk, rfl, hSi, St1, hN1, hJ, hi, rfl⟩
  have next : ∀ h3 : Heap, (∀ b o, b ∉ wr → h'.get? b = some o → h3.get? b = some o) → St X m1 N1 h3 := fun h3 hk =>
    ⟨⟨St1.fr.ns.at' fun o e => hk _ o (fun h => hLq (hwr _ h)) e, fun b o e => hk b o (fun h => by rw [hbq b (hwr _ h)] at e; cases e) (St1.fr.keep b o e), St1.fr.above⟩,
      fun p hp => ⟨hk _ _ (fun h => hNq N1 hN1 p hp (hwr _ h)) (St1.nw p hp).1, (St1.nw p hp).2⟩, St1.nd⟩
  by_cases hlt : i < n
  · refine W.item i _ _ _ hlt hSi fun u h3 tk3 hP hS3 hk3 => ?_
    have St3 := next h3 hk3
    refine wpAny_assign_Name (wpAny_storeName_local hx St3.fr.ns (fun h4 hn4 hs4 => ?_) hp)
    have St4 := St3.store hn4 hs4
    have hS4 : S (i + 1) h4 := W.frame _ _ _ hS3 fun b hb o e => (hs4.2 b fun q => hLf (q ▸ hb)).trans e
    have St5 : St X (upd m1 x u) (N1 ++ ownAt h4 fq) h4 := by
      refine ⟨St4.fr, fun p hp => ?_, nodup_append_of St4.nd (by rw [ownAt_map]; exact hnd) ?_⟩
      · rcases List.mem_append.mp hp with hp | hp
        · exact St4.nw p hp
        · obtain ⟨b, hb, rfl⟩ := List.mem_map.mp hp
          obtain ⟨o, ho⟩ := hlive _ _ hS4 b (hfq b hb)
          exact ⟨by rw [ho]; rfl, fun e => hLq (e ▸ hb), hbq b hb⟩
      · intro p hp r hr e
        obtain ⟨b, hb, rfl⟩ := List.mem_map.mp hr
        exact hNq N1 hN1 p hp (e ▸ hb)
    refine turn i u m1 N1 (ownAt h4 fq) hlt hP hJ hN1 _ _ _ St5 (fun fl m2 N2 h5 tk5 St6 hZ => ?_) fun e h6 tk6 x => X.pas _ { s with heap := h6, toks := tk6 } e x fun e' h7 tk7 x' => qe e' h7 tk7 x'
    have fin : (∃ N3, N2 = N3 ++ ownAt h4 fq ∧ N3.map (·.1) = N.map (·.1) ∧ J (i + 1) m2 N3) → ∃ k', k' < n + 1 - i ∧ ∃ i m1 N1 h' tk, ({ s with heap := h5, toks := tk5 } : Shared) = { s with heap := h', toks := tk } ∧ S i h' ∧ St X m1 N1 h' ∧ N1.map (·.1) = N.map (·.1) ∧ J i m1 N1 ∧ i ≤ n ∧ k' = n + 1 - i := by
      rintro ⟨N3, rfl, hN3, hJ3⟩
      refine ⟨n + 1 - (i + 1), by omega, i + 1, m2, N3, h5, tk5, rfl, ?_, ⟨St6.fr, fun p hp => St6.nw p (List.mem_append_left _ hp), ?_⟩, hN3, hJ3, hlt, rfl⟩
      · refine W.frame _ _ _ hS4 fun b hb o e => ?_
        rcases hfp b hb with hq | ⟨o', ho'⟩
        · exact St6.get (List.mem_append_right _ (mem_ownAt hq e))
        · have h6 := St4.base b o' ho'
          rw [e] at h6
          cases h6
          exact St6.base b o ho'
      · have h7 := St6.nd
        rw [List.map_append, List.nodup_append] at h7
        exact h7.1
    cases fl with
    | next => exact fin hZ
    | cont => exact fin hZ
    | brk => exact hZ.elim
    | ret v => exact q _ _ _ _ _ St6 hZ
  · have hin : i = n := by omega
    subst hin
    refine W.done _ _ _ hSi fun h3 tk3 hk3 => wpAny_execs_nil ?_
    exact done m1 N1 hJ hN1 _ _ _ (next h3 hk3) q qe
end
end Mine
end

section
open PySem PySem.W PySem.Calls PyProof.Rows PySem.Spec
set_option Elab.async false
set_option linter.unusedVariables false
set_option linter.unusedSimpArgs false
set_option maxRecDepth 100000
namespace Mine
theorem stays_extBut {h h' : Heap} (e : Heap.ExtBut h.objs.size h h') : h.StaysIn h' := fun b o q => e b o (Nat.ne_of_lt (Heap.lt_size q)) q
/-- one object of ours is another one -/
inductive Ch (a : Addr) (o o' : Obj) : List (Addr × Obj) → List (Addr × Obj) → Prop
  | head {r} : Ch a o o' ((a, o) :: r) ((a, o') :: r)
  | tail {p r r'} : Ch a o o' r r' → Ch a o o' (p :: r) (p :: r')
theorem Ch.mem {a : Addr} {o o' : Obj} {N N' : List (Addr × Obj)} (c : Ch a o o' N N') : (a, o) ∈ N := by
  induction c with
  | head => exact .head _
  | tail _ ih => exact .tail _ ih
theorem Ch.map {a : Addr} {o o' : Obj} {N N' : List (Addr × Obj)} (c : Ch a o o' N N') : N'.map (·.1) = N.map (·.1) := by
  induction c with
  | head => rfl
  | tail _ ih => simp [ih]
theorem Ch.cases {a : Addr} {o o' : Obj} {N N' : List (Addr × Obj)} (c : Ch a o o' N N') (hn : (N.map (·.1)).Nodup) : ∀ p ∈ N', p = (a, o') ∨ (p ∈ N ∧ p.1 ≠ a) := by
  induction c with
  | @head r =>
    intro p hp
    rw [List.map_cons, List.nodup_cons] at hn
    rcases List.mem_cons.mp hp with rfl | hp
    · exact .inl rfl
    · exact .inr ⟨.tail _ hp, fun e => hn.1 (List.mem_map.mpr ⟨p, hp, e⟩)⟩
  | @tail p' r r' c ih =>
    intro p hp
    rw [List.map_cons, List.nodup_cons] at hn
    rcases List.mem_cons.mp hp with rfl | hp
    · exact .inr ⟨.head _, fun e => hn.1 (List.mem_map.mpr ⟨(a, o), c.mem, e.symm⟩)⟩
    · rcases ih hn.2 p hp with h | ⟨h1, h2⟩
      · exact .inl h
      · exact .inr ⟨.tail _ h1, h2⟩
section
variable {X : Fx} {m : Str → Option Value} {N N' : List (Addr × Obj)} {Z : Zt} {rest : List Stmt}
theorem St.turn {a : Addr} {o o' : Obj} {h h' : Heap} (S : St X m N h) (c : Ch a o o' N N') (ha : h'.get? a = some o') (hk : ∀ b ob, b ≠ a → h.get? b = some ob → h'.get? b = some ob) : St X m N' h' := by
  obtain ⟨_, hL, h0⟩ := S.nw _ c.mem
  refine ⟨⟨S.fr.ns.at' fun ob e => hk _ ob (Ne.symm hL) e, fun b ob e => hk b ob (fun e' => by rw [e', h0] at e; cases e) (S.fr.keep b ob e), S.fr.above⟩, fun p hp => ?_, by rw [c.map]; exact S.nd⟩
  rcases c.cases S.nd p hp with rfl | ⟨h1, h2⟩
  · exact ⟨ha, hL, h0⟩
  · exact ⟨hk _ _ h2 (S.nw p h1).1, (S.nw p h1).2⟩

/-- a call of a method that turns an object of ours: x.meth(e) -/
theorem Go.meth {x name : Str} {p1 apos cpos epos : Pos} {g : Expr} {a : Addr} {o : Obj} {id : String} {pl : Sem Bool} {sp : Sp} {O : Obj → Prop} (hx : m x = some (.ref a)) (hm : (a, o) ∈ N) (hg : Ev X m N g sp)
    (hgm : ∀ (h : Heap) (Q : Value × List Value → Shared → Prop) (E : Value → Shared → Prop) (s : Shared), s.heap = h → h.get? a = some o → Q (.builtin id, [.ref a]) s → wpAny X.M X.A (getMethod (.ref a) name pl) Q E s)
    (hc : ∀ h0 v h, h0.StaysIn h → St X m N h → sp.Is h0 v h → ∀ (Q : Value → Shared → Prop) (E : Value → Shared → Prop) (s : Shared), s.heap = h →
      (∀ u o' h' tk, O o' → h'.get? a = some o' → (∀ b ob, b ≠ a → h.get? b = some ob → h'.get? b = some ob) → Q u { s with heap := h', toks := tk }) → wpAny X.M X.A (call (.builtin id) [.ref a, v]) Q E s)
    {f : Obj → List (Addr × Obj)} (hch : ∀ o', Ch a o o' N (f o')) (k : ∀ o', O o' → Go X m (f o') rest Z)
    (hp : plainE g = true := by rfl) (hk : X.env.scope.kind = .function := by rfl) (hl : X.env.kindOf x = some .local := by rfl) (hd : (x == ("__debug__" : Str)) = false := by decide)
    (he : eval (.Call (.Attribute (.Name x p1) name apos) [g] [] cpos) X.env = (do
        let ov ← eval (.Name x p1) X.env
        standAt apos.atName
        let (f, first) ← holding [ov] (getMethod ov name pl)
        callWith cpos f first (backTo cpos (starEach [g] X.env)) []) := by rfl)
    (hi : interactive X.env = false := by rfl) (hsw : swapsWith (.Call (.Attribute (.Name x p1) name apos) [g] [] cpos) none epos.line X.env = pure false := by rfl) :
    Go X m N (.Expr (.Call (.Attribute (.Name x p1) name apos) [g] [] cpos) epos :: rest) Z := by
  intro Q E s hs q qe
  refine wpAny_execs_cons (wpAny_Expr_any (MethodCall_ (Ev.name hx hk hl hd _ _ s hs fun v h1 tk1 st1 hv => ?_) he) hi hsw)
  have hv' : v = .ref a := hv
  subst hv'
  refine hgm h1 _ _ _ rfl ((hs.stay st1).get hm) ?_
  have hpl : [g].all plainE = true := by simp [hp]
  have hany : ((backTo cpos (starEach [g] X.env)).any (·.1) || ([] : List (Option Str × Sem Value)).any (·.1.isNone)) = false := by rw [starEach_plain hpl]; simp
  refine callWith_of (P := fun _ => True) hany (fun _ _ => ⟨.machine, .inr (.inl rfl), Looks.of_pure rfl⟩) ?_
  rw [starEach_plain hpl]
  refine evalArgs_plain (Calls.spliced_cons (hg _ _ _ (hs.stay st1) fun v h2 tk2 st2 hv => Calls.spliced_nil ⟨trivial, ?_⟩))
  refine hc h1 v h2 st2 ((hs.stay st1).stay st2) hv _ _ _ rfl fun u o' h3 tk3 ho ha hk3 => ?_
  exact k o' ho _ _ _ (((hs.stay st1).stay st2).turn (hch o') ha hk3) q qe

theorem Go.whil {test : Expr} {body : List Stmt} {pos : Pos} {k0 : Nat} (J : Nat → (Str → Option Value) → List (Addr × Obj) → Prop) (h0 : J k0 m N)
    (turn : ∀ k m1 N1, J k m1 N1 → ∃ b, Ts X m1 N1 test b ∧ (b = true → Go X m1 N1 body (fun fl m2 N2 h => match fl with
        | .next => ∃ k', k' < k ∧ J k' m2 N2
        | .cont => ∃ k', k' < k ∧ J k' m2 N2
        | .brk => False
        | .ret v => Z (.ret v) m2 N2 h)) ∧ (b = false → Go X m1 N1 rest Z)) : Go X m N (.While test body [] pos :: rest) Z := by
  intro Q E s hs q qe
  refine wpAny_execs_cons (wpAny_While (codeAny_whileLoop (fun k s' => ∃ m1 N1 h' tk, s' = { s with heap := h', toks := tk } ∧ St X m1 N1 h' ∧ J k m1 N1) ?_ k0 ⟨m, N, s.heap, s.toks, rfl, hs, h0⟩))
  rintro k s' ⟨m1, N1, h', tk, rfl, S1, hJ⟩
  obtain ⟨b, hb, ht, hf⟩ := turn k m1 N1 hJ
  refine hb _ _ _ S1 fun v h2 tk2 st2 hv => ?_
  subst hv
  cases v with
  | true =>
    rw [if_pos rfl]
    refine ht rfl _ _ _ (S1.stay st2) (fun fl m2 N2 h3 tk3 S3 hZ => ?_) fun e h6 tk6 x => X.pas _ { s with heap := h6, toks := tk6 } e x fun e' h7 tk7 x' => qe e' h7 tk7 x'
    cases fl with
    | next => obtain ⟨k', hk', hJ'⟩ := hZ; exact ⟨k', hk', m2, N2, h3, tk3, rfl, S3, hJ'⟩
    | cont => obtain ⟨k', hk', hJ'⟩ := hZ; exact ⟨k', hk', m2, N2, h3, tk3, rfl, S3, hJ'⟩
    | brk => exact hZ.elim
    | ret v => exact q _ _ _ _ _ S3 hZ
  | false =>
    rw [if_neg Bool.false_ne_true]
    exact wpAny_execs_nil (hf rfl _ _ _ (S1.stay st2) q qe)

theorem Go.cont {pos : Pos} (h : ∀ h, St X m N h → Z .cont m N h) : Go X m N (.Continue pos :: rest) Z :=
  fun Q E s hs q qe => wpAny_execs_cons (wpAny_Continue (q _ _ _ s.heap s.toks hs (h _ hs)))
theorem Go.augI {x : Str} {p1 p2 : Pos} {e : Expr} {i j : Int} {t : Tok} (hx : m x = some (.int i t)) (he : Ev X m N e (sI j)) (k : ∀ t, Go X (upd m x (.int (i + j) t)) N rest Z)
    (hk : X.env.scope.kind = .function := by rfl) (hl : X.env.kindOf x = some .local := by rfl)
    (hp : (X.env.scope.kind == .class || (X.env.scope.kind == .module && X.env.locals != X.env.globals)) = false := by rfl) : Go X m N (.AugAssign (.Name x p1) .Add e p2 :: rest) Z := by
  intro Q E s hs q qe
  refine wpAny_execs_cons (wpAny_AugAssign_Name (wpAny_loadName_local hk hl hs.fr.ns hx (he _ _ s hs fun v h1 tk1 st1 hv => ?_)))
  obtain ⟨u, rfl⟩ := hv
  refine iadd_int (wpAny_storeName_local hl (hs.stay st1).fr.ns (fun h2 hn hsb => ?_) hp)
  exact k _ _ _ _ ((hs.stay st1).store hn hsb) q qe
/-- a, b = e -/
theorem Go.unpack2 {x y : Str} {p1 p2 tp pos : Pos} {k : Nat} {e : Expr} {P1 P2 : Value → Prop} (he : Ev X m N e (sU fun vs => ∃ v u, vs = [v, u] ∧ P1 v ∧ P2 u)) (hA : X.A.handled = none) (kk : ∀ v u, P1 v → P2 u → Go X (upd (upd m x v) y u) N rest Z)
    (hs : swapsWithSole [.Tuple [.Name x p1, .Name y p2] k tp] e pos.line X.env = pure false := by rfl)
    (hw : swappedStores [.Tuple [.Name x p1, .Name y p2] k tp] e X.env = pure none := by rfl) (hl1 : X.env.kindOf x = some .local := by rfl) (hl2 : X.env.kindOf y = some .local := by rfl)
    (hp : (X.env.scope.kind == .class || (X.env.scope.kind == .module && X.env.locals != X.env.globals)) = false := by rfl) : Go X m N (.Assign [.Tuple [.Name x p1, .Name y p2] k tp] e pos :: rest) Z := by
  intro Q E s hS q qe
  refine wpAny_execs_cons (Assign_Tuple (he _ _ s hS fun v h1 tk1 st1 hv => ?_) hs hw)
  obtain ⟨a, vs, n, rfl, ha, v, u, rfl, hv, hu⟩ := hv
  refine assign_Tuple_tuple (items := #[v, u]) hA ⟨_, ha, rfl, n, rfl⟩ rfl rfl fun h2 he2 => ?_
  have S2 := (hS.stay st1).stay (stays_extBut he2)
  show wpAny X.M X.A (do holding [u] (PySem.assign (.Name x p1) X.env v); assignInOrder [PySem.assign (.Name y p2) X.env] [u]) _ E _
  refine wpAny_bind (wpAny_holding (wpAny_assign_Name (wpAny_storeName_local hl1 S2.fr.ns (fun h3 hn3 hs3 => ?_) hp)))
  have S3 := S2.store hn3 hs3
  show wpAny X.M X.A (do holding [] (PySem.assign (.Name y p2) X.env u); assignInOrder [] []) _ E _
  refine wpAny_bind (wpAny_holding (wpAny_assign_Name (wpAny_storeName_local hl2 S3.fr.ns (fun h4 hn4 hs4 => ?_) hp)))
  exact wpAny_pure (kk v u hv hu _ _ _ (S3.store hn4 hs4) q qe)
end
end Mine
end

section
open PySem PySem.W PySem.Calls PyProof.Rows PySem.Spec
set_option Elab.async false
set_option linter.unusedVariables false
set_option linter.unusedSimpArgs false
set_option maxRecDepth 100000
namespace Mine
section
variable {X : Fx} {m : Str → Option Value} {N N' : List (Addr × Obj)} {Z : Zt} {rest : List Stmt}

/-- slices: a part is none or an int -/
def Prt (X : Fx) (m : Str → Option Value) (N : List (Addr × Obj)) : Option Expr → Option Int → Prop
  | none, none => True
  | some e, some i => Ev X m N e (sI i)
  | _, _ => False
theorem Prt.run {e : Option Expr} {i : Option Int} (h : Prt X m N e i) : Rn X (St X m N) (evalPart e X.env) (fun _ v _ => IsPart v i) := by
  intro Q E s hs q
  cases e with
  | none =>
    cases i with
    | none => rw [evalPart_none]; exact wpAny_pure (q _ s.heap s.toks (stays_refl _) .none)
    | some _ => exact h.elim
  | some e =>
    cases i with
    | none => exact h.elim
    | some i =>
      rw [evalPart_some]
      exact h _ _ s hs fun v h' tk st hv => by obtain ⟨t, rfl⟩ := hv; exact q _ h' tk st (.int _ _)
/-- v[l:u] -/
theorem ev_slice {value : Expr} {lo hi : Option Expr} {sp pos : Pos} {l u : Option Int} {sp1 sp2 : Sp} (h1 : Ev X m N value sp1) (hl : Prt X m N lo l) (hu : Prt X m N hi u)
    (h : ∀ h0 o vl vu h a, h0.StaysIn h → sp1.Is h0 o h → IsPart vl l → IsPart vu u → h.IsSliceOf a vl vu .none → Rn X (fun h' => h' = h) (subscriptTail value (.Slice lo hi none sp) o (.ref a)) sp2.Is) :
    Ev X m N (.Subscript value (.Slice lo hi none sp) pos) sp2 := by
  intro Q E s hs q
  refine Subscript_ (h1 _ _ s hs fun o h1 tk1 st1 ho => ?_)
  refine wpAny_Slice (hl.run _ _ _ (hs.stay st1) fun vl h2 tk2 st2 hvl => hu.run _ _ _ ((hs.stay st1).stay st2) fun vu h3 tk3 st3 hvu => ?_)
  rw [evalPart_none]
  refine wpAny_pure ?_
  have st4 : s.heap.StaysIn h3 := stays_trans (stays_trans st1 st2) st3
  have st5 : h3.StaysIn (h3.push { cls := .type "slice", data := .fields #[vl, vu, .none] }) := fun b o e => Heap.get?_push_of_some _ e
  refine h s.heap o vl vu _ h3.objs.size (stays_trans st4 st5) (Sp.wk (stays_refl _) (stays_trans (stays_trans st2 st3) st5) ho) hvl hvu (Heap.IsSliceOf.new _ _ _ _) _ _ _ rfl fun v h6 tk6 st6 hv => ?_
  exact q v h6 tk6 (stays_trans (stays_trans st4 st5) st6) (Sp.wk (stays_trans st4 st5) (stays_refl _) hv)

/-- the part that a plain slice takes -/
def cut {α : Type} (l : List α) (a b : Nat) : List α := (l.drop a).take (b - a)
def cutO {α : Type} (l : List α) (lo hi : Option Nat) : List α := cut l (lo.getD 0) (hi.getD l.length)

theorem IsPart.tok {v : Value} {i : Option Int} (h : IsPart v i) : ∃ p : Option (Int × Tok), p.map (·.1) = i ∧ v = (match p with | none => .none | some (j, t) => .int j t) := by
  cases h with
  | none => exact ⟨none, rfl, rfl⟩
  | int i t => exact ⟨some (i, t), rfl, rfl⟩
def oi : Option Nat → Option Int
  | none => none
  | some n => some (n : Int)
theorem slice_sx {l : List Nat} {lo hi : Option Nat} (h1 : lo.getD 0 ≤ hi.getD l.length) (h2 : hi.getD l.length ≤ l.length) (h3 : lo = none → hi = none → False) : Txt.slice (sx l) (oi lo) (oi hi) = sx (cutO l lo hi) := by
  have e (x : Str) (a b : Option Int) : Txt.slice x a b = StrLaws.sliceText x a b := rfl
  rw [e]
  cases lo with
  | none =>
    cases hi with
    | none => exact (h3 rfl rfl).elim
    | some b =>
      simp only [Option.getD_some, Option.getD_none] at h1 h2
      rw [oi, oi, StrLaws.sliceText_to (by simp [sx]; omega)]
      simp [sx, cutO, cut]
  | some a =>
    cases hi with
    | none =>
      simp only [Option.getD_some, Option.getD_none] at h1 h2
      rw [oi, oi, StrLaws.sliceText_from (by simp [sx]; omega)]
      simp [sx, cutO, cut]
    | some b =>
      simp only [Option.getD_some, Option.getD_none] at h1 h2
      rw [oi, oi, StrLaws.sliceText_plain (by simp [sx]; omega)]
      simp [sx, cutO, cut]
theorem clip_nat (n a : Nat) : clipAt n (a : Int) = min a n := by
  have := clipAt_cast n (a : Int)
  rw [if_neg (by omega)] at this
  omega
theorem cutO_clip {α : Type} (l : List α) (lo hi : Option Nat) : (l.drop ((oi lo).elim 0 (clipAt l.length))).take ((oi hi).elim l.length (clipAt l.length) - (oi lo).elim 0 (clipAt l.length)) = cutO l lo hi := by
  have key : ∀ a b : Nat, (l.drop (min a l.length)).take (min b l.length - min a l.length) = (l.drop a).take (b - a) := by
    intro a b
    by_cases ha : a ≤ l.length
    · rw [Nat.min_eq_left ha]
      by_cases hb : b ≤ l.length
      · rw [Nat.min_eq_left hb]
      · rw [Nat.min_eq_right (by omega), List.take_of_length_le (by simp), List.take_of_length_le (by simp; omega)]
    · rw [Nat.min_eq_right (show l.length ≤ a by omega), List.drop_of_length_le (Nat.le_refl _), List.drop_of_length_le (show l.length ≤ a by omega)]; simp
  unfold cutO cut
  cases lo with
  | none =>
    cases hi with
    | none => simp [oi]
    | some b => simpa [oi, clip_nat] using key 0 b
  | some a =>
    cases hi with
    | none => simpa [oi, clip_nat] using key a l.length
    | some b => simpa [oi, clip_nat] using key a b
theorem slice_bx {l : List Nat} {lo hi : Option Nat} : KBy.picked (bx l) (oi lo) (oi hi) = bx (cutO l lo hi) := by
  rw [KBc.picked_eq]
  have e1 : (bx l).toList = l.map Nat.toUInt8 := by simp [bx]
  have e2 : (bx l).size = (l.map Nat.toUInt8).length := by simp [bx]
  rw [e1, e2, cutO_clip]
  simp [bx, cutO, cut, List.map_take, List.map_drop]
theorem Ev.strS {value : Expr} {lo hi : Option Expr} {sp pos : Pos} {a b : Option Nat} {l : List Nat} (h1 : Ev X m N value (sT (sx l))) (hl : Prt X m N lo (oi a)) (hu : Prt X m N hi (oi b))
    (hab : a.getD 0 ≤ b.getD l.length) (hb : b.getD l.length ≤ l.length) (h3 : a = none → b = none → False) (hz : l.length ≤ 1000000)
    (hs : ∀ x t c, subscripted (.Slice lo hi none sp) false (Value.str x t) (Value.ref c) = operate [Value.ref c, Value.str x t] (getItem (.str x t) (Value.ref c)) := by intro _ _ _; rfl)
    (ht : ∀ x t r, letTemporaryGo value (.str x t) r = pure () := by intro _ _ _; rfl) : Ev X m N (.Subscript value (.Slice lo hi none sp) pos) (sT (sx (cutO l a b))) := by
  refine ev_slice h1 hl hu ?_
  rintro h0 o vl vu h c st ⟨t, rfl⟩ hvl hvu ⟨ob, hob, hcl, hd⟩ Q E s e q
  subst e
  obtain ⟨pl, epl, rfl⟩ := IsPart.tok hvl
  obtain ⟨pu, epu, rfl⟩ := IsPart.tok hvu
  have hsl : s.heap.IsSlice c pl pu none := ⟨ob, hob, hcl, by rw [hd]; cases pl <;> cases pu <;> rfl⟩
  have e : Txt.slice (sx l) (pl.map (·.1)) (pu.map (·.1)) = sx (cutO l a b) := by rw [epl, epu, slice_sx hab hb h3]
  refine tail_of_ItemOn ⟨"str", _, F.slot_str_getitem.lookup, typeIs_str _ _ _, wpAny_getItem_str_slice hsl rfl (post_val_or_str ⟨?_, fun t' k => ?_⟩)⟩ (hs _ _ _) (fun r => ht _ _ r)
  · show (Txt.slice (sx l) (pl.map (·.1)) (pu.map (·.1))).length ≤ sizeLine
    refine Nat.le_trans (Txt.slice_le _ _ _) ?_
    rw [sx_len, sizeLine_eq]; omega
  · show Q (.str (Txt.slice (sx l) (pl.map (·.1)) (pu.map (·.1))) t') _
    rw [e]
    exact q _ s.heap k (stays_refl _) ⟨_, rfl⟩
theorem Ev.bytS {value : Expr} {lo hi : Option Expr} {sp pos : Pos} {a b : Option Nat} {l : List Nat} (h1 : Ev X m N value (sY (bx l))) (hl : Prt X m N lo (oi a)) (hu : Prt X m N hi (oi b)) (hz : l.length ≤ 1000000)
    (hs : ∀ x t c, subscripted (.Slice lo hi none sp) false (Value.bytes x t) (Value.ref c) = operate [Value.ref c, Value.bytes x t] (getItem (.bytes x t) (Value.ref c)) := by intro _ _ _; rfl)
    (ht : ∀ x t r, letTemporaryGo value (.bytes x t) r = pure () := by intro _ _ _; rfl) : Ev X m N (.Subscript value (.Slice lo hi none sp) pos) (sY (bx (cutO l a b))) := by
  refine ev_slice h1 hl hu ?_
  rintro h0 o vl vu h c st ⟨t, rfl⟩ hvl hvu hsl Q E s e q
  subst e
  refine tail_of_ItemOn ⟨"bytes", _, FB.slot_bytes_getitem.lookup, typeIs_bytes s (bx l) t, getItem_meets (typeIs_bytes s (bx l) t) (by decide) FB.slot_bytes_getitem FB.entry_bytes_getitem (FB.args_bytes_getitem_2 _ _) (KBc.meets_slice2 (bx l) t c hvl hvu)
    ⟨hsl, Nat.le_trans (KBc.size_picked_le _ _ _) (by rw [bx_size, sizeLine_eq]; omega), fun t' k => ?_⟩⟩ (hs _ _ _) (fun r => ht _ _ r)
  rw [slice_bx]
  exact q _ s.heap k (stays_refl _) ⟨_, rfl⟩
theorem slice_vs {vs : List Value} {lo hi : Option Nat} : slicePick vs.toArray (oi lo) (oi hi) none = (cutO vs lo hi).toArray := by
  rw [slicePick_plain]
  rw [← cutO_clip]
  simp
theorem Ev.lstS {value : Expr} {lo hi : Option Expr} {sp pos : Pos} {a b : Option Nat} {P P' : List Value → Prop} (h1 : Ev X m N value (sL P)) (hl : Prt X m N lo (oi a)) (hu : Prt X m N hi (oi b)) (hz : ∀ vs, P vs → vs.length ≤ 1000000) (hP : ∀ vs, P vs → P' (cutO vs a b))
    (hs : ∀ x c, subscripted (.Slice lo hi none sp) false (Value.ref x) (Value.ref c) = operate [Value.ref c, Value.ref x] (getItem (.ref x) (Value.ref c)) := by intro _ _; rfl)
    (ht : ∀ x r, letTemporaryGo value (.ref x) r = pure () := by intro _ _; rfl) : Ev X m N (.Subscript value (.Slice lo hi none sp) pos) (nL P') := by
  refine ev_slice h1 hl hu ?_
  rintro h0 o vl vu h c st ⟨x, vs, n, rfl, hx, hp⟩ hvl hvu hsl Q E s e q
  subst e
  refine tail_of_ItemOn ⟨"list", _, slot_list_getitem.lookup, (isList_of hx).typeIs, wpAny_getItem_list_slice (isList_of hx) hsl hvl hvu .none (by simp) (q _ _ s.toks (fun b o e => Heap.get?_push_of_some _ e) ⟨s.heap.objs.size, Mine.lo (cutO vs a b) 0, rfl, get_size _, ?_, _, 0, rfl, hP _ hp⟩) ?_⟩ (hs _ _) (fun r => ht _ r)
  · rw [slice_vs]; exact Heap.get?_push_size _ rfl
  · have := hz _ hp; rw [List.size_toArray, sizeLine_eq]; omega
end
end Mine
end

section
open PySem PySem.W PySem.Calls PyProof.Rows PySem.Spec
set_option Elab.async false
set_option linter.unusedVariables false
set_option linter.unusedSimpArgs false
set_option maxRecDepth 100000
namespace Mine
theorem hideAll_stays {h : Heap} {l : List Addr} : (hideAll h l).StaysIn h := fun b o e => of_hideAll l e
theorem paired_get {α β : Type} {F : α → β → Prop} : ∀ {xs : List α} {ys : List β}, Paired F xs ys → xs.length = ys.length ∧ ∀ (j : Nat) (y : β), ys[j]? = some y → ∃ x, xs[j]? = some x ∧ F x y
  | _, _, .nil => ⟨rfl, fun j y e => by cases j <;> cases e⟩
  | _, _, .cons h r => by
    obtain ⟨h1, h2⟩ := paired_get r
    refine ⟨by simp [h1], fun j y e => ?_⟩
    cases j with
    | zero => cases e; exact ⟨_, rfl, h⟩
    | succ j => simpa using h2 j y (by simpa using e)
/-- every item as said -/
def Each (n : Nat) (G : Nat → Value → Prop) : List Value → Prop := fun ys => ys.length = n ∧ ∀ j y, ys[j]? = some y → G j y
section
variable {X : Fx} {m : Str → Option Value} {N N' : List (Addr × Obj)} {Z : Zt} {rest : List Stmt}

/-- the frame of a comprehension -/
abbrev Fx.comp (X : Fx) (scope : Scope) (cl : List (Str × Addr)) (C : Addr) (h0 : Heap) : Fx := { prog := X.prog, w := X.w, A := X.A, env := compEnvC scope cl C X.env, h0 := h0 }

theorem comp_quiet {elt : Expr} {x : Str} {scope : Scope} {cl : List (Str × Addr)} {P : Nat → Value → Prop} {F : Value → Value → Prop} {s₂ : Shared} {wr : List Addr} (S : St X m N s₂.heap) (hwr : ∀ b ∈ wr, X.h0.get? b = none ∧ ∀ p ∈ N, p.1 ≠ b)
    (helt : ∀ C g, X.h0.StaysIn g → (∀ p ∈ N, g.get? p.1 = some p.2) → ∀ i v m', P i v → m' x = some v → Ev (X.comp scope cl C g) m' [] elt (.pl (F v))) :
    QuietOnC X.prog X.w X.A X.env scope cl x [] elt wr P (fun _ => true) F s₂ := by
  refine ⟨fun C i v s₃ m₃ E' hC hP hn hm hk htk => ?_, fun C i v s₃ m₃ E' hC hP _ hn hm hk htk => ?_⟩
  · rw [List.forIn_nil]
    exact wpAny_pure ⟨rfl, s₃.heap, s₃.toks, rfl, fun _ _ e => e⟩
  · have hg : X.h0.StaysIn (hideAll s₂.heap wr) := fun b o e => hideAll_get wr (S.base _ _ e) fun hm => by rw [(hwr b hm).1] at e; cases e
    have hN : ∀ p ∈ N, (hideAll s₂.heap wr).get? p.1 = some p.2 := fun p hp => hideAll_get wr (S.nw p hp).1 fun hm => (hwr _ hm).2 p hp rfl
    have hkk : (hideAll s₂.heap wr).StaysIn s₃.heap := fun b o e => hk b o (fun hm => by rw [hideAll_none wr hm] at e; cases e) (of_hideAll wr e)
    refine helt C (hideAll s₂.heap wr) hg hN i v m₃ hP hm _ _ s₃ ⟨⟨hn, hkk, by rw [hideAll_size]; exact hC⟩, (fun _ hp => nomatch hp), List.nodup_nil⟩ fun y h' tk st hy => ⟨hy, h', tk, rfl, st⟩

theorem Ev.comp {elt iter : Expr} {x : Str} {px pos : Pos} {scope : Scope} {spIt : Sp} {n : Nat} {P : Nat → Value → Prop} {F : Value → Value → Prop} {G : Nat → Value → Prop} (cl : List (Str × Addr)) (hit : Ev X m N iter spIt)
    (hsrc : ∀ h0 v h, h0.StaysIn h → St X m N h → St X m N h0 → spIt.Is h0 v h → Src X (fun b => ∃ o, h.get? b = some o) h0 v h n P)
    (helt : ∀ C g, X.h0.StaysIn g → (∀ p ∈ N, g.get? p.1 = some p.2) → ∀ i v m', P i v → m' x = some v → Ev (X.comp scope cl C g) m' [] elt (.pl (F v)))
    (hG : ∀ i v y, P i v → F v y → G i y) (hn : n ≤ 1000000)
    (hclos : closureFor scope X.env = pure cl) (hcell : ∀ y ∈ scope.names, y.2 ≠ .cell) (hnames : ∀ y ∈ scope.names, y.2 = .local → scope.names.lookup y.1 = some .local)
    (hkind : scope.kind = .function := by rfl) (hx : scope.names.lookup x = some .local := by rfl) (hs : ∀ v, foldedSetIterable iter X.env v = pure v := by intro _; rfl) :
    Ev X m N (.ListComp elt [⟨.Name x px, iter, [], 0⟩] scope pos) (nL (Each n G)) := by
  intro Q E s hs' q
  refine wpAny_ListComp_free (fun _ => true) F hclos hcell hkind hnames hx (hit _ _ s hs' fun v h1 tk1 st1 hv => hsrc s.heap v h1 st1 (hs'.stay st1) hs' hv _ _ _ rfl fun I fp fq wr S h2 tk2 st2 W hS0 hnd hfr hfp hfq hwr hlive => ?_) hs
  have S2 := (hs'.stay st1).stay st2
  refine ⟨I, fp, wr, n, P, S, rfl, W, by rw [sizeLine_eq]; omega, hS0, fun b hb => ?_, comp_quiet S2 (fun b hb => ?_) helt, ?_⟩
  · obtain ⟨o, ho⟩ := hlive _ _ hS0 b hb
    exact Heap.lt_size ho
  · have h0 := hfr b (hwr b hb)
    exact ⟨none_of_stays hs'.base h0, fun p hp e => by have := hs'.get (a := p.1) (o := p.2) hp; rw [e, h0] at this; cases this⟩
  · rintro D h' tk ys vs hD hl ⟨nn, hpl⟩ hlen hPv hF hk
    have hF' : Paired F vs ys.toList := by have e : vs.filter (fun _ => true) = vs := List.filter_eq_self.mpr fun _ _ => rfl; rw [e] at hF; exact hF
    obtain ⟨e1, e2⟩ := paired_get hF'
    have st3 : s.heap.StaysIn h' := fun b o e => hk b o (fun hm => by rw [hfr b (hwr b hm)] at e; cases e) (st2 _ _ (st1 _ _ e))
    refine q (.ref D) h' tk st3 ⟨D, lo ys.toList nn, rfl, none_of_stays (stays_trans st1 st2) hD, hpl, _, _, rfl, ?_, ?_⟩
    · rw [← e1, hlen]
    · intro j y hy
      obtain ⟨v, hv, hf⟩ := e2 j y hy
      exact hG j v y (hPv j v hv) hf
theorem Go.assignComp {elt iter : Expr} {x y : Str} {px py pos spos : Pos} {scope : Scope} {spIt : Sp} {n : Nat} {P : Nat → Value → Prop} {F : Value → Value → Prop} {G : Nat → Value → Prop} (cl : List (Str × Addr)) (hit : Ev X m N iter spIt)
    (hsrc : ∀ h0 v h, h0.StaysIn h → St X m N h → St X m N h0 → spIt.Is h0 v h → Src X (fun b => ∃ o, h.get? b = some o) h0 v h n P)
    (helt : ∀ C g, X.h0.StaysIn g → (∀ p ∈ N, g.get? p.1 = some p.2) → ∀ i v m', P i v → m' x = some v → Ev (X.comp scope cl C g) m' [] elt (.pl (F v)))
    (hG : ∀ i v y, P i v → F v y → G i y) (hn : n ≤ 1000000) (k : ∀ a vs nn, Each n G vs → Go X (upd m y (.ref a)) ((a, lo vs nn) :: N) rest Z)
    (hclos : closureFor scope X.env = pure cl) (hcell : ∀ y ∈ scope.names, y.2 ≠ .cell) (hnames : ∀ y ∈ scope.names, y.2 = .local → scope.names.lookup y.1 = some .local)
    (hsw : swapsWith (.ListComp elt [⟨.Name x px, iter, [], 0⟩] scope pos) (some (.Name y py)) spos.line X.env = pure true := by rfl)
    (hy : X.env.kindOf y = some .local := by rfl) (hp : (X.env.scope.kind == .class || (X.env.scope.kind == .module && X.env.locals != X.env.globals)) = false := by rfl)
    (hkind : scope.kind = .function := by rfl) (hx : scope.names.lookup x = some .local := by rfl) (hs : ∀ v, foldedSetIterable iter X.env v = pure v := by intro _; rfl) :
    Go X m N (.Assign [.Name y py] (.ListComp elt [⟨.Name x px, iter, [], 0⟩] scope pos) spos :: rest) Z := by
  intro Q E s hs' q qe
  refine wpAny_execs_cons (wpAny_Assign_ListComp_free (fun _ => true) F hsw hclos hcell hkind hnames hx hy hp (hit _ _ s hs' fun v h1 tk1 st1 hv => hsrc s.heap v h1 st1 (hs'.stay st1) hs' hv _ _ _ rfl fun I fp fq wr S h2 tk2 st2 W hS0 hnd hfr hfp hfq hwr hlive => ?_) hs)
  have S2 := (hs'.stay st1).stay st2
  obtain ⟨oL, _, _, hL, _⟩ := hs'.fr.ns
  have hLw : X.env.locals ∉ wr := fun hm => by rw [hfr _ (hwr _ hm)] at hL; cases hL
  have hNw : ∀ b ∈ wr, X.h0.get? b = none ∧ ∀ p ∈ N, p.1 ≠ b := fun b hb => by
    have h0 := hfr b (hwr b hb)
    exact ⟨none_of_stays hs'.base h0, fun p hp e => by have := hs'.get (a := p.1) (o := p.2) hp; rw [e, h0] at this; cases this⟩
  refine ⟨I, fp, wr, n, P, S, m, rfl, W, by rw [sizeLine_eq]; omega, hS0, fun b hb => ?_, hLw, S2.fr.ns, comp_quiet S2 hNw helt, ?_⟩
  · obtain ⟨o, ho⟩ := hlive _ _ hS0 b hb
    exact Heap.lt_size ho
  · rintro D h' tk ys vs hD hl ⟨nn, hpl⟩ hlen hPv hF hns hk
    have hF' : Paired F vs ys.toList := by have e : vs.filter (fun _ => true) = vs := List.filter_eq_self.mpr fun _ _ => rfl; rw [e] at hF; exact hF
    obtain ⟨e1, e2⟩ := paired_get hF'
    have hDs : s.heap.get? D = none := none_of_stays (stays_trans st1 st2) hD
    have hDL : D ≠ X.env.locals := fun e => by rw [← e, hDs] at hL; cases hL
    have hsz := S2.fr.above
    have keep : ∀ b o, b ≠ X.env.locals → b ∉ wr → h2.get? b = some o → h'.get? b = some o := hk
    refine k D ys.toList nn ⟨by rw [← e1, hlen], fun j u hu => ?_⟩ _ _ _ ⟨⟨hns, fun b o e => ?_, S2.fr.above⟩, fun p hp => ?_, ?_⟩ q qe
    · obtain ⟨v, hv, hf⟩ := e2 j u hu
      exact hG j v u (hPv j v hv) hf
    · exact keep b o (Nat.ne_of_lt (Nat.lt_of_lt_of_le (Heap.lt_size e) S2.fr.above)) (fun hm => by rw [(hNw b hm).1] at e; cases e) (S2.base _ _ e)
    · rcases List.mem_cons.mp hp with rfl | hp
      · exact ⟨hpl, hDL, none_of_stays hs'.base hDs⟩
      · exact ⟨keep _ _ (S2.nw p hp).2.1 (fun hm => (hNw _ hm).2 p hp rfl) (S2.nw p hp).1, (S2.nw p hp).2⟩
    · rw [List.map_cons]
      refine List.nodup_cons.mpr ⟨fun hm => ?_, hs'.nd⟩
      obtain ⟨p, hp, e⟩ := List.mem_map.mp hm
      have := hs'.get (a := p.1) (o := p.2) hp
      have e' : p.1 = D := e
      rw [e', hDs] at this; cases this
end
end Mine
end

section
open PySem PySem.W PySem.Calls PyProof.Rows PySem.Spec
set_option Elab.async false
set_option linter.unusedVariables false
set_option linter.unusedSimpArgs false
set_option maxRecDepth 100000
namespace Mine
-- texts, split and joined at one sign
def spl (c : Nat) : List Nat → List (List Nat)
  | [] => [[]]
  | a :: r => if a = c then [] :: spl c r else match spl c r with
    | p :: ps => (a :: p) :: ps
    | [] => [[a]]
def jn (c : Nat) : List (List Nat) → List Nat
  | [] => []
  | [p] => p
  | p :: q :: r => p ++ c :: jn c (q :: r)
theorem spl_ne (c : Nat) (l : List Nat) : spl c l ≠ [] := by
  cases l with
  | nil => simp [spl]
  | cons a r =>
    rw [spl]
    split
    · simp
    · split <;> simp
theorem spl_unique (c : Nat) : ∀ (ps : List (List Nat)), ps ≠ [] → (∀ p ∈ ps, c ∉ p) → spl c (jn c ps) = ps := by
  have one : ∀ p : List Nat, c ∉ p → ∀ r : List Nat, ∀ q qs, spl c r = q :: qs → spl c (p ++ r) = (p ++ q) :: qs := by
    intro p
    induction p with
    | nil => intro _ r q qs e; exact e
    | cons a p ih =>
      intro hp r q qs e
      have h1 : a ≠ c := fun h => hp (by simp [h])
      have h2 := ih (fun h => hp (by simp [h])) r q qs e
      rw [List.cons_append, spl, if_neg h1, h2]
      rfl
  intro ps
  induction ps with
  | nil => intro h; exact absurd rfl h
  | cons p ps ih =>
    intro _ hp
    cases ps with
    | nil =>
      have := one p (hp p (by simp)) [] [] [] rfl
      simpa [jn] using this
    | cons q r =>
      have h1 := ih (by simp) (fun x hx => hp x (by simp [hx]))
      have h2 : spl c (c :: jn c (q :: r)) = [] :: (q :: r) := by rw [spl, if_pos rfl, h1]
      have := one p (hp p (by simp)) _ _ _ h2
      simpa [jn] using this
theorem spl_free (c : Nat) : ∀ l : List Nat, ∀ p ∈ spl c l, c ∉ p := by
  intro l
  induction l with
  | nil => simp [spl]
  | cons a r ih =>
    rw [spl]
    split
    · intro p hp
      rcases List.mem_cons.mp hp with rfl | hp
      · simp
      · exact ih p hp
    · rename_i h
      split
      · rename_i q qs e
        intro p hp
        rw [e] at ih
        rcases List.mem_cons.mp hp with rfl | hp
        · have := ih q (by simp); simp [this]; exact fun e => h e.symm
        · exact ih p (by simp [hp])
      · intro p hp
        rw [List.mem_singleton.mp hp]; simp; exact fun e => h e.symm
theorem jn_spl (c : Nat) : ∀ l : List Nat, jn c (spl c l) = l := by
  intro l
  induction l with
  | nil => rfl
  | cons a r ih =>
    rw [spl]
    split
    · rename_i h
      cases e : spl c r with
      | nil => exact absurd e (spl_ne c r)
      | cons q qs => rw [e] at ih; simp [jn, ih, h]
    · split
      · rename_i q qs e
        rw [e] at ih
        cases qs with
        | nil => simp only [jn] at ih ⊢; rw [ih]
        | cons s t => simp only [jn] at ih ⊢; rw [List.cons_append, ih]
      · rename_i e; exact absurd e (spl_ne c r)
theorem join_sx (c : Nat) : ∀ ps : List (List Nat), Str.join (sx [c]) (ps.map sx) = sx (jn c ps)
  | [] => rfl
  | [p] => rfl
  | p :: q :: r => by
    have := join_sx c (q :: r)
    simp only [List.map_cons] at this ⊢
    rw [Str.join, this]
    · rw [sx_app, sx_app, jn]; simp
    · simp
theorem str_sx (x : Str) : x = sx x.cps.toList := by simp [sx]
theorem split_sx (c : Nat) (l : List Nat) : Txt.split (sx l) (sx [c]) = (spl c l).map sx := by
  have e1 : Txt.split (sx l) (sx [c]) = ((Txt.split (sx l) (sx [c])).map fun x => x.cps.toList).map sx := by
    rw [List.map_map]
    conv => lhs; rw [← List.map_id (Txt.split (sx l) (sx [c]))]
    exact List.map_congr_left fun x _ => str_sx x
  generalize hps : (Txt.split (sx l) (sx [c])).map (fun x => x.cps.toList) = ps at e1
  have h1 := StrLaws.join_split (sx l) (sx [c])
  rw [e1, join_sx] at h1
  have h2 : jn c ps = l := by simpa [sx] using h1
  have h3 : ∀ p ∈ ps, c ∉ p := by
    intro p hp
    rw [← hps] at hp
    obtain ⟨x, hx, rfl⟩ := List.mem_map.mp hp
    exact StrLaws.split_free (sx l) c x hx
  have h4 : ps ≠ [] := by
    intro h
    rw [h] at e1
    unfold Txt.split at e1
    split at e1
    · simp at e1
    · split at e1
      · simp at e1
      · have := congrArg List.length e1
        rw [length_partsBetween] at this
        simp at this
  rw [e1, ← h2, spl_unique c ps h4 h3]
theorem glued_sx (y : List Nat) (ps : List (List Nat)) : Txt.join (sx y) (ps.map sx) = Str.join (sx y) (ps.map sx) := StrLaws.glued_eq_join _ _
end Mine
end

section
open PySem PySem.W PySem.Calls PyProof.Rows PySem.Spec
set_option Elab.async false
set_option linter.unusedVariables false
set_option linter.unusedSimpArgs false
set_option maxRecDepth 100000
namespace Mine
/-- items that spell a list -/
def Lst {α : Type} (F : α → Value → Prop) (xs : List α) : List Value → Prop := fun vs => vs.length = xs.length ∧ ∀ (i : Nat) (v : Value), vs[i]? = some v → ∃ x, xs[i]? = some x ∧ F x v
abbrev fI (n : Nat) (v : Value) : Prop := ∃ t, v = .int (n : Int) t
abbrev fS (x : List Nat) (v : Value) : Prop := ∃ t, v = .str (sx x) t
abbrev fY (x : List Nat) (v : Value) : Prop := ∃ t, v = .bytes (bx x) t
section
variable {α β : Type} {F : α → Value → Prop} {xs ys : List α} {vs ws : List Value}
theorem Lst.nil : Lst F [] [] := ⟨rfl, fun i v h => by simp at h⟩
theorem Lst.app (h : Lst F xs vs) (k : Lst F ys ws) : Lst F (xs ++ ys) (vs ++ ws) := by
  refine ⟨by simp [h.1, k.1], fun i v e => ?_⟩
  by_cases hi : i < vs.length
  · rw [List.getElem?_append_left hi] at e
    obtain ⟨x, hx, hf⟩ := h.2 i v e
    exact ⟨x, by rw [List.getElem?_append_left (by rw [← h.1]; exact hi)]; exact hx, hf⟩
  · rw [List.getElem?_append_right (by omega)] at e
    obtain ⟨x, hx, hf⟩ := k.2 _ v e
    exact ⟨x, by rw [List.getElem?_append_right (by rw [← h.1]; omega), ← h.1]; exact hx, hf⟩
theorem Lst.one {x : α} {v : Value} (h : F x v) : Lst F [x] [v] := ⟨rfl, fun i u e => by cases i <;> simp at e; exact ⟨x, rfl, e ▸ h⟩⟩
theorem Lst.push {x : α} {v : Value} (h : Lst F xs vs) (k : F x v) : Lst F (xs ++ [x]) (vs ++ [v]) := h.app (Lst.one k)
theorem Lst.cons {x : α} {v : Value} (k : F x v) (h : Lst F xs vs) : Lst F (x :: xs) (v :: vs) := (Lst.one k).app h
theorem Lst.cut (h : Lst F xs vs) (a b : Option Nat) : Lst F (cutO xs a b) (cutO vs a b) := by
  have key : ∀ a b : Nat, Lst F (Mine.cut xs a b) (Mine.cut vs a b) := by
    intro a b
    refine ⟨by simp [Mine.cut, h.1], fun i v e => ?_⟩
    rw [Mine.cut, List.getElem?_take] at e
    split at e
    · rename_i hi
      rw [List.getElem?_drop] at e
      obtain ⟨x, hx, hf⟩ := h.2 _ v e
      exact ⟨x, by rw [Mine.cut, List.getElem?_take, if_pos hi, List.getElem?_drop]; exact hx, hf⟩
    · cases e
  unfold cutO
  rw [h.1]
  exact key _ _
theorem Lst.get (h : Lst F xs vs) {i : Nat} {x : α} (e : xs[i]? = some x) : ∃ v, vs[i]? = some v ∧ F x v := by
  have hi : i < vs.length := by rw [h.1]; exact (List.getElem?_eq_some_iff.mp e).1
  obtain ⟨y, hy, hf⟩ := h.2 i _ (List.getElem?_eq_getElem hi)
  rw [e] at hy; cases hy
  exact ⟨_, List.getElem?_eq_getElem hi, hf⟩
theorem Lst.each {n : Nat} {G : Nat → Value → Prop} (h : Each n G vs) (hn : xs.length = n) (k : ∀ i v, i < n → G i v → ∃ x, xs[i]? = some x ∧ F x v) : Lst F xs vs :=
  ⟨by rw [h.1, hn], fun i v e => k i v (by rw [← h.1]; exact (List.getElem?_eq_some_iff.mp e).1) (h.2 i v e)⟩
theorem Lst.mono {F' : α → Value → Prop} (h : Lst F xs vs) (k : ∀ x v, F x v → F' x v) : Lst F' xs vs :=
  ⟨h.1, fun i v e => let ⟨x, hx, hf⟩ := h.2 i v e; ⟨x, hx, k x v hf⟩⟩
theorem Lst.uncons {x : α} (h : Lst F (x :: xs) vs) : ∃ v r, vs = v :: r ∧ F x v ∧ Lst F xs r := by
  cases vs with
  | nil => have := h.1; simp at this
  | cons v r =>
    obtain ⟨y, hy, hf⟩ := h.2 0 v rfl
    simp at hy; subst hy
    refine ⟨v, r, rfl, hf, by simpa using h.1, fun i u e => ?_⟩
    obtain ⟨z, hz, hf2⟩ := h.2 (i + 1) u (by simpa using e)
    exact ⟨z, by simpa using hz, hf2⟩
theorem Lst.strs : ∀ {xs : List (List Nat)} {vs : List Value}, Lst fS xs vs → StrsAre vs (xs.map sx)
  | [], vs, h => by cases vs with
    | nil => exact .nil
    | cons _ _ => have := h.1; simp at this
  | x :: xs, vs, h => by
    obtain ⟨v, r, rfl, ⟨t, rfl⟩, h2⟩ := h.uncons
    exact .cons _ t (Lst.strs h2)
theorem Lst.ints : ∀ {xs : List Nat} {vs : List Value}, Lst fI xs vs → IntsAre vs (xs.map fun n : Nat => (n : Int))
  | [], vs, h => by cases vs with
    | nil => exact .nil
    | cons _ _ => have := h.1; simp at this
  | x :: xs, vs, h => by
    obtain ⟨v, r, rfl, ⟨t, rfl⟩, h2⟩ := h.uncons
    exact .cons _ t (Lst.ints h2)
end

section
variable {X : Fx} {m : Str → Option Value} {N N' : List (Addr × Obj)} {Z : Zt} {rest : List Stmt} {K : Frag} {mg mb : Str → Option Value}
-- lists of ours that grow
theorem gm_app {a : Addr} {vs : List Value} {n : Nat} {pl : Sem Bool} (h : Heap) (Q : Value × List Value → Shared → Prop) (E : Value → Shared → Prop) (s : Shared) (e : s.heap = h) (ho : h.get? a = some (lo vs n)) (q : Q (.builtin "list.append", [.ref a]) s) : wpAny X.M X.A (getMethod (.ref a) "append" pl) Q E s := by
  subst e; exact getMethod_list_append ho rfl rfl q
theorem Go.append {pl : Sem Bool} {x : Str} {p1 apos cpos epos : Pos} {g : Expr} {a : Addr} {vs : List Value} {n : Nat} {P : Value → Prop} (hx : m x = some (.ref a)) (hm : (a, lo vs n) ∈ N) (hg : Ev X m N g (.pl P)) (hz : vs.length ≤ 1000000)
    {f : Obj → List (Addr × Obj)} (hch : ∀ o', Ch a (lo vs n) o' N (f o')) (k : ∀ v n', P v → Go X m (f (lo (vs ++ [v]) n')) rest Z)
    (hp : plainE g = true := by rfl) (hk : X.env.scope.kind = .function := by rfl) (hl : X.env.kindOf x = some .local := by rfl) (hd : (x == ("__debug__" : Str)) = false := by decide)
    (he : eval (.Call (.Attribute (.Name x p1) "append" apos) [g] [] cpos) X.env = (do
        let ov ← eval (.Name x p1) X.env
        standAt apos.atName
        let (f, first) ← holding [ov] (getMethod ov "append" pl)
        callWith cpos f first (backTo cpos (starEach [g] X.env)) []) := by rfl)
    (hi : interactive X.env = false := by rfl) (hsw : swapsWith (.Call (.Attribute (.Name x p1) "append" apos) [g] [] cpos) none epos.line X.env = pure false := by rfl) :
    Go X m N (.Expr (.Call (.Attribute (.Name x p1) "append" apos) [g] [] cpos) epos :: rest) Z := by
  refine Go.meth (O := fun o' => ∃ v n', P v ∧ o' = lo (vs ++ [v]) n') hx hm hg (fun h Q E s e ho q => gm_app h Q E s e ho q) ?_ hch (fun o' ⟨v, n', hv, e⟩ => e ▸ k v n' hv) hp hk hl hd he hi hsw
  intro h0 v h st hs hv Q E s e q
  subst e
  refine wpAny_list_append_plain ⟨n, hs.get hm⟩ (fun h' hl' hs' => ?_) (by rw [List.size_toArray, sizeLine_eq]; omega)
  obtain ⟨n', hl'⟩ := hl'
  refine q .none (lo (vs ++ [v]) n') h' s.toks ⟨v, n', hv, rfl⟩ (by simpa using hl') fun b ob hb eb => (hs'.2 b hb).trans eb
theorem F_type_extend : typeOf (.builtin "list.extend") = pure (.type "method_descriptor") := by kernel_rfl
theorem Go.extend {pl : Sem Bool} {x : Str} {p1 apos cpos epos : Pos} {g : Expr} {a : Addr} {vs : List Value} {n : Nat} {P : List Value → Prop} (hx : m x = some (.ref a)) (hm : (a, lo vs n) ∈ N) (hg : Ev X m N g (nL P)) (hz : vs.length ≤ 1000000) (hz2 : ∀ ws, P ws → ws.length ≤ 1000000)
    {f : Obj → List (Addr × Obj)} (hch : ∀ o', Ch a (lo vs n) o' N (f o')) (k : ∀ ws n', P ws → Go X m (f (lo (vs ++ ws) n')) rest Z)
    (hp : plainE g = true := by rfl) (hk : X.env.scope.kind = .function := by rfl) (hl : X.env.kindOf x = some .local := by rfl) (hd : (x == ("__debug__" : Str)) = false := by decide)
    (he : eval (.Call (.Attribute (.Name x p1) "extend" apos) [g] [] cpos) X.env = (do
        let ov ← eval (.Name x p1) X.env
        standAt apos.atName
        let (f, first) ← holding [ov] (getMethod ov "extend" pl)
        callWith cpos f first (backTo cpos (starEach [g] X.env)) []) := by rfl)
    (hi : interactive X.env = false := by rfl) (hsw : swapsWith (.Call (.Attribute (.Name x p1) "extend" apos) [g] [] cpos) none epos.line X.env = pure false := by rfl) :
    Go X m N (.Expr (.Call (.Attribute (.Name x p1) "extend" apos) [g] [] cpos) epos :: rest) Z := by
  refine Go.meth (id := "list.extend") (O := fun o' => ∃ ws n', P ws ∧ o' = lo (vs ++ ws) n') hx hm hg (fun h Q E s e ho q => ?_) ?_ hch (fun o' ⟨v, n', hv, e⟩ => e ▸ k v n' hv) hp hk hl hd he hi hsw
  · subst e
    exact getMethod_list_of PySem.F.slot_list_extend F_type_extend (isList_of ho) (by refine ⟨_, ho, ?_⟩; rfl) q
  intro h0 v h st hs hv Q E s e q
  subst e
  obtain ⟨b, o, rfl, hn, ho, ws, n2, rfl, hp⟩ := hv
  have ha := hs.get hm
  have hz3 := hz2 _ hp
  have hsz' : vs.toArray.size + ws.toArray.size ≤ sizeLine := by rw [List.size_toArray, List.size_toArray, sizeLine_eq]; omega
  refine call_meets PySem.F.slot_list_extend ⟨_, ha, rfl⟩ PySem.F.entry_list_extend (PySem.F.args_list_extend_2 _ _) (AutoSeq1.list_extend_list_list_0 a vs.toArray n b ws.toArray n2 (extend_door hsz') (Nat.le_trans (Nat.le_add_right _ _) hsz')) ⟨ha, ho, ?_⟩
  have e : vs.toArray ++ ws.toArray = (vs ++ ws).toArray := by simp
  have ho' : (s.heap.update a (Obj.mapSeq fun x => x ++ ws.toArray)).get? a = some (lo (vs ++ ws) (if (vs.toArray ++ ws.toArray).size == vs.toArray.size then n else n + 1)) := by
    rw [Heap.get?_update_self _ ha (by rw [mapSeq_app]; rfl), mapSeq_app, e]
  exact q .none _ _ s.toks ⟨ws, _, hp, rfl⟩ ho' fun b ob hb eb => (Heap.get?_update_other _ _ (Ne.symm hb)).trans eb
/-- list + list -/
theorem Ev.addL {l r : Expr} {pos : Pos} {P1 P2 P : List Value → Prop} (h1 : Ev X m N l (sL P1)) (h2 : Ev X m N r (sL P2)) (hP : ∀ vs ws, P1 vs → P2 ws → P (vs ++ ws) ∧ vs.length + ws.length ≤ 1000000) : Ev X m N (.BinOp l .Add r pos) (nL P) := by
  intro Q E s hs q
  refine wpAny_BinOp (h1 _ _ s hs fun a h1 tk1 st1 ha => h2 _ _ _ (hs.stay st1) fun b h2 tk2 st2 hb => ?_)
  obtain ⟨a1, vs, n1, rfl, ho1, hp1⟩ := ha
  obtain ⟨a2, ws, n2, rfl, ho2, hp2⟩ := hb
  have ho1 := st2 _ _ ho1
  obtain ⟨hp, hz⟩ := hP vs ws hp1 hp2
  have e : vs.toArray ++ ws.toArray = (vs ++ ws).toArray := by simp
  refine concat_meets ⟨_, ho1, rfl⟩ ⟨_, ho2, rfl⟩ noFill_list_add seq_list_add PySem.F.slot_list_add PySem.F.entry_list_add (PySem.F.args_list_add_2 _ _) (list_addW a1 a2 vs.toArray ws.toArray n1 n2 none none #[] #[] (by rw [List.size_toArray, List.size_toArray, sizeLine_eq]; omega)) ⟨ho1, ho2, ?_⟩
  rw [e]
  exact q _ _ tk2 (fun b o e => Heap.get?_push_of_some _ (st2 _ _ (st1 _ _ e))) ⟨h2.objs.size, lo (vs ++ ws) 0, rfl, none_of_stays (stays_trans st1 st2) (get_size _), Heap.get?_push_size _ rfl, _, 0, rfl, hp⟩

-- texts
def fnd (c : Nat) : List Nat → Int
  | [] => -1
  | a :: r => if a = c then 0 else if fnd c r < 0 then -1 else fnd c r + 1
theorem fnd_none {c : Nat} : ∀ {l : List Nat}, c ∉ l → fnd c l = -1
  | [], _ => rfl
  | a :: r, h => by
    have h1 : a ≠ c := fun e => h (by simp [e])
    have h2 := fnd_none (c := c) (l := r) fun e => h (by simp [e])
    simp [fnd, h1, h2]
theorem fnd_at {c : Nat} : ∀ {l : List Nat} {i : Nat}, l[i]? = some c → (∀ k, k < i → l[k]? ≠ some c) → fnd c l = (i : Int)
  | [], i, h, _ => by simp at h
  | a :: r, 0, h, _ => by simp at h; simp [fnd, h]
  | a :: r, i + 1, h, hk => by
    have h1 : a ≠ c := fun e => hk 0 (by omega) (by simp [e])
    have h2 := fnd_at (c := c) (l := r) (i := i) (by simpa using h) fun k hk' => by have := hk (k + 1) (by omega); simpa using this
    simp only [fnd, if_neg h1, h2]
    rw [if_neg (by omega)]; simp
theorem in_sx {l : List Nat} {c : Nat} : (!(Builtin.Str.occurrences (sx l) (sx [c]) 0 (sx l).length 1).isEmpty) = decide (c ∈ l) := by
  rw [show sx [c] = ⟨#[c]⟩ from rfl, StrLaws.found_one, Bool.eq_iff_iff]
  simp [sx]
  exact decide_eq_true_iff
theorem at_sx {l : List Nat} {c i : Nat} : StrLaws.At (sx l) (sx [c]) (sx l).length i ↔ l[i]? = some c := by
  unfold StrLaws.At
  rw [StrLaws.subAt_eq]
  simp only [sx, Str.length, List.size_toArray, List.length_singleton]
  constructor
  · rintro ⟨h1, h2⟩
    have h3 : List.take 1 (l.drop i) = [c] := by simpa using h2
    have h4 : i < l.length := by omega
    rw [List.drop_eq_getElem_cons h4, List.take_succ_cons, List.take_zero] at h3
    rw [List.getElem?_eq_getElem h4, (List.cons.inj h3).1]
  · intro h
    obtain ⟨h4, h5⟩ := List.getElem?_eq_some_iff.mp h
    refine ⟨by omega, ?_⟩
    rw [List.drop_eq_getElem_cons h4, h5]
    simp
theorem find_sx {l : List Nat} {c : Nat} : (match Builtin.Str.occurrences (sx l) (sx [c]) 0 (sx l).length 1 with | i :: _ => (i : Int) | [] => -1) = fnd c l := by
  rcases StrLaws.occ_head (sx l) (sx [c]) 1 (Nat.le_refl _) with ⟨h0, hn⟩ | ⟨i, r, h0, hi, hk⟩
  · rw [h0, fnd_none]
    intro hc
    obtain ⟨i, hi, e⟩ := List.getElem_of_mem hc
    exact hn i (at_sx.mpr (by rw [List.getElem?_eq_getElem hi, e]))
  · rw [h0]
    exact (fnd_at (at_sx.mp hi) fun k hk' e => hk k hk' (at_sx.mpr e)).symm
theorem Ev.find {pl : Sem Bool} {e1 e2 : Expr} {apos pos : Pos} {l : List Nat} {c : Nat} (h1 : Ev X m N e1 (sT (sx l))) (h2 : Ev X m N e2 (sT (sx [c])))
    (he : eval (.Call (.Attribute e1 "find" apos) [e2] [] pos) X.env = (do
        let ov ← eval e1 X.env
        standAt apos.atName
        let (f, first) ← holding [ov] (getMethod ov "find" pl)
        callWith pos f first (backTo pos (starEach [e2] X.env)) []) := by rfl) (hp : [e2].all plainE = true := by rfl) : Ev X m N (.Call (.Attribute e1 "find" apos) [e2] [] pos) (sI (fnd c l)) := by
  refine ev_mcall (id := "str.find") (sps := [sT (sx [c])]) h1 (fun h0 v h Q E s e hv q => ?_) ⟨h2, trivial⟩ (fun h0 v vs h st hs hv hvs => ?_) hp he
  · obtain ⟨t, rfl⟩ := hv
    exact GM.find q
  · obtain ⟨t, rfl⟩ := hv
    match vs, hvs with
    | [u], hu =>
      obtain ⟨⟨t2, rfl⟩, _⟩ := hu
      intro Q E s e q
      subst e
      refine call_gives PySem.F.slot_str_find (typeIs_str _ _ _) PySem.F.entry_str_find (PySem.F.args_str_find_2 _ _) (gives_str_find _ _ _ _) ?_
      exact q _ s.heap _ (stays_refl _) ⟨_, congrArg (Value.int · _) find_sx⟩
theorem pre_sx {l p : List Nat} : (decide (0 + (sx p).length ≤ (sx l).length) && Builtin.Str.subAt (sx l) (sx p) 0) = decide (p <+: l) := by
  rw [StrLaws.subAt_eq, Bool.eq_iff_iff]
  simp only [sx, Str.length, List.size_toArray, Bool.and_eq_true, decide_eq_true_eq, beq_iff_eq, List.drop_zero]
  constructor
  · rintro ⟨_, h⟩
    exact ⟨l.drop p.length, by
      conv => lhs; lhs; rw [← h]
      exact List.take_append_drop _ _⟩
  · rintro ⟨r, rfl⟩
    simp
theorem Ev.starts {pl : Sem Bool} {e1 e2 : Expr} {apos pos : Pos} {l p : List Nat} (h1 : Ev X m N e1 (sT (sx l))) (h2 : Ev X m N e2 (sT (sx p)))
    (he : eval (.Call (.Attribute e1 "startswith" apos) [e2] [] pos) X.env = (do
        let ov ← eval e1 X.env
        standAt apos.atName
        let (f, first) ← holding [ov] (getMethod ov "startswith" pl)
        callWith pos f first (backTo pos (starEach [e2] X.env)) []) := by rfl) (hp : [e2].all plainE = true := by rfl) : Ev X m N (.Call (.Attribute e1 "startswith" apos) [e2] [] pos) (sB (decide (p <+: l))) := by
  refine ev_mcall (id := "str.startswith") (sps := [sT (sx p)]) h1 (fun h0 v h Q E s e hv q => ?_) ⟨h2, trivial⟩ (fun h0 v vs h st hs hv hvs => ?_) hp he
  · obtain ⟨t, rfl⟩ := hv
    exact GM.startswith q
  · obtain ⟨t, rfl⟩ := hv
    match vs, hvs with
    | [u], hu =>
      obtain ⟨⟨t2, rfl⟩, _⟩ := hu
      intro Q E s e q
      subst e
      refine call_gives PySem.F.slot_str_startswith (typeIs_str _ _ _) PySem.F.entry_str_startswith (PySem.F.args_str_startswith_2 _ _) (gives_str_startswith _ _ _ _) ?_
      rw [pre_sx]
      exact q _ s.heap s.toks (stays_refl _) rfl
end
end Mine
end

section
open PySem PySem.W PySem.Calls PyProof.Rows PySem.Spec PySem.SeqAt
set_option Elab.async false
set_option linter.unusedVariables false
set_option linter.unusedSimpArgs false
set_option maxRecDepth 100000
namespace Mine
theorem lst_numbered {k : Nat} {ps : List (List Nat)} {l : List (Str × Tok)} (h : l.map (·.1) = ps.map sx) : Lst fS ps (strValues l) := by
  have hlen : l.length = ps.length := by have := congrArg List.length h; simpa using this
  refine ⟨by simp [strValues, hlen], fun i v e => ?_⟩
  have hi : i < l.length := by have := (List.getElem?_eq_some_iff.mp e).1; simpa [strValues] using this
  refine ⟨ps[i]'(by omega), List.getElem?_eq_getElem _, (l[i]).2, ?_⟩
  have e1 : (l.map (·.1))[i]? = (ps.map sx)[i]? := by rw [h]
  simp [hi, show i < ps.length by omega] at e1
  simp [strValues, hi] at e
  rw [← e, ← e1]
theorem seq_take {α : Type} (l : List α) : l.take l.length = l := List.take_length
section
variable {X : Fx} {m : Str → Option Value} {N N' : List (Addr × Obj)} {Z : Zt} {rest : List Stmt}
open PySem.Builtin PySem.Builtin.Str in
theorem c_split {l : List Nat} {c : Nat} {t u : Tok} (hz : l.length ≤ 1000000) : Rn X (fun _ => True) (call (.builtin "str.split") [.str (sx l) t, .str (sx [c]) u]) (nL (Lst fS (spl c l))).Is := by
  intro Q E s _ q
  have hn : (partsBetween (sx l) (occurrences (sx l) (sx [c]) 0 (sx l).length ((sx l).length + 1)) (sx [c]).length).length ≤ sizeLine := by
    have e1 := StrLaws.occ_length_le (sx l) (sx [c]) 0 (sx l).length ((sx l).length + 1)
    rw [length_partsBetween, sizeLine_eq]; rw [sx_len] at *; omega
  have hsz : (sx l).length + 2 ≤ sizeLine := by rw [sx_len, sizeLine_eq]; omega
  have fin : ∀ (ll : List (Str × Tok)) (k : Nat), ll.map (·.1) = Txt.split (sx l) (sx [c]) → Q (.ref s.heap.objs.size) { s with heap := s.heap.push { cls := .type "list", data := .seq (strValues ll).toArray }, toks := k } := fun ll k e =>
    q _ _ k (fun b o e => Heap.get?_push_of_some _ e) ⟨s.heap.objs.size, lo (strValues ll) 0, rfl, get_size _, Heap.get?_push_size _ rfl, _, 0, rfl, lst_numbered (k := 0) (e.trans (split_sx c l))⟩
  have hy : ((sx [c]).length == 0) = false := rfl
  cases h1 : (decide ((sx l).length < (sx [c]).length) || decide (strKind (sx l) < strKind (sx [c])))
  · cases hf : (occurrences (sx l) (sx [c]) 0 (sx l).length ((sx l).length + 1)).isEmpty
    · refine call_meets F.slot_str_split (typeIs_str _ _ _) F.entry_str_split (F.args_str_split_2 _ _) (meets_str_split_sep (sx l) (sx [c]) t u h1 hy hf (by omega) hn) ?_
      show wants Q E _ { s with toks := _, heap := s.heap.push { cls := .type "list", data := .seq (strsFrom s.toks (partsBetween (sx l) (occurrences (sx l) (sx [c]) 0 (sx l).length ((sx l).length + 1)) (sx [c]).length)).toArray } }
      rw [strsFrom_eq]
      exact fin (numbered s.toks _) _ ((numbered_texts _ _).trans ((if_neg (ne_true_of_eq_false h1)).trans (if_neg (ne_true_of_eq_false hf))).symm)
    · exact call_meets F.slot_str_split (typeIs_str _ _ _) F.entry_str_split (F.args_str_split_2 _ _) (meets_str_split_not_found (sx l) (sx [c]) t u h1 hy hf)
        (fin [(sx l, t)] s.toks ((if_neg (ne_true_of_eq_false h1)).trans (if_pos hf)).symm)
  · exact call_meets F.slot_str_split (typeIs_str _ _ _) F.entry_str_split (F.args_str_split_2 _ _) (meets_str_split_cannot_occur (sx l) (sx [c]) t u h1)
      (fin [(sx l, t)] s.toks (if_pos h1).symm)
theorem Ev.split {pl : Sem Bool} {e1 e2 : Expr} {apos pos : Pos} {l : List Nat} {c : Nat} (h1 : Ev X m N e1 (sT (sx l))) (h2 : Ev X m N e2 (sT (sx [c]))) (hz : l.length ≤ 1000000)
    (he : eval (.Call (.Attribute e1 "split" apos) [e2] [] pos) X.env = (do
        let ov ← eval e1 X.env
        standAt apos.atName
        let (f, first) ← holding [ov] (getMethod ov "split" pl)
        callWith pos f first (backTo pos (starEach [e2] X.env)) []) := by rfl) (hp : [e2].all plainE = true := by rfl) : Ev X m N (.Call (.Attribute e1 "split" apos) [e2] [] pos) (nL (Lst fS (spl c l))) := by
  refine ev_mcall (id := "str.split") (sps := [sT (sx [c])]) h1 (fun h0 v h Q E s e hv q => ?_) ⟨h2, trivial⟩ (fun h0 v vs h st hs hv hvs => ?_) hp he
  · obtain ⟨t, rfl⟩ := hv
    exact GM.split q
  · obtain ⟨t, rfl⟩ := hv
    match vs, hvs with
    | [u], hu =>
      obtain ⟨⟨t2, rfl⟩, _⟩ := hu
      intro Q E s e q
      subst e
      exact c_split hz Q E s trivial q
theorem sum_len (ps : List (List Nat)) : ((ps.map sx).map (·.length)).sum = (ps.map (·.length)).sum := by
  rw [List.map_map]
  congr 1
theorem Ev.joinG {pl : Sem Bool} {e1 e2 : Expr} {apos pos : Pos} {y r : List Nat} {ps : List (List Nat)} (h1 : Ev X m N e1 (sT (sx y))) (h2 : Ev X m N e2 (sL (Lst fS ps))) (hy : y.length ≤ 64) (hz : (ps.map (·.length)).sum + ps.length * 64 ≤ 16777216)
    (hj : Str.join (sx y) (ps.map sx) = sx r)
    (he : eval (.Call (.Attribute e1 "join" apos) [e2] [] pos) X.env = (do
        let ov ← eval e1 X.env
        standAt apos.atName
        let (f, first) ← holding [ov] (getMethod ov "join" pl)
        callWith pos f first (backTo pos (starEach [e2] X.env)) []) := by rfl) (hp : [e2].all plainE = true := by rfl) : Ev X m N (.Call (.Attribute e1 "join" apos) [e2] [] pos) (sT (sx r)) := by
  refine ev_mcall (id := "str.join") (sps := [sL (Lst fS ps)]) h1 (fun h0 v h Q E s e hv q => ?_) ⟨h2, trivial⟩ (fun h0 v vs h st hs hv hvs => ?_) hp he
  · obtain ⟨t, rfl⟩ := hv
    exact GM.join q
  · obtain ⟨t, rfl⟩ := hv
    match vs, hvs with
    | [u], hu =>
      obtain ⟨⟨a, ws, n, rfl, ho, hw⟩, _⟩ := hu
      intro Q E s e q
      subst e
      refine join_listC (ys := ps.map sx) (isList_of ho) (by simpa using hw.strs) (by rw [sx_len]; exact hy) (by rw [sum_len, List.length_map]; exact hz) fun t' k => ?_
      rw [glued_sx, hj]
      exact q _ s.heap _ (stays_refl _) ⟨_, rfl⟩
theorem join0 : ∀ ps : List (List Nat), Str.join (sx []) (ps.map sx) = sx ps.flatten
  | [] => rfl
  | [p] => by simp [Str.join]
  | p :: q :: r => by
    have := join0 (q :: r)
    simp only [List.map_cons] at this ⊢
    rw [Str.join, this]
    · rw [sx_app, sx_app]; simp
    · simp
theorem Ev.joinC {pl : Sem Bool} {e1 e2 : Expr} {apos pos : Pos} {c : Nat} {ps : List (List Nat)} (h1 : Ev X m N e1 (sT (sx [c]))) (h2 : Ev X m N e2 (sL (Lst fS ps))) (hz : (ps.map (·.length)).sum + ps.length * 64 ≤ 16777216)
    (he : eval (.Call (.Attribute e1 "join" apos) [e2] [] pos) X.env = (do
        let ov ← eval e1 X.env
        standAt apos.atName
        let (f, first) ← holding [ov] (getMethod ov "join" pl)
        callWith pos f first (backTo pos (starEach [e2] X.env)) []) := by rfl) (hp : [e2].all plainE = true := by rfl) : Ev X m N (.Call (.Attribute e1 "join" apos) [e2] [] pos) (sT (sx (jn c ps))) :=
  Ev.joinG h1 h2 (by simp) hz (join_sx c ps) he hp
theorem Ev.join0 {pl : Sem Bool} {e1 e2 : Expr} {apos pos : Pos} {ps : List (List Nat)} (h1 : Ev X m N e1 (sT (sx []))) (h2 : Ev X m N e2 (sL (Lst fS ps))) (hz : (ps.map (·.length)).sum + ps.length * 64 ≤ 16777216)
    (he : eval (.Call (.Attribute e1 "join" apos) [e2] [] pos) X.env = (do
        let ov ← eval e1 X.env
        standAt apos.atName
        let (f, first) ← holding [ov] (getMethod ov "join" pl)
        callWith pos f first (backTo pos (starEach [e2] X.env)) []) := by rfl) (hp : [e2].all plainE = true := by rfl) : Ev X m N (.Call (.Attribute e1 "join" apos) [e2] [] pos) (sT (sx ps.flatten)) :=
  Ev.joinG h1 h2 (by simp) hz (Mine.join0 ps) he hp
theorem byteArr_bx (ns : List Nat) : byteArr (ns.map fun n : Nat => (n : Int)) = bx ns := by
  simp [byteArr, bx, List.map_map, Function.comp_def]
theorem k_bytes {ns : List Nat} (hA : X.A.handled = none) (hb : ∀ n ∈ ns, n < 256) (hz : ns.length ≤ 1000000) : CallRn X m N (.type "bytes") [] [sL (Lst fI ns)] (sY (bx ns)) :=
  crn1 fun h0 v h _ _ hv => by
    obtain ⟨a, vs, n, rfl, ho, hw⟩ := hv
    intro Q E s e q
    subst e
    refine call_bytes_ints (isList_of ho) hw.ints (fun n hn => ?_) (by rw [hw.1, sizeLine_eq]; omega) hA fun h' t k st => ?_
    · obtain ⟨i, hi, rfl⟩ := List.mem_map.mp hn
      have := hb i hi
      omega
    · rw [byteArr_bx]
      exact q _ h' k st ⟨_, rfl⟩
theorem ints_items {vs : List Value} {ns : List Int} (h : IntsAre vs ns) : ∃ xs : List (Int × Tok), vs.toArray = intItems xs.toArray ∧ xs.map (·.1) = ns := by
  induction h with
  | nil => exact ⟨[], by simp [intItems], rfl⟩
  | cons n t _ ih =>
    obtain ⟨xs, e, e2⟩ := ih
    refine ⟨(n, t) :: xs, ?_, by simp [e2]⟩
    simp [intItems] at e ⊢
    exact e
theorem k_min {ns : List Nat} (hA : X.A.handled = none) (hn : ns ≠ []) : CallRn X m N (.builtin "min") [] [sL (Lst fI ns)] (.pl fun v => ∃ (M : Nat) (t : Tok), v = .int (M : Int) t ∧ M ∈ ns ∧ ∀ a ∈ ns, M ≤ a) :=
  crn1 fun h0 v h _ _ hv => by
    obtain ⟨a, vs, n, rfl, ho, hw⟩ := hv
    intro Q E s e q
    subst e
    obtain ⟨xs, e1, e2⟩ := ints_items hw.ints
    have hl := isList_of ho
    rw [e1] at hl
    have hpos : 0 < xs.toArray.size := by
      have := congrArg List.length e2
      simp at this ⊢
      cases ns with
      | nil => exact absurd rfl hn
      | cons => cases xs with
        | nil => simp at this
        | cons => simp
    refine min_intList hA hl hpos fun v h' tk hv st => ?_
    obtain ⟨k1, k2⟩ := argBest_lt (numAt xs.toArray) (xs.toArray.size - 1)
    generalize argBest (fun i j => decide (numAt xs.toArray i < numAt xs.toArray j)) (xs.toArray.size - 1) = b at hv k1 k2
    have hb : b < xs.length := by simp at k1 hpos ⊢; omega
    have hns : ∀ j (hj : j < xs.length), ∃ a, ns[j]? = some a ∧ numAt xs.toArray j = (a : Int) := by
      intro j hj
      have e3 : (xs.map (·.1))[j]? = (ns.map fun n : Nat => (n : Int))[j]? := by rw [e2]
      rw [List.getElem?_map, List.getElem?_map, List.getElem?_eq_getElem hj] at e3
      cases h : ns[j]? with
      | none => rw [h] at e3; simp at e3
      | some a => rw [h] at e3; simp at e3; exact ⟨a, rfl, by simp [numAt, hj, e3]⟩
    obtain ⟨M, hM, hMe⟩ := hns b hb
    have hv' : v = .int (xs[b]).1 (xs[b]).2 := by
      simp [intItems, hb] at hv
      exact hv.symm
    have : (xs[b]).1 = (M : Int) := by simpa [numAt, hb] using hMe
    refine q v h' tk st ⟨M, (xs[b]).2, by rw [hv', this], List.mem_of_getElem? hM, fun a ha => ?_⟩
    obtain ⟨j, hj, rfl⟩ := List.getElem_of_mem ha
    have hjx : j < xs.length := by have := congrArg List.length e2; simp at this; omega
    obtain ⟨a', ha', e'⟩ := hns j hjx
    have := k2 j (by simp; omega)
    rw [hMe, e'] at this
    rw [List.getElem?_eq_getElem hj] at ha'
    have := Option.some.inj ha'
    omega

/-- comparing what stands -/
def CmS (X : Fx) (m : Str → Option Value) (N : List (Addr × Obj)) (op : CmpOp) (sp1 sp2 : Sp) (b : Bool) : Prop := ∀ h0 x y h, h0.StaysIn h → St X m N h → sp1.Is h0 x h → sp2.Is h0 y h → Rn X (fun h' => h' = h) (compareOp op x y) (fun _ v _ => v = .bool b)
theorem Ts.cmpS {l r : Expr} {op : CmpOp} {pos : Pos} {sp1 sp2 : Sp} {b : Bool} (hl : Ev X m N l sp1) (hr : Ev X m N r sp2) (ho : CmS X m N op sp1 sp2 b)
    (hm : behindInMarks op r = false := by with_unfolding_all rfl) : Ts X m N (.Compare l [op] [r] pos) b := by
  intro Q E s hs q
  refine wpAny_isTrue_Compare1 (hl _ _ s hs fun a h1 tk1 st1 ha => hr _ _ _ (hs.stay st1) fun b h2 tk2 st2 hb => ho s.heap a b h2 (stays_trans st1 st2) ((hs.stay st1).stay st2) (Sp.wk (stays_refl _) st2 ha) (Sp.wk st1 (stays_refl _) hb) _ _ _ rfl fun v h3 tk3 st3 hv => ?_) hm
  subst hv
  exact wpAny_truthy_bool (q _ h3 tk3 (stays_trans (stays_trans st1 st2) st3) rfl)
theorem Ev.cmpS {l r : Expr} {op : CmpOp} {pos : Pos} {sp1 sp2 : Sp} {b : Bool} (hl : Ev X m N l sp1) (hr : Ev X m N r sp2) (ho : CmS X m N op sp1 sp2 b)
    (hm : behindInMarks op r = false := by with_unfolding_all rfl) : Ev X m N (.Compare l [op] [r] pos) (sB b) := by
  intro Q E s hs q
  refine wpAny_Compare1 (hl _ _ s hs fun a h1 tk1 st1 ha => hr _ _ _ (hs.stay st1) fun b h2 tk2 st2 hb => ho s.heap a b h2 (stays_trans st1 st2) ((hs.stay st1).stay st2) (Sp.wk (stays_refl _) st2 ha) (Sp.wk st1 (stays_refl _) hb) _ _ _ rfl fun v h3 tk3 st3 hv => ?_) hm
  exact q _ h3 tk3 (stays_trans (stays_trans st1 st2) st3) hv
theorem c_inU {c : Nat} {ns : List Nat} : CmS X m N .In (sI (c : Int)) (sU (Lst fI ns)) (decide (c ∈ ns)) := by
  rintro h0 x y h st hs ⟨t, rfl⟩ ⟨a, vs, n, rfl, ho, hw⟩ Q E s e q
  subst e
  refine in_tuple_ints (items := vs.toArray) ⟨_, ho, rfl, n, rfl⟩ (by simpa using hw.ints) ?_
  have e : ((ns.map fun n : Nat => (n : Int)).any fun x => x == (c : Int)) = decide (c ∈ ns) := by
    rw [Bool.eq_iff_iff, decide_eq_true_eq, List.any_eq_true]
    constructor
    · rintro ⟨x, hx, e⟩
      obtain ⟨n, hn, rfl⟩ := List.mem_map.mp hx
      have : n = c := by have := beq_iff_eq.mp e; omega
      exact this ▸ hn
    · intro h
      exact ⟨(c : Int), List.mem_map.mpr ⟨c, h, rfl⟩, beq_self_eq_true _⟩
  rw [e]
  exact q _ s.heap s.toks (stays_refl _) rfl
theorem lst_eqs {ps qs : List (List Nat)} {vs ws : List Value} (h1 : Lst fS ps vs) (h2 : Lst fS qs ws) (hsz : ps.length = qs.length) : ((List.range vs.toArray.size).all fun j => decide (ps[j]? = qs[j]?)) = decide (ps = qs) := by
  rw [Bool.eq_iff_iff, List.all_eq_true, decide_eq_true_eq]
  constructor
  · intro h
    apply List.ext_getElem? 
    intro i
    by_cases hi : i < ps.length
    · exact of_decide_eq_true (h i (by simp [h1.1]; exact hi))
    · rw [List.getElem?_eq_none (by omega), List.getElem?_eq_none (by omega)]
  · rintro rfl i _
    simp
theorem eqAt_lst {A : Around} {s : Shared} {ps qs : List (List Nat)} {vs ws : List Value} (h1 : Lst fS ps vs) (h2 : Lst fS qs ws) (j : Nat) (k1 : j < vs.toArray.size) (k2 : j < ws.toArray.size) : EqAt A s vs.toArray[j] ws.toArray[j] (decide (ps[j]? = qs[j]?)) := by
  simp at k1 k2
  obtain ⟨x, hx, t, e1⟩ := h1.2 j _ (List.getElem?_eq_getElem k1)
  obtain ⟨y, hy, u, e2⟩ := h2.2 j _ (List.getElem?_eq_getElem k2)
  have e : decide (ps[j]? = qs[j]?) = (sx x == sx y) := by rw [hx, hy, sx_inj]; simp
  rw [e]
  simp only [List.getElem_toArray]
  rw [e1, e2]
  exact EqAt.str_str _ _ _ _
theorem c_eqL {ps qs : List (List Nat)} (hu : X.A.units < cLine) : CmS X m N .Eq (sL (Lst fS ps)) (sL (Lst fS qs)) (decide (ps = qs)) := by
  rintro h0 x y h st hs ⟨a, vs, n, rfl, ho, hv⟩ ⟨b, ws, n2, rfl, ho2, hw⟩ Q E s e q
  subst e
  by_cases hsz : ps.length = qs.length
  · refine RcAt.lists (e := fun j => decide (ps[j]? = qs[j]?)) (isList_of ho) (isList_of ho2) (by simp [hv.1, hw.1, hsz]) hu (fun j k1 k2 => eqAt_lst hv hw j k1 k2) X.prog X.w E Q ?_
    rw [lst_eqs hv hw hsz]
    exact q _ s.heap s.toks (stays_refl _) rfl
  · refine RcAt.lists_lengths (isList_of ho) (isList_of ho2) (by simp [hv.1, hw.1, hsz]) hu X.prog X.w E Q ?_
    exact q _ s.heap s.toks (stays_refl _) (by rw [decide_eq_false]; intro e; exact hsz (by rw [e]))
theorem c_neL {ps qs : List (List Nat)} (hu : X.A.units < cLine) : CmS X m N .NotEq (sL (Lst fS ps)) (sL (Lst fS qs)) (!decide (ps = qs)) := by
  rintro h0 x y h st hs ⟨a, vs, n, rfl, ho, hv⟩ ⟨b, ws, n2, rfl, ho2, hw⟩ Q E s e q
  subst e
  by_cases hsz : ps.length = qs.length
  · refine RcNeAt.lists (e := fun j => decide (ps[j]? = qs[j]?)) (isList_of ho) (isList_of ho2) (by simp [hv.1, hw.1, hsz]) hu (fun j k1 k2 => eqAt_lst hv hw j k1 k2) X.prog X.w E Q ?_
    rw [lst_eqs hv hw hsz]
    exact q _ s.heap s.toks (stays_refl _) rfl
  · refine RcNeAt.lists_lengths (isList_of ho) (isList_of ho2) (by simp [hv.1, hw.1, hsz]) hu X.prog X.w E Q ?_
    exact q _ s.heap s.toks (stays_refl _) (by rw [decide_eq_false]; rfl; intro e; exact hsz (by rw [e]))
/-- != [] -/
theorem c_neN {P Q' : List Value → Prop} {b : Bool} (hu : X.A.units < cLine) (hP : ∀ vs, P vs → decide (vs.length ≠ 0) = b) (hQ : ∀ vs, Q' vs → vs = []) : CmS X m N .NotEq (sL P) (sL Q') b := by
  rintro h0 x y h st hs ⟨a, vs, n, rfl, ho, hv⟩ ⟨c, ws, n2, rfl, ho2, hw⟩ Q E s e q
  subst e
  have hw := hQ _ hw
  subst hw
  have hb := hP _ hv
  subst hb
  by_cases hsz : vs.length = 0
  · have : vs = [] := List.length_eq_zero_iff.mp hsz
    subst this
    exact RcNeAt.lists (e := fun _ => true) (isList_of ho) (isList_of ho2) rfl hu (fun j k1 k2 => absurd k1 (by simp)) X.prog X.w E Q (q _ s.heap s.toks (stays_refl _) rfl)
  · refine RcNeAt.lists_lengths (isList_of ho) (isList_of ho2) (by simpa using hsz) hu X.prog X.w E Q ?_
    exact q _ s.heap s.toks (stays_refl _) (by simp [hsz])
end
end Mine
end

section
open PySem PySem.W PySem.Calls PyProof.Rows PySem.Spec PySem.SeqAt
set_option Elab.async false
set_option linter.unusedVariables false
set_option linter.unusedSimpArgs false
set_option maxRecDepth 100000
namespace Mine
-- a logic that knows that no decoder of bytes stands below (a bytearray asks the whole stack before it grows)
def okc : Code → Bool
  | .builtin id _ => !(Builtin.Bytes.decodersThatHold.contains id)
  | _ => true
def Cl (Γ : PySem.Ctx) : Prop := okc Γ.code = true ∧ ∀ x ∈ Γ.below, okc x.1 = true
def wpC {α : Type} (M : Model) (A : Around) (t : Sem α) (Q : α → Shared → Prop) (E : Value → Shared → Prop) (s : Shared) : Prop :=
  ∀ Γ p, Γ.In A → Cl Γ → Sem.wp M Γ t (fun a _ s' => Q a s') (fun e _ s' => E e s') p s
def codeC (M : Model) (A : Around) (c : Code) (R : Result → Shared → Prop) (s : Shared) : Prop :=
  ∀ Γ p, Γ.code = c → Γ.Below A → Cl Γ → wpCode M Γ R p s
theorem Cl.enter {Γ : PySem.Ctx} (h : Cl Γ) {c : Code} {hd : Option Value} {p : Pos} (hc : okc c = true) : Cl (Γ.enter c hd p) :=
  ⟨hc, fun x hx => (List.mem_cons.mp hx).elim (fun e => by rw [e]; exact h.1) (h.2 x)⟩
theorem Cl.goto {Γ : PySem.Ctx} (h : Cl Γ) {c : Code} (hc : okc c = true) : Cl (Γ.goto c) := ⟨hc, h.2⟩
section
variable {α β : Type} {M : Model} {A : Around} {E : Value → Shared → Prop} {s : Shared}
theorem wpC_of {t : Sem α} {Q : α → Shared → Prop} (h : wpAny M A t Q E s) : wpC M A t Q E s := fun Γ p hΓ _ => h Γ p hΓ
theorem codeC_of {c : Code} {R : Result → Shared → Prop} (h : codeAny M A c R s) : codeC M A c R s := fun Γ p hc hΓ _ => h Γ p hc hΓ
theorem wpC_mono {t : Sem α} {Q Q' : α → Shared → Prop} {E' : Value → Shared → Prop} (h : wpC M A t Q E s) (hQ : ∀ a s, Q a s → Q' a s) (hE : ∀ e s, E e s → E' e s) : wpC M A t Q' E' s :=
  fun Γ p hΓ hc => Sem.wp_mono M Γ t (fun a _ s => hQ a s) (fun e _ s => hE e s) p s (h Γ p hΓ hc)
theorem wpC_bind {m : Sem α} {f : α → Sem β} {Q : β → Shared → Prop} (h : wpC M A m (fun a s' => wpC M A (f a) Q E s') E s) : wpC M A (m >>= f) Q E s := fun Γ p hΓ hc => by
  rw [Sem.wp_bind']
  exact Sem.wp_mono M Γ m (fun a p' s' h' => h' Γ p' hΓ hc) (fun _ _ _ h' => h') p s (h Γ p hΓ hc)
/-- a plain tree first, then one of ours -/
theorem wpC_then {m : Sem α} {f : α → Sem β} {Q : β → Shared → Prop} (h : wpAny M A m (fun a s' => wpC M A (f a) Q E s') E s) : wpC M A (m >>= f) Q E s := wpC_bind (wpC_of h)
theorem wpC_pure {a : α} {Q : α → Shared → Prop} (h : Q a s) : wpC M A (pure a) Q E s := fun _ _ _ _ => h
theorem wpC_holding {vs : List Value} {m : Sem α} {Q : α → Shared → Prop} (h : wpC M A m Q E s) : wpC M A (holding vs m) Q E s := fun Γ p hΓ hc => by rw [Sem.wp_holding]; exact h Γ p hΓ hc
theorem wpC_standAt {pos : Pos} {Q : Unit → Shared → Prop} (h : Q () s) : wpC M A (standAt pos) Q E s := fun _ _ _ _ => h
theorem wpC_onRaise {m : Sem α} {k : Value → Sem Unit} {Q : α → Shared → Prop} (h : wpC M A m Q (fun e s' => wpC M A (k e) (fun _ s'' => E e s'') E s') s) : wpC M A (m.onRaise k) Q E s := fun Γ p hΓ hc => by
  rw [Sem.wp_onRaise]
  exact Sem.wp_mono M Γ m (fun _ _ _ h' => h') (fun e p' s' h' => h' Γ p' hΓ hc) p s (h Γ p hΓ hc)
theorem wpC_attempt {m : Sem α} {Q : Except Value α → Shared → Prop} (h : wpC M A m (fun a => Q (.ok a)) (fun e => Q (.error e)) s) : wpC M A m.attempt Q E s := fun Γ p hΓ hc => by rw [Sem.wp_attempt]; exact h Γ p hΓ hc
theorem wpC_run {c : Code} {h : Option Value} {Q : Flow → Shared → Prop} (hok : okc c = true) (hc : codeC M (A.mark h) c (fun r s' => match r with | .ok f => Q f s' | .error e => E e s') s) (hnb : h ≠ some byPass := by intro x; cases x) : wpC M A (run c h) Q E s :=
  fun Γ p hΓ hcl => by rw [Sem.wp_run]; exact hc _ p rfl (hΓ.enter c h p hnb) (hcl.enter hok)
theorem wpC_keep {vs : List Value} {m : Sem α} {Q : α → Shared → Prop} (h : wpC M A m Q E s) : wpC M A (m.keep vs) Q E s := fun Γ p hΓ hc => by rw [Sem.wp_keep]; exact h Γ p hΓ hc
theorem wpC_call {f : Value} {pos : List Value} {kw : List (Str × Value)} {Q : Value → Shared → Prop}
    (hc : codeC M A (.call f ⟨pos, kw⟩) (fun r s' => match r with | .ok (.ret v) => Q v s' | .ok _ => False | .error e => E e s') s) : wpC M A (call f pos kw) Q E s :=
  fun Γ p hΓ hcl => by
    show Sem.wp M Γ (runValue (.call f ⟨pos, kw⟩)) _ _ p s
    rw [Sem.wp_runValue]; exact hc _ p rfl (hΓ.enter _ none p (by intro x; cases x)) (hcl.enter rfl)
theorem codeC_mono {c : Code} {R R' : Result → Shared → Prop} (h : codeC M A c R s) (hR : ∀ r s, R r s → R' r s) : codeC M A c R' s := fun Γ p hc hΓ hcl => wpCode_mono hR (h Γ p hc hΓ hcl)
theorem codeC_of_tree {c : Code} {R : Result → Shared → Prop}
    (h : wpC M (A.under c) (M.den c) (fun fin s' => match fin with | .done f => R (.ok f) s' | .again c' => c'.quiet = true ∧ okc c' = true ∧ codeC M A c' R s') (fun e s' => R (.error e) s') s) : codeC M A c R s := fun Γ p hc hΓ hcl => by
  rw [wpCode_iff_wp, hc]
  refine Sem.wp_mono M Γ _ (fun fin p' s' h' => ?_) (fun _ _ _ h' => h') p s (h Γ p (hc ▸ hΓ.in) hcl)
  cases fin with
  | done f => exact h'
  | again c' => exact ⟨h'.1, h'.2.2 (Γ.goto c') p' rfl (hΓ.goto c') (hcl.goto h'.2.1)⟩
theorem codeC_loop {c : Code} {R : Result → Shared → Prop} (hq : c.quiet = true) (hok : okc c = true) (I : Nat → Shared → Prop)
    (turn : ∀ n s, I n s → wpC M (A.under c) (M.den c)
      (fun fin s' => match fin with | .done f => R (.ok f) s' | .again c' => (c' = c ∧ ∃ m, m < n ∧ I m s') ∨ (c'.quiet = true ∧ okc c' = true ∧ codeC M A c' R s')) (fun e s' => R (.error e) s') s)
    (n : Nat) (h : I n s) : codeC M A c R s := by
  induction n using Nat.strongRecOn generalizing s with
  | ind n ih =>
    refine codeC_of_tree (wpC_mono (turn n s h) (fun fin s' hf => ?_) fun _ _ h' => h')
    cases fin with
    | done f => exact hf
    | again c' =>
      rcases hf with ⟨rfl, m, hm, hI⟩ | hf
      · exact ⟨hq, hok, ih m hm hI⟩
      · exact hf
theorem wpC_noted {env : Env} {m : Sem α} {Q : α → Shared → Prop} (h : wpC M A m Q (notedBy M A env E) s) : wpC M A (m.onRaise fun x => do noteFrame x env; theTreesLotGoes x) Q E s :=
  wpC_onRaise (wpC_mono h (fun _ _ q => q) fun _ _ hx => wpC_of (wpAny_bind (wpAny_mono hx (fun _ _ e => wpAny_theTreesLotGoes e) fun _ _ e => e)))
theorem wpC_runOwn {env : Env} {c : Code} {Q : Flow → Shared → Prop} (hok : okc c = true)
    (hc : codeC M A c (fun r s' => match r with | .ok f => Q f s' | .error e => cameBackBy M A env E e s') s) : wpC M A (runOwn c env) Q E s := by
  unfold runOwn
  exact wpC_onRaise (wpC_mono (wpC_run hok hc) (fun _ _ x => x) fun e s' x => wpC_of x)
end
section
variable {prog : Program} {w : World} {A : Around} {E : Value → Shared → Prop} {s : Shared} {env : Env} {R : Result → Shared → Prop}
theorem codeC_block {stmts : List Stmt} (h : wpC (model prog w) A (execs stmts env) (fun f s' => R (.ok f) s') (notedBy (model prog w) A env fun e s' => R (.error e) s') s) : codeC (model prog w) A (.block stmts env) R s := by
  refine codeC_of_tree ?_
  show wpC _ _ (do return Fin.done (← (execs stmts env).onRaise (fun x => do noteFrame x env; theTreesLotGoes x))) _ _ s
  exact wpC_bind (wpC_noted (wpC_mono h (fun f s' h' => wpC_pure h') fun _ _ h' => h'))
theorem wpC_execs_cons {st : Stmt} {rest : List Stmt} {Q : Flow → Shared → Prop}
    (h : wpC (model prog w) A (exec st env) (fun f s' => match f with | .next => wpC (model prog w) A (execs rest env) Q E s' | f => Q f s') E s) : wpC (model prog w) A (execs (st :: rest) env) Q E s := fun Γ p hΓ hc => by
  rw [execs_cons, Sem.wp_bind']
  refine Sem.wp_mono (model prog w) Γ _ (fun f p' s' h' => ?_) (fun _ _ _ h' => h') _ _ (h Γ p hΓ hc)
  cases f <;> first | exact h' Γ p' hΓ hc | exact h'
theorem wpC_If {test : Expr} {body orelse : List Stmt} {pos : Pos} {Q : Flow → Shared → Prop}
    (h : wpC (model prog w) A (isTrue test env (eval test env)) (fun b s₂ => if b then wpC (model prog w) A (execs body env) Q E s₂ else wpC (model prog w) A (execs orelse env) Q E s₂) E s) : wpC (model prog w) A (exec (.If test body orelse pos) env) Q E s := fun Γ p hΓ hc => by
  simp only [exec_If, Sem.wp_bind', Sem.wp_cmd_standAt]
  refine Sem.wp_mono (model prog w) Γ _ (fun b p₂ s₂ h₂ => ?_) (fun _ _ _ h' => h') _ _ (h Γ _ hΓ hc)
  cases b <;> exact h₂ Γ p₂ hΓ hc
theorem codeC_whileLoop {test : Expr} {body orelse : List Stmt} (I : Nat → Shared → Prop)
    (turn : ∀ n s, I n s → wpC (model prog w) A (isTrue test env (eval test env)) (fun b s₂ =>
        if b then wpC (model prog w) A (execs body env) (fun f s₃ => match f with
            | .next | .cont => ∃ m, m < n ∧ I m s₃
            | .brk => R (.ok .next) s₃
            | .ret v => R (.ok (.ret v)) s₃) (notedBy (model prog w) A env fun e s' => R (.error e) s') s₂
        else wpC (model prog w) A (execs orelse env) (fun f s₃ => R (.ok f) s₃) (notedBy (model prog w) A env fun e s' => R (.error e) s') s₂)
        (notedBy (model prog w) A env fun e s' => R (.error e) s') s)
    (n : Nat) (h : I n s) : codeC (model prog w) A (.whileLoop test body orelse env) R s := by
  refine codeC_loop rfl rfl I (fun n s hI => ?_) n h
  show wpC _ A ((whileTurn test body orelse env).onRaise (fun x => do noteFrame x env; theTreesLotGoes x)) _ _ s
  refine wpC_noted ?_
  simp only [whileTurn]
  refine wpC_bind (wpC_mono (turn n s hI) (fun b s₂ h₂ => ?_) fun _ _ h' => h')
  cases b with
  | false =>
    simp only [Bool.false_eq_true, if_false] at h₂ ⊢
    exact wpC_bind (wpC_mono h₂ (fun f s₃ h₃ => wpC_pure h₃) fun _ _ h' => h')
  | true =>
    simp only [if_true] at h₂ ⊢
    refine wpC_bind (wpC_mono h₂ (fun f s₃ h₃ => ?_) fun _ _ h' => h')
    cases f with
    | next => exact wpC_pure (.inl ⟨rfl, h₃⟩)
    | cont => exact wpC_pure (.inl ⟨rfl, h₃⟩)
    | brk => exact wpC_pure h₃
    | ret v => exact wpC_pure h₃
theorem wpC_While {test : Expr} {body orelse : List Stmt} {pos : Pos} {Q : Flow → Shared → Prop}
    (h : codeC (model prog w) A (.whileLoop test body orelse env) (fun r s' => match r with | .ok f => Q f s' | .error e => cameBackBy (model prog w) A env E e s') s) : wpC (model prog w) A (exec (.While test body orelse pos) env) Q E s := by
  rw [exec_While]; exact wpC_bind (wpC_standAt (wpC_runOwn rfl h))
theorem codeC_forLoop {target : Expr} {it : Value} {body orelse : List Stmt} (I : Nat → Shared → Prop)
    (turn : ∀ n s, I n s → wpC (model prog w) A (pyNext it) (fun r s₁ => match r with
      | none => wpC (model prog w) A (execs orelse env) (fun f s₃ => R (.ok f) s₃) (notedBy (model prog w) A env fun e s' => R (.error e) s') s₁
      | some v => wpC (model prog w) A (PySem.assign target env v) (fun _ s₂ => wpC (model prog w) A (execs body env) (fun f s₃ => match f with
          | .next | .cont => ∃ m, m < n ∧ I m s₃
          | .brk => R (.ok .next) s₃
          | .ret v => R (.ok (.ret v)) s₃) (notedBy (model prog w) A env fun e s' => R (.error e) s') s₂) (notedBy (model prog w) A env fun e s' => R (.error e) s') s₁) (notedBy (model prog w) A env fun e s' => R (.error e) s') s)
    (n : Nat) (h : I n s) (ht : ∀ v, letOwnedTupleGo target it v = pure () := by intro _; rfl) : codeC (model prog w) A (.forLoop target it body orelse env) R s := by
  refine codeC_loop rfl rfl I (fun n s hI => ?_) n h
  show wpC _ _ ((forTurn target it body orelse env).onRaise (fun x => do noteFrame x env; theTreesLotGoes x)) _ _ s
  refine wpC_noted ?_
  simp only [forTurn]
  refine wpC_bind (wpC_standAt (wpC_bind (wpC_onRaise (wpC_mono (turn n s hI) (fun r s₁ h₁ => ?_) fun _ _ h' => wpC_standAt h'))))
  cases r with
  | none => exact wpC_pure (.inr ⟨rfl, rfl, codeC_block h₁⟩)
  | some v =>
    refine wpC_bind (wpC_of (wpAny_of_eq (ht v) ?_))
    refine wpC_bind (wpC_mono h₁ (fun _ s₂ h₂ => wpC_bind (wpC_mono h₂ (fun f s₃ h₃ => ?_) fun _ _ h' => h')) fun _ _ h' => h')
    cases f with
    | next => exact wpC_pure (.inl ⟨rfl, h₃⟩)
    | cont => exact wpC_pure (.inl ⟨rfl, h₃⟩)
    | brk => exact wpC_pure h₃
    | ret v => exact wpC_pure h₃
theorem wpC_For {target iter : Expr} {body orelse : List Stmt} {pos : Pos} {Q : Flow → Shared → Prop}
    (h : wpAny (model prog w) A (eval iter env) (fun x s₁ => wpAny (model prog w) A (pyIter x) (fun it s₂ => codeC (model prog w) A (.forLoop target it body orelse env) (fun r s' => match r with | .ok f => Q f s' | .error e => cameBackBy (model prog w) A env E e s') s₂) E s₁) E s)
    (hs : ∀ x, foldedSetIterable iter env x = pure x := by intro _; rfl) : wpC (model prog w) A (exec (.For target iter body orelse pos) env) Q E s := by
  rw [exec_For]
  exact wpC_bind (wpC_standAt (wpC_then (wpAny_mono h (fun x s₁ h₁ => wpC_then (wpAny_of_eq (hs x) (wpC_bind (wpC_standAt (wpC_then (wpAny_holding
    (wpAny_mono h₁ (fun it s₂ h₂ => wpC_runOwn rfl h₂) fun _ _ h' => h'))))))) fun _ _ h' => h')))
theorem wpC_Expr_any {e : Expr} {pos : Pos} {Q : Flow → Shared → Prop} (h : wpC (model prog w) A (eval e env) (fun _ => Q .next) E s)
    (hi : interactive env = false := by rfl) (hs : swapsWith e none pos.line env = pure false := by rfl) : wpC (model prog w) A (exec (.Expr e pos) env) Q E s := by
  rw [exec_Expr env e pos hi hs]
  exact wpC_bind (wpC_standAt (wpC_bind (wpC_mono h (fun v s' h' => wpC_of (wpAny_dropValue h')) fun _ _ x => x)))
theorem wpC_Assign_Name {x : Str} {pos' pos : Pos} {value : Expr} {Q : Flow → Shared → Prop} (h : wpC (model prog w) A (eval value env) (fun v s₁ => wpC (model prog w) A (storeName env x v) (fun _ => Q .next) E s₁) E s)
    (hs : swapsWith value (some (.Name x pos')) pos.line env = pure false := by rfl) : wpC (model prog w) A (exec (.Assign [.Name x pos'] value pos) env) Q E s := fun Γ p hΓ hc => by
  simp only [exec_Assign_Name env x pos' value pos hs, Sem.wp_bind', Sem.wp_cmd_standAt, Sem.wp_bindName, Sem.wp_pure']
  exact Sem.wp_mono (model prog w) Γ _ (fun v _ s₁ h₁ => h₁ Γ _ hΓ hc) (fun _ _ _ h' => h') _ _ (h Γ _ hΓ hc)
theorem wpC_Return_some {e : Expr} {pos : Pos} {Q : Flow → Shared → Prop} (h : wpC (model prog w) A (eval e env) (fun v => Q (.ret v)) E s) : wpC (model prog w) A (exec (.Return (some e) pos) env) Q E s := fun Γ p hΓ hc => by
  simp only [exec_Return_some, Sem.wp_bind', Sem.wp_cmd_standAt, Sem.wp_pure']; exact h Γ _ hΓ hc
theorem codeC_func {body : List Stmt} (h : wpC (model prog w) (A.deeper env) (execs body env) (fun f s' => R (.ok (.ret (match f with | .ret v => v | _ => .none))) s')
      (fun e s' => wpAny (model prog w) (A.deeper env) (leaving env e) (fun _ s'' => R (.error e) s'') (fun e' s'' => R (.error e') s'') s') s) : codeC (model prog w) A (.func body env) R s := by
  refine codeC_of_tree ?_
  show wpC _ (A.deeper env) (do point; match ← (execs body env).onRaise (leaving env) with | .ret v => ret v | _ => ret .none) _ _ s
  refine wpC_bind (wpC_of (wpAny_point (wpC_bind (wpC_onRaise (wpC_mono h (fun f s' h' => ?_) fun _ _ h' => wpC_of h')))))
  cases f <;> exact wpC_pure h'
theorem codeC_call_function {a : Addr} {args : Args} {o : Obj} {fd : FuncData} {body : List Stmt} (hroom : A.depth < recursionLimit) (ho : s.heap.get? a = some o)
    (hd' : o.data = .func fd) (hco : fd.scope.isCoroutine = false) (hgen : fd.scope.isGenerator = false) (hbody : fd.body = .stmts body) (hcd : s.heap.CodeRec fd.code fd.qualname)
    (h : wpAny (model prog w) A.in1 (bindArgs fd args) (fun binds s₁ =>
      wpAny (model prog w) A.in1 (newFunctionEnv fd.scope fd.globals fd.closure binds (fd.qualname ++ ".<locals>.") (some a) fd.code none fd.builtins)
        (fun env s₂ => s₂.heap.NoLimit ∧ codeC (model prog w) A (.func body env) R s₂) (fun e s' => R (.error e) s') s₁) (fun e s' => R (.error e) s') s) :
    codeC (model prog w) A (.call (.ref a) args) R s := by
  refine codeC_of_tree ?_
  refine wpC_of ?_
  show wpAny _ A.in1 (callAny (.ref a) args) _ _ s
  simp only [callAny]
  refine wpAny_bind (wpAny_load ho ?_)
  obtain ⟨c, oc, vs, tq, hc, hoc, hdc, hq⟩ := hcd
  simp only [hd', callFunction, hco, hgen, hbody, hc]
  rw [hc] at h
  refine wpAny_bind (m := field (.ref c) 1) (wpAny_field hoc hdc hq (wpAny_bind (wpAny_pure ?_)))
  exact wpAny_bind (wpAny_mono h (fun binds s₁ h₁ => wpAny_bind (wpAny_mono h₁ (fun env s₂ h₂ => wpAny_bind (wpAny_enterFrame h₂.1 hroom
    (wpAny_pure ⟨rfl, rfl, h₂.2⟩))) fun _ _ h' => h')) fun _ _ h' => h')
theorem codeC_call_def {a : Addr} {o : Obj} {fd : FuncData} {body : List Stmt} {args : Args} {binds : List (Str × Value)}
    (hroom : A.depth < recursionLimit) (ho : s.heap.get? a = some o) (hdata : o.data = .func fd) (hlim : s.heap.NoLimit) (hcd : s.heap.CodeRec fd.code fd.qualname)
    (hbody : fd.body = .stmts body) (hbind : BindsTo s fd args binds) (hcell : ∀ x ∈ fd.scope.names, x.2 ≠ .cell) (hloc : ∀ x ∈ binds, fd.scope.names.lookup x.1 = some .local)
    (h : ∀ h₀, h₀.Ns s.heap.objs.size (fun x => binds.reverse.lookup x) → (∀ b o, s.heap.get? b = some o → h₀.get? b = some o) →
      wpC (model prog w) (A.deeper (callEnv fd s.heap.objs.size a)) (execs body (callEnv fd s.heap.objs.size a)) (fun f s' => R (.ok (.ret (match f with | .ret v => v | _ => .none))) s')
        (fun e s' => wpAny (model prog w) (A.deeper (callEnv fd s.heap.objs.size a)) (leaving (callEnv fd s.heap.objs.size a) e) (fun _ s'' => R (.error e) s'') (fun e' s'' => R (.error e') s'') s')
        { s with heap := h₀, toks := s.toks + binds.length })
    (hco : fd.scope.isCoroutine = false := by rfl) (hgen : fd.scope.isGenerator = false := by rfl) (hk : fd.scope.kind = .function := by rfl) : codeC (model prog w) A (.call (.ref a) args) R s := by
  refine codeC_call_function hroom ho hdata hco hgen hbody hcd (hbind _ _ _ _ ?_)
  refine wpAny_newFunctionEnv hcell hloc (fun h₀ hns₀ hsb₀ => ⟨hlim.fresh _ hsb₀, codeC_func (h h₀ hns₀ fun b o e => ?_)⟩) hk
  exact hsb₀.extBut b o (Nat.ne_of_lt (Heap.lt_size e)) (Heap.get?_push_of_some _ e)
theorem wpC_spliced_nil {Q : List Value → Shared → Prop} (h : Q [] s) : wpC (model prog w) A (spliced []) Q E s := wpC_of (Calls.spliced_nil h)
theorem wpC_spliced_cons {x : Sem Value} {rest : List (Bool × Sem Value)} {Q : List Value → Shared → Prop}
    (h : wpC (model prog w) A x (fun v s₁ => wpC (model prog w) A (spliced rest) (fun vs s₂ => Q (v :: vs) s₂) E s₁) E s) : wpC (model prog w) A (spliced ((false, x) :: rest)) Q E s := by
  rw [spliced]
  refine wpC_bind (wpC_mono h (fun v s₁ h₁ => ?_) fun _ _ x => x)
  simp only [Bool.false_eq_true, if_false]
  exact wpC_bind (wpC_pure (wpC_bind (wpC_holding (wpC_mono h₁ (fun vs s₂ h₂ => wpC_pure h₂) fun _ _ x => x))))
theorem wpC_evalArgs_plain {f : Value} {x : Sem Value} {rest : List (Bool × Sem Value)} {Q : Args → Shared → Prop}
    (h : wpC (model prog w) A (spliced ((false, x) :: rest)) (fun vs s' => Q ⟨vs, []⟩ s') E s) : wpC (model prog w) A (evalArgs f true ((false, x) :: rest) []) Q E s := by
  unfold evalArgs
  show wpC (model prog w) A (spliced ((false, x) :: rest) >>= _) Q E s
  refine wpC_bind (wpC_mono h (fun vs s' h' => ?_) fun _ _ x => x)
  refine wpC_holding ?_
  exact wpC_bind (wpC_pure (wpC_bind (wpC_pure (wpC_pure h'))))
theorem wpC_callWith {f : Value} {first : List Value} {pos : Pos} {P : Heap → Prop} {args : List (Bool × Sem Value)} {keywords : List (Option Str × Sem Value)} {Q : Value → Shared → Prop} (hplain : (args.any (·.1) || keywords.any (·.1.isNone)) = false)
    (hk : ∀ h, P h → ∃ k, (k = Keeper.frame ∨ k = Keeper.machine) ∧ Looks (model prog w) h (keeperOf f) k)
    (h : wpC (model prog w) A (evalArgs f true args keywords) (fun a s₁ => P s₁.heap ∧ wpC (model prog w) A (call f (first ++ a.pos) a.kw) Q E s₁) E s) : wpC (model prog w) A (callWith pos f first args keywords) Q E s := by
  unfold callWith
  refine wpC_bind (wpC_holding (wpC_mono h (fun a s₁ h₁ => wpC_bind (wpC_standAt ?_)) fun _ _ x => x))
  obtain ⟨k, hk', L⟩ := hk _ h₁.1
  simp only [hplain]
  refine wpC_then (L.here ?_)
  have tail : ∀ {t : Sem Value}, wpC (model prog w) A t Q E s₁ → wpC (model prog w) A (t >>= fun r => holding [r] point >>= fun _ => pure r) Q E s₁ :=
    fun ht => wpC_bind (wpC_mono ht (fun r s₂ hr => wpC_of (wpAny_bind (wpAny_holding (wpAny_point (wpAny_pure hr))))) fun _ _ x => x)
  have marked (mk : Value) : wpC (model prog w) A (callMarked mk f (first ++ a.pos) a.kw) Q E s₁ := by unfold callMarked; exact wpC_keep h₁.2
  rcases hk' with rfl | rfl <;> dsimp only <;> first | exact tail h₁.2 | (split <;> first | exact tail h₁.2 | exact tail (marked _))
end
end Mine
end

section
open PySem PySem.W PySem.Calls PyProof.Rows PySem.Spec PySem.SeqAt
set_option Elab.async false
set_option linter.unusedVariables false
set_option linter.unusedSimpArgs false
set_option linter.deprecated false
set_option maxRecDepth 100000
namespace Mine
-- bytearrays
theorem ba_plain : PlainAttrs "bytearray" :=
  ⟨⟨"bytearray.__getattribute__", by rw [typeLookup_type, builtinLookup_eq_fast]; kernel_rfl, by decide +kernel⟩, by rw [typeLookup_type, builtinLookup_eq_fast]; kernel_rfl⟩
theorem ba_owner : Manifest.owners.lookup (String.ofList ['y', 'a', 'r', 'r', 'a', 'e', 't', 'y', 'b'].reverse) = some Manifest.sig_bytearray := by kernel_rfl
theorem ba_slot_append : Slot "bytearray" "append" "bytearray.append" :=
  .of (owner := "bytearray") (n := "append") (by rw [typeLookup_type, builtinLookup_eq_fast]; kernel_rfl) (by decide +kernel) (by decide +kernel) (by decide +kernel)
    (by first | exact .inl (by decide +kernel) | exact .inr (by decide +kernel)) (by rw [isSubtype_type]; kernel_rfl)
theorem ba_slot_extend : Slot "bytearray" "extend" "bytearray.extend" :=
  .of (owner := "bytearray") (n := "extend") (by rw [typeLookup_type, builtinLookup_eq_fast]; kernel_rfl) (by decide +kernel) (by decide +kernel) (by decide +kernel)
    (by first | exact .inl (by decide +kernel) | exact .inr (by decide +kernel)) (by rw [isSubtype_type]; kernel_rfl)
theorem ba_type_append : typeOf (.builtin "bytearray.append") = pure (.type "method_descriptor") := by show builtinType _ = _; rw [builtinType_eq_fast]; kernel_rfl
theorem ba_type_extend : typeOf (.builtin "bytearray.extend") = pure (.type "method_descriptor") := by show builtinType _ = _; rw [builtinType_eq_fast]; kernel_rfl
theorem ba_entry_append : entryFor table "bytearray.append" = some Builtin.«bytearray.append» := entryFor_of_tree (by kernel_rfl)
theorem ba_entry_extend : entryFor table "bytearray.extend" = some Builtin.«bytearray.extend» := entryFor_of_tree (by kernel_rfl)
theorem ba_args_append (a b : Value) : argsOk "bytearray.append" ⟨[a, b], []⟩ := by
  unfold argsOk; rw [signature?_of (id := "bytearray.append") (n := ['d', 'n', 'e', 'p', 'p', 'a']) (o := ['y', 'a', 'r', 'r', 'a', 'e', 't', 'y', 'b']) (by kernel_rfl) ba_owner]; kernel_rfl
theorem ba_args_extend (a b : Value) : argsOk "bytearray.extend" ⟨[a, b], []⟩ := by
  unfold argsOk; rw [signature?_of (id := "bytearray.extend") (n := ['d', 'n', 'e', 't', 'x', 'e']) (o := ['y', 'a', 'r', 'r', 'a', 'e', 't', 'y', 'b']) (by kernel_rfl) ba_owner]; kernel_rfl
theorem ba_mro : mroOf (.type "bytearray") = pure [.type "bytearray", .type "object"] := by rw [mroOf_type]; kernel_rfl
theorem ba_slot_init : Slot "bytearray" "__init__" "bytearray.__init__" :=
  .of (owner := "bytearray") (n := "__init__") (by rw [typeLookup_type, builtinLookup_eq_fast]; kernel_rfl) (by decide +kernel) (by decide +kernel) (by decide +kernel)
    (by first | exact .inl (by decide +kernel) | exact .inr (by decide +kernel)) (by rw [isSubtype_type]; kernel_rfl)
theorem ba_lookup_new : typeLookup (.type "bytearray") "__new__" = pure (some (.builtin "bytearray.__new__")) := by rw [typeLookup_type, builtinLookup_eq_fast]; kernel_rfl
theorem ba_called : TypeCalled "bytearray" "bytearray.__new__" "bytearray.__init__" :=
  ⟨by decide +kernel, by decide +kernel, ⟨_, _, ba_mro⟩, madeBy_type ba_mro ba_lookup_new (by decide +kernel), by decide +kernel, by rw [isSubtype_type]; kernel_rfl, ba_slot_init⟩
theorem ba_entry_init : entryFor table "bytearray.__init__" = some Builtin.«bytearray.__init__» := entryFor_of_tree (by kernel_rfl)
theorem ba_entry_new : entryFor table "bytearray.__new__" = some Builtin.«list.__new__» :=
  entryFor_alias (id' := "list.__new__") (by kernel_rfl) (by first | rfl | decide +kernel) (by decide +kernel) (by kernel_rfl)
theorem ba_typeCall : checkTypeCall "bytearray" ⟨[], []⟩ = pure () := by kernel_rfl
theorem ba_newCall : checkBuiltinCall "bytearray.__new__" ⟨[.type "bytearray"], []⟩ = pure () := by kernel_rfl
theorem ba_plain_new : plainId "bytearray.__new__" = true := by decide +kernel


theorem exported_one {v : Value} (c : Code) (p : Pos) (h1 : okc c = true) (h2 : c.isGuard = false) : (match (c, p) with
    | (.builtin "bytearray.__contains__" ⟨v' :: _, _⟩, _) | (.builtin "bytearray.__mod__" ⟨v' :: _, _⟩, _)
    | (.builtin "bytearray.__rmod__" ⟨_ :: v' :: _, _⟩, _) | (.builtin "_struct.pack_into.held" ⟨v' :: _, _⟩, _) => Builtin.Bytes.sameRef v' v
    | (.builtin "bytearray.find.held" ⟨_ :: _ :: held, _⟩, _) => held.any (Builtin.Bytes.sameRef v)
    | (.builtin id ⟨v' :: _, _⟩, _) => Builtin.Bytes.sameRef v' v && Builtin.Bytes.decodersThatHold.contains id
    | _ => false) = false := by
  split
  · rename_i e; obtain ⟨rfl, rfl⟩ := Prod.mk.inj e; exact absurd h2 (by simp [Code.isGuard, guardIds])
  · rename_i e; obtain ⟨rfl, rfl⟩ := Prod.mk.inj e; exact absurd h2 (by simp [Code.isGuard, guardIds])
  · rename_i e; obtain ⟨rfl, rfl⟩ := Prod.mk.inj e; exact absurd h2 (by simp [Code.isGuard, guardIds])
  · rename_i e; obtain ⟨rfl, rfl⟩ := Prod.mk.inj e; exact absurd h2 (by simp [Code.isGuard, guardIds])
  · rename_i e; obtain ⟨rfl, rfl⟩ := Prod.mk.inj e; exact absurd h2 (by simp [Code.isGuard, guardIds])
  · rename_i e; obtain ⟨rfl, rfl⟩ := Prod.mk.inj e
    simp only [okc, Bool.not_eq_true'] at h1
    rw [h1, Bool.and_false]
  · rfl
section
variable {prog : Program} {w : World} {A : Around} {E : Value → Shared → Prop} {s : Shared} {env : Env} {R : Result → Shared → Prop}
theorem guards_nil {c : Code} {p : Pos} {l : List (Code × Pos)} (h : c.guards ++ guardsOf l = []) : ∀ x ∈ (c, p) :: l, x.1.isGuard = false := by
  have h2 : guardsOf ((c, p) :: l) = [] := by rw [guardsOf_cons]; exact h
  intro x hx
  cases hg : x.1.isGuard with
  | false => rfl
  | true =>
    have : x.1 ∈ guardsOf ((c, p) :: l) := List.mem_filter.mpr ⟨List.mem_map.mpr ⟨x, hx, rfl⟩, hg⟩
    rw [h2] at this; cases this
theorem wpC_exported {v : Value} {Q : Bool → Shared → Prop} (hg : A.guards = some []) (h : Q false s) : wpC (model prog w) A (Builtin.Bytes.exported v) Q E s := fun Γ p hΓ hc => by
  unfold Builtin.Bytes.exported
  show Q (((Γ.code, p) :: Γ.below).any _) s
  have hgs := guards_nil (p := p) (hΓ.2.2.2.1 [] hg)
  rw [List.any_eq_false.mpr]
  · exact h
  · intro x hx
    have hok : okc x.1 = true := (List.mem_cons.mp hx).elim (fun e => by rw [e]; exact hc.1) (hc.2 x)
    rw [Bool.not_eq_true]
    exact exported_one x.1 x.2 hok (hgs x hx)
abbrev ba (l : List Nat) : Obj := { cls := .type "bytearray", data := .bytearray (bx l) }
theorem wpC_of_eq {α : Type} {M : Model} {t : Sem α} {a : α} {Q : α → Shared → Prop} (h : t = pure a) (hq : Q a s) : wpC M A t Q E s := wpC_of (wpAny_of_eq h hq)
theorem wpC_if_false {α : Type} {M : Model} {c : Bool} {a b : Sem α} {Q : α → Shared → Prop} (hc : c = false) (h : wpC M A b Q E s) : wpC M A (if c = true then a else b) Q E s := by
  subst hc; exact h
theorem wpC_if_true {α : Type} {M : Model} {c : Bool} {a b : Sem α} {Q : α → Shared → Prop} (hc : c = true) (h : wpC M A a Q E s) : wpC M A (if c = true then a else b) Q E s := by
  subst hc; exact h
theorem wpC_resize {a : Addr} {l : List Nat} {Q : Unit → Shared → Prop} (hg : A.guards = some []) (ho : s.heap.get? a = some (ba l)) (h : Q () s) : wpC (model prog w) A (Builtin.Bytes.checkResize (.ref a)) Q E s := by
  unfold Builtin.Bytes.checkResize
  refine wpC_bind (m := (Builtin.Bytes.exported (.ref a) <||> (do return (← Builtin.Bytes.exportsOf (.ref a)) > 0))) ?_
  show wpC _ _ (Builtin.Bytes.exported (.ref a) >>= _) _ _ _
  refine wpC_bind (wpC_exported hg ?_)
  show wpC _ _ (Builtin.Bytes.exportsOf (.ref a) >>= _) _ _ _
  refine wpC_bind ?_
  unfold Builtin.Bytes.exportsOf
  refine wpC_then (wpAny_load ho ?_)
  exact wpC_pure (wpC_pure (wpC_if_false rfl (wpC_pure h)))
theorem write_ba {a : Addr} {l l' : List Nat} {f : Array UInt8 → Array UInt8} {Q : Unit → Shared → Prop} (ho : s.heap.get? a = some (ba l)) (hf : f (bx l) = bx l') (hz : l'.length ≤ 1000000)
    (h : ∀ h', h'.get? a = some (ba l') → (∀ b ob, b ≠ a → s.heap.get? b = some ob → h'.get? b = some ob) → Q () { s with heap := h' }) : wpAny (model prog w) A (Builtin.Bytes.write (.ref a) f) Q E s := by
  show wpAny _ _ (updateBytearray a f) _ _ _
  unfold updateBytearray
  refine wpAny_bind (wpAny_load ho ?_)
  show wpAny _ _ (update a (Obj.mapBytearray f) >>= fun _ => lookBehind a) _ _ _
  refine wpAny_bind (wpAny_update ho ?_)
  have ho' : (s.heap.update a (Obj.mapBytearray f)).get? a = some (ba l') := by
    rw [Heap.get?_update_self _ ho rfl]
    show some ({ cls := .type "bytearray", data := .bytearray (f (bx l)) } : Obj) = _
    rw [hf]
  refine wpAny_lookBehind ho' ?_ (h _ ho' fun b ob hb e => (Heap.get?_update_other _ _ (Ne.symm hb)).trans e)
  show (if (bx l').size > sizeLine then some "bytearray:memory" else none) = none
  rw [if_neg]
  rw [bx_size, sizeLine_eq]; omega
theorem bx_push {l : List Nat} {c : Nat} : (bx l).push c.toUInt8 = bx (l ++ [c]) := by simp [bx]
theorem bx_app {l r : List Nat} : bx l ++ bx r = bx (l ++ r) := by simp [bx]
theorem codeC_builtin {id : String} {args : Args} {b : Builtin} (hq : plainId id = true) (hb : entryFor table id = some b)
    (h : wpC (model prog w) A.in1 (b args) (fun fin s' => match fin with | .done f => R (.ok f) s' | .again c' => c'.quiet = true ∧ okc c' = true ∧ codeC (model prog w) A c' R s') (fun e s' => R (.error e) s') s) :
    codeC (model prog w) A (.builtin id args) R s := by
  refine codeC_of_tree ?_
  rw [Around.under_plainId hq args]
  show wpC _ _ (match entryFor table id with | some b => b args | none => unsupported ((withoutEnding? id "#data").getD id)) _ _ s
  rw [hb]; exact h
theorem codeC_builtin_at {A' : Around} {id : String} {args : Args} {b : Builtin} (hu : A.under (.builtin id args) = A') (hb : entryFor table id = some b)
    (h : wpC (model prog w) A' (b args) (fun fin s' => match fin with | .done f => R (.ok f) s' | .again c' => c'.quiet = true ∧ okc c' = true ∧ codeC (model prog w) A c' R s') (fun e s' => R (.error e) s') s) :
    codeC (model prog w) A (.builtin id args) R s := by
  refine codeC_of_tree ?_
  rw [hu]
  show wpC _ _ (match entryFor table id with | some b => b args | none => unsupported ((withoutEnding? id "#data").getD id)) _ _ s
  rw [hb]; exact h
theorem wpC_call_entry {T : String} {name : Str} {id : String} {b : Builtin} {self : Value} {rest : List Value} {Q : Value → Shared → Prop} (h : Slot T name id) (hT : s.TypeIs self T)
    (hb : entryFor table id = some b) (hok : Builtin.Bytes.decodersThatHold.contains id = false)
    (hc : wpC (model prog w) A.in1 (b ⟨self :: rest, []⟩) (fun fin s' => ∃ v, fin = .done (.ret v) ∧ Q v s') E s) (ha : argsOk id ⟨self :: rest, []⟩) :
    wpC (model prog w) A (call (.builtin id) (self :: rest)) Q E s := by
  have ho : okc (.builtin id ⟨self :: rest, []⟩) = true := by show (!Builtin.Bytes.decodersThatHold.contains id) = true; rw [hok]; rfl
  refine wpC_call (codeC_of_tree ?_)
  show wpC _ A.in1 (do checkBuiltinCall id ⟨self :: rest, []⟩; again (.builtin id ⟨self :: rest, []⟩)) _ _ s
  refine wpC_then (h.check _ _ _ _ _ _ _ _ hT ha (wpC_pure ⟨plainId_quiet h.plain _, ho, codeC_builtin h.plain hb (wpC_mono hc (fun fin s' ⟨v, e, hv⟩ => ?_) fun _ _ x => x)⟩))
  subst e; exact hv
theorem wpC_ba_append {a : Addr} {l : List Nat} {c : Nat} {t : Tok} {Q : Value → Shared → Prop} (hg : A.guards = some []) (ho : s.heap.get? a = some (ba l)) (hc : c < 256) (hz : l.length < 1000000)
    (h : ∀ h', h'.get? a = some (ba (l ++ [c])) → (∀ b ob, b ≠ a → s.heap.get? b = some ob → h'.get? b = some ob) → Q .none { s with heap := h' }) :
    wpC (model prog w) A (call (.builtin "bytearray.append") [.ref a, .int (c : Int) t]) Q E s := by
  refine wpC_call_entry ba_slot_append ⟨_, ho, rfl⟩ ba_entry_append (by decide +kernel) ?_ (ba_args_append _ _)
  unfold Builtin.«bytearray.append»
  refine wpC_bind (wpC_of_eq (a := (Value.ref a, Value.int (c : Int) t)) rfl ?_)
  show wpC _ _ (Builtin.Bytes.byteValue (.int (c : Int) t) >>= _) _ _ _
  refine wpC_bind ?_
  unfold Builtin.Bytes.byteValue
  refine wpC_bind (wpC_of_eq (a := (c : Int)) rfl ?_)
  refine wpC_if_false (by simp only [Bool.or_eq_false_iff, decide_eq_false_iff_not]; omega) (wpC_pure ?_)
  refine wpC_bind (wpC_resize (by exact hg) ho ?_)
  refine wpC_then (write_ba ho (l' := l ++ [c]) (by simp [bx]) (by simp; omega) fun h' e1 e2 => ?_)
  exact wpC_pure ⟨_, rfl, h h' e1 e2⟩
theorem wpC_ba_extend {a : Addr} {l r : List Nat} {t : Tok} {Q : Value → Shared → Prop} (hg : A.guards = some []) (ho : s.heap.get? a = some (ba l)) (hz : l.length + r.length ≤ 1000000)
    (h : ∀ h', h'.get? a = some (ba (l ++ r)) → (∀ b ob, b ≠ a → s.heap.get? b = some ob → h'.get? b = some ob) → Q .none { s with heap := h' }) :
    wpC (model prog w) A (call (.builtin "bytearray.extend") [.ref a, .bytes (bx r) t]) Q E s := by
  refine wpC_call_entry ba_slot_extend ⟨_, ho, rfl⟩ ba_entry_extend (by decide +kernel) ?_ (ba_args_extend _ _)
  unfold Builtin.«bytearray.extend»
  refine wpC_bind (wpC_of_eq (a := (Value.ref a, Value.bytes (bx r) t)) rfl ?_)
  show wpC _ _ (specialOf (.bytes (bx r) t) "__buffer__" >>= _) _ _ _
  refine wpC_bind (wpC_of_eq (KBy.special_eq KBy.look_buffer) ?_)
  refine wpC_if_true rfl ?_
  refine wpC_then (wpAny_rule ?_)
  refine wpC_bind ?_
  unfold Builtin.Bytes.payload Builtin.Bytes.payload?
  refine wpC_bind (wpC_then (wpAny_load ho ?_))
  refine wpC_pure (wpC_pure ?_)
  have e : Builtin.Bytes.takeBufferQuiet? "bytearray.extend" (.bytes (bx r) t) 0 = pure (some (bx r, none)) := by
    unfold Builtin.Bytes.takeBufferQuiet? Builtin.Bytes.takeBuffer?
    have e0 : ∀ f, Builtin.Bytes.buffer? "bytearray.extend" (.bytes (bx r) t) f = pure (some (bx r)) := by
      intro f
      unfold Builtin.Bytes.buffer?
      rw [KBy.special_eq KBy.look_buffer, KBy.own_buffer, KBy.own_release]
      kernel_rfl
    rw [KBy.special_eq KBy.look_buffer, KBy.own_buffer]
    simp only [pure_bind, e0]
    rfl
  refine wpC_bind (wpC_of_eq e ?_)
  refine wpC_if_true rfl ?_
  show wpC _ _ (if (!(bx r).isEmpty) = true then (Builtin.Bytes.checkResize (.ref a) >>= fun _ => (do
    Builtin.Bytes.write (.ref a) (· ++ bx r)
    ret .none)) else (do
    Builtin.Bytes.write (.ref a) (· ++ bx r)
    ret .none)) _ _ _
  have fin : wpC (model prog w) A.in1 (do
    Builtin.Bytes.write (.ref a) (· ++ bx r)
    ret .none) (fun fin s' => ∃ v, fin = .done (.ret v) ∧ Q v s') E s :=
    wpC_then (write_ba ho (l' := l ++ r) (by simp [bx]) (by simp; omega) fun h' e1 e2 => wpC_pure ⟨_, rfl, h h' e1 e2⟩)
  cases hr : (!(bx r).isEmpty) with
  | true => exact wpC_if_true rfl (wpC_bind (wpC_resize (by exact hg) ho fin))
  | false => exact wpC_if_false rfl fin
theorem ba_new_owner : ("bytearray.__new__".splitOn ".__new__").headD "" = "bytearray" := by simp +decide [String.splitOn, String.splitOnAux]
theorem ba_sub : isSubtype (.type "bytearray") (.type "bytearray") = pure true := by rw [isSubtype_type]; kernel_rfl
theorem ba_code_new {Q₁ : Value → Shared → Prop} (h : Q₁ (.ref s.heap.objs.size) { s with heap := s.heap.push (ba []) }) :
    codeAny (model prog w) A (.call (.builtin "bytearray.__new__") ⟨[.type "bytearray"], []⟩) (wants Q₁ E) s := by
  refine codeAny_of_tree ?_
  show wpAny _ A.in1 (do checkBuiltinCall "bytearray.__new__" ⟨[.type "bytearray"], []⟩; again (.builtin "bytearray.__new__" ⟨[.type "bytearray"], []⟩)) _ _ s
  refine wpAny_bind (wpAny_of_eq ba_newCall (wpAny_pure ⟨plainId_quiet ba_plain_new _, codeAny_builtin_stack ba_entry_new rfl fun p st => ?_⟩))
  rw [Around.under_plainId ba_plain_new _]
  have hsub := ba_sub
  have hown := ba_new_owner
  obtain ⟨hp, g, d, tk, os⟩ := s
  simp only [hown]
  wp_walk
  exact h
theorem ba_look_release : typeLookup (.type "bytearray") "__release_buffer__" = pure (some (.builtin "bytearray.__release_buffer__")) := by rw [typeLookup_type, builtinLookup_eq_fast]; kernel_rfl
theorem ba_look_buffer : typeLookup (.type "bytearray") "__buffer__" = pure (some (.builtin "bytearray.__buffer__")) := by rw [typeLookup_type, builtinLookup_eq_fast]; kernel_rfl
theorem ba_slotIsOwn {a : Addr} {l : List Nat} {nm id : String} {Q : Bool → Shared → Prop} (ho : s.heap.get? a = some (ba l)) (hl : typeLookup (.type "bytearray") (nm : Str) = pure (some (.builtin id))) (he : id.endsWith ("." ++ nm) = true) (hx : id.dropRight (nm.length + 1) = "bytearray") (h : Q true s) :
    wpAny (model prog w) A (Builtin.Bytes.slotIsOwn (.ref a) nm) Q E s := by
  have hT : s.TypeIs (.ref a) "bytearray" := ⟨_, ho, rfl⟩
  unfold Builtin.Bytes.slotIsOwn
  refine wpAny_bind (wpAny_specialOf hT hl ?_)
  dsimp only
  refine bm_if_false (by rw [he]; rfl) ?_
  rw [hx]
  exact wpAny_isInstance hT ba_sub h
theorem ba_ownRelease {a : Addr} {l : List Nat} {Q : Bool → Shared → Prop} (ho : s.heap.get? a = some (ba l)) (h : Q false s) : wpAny (model prog w) A (Builtin.Bytes.ownRelease (.ref a)) Q E s := by
  unfold Builtin.Bytes.ownRelease
  exact wpAny_bind (ba_slotIsOwn ho ba_look_release (by decide +kernel) (by decide +kernel) (wpAny_pure h))
theorem ba_bind0 : Builtin.Bytes.bindOptional "bytearray.__init__" "bytearray" ["source", "encoding", "errors"] [] [] = pure [none, none, none] := by kernel_rfl
theorem wpC_ba_init {a : Addr} {Q : Value → Shared → Prop} (hg : A.guards = some []) (ho : s.heap.get? a = some (ba []))
    (h : ∀ h', h'.get? a = some (ba []) → (∀ b ob, b ≠ a → s.heap.get? b = some ob → h'.get? b = some ob) → Q .none { s with heap := h' }) : wpC (model prog w) A (call (.builtin "bytearray.__init__") [.ref a]) Q E s := by
  refine wpC_call_entry ba_slot_init ⟨_, ho, rfl⟩ ba_entry_init (by decide +kernel) ?_ (by
    unfold argsOk; rw [signature?_of (id := "bytearray.__init__") (n := ['_', '_', 't', 'i', 'n', 'i', '_', '_']) (o := ['y', 'a', 'r', 'r', 'a', 'e', 't', 'y', 'b']) (by kernel_rfl) ba_owner]; kernel_rfl)
  unfold Builtin.«bytearray.__init__»
  refine wpC_then (ba_ownRelease ho ?_)
  refine wpC_if_false rfl ?_
  refine wpC_bind (wpC_of_eq ba_bind0 ?_)
  refine wpC_bind (wpC_of_eq (a := ()) rfl ?_)
  refine wpC_bind (wpC_of_eq (a := ()) rfl ?_)
  show wpC _ _ ((Builtin.Bytes.exported (.ref a) <||> (do return (← Builtin.Bytes.exportsOf (.ref a)) > 0)) >>= _) _ _ _
  refine wpC_bind ?_
  show wpC _ _ (Builtin.Bytes.exported (.ref a) >>= _) _ _ _
  refine wpC_bind (wpC_exported hg ?_)
  show wpC _ _ (Builtin.Bytes.exportsOf (.ref a) >>= _) _ _ _
  refine wpC_bind ?_
  unfold Builtin.Bytes.exportsOf
  refine wpC_then (wpAny_load ho ?_)
  refine wpC_pure (wpC_pure (wpC_if_false rfl ?_))
  refine wpC_then (write_ba ho (l' := []) rfl (by simp) fun h' e1 e2 => ?_)
  exact wpC_pure ⟨_, rfl, h h' e1 e2⟩
theorem wpC_ba_new {Q : Value → Shared → Prop} (hg : A.guards = some [])
    (h : ∀ h', h'.get? s.heap.objs.size = some (ba []) → s.heap.StaysIn h' → Q (.ref s.heap.objs.size) { s with heap := h' }) : wpC (model prog w) A (call (.type "bytearray") []) Q E s := by
  refine wpC_call (codeC_of_tree ?_)
  show wpC _ _ (callAny (.type "bytearray") _) _ _ _
  refine wpC_pure ⟨Code.quiet_builtin _ (by decide +kernel), by decide +kernel, ?_⟩
  refine codeC_builtin_at (Around.under_plain (weight_type_call_type "bytearray" [] []) rfl) F.entry_type_call ?_
  unfold Builtin.«type.__call__»
  refine wpC_if_false (by decide) ?_
  refine wpC_if_false ba_called.canCreate ?_
  refine wpC_bind (wpC_of_eq ba_typeCall ?_)
  refine wpC_bind (wpC_of_eq ba_mro ?_)
  refine wpC_if_false rfl ?_
  refine wpC_bind (wpC_of_eq ba_called.made ?_)
  refine wpC_bind (wpC_pure ?_)
  refine wpC_then (wpAny_holding (wpAny_call (ba_code_new ?_)))
  have ho : (s.heap.push (ba [])).get? s.heap.objs.size = some (ba []) := Heap.get?_push_size _ rfl
  have hT : ({ s with heap := s.heap.push (ba []) } : Shared).TypeIs (.ref s.heap.objs.size) "bytearray" := ⟨_, ho, rfl⟩
  refine wpC_then (wpAny_isInstance hT ba_sub ?_)
  refine wpC_if_false rfl ?_
  refine wpC_bind (wpC_holding ?_)
  simp only [callSpecial?]
  refine wpC_then (wpAny_specialOf hT ba_slot_init.lookup ?_)
  simp only [ba_slot_init.bind]
  refine wpC_holding (wpC_bind (wpC_pure (wpC_bind (wpC_mono (wpC_ba_init (by exact hg) ho fun h' e1 e2 => ?_) (fun v s' h' => wpC_pure h') fun _ _ x => x))))
  refine wpC_if_false (by decide) ?_
  exact wpC_pure (h h' e1 fun b o e => e2 b o (Nat.ne_of_lt (Heap.lt_size e)) (Heap.get?_push_of_some _ e))
end
end Mine
end

section
open PySem PySem.W PySem.Calls PyProof.Rows PySem.Spec PySem.SeqAt
set_option Elab.async false
set_option linter.unusedVariables false
set_option linter.unusedSimpArgs false
set_option linter.deprecated false
set_option maxRecDepth 100000
namespace Mine
-- bytes of a bytearray
theorem ba_no_bytes : typeLookup (.type "bytearray") "__bytes__" = pure none := by rw [typeLookup_type, builtinLookup_eq_fast]; kernel_rfl
theorem ba_no_index : typeLookup (.type "bytearray") "__index__" = pure none := by rw [typeLookup_type, builtinLookup_eq_fast]; kernel_rfl
section
variable {prog : Program} {w : World} {A : Around} {E : Value → Shared → Prop} {s : Shared} {env : Env} {R : Result → Shared → Prop}
theorem ba_new {a : Addr} {l : List Nat} {Q : Value → Shared → Prop} (ho : s.heap.get? a = some (ba l)) (hz : l.length ≤ 1000000)
    (hQ : ∀ t k, Q (.bytes (bx l) t) { s with toks := k }) :
    codeAny (model prog w) A (.call (.builtin "bytes.__new__") ⟨[.type "bytes", .ref a], []⟩) (wants Q E) s := by
  refine codeAny_of_tree ?_
  show wpAny _ A.in1 (do checkBuiltinCall "bytes.__new__" ⟨[.type "bytes", .ref a], []⟩; again (.builtin "bytes.__new__" ⟨[.type "bytes", .ref a], []⟩)) _ _ s
  refine wpAny_bind (wpAny_of_eq (F.bm_newCall _) (wpAny_pure ⟨plainId_quiet F.bm_plain _, codeAny_builtin F.bm_entry ?_⟩))
  rw [Around.under_plainId F.bm_plain _]
  have hT : s.TypeIs (.ref a) "bytearray" := ⟨_, ho, rfl⟩
  unfold Builtin.«bytes.__new__»
  refine wpAny_bind (wpAny_of_eq (a := true) rfl ?_)
  refine bm_if_false rfl ?_
  refine wpAny_bind (wpAny_of_eq F.bm_sub ?_)
  refine bm_if_false rfl ?_
  refine wpAny_bind (wpAny_of_eq (F.bm_bind _) ?_)
  refine wpAny_bind (wpAny_of_eq (a := ()) rfl ?_)
  refine wpAny_bind (wpAny_of_eq (a := ()) rfl ?_)
  refine bm_if_false rfl ?_
  refine wpAny_bind (wpAny_specialOf hT ba_no_bytes ?_)
  refine wpAny_bind (wpAny_bind ?_)
  show wpAny _ _ (load a >>= _) _ _ _
  refine wpAny_bind (wpAny_load ho ?_)
  refine wpAny_pure (wpAny_pure ?_)
  refine bm_if_false rfl ?_
  refine wpAny_bind (wpAny_specialOf hT ba_no_index ?_)
  refine bm_if_true rfl ?_
  first
    | show wpAny _ _ (Builtin.Bytes.buffer? "bytes.__new__" (.ref a) true >>= _) _ _ _
    | (refine wpAny_bind ?_; show wpAny _ _ (Builtin.Bytes.buffer? "bytes.__new__" (.ref a) true >>= _) _ _ _)
  refine wpAny_bind ?_
  unfold Builtin.Bytes.buffer?
  refine wpAny_bind (wpAny_specialOf hT ba_look_buffer ?_)
  refine wpAny_bind (ba_slotIsOwn ho ba_look_buffer (by decide +kernel) (by decide +kernel) ?_)
  refine bm_if_false rfl ?_
  refine wpAny_bind (wpAny_specialOf hT ba_look_buffer ?_)
  refine wpAny_bind (ba_ownRelease ho ?_)
  refine bm_if_false rfl ?_
  unfold Builtin.Bytes.payload Builtin.Bytes.payload?
  refine wpAny_bind (wpAny_bind (wpAny_bind (wpAny_load ho ?_)))
  refine wpAny_pure (wpAny_pure (wpAny_pure ?_))
  refine wpAny_bind (wpAny_rule ?_)
  refine wpAny_bind (wpAny_mkBytes ?_ (by rw [bx_size, sizeLine_eq]; omega))
  refine bm_if_true (by decide) ?_
  first
    | exact wpAny_pure (hQ _ _)
    | exact wpAny_bind (wpAny_pure (wpAny_pure (hQ _ _)))
    | exact wpAny_pure (wpAny_pure (hQ _ _))
theorem call_bytes_ba {a : Addr} {l : List Nat} {Q : Value → Shared → Prop} (ho : s.heap.get? a = some (ba l)) (hz : l.length ≤ 1000000)
    (hQ : ∀ t k, Q (.bytes (bx l) t) { s with toks := k }) : wpAny (model prog w) A (call (.type "bytes") [.ref a]) Q E s := by
  refine callType_codes (Q₁ := fun obj s₁ => s₁.TypeIs obj "bytes" ∧ Q obj s₁) F.bm_called (F.bm_typeCall _) F.entry_object_init
    (ba_new ho hz fun t k => ⟨PySem.W.typeIs_bytes _ _ _, hQ t k⟩) fun obj s₁ h₁ => ?_
  exact ⟨h₁.1, F.args_object_init_2 obj _, object_init_meets F.bm_called.init.lookup F.bm_called.made (by decide) prog w A.in1 _ s₁ ⟨h₁.1, rfl, h₁.2⟩⟩
end

/-- the same with the clean stack -/
def RnC {α : Type} (X : Fx) (S : Heap → Prop) (t : Sem α) (V : Heap → α → Heap → Prop) : Prop :=
  ∀ (Q : α → Shared → Prop) (E : Value → Shared → Prop) (s : Shared), S s.heap →
    (∀ v h' tk, s.heap.StaysIn h' → V s.heap v h' → Q v { s with heap := h', toks := tk }) → wpC X.M X.A t Q E s
abbrev EvC (X : Fx) (m : Str → Option Value) (N : List (Addr × Obj)) (e : Expr) (sp : Sp) : Prop := RnC X (St X m N) (eval e X.env) sp.Is
def GoC (X : Fx) (m : Str → Option Value) (N : List (Addr × Obj)) (ss : List Stmt) (Z : Zt) : Prop :=
  ∀ (Q : Flow → Shared → Prop) (E : Value → Shared → Prop) (s : Shared), St X m N s.heap →
    (∀ fl m' N' h' tk, St X m' N' h' → Z fl m' N' h' → Q fl { s with heap := h', toks := tk }) → (∀ e h' tk, X.exc e h' → E e { s with heap := h', toks := tk }) → wpC X.M X.A (execs ss X.env) Q E s
def seqC (X : Fx) (rest : List Stmt) (Z : Zt) : Zt := fun fl m N h => match fl with
  | .next => GoC X m N rest Z
  | fl => Z fl m N h
def FnC (prog : Program) (w : World) (W : Heap → Prop) (lv : Nat) (f : Addr) (args : List Value) (sp : Sp) : Prop :=
  ∀ (A : Around) (s : Shared) (R : Result → Shared → Prop), Lv A lv → A.guards = some [] → W s.heap →
    (∀ v h' tk, s.heap.StaysIn h' → sp.Is s.heap v h' → R (.ok (.ret v)) { s with heap := h', toks := tk }) → codeC (model prog w) A (.call (.ref f) ⟨args, []⟩) R s
theorem execs_split (st : Stmt) (rest : List Stmt) (env : Env) : execs (st :: rest) env = execs [st] env >>= fun f => (match f with | .next => execs rest env | f => pure f) := by
  rw [execs_cons, execs_cons, bind_assoc]
  congr 1
  funext f
  cases f <;> rfl
section
variable {X : Fx} {m : Str → Option Value} {N : List (Addr × Obj)} {Z : Zt} {rest : List Stmt}
theorem EvC.of {e : Expr} {sp : Sp} (h : Ev X m N e sp) : EvC X m N e sp := fun Q E s hs q => wpC_of (h Q E s hs q)
theorem GoC.of {ss : List Stmt} (h : Go X m N ss Z) : GoC X m N ss Z := fun Q E s hs q qe => wpC_of (h Q E s hs q qe)
/-- a plain statement first -/
theorem GoC.leaf {st : Stmt} (h : Go X m N [st] (seqC X rest Z)) : GoC X m N (st :: rest) Z := by
  intro Q E s hs q qe
  rw [execs_split]
  refine wpC_bind (wpC_of (h _ _ s hs (fun fl m' N' h' tk S hZ => ?_) qe))
  cases fl with
  | next => exact hZ _ _ _ S q qe
  | brk => exact wpC_pure (q _ _ _ _ _ S hZ)
  | cont => exact wpC_pure (q _ _ _ _ _ S hZ)
  | ret v => exact wpC_pure (q _ _ _ _ _ S hZ)
theorem GoC.nil (h : ∀ h, St X m N h → Z .next m N h) : GoC X m N [] Z := GoC.of (Go.nil h)
theorem GoC.nilSeq {r : List Stmt} (h : GoC X m N r Z) : Go X m N [] (seqC X r Z) := Go.nil fun _ _ => h
theorem GoC.run {ss : List Stmt} {Q : Flow → Shared → Prop} {E : Value → Shared → Prop} {s : Shared} (g : GoC X m N ss (seqC X rest Z)) (hs : St X m N s.heap)
    (q : ∀ fl m' N' h' tk, St X m' N' h' → Z fl m' N' h' → Q fl { s with heap := h', toks := tk }) (qe : ∀ e h' tk, X.exc e h' → E e { s with heap := h', toks := tk }) :
    wpC X.M X.A (execs ss X.env) (fun f s' => match f with | .next => wpC X.M X.A (execs rest X.env) Q E s' | f => Q f s') E s :=
  g _ _ s hs (fun fl m' N' h' tk hS hZ => by
    cases fl with
    | next => exact hZ _ _ _ hS q qe
    | brk => exact q _ _ _ _ _ hS hZ
    | cont => exact q _ _ _ _ _ hS hZ
    | ret v => exact q _ _ _ _ _ hS hZ) qe
theorem GoC.ite {t : Expr} {body orelse : List Stmt} {pos : Pos} {b : Bool} (ht : Ts X m N t b) (h1 : b = true → GoC X m N body (seqC X rest Z)) (h2 : b = false → GoC X m N orelse (seqC X rest Z)) :
    GoC X m N (.If t body orelse pos :: rest) Z := by
  intro Q E s hs q qe
  refine wpC_execs_cons (wpC_If (wpC_of (ht _ _ s hs fun v h' tk st hv => ?_)))
  subst hv
  cases v with
  | true => exact (h1 rfl).run (hs.stay st) q qe
  | false => exact (h2 rfl).run (hs.stay st) q qe
theorem GoC.whil {test : Expr} {body : List Stmt} {pos : Pos} {k0 : Nat} (J : Nat → (Str → Option Value) → List (Addr × Obj) → Prop) (h0 : J k0 m N)
    (turn : ∀ k m1 N1, J k m1 N1 → ∃ b, Ts X m1 N1 test b ∧ (b = true → GoC X m1 N1 body (fun fl m2 N2 h => match fl with
        | .next => ∃ k', k' < k ∧ J k' m2 N2
        | .cont => ∃ k', k' < k ∧ J k' m2 N2
        | .brk => False
        | .ret v => Z (.ret v) m2 N2 h)) ∧ (b = false → GoC X m1 N1 rest Z)) : GoC X m N (.While test body [] pos :: rest) Z := by
  intro Q E s hs q qe
  refine wpC_execs_cons (wpC_While (codeC_whileLoop (fun k s' => ∃ m1 N1 h' tk, s' = { s with heap := h', toks := tk } ∧ St X m1 N1 h' ∧ J k m1 N1) ?_ k0 ⟨m, N, s.heap, s.toks, rfl, hs, h0⟩))
  rintro k s' ⟨m1, N1, h', tk, rfl, S1, hJ⟩
  obtain ⟨b, hb, ht, hf⟩ := turn k m1 N1 hJ
  refine wpC_of (hb _ _ _ S1 fun v h2 tk2 st2 hv => ?_)
  subst hv
  cases v with
  | true =>
    rw [if_pos rfl]
    refine ht rfl _ _ _ (S1.stay st2) (fun fl m2 N2 h3 tk3 S3 hZ => ?_) fun e h6 tk6 x => X.pas _ { s with heap := h6, toks := tk6 } e x fun e' h7 tk7 x' => qe e' h7 tk7 x'
    cases fl with
    | next => obtain ⟨k', hk', hJ'⟩ := hZ; exact ⟨k', hk', m2, N2, h3, tk3, rfl, S3, hJ'⟩
    | cont => obtain ⟨k', hk', hJ'⟩ := hZ; exact ⟨k', hk', m2, N2, h3, tk3, rfl, S3, hJ'⟩
    | brk => exact hZ.elim
    | ret v => exact q _ _ _ _ _ S3 hZ
  | false =>
    rw [if_neg Bool.false_ne_true]
    exact wpC_of (wpAny_execs_nil (hf rfl _ _ _ (S1.stay st2) q qe))
theorem GoC.loop {x : Str} {px pos : Pos} {iter : Expr} {body : List Stmt} {spIt : Sp} {n : Nat} {P : Nat → Value → Prop} (J : Nat → (Str → Option Value) → List (Addr × Obj) → Prop) (hit : Ev X m N iter spIt)
    (hsrc : ∀ h0 v h, h0.StaysIn h → St X m N h0 → spIt.Is h0 v h → Src X (fun b => ∃ o, X.h0.get? b = some o) h0 v h n P) (h0 : J 0 m N)
    (turn : ∀ i v m1 N1 own, i < n → P i v → J i m1 N1 → N1.map (·.1) = N.map (·.1) → GoC X (upd m1 x v) (N1 ++ own) body (fun fl m2 N2 h => match fl with
      | .next => ∃ N3, N2 = N3 ++ own ∧ N3.map (·.1) = N.map (·.1) ∧ J (i + 1) m2 N3
      | .cont => ∃ N3, N2 = N3 ++ own ∧ N3.map (·.1) = N.map (·.1) ∧ J (i + 1) m2 N3
      | .brk => False
      | .ret v => Z (.ret v) m2 N2 h))
    (done : ∀ m1 N1, J n m1 N1 → N1.map (·.1) = N.map (·.1) → GoC X m1 N1 rest Z)
    (hs : ∀ x, foldedSetIterable iter X.env x = pure x := by intro _; rfl) (hx : X.env.kindOf x = some .local := by rfl)
    (hp : (X.env.scope.kind == .class || (X.env.scope.kind == .module && X.env.locals != X.env.globals)) = false := by rfl) : GoC X m N (.For (.Name x px) iter body [] pos :: rest) Z := by
  intro Q E s hs' q qe
  refine wpC_execs_cons (wpC_For (hit _ _ s hs' fun v h1 tk1 st1 hv => hsrc s.heap v h1 st1 hs' hv _ _ _ rfl fun I fp fq wr S h2 tk2 st2 W hS0 hnd hfr hfp hfq hwr hlive => ?_) hs)
  have S2 := (hs'.stay st1).stay st2
  obtain ⟨oL, _, _, hL, _⟩ := hs'.fr.ns
  have hLq : X.env.locals ∉ fq := fun hm => by rw [hfr _ hm] at hL; cases hL
  have hLf : X.env.locals ∉ fp := fun hm => by
    rcases hfp _ hm with hq | ⟨o, ho⟩
    · exact hLq hq
    · exact absurd (Nat.lt_of_lt_of_le (Heap.lt_size ho) hs'.fr.above) (Nat.lt_irrefl _)
  have hbq : ∀ b ∈ fq, X.h0.get? b = none := fun b hb => none_of_stays hs'.base (hfr b hb)
  have hNq : ∀ N1 : List (Addr × Obj), N1.map (·.1) = N.map (·.1) → ∀ p ∈ N1, p.1 ∉ fq := fun N1 e p hp hm => by
    have h1 : p.1 ∈ N.map (·.1) := e ▸ List.mem_map_of_mem hp
    obtain ⟨p', hp', e'⟩ := List.mem_map.mp h1
    have := hs'.get (a := p'.1) (o := p'.2) hp'
    rw [e', hfr _ hm] at this; cases this
  refine codeC_forLoop (fun k s' => ∃ i m1 N1 h' tk, s' = { s with heap := h', toks := tk } ∧ S i h' ∧ St X m1 N1 h' ∧ N1.map (·.1) = N.map (·.1) ∧ J i m1 N1 ∧ i ≤ n ∧ k = n + 1 - i) ?_ (n + 1) ⟨0, m, N, h2, tk2, rfl, hS0, S2, rfl, h0, Nat.zero_le _, rfl⟩
  rintro k s' ⟨i, m1, N1, h', tk, rfl, hSi, St1, hN1, hJ, hi, rfl⟩
  have next : ∀ h3 : Heap, (∀ b o, b ∉ wr → h'.get? b = some o → h3.get? b = some o) → St X m1 N1 h3 := fun h3 hk =>
    ⟨⟨St1.fr.ns.at' fun o e => hk _ o (fun h => hLq (hwr _ h)) e, fun b o e => hk b o (fun h => by rw [hbq b (hwr _ h)] at e; cases e) (St1.fr.keep b o e), St1.fr.above⟩,
      fun p hp => ⟨hk _ _ (fun h => hNq N1 hN1 p hp (hwr _ h)) (St1.nw p hp).1, (St1.nw p hp).2⟩, St1.nd⟩
  by_cases hlt : i < n
  · refine wpC_of (W.item i _ _ _ hlt hSi fun u h3 tk3 hP hS3 hk3 => ?_)
    have St3 := next h3 hk3
    refine wpC_of (wpAny_assign_Name (wpAny_storeName_local hx St3.fr.ns (fun h4 hn4 hs4 => ?_) hp))
    have St4 := St3.store hn4 hs4
    have hS4 : S (i + 1) h4 := W.frame _ _ _ hS3 fun b hb o e => (hs4.2 b fun q => hLf (q ▸ hb)).trans e
    have St5 : St X (upd m1 x u) (N1 ++ ownAt h4 fq) h4 := by
      refine ⟨St4.fr, fun p hp => ?_, nodup_append_of St4.nd (by rw [ownAt_map]; exact hnd) ?_⟩
      · rcases List.mem_append.mp hp with hp | hp
        · exact St4.nw p hp
        · obtain ⟨b, hb, rfl⟩ := List.mem_map.mp hp
          obtain ⟨o, ho⟩ := hlive _ _ hS4 b (hfq b hb)
          exact ⟨by rw [ho]; rfl, fun e => hLq (e ▸ hb), hbq b hb⟩
      · intro p hp r hr e
        obtain ⟨b, hb, rfl⟩ := List.mem_map.mp hr
        exact hNq N1 hN1 p hp (e ▸ hb)
    refine turn i u m1 N1 (ownAt h4 fq) hlt hP hJ hN1 _ _ _ St5 (fun fl m2 N2 h5 tk5 St6 hZ => ?_) fun e h6 tk6 x => X.pas _ { s with heap := h6, toks := tk6 } e x fun e' h7 tk7 x' => qe e' h7 tk7 x'
    have fin : (∃ N3, N2 = N3 ++ ownAt h4 fq ∧ N3.map (·.1) = N.map (·.1) ∧ J (i + 1) m2 N3) → ∃ k', k' < n + 1 - i ∧ ∃ i m1 N1 h' tk, ({ s with heap := h5, toks := tk5 } : Shared) = { s with heap := h', toks := tk } ∧ S i h' ∧ St X m1 N1 h' ∧ N1.map (·.1) = N.map (·.1) ∧ J i m1 N1 ∧ i ≤ n ∧ k' = n + 1 - i := by
      rintro ⟨N3, rfl, hN3, hJ3⟩
      refine ⟨n + 1 - (i + 1), by omega, i + 1, m2, N3, h5, tk5, rfl, ?_, ⟨St6.fr, fun p hp => St6.nw p (List.mem_append_left _ hp), ?_⟩, hN3, hJ3, hlt, rfl⟩
      · refine W.frame _ _ _ hS4 fun b hb o e => ?_
        rcases hfp b hb with hq | ⟨o', ho'⟩
        · exact St6.get (List.mem_append_right _ (mem_ownAt hq e))
        · have h6 := St4.base b o' ho'
          rw [e] at h6
          cases h6
          exact St6.base b o ho'
      · have h7 := St6.nd
        rw [List.map_append, List.nodup_append] at h7
        exact h7.1
    cases fl with
    | next => exact fin hZ
    | cont => exact fin hZ
    | brk => exact hZ.elim
    | ret v => exact q _ _ _ _ _ St6 hZ
  · have hin : i = n := by omega
    subst hin
    refine wpC_of (W.done _ _ _ hSi fun h3 tk3 hk3 => wpC_of (wpAny_execs_nil ?_))
    exact done m1 N1 hJ hN1 _ _ _ (next h3 hk3) q qe

-- arguments and calls
def EvsC (X : Fx) (m : Str → Option Value) (N : List (Addr × Obj)) : List Expr → List Sp → Prop
  | [], [] => True
  | e :: es, sp :: sps => EvC X m N e sp ∧ EvsC X m N es sps
  | _, _ => False
theorem splicedC_all : ∀ {es : List Expr} {sps : List Sp}, EvsC X m N es sps → RnC X (St X m N) (spliced (es.map fun e => (false, eval e X.env))) (AllIs sps)
  | [], [], _ => fun Q E s hs q => wpC_spliced_nil (q _ s.heap s.toks (stays_refl _) trivial)
  | e :: es, sp :: sps, h => fun Q E s hs q => wpC_spliced_cons (h.1 _ _ s hs fun v h1 tk1 st1 hv => splicedC_all h.2 _ _ _ (hs.stay st1) fun vs h2 tk2 st2 hvs =>
      q _ h2 tk2 (stays_trans st1 st2) ⟨Sp.wk (stays_refl _) st2 hv, AllIs.wk st1 (stays_refl _) hvs⟩)
  | [], _ :: _, h => h.elim
  | _ :: _, [], h => h.elim
theorem callWsC {f : Value} {first : List Value} {pos : Pos} {es : List Expr} {sps : List Sp} {sp : Sp} {Q : Value → Shared → Prop} {E : Value → Shared → Prop} {s : Shared}
    (hk : ∀ h, St X m N h → ∃ k, (k = Keeper.frame ∨ k = Keeper.machine) ∧ Looks X.M h (keeperOf f) k)
    (hes : EvsC X m N es sps) (hp : es.all plainE = true) (hs : St X m N s.heap) (hc : ∀ vs h, s.heap.StaysIn h → St X m N h → AllIs sps s.heap vs h → RnC X (· = h) (call f (first ++ vs)) sp.Is)
    (q : ∀ v h' tk, s.heap.StaysIn h' → sp.Is s.heap v h' → Q v { s with heap := h', toks := tk }) : wpC X.M X.A (callWith pos f first (backTo pos (starEach es X.env)) []) Q E s := by
  have hany : ((backTo pos (starEach es X.env)).any (·.1) || ([] : List (Option Str × Sem Value)).any (·.1.isNone)) = false := by
    rw [starEach_plain hp]
    simp
  refine wpC_callWith (P := St X m N) hany hk ?_
  cases es with
  | nil =>
    cases sps with
    | nil => exact wpC_of (evalArgs_nil3 ⟨hs, hc [] s.heap (stays_refl _) hs trivial _ _ _ rfl fun v h2 tk2 st2 hv => q v h2 tk2 st2 hv⟩)
    | cons _ _ => exact hes.elim
  | cons e es =>
    rw [starEach_plain hp]
    refine wpC_evalArgs_plain ?_
    have := splicedC_all hes (fun vs s' => St X m N s'.heap ∧ wpC X.M X.A (call f (first ++ vs)) Q E s') E s hs fun vs h1 tk1 st1 hvs => ⟨hs.stay st1, hc _ _ st1 (hs.stay st1) hvs _ _ _ rfl fun v h2 tk2 st2 hv => q v h2 tk2 (stays_trans st1 st2) (Sp.wk st1 (stays_refl _) hv)⟩
    exact this
def CallRnC (X : Fx) (m : Str → Option Value) (N : List (Addr × Obj)) (f : Value) (first : List Value) (sps : List Sp) (sp : Sp) : Prop :=
  ∀ h0 vs h, h0.StaysIn h → St X m N h → AllIs sps h0 vs h → RnC X (fun h' => h' = h) (call f (first ++ vs)) sp.Is
theorem CallRnC.of {f : Value} {first : List Value} {sps : List Sp} {sp : Sp} (h : CallRn X m N f first sps sp) : CallRnC X m N f first sps sp := fun h0 vs h1 st hs hvs Q E s e q => wpC_of (h h0 vs h1 st hs hvs Q E s e q)
theorem wpC_Call {func : Expr} {args : List Expr} {pos : Pos} {Q : Value → Shared → Prop} {E : Value → Shared → Prop} {s : Shared}
    (h : wpAny X.M X.A (eval func X.env) (fun f s₁ => wpC X.M X.A (callWith pos f [] (backTo pos (starEach args X.env)) []) Q E s₁) E s)
    (he : eval (.Call func args [] pos) X.env = (do callWith pos (← eval func X.env) [] (backTo pos (starEach args X.env)) (backToKw pos (keywordEach [] X.env))) := by rfl) :
    wpC X.M X.A (eval (.Call func args [] pos) X.env) Q E s := by
  rw [he]; exact wpC_then h
theorem EvC.call {fe : Expr} {es : List Expr} {pos : Pos} {f : Value} {sps : List Sp} {sp : Sp} (hf : Ev X m N fe (sV f)) (hk : ∀ h, St X m N h → ∃ k, (k = Keeper.frame ∨ k = Keeper.machine) ∧ Looks X.M h (keeperOf f) k)
    (hes : EvsC X m N es sps) (hc : CallRnC X m N f [] sps sp) (hp : es.all plainE = true := by rfl)
    (he : eval (.Call fe es [] pos) X.env = (do callWith pos (← eval fe X.env) [] (backTo pos (starEach es X.env)) (backToKw pos (keywordEach [] X.env))) := by rfl) : EvC X m N (.Call fe es [] pos) sp := by
  intro Q E s hs q
  refine wpC_Call (hf _ _ s hs fun v h1 tk1 st1 hv => ?_) he
  have hv' : v = f := hv
  subst hv'
  exact callWsC hk hes hp (hs.stay st1) (fun vs h st hs' hvs => hc _ _ _ st hs' hvs) fun v h2 tk2 st2 hv => q v h2 tk2 (stays_trans st1 st2) (Sp.wk st1 (stays_refl _) hv)
theorem crnC_def {f : Addr} {W : Heap → Prop} {lv : Nat} {sps : List Sp} {sp : Sp} (hA : Lv X.A lv) (hg : X.A.guards = some []) (h : ∀ h0 vs h, h0.StaysIn h → St X m N h → AllIs sps h0 vs h → W h ∧ FnC X.prog X.w W lv f vs sp) : CallRnC X m N (.ref f) [] sps sp := by
  intro h0 vs h1 st hs hvs Q E s e q
  subst e
  obtain ⟨a, b⟩ := h _ _ _ st hs hvs
  exact wpC_call (b X.A s _ hA hg a fun v h' tk st' hv => q v h' tk st' hv)
theorem keepC_def {K : Frag} {mg mb : Str → Option Value} {f : Addr} (hW : Wd K mg mb X.h0) (hk : keepIn K (.ref f) = true) : ∀ h, St X m N h → ∃ k, (k = Keeper.frame ∨ k = Keeper.machine) ∧ Looks X.M h (keeperOf (.ref f)) k :=
  fun h hs => let ⟨k, a, b⟩ := looks_keep (M := X.M) hk (hW.ki.keeps hs.base); ⟨k, a, b⟩
theorem keepC_typ {id : String} : ∀ h, St X m N h → ∃ k, (k = Keeper.frame ∨ k = Keeper.machine) ∧ Looks X.M h (keeperOf (.type id)) k :=
  fun h _ => ⟨.machine, .inr rfl, Looks.of_pure rfl⟩

-- a bytearray of ours: x.append(e), x.extend(e)
theorem Go.methC {x name : Str} {p1 apos cpos epos : Pos} {g : Expr} {a : Addr} {o : Obj} {id : String} {pl : Sem Bool} {sp : Sp} {O : Obj → Prop} (hx : m x = some (.ref a)) (hm : (a, o) ∈ N) (hg : EvC X m N g sp)
    (hgm : ∀ (h : Heap) (Q : Value × List Value → Shared → Prop) (E : Value → Shared → Prop) (s : Shared), s.heap = h → h.get? a = some o → Q (.builtin id, [.ref a]) s → wpAny X.M X.A (getMethod (.ref a) name pl) Q E s)
    (hc : ∀ h0 v h, h0.StaysIn h → St X m N h → sp.Is h0 v h → ∀ (Q : Value → Shared → Prop) (E : Value → Shared → Prop) (s : Shared), s.heap = h →
      (∀ u o' h' tk, O o' → h'.get? a = some o' → (∀ b ob, b ≠ a → h.get? b = some ob → h'.get? b = some ob) → Q u { s with heap := h', toks := tk }) → wpC X.M X.A (call (.builtin id) [.ref a, v]) Q E s)
    {f : Obj → List (Addr × Obj)} (hch : ∀ o', Ch a o o' N (f o')) (k : ∀ o', O o' → GoC X m (f o') rest Z)
    (hp : plainE g = true := by rfl) (hk : X.env.scope.kind = .function := by rfl) (hl : X.env.kindOf x = some .local := by rfl) (hd : (x == ("__debug__" : Str)) = false := by decide)
    (he : eval (.Call (.Attribute (.Name x p1) name apos) [g] [] cpos) X.env = (do
        let ov ← eval (.Name x p1) X.env
        standAt apos.atName
        let (f, first) ← holding [ov] (getMethod ov name pl)
        callWith cpos f first (backTo cpos (starEach [g] X.env)) []) := by rfl)
    (hi : interactive X.env = false := by rfl) (hsw : swapsWith (.Call (.Attribute (.Name x p1) name apos) [g] [] cpos) none epos.line X.env = pure false := by rfl) :
    GoC X m N (.Expr (.Call (.Attribute (.Name x p1) name apos) [g] [] cpos) epos :: rest) Z := by
  intro Q E s hs q qe
  refine wpC_execs_cons (wpC_Expr_any ?_ hi hsw)
  rw [he]
  refine wpC_then (Ev.name hx hk hl hd _ _ s hs fun v h1 tk1 st1 hv => ?_)
  have hv' : v = .ref a := hv
  subst hv'
  refine wpC_bind (wpC_standAt (wpC_then (wpAny_holding (hgm h1 _ _ _ rfl ((hs.stay st1).get hm) ?_))))
  have hpl : [g].all plainE = true := by simp [hp]
  have hany : ((backTo cpos (starEach [g] X.env)).any (·.1) || ([] : List (Option Str × Sem Value)).any (·.1.isNone)) = false := by rw [starEach_plain hpl]; simp
  refine wpC_callWith (P := fun _ => True) hany (fun _ _ => ⟨.machine, .inr rfl, Looks.of_pure rfl⟩) ?_
  rw [starEach_plain hpl]
  refine wpC_evalArgs_plain (wpC_spliced_cons (hg _ _ _ (hs.stay st1) fun v h2 tk2 st2 hv => wpC_spliced_nil ⟨trivial, ?_⟩))
  refine hc h1 v h2 st2 ((hs.stay st1).stay st2) hv _ _ _ rfl fun u o' h3 tk3 ho ha hk3 => ?_
  exact k o' ho _ _ _ (((hs.stay st1).stay st2).turn (hch o') ha hk3) q qe
theorem gm_ba {a : Addr} {l : List Nat} {pl : Sem Bool} {name : Str} {id : String} (slot : Slot "bytearray" name id) (ht : typeOf (.builtin id) = pure (.type "method_descriptor")) (h : Heap) (Q : Value × List Value → Shared → Prop) (E : Value → Shared → Prop) (s : Shared) (e : s.heap = h) (ho : h.get? a = some (ba l)) (q : Q (.builtin id, [.ref a]) s) :
    wpAny X.M X.A (getMethod (.ref a) name pl) Q E s := by
  subst e
  exact getMethod_builtin ⟨_, ho, rfl⟩ ba_plain slot ht (fun b e => by cases e; exact ⟨_, ho, rfl⟩) q
theorem GoC.bapp {x : Str} {p1 apos cpos epos : Pos} {g : Expr} {a : Addr} {l : List Nat} {c : Nat} {pl : Sem Bool} (hgd : X.A.guards = some []) (hx : m x = some (.ref a)) (hm : (a, ba l) ∈ N) (hg : Ev X m N g (sI (c : Int))) (hc : c < 256) (hz : l.length < 1000000)
    {f : Obj → List (Addr × Obj)} (hch : ∀ o', Ch a (ba l) o' N (f o')) (k : GoC X m (f (ba (l ++ [c]))) rest Z)
    (hp : plainE g = true := by rfl) (hk : X.env.scope.kind = .function := by rfl) (hl : X.env.kindOf x = some .local := by rfl) (hd : (x == ("__debug__" : Str)) = false := by decide)
    (he : eval (.Call (.Attribute (.Name x p1) "append" apos) [g] [] cpos) X.env = (do
        let ov ← eval (.Name x p1) X.env
        standAt apos.atName
        let (f, first) ← holding [ov] (getMethod ov "append" pl)
        callWith cpos f first (backTo cpos (starEach [g] X.env)) []) := by rfl)
    (hi : interactive X.env = false := by rfl) (hsw : swapsWith (.Call (.Attribute (.Name x p1) "append" apos) [g] [] cpos) none epos.line X.env = pure false := by rfl) :
    GoC X m N (.Expr (.Call (.Attribute (.Name x p1) "append" apos) [g] [] cpos) epos :: rest) Z := by
  refine Go.methC (id := "bytearray.append") (O := fun o' => o' = ba (l ++ [c])) hx hm (EvC.of hg) (fun h Q E s e ho q => gm_ba ba_slot_append ba_type_append h Q E s e ho q) ?_ hch (fun o' e => e ▸ k) hp hk hl hd he hi hsw
  rintro h0 v h st hs ⟨t, rfl⟩ Q E s e q
  subst e
  exact wpC_ba_append hgd (hs.get hm) hc hz fun h' e1 e2 => q .none _ h' s.toks rfl e1 e2
theorem GoC.bext {x : Str} {p1 apos cpos epos : Pos} {g : Expr} {a : Addr} {l r : List Nat} {pl : Sem Bool} (hgd : X.A.guards = some []) (hx : m x = some (.ref a)) (hm : (a, ba l) ∈ N) (hg : EvC X m N g (sY (bx r))) (hz : l.length + r.length ≤ 1000000)
    {f : Obj → List (Addr × Obj)} (hch : ∀ o', Ch a (ba l) o' N (f o')) (k : GoC X m (f (ba (l ++ r))) rest Z)
    (hp : plainE g = true := by rfl) (hk : X.env.scope.kind = .function := by rfl) (hl : X.env.kindOf x = some .local := by rfl) (hd : (x == ("__debug__" : Str)) = false := by decide)
    (he : eval (.Call (.Attribute (.Name x p1) "extend" apos) [g] [] cpos) X.env = (do
        let ov ← eval (.Name x p1) X.env
        standAt apos.atName
        let (f, first) ← holding [ov] (getMethod ov "extend" pl)
        callWith cpos f first (backTo cpos (starEach [g] X.env)) []) := by rfl)
    (hi : interactive X.env = false := by rfl) (hsw : swapsWith (.Call (.Attribute (.Name x p1) "extend" apos) [g] [] cpos) none epos.line X.env = pure false := by rfl) :
    GoC X m N (.Expr (.Call (.Attribute (.Name x p1) "extend" apos) [g] [] cpos) epos :: rest) Z := by
  refine Go.methC (id := "bytearray.extend") (O := fun o' => o' = ba (l ++ r)) hx hm hg (fun h Q E s e ho q => gm_ba ba_slot_extend ba_type_extend h Q E s e ho q) ?_ hch (fun o' e => e ▸ k) hp hk hl hd he hi hsw
  rintro h0 v h st hs ⟨t, rfl⟩ Q E s e q
  subst e
  exact wpC_ba_extend hgd (hs.get hm) hz fun h' e1 e2 => q .none _ h' s.toks rfl e1 e2
/-- x = bytearray() -/
theorem GoC.bnew {x f : Str} {p1 p2 fp cp : Pos} (hgd : X.A.guards = some []) (hf : Ev X m N (.Name f fp) (sV (.type "bytearray"))) (k : ∀ a, GoC X (upd m x (.ref a)) ((a, ba []) :: N) rest Z)
    (he : eval (.Call (.Name f fp) [] [] cp) X.env = (do callWith cp (← eval (.Name f fp) X.env) [] (backTo cp (starEach [] X.env)) (backToKw cp (keywordEach [] X.env))) := by rfl)
    (hs : swapsWith (.Call (.Name f fp) [] [] cp) (some (.Name x p1)) p2.line X.env = pure false := by rfl) (hl : X.env.kindOf x = some .local := by rfl)
    (hp : (X.env.scope.kind == .class || (X.env.scope.kind == .module && X.env.locals != X.env.globals)) = false := by rfl) : GoC X m N (.Assign [.Name x p1] (.Call (.Name f fp) [] [] cp) p2 :: rest) Z := by
  intro Q E s hs' q qe
  refine wpC_execs_cons (wpC_Assign_Name ?_ hs)
  have hv : EvC X m N (.Call (.Name f fp) [] [] cp) (.nw fun o => o = ba []) := by
    refine EvC.call (sps := []) hf keepC_typ trivial ?_ rfl he
    intro h0 vs h1 st hs2 hvs Q E s e q
    subst e
    match vs, hvs with
    | [], _ => exact wpC_ba_new hgd fun h' e1 e2 => q _ h' s.toks e2 ⟨_, _, rfl, get_size _, e1, rfl⟩
  refine hv _ _ s hs' fun v h1 tk1 st1 hv => ?_
  obtain ⟨a, o, rfl, e1, e2, rfl⟩ := hv
  have S1 := hs'.fresh st1 e1 e2
  refine wpC_of (wpAny_storeName_local hl S1.fr.ns (fun h2 hn hsb => ?_) hp)
  exact k a _ _ _ (S1.store hn hsb) q qe
/-- a bytearray that stands -/
def sA (l : List Nat) : Sp := .hp (fun v h => ∃ a, v = .ref a ∧ h.get? a = some (ba l)) fun v h h' k ⟨a, e, ho⟩ => ⟨a, e, k _ _ ho⟩
theorem Ev.baname {x : Str} {pos : Pos} {a : Addr} {l : List Nat} (hv : m x = some (.ref a)) (hm : (a, ba l) ∈ N) (hk : X.env.scope.kind = .function := by rfl) (hl : X.env.kindOf x = some .local := by rfl)
    (hd : (x == ("__debug__" : Str)) = false := by decide) : Ev X m N (.Name x pos) (sA l) :=
  fun Q E s hs q => Ev.name hv hk hl hd Q E s hs fun v h' tk st hv => q v h' tk st ⟨a, hv, (hs.stay st).get hm⟩
theorem k_bytesA {l : List Nat} (hz : l.length ≤ 1000000) : CallRn X m N (.type "bytes") [] [sA l] (sY (bx l)) :=
  crn1 fun h0 v h _ _ hv => by
    obtain ⟨a, rfl, ho⟩ := hv
    intro Q E s e q
    subst e
    exact call_bytes_ba ho hz fun t k => q _ s.heap k (stays_refl _) ⟨_, rfl⟩
end
section
variable {prog : Program} {w : World} {W : Heap → Prop} {lv : Nat} {f : Addr} {args : List Value} {sp : Sp}
theorem FnC.intro {K : Frag} {oc : Value} {od : Option Addr} {osl : Array (Option Value)} {fd : FuncData} {b0 : Stmt} {bs : List Stmt} {binds : List (Str × Value)}
    (ho : K.lookup f = some ⟨oc, od, .func fd, osl⟩) (hb : fd.body = .stmts (b0 :: bs)) (hcd : codeIn K fd.code fd.qualname = true) (hW : ∀ h, W h → K.In h ∧ h.NoLimit)
    (hbind : bindArgs fd ⟨args, []⟩ = pure binds) (hloc : (binds.all fun x => decide (fd.scope.names.lookup x.1 = some .local)) = true)
    (hcell : ∀ x ∈ fd.scope.names, x.2 ≠ .cell)
    (h : ∀ A h0 L, Lv A lv → A.guards = some [] → W h0 → GoC { prog := prog, w := w, A := A, env := callEnv fd L f, h0 := h0 } (fun x => binds.reverse.lookup x) [] (b0 :: bs) (retZ { prog := prog, w := w, A := A, env := callEnv fd L f, h0 := h0 } sp))
    (hco : fd.scope.isCoroutine = false := by rfl) (hgen : fd.scope.isGenerator = false := by rfl) (hk : fd.scope.kind = .function := by rfl) : FnC prog w W (lv + 1) f args sp := by
  intro A s R hA hg hs q
  obtain ⟨X, hl⟩ := hW _ hs
  refine codeC_call_def (by have := hA.dp; omega) (X _ _ ho) rfl hl (codeRec_of X hcd) hb (BindsTo.of_eq hbind) hcell (fun x hx => of_decide_eq_true (List.all_eq_true.mp hloc x hx)) (fun h1 hns hk1 => ?_) hco hgen hk
  refine h _ s.heap s.heap.objs.size hA.deeper ?_ hs _ _ _ ⟨⟨hns, hk1, Nat.le_refl _⟩, (fun _ hp => nomatch hp), List.nodup_nil⟩ (fun fl m' N' h' tk hS hZ => ?_) fun _ _ _ x => x.elim
  · exact hg
  cases fl with
  | ret v => exact q v h' tk hS.base hZ
  | next => exact q .none h' tk hS.base hZ
  | brk => exact hZ.elim
  | cont => exact hZ.elim
end
end Mine
end

section
open PySem PySem.W PySem.Calls PyProof.Rows PySem.Spec
set_option Elab.async false
set_option linter.unusedVariables false
set_option maxRecDepth 100000
namespace Mine
theorem clean_caller : Cl ⟨.builtin "claim.caller" {}, none, none, [], none⟩ := ⟨by decide +kernel, fun _ h => nomatch h⟩
end Mine
end

section
open PySem PySem.W PySem.Calls PyProof.Rows PySem.Spec
set_option Elab.async false
set_option linter.unusedVariables false
set_option maxRecDepth 100000
namespace Mine
-- what stands on the heap behind the top; a def is named by its place in the program's body
abbrev pg : Program := PySem.Challenge.pw_nz0295_01
def nth : List Stmt → Nat → Stmt
  | [], _ => .Pass default
  | a :: _, 0 => a
  | _ :: r, n + 1 => nth r n
def stm (k : Nat) : Stmt := nth pg.main.body k
def clsBody : Stmt → List Stmt
  | .ClassDef _ _ _ b _ _ _ _ _ _ _ => b
  | _ => []
def dName : Stmt → Str
  | .FunctionDef n _ _ _ _ _ _ _ _ _ => n
  | _ => default
def dPar : Stmt → Arguments
  | .FunctionDef _ p _ _ _ _ _ _ _ _ => p
  | _ => default
def dBody : Stmt → List Stmt
  | .FunctionDef _ _ b _ _ _ _ _ _ _ => b
  | _ => []
def dScope : Stmt → Scope
  | .FunctionDef _ _ _ _ _ _ s _ _ _ => s
  | _ => default
abbrev fo (s : Stmt) (qual : Str) (dflt pm : Value) (c : Addr) : Obj :=
  { cls := .type "function", data := .func { name := dName s, qualname := qual, params := dPar s, body := .stmts (dBody s), scope := dScope s, globals := 3, closure := [], defaults := dflt, kwdefaults := .none, doc := .none, pyModule := pm, annotations := none, code := .ref c, closureTuple := .none, builtins := 0 } }
noncomputable def heapK (P : Params) : Frag := [
  (3, { cls := Value.type "dict", data := Data.dict #[{ hash := PyData.keyHash P (Str.ofString "__name__"), key := Value.str (Str.ofString "__name__") 165, val := Value.str (Str.ofString "law_nz0295_01") 483 }, { hash := PyData.keyHash P (Str.ofString "__doc__"), key := Value.str (Str.ofString "__doc__") 166, val := Value.none }, { hash := PyData.keyHash P (Str.ofString "__package__"), key := Value.str (Str.ofString "__package__") 167, val := Value.none }, { hash := PyData.keyHash P (Str.ofString "__loader__"), key := Value.str (Str.ofString "__loader__") 168, val := Value.builtin "__main__.__loader__#opaque" }, { hash := PyData.keyHash P (Str.ofString "__spec__"), key := Value.str (Str.ofString "__spec__") 169, val := Value.none }, { hash := PyData.keyHash P (Str.ofString "__annotations__"), key := Value.str (Str.ofString "__annotations__") 170, val := Value.ref 6 }, { hash := PyData.keyHash P (Str.ofString "__builtins__"), key := Value.str (Str.ofString "__builtins__") 171, val := Value.ref 4 }, { hash := PyData.keyHash P (Str.ofString "__file__"), key := Value.str (Str.ofString "__file__") 173, val := Value.str (Str.ofString "/claim/cut.py") 172 }, { hash := PyData.keyHash P (Str.ofString "__cached__"), key := Value.str (Str.ofString "__cached__") 174, val := Value.none }, { hash := PyData.keyHash P (Str.ofString "PostError"), key := Value.str (Str.ofString "PostError") 228, val := Value.ref 39 }, { hash := PyData.keyHash P (Str.ofString "MimeFault"), key := Value.str (Str.ofString "MimeFault") 244, val := Value.ref 52 }, { hash := PyData.keyHash P (Str.ofString "NameFault"), key := Value.str (Str.ofString "NameFault") 260, val := Value.ref 64 }, { hash := PyData.keyHash P (Str.ofString "worth_table"), key := Value.str (Str.ofString "worth_table") 268, val := Value.ref 71 }, { hash := PyData.keyHash P (Str.ofString "group_codes"), key := Value.str (Str.ofString "group_codes") 274, val := Value.ref 76 }, { hash := PyData.keyHash P (Str.ofString "group_octets"), key := Value.str (Str.ofString "group_octets") 280, val := Value.ref 81 }, { hash := PyData.keyHash P (Str.ofString "part_encoded"), key := Value.str (Str.ofString "part_encoded") 290, val := Value.ref 88 }, { hash := PyData.keyHash P (Str.ofString "part_numbers"), key := Value.str (Str.ofString "part_numbers") 300, val := Value.ref 95 }, { hash := PyData.keyHash P (Str.ofString "part_decoded"), key := Value.str (Str.ofString "part_decoded") 314, val := Value.ref 102 }, { hash := PyData.keyHash P (Str.ofString "upper_text"), key := Value.str (Str.ofString "upper_text") 322, val := Value.ref 107 }, { hash := PyData.keyHash P (Str.ofString "DELIMITER"), key := Value.str (Str.ofString "DELIMITER") 326, val := Value.str (Str.ofString "/") 325 }, { hash := PyData.keyHash P (Str.ofString "INBOX"), key := Value.str (Str.ofString "INBOX") 328, val := Value.str (Str.ofString "INBOX") 327 }, { hash := PyData.keyHash P (Str.ofString "WILD_SIGNS"), key := Value.str (Str.ofString "WILD_SIGNS") 330, val := Value.str (Str.ofString "%*") 329 }, { hash := PyData.keyHash P (Str.ofString "SHIFT_SIGNS"), key := Value.str (Str.ofString "SHIFT_SIGNS") 332, val := Value.bytes #[65, 66, 67, 68, 69, 70, 71, 72, 73, 74, 75, 76, 77, 78, 79, 80, 81, 82, 83, 84, 85, 86, 87, 88, 89, 90, 97, 98, 99, 100, 101, 102, 103, 104, 105, 106, 107, 108, 109, 110, 111, 112, 113, 114, 115, 116, 117, 118, 119, 120, 121, 122, 48, 49, 50, 51, 52, 53, 54, 55, 56, 57, 43, 44] 331 }, { hash := PyData.keyHash P (Str.ofString "is_plain_code"), key := Value.str (Str.ofString "is_plain_code") 339, val := Value.ref 114 }, { hash := PyData.keyHash P (Str.ofString "is_half"), key := Value.str (Str.ofString "is_half") 346, val := Value.ref 121 }, { hash := PyData.keyHash P (Str.ofString "utf16_octets"), key := Value.str (Str.ofString "utf16_octets") 359, val := Value.ref 128 }, { hash := PyData.keyHash P (Str.ofString "run_behind"), key := Value.str (Str.ofString "run_behind") 368, val := Value.ref 135 }, { hash := PyData.keyHash P (Str.ofString "utf7_octets"), key := Value.str (Str.ofString "utf7_octets") 379, val := Value.ref 142 }, { hash := PyData.keyHash P (Str.ofString "shift_behind"), key := Value.str (Str.ofString "shift_behind") 388, val := Value.ref 149 }, { hash := PyData.keyHash P (Str.ofString "units_text"), key := Value.str (Str.ofString "units_text") 401, val := Value.ref 156 }, { hash := PyData.keyHash P (Str.ofString "shifted_text"), key := Value.str (Str.ofString "shifted_text") 412, val := Value.ref 163 }, { hash := PyData.keyHash P (Str.ofString "utf7_text"), key := Value.str (Str.ofString "utf7_text") 424, val := Value.ref 170 }, { hash := PyData.keyHash P (Str.ofString "first_part"), key := Value.str (Str.ofString "first_part") 432, val := Value.ref 177 }, { hash := PyData.keyHash P (Str.ofString "normal_name"), key := Value.str (Str.ofString "normal_name") 441, val := Value.ref 184 }, { hash := PyData.keyHash P (Str.ofString "is_barred_code"), key := Value.str (Str.ofString "is_barred_code") 448, val := Value.ref 191 }, { hash := PyData.keyHash P (Str.ofString "check_name"), key := Value.str (Str.ofString "check_name") 458, val := Value.ref 198 }, { hash := PyData.keyHash P (Str.ofString "name_of_wire"), key := Value.str (Str.ofString "name_of_wire") 465, val := Value.ref 205 }, { hash := PyData.keyHash P (Str.ofString "is_below"), key := Value.str (Str.ofString "is_below") 473, val := Value.ref 212 }, { hash := PyData.keyHash P (Str.ofString "renamed"), key := Value.str (Str.ofString "renamed") 482, val := Value.ref 219 }, { hash := PyData.keyHash P (Str.ofString "_law_sign"), key := Value.str (Str.ofString "_law_sign") 490, val := Value.ref 224 }, { hash := PyData.keyHash P (Str.ofString "_law_place"), key := Value.str (Str.ofString "_law_place") 500, val := Value.ref 231 }, { hash := PyData.keyHash P (Str.ofString "_law_normal"), key := Value.str (Str.ofString "_law_normal") 506, val := Value.ref 236 }, { hash := PyData.keyHash P (Str.ofString "_law_held"), key := Value.str (Str.ofString "_law_held") 517, val := Value.ref 243 }, { hash := PyData.keyHash P (Str.ofString "_law_renamed"), key := Value.str (Str.ofString "_law_renamed") 528, val := Value.ref 250 }, { hash := PyData.keyHash P (Str.ofString "law"), key := Value.str (Str.ofString "law") 534, val := Value.ref 255 }] 45 }),
  (22, { cls := Value.type "tuple", data := Data.seq #[Value.int (-1) 202] }),
  (28, { cls := Value.type "code", data := Data.fields #[Value.str (Str.ofString "__init__") 203, Value.str (Str.ofString "PostError.__init__") 204, Value.str (Str.ofString "/claim/cut.py") 205, Value.int 4 0, Value.int 3 0, Value.int 0 0, Value.int 0 0, Value.int 3 0, Value.ref 23, Value.bool true, Value.int 181 0, Value.ref 24, Value.none, Value.ref 25, Value.ref 26, Value.ref 27, Value.int 209 0, Value.int 4 0, Value.str (Str.ofString "/claim/cut.py") 210] }),
  (29, fo (nth (clsBody (stm 1)) 0) (Str.ofString "PostError.__init__") (Value.ref 22) (Value.str (Str.ofString "postkeep.errors") 187) 28),
  (35, { cls := Value.type "code", data := Data.fields #[Value.str (Str.ofString "told") 212, Value.str (Str.ofString "PostError.told") 213, Value.str (Str.ofString "/claim/cut.py") 214, Value.int 9 0, Value.int 1 0, Value.int 0 0, Value.int 0 0, Value.int 3 0, Value.ref 30, Value.bool true, Value.int 181 0, Value.ref 31, Value.none, Value.ref 32, Value.ref 33, Value.ref 34, Value.int 216 0, Value.int 9 0, Value.str (Str.ofString "/claim/cut.py") 217] }),
  (38, { cls := Value.type "dict", data := Data.dict #[{ hash := PyData.keyHash P (Str.ofString "__module__"), key := Value.str (Str.ofString "__module__") 196, val := Value.str (Str.ofString "postkeep.errors") 187 }, { hash := PyData.keyHash P (Str.ofString "__firstlineno__"), key := Value.str (Str.ofString "__firstlineno__") 200, val := Value.int 2 199 }, { hash := PyData.keyHash P (Str.ofString "__init__"), key := Value.str (Str.ofString "__init__") 211, val := Value.ref 29 }, { hash := PyData.keyHash P (Str.ofString "told"), key := Value.str (Str.ofString "told") 218, val := Value.ref 36 }, { hash := PyData.keyHash P (Str.ofString "__static_attributes__"), key := Value.str (Str.ofString "__static_attributes__") 221, val := Value.ref 37 }, { hash := PyData.keyHash P (Str.ofString "__weakref__"), key := Value.str (Str.ofString "__weakref__") 223, val := Value.ref 40 }, { hash := PyData.keyHash P (Str.ofString "__doc__"), key := Value.str (Str.ofString "__doc__") 224, val := Value.none }] 3 }),
  (39, { cls := Value.type "type", data := Data.cls { name := Str.ofString "PostError", bases := [Value.type "Exception"], mro := [Value.ref 39, Value.type "Exception", Value.type "BaseException", Value.type "object"], ns := 38, qualname := Str.ofString "PostError", subclasses := [Value.ref 52, Value.ref 64] }, slots := #[some (Value.ref 15), none, some (Value.str (Str.ofString "PostError") 189), some (Value.str (Str.ofString "PostError") 197), some (Value.builtin "Exception.__new__"), some (Value.bool true)] }),
  (51, { cls := Value.type "dict", data := Data.dict #[{ hash := PyData.keyHash P (Str.ofString "__module__"), key := Value.str (Str.ofString "__module__") 236, val := Value.str (Str.ofString "postkeep.errors") 187 }, { hash := PyData.keyHash P (Str.ofString "__firstlineno__"), key := Value.str (Str.ofString "__firstlineno__") 240, val := Value.int 11 239 }, { hash := PyData.keyHash P (Str.ofString "__static_attributes__"), key := Value.str (Str.ofString "__static_attributes__") 241, val := Value.ref 50 }, { hash := PyData.keyHash P (Str.ofString "__doc__"), key := Value.str (Str.ofString "__doc__") 242, val := Value.none }] 2 }),
  (52, { cls := Value.type "type", data := Data.cls { name := Str.ofString "MimeFault", bases := [Value.ref 39], mro := [Value.ref 52, Value.ref 39, Value.type "Exception", Value.type "BaseException", Value.type "object"], ns := 51, qualname := Str.ofString "MimeFault" }, slots := #[some (Value.ref 43), none, some (Value.str (Str.ofString "MimeFault") 229), some (Value.str (Str.ofString "MimeFault") 237), some (Value.builtin "Exception.__new__"), some (Value.bool true)] }),
  (63, { cls := Value.type "dict", data := Data.dict #[{ hash := PyData.keyHash P (Str.ofString "__module__"), key := Value.str (Str.ofString "__module__") 252, val := Value.str (Str.ofString "postkeep.errors") 187 }, { hash := PyData.keyHash P (Str.ofString "__firstlineno__"), key := Value.str (Str.ofString "__firstlineno__") 256, val := Value.int 13 255 }, { hash := PyData.keyHash P (Str.ofString "__static_attributes__"), key := Value.str (Str.ofString "__static_attributes__") 257, val := Value.ref 62 }, { hash := PyData.keyHash P (Str.ofString "__doc__"), key := Value.str (Str.ofString "__doc__") 258, val := Value.none }] 2 }),
  (64, { cls := Value.type "type", data := Data.cls { name := Str.ofString "NameFault", bases := [Value.ref 39], mro := [Value.ref 64, Value.ref 39, Value.type "Exception", Value.type "BaseException", Value.type "object"], ns := 63, qualname := Str.ofString "NameFault" }, slots := #[some (Value.ref 55), none, some (Value.str (Str.ofString "NameFault") 245), some (Value.str (Str.ofString "NameFault") 253), some (Value.builtin "Exception.__new__"), some (Value.bool true)] }),
  (70, { cls := Value.type "code", data := Data.fields #[Value.str (Str.ofString "worth_table") 263, Value.str (Str.ofString "worth_table") 264, Value.str (Str.ofString "/claim/cut.py") 265, Value.int 16 0, Value.int 1 0, Value.int 0 0, Value.int 0 0, Value.int 3 0, Value.ref 67, Value.bool true, Value.int 181 0, Value.ref 68, Value.none, Value.none, Value.none, Value.ref 69, Value.int 266 0, Value.int 16 0, Value.str (Str.ofString "/claim/cut.py") 267] }),
  (71, fo (stm 5) (Str.ofString "worth_table") (Value.none) (Value.str (Str.ofString "postkeep.base64") 261) 70),
  (75, { cls := Value.type "code", data := Data.fields #[Value.str (Str.ofString "group_codes") 269, Value.str (Str.ofString "group_codes") 270, Value.str (Str.ofString "/claim/cut.py") 271, Value.int 18 0, Value.int 2 0, Value.int 0 0, Value.int 0 0, Value.int 3 0, Value.ref 72, Value.bool true, Value.int 181 0, Value.ref 73, Value.none, Value.none, Value.none, Value.ref 74, Value.int 272 0, Value.int 18 0, Value.str (Str.ofString "/claim/cut.py") 273] }),
  (76, fo (stm 6) (Str.ofString "group_codes") (Value.none) (Value.str (Str.ofString "postkeep.base64") 261) 75),
  (80, { cls := Value.type "code", data := Data.fields #[Value.str (Str.ofString "group_octets") 275, Value.str (Str.ofString "group_octets") 276, Value.str (Str.ofString "/claim/cut.py") 277, Value.int 25 0, Value.int 1 0, Value.int 0 0, Value.int 0 0, Value.int 3 0, Value.ref 77, Value.bool true, Value.int 181 0, Value.ref 78, Value.none, Value.none, Value.none, Value.ref 79, Value.int 278 0, Value.int 25 0, Value.str (Str.ofString "/claim/cut.py") 279] }),
  (81, fo (stm 7) (Str.ofString "group_octets") (Value.none) (Value.str (Str.ofString "postkeep.base64") 261) 80),
  (87, { cls := Value.type "code", data := Data.fields #[Value.str (Str.ofString "part_encoded") 281, Value.str (Str.ofString "part_encoded") 282, Value.str (Str.ofString "/claim/cut.py") 283, Value.int 33 0, Value.int 2 0, Value.int 0 0, Value.int 0 0, Value.int 3 0, Value.ref 82, Value.bool true, Value.int 181 0, Value.ref 83, Value.none, Value.ref 84, Value.ref 85, Value.ref 86, Value.int 288 0, Value.int 33 0, Value.str (Str.ofString "/claim/cut.py") 289] }),
  (88, fo (stm 8) (Str.ofString "part_encoded") (Value.none) (Value.str (Str.ofString "postkeep.base64") 261) 87),
  (94, { cls := Value.type "code", data := Data.fields #[Value.str (Str.ofString "part_numbers") 291, Value.str (Str.ofString "part_numbers") 292, Value.str (Str.ofString "/claim/cut.py") 293, Value.int 38 0, Value.int 2 0, Value.int 0 0, Value.int 0 0, Value.int 3 0, Value.ref 89, Value.bool true, Value.int 181 0, Value.ref 90, Value.none, Value.ref 91, Value.ref 92, Value.ref 93, Value.int 298 0, Value.int 38 0, Value.str (Str.ofString "/claim/cut.py") 299] }),
  (95, fo (stm 9) (Str.ofString "part_numbers") (Value.none) (Value.str (Str.ofString "postkeep.base64") 261) 94),
  (101, { cls := Value.type "code", data := Data.fields #[Value.str (Str.ofString "part_decoded") 301, Value.str (Str.ofString "part_decoded") 302, Value.str (Str.ofString "/claim/cut.py") 303, Value.int 45 0, Value.int 2 0, Value.int 0 0, Value.int 0 0, Value.int 3 0, Value.ref 96, Value.bool true, Value.int 181 0, Value.ref 97, Value.none, Value.ref 98, Value.ref 99, Value.ref 100, Value.int 312 0, Value.int 45 0, Value.str (Str.ofString "/claim/cut.py") 313] }),
  (102, fo (stm 10) (Str.ofString "part_decoded") (Value.none) (Value.str (Str.ofString "postkeep.base64") 261) 101),
  (106, { cls := Value.type "code", data := Data.fields #[Value.str (Str.ofString "upper_text") 317, Value.str (Str.ofString "upper_text") 318, Value.str (Str.ofString "/claim/cut.py") 319, Value.int 58 0, Value.int 1 0, Value.int 0 0, Value.int 0 0, Value.int 3 0, Value.ref 103, Value.bool true, Value.int 181 0, Value.ref 104, Value.none, Value.none, Value.none, Value.ref 105, Value.int 320 0, Value.int 58 0, Value.str (Str.ofString "/claim/cut.py") 321] }),
  (107, fo (stm 12) (Str.ofString "upper_text") (Value.none) (Value.str (Str.ofString "postkeep.octets") 315) 106),
  (113, { cls := Value.type "code", data := Data.fields #[Value.str (Str.ofString "is_plain_code") 333, Value.str (Str.ofString "is_plain_code") 334, Value.str (Str.ofString "/claim/cut.py") 335, Value.int 65 0, Value.int 1 0, Value.int 0 0, Value.int 0 0, Value.int 3 0, Value.ref 108, Value.bool true, Value.int 181 0, Value.ref 109, Value.none, Value.ref 110, Value.ref 111, Value.ref 112, Value.int 337 0, Value.int 65 0, Value.str (Str.ofString "/claim/cut.py") 338] }),
  (114, fo (stm 18) (Str.ofString "is_plain_code") (Value.none) (Value.str (Str.ofString "postkeep.names") 323) 113),
  (120, { cls := Value.type "code", data := Data.fields #[Value.str (Str.ofString "is_half") 340, Value.str (Str.ofString "is_half") 341, Value.str (Str.ofString "/claim/cut.py") 342, Value.int 67 0, Value.int 1 0, Value.int 0 0, Value.int 0 0, Value.int 3 0, Value.ref 115, Value.bool true, Value.int 181 0, Value.ref 116, Value.none, Value.ref 117, Value.ref 118, Value.ref 119, Value.int 344 0, Value.int 67 0, Value.str (Str.ofString "/claim/cut.py") 345] }),
  (121, fo (stm 19) (Str.ofString "is_half") (Value.none) (Value.str (Str.ofString "postkeep.names") 323) 120),
  (127, { cls := Value.type "code", data := Data.fields #[Value.str (Str.ofString "utf16_octets") 347, Value.str (Str.ofString "utf16_octets") 348, Value.str (Str.ofString "/claim/cut.py") 349, Value.int 69 0, Value.int 3 0, Value.int 0 0, Value.int 0 0, Value.int 3 0, Value.ref 122, Value.bool true, Value.int 181 0, Value.ref 123, Value.none, Value.ref 124, Value.ref 125, Value.ref 126, Value.int 357 0, Value.int 69 0, Value.str (Str.ofString "/claim/cut.py") 358] }),
  (128, fo (stm 20) (Str.ofString "utf16_octets") (Value.none) (Value.str (Str.ofString "postkeep.names") 323) 127),
  (134, { cls := Value.type "code", data := Data.fields #[Value.str (Str.ofString "run_behind") 360, Value.str (Str.ofString "run_behind") 361, Value.str (Str.ofString "/claim/cut.py") 362, Value.int 83 0, Value.int 2 0, Value.int 0 0, Value.int 0 0, Value.int 3 0, Value.ref 129, Value.bool true, Value.int 181 0, Value.ref 130, Value.none, Value.ref 131, Value.ref 132, Value.ref 133, Value.int 366 0, Value.int 83 0, Value.str (Str.ofString "/claim/cut.py") 367] }),
  (135, fo (stm 21) (Str.ofString "run_behind") (Value.none) (Value.str (Str.ofString "postkeep.names") 323) 134),
  (141, { cls := Value.type "code", data := Data.fields #[Value.str (Str.ofString "utf7_octets") 369, Value.str (Str.ofString "utf7_octets") 370, Value.str (Str.ofString "/claim/cut.py") 371, Value.int 88 0, Value.int 1 0, Value.int 0 0, Value.int 0 0, Value.int 3 0, Value.ref 136, Value.bool true, Value.int 181 0, Value.ref 137, Value.none, Value.ref 138, Value.ref 139, Value.ref 140, Value.int 377 0, Value.int 88 0, Value.str (Str.ofString "/claim/cut.py") 378] }),
  (142, fo (stm 22) (Str.ofString "utf7_octets") (Value.none) (Value.str (Str.ofString "postkeep.names") 323) 141),
  (148, { cls := Value.type "code", data := Data.fields #[Value.str (Str.ofString "shift_behind") 380, Value.str (Str.ofString "shift_behind") 381, Value.str (Str.ofString "/claim/cut.py") 382, Value.int 105 0, Value.int 2 0, Value.int 0 0, Value.int 0 0, Value.int 3 0, Value.ref 143, Value.bool true, Value.int 181 0, Value.ref 144, Value.none, Value.ref 145, Value.ref 146, Value.ref 147, Value.int 386 0, Value.int 105 0, Value.str (Str.ofString "/claim/cut.py") 387] }),
  (149, fo (stm 23) (Str.ofString "shift_behind") (Value.none) (Value.str (Str.ofString "postkeep.names") 323) 148),
  (155, { cls := Value.type "code", data := Data.fields #[Value.str (Str.ofString "units_text") 389, Value.str (Str.ofString "units_text") 390, Value.str (Str.ofString "/claim/cut.py") 391, Value.int 112 0, Value.int 2 0, Value.int 0 0, Value.int 0 0, Value.int 3 0, Value.ref 150, Value.bool true, Value.int 181 0, Value.ref 151, Value.none, Value.ref 152, Value.ref 153, Value.ref 154, Value.int 399 0, Value.int 112 0, Value.str (Str.ofString "/claim/cut.py") 400] }),
  (156, fo (stm 24) (Str.ofString "units_text") (Value.none) (Value.str (Str.ofString "postkeep.names") 323) 155),
  (162, { cls := Value.type "code", data := Data.fields #[Value.str (Str.ofString "shifted_text") 402, Value.str (Str.ofString "shifted_text") 403, Value.str (Str.ofString "/claim/cut.py") 404, Value.int 134 0, Value.int 3 0, Value.int 0 0, Value.int 0 0, Value.int 3 0, Value.ref 157, Value.bool true, Value.int 181 0, Value.ref 158, Value.none, Value.ref 159, Value.ref 160, Value.ref 161, Value.int 410 0, Value.int 134 0, Value.str (Str.ofString "/claim/cut.py") 411] }),
  (163, fo (stm 25) (Str.ofString "shifted_text") (Value.none) (Value.str (Str.ofString "postkeep.names") 323) 162),
  (169, { cls := Value.type "code", data := Data.fields #[Value.str (Str.ofString "utf7_text") 413, Value.str (Str.ofString "utf7_text") 414, Value.str (Str.ofString "/claim/cut.py") 415, Value.int 142 0, Value.int 1 0, Value.int 0 0, Value.int 0 0, Value.int 3 0, Value.ref 164, Value.bool true, Value.int 181 0, Value.ref 165, Value.none, Value.ref 166, Value.ref 167, Value.ref 168, Value.int 422 0, Value.int 142 0, Value.str (Str.ofString "/claim/cut.py") 423] }),
  (170, fo (stm 26) (Str.ofString "utf7_text") (Value.none) (Value.str (Str.ofString "postkeep.names") 323) 169),
  (176, { cls := Value.type "code", data := Data.fields #[Value.str (Str.ofString "first_part") 425, Value.str (Str.ofString "first_part") 426, Value.str (Str.ofString "/claim/cut.py") 427, Value.int 164 0, Value.int 1 0, Value.int 0 0, Value.int 0 0, Value.int 3 0, Value.ref 171, Value.bool true, Value.int 181 0, Value.ref 172, Value.none, Value.ref 173, Value.ref 174, Value.ref 175, Value.int 430 0, Value.int 164 0, Value.str (Str.ofString "/claim/cut.py") 431] }),
  (177, fo (stm 27) (Str.ofString "first_part") (Value.none) (Value.str (Str.ofString "postkeep.names") 323) 176),
  (183, { cls := Value.type "code", data := Data.fields #[Value.str (Str.ofString "normal_name") 433, Value.str (Str.ofString "normal_name") 434, Value.str (Str.ofString "/claim/cut.py") 435, Value.int 169 0, Value.int 1 0, Value.int 0 0, Value.int 0 0, Value.int 3 0, Value.ref 178, Value.bool true, Value.int 181 0, Value.ref 179, Value.none, Value.ref 180, Value.ref 181, Value.ref 182, Value.int 439 0, Value.int 169 0, Value.str (Str.ofString "/claim/cut.py") 440] }),
  (184, fo (stm 28) (Str.ofString "normal_name") (Value.none) (Value.str (Str.ofString "postkeep.names") 323) 183),
  (190, { cls := Value.type "code", data := Data.fields #[Value.str (Str.ofString "is_barred_code") 442, Value.str (Str.ofString "is_barred_code") 443, Value.str (Str.ofString "/claim/cut.py") 444, Value.int 174 0, Value.int 1 0, Value.int 0 0, Value.int 0 0, Value.int 3 0, Value.ref 185, Value.bool true, Value.int 181 0, Value.ref 186, Value.none, Value.ref 187, Value.ref 188, Value.ref 189, Value.int 446 0, Value.int 174 0, Value.str (Str.ofString "/claim/cut.py") 447] }),
  (191, fo (stm 29) (Str.ofString "is_barred_code") (Value.none) (Value.str (Str.ofString "postkeep.names") 323) 190),
  (197, { cls := Value.type "code", data := Data.fields #[Value.str (Str.ofString "check_name") 449, Value.str (Str.ofString "check_name") 450, Value.str (Str.ofString "/claim/cut.py") 451, Value.int 176 0, Value.int 1 0, Value.int 0 0, Value.int 0 0, Value.int 3 0, Value.ref 192, Value.bool true, Value.int 181 0, Value.ref 193, Value.none, Value.ref 194, Value.ref 195, Value.ref 196, Value.int 456 0, Value.int 176 0, Value.str (Str.ofString "/claim/cut.py") 457] }),
  (198, fo (stm 30) (Str.ofString "check_name") (Value.none) (Value.str (Str.ofString "postkeep.names") 323) 197),
  (204, { cls := Value.type "code", data := Data.fields #[Value.str (Str.ofString "name_of_wire") 459, Value.str (Str.ofString "name_of_wire") 460, Value.str (Str.ofString "/claim/cut.py") 461, Value.int 191 0, Value.int 1 0, Value.int 0 0, Value.int 0 0, Value.int 3 0, Value.ref 199, Value.bool true, Value.int 181 0, Value.ref 200, Value.none, Value.ref 201, Value.ref 202, Value.ref 203, Value.int 463 0, Value.int 191 0, Value.str (Str.ofString "/claim/cut.py") 464] }),
  (205, fo (stm 31) (Str.ofString "name_of_wire") (Value.none) (Value.str (Str.ofString "postkeep.names") 323) 204),
  (211, { cls := Value.type "code", data := Data.fields #[Value.str (Str.ofString "is_below") 466, Value.str (Str.ofString "is_below") 467, Value.str (Str.ofString "/claim/cut.py") 468, Value.int 193 0, Value.int 2 0, Value.int 0 0, Value.int 0 0, Value.int 3 0, Value.ref 206, Value.bool true, Value.int 181 0, Value.ref 207, Value.none, Value.ref 208, Value.ref 209, Value.ref 210, Value.int 471 0, Value.int 193 0, Value.str (Str.ofString "/claim/cut.py") 472] }),
  (212, fo (stm 32) (Str.ofString "is_below") (Value.none) (Value.str (Str.ofString "postkeep.names") 323) 211),
  (218, { cls := Value.type "code", data := Data.fields #[Value.str (Str.ofString "renamed") 474, Value.str (Str.ofString "renamed") 475, Value.str (Str.ofString "/claim/cut.py") 476, Value.int 195 0, Value.int 3 0, Value.int 0 0, Value.int 0 0, Value.int 3 0, Value.ref 213, Value.bool true, Value.int 181 0, Value.ref 214, Value.none, Value.ref 215, Value.ref 216, Value.ref 217, Value.int 480 0, Value.int 195 0, Value.str (Str.ofString "/claim/cut.py") 481] }),
  (219, fo (stm 33) (Str.ofString "renamed") (Value.none) (Value.str (Str.ofString "postkeep.names") 323) 218),
  (223, { cls := Value.type "code", data := Data.fields #[Value.str (Str.ofString "_law_sign") 485, Value.str (Str.ofString "_law_sign") 486, Value.str (Str.ofString "/claim/cut.py") 487, Value.int 202 0, Value.int 1 0, Value.int 0 0, Value.int 0 0, Value.int 3 0, Value.ref 220, Value.bool true, Value.int 181 0, Value.ref 221, Value.none, Value.none, Value.none, Value.ref 222, Value.int 488 0, Value.int 202 0, Value.str (Str.ofString "/claim/cut.py") 489] }),
  (224, fo (stm 35) (Str.ofString "_law_sign") (Value.none) (Value.str (Str.ofString "law_nz0295_01") 483) 223),
  (230, { cls := Value.type "code", data := Data.fields #[Value.str (Str.ofString "_law_place") 491, Value.str (Str.ofString "_law_place") 492, Value.str (Str.ofString "/claim/cut.py") 493, Value.int 206 0, Value.int 1 0, Value.int 0 0, Value.int 0 0, Value.int 3 0, Value.ref 225, Value.bool true, Value.int 181 0, Value.ref 226, Value.none, Value.ref 227, Value.ref 228, Value.ref 229, Value.int 498 0, Value.int 206 0, Value.str (Str.ofString "/claim/cut.py") 499] }),
  (231, fo (stm 36) (Str.ofString "_law_place") (Value.none) (Value.str (Str.ofString "law_nz0295_01") 483) 230),
  (235, { cls := Value.type "code", data := Data.fields #[Value.str (Str.ofString "_law_normal") 501, Value.str (Str.ofString "_law_normal") 502, Value.str (Str.ofString "/claim/cut.py") 503, Value.int 215 0, Value.int 1 0, Value.int 0 0, Value.int 0 0, Value.int 3 0, Value.ref 232, Value.bool true, Value.int 181 0, Value.ref 233, Value.none, Value.none, Value.none, Value.ref 234, Value.int 504 0, Value.int 215 0, Value.str (Str.ofString "/claim/cut.py") 505] }),
  (236, fo (stm 37) (Str.ofString "_law_normal") (Value.none) (Value.str (Str.ofString "law_nz0295_01") 483) 235),
  (242, { cls := Value.type "code", data := Data.fields #[Value.str (Str.ofString "_law_held") 507, Value.str (Str.ofString "_law_held") 508, Value.str (Str.ofString "/claim/cut.py") 509, Value.int 220 0, Value.int 2 0, Value.int 0 0, Value.int 0 0, Value.int 3 0, Value.ref 237, Value.bool true, Value.int 181 0, Value.ref 238, Value.none, Value.ref 239, Value.ref 240, Value.ref 241, Value.int 515 0, Value.int 220 0, Value.str (Str.ofString "/claim/cut.py") 516] }),
  (243, fo (stm 38) (Str.ofString "_law_held") (Value.none) (Value.str (Str.ofString "law_nz0295_01") 483) 242),
  (249, { cls := Value.type "code", data := Data.fields #[Value.str (Str.ofString "_law_renamed") 518, Value.str (Str.ofString "_law_renamed") 519, Value.str (Str.ofString "/claim/cut.py") 520, Value.int 227 0, Value.int 3 0, Value.int 0 0, Value.int 0 0, Value.int 3 0, Value.ref 244, Value.bool true, Value.int 181 0, Value.ref 245, Value.none, Value.ref 246, Value.ref 247, Value.ref 248, Value.int 526 0, Value.int 227 0, Value.str (Str.ofString "/claim/cut.py") 527] }),
  (250, fo (stm 39) (Str.ofString "_law_renamed") (Value.none) (Value.str (Str.ofString "law_nz0295_01") 483) 249),
  (254, { cls := Value.type "code", data := Data.fields #[Value.str (Str.ofString "law") 529, Value.str (Str.ofString "law") 530, Value.str (Str.ofString "/claim/cut.py") 531, Value.int 232 0, Value.int 1 0, Value.int 0 0, Value.int 0 0, Value.int 3 0, Value.ref 251, Value.bool true, Value.int 181 0, Value.ref 252, Value.none, Value.none, Value.none, Value.ref 253, Value.int 532 0, Value.int 232 0, Value.str (Str.ofString "/claim/cut.py") 533] }),
  (255, fo (stm 40) (Str.ofString "law") (Value.none) (Value.str (Str.ofString "law_nz0295_01") 483) 254)]
def addrsK : List Addr := [3, 22, 28, 29, 35, 38, 39, 51, 52, 63, 64, 70, 71, 75, 76, 80, 81, 87, 88, 94, 95, 101, 102, 106, 107, 113, 114, 120, 121, 127, 128, 134, 135, 141, 142, 148, 149, 155, 156, 162, 163, 169, 170, 176, 177, 183, 184, 190, 191, 197, 198, 204, 205, 211, 212, 218, 219, 223, 224, 230, 231, 235, 236, 242, 243, 249, 250, 254, 255]
theorem addrs_eq (P : Params) : addrsK = (heapK P).map (·.1) := by kernel_rfl
def keep36 : List Nat := [1, 2, 3, 5, 6, 7, 8, 9, 10, 12, 14, 15, 16, 17, 18, 19, 20, 21, 22, 23, 24, 25, 26, 27, 28, 29, 30, 31, 32, 33, 35, 36, 37, 38, 39, 40]
def seenP : Program := view pg keep36
noncomputable def hookK : Hook := kmHook heapK addrsK addrs_eq [252]
end Mine
end

section
open PySem PySem.W PySem.Calls PyProof.Rows PySem.Spec PySem.SeqAt
set_option Elab.async false
set_option linter.unusedVariables false
set_option linter.unusedSimpArgs false
set_option linter.deprecated false
set_option maxRecDepth 100000
namespace Mine
noncomputable abbrev KK (w : World) : Frag := heapK w.params
section
variable {X : Fx} {m : Str → Option Value} {N : List (Addr × Obj)} {mg mb : Str → Option Value} {w : World} {pos : Pos}
/-- what a frame of the text's is -/
structure Fn0 (e : Env) (x : Str) : Prop where
  k : e.scope.kind = .function
  l : e.kindOf x = some .globalImplicit
  g : e.globals = mainGlobals
  b : e.builtins = builtinsNs
theorem n_len (w : World) : nsIn (KK w) mainGlobals "len" = some none := rfl
theorem g_len (hW : Wd (KK w) mg mb X.h0) (h : Fn0 X.env "len" := by exact ⟨rfl, rfl, rfl, rfl⟩) : Ev X m N (.Name "len" pos) (sV (.builtin "len")) := Ev.blt hW (n_len w) rfl (by decide) h.k h.l h.g h.b
theorem n_ord (w : World) : nsIn (KK w) mainGlobals "ord" = some none := rfl
theorem g_ord (hW : Wd (KK w) mg mb X.h0) (h : Fn0 X.env "ord" := by exact ⟨rfl, rfl, rfl, rfl⟩) : Ev X m N (.Name "ord" pos) (sV (.builtin "ord")) := Ev.blt hW (n_ord w) rfl (by decide) h.k h.l h.g h.b
theorem n_chr (w : World) : nsIn (KK w) mainGlobals "chr" = some none := rfl
theorem g_chr (hW : Wd (KK w) mg mb X.h0) (h : Fn0 X.env "chr" := by exact ⟨rfl, rfl, rfl, rfl⟩) : Ev X m N (.Name "chr" pos) (sV (.builtin "chr")) := Ev.blt hW (n_chr w) rfl (by decide) h.k h.l h.g h.b
theorem n_range (w : World) : nsIn (KK w) mainGlobals "range" = some none := rfl
theorem g_range (hW : Wd (KK w) mg mb X.h0) (h : Fn0 X.env "range" := by exact ⟨rfl, rfl, rfl, rfl⟩) : Ev X m N (.Name "range" pos) (sV (.type "range")) := Ev.blt hW (n_range w) rfl (by decide) h.k h.l h.g h.b
theorem n_bytes (w : World) : nsIn (KK w) mainGlobals "bytes" = some none := rfl
theorem g_bytes (hW : Wd (KK w) mg mb X.h0) (h : Fn0 X.env "bytes" := by exact ⟨rfl, rfl, rfl, rfl⟩) : Ev X m N (.Name "bytes" pos) (sV (.type "bytes")) := Ev.blt hW (n_bytes w) rfl (by decide) h.k h.l h.g h.b
theorem n_bytearray (w : World) : nsIn (KK w) mainGlobals "bytearray" = some none := rfl
theorem g_bytearray (hW : Wd (KK w) mg mb X.h0) (h : Fn0 X.env "bytearray" := by exact ⟨rfl, rfl, rfl, rfl⟩) : Ev X m N (.Name "bytearray" pos) (sV (.type "bytearray")) := Ev.blt hW (n_bytearray w) rfl (by decide) h.k h.l h.g h.b
theorem n_min (w : World) : nsIn (KK w) mainGlobals "min" = some none := rfl
theorem g_min (hW : Wd (KK w) mg mb X.h0) (h : Fn0 X.env "min" := by exact ⟨rfl, rfl, rfl, rfl⟩) : Ev X m N (.Name "min" pos) (sV (.builtin "min")) := Ev.blt hW (n_min w) rfl (by decide) h.k h.l h.g h.b
theorem n_dict (w : World) : nsIn (KK w) mainGlobals "dict" = some none := rfl
theorem g_dict (hW : Wd (KK w) mg mb X.h0) (h : Fn0 X.env "dict" := by exact ⟨rfl, rfl, rfl, rfl⟩) : Ev X m N (.Name "dict" pos) (sV (.type "dict")) := Ev.blt hW (n_dict w) rfl (by decide) h.k h.l h.g h.b
theorem n_MimeFault (w : World) : nsIn (KK w) mainGlobals "MimeFault" = some (some (.ref 52)) := rfl
theorem g_MimeFault (hW : Wd (KK w) mg mb X.h0) (h : Fn0 X.env "MimeFault" := by exact ⟨rfl, rfl, rfl, rfl⟩) : Ev X m N (.Name "MimeFault" pos) (sV (.ref 52)) := Ev.glob hW (n_MimeFault w) h.k h.l h.g
theorem n_NameFault (w : World) : nsIn (KK w) mainGlobals "NameFault" = some (some (.ref 64)) := rfl
theorem g_NameFault (hW : Wd (KK w) mg mb X.h0) (h : Fn0 X.env "NameFault" := by exact ⟨rfl, rfl, rfl, rfl⟩) : Ev X m N (.Name "NameFault" pos) (sV (.ref 64)) := Ev.glob hW (n_NameFault w) h.k h.l h.g
theorem n_PostError (w : World) : nsIn (KK w) mainGlobals "PostError" = some (some (.ref 39)) := rfl
theorem g_PostError (hW : Wd (KK w) mg mb X.h0) (h : Fn0 X.env "PostError" := by exact ⟨rfl, rfl, rfl, rfl⟩) : Ev X m N (.Name "PostError" pos) (sV (.ref 39)) := Ev.glob hW (n_PostError w) h.k h.l h.g
theorem n_worth_table (w : World) : nsIn (KK w) mainGlobals "worth_table" = some (some (.ref 71)) := rfl
theorem g_worth_table (hW : Wd (KK w) mg mb X.h0) (h : Fn0 X.env "worth_table" := by exact ⟨rfl, rfl, rfl, rfl⟩) : Ev X m N (.Name "worth_table" pos) (sV (.ref 71)) := Ev.glob hW (n_worth_table w) h.k h.l h.g
theorem kp_worth_table (w : World) : keepIn (KK w) (.ref 71) = true := rfl
theorem n_group_codes (w : World) : nsIn (KK w) mainGlobals "group_codes" = some (some (.ref 76)) := rfl
theorem g_group_codes (hW : Wd (KK w) mg mb X.h0) (h : Fn0 X.env "group_codes" := by exact ⟨rfl, rfl, rfl, rfl⟩) : Ev X m N (.Name "group_codes" pos) (sV (.ref 76)) := Ev.glob hW (n_group_codes w) h.k h.l h.g
theorem kp_group_codes (w : World) : keepIn (KK w) (.ref 76) = true := rfl
theorem n_group_octets (w : World) : nsIn (KK w) mainGlobals "group_octets" = some (some (.ref 81)) := rfl
theorem g_group_octets (hW : Wd (KK w) mg mb X.h0) (h : Fn0 X.env "group_octets" := by exact ⟨rfl, rfl, rfl, rfl⟩) : Ev X m N (.Name "group_octets" pos) (sV (.ref 81)) := Ev.glob hW (n_group_octets w) h.k h.l h.g
theorem kp_group_octets (w : World) : keepIn (KK w) (.ref 81) = true := rfl
theorem n_part_encoded (w : World) : nsIn (KK w) mainGlobals "part_encoded" = some (some (.ref 88)) := rfl
theorem g_part_encoded (hW : Wd (KK w) mg mb X.h0) (h : Fn0 X.env "part_encoded" := by exact ⟨rfl, rfl, rfl, rfl⟩) : Ev X m N (.Name "part_encoded" pos) (sV (.ref 88)) := Ev.glob hW (n_part_encoded w) h.k h.l h.g
theorem kp_part_encoded (w : World) : keepIn (KK w) (.ref 88) = true := rfl
theorem n_part_numbers (w : World) : nsIn (KK w) mainGlobals "part_numbers" = some (some (.ref 95)) := rfl
theorem g_part_numbers (hW : Wd (KK w) mg mb X.h0) (h : Fn0 X.env "part_numbers" := by exact ⟨rfl, rfl, rfl, rfl⟩) : Ev X m N (.Name "part_numbers" pos) (sV (.ref 95)) := Ev.glob hW (n_part_numbers w) h.k h.l h.g
theorem kp_part_numbers (w : World) : keepIn (KK w) (.ref 95) = true := rfl
theorem n_part_decoded (w : World) : nsIn (KK w) mainGlobals "part_decoded" = some (some (.ref 102)) := rfl
theorem g_part_decoded (hW : Wd (KK w) mg mb X.h0) (h : Fn0 X.env "part_decoded" := by exact ⟨rfl, rfl, rfl, rfl⟩) : Ev X m N (.Name "part_decoded" pos) (sV (.ref 102)) := Ev.glob hW (n_part_decoded w) h.k h.l h.g
theorem kp_part_decoded (w : World) : keepIn (KK w) (.ref 102) = true := rfl
theorem n_upper_text (w : World) : nsIn (KK w) mainGlobals "upper_text" = some (some (.ref 107)) := rfl
theorem g_upper_text (hW : Wd (KK w) mg mb X.h0) (h : Fn0 X.env "upper_text" := by exact ⟨rfl, rfl, rfl, rfl⟩) : Ev X m N (.Name "upper_text" pos) (sV (.ref 107)) := Ev.glob hW (n_upper_text w) h.k h.l h.g
theorem kp_upper_text (w : World) : keepIn (KK w) (.ref 107) = true := rfl
theorem n_is_plain_code (w : World) : nsIn (KK w) mainGlobals "is_plain_code" = some (some (.ref 114)) := rfl
theorem g_is_plain_code (hW : Wd (KK w) mg mb X.h0) (h : Fn0 X.env "is_plain_code" := by exact ⟨rfl, rfl, rfl, rfl⟩) : Ev X m N (.Name "is_plain_code" pos) (sV (.ref 114)) := Ev.glob hW (n_is_plain_code w) h.k h.l h.g
theorem kp_is_plain_code (w : World) : keepIn (KK w) (.ref 114) = true := rfl
theorem n_is_half (w : World) : nsIn (KK w) mainGlobals "is_half" = some (some (.ref 121)) := rfl
theorem g_is_half (hW : Wd (KK w) mg mb X.h0) (h : Fn0 X.env "is_half" := by exact ⟨rfl, rfl, rfl, rfl⟩) : Ev X m N (.Name "is_half" pos) (sV (.ref 121)) := Ev.glob hW (n_is_half w) h.k h.l h.g
theorem kp_is_half (w : World) : keepIn (KK w) (.ref 121) = true := rfl
theorem n_utf16_octets (w : World) : nsIn (KK w) mainGlobals "utf16_octets" = some (some (.ref 128)) := rfl
theorem g_utf16_octets (hW : Wd (KK w) mg mb X.h0) (h : Fn0 X.env "utf16_octets" := by exact ⟨rfl, rfl, rfl, rfl⟩) : Ev X m N (.Name "utf16_octets" pos) (sV (.ref 128)) := Ev.glob hW (n_utf16_octets w) h.k h.l h.g
theorem kp_utf16_octets (w : World) : keepIn (KK w) (.ref 128) = true := rfl
theorem n_run_behind (w : World) : nsIn (KK w) mainGlobals "run_behind" = some (some (.ref 135)) := rfl
theorem g_run_behind (hW : Wd (KK w) mg mb X.h0) (h : Fn0 X.env "run_behind" := by exact ⟨rfl, rfl, rfl, rfl⟩) : Ev X m N (.Name "run_behind" pos) (sV (.ref 135)) := Ev.glob hW (n_run_behind w) h.k h.l h.g
theorem kp_run_behind (w : World) : keepIn (KK w) (.ref 135) = true := rfl
theorem n_utf7_octets (w : World) : nsIn (KK w) mainGlobals "utf7_octets" = some (some (.ref 142)) := rfl
theorem g_utf7_octets (hW : Wd (KK w) mg mb X.h0) (h : Fn0 X.env "utf7_octets" := by exact ⟨rfl, rfl, rfl, rfl⟩) : Ev X m N (.Name "utf7_octets" pos) (sV (.ref 142)) := Ev.glob hW (n_utf7_octets w) h.k h.l h.g
theorem kp_utf7_octets (w : World) : keepIn (KK w) (.ref 142) = true := rfl
theorem n_shift_behind (w : World) : nsIn (KK w) mainGlobals "shift_behind" = some (some (.ref 149)) := rfl
theorem g_shift_behind (hW : Wd (KK w) mg mb X.h0) (h : Fn0 X.env "shift_behind" := by exact ⟨rfl, rfl, rfl, rfl⟩) : Ev X m N (.Name "shift_behind" pos) (sV (.ref 149)) := Ev.glob hW (n_shift_behind w) h.k h.l h.g
theorem kp_shift_behind (w : World) : keepIn (KK w) (.ref 149) = true := rfl
theorem n_units_text (w : World) : nsIn (KK w) mainGlobals "units_text" = some (some (.ref 156)) := rfl
theorem g_units_text (hW : Wd (KK w) mg mb X.h0) (h : Fn0 X.env "units_text" := by exact ⟨rfl, rfl, rfl, rfl⟩) : Ev X m N (.Name "units_text" pos) (sV (.ref 156)) := Ev.glob hW (n_units_text w) h.k h.l h.g
theorem kp_units_text (w : World) : keepIn (KK w) (.ref 156) = true := rfl
theorem n_shifted_text (w : World) : nsIn (KK w) mainGlobals "shifted_text" = some (some (.ref 163)) := rfl
theorem g_shifted_text (hW : Wd (KK w) mg mb X.h0) (h : Fn0 X.env "shifted_text" := by exact ⟨rfl, rfl, rfl, rfl⟩) : Ev X m N (.Name "shifted_text" pos) (sV (.ref 163)) := Ev.glob hW (n_shifted_text w) h.k h.l h.g
theorem kp_shifted_text (w : World) : keepIn (KK w) (.ref 163) = true := rfl
theorem n_utf7_text (w : World) : nsIn (KK w) mainGlobals "utf7_text" = some (some (.ref 170)) := rfl
theorem g_utf7_text (hW : Wd (KK w) mg mb X.h0) (h : Fn0 X.env "utf7_text" := by exact ⟨rfl, rfl, rfl, rfl⟩) : Ev X m N (.Name "utf7_text" pos) (sV (.ref 170)) := Ev.glob hW (n_utf7_text w) h.k h.l h.g
theorem kp_utf7_text (w : World) : keepIn (KK w) (.ref 170) = true := rfl
theorem n_first_part (w : World) : nsIn (KK w) mainGlobals "first_part" = some (some (.ref 177)) := rfl
theorem g_first_part (hW : Wd (KK w) mg mb X.h0) (h : Fn0 X.env "first_part" := by exact ⟨rfl, rfl, rfl, rfl⟩) : Ev X m N (.Name "first_part" pos) (sV (.ref 177)) := Ev.glob hW (n_first_part w) h.k h.l h.g
theorem kp_first_part (w : World) : keepIn (KK w) (.ref 177) = true := rfl
theorem n_normal_name (w : World) : nsIn (KK w) mainGlobals "normal_name" = some (some (.ref 184)) := rfl
theorem g_normal_name (hW : Wd (KK w) mg mb X.h0) (h : Fn0 X.env "normal_name" := by exact ⟨rfl, rfl, rfl, rfl⟩) : Ev X m N (.Name "normal_name" pos) (sV (.ref 184)) := Ev.glob hW (n_normal_name w) h.k h.l h.g
theorem kp_normal_name (w : World) : keepIn (KK w) (.ref 184) = true := rfl
theorem n_is_barred_code (w : World) : nsIn (KK w) mainGlobals "is_barred_code" = some (some (.ref 191)) := rfl
theorem g_is_barred_code (hW : Wd (KK w) mg mb X.h0) (h : Fn0 X.env "is_barred_code" := by exact ⟨rfl, rfl, rfl, rfl⟩) : Ev X m N (.Name "is_barred_code" pos) (sV (.ref 191)) := Ev.glob hW (n_is_barred_code w) h.k h.l h.g
theorem kp_is_barred_code (w : World) : keepIn (KK w) (.ref 191) = true := rfl
theorem n_check_name (w : World) : nsIn (KK w) mainGlobals "check_name" = some (some (.ref 198)) := rfl
theorem g_check_name (hW : Wd (KK w) mg mb X.h0) (h : Fn0 X.env "check_name" := by exact ⟨rfl, rfl, rfl, rfl⟩) : Ev X m N (.Name "check_name" pos) (sV (.ref 198)) := Ev.glob hW (n_check_name w) h.k h.l h.g
theorem kp_check_name (w : World) : keepIn (KK w) (.ref 198) = true := rfl
theorem n_name_of_wire (w : World) : nsIn (KK w) mainGlobals "name_of_wire" = some (some (.ref 205)) := rfl
theorem g_name_of_wire (hW : Wd (KK w) mg mb X.h0) (h : Fn0 X.env "name_of_wire" := by exact ⟨rfl, rfl, rfl, rfl⟩) : Ev X m N (.Name "name_of_wire" pos) (sV (.ref 205)) := Ev.glob hW (n_name_of_wire w) h.k h.l h.g
theorem kp_name_of_wire (w : World) : keepIn (KK w) (.ref 205) = true := rfl
theorem n_is_below (w : World) : nsIn (KK w) mainGlobals "is_below" = some (some (.ref 212)) := rfl
theorem g_is_below (hW : Wd (KK w) mg mb X.h0) (h : Fn0 X.env "is_below" := by exact ⟨rfl, rfl, rfl, rfl⟩) : Ev X m N (.Name "is_below" pos) (sV (.ref 212)) := Ev.glob hW (n_is_below w) h.k h.l h.g
theorem kp_is_below (w : World) : keepIn (KK w) (.ref 212) = true := rfl
theorem n_renamed (w : World) : nsIn (KK w) mainGlobals "renamed" = some (some (.ref 219)) := rfl
theorem g_renamed (hW : Wd (KK w) mg mb X.h0) (h : Fn0 X.env "renamed" := by exact ⟨rfl, rfl, rfl, rfl⟩) : Ev X m N (.Name "renamed" pos) (sV (.ref 219)) := Ev.glob hW (n_renamed w) h.k h.l h.g
theorem kp_renamed (w : World) : keepIn (KK w) (.ref 219) = true := rfl
theorem n_law_sign (w : World) : nsIn (KK w) mainGlobals "_law_sign" = some (some (.ref 224)) := rfl
theorem g_law_sign (hW : Wd (KK w) mg mb X.h0) (h : Fn0 X.env "_law_sign" := by exact ⟨rfl, rfl, rfl, rfl⟩) : Ev X m N (.Name "_law_sign" pos) (sV (.ref 224)) := Ev.glob hW (n_law_sign w) h.k h.l h.g
theorem kp_law_sign (w : World) : keepIn (KK w) (.ref 224) = true := rfl
theorem n_law_place (w : World) : nsIn (KK w) mainGlobals "_law_place" = some (some (.ref 231)) := rfl
theorem g_law_place (hW : Wd (KK w) mg mb X.h0) (h : Fn0 X.env "_law_place" := by exact ⟨rfl, rfl, rfl, rfl⟩) : Ev X m N (.Name "_law_place" pos) (sV (.ref 231)) := Ev.glob hW (n_law_place w) h.k h.l h.g
theorem kp_law_place (w : World) : keepIn (KK w) (.ref 231) = true := rfl
theorem n_law_normal (w : World) : nsIn (KK w) mainGlobals "_law_normal" = some (some (.ref 236)) := rfl
theorem g_law_normal (hW : Wd (KK w) mg mb X.h0) (h : Fn0 X.env "_law_normal" := by exact ⟨rfl, rfl, rfl, rfl⟩) : Ev X m N (.Name "_law_normal" pos) (sV (.ref 236)) := Ev.glob hW (n_law_normal w) h.k h.l h.g
theorem kp_law_normal (w : World) : keepIn (KK w) (.ref 236) = true := rfl
theorem n_law_held (w : World) : nsIn (KK w) mainGlobals "_law_held" = some (some (.ref 243)) := rfl
theorem g_law_held (hW : Wd (KK w) mg mb X.h0) (h : Fn0 X.env "_law_held" := by exact ⟨rfl, rfl, rfl, rfl⟩) : Ev X m N (.Name "_law_held" pos) (sV (.ref 243)) := Ev.glob hW (n_law_held w) h.k h.l h.g
theorem kp_law_held (w : World) : keepIn (KK w) (.ref 243) = true := rfl
theorem n_law_renamed (w : World) : nsIn (KK w) mainGlobals "_law_renamed" = some (some (.ref 250)) := rfl
theorem g_law_renamed (hW : Wd (KK w) mg mb X.h0) (h : Fn0 X.env "_law_renamed" := by exact ⟨rfl, rfl, rfl, rfl⟩) : Ev X m N (.Name "_law_renamed" pos) (sV (.ref 250)) := Ev.glob hW (n_law_renamed w) h.k h.l h.g
theorem kp_law_renamed (w : World) : keepIn (KK w) (.ref 250) = true := rfl
theorem n_DELIMITER (w : World) : ∃ t, nsIn (KK w) mainGlobals "DELIMITER" = some (some (.str (sx [47]) t)) := ⟨_, rfl⟩
theorem g_DELIMITER (hW : Wd (KK w) mg mb X.h0) (h : Fn0 X.env "DELIMITER" := by exact ⟨rfl, rfl, rfl, rfl⟩) : Ev X m N (.Name "DELIMITER" pos) (sT (sx [47])) := let ⟨_, e⟩ := n_DELIMITER w; (Ev.glob hW e h.k h.l h.g).wk fun _ e => ⟨_, e⟩
theorem n_INBOX (w : World) : ∃ t, nsIn (KK w) mainGlobals "INBOX" = some (some (.str (sx [73, 78, 66, 79, 88]) t)) := ⟨_, rfl⟩
theorem g_INBOX (hW : Wd (KK w) mg mb X.h0) (h : Fn0 X.env "INBOX" := by exact ⟨rfl, rfl, rfl, rfl⟩) : Ev X m N (.Name "INBOX" pos) (sT (sx [73, 78, 66, 79, 88])) := let ⟨_, e⟩ := n_INBOX w; (Ev.glob hW e h.k h.l h.g).wk fun _ e => ⟨_, e⟩
theorem n_WILD_SIGNS (w : World) : ∃ t, nsIn (KK w) mainGlobals "WILD_SIGNS" = some (some (.str (sx [37, 42]) t)) := ⟨_, rfl⟩
theorem g_WILD_SIGNS (hW : Wd (KK w) mg mb X.h0) (h : Fn0 X.env "WILD_SIGNS" := by exact ⟨rfl, rfl, rfl, rfl⟩) : Ev X m N (.Name "WILD_SIGNS" pos) (sT (sx [37, 42])) := let ⟨_, e⟩ := n_WILD_SIGNS w; (Ev.glob hW e h.k h.l h.g).wk fun _ e => ⟨_, e⟩
def alpha : List Nat := [65, 66, 67, 68, 69, 70, 71, 72, 73, 74, 75, 76, 77, 78, 79, 80, 81, 82, 83, 84, 85, 86, 87, 88, 89, 90, 97, 98, 99, 100, 101, 102, 103, 104, 105, 106, 107, 108, 109, 110, 111, 112, 113, 114, 115, 116, 117, 118, 119, 120, 121, 122, 48, 49, 50, 51, 52, 53, 54, 55, 56, 57, 43, 44]
theorem n_SHIFT_SIGNS (w : World) : ∃ t, nsIn (KK w) mainGlobals "SHIFT_SIGNS" = some (some (.bytes (bx alpha) t)) := ⟨_, rfl⟩
theorem g_SHIFT_SIGNS (hW : Wd (KK w) mg mb X.h0) (h : Fn0 X.env "SHIFT_SIGNS" := by exact ⟨rfl, rfl, rfl, rfl⟩) : Ev X m N (.Name "SHIFT_SIGNS" pos) (sY (bx alpha)) := let ⟨_, e⟩ := n_SHIFT_SIGNS w; (Ev.glob hW e h.k h.l h.g).wk fun _ e => ⟨_, e⟩
end
end Mine
end

section
open PySem PySem.W PySem.Calls PyProof.Rows PySem.Spec PySem.SeqAt
set_option Elab.async false
set_option linter.unusedVariables false
set_option linter.unusedSimpArgs false
set_option linter.deprecated false
set_option maxRecDepth 100000
namespace Mine
section
variable {X : Fx} {m : Str → Option Value} {N : List (Addr × Obj)} {K : Frag} {mg mb : Str → Option Value} {f : Addr} {lv : Nat} {fe e1 e2 e3 : Expr} {pos : Pos} {P1 P2 P3 : Value → Prop} {sp sp1 sp2 : Sp}
theorem crn_def' {f : Addr} {lv : Nat} {sps : List Sp} {sp : Sp} (hA : Lv X.A lv) (h : ∀ h0 vs h, h0.StaysIn h → St X m N h → AllIs sps h0 vs h → ∃ W : Heap → Prop, W h ∧ Fn X.prog X.w W lv f vs sp) : CallRn X m N (.ref f) [] sps sp := by
  intro h0 vs h1 st hs hvs Q E s e q
  subst e
  obtain ⟨W, a, b⟩ := h _ _ _ st hs hvs
  exact wpAny_call (b X.A s _ hA a fun v h' tk st' hv => q v h' tk st' hv)
theorem Ev.c1 (hf : Ev X m N fe (sV (.ref f))) (hW : Wd K mg mb X.h0) (hk : keepIn K (.ref f) = true) (hA : Lv X.A lv) (h1 : Ev X m N e1 (.pl P1)) (hfn : ∀ v, P1 v → Fn X.prog X.w (Wd K mg mb) lv f [v] sp) (hp : [e1].all plainE = true := by rfl)
    (he : eval (.Call fe [e1] [] pos) X.env = (do callWith pos (← eval fe X.env) [] (backTo pos (starEach [e1] X.env)) (backToKw pos (keywordEach [] X.env))) := by rfl) : Ev X m N (.Call fe [e1] [] pos) sp := by
  refine Ev.call (sps := [.pl P1]) hf (keep_def hW hk) ⟨h1, trivial⟩ (crn_def' hA fun h0 vs h st hs hvs => ?_) hp he
  match vs, hvs with
  | [v], hv => exact ⟨Wd K mg mb, hW.stay hs.base, hfn v hv.1⟩
theorem Ev.c2 (hf : Ev X m N fe (sV (.ref f))) (hW : Wd K mg mb X.h0) (hk : keepIn K (.ref f) = true) (hA : Lv X.A lv) (h1 : Ev X m N e1 (.pl P1)) (h2 : Ev X m N e2 (.pl P2)) (hfn : ∀ v u, P1 v → P2 u → Fn X.prog X.w (Wd K mg mb) lv f [v, u] sp) (hp : [e1, e2].all plainE = true := by rfl)
    (he : eval (.Call fe [e1, e2] [] pos) X.env = (do callWith pos (← eval fe X.env) [] (backTo pos (starEach [e1, e2] X.env)) (backToKw pos (keywordEach [] X.env))) := by rfl) : Ev X m N (.Call fe [e1, e2] [] pos) sp := by
  refine Ev.call (sps := [.pl P1, .pl P2]) hf (keep_def hW hk) ⟨h1, h2, trivial⟩ (crn_def' hA fun h0 vs h st hs hvs => ?_) hp he
  match vs, hvs with
  | [v, u], hv => exact ⟨Wd K mg mb, hW.stay hs.base, hfn v u hv.1 hv.2.1⟩
theorem Ev.c3 (hf : Ev X m N fe (sV (.ref f))) (hW : Wd K mg mb X.h0) (hk : keepIn K (.ref f) = true) (hA : Lv X.A lv) (h1 : Ev X m N e1 (.pl P1)) (h2 : Ev X m N e2 (.pl P2)) (h3 : Ev X m N e3 (.pl P3)) (hfn : ∀ v u x, P1 v → P2 u → P3 x → Fn X.prog X.w (Wd K mg mb) lv f [v, u, x] sp) (hp : [e1, e2, e3].all plainE = true := by rfl)
    (he : eval (.Call fe [e1, e2, e3] [] pos) X.env = (do callWith pos (← eval fe X.env) [] (backTo pos (starEach [e1, e2, e3] X.env)) (backToKw pos (keywordEach [] X.env))) := by rfl) : Ev X m N (.Call fe [e1, e2, e3] [] pos) sp := by
  refine Ev.call (sps := [.pl P1, .pl P2, .pl P3]) hf (keep_def hW hk) ⟨h1, h2, h3, trivial⟩ (crn_def' hA fun h0 vs h st hs hvs => ?_) hp he
  match vs, hvs with
  | [v, u, x], hv => exact ⟨Wd K mg mb, hW.stay hs.base, hfn v u x hv.1 hv.2.1 hv.2.2.1⟩
/-- builtins with plain names -/
theorem Ev.b1 {id : String} {sp : Sp} (hf : Ev X m N fe (sV (.builtin id))) (h1 : Ev X m N e1 sp1) (hc : CallRn X m N (.builtin id) [] [sp1] sp) (hp : [e1].all plainE = true := by rfl)
    (he : eval (.Call fe [e1] [] pos) X.env = (do callWith pos (← eval fe X.env) [] (backTo pos (starEach [e1] X.env)) (backToKw pos (keywordEach [] X.env))) := by rfl) : Ev X m N (.Call fe [e1] [] pos) sp :=
  Ev.call (sps := [sp1]) hf keep_blt ⟨h1, trivial⟩ hc hp he
theorem Ev.t1 {id : String} {sp : Sp} (hf : Ev X m N fe (sV (.type id))) (h1 : Ev X m N e1 sp1) (hc : CallRn X m N (.type id) [] [sp1] sp) (hp : [e1].all plainE = true := by rfl)
    (he : eval (.Call fe [e1] [] pos) X.env = (do callWith pos (← eval fe X.env) [] (backTo pos (starEach [e1] X.env)) (backToKw pos (keywordEach [] X.env))) := by rfl) : Ev X m N (.Call fe [e1] [] pos) sp :=
  Ev.call (sps := [sp1]) hf keep_typ ⟨h1, trivial⟩ hc hp he
theorem Ev.t2 {id : String} {sp : Sp} (hf : Ev X m N fe (sV (.type id))) (h1 : Ev X m N e1 sp1) (h2 : Ev X m N e2 sp2) (hc : CallRn X m N (.type id) [] [sp1, sp2] sp) (hp : [e1, e2].all plainE = true := by rfl)
    (he : eval (.Call fe [e1, e2] [] pos) X.env = (do callWith pos (← eval fe X.env) [] (backTo pos (starEach [e1, e2] X.env)) (backToKw pos (keywordEach [] X.env))) := by rfl) : Ev X m N (.Call fe [e1, e2] [] pos) sp :=
  Ev.call (sps := [sp1, sp2]) hf keep_typ ⟨h1, h2, trivial⟩ hc hp he
theorem Ev.nameS {x : Str} {pos : Pos} {l : List Nat} {t : Tok} (hv : m x = some (.str (sx l) t)) (hk : X.env.scope.kind = .function := by rfl) (hl : X.env.kindOf x = some .local := by rfl)
    (hd : (x == ("__debug__" : Str)) = false := by decide) : Ev X m N (.Name x pos) (sT (sx l)) := (Ev.name hv hk hl hd).wk fun _ e => ⟨_, e⟩
theorem Ev.nameY {x : Str} {pos : Pos} {l : List Nat} {t : Tok} (hv : m x = some (.bytes (bx l) t)) (hk : X.env.scope.kind = .function := by rfl) (hl : X.env.kindOf x = some .local := by rfl)
    (hd : (x == ("__debug__" : Str)) = false := by decide) : Ev X m N (.Name x pos) (sY (bx l)) := (Ev.name hv hk hl hd).wk fun _ e => ⟨_, e⟩
/-- a written text -/
theorem Ev.lit {x : Str} {l : List Nat} {k : Nat} {pos : Pos} (h : x = sx l) : Ev X m N (.Constant (.str x) k pos) (sT (sx l)) := h ▸ Ev.str
end
end Mine
end

section
open PySem PySem.W PySem.Calls PyProof.Rows PySem.Spec PySem.SeqAt
set_option Elab.async false
set_option linter.unusedVariables false
set_option linter.unusedSimpArgs false
set_option linter.deprecated false
set_option maxRecDepth 100000
namespace Mine
def isPlain (c : Nat) : Bool := decide (32 ≤ c) && decide (c ≤ 126)
def isHalf (c : Nat) : Bool := decide (55296 ≤ c) && decide (c ≤ 57343)
def barred (c : Nat) : Bool := decide (c < 32) || ((decide (127 ≤ c) && decide (c ≤ 159)) || (decide (c = 8232) || (decide (c = 8233) || isHalf c)))
def up (c : Nat) : Nat := if 97 ≤ c ∧ c ≤ 122 then c - 32 else c
theorem cutO_from {α : Type} {l : List α} {n : Nat} : cutO l (some n) none = l.drop n := by
  simp only [cutO, cut, Option.getD_some, Option.getD_none]
  exact List.take_of_length_le (by simp)
theorem cutO_to {α : Type} {l : List α} {n : Nat} : cutO l none (some n) = l.take n := by simp [cutO, cut]
section
variable {prog : Program} {w : World} {mg mb : Str → Option Value} {c : Nat} {t u x : Tok} {l p q : List Nat} {lv : Nat}
theorem Fn.b {W : Heap → Prop} {f : Addr} {args : List Value} {b b' : Bool} (h : Fn prog w W lv f args (sB b)) (e : b = b') : Fn prog w W lv f args (sB b') := e ▸ h
theorem Lv.one {A : Around} {n k : Nat} (l : Lv A n) (h : k ≤ n := by decide) : Lv A k := l.le h
theorem f_plain : Fn prog w (Wd (KK w) mg mb) 1 114 [.int (c : Int) t] (sB (isPlain c)) := by
  refine Fn.b (b := decide ((32 : Int) ≤ c) && decide ((c : Int) ≤ 126)) ?_ (by rw [isPlain, Bool.eq_iff_iff]; simp; omega)
  refine Fn.intro (K := KK w) rfl rfl rfl Wd.kn rfl rfl (by decide) (fun A h0 L hA hW => ?_)
  exact Go.retZ (Ev.cmp2 Ev.int (Ev.nameI rfl) Ev.int c_le c_le)
theorem f_half : Fn prog w (Wd (KK w) mg mb) 1 121 [.int (c : Int) t] (sB (isHalf c)) := by
  refine Fn.b (b := decide ((55296 : Int) ≤ c) && decide ((c : Int) ≤ 57343)) ?_ (by rw [isHalf, Bool.eq_iff_iff]; simp; omega)
  refine Fn.intro (K := KK w) rfl rfl rfl Wd.kn rfl rfl (by decide) (fun A h0 L hA hW => ?_)
  exact Go.retZ (Ev.cmp2 Ev.int (Ev.nameI rfl) Ev.int c_le c_le)
theorem f_barred : Fn prog w (Wd (KK w) mg mb) 2 191 [.int (c : Int) t] (sB (barred c)) := by
  refine Fn.b (b := decide ((c : Int) < 32) || ((decide ((127 : Int) ≤ c) && decide ((c : Int) ≤ 159)) || (decide ((c : Int) = 8232) || (decide ((c : Int) = 8233) || isHalf c)))) ?_ (by
    rw [barred, decide_eq_decide.mpr (show (c : Int) < 32 ↔ c < 32 by omega), decide_eq_decide.mpr (show (127 : Int) ≤ c ↔ 127 ≤ c by omega), decide_eq_decide.mpr (show (c : Int) ≤ 159 ↔ c ≤ 159 by omega),
      decide_eq_decide.mpr (show (c : Int) = 8232 ↔ c = 8232 by omega), decide_eq_decide.mpr (show (c : Int) = 8233 ↔ c = 8233 by omega)])
  refine Fn.intro (K := KK w) rfl rfl rfl Wd.kn rfl rfl (by decide) (fun A h0 L hA hW => ?_)
  refine Go.retZ (Ev.or (Ev.cmp (Ev.nameI rfl) Ev.int c_lt) fun _ => Ev.or (Ev.cmp2 Ev.int (Ev.nameI rfl) Ev.int c_le c_le) fun _ => Ev.or (Ev.cmp (Ev.nameI rfl) Ev.int c_eq) fun _ => Ev.or (Ev.cmp (Ev.nameI rfl) Ev.int c_eq) fun _ => Ev.or1 ?_)
  exact Ev.c1 (g_is_half hW) hW (kp_is_half w) hA (Ev.name rfl) fun v e => e ▸ f_half
theorem f_below (hz : p.length + 1 ≤ 1000000) : Fn prog w (Wd (KK w) mg mb) 1 212 [.str (sx l) t, .str (sx p) u] (sB (decide (p ++ [47] <+: l))) := by
  refine Fn.intro (K := KK w) rfl rfl rfl Wd.kn rfl rfl (by decide) (fun A h0 L hA hW => ?_)
  refine Go.retZ (Ev.starts (Ev.nameS rfl) ?_)
  refine Ev.t (Ev.bin (Ev.nameS rfl) (g_DELIMITER hW) (o_cat ?_)) (sx_app _ _)
  rw [sx_len, sx_len, sizeLine_eq]; simp; omega
def ren (l p q : List Nat) : List Nat := if l = p then q else if p ++ [47] <+: l then q ++ l.drop p.length else l
theorem f_renamed (hl : l.length ≤ 100000) (hp : p.length ≤ 100000) (hq : q.length ≤ 100000) : Fn prog w (Wd (KK w) mg mb) 2 219 [.str (sx l) t, .str (sx p) u, .str (sx q) x] (sT (sx (ren l p q))) := by
  refine Fn.intro (K := KK w) rfl rfl rfl Wd.kn rfl rfl (by decide) (fun A h0 L hA hW => ?_)
  refine Go.ite (b := decide (l = p)) (Ts.mono (Ts.cmp (Ev.nameS rfl) (Ev.nameS rfl) c_eqT) sx_inj) (fun e => ?_) (fun e => Go.nilSeq ?_)
  · refine Go.ret (Ev.nameS rfl) fun h v h' hs st hv => ?_
    rw [ren, if_pos (of_decide_eq_true e)]; exact hv
  have e := of_decide_eq_false e
  refine Go.ite (b := decide (p ++ [47] <+: l)) (Ts.plain (Ev.c2 (g_is_below hW) hW (kp_is_below w) hA (Ev.name rfl) (Ev.name rfl) fun v u e1 e2 => by subst e1 e2; exact f_below (by omega))) (fun e2 => ?_) (fun e2 => Go.nilSeq ?_)
  · have e2 := of_decide_eq_true e2
    refine Go.ret (sp := sT (sx (q ++ l.drop p.length))) ?_ fun h v h' hs st hv => ?_
    · refine Ev.t (Ev.bin (Ev.nameS rfl) (Ev.strS (a := some p.length) (b := none) (l := l) (Ev.nameS rfl) (Ev.b1 (g_len hW) (Ev.nameS rfl) (k_lenT (by omega))) trivial ?_ ?_ (fun h => by cases h) (by omega)) (o_cat ?_)) (by rw [sx_app, cutO_from])
      · have := e2.length_le; simp at this ⊢; omega
      · simp
      · rw [sx_len, sx_len, sizeLine_eq]; simp [cutO, cut]; omega
    · rw [ren, if_neg e, if_pos e2]
      exact hv
  · have e2 := of_decide_eq_false e2
    refine Go.retZ ?_
    rw [ren, if_neg e, if_neg e2]
    exact Ev.nameS rfl
end
end Mine
end

section
open PySem PySem.W PySem.Calls PyProof.Rows PySem.Spec PySem.SeqAt
set_option Elab.async false
set_option linter.unusedVariables false
set_option linter.unusedSimpArgs false
set_option linter.deprecated false
set_option maxRecDepth 100000
namespace Mine
def inbox : List Nat := [73, 78, 66, 79, 88]
theorem le1 {a b : Nat} : (!decide ((sx [b]).cps.toList < (sx [a]).cps.toList)) = decide (a ≤ b) := by
  have h : (sx [b]).cps.toList < (sx [a]).cps.toList ↔ b < a := by
    show [b] < [a] ↔ b < a
    rw [List.cons_lt_cons_iff]
    simp
  rw [Bool.eq_iff_iff, decide_eq_true_eq, Bool.not_eq_true']
  constructor
  · intro e; have := of_decide_eq_false e; rw [h] at this; omega
  · intro e; exact decide_eq_false (by rw [h]; omega)
theorem sum_ones {α : Type} : ∀ l : List α, (l.map fun _ => 1).sum = l.length
  | [] => rfl
  | _ :: r => by simp [sum_ones r]; omega
theorem fnd_neg {c : Nat} : ∀ {l : List Nat}, fnd c l < 0 → fnd c l = -1
  | [], _ => rfl
  | a :: r, h => by
    simp only [fnd] at h ⊢
    split at h
    · omega
    · split at h
      · rename_i h1 h2; rw [if_neg h1, if_pos h2]
      · omega
theorem fnd_le {c : Nat} : ∀ {l : List Nat}, fnd c l ≤ l.length
  | [] => by simp [fnd]
  | a :: r => by
    have := fnd_le (c := c) (l := r)
    simp only [fnd, List.length_cons]
    split
    · omega
    · split <;> omega
section
variable {prog : Program} {w : World} {mg mb : Str → Option Value} {c : Nat} {t u x : Tok} {l p q : List Nat} {lv : Nat}
theorem f_upper (hl : l.length ≤ 100000) : Fn prog w (Wd (KK w) mg mb) 1 107 [.str (sx l) t] (sT (sx (l.map up))) := by
  refine Fn.intro (K := KK w) rfl rfl rfl Wd.kn rfl rfl (by decide) (fun A h0 L hA hW => ?_)
  refine Go.retZ (Ev.t (Ev.join0 (ps := l.map fun c => [up c]) (Ev.lit (by decide)) (Ev.asL ?_) ?_) ?_)
  · refine Rn.mono (Ev.comp (n := l.length) (P := fun i v => ∃ t c, l[i]? = some c ∧ v = .str (sx [c]) t) (F := fun v y => ∃ c t u, v = .str (sx [c]) t ∧ y = .str (sx [up c]) u) (G := fun i y => ∃ c u, l[i]? = some c ∧ y = .str (sx [up c]) u) [] (Ev.nameS rfl)
      (fun h0 v h st hs _ hv => src_str hv hA.hd st) (fun C g hg hN i v m' ⟨t, c, hc, hv⟩ hm => ?_) ?_ (by omega) rfl (by decide) (by decide)) ?_
    · subst hv
      have hW' := hW.stay hg
      refine Ev.wk (P := pT (sx [up c])) ?_ fun y ⟨u, e⟩ => ⟨c, t, u, rfl, e⟩
      refine Ev.ife (b := decide (97 ≤ c) && decide (c ≤ 122)) (Ts.mono (Ts.cmp2 (Ev.lit (l := [97]) (by decide)) (Ev.nameS hm) (Ev.lit (l := [122]) (by decide)) c_leT c_leT) (by rw [le1, le1])) (fun h => ?_) fun h => ?_
      · simp at h
        rw [up, if_pos h]
        refine Ev.b1 (g_chr hW') ?_ (k_chr (by omega))
        exact Ev.i (Ev.bin (Ev.b1 (g_ord hW') (Ev.nameS hm) k_ord) Ev.int o_sub) (by omega)
      · rw [up, if_neg (by simp at h; omega)]
        exact Ev.nameS hm
    · rintro i v y ⟨t, c, hc, rfl⟩ ⟨c', t', u, hv, rfl⟩
      have : c = c' := by cases hv; rfl
      subst this
      exact ⟨c, u, hc, rfl⟩
    · rintro h v h' hs st ⟨a, o, e1, e2, e3, vs, n, e4, he⟩
      refine ⟨a, o, e1, e2, e3, vs, n, e4, Lst.each he (by simp) fun i v hi ⟨c, u, hc, e⟩ => ⟨[up c], by simp [hc], u, e⟩⟩
  · simp only [List.map_map, Function.comp_def, List.length_singleton, sum_ones, List.length_map]; omega
  · congr 1
    induction l with
    | nil => rfl
    | cons a r ih => simp at hl; simpa using ih (by omega)
def fpH (l : List Nat) : List Nat := if fnd 47 l < 0 then l else l.take (fnd 47 l).toNat
def fpR (l : List Nat) : List Nat := if fnd 47 l < 0 then [] else l.drop (fnd 47 l).toNat
theorem f_first (hl : l.length ≤ 100000) : Fn prog w (Wd (KK w) mg mb) 1 177 [.str (sx l) t] (nU fun vs => ∃ v u, vs = [v, u] ∧ pT (sx (fpH l)) v ∧ pT (sx (fpR l)) u) := by
  refine Fn.intro (K := KK w) rfl rfl rfl Wd.kn rfl rfl (by decide) (fun A h0 L hA hW => ?_)
  refine Go.assign (Ev.find (Ev.nameS rfl) (g_DELIMITER hW)) fun v ⟨tt, hv⟩ => ?_
  subst hv
  have two : ∀ {a b : List Nat} (h : Heap) (vs : List Value) (h' : Heap), AllIs [sT (sx a), sT (sx b)] h vs h' → ∃ v u, vs = [v, u] ∧ pT (sx a) v ∧ pT (sx b) u := by
    intro a b h vs h' hv
    match vs, hv with
    | [v, u], hv => exact ⟨v, u, rfl, hv.1, hv.2.1⟩
  refine Go.ite (b := decide (fnd 47 l < 0)) (Ts.cmp (Ev.nameI rfl) Ev.int c_lt) (fun e => ?_) (fun e => Go.nilSeq ?_)
  · refine Go.ret (sp := nU fun vs => ∃ v u, vs = [v, u] ∧ pT (sx l) v ∧ pT (sx []) u) (Ev.tuple (sps := [sT (sx l), sT (sx [])]) ⟨Ev.nameS rfl, Ev.lit (by decide), trivial⟩ two) fun h v h' hs st hv => ?_
    have e := of_decide_eq_true e
    rw [fpH, fpR, if_pos e, if_pos e]
    exact Sp.wk hs.base (stays_refl _) hv
  · have e := of_decide_eq_false e
    have h1 : ((fnd 47 l).toNat : Int) = fnd 47 l := by omega
    have h2 := fnd_le (c := 47) (l := l)
    refine Go.retZ ?_
    rw [fpH, fpR, if_neg e, if_neg e]
    refine Ev.tuple (sps := [sT (sx (l.take (fnd 47 l).toNat)), sT (sx (l.drop (fnd 47 l).toNat))]) ⟨?_, ?_, trivial⟩ two
    · refine Ev.t (Ev.strS (a := none) (b := some (fnd 47 l).toNat) (Ev.nameS rfl) trivial (Ev.i (Ev.nameI rfl) h1.symm) (by simp) (by simp; omega) (fun _ h => by cases h) (by omega)) (by rw [cutO_to])
    · refine Ev.t (Ev.strS (a := some (fnd 47 l).toNat) (b := none) (Ev.nameS rfl) (Ev.i (Ev.nameI rfl) h1.symm) trivial (by simp; omega) (by simp) (fun h => by cases h) (by omega)) (by rw [cutO_from])
def nrm (l : List Nat) : List Nat := if (fpH l).map up = inbox then inbox ++ fpR l else l
theorem f_normal (hl : l.length ≤ 100000) : Fn prog w (Wd (KK w) mg mb) 2 184 [.str (sx l) t] (sT (sx (nrm l))) := by
  refine Fn.intro (K := KK w) rfl rfl rfl Wd.kn rfl rfl (by decide) (fun A h0 L hA hW => ?_)
  have z1 : (fpH l).length ≤ l.length := by unfold fpH; split <;> simp <;> omega
  have z2 : (fpR l).length ≤ l.length := by unfold fpR; split <;> simp
  refine Go.unpack2 (Ev.asU (Ev.c1 (g_first_part hW) hW (kp_first_part w) (hA.one (k := 1)) (Ev.name rfl) fun v e => e ▸ f_first hl)) hA.hd fun v u ⟨t1, e1⟩ ⟨t2, e2⟩ => ?_
  subst e1 e2
  refine Go.ite (b := decide ((fpH l).map up = inbox)) (Ts.mono (Ts.cmp (Ev.c1 (g_upper_text hW) hW (kp_upper_text w) (hA.one (k := 1)) (Ev.name rfl) fun v e => e ▸ f_upper (by omega)) (g_INBOX hW) c_eqT) sx_inj) (fun e => ?_) (fun e => Go.nilSeq ?_)
  · refine Go.ret (sp := sT (sx (inbox ++ fpR l))) ?_ fun h v h' hs st hv => ?_
    · refine Ev.t (Ev.bin (g_INBOX hW) (Ev.nameS rfl) (o_cat ?_)) (sx_app _ _)
      rw [sx_len, sx_len, sizeLine_eq]; simp; omega
    · rw [nrm, if_pos (of_decide_eq_true e)]; exact hv
  · refine Go.retZ ?_
    rw [nrm, if_neg (of_decide_eq_false e)]
    exact Ev.nameS rfl
end
end Mine
end

section
open PySem PySem.W PySem.Calls PyProof.Rows PySem.Spec PySem.SeqAt
set_option Elab.async false
set_option linter.unusedVariables false
set_option linter.unusedSimpArgs false
set_option linter.deprecated false
set_option maxRecDepth 100000
namespace Mine
-- frames with cells
def CellN (cm : Str → Option Value) : List (Str × Addr) → List (Addr × Obj) → Prop
  | [], [] => True
  | (n, c) :: r, (a, o) :: r' => a = c ∧ o.data = .cell (cm n) ∧ CellN cm r r'
  | _, _ => False
theorem CellN.uncons {cm : Str → Option Value} {n : Str} {c : Addr} {r : List (Str × Addr)} {os : List (Addr × Obj)} (h : CellN cm ((n, c) :: r) os) : ∃ o os', os = (c, o) :: os' ∧ o.data = .cell (cm n) ∧ CellN cm r os' := by
  cases os with
  | nil => exact h.elim
  | cons p os' =>
    cases p with
    | mk a o =>
      obtain ⟨h1, h2, h3⟩ := h
      subst h1
      exact ⟨o, os', rfl, h2, h3⟩
theorem CellN.un0 {cm : Str → Option Value} {os : List (Addr × Obj)} (h : CellN cm [] os) : os = [] := by
  cases os with
  | nil => rfl
  | cons p os' => exact h.elim
theorem CellN.one {cm : Str → Option Value} {n1 : Str} {c1 : Addr} {os : List (Addr × Obj)} (h : CellN cm [(n1, c1)] os) : ∃ o1, os = [(c1, o1)] ∧ o1.data = .cell (cm n1) := by
  obtain ⟨o1, r, rfl, d1, h⟩ := h.uncons
  rw [h.un0]
  exact ⟨o1, rfl, d1⟩
theorem CellN.two {cm : Str → Option Value} {n1 n2 : Str} {c1 c2 : Addr} {os : List (Addr × Obj)} (h : CellN cm [(n1, c1), (n2, c2)] os) : ∃ o1 o2, os = [(c1, o1), (c2, o2)] ∧ o1.data = .cell (cm n1) ∧ o2.data = .cell (cm n2) := by
  obtain ⟨o1, r, rfl, d1, h⟩ := h.uncons
  obtain ⟨o2, rfl, d2⟩ := h.one
  exact ⟨o1, o2, rfl, d1, d2⟩
theorem CellN.four {cm : Str → Option Value} {n1 n2 n3 n4 : Str} {c1 c2 c3 c4 : Addr} {os : List (Addr × Obj)} (h : CellN cm [(n1, c1), (n2, c2), (n3, c3), (n4, c4)] os) : ∃ o1 o2 o3 o4, os = [(c1, o1), (c2, o2), (c3, o3), (c4, o4)] ∧ o1.data = .cell (cm n1) ∧ o2.data = .cell (cm n2) ∧ o3.data = .cell (cm n3) ∧ o4.data = .cell (cm n4) := by
  obtain ⟨o1, r, rfl, d1, h⟩ := h.uncons
  obtain ⟨o2, r, rfl, d2, h⟩ := h.uncons
  obtain ⟨o3, o4, rfl, d3, d4⟩ := h.two
  exact ⟨o1, o2, o3, o4, rfl, d1, d2, d3, d4⟩
theorem CellN.of {cm : Str → Option Value} {h : Heap} : ∀ {cs : List (Str × Addr)}, (∀ n c, (n, c) ∈ cs → h.IsCell c (cm n)) → ∃ os, CellN cm cs os ∧ os.map (·.1) = cs.map (·.2) ∧ ∀ p ∈ os, h.get? p.1 = some p.2
  | [], _ => ⟨[], trivial, rfl, fun _ hp => nomatch hp⟩
  | (n, c) :: r, hc => by
    obtain ⟨o, ho, hd⟩ := hc n c (.head _)
    obtain ⟨os, h1, h2, h3⟩ := CellN.of (cs := r) fun n c hm => hc n c (.tail _ hm)
    exact ⟨(c, o) :: os, ⟨rfl, hd, h1⟩, by simp [h2], fun p hp => (List.mem_cons.mp hp).elim (fun e => by rw [e]; exact ho) (h3 p)⟩
theorem lookup_of_nodup {n : Str} {c : Addr} : ∀ {cs : List (Str × Addr)}, (cs.map (·.1)).Nodup → (n, c) ∈ cs → cs.lookup n = some c
  | (n', c') :: r, hnd, hm => by
    rw [List.map_cons, List.nodup_cons] at hnd
    rcases List.mem_cons.mp hm with e | hm
    · cases e; simp [List.lookup_cons]
    · have hne : n ≠ n' := fun e => hnd.1 (e ▸ List.mem_map.mpr ⟨_, hm, rfl⟩)
      rw [List.lookup_cons, show (n == n') = false from beq_eq_false_iff_ne.mpr hne]
      exact lookup_of_nodup hnd.2 hm
theorem cells_state {X : Fx} {m cm : Str → Option Value} {cs : List (Str × Addr)} {s s₁ : Shared} (x : InCallC s X.env.locals m cs cm s₁) (h0 : X.h0 = s.heap) (hnd : (cs.map (·.1)).Nodup) : ∃ os h' tk, CellN cm cs os ∧ s₁ = { s with heap := h', toks := tk } ∧ St X m os h' := by
  obtain ⟨h', tk, e⟩ := x.toInCall.same
  obtain ⟨os, h1, h2, h3⟩ := CellN.of (cm := cm) (h := s₁.heap) fun n c hm => x.cell n c (lookup_of_nodup hnd hm)
  refine ⟨os, h', tk, h1, e, ⟨⟨?_, ?_, ?_⟩, fun p hp => ?_, ?_⟩⟩
  · have := x.toInCall.ns; rw [e] at this; exact this
  · intro b o hb; rw [h0] at hb; have := x.toInCall.keep b o hb; rw [e] at this; exact this
  · rw [h0]; exact x.toInCall.fresh
  · have hm : p.1 ∈ cs.map (·.2) := h2 ▸ List.mem_map_of_mem hp
    obtain ⟨q, hq, e2⟩ := List.mem_map.mp hm
    have hab := x.above q.1 q.2 hq
    rw [e2] at hab
    have h4 := h3 p hp
    rw [e] at h4
    refine ⟨h4, Nat.ne_of_gt hab, ?_⟩
    cases hg : X.h0.get? p.1 with
    | none => rfl
    | some o => exact absurd (Nat.lt_of_lt_of_le (Heap.lt_size hg) (h0 ▸ x.toInCall.fresh)) (Nat.not_lt_of_gt hab)
  · rw [h2]
    have := x.apart
    rw [List.Nodup, List.pairwise_map]
    exact this
section
variable {prog : Program} {w : World} {W : Heap → Prop} {lv : Nat} {f : Addr} {args : List Value} {sp : Sp}
theorem Fn.introC {K : Frag} {oc : Value} {od : Option Addr} {osl : Array (Option Value)} {fd : FuncData} {b0 : Stmt} {bs : List Stmt} {binds : List (Str × Value)} (cs : Addr → List (Str × Addr))
    (ho : K.lookup f = some ⟨oc, od, .func fd, osl⟩) (hb : fd.body = .stmts (b0 :: bs)) (hcd : codeIn K fd.code fd.qualname = true) (hW : ∀ h, W h → K.In h ∧ h.NoLimit)
    (hbind : bindArgs fd ⟨args, []⟩ = pure binds) (hclo : fd.closure = []) (hcs : ∀ L, cellsFrom (L + 1) fd.scope.names [] = cs L) (hnd : ∀ L, ((cs L).map (·.1)).Nodup)
    (hkind : ∀ L, (binds.all fun x => decide (fd.scope.names.lookup x.1 = some .local) || (decide (fd.scope.names.lookup x.1 = some .cell) && ((cs L).lookup x.1).isSome)) = true)
    (h : ∀ A h0 L os, Lv A lv → W h0 → CellN (bindC (callEnvC fd L f).kindOf binds fun _ => none) (cs L) os → Go { prog := prog, w := w, A := A, env := callEnvC fd L f, h0 := h0 } (bindL (callEnvC fd L f).kindOf binds fun _ => none) os (b0 :: bs) (retZ { prog := prog, w := w, A := A, env := callEnvC fd L f, h0 := h0 } sp))
    (hco : fd.scope.isCoroutine = false := by rfl) (hgen : fd.scope.isGenerator = false := by rfl) (hk : fd.scope.kind = .function := by rfl) : Fn prog w W (lv + 1) f args sp := by
  intro A s R hA hs q
  obtain ⟨X, hl⟩ := hW _ hs
  refine codeAny_call_cells (by have := hA.dp; omega) (X _ _ ho) rfl hl (codeRec_of X hcd) hb hbind hclo (fun x hx => ?_) (fun s₁ x => ?_) hco hgen hk
  · have := List.all_eq_true.mp (hkind s.heap.objs.size) x hx
    rw [Bool.or_eq_true, Bool.and_eq_true, decide_eq_true_eq, decide_eq_true_eq] at this
    rw [hcs]
    exact this
  · have e : (callEnvC fd s.heap.objs.size f).cells = cs s.heap.objs.size := hcs _
    rw [e] at x
    obtain ⟨os, h', tk, h1, rfl, S⟩ := cells_state (X := { prog := prog, w := w, A := A.deeper (callEnvC fd s.heap.objs.size f), env := callEnvC fd s.heap.objs.size f, h0 := s.heap }) x rfl (hnd _)
    refine h _ s.heap s.heap.objs.size os hA.deeper hs h1 _ _ _ S (fun fl m' N' h' tk hS hZ => ?_) fun _ _ _ x => x.elim
    cases fl with
    | ret v => exact q v h' tk hS.base hZ
    | next => exact q .none h' tk hS.base hZ
    | brk => exact hZ.elim
    | cont => exact hZ.elim
end
section
variable {X : Fx} {m : Str → Option Value} {N : List (Addr × Obj)} {Z : Zt} {rest : List Stmt}
theorem isCell_of {h : Heap} {c : Addr} {o : Obj} {v : Option Value} (S : St X m N h) (hm : (c, o) ∈ N) (hd : o.data = .cell v) : h.IsCell c v := ⟨o, S.get hm, hd⟩
theorem Ev.cell {x : Str} {pos : Pos} {c : Addr} {o : Obj} {v : Value} (hc : X.env.cells.lookup x = some c) (hm : (c, o) ∈ N) (hd' : o.data = .cell (some v)) (hk : X.env.scope.kind = .function := by rfl) (hl : X.env.kindOf x = some .cell := by rfl)
    (hd : (x == ("__debug__" : Str)) = false := by decide) : Ev X m N (.Name x pos) (sV v) := Ev.cellv hc (fun h S => isCell_of S hm hd') hk hl hd
theorem Go.assignCell {x : Str} {p1 p2 : Pos} {e : Expr} {P : Value → Prop} {c : Addr} {o : Obj} {v₀ : Option Value} (hc : X.env.cells.lookup x = some c) (hm : (c, o) ∈ N) (hd : o.data = .cell v₀) (he : Ev X m N e (.pl P))
    {f : Obj → List (Addr × Obj)} (hch : ∀ o', Ch c o o' N (f o')) (h : ∀ v o', P v → o'.data = .cell (some v) → Go X m (f o') rest Z)
    (hs : swapsWith e (some (.Name x p1)) p2.line X.env = pure false := by rfl) (hk : X.env.scope.kind = .function := by rfl) (hl : X.env.kindOf x = some .cell := by rfl) : Go X m N (.Assign [.Name x p1] e p2 :: rest) Z := by
  intro Q E s hs' q qe
  refine wpAny_execs_cons (wpAny_Assign_Name (he _ _ s hs' fun v h1 tk1 st1 hv => ?_) hs)
  have S1 := hs'.stay st1
  refine wpAny_storeName_cell hk hl hc (isCell_of S1 hm hd) fun h2 hc2 hsb => ?_
  obtain ⟨o', ho', hd'⟩ := hc2
  exact h v o' hv hd' _ _ _ (S1.turn (hch o') ho' fun b ob hb e => (hsb.2 b hb).trans e) q qe
/-- a new list kept in a cell -/
theorem Go.assignCellN {x : Str} {p1 p2 : Pos} {e : Expr} {P : Obj → Prop} {c : Addr} {o : Obj} {v₀ : Option Value} (hc : X.env.cells.lookup x = some c) (hm : (c, o) ∈ N) (hd : o.data = .cell v₀) (he : Ev X m N e (.nw P))
    {f : Obj → List (Addr × Obj)} (hch : ∀ o', Ch c o o' N (f o')) (h : ∀ a ob o', P ob → o'.data = .cell (some (.ref a)) → Go X m ((a, ob) :: f o') rest Z)
    (hs : swapsWith e (some (.Name x p1)) p2.line X.env = pure false := by rfl) (hk : X.env.scope.kind = .function := by rfl) (hl : X.env.kindOf x = some .cell := by rfl) : Go X m N (.Assign [.Name x p1] e p2 :: rest) Z := by
  intro Q E s hs' q qe
  refine wpAny_execs_cons (wpAny_Assign_Name (he _ _ s hs' fun v h1 tk1 st1 hv => ?_) hs)
  obtain ⟨a, ob, rfl, e1, e2, e3⟩ := hv
  have S1 := hs'.fresh st1 e1 e2
  refine wpAny_storeName_cell hk hl hc (isCell_of S1 (.tail _ hm) hd) fun h2 hc2 hsb => ?_
  obtain ⟨o', ho', hd'⟩ := hc2
  exact h a ob o' e3 hd' _ _ _ (S1.turn (.tail (hch o')) ho' fun b ob hb e => (hsb.2 b hb).trans e) q qe
end
end Mine
end

section
open PySem PySem.W PySem.Calls PyProof.Rows PySem.Spec PySem.SeqAt
set_option Elab.async false
set_option linter.unusedVariables false
set_option linter.unusedSimpArgs false
set_option linter.deprecated false
set_option maxRecDepth 100000
namespace Mine
section
variable {X : Fx} {m : Str → Option Value} {N : List (Addr × Obj)}
theorem Op2.to {op : Operator} {P1 P2 : Value → Prop} {i j : Int} (h : Op2 X op P1 P2 (pI i)) (e : i = j) : Op2 X op P1 P2 (pI j) := e ▸ h
theorem n_add {a b : Nat} : Op2 X .Add (pI (a : Int)) (pI (b : Int)) (pI ((a + b : Nat) : Int)) := o_add.to (by simp)
theorem n_sub {a b : Nat} (h : b ≤ a) : Op2 X .Sub (pI (a : Int)) (pI (b : Int)) (pI ((a - b : Nat) : Int)) := o_sub.to (by omega)
theorem o_mul {i j : Int} (h : IntMulOk i j) : Op2 X .Mult (pI i) (pI j) (pI (i * j)) := by
  rintro _ _ ⟨t, rfl⟩ ⟨u, rfl⟩ Q E s _ q; exact mul_int (q _ s.heap _ (stays_refl _) ⟨_, rfl⟩) h
theorem log_le {n k : Nat} (h : n < 2 ^ (k + 1)) : n.log2 ≤ k := by
  by_cases h0 : n = 0
  · subst h0; simp
  by_cases hk : n.log2 ≤ k
  · exact hk
  · have := Nat.log2_self_le h0
    have : 2 ^ (k + 1) ≤ 2 ^ n.log2 := Nat.pow_le_pow_right (by omega) (by omega)
    omega
theorem bits_le {a : Nat} (h : a < 2 ^ 60) : Builtin.Int.intBits (a : Int) ≤ 64 := by
  unfold Builtin.Int.intBits
  have := log_le (n := a) (k := 59) h
  split
  · omega
  · rw [Int.natAbs_natCast]; omega
theorem n_mul {a b : Nat} (h : a < 2 ^ 60) : Op2 X .Mult (pI (a : Int)) (pI (b : Int)) (pI ((a * b : Nat) : Int)) := (o_mul (IntMulOk.of_left (bits_le h))).to (by simp)
theorem n_shr {a b : Nat} : Op2 X .RShift (pI (a : Int)) (pI (b : Int)) (pI ((a / 2 ^ b : Nat) : Int)) := (o_shr (by omega)).to (by
  rw [Int.toNat_natCast, Int.fdiv_eq_ediv_of_nonneg _ (by exact_mod_cast Nat.zero_le _)]
  exact_mod_cast rfl)
theorem n_shl {a b : Nat} (h1 : b ≤ 1000000) (h2 : a < 2 ^ 64) : Op2 X .LShift (pI (a : Int)) (pI (b : Int)) (pI ((a * 2 ^ b : Nat) : Int)) := (o_shl (by omega) (by omega) (by omega)).to (by simp)
theorem n_and {a b : Nat} : Op2 X .BitAnd (pI (a : Int)) (pI (b : Int)) (pI ((a &&& b : Nat) : Int)) := o_and.to rfl
theorem o_mod {i j : Int} (h : j ≠ 0) : Op2 X .Mod (pI i) (pI j) (pI (i.fmod j)) := by
  rintro _ _ ⟨t, rfl⟩ ⟨u, rfl⟩ Q E s _ q; exact mod_int h (q _ s.heap _ (stays_refl _) ⟨_, rfl⟩)
theorem o_div {i j : Int} (h : j ≠ 0) (h2 : Builtin.divisionGoesByPylong i j = false) : Op2 X .FloorDiv (pI i) (pI j) (pI (i.fdiv j)) := by
  rintro _ _ ⟨t, rfl⟩ ⟨u, rfl⟩ Q E s _ q; exact floordiv_int h (q _ s.heap _ (stays_refl _) ⟨_, rfl⟩) (.inl h2)
theorem n_mod {a b : Nat} (h : b ≠ 0) : Op2 X .Mod (pI (a : Int)) (pI (b : Int)) (pI ((a % b : Nat) : Int)) := (o_mod (by omega)).to (by
  rw [Int.fmod_eq_emod_of_nonneg _ (by omega)]; simp)
theorem small_div {i : Int} {b : Nat} (h2 : b < 2 ^ 60) : Builtin.divisionGoesByPylong i (b : Int) = false := by
  unfold Builtin.divisionGoesByPylong
  rw [Bool.and_eq_false_iff]
  left
  rw [decide_eq_false_iff_not]
  have := log_le (n := b) (k := 59) h2
  dsimp only
  split
  · omega
  · rw [Int.natAbs_natCast]; omega
theorem n_div {a b : Nat} (h : b ≠ 0) (h2 : b < 2 ^ 60) : Op2 X .FloorDiv (pI (a : Int)) (pI (b : Int)) (pI ((a / b : Nat) : Int)) := (o_div (by omega) (small_div h2)).to (by
  rw [Int.fdiv_eq_ediv_of_nonneg _ (by omega)]; simp)
theorem Ev.nat {k : Nat} {i : Int} {n : Nat} {pos : Pos} (h : i = (n : Int) := by rfl) : Ev X m N (.Constant (.int i) k pos) (sI (n : Int)) := h ▸ Ev.int
theorem and63 {a : Nat} : a &&& 63 = a % 64 := by rw [show 63 = 2 ^ 6 - 1 from rfl, Nat.and_two_pow_sub_one_eq_mod]
theorem and255 {a : Nat} : a &&& 255 = a % 256 := by rw [show 255 = 2 ^ 8 - 1 from rfl, Nat.and_two_pow_sub_one_eq_mod]
end
end Mine
end

section
open PySem PySem.W PySem.Calls PyProof.Rows PySem.Spec PySem.SeqAt
set_option Elab.async false
set_option linter.unusedVariables false
set_option linter.unusedSimpArgs false
set_option linter.deprecated false
set_option maxRecDepth 100000
namespace Mine
section
variable {X : Fx} {m : Str → Option Value} {N : List (Addr × Obj)} {D : Addr → Prop}
theorem Walks.bd {prog : Program} {w : World} {A : Around} {I : Addr} {fp wr : List Addr} {n : Nat} {P : Nat → Value → Prop} {S : Nat → Heap → Prop} (W : Walks prog w A I fp wr n P S) : Walks prog w A I fp wr n (fun i v => i < n ∧ P i v) S :=
  { W with item := fun i s Q E hi hS q => W.item i s Q E hi hS fun v h' tk hP a b => q v h' tk ⟨hi, hP⟩ a b }
theorem Src.bd {st : Heap} {v : Value} {h : Heap} {n : Nat} {P : Nat → Value → Prop} (H : Src X D st v h n P) : Src X D st v h n (fun i v => i < n ∧ P i v) := by
  intro Q E s e q
  exact H Q E s e fun I fp fq wr S h' tk a W b c d e f g h => q I fp fq wr S h' tk a (Walks.bd W) b c d e f g h
/-- counting ranges -/
theorem src_up {a b : Int} {n : Nat} {v : Value} {st h : Heap} (hv : (sR a b 1).Is st v h) (hA : X.A.handled = none) (k : st.StaysIn h) (h1 : 0 ≤ a) (h2 : b = a + n) (h3 : b ≤ 1000000) :
    Src X D st v h n (fun i v => i < n ∧ ∃ t, v = .int (a + (i : Int)) t) := by
  have hr : Builtin.Range.rangeSize a b 1 = n := by
    unfold Builtin.Range.rangeSize
    rw [if_pos (by decide)]
    split
    · rw [Int.ediv_one]; omega
    · omega
  have hs : Builtin.Range.small a b 1 = true := by
    unfold Builtin.Range.small
    rw [hr]
    simp [Builtin.Range.rangeFitsLong]
    omega
  have := (src_range (D := D) hv hA k hs hr).bd
  simpa using this
/-- counting down from n - 1 -/
theorem src_down {n : Nat} {v : Value} {st h : Heap} (hv : (sR (((n : Nat) : Int) - 1) (-1) (-1)).Is st v h) (hA : X.A.handled = none) (k : st.StaysIn h) (h3 : n ≤ 1000000) :
    Src X D st v h n (fun i v => i < n ∧ ∃ t, v = .int ((n - 1 - i : Nat) : Int) t) := by
  have hr : Builtin.Range.rangeSize (((n : Nat) : Int) - 1) (-1) (-1) = n := by
    unfold Builtin.Range.rangeSize
    rw [if_neg (by decide)]
    split
    · simp
    · omega
  have hs : Builtin.Range.small (((n : Nat) : Int) - 1) (-1) (-1) = true := by
    unfold Builtin.Range.small
    rw [hr]
    simp [Builtin.Range.rangeFitsLong]
    omega
  have := (src_range (D := D) hv hA k hs hr).bd
  have e : (fun (i : Nat) (v : Value) => i < n ∧ ∃ t, v = .int ((((n : Nat) : Int) - 1) + (i : Int) * (-1)) t) = fun i v => i < n ∧ ∃ t, v = .int ((n - 1 - i : Nat) : Int) t := by
    funext i v
    refine propext (and_congr_right fun hi => ?_)
    have : (((n : Nat) : Int) - 1) + (i : Int) * (-1) = ((n - 1 - i : Nat) : Int) := by omega
    rw [this]
  rw [e] at this
  exact this
/-- steps -/
theorem src_step {c m : Nat} {n : Nat} {v : Value} {st h : Heap} (hv : (sR 0 ((m : Nat) : Int) ((c : Nat) : Int)).Is st v h) (hA : X.A.handled = none) (k : st.StaysIn h) (hc : 0 < c) (h2 : n = (m + c - 1) / c) (h3 : m ≤ 1000000) (h4 : c ≤ 1000000) :
    Src X D st v h n (fun i v => i < n ∧ ∃ t, v = .int ((i * c : Nat) : Int) t) := by
  have hr : Builtin.Range.rangeSize 0 ((m : Nat) : Int) ((c : Nat) : Int) = n := by
    unfold Builtin.Range.rangeSize
    rw [if_pos (by omega)]
    split
    · have e1 : ((m : Nat) : Int) - 0 - 1 = ((m - 1 : Nat) : Int) := by omega
      rw [e1, h2, ← Int.natCast_ediv]
      have : (m + c - 1) / c = (m - 1) / c + 1 := by
        rw [show m + c - 1 = (m - 1) + c by omega, Nat.add_div_right _ hc]
      omega
    · have : m = 0 := by omega
      subst this
      rw [h2, Nat.div_eq_of_lt (by omega)]; rfl
  have hn : n ≤ m + 1 := by
    rw [h2]
    have := Nat.div_le_self (m + c - 1) c
    by_cases h0 : c = 1
    · subst h0; simp
    · have h5 := Nat.div_le_div_left (c := 2) (a := m + c - 1) (b := c) (by omega) (by omega)
      have h6 : (m + c - 1) / c ≤ m / c + 1 := by
        rw [show m + c - 1 = (m + c) - 1 by omega]
        calc (m + c - 1) / c ≤ (m + c) / c := Nat.div_le_div_right (by omega)
          _ = m / c + 1 := Nat.add_div_right _ hc
      have := Nat.div_le_self m c
      omega
  have hs : Builtin.Range.small 0 ((m : Nat) : Int) ((c : Nat) : Int) = true := by
    unfold Builtin.Range.small
    rw [hr, if_pos (show ((c : Nat) : Int) > 0 by omega)]
    simp only [Builtin.Range.rangeFitsLong, Bool.and_eq_true, Bool.or_eq_true, decide_eq_true_eq, beq_iff_eq]
    omega
  have := (src_range (D := D) hv hA k hs hr).bd
  have e : (fun (i : Nat) (v : Value) => i < n ∧ ∃ t, v = .int ((0 : Int) + (i : Int) * ((c : Nat) : Int)) t) = fun i v => i < n ∧ ∃ t, v = .int ((i * c : Nat) : Int) t := by
    funext i v
    have : (0 : Int) + (i : Int) * ((c : Nat) : Int) = ((i * c : Nat) : Int) := by simp
    rw [this]
  rw [e] at this
  exact this
end
end Mine
end

section
open PySem PySem.W PySem.Calls PyProof.Rows PySem.Spec PySem.SeqAt
set_option Elab.async false
set_option linter.unusedVariables false
set_option linter.unusedSimpArgs false
set_option linter.deprecated false
set_option maxRecDepth 100000
namespace Mine
def tot (l : List Nat) : Nat := l.foldl (fun t c => 256 * t + c) 0
theorem tot_take {l : List Nat} {i c : Nat} (h : l[i]? = some c) : tot (l.take (i + 1)) = 256 * tot (l.take i) + c := by
  rw [List.take_add_one, h]
  simp [tot, List.foldl_append]
theorem tot_lt' : ∀ {l : List Nat} {t : Nat}, (∀ n ∈ l, n < 256) → l.foldl (fun t c => 256 * t + c) t < (t + 1) * 256 ^ l.length
  | [], t, _ => by simp
  | a :: r, t, h => by
    have h1 := tot_lt' (l := r) (t := 256 * t + a) fun n hn => h n (by simp [hn])
    have h2 := h a (by simp)
    rw [List.foldl_cons, List.length_cons, Nat.pow_succ]
    refine Nat.lt_of_lt_of_le h1 ?_
    have : (256 * t + a + 1) ≤ (t + 1) * 256 := by omega
    calc (256 * t + a + 1) * 256 ^ r.length ≤ ((t + 1) * 256) * 256 ^ r.length := Nat.mul_le_mul_right _ this
      _ = (t + 1) * (256 ^ r.length * 256) := by rw [Nat.mul_assoc, Nat.mul_comm 256]
theorem tot_lt {l : List Nat} (h : ∀ n ∈ l, n < 256) : tot l < 256 ^ l.length := by
  have := tot_lt' (t := 0) h
  simpa [tot] using this
theorem small_m1 {i : Int} : Builtin.divisionGoesByPylong i (-1) = false := by
  unfold Builtin.divisionGoesByPylong
  rw [Bool.and_eq_false_iff]
  left
  rfl
def gcN (l : List Nat) : Nat := tot l * 2 ^ (6 * (l.length + 1) - 8 * l.length)
def gc (l : List Nat) : List Nat := (List.range (l.length + 1)).map fun i => alpha.getD (gcN l / 2 ^ (6 * (l.length - i)) % 64) 0
theorem alpha_lt : ∀ n ∈ alpha, n < 256 := by decide
section
variable {prog : Program} {w : World} {mg mb : Str → Option Value} {c : Nat} {t u x : Tok} {l p q : List Nat} {lv : Nat}
theorem f_group (hl : l.length ≤ 3) (hb : ∀ n ∈ l, n < 256) : Fn prog w (Wd (KK w) mg mb) 1 76 [.bytes (bx l) t, .bytes (bx alpha) u] (nL (Lst fI (gc l))) := by
  refine Fn.introC (K := KK w) (fun L => [("total", L + 2), ("alphabet", L + 1)]) rfl rfl rfl Wd.kn rfl rfl (by intro; rfl) (by intro L; exact (by decide : (["total", "alphabet"] : List Str).Nodup)) (by intro; rfl) (fun A h0 L os hA hW hos => ?_)
  obtain ⟨o1, o2, rfl, d1, d2⟩ := hos.two
  have d1 : o1.data = .cell none := d1
  have d2 : o2.data = .cell (some (.bytes (bx alpha) u)) := d2
  refine Go.assignCell (c := L + 2) rfl (.head _) d1 (Ev.nat (n := 0)) (fun o' => .head) fun v o' ⟨tt, hv⟩ hd => ?_
  subst hv
  refine Go.loop (n := l.length) (P := fun i v => ∃ t c, l[i]? = some c ∧ v = .int (c : Nat) t) (fun i m N => ∃ o tk, N = [(L + 2, o), (L + 1, o2)] ∧ o.data = .cell (some (.int (tot (l.take i) : Nat) tk)) ∧ m "octets" = some (.bytes (bx l) t)) (Ev.nameY rfl)
    (fun h0 v h st hs hv => src_bytes hv hA.hd st hb) ⟨o', tt, rfl, hd, rfl⟩ (fun i v m1 N1 own hi ⟨t1, c, hc, hv⟩ ⟨o, tk, hN, hd, hm⟩ hmap => ?_) fun m1 N1 ⟨o, tk, hN, hd, hm⟩ hmap => ?_
  · subst hN hv
    refine Go.assignCell (c := L + 2) rfl (.head _) hd (Ev.bin (Ev.bin (Ev.nat (n := 256)) ((Ev.cell (c := L + 2) rfl (.head _) hd).wk fun v e => ⟨_, e⟩) (n_mul (by decide))) (Ev.nameI upd_self) n_add) (fun o' => .head) fun v o' ⟨tt, hv⟩ hd' => ?_
    refine Go.nil fun h _ => ⟨[(L + 2, o'), (L + 1, o2)], rfl, rfl, o', tt, rfl, ?_, upd_ne hm⟩
    rw [hd', hv, tot_take hc]
  · subst hN
    rw [List.take_length] at hd
    have ht := tot_lt hb
    have h64 : tot l < 2 ^ 64 := Nat.lt_of_lt_of_le ht (by
      have : (256 : Nat) ^ l.length ≤ 256 ^ 3 := Nat.pow_le_pow_right (by omega) hl
      omega)
    refine Go.assign (Ev.bin (Ev.b1 (g_len hW) (Ev.nameY hm) (k_lenY (by omega))) (Ev.nat (n := 1)) n_add) fun v ⟨t2, hv⟩ => ?_
    subst hv
    refine Go.assignCell (c := L + 2) rfl (.head _) hd (Ev.bin ((Ev.cell (c := L + 2) rfl (.head _) hd).wk fun v e => ⟨_, e⟩) (Ev.bin (Ev.bin (Ev.nat (n := 6)) (Ev.nameI upd_self) (n_mul (by decide))) (Ev.bin (Ev.nat (n := 8)) (Ev.b1 (g_len hW) (Ev.nameY (upd_ne hm)) (k_lenY (by omega))) (n_mul (by decide))) (n_sub (by omega))) (n_shl (by omega) h64)) (fun o' => .head) fun v o' ⟨tt, hv⟩ hd' => ?_
    subst hv
    refine Go.retZ (Rn.mono (Ev.comp (n := l.length + 1) (P := fun i v => i < l.length + 1 ∧ ∃ t, v = .int ((l.length + 1 - 1 - i : Nat) : Int) t) (F := fun v y => ∀ (k : Nat) (tt : Tok), v = .int (k : Int) tt → fI (alpha.getD (gcN l / 2 ^ (6 * k) % 64) 0) y) (G := fun i y => fI (alpha.getD (gcN l / 2 ^ (6 * (l.length - i)) % 64) 0) y)
      [("total", L + 2), ("alphabet", L + 1)] (Ev.call (sps := [sI (((l.length + 1 : Nat) : Int) - 1), sI (-1), sI (-1)]) (g_range hW) keep_typ ⟨Ev.bin (Ev.nameI upd_self) Ev.int o_sub, Ev.neg (Ev.int (i := 1)), Ev.neg (Ev.int (i := 1)), trivial⟩ (k_range3 (by decide) small_m1))
      (fun h0 v h st hs _ hv => src_down hv hA.hd st (by omega)) (fun C g hg hN i v m' ⟨hi, t, hv⟩ hm => ?_) ?_ (by omega) rfl (by decide) (by decide)) ?_)
    · subst hv
      have hW' := hW.stay hg
      refine Ev.wk (P := pI ((alpha.getD (gcN l / 2 ^ (6 * (l.length + 1 - 1 - i)) % 64) 0 : Nat) : Int)) ?_ fun y ⟨u, e⟩ k tt ek => ?_
      · refine Ev.bytI (l := alpha) ((Ev.cellv (c := L + 1) (v := .bytes (bx alpha) u) rfl (fun h S => ⟨o2, S.base _ _ (hN _ (.tail _ (.head _))), d2⟩)).wk fun v e => ⟨_, e⟩) ?_ ?_ (by decide) alpha_lt
        · refine Ev.i (Ev.bin (Ev.bin ((Ev.cellv (c := L + 2) (v := .int ((gcN l : Nat) : Int) tt) rfl (fun h S => ⟨o', S.base _ _ (hN _ (.head _)), hd'⟩)).wk fun v e => ⟨_, e⟩) (Ev.bin (Ev.nat (n := 6)) (Ev.nameI hm) (n_mul (by decide))) n_shr) (Ev.nat (n := 63)) n_and) ?_
          rw [and63]
        · exact Nat.lt_of_lt_of_le (Nat.mod_lt _ (by decide)) (by decide)
      · have : k = l.length + 1 - 1 - i := by cases ek; rfl
        subst this
        exact ⟨u, e⟩
    · rintro i v y ⟨hi, t, rfl⟩ hf
      exact hf _ t rfl
    · rintro h v h' hs st ⟨a, o, e1, e2, e3, vs, n, e4, he⟩
      refine ⟨a, o, e1, e2, e3, vs, n, e4, Lst.each he (by simp [gc]) fun i v hi hf => ⟨alpha.getD (gcN l / 2 ^ (6 * (l.length - i)) % 64) 0, by simp [gc, hi], hf⟩⟩
end
end Mine
end

section
open PySem PySem.W PySem.Calls PyProof.Rows PySem.Spec PySem.SeqAt
set_option Elab.async false
set_option linter.unusedVariables false
set_option linter.unusedSimpArgs false
set_option linter.deprecated false
set_option maxRecDepth 100000
namespace Mine
theorem gc_lt {l : List Nat} : ∀ n ∈ gc l, n < 256 := by
  intro n hn
  obtain ⟨i, _, rfl⟩ := List.mem_map.mp hn
  generalize gcN l / 2 ^ (6 * (l.length - i)) % 64 = k
  by_cases hk : k < alpha.length
  · rw [List.getD_eq_getElem?_getD, List.getElem?_eq_getElem hk]; exact alpha_lt _ (List.getElem_mem hk)
  · rw [List.getD_eq_getElem?_getD, List.getElem?_eq_none (by omega)]; decide
theorem gc_len {l : List Nat} : (gc l).length = l.length + 1 := by simp [gc]
def peI (l : List Nat) (i : Nat) : List Nat := ((List.range i).map fun i => gc (cut l (i * 3) (i * 3 + 3))).flatten
def pe (l : List Nat) : List Nat := peI l ((l.length + 2) / 3)
theorem peI_succ {l : List Nat} {i : Nat} : peI l (i + 1) = peI l i ++ gc (cut l (i * 3) (i * 3 + 3)) := by simp [peI, List.range_succ]
theorem cut_len {l : List Nat} {a : Nat} : (cut l a (a + 3)).length ≤ 3 := by simp [cut]; omega
theorem peI_len {l : List Nat} : ∀ {i : Nat}, (peI l i).length ≤ 4 * i
  | 0 => by simp [peI]
  | i + 1 => by
    have := peI_len (l := l) (i := i)
    have h := cut_len (l := l) (a := i * 3)
    rw [peI_succ, List.length_append, gc_len]; omega
theorem peI_lt {l : List Nat} {i : Nat} : ∀ n ∈ peI l i, n < 256 := by
  intro n hn
  obtain ⟨x, hx, hn⟩ := List.mem_flatten.mp hn
  obtain ⟨i, _, rfl⟩ := List.mem_map.mp hx
  exact gc_lt n hn
def rb (l : List Nat) (b : Nat) : Nat := b + ((l.drop b).takeWhile fun c => !isPlain c).length
theorem rb_end {l : List Nat} {b : Nat} (h : l.length ≤ b) : rb l b = b := by simp [rb, List.drop_of_length_le h]
theorem rb_stop {l : List Nat} {b c : Nat} (h : l[b]? = some c) (hc : isPlain c = true) : rb l b = b := by
  obtain ⟨hb, e⟩ := List.getElem?_eq_some_iff.mp h
  rw [rb, List.drop_eq_getElem_cons hb, e]
  simp [hc]
theorem rb_go {l : List Nat} {b c : Nat} (h : l[b]? = some c) (hc : isPlain c = false) : rb l b = rb l (b + 1) := by
  obtain ⟨hb, e⟩ := List.getElem?_eq_some_iff.mp h
  rw [rb, List.drop_eq_getElem_cons hb, e]
  simp [hc, rb]; omega
theorem getD_some {l : List Nat} {i : Nat} (h : i < l.length) : l[i]? = some (l.getD i 0) := by
  rw [List.getElem?_eq_getElem h, List.getD_eq_getElem?_getD, List.getElem?_eq_getElem h]; rfl
section
variable {prog : Program} {w : World} {mg mb : Str → Option Value} {c : Nat} {t u x : Tok} {l p q : List Nat} {lv : Nat}
theorem Ev.nilL {X : Fx} {m : Str → Option Value} {N : List (Addr × Obj)} {pos : Pos} : Ev X m N (.List [] pos) (nL fun vs => vs = []) :=
  Ev.list (sps := []) (by exact trivial) fun _ vs _ h => by cases vs with | nil => rfl | cons _ _ => exact h.elim
theorem f_encoded (hl : l.length ≤ 10000) (hb : ∀ n ∈ l, n < 256) : Fn prog w (Wd (KK w) mg mb) 2 88 [.bytes (bx l) t, .bytes (bx alpha) u] (sY (bx (pe l))) := by
  refine Fn.intro (K := KK w) rfl rfl rfl Wd.kn rfl rfl (by decide) (fun A h0 L hA hW => ?_)
  refine Go.assignN Ev.nilL fun a o ⟨vs, n, ho, hvs⟩ => ?_
  subst ho hvs
  refine Go.loop (n := (l.length + 2) / 3) (P := fun i v => i < (l.length + 2) / 3 ∧ ∃ t, v = .int ((i * 3 : Nat) : Int) t) (fun i m N => ∃ vs n, N = [(a, lo vs n)] ∧ Lst fI (peI l i) vs ∧ m "codes" = some (.ref a) ∧ m "octets" = some (.bytes (bx l) t) ∧ m "alphabet" = some (.bytes (bx alpha) u))
    (Ev.call (sps := [sI ((0 : Nat) : Int), sI ((l.length : Nat) : Int), sI ((3 : Nat) : Int)]) (g_range hW) keep_typ ⟨Ev.nat, Ev.b1 (g_len hW) (Ev.nameY rfl) (k_lenY (by omega)), Ev.nat, trivial⟩ (k_range3 (by decide) (small_div (by decide))))
    (fun h0 v h st hs hv => src_step (c := 3) (m := l.length) hv hA.hd st (by decide) (by omega) (by omega) (by decide)) ⟨[], n, rfl, Lst.nil, rfl, rfl, rfl⟩ (fun i v m1 N1 own hi ⟨_, t1, hv⟩ ⟨vs, n, hN, hvs, h1, h2, h3⟩ hmap => ?_) fun m1 N1 ⟨vs, n, hN, hvs, h1, h2, h3⟩ hmap => ?_
  · subst hN hv
    have hz : vs.length ≤ 100000 := by rw [hvs.1]; have := peI_len (l := l) (i := i); omega
    refine Go.extend (upd_ne h1) (.head _) (P := Lst fI (gc (cut l (i * 3) (i * 3 + 3)))) ?_ (by omega) (fun ws hw => by rw [hw.1, gc_len]; have := cut_len (l := l) (a := i * 3); omega) (fun o' => .head) fun ws n' hws => ?_
    · refine Ev.c2 (g_group_codes hW) hW (kp_group_codes w) (hA.one (k := 1)) (P1 := pY (bx (cut l (i * 3) (i * 3 + 3)))) ?_ (Ev.name (upd_ne h3)) fun v u ⟨t4, e1⟩ e2 => ?_
      · have e : cutO l (some (i * 3)) (some (i * 3 + 3)) = cut l (i * 3) (i * 3 + 3) := rfl
        rw [← e]
        exact Ev.bytS (a := some (i * 3)) (b := some (i * 3 + 3)) (Ev.nameY (upd_ne h2)) (Ev.nameI upd_self) (Ev.bin (Ev.nameI upd_self) (Ev.nat (n := 3)) n_add) (by omega)
      · subst e1 e2
        exact f_group cut_len fun n hn => hb n (List.mem_of_mem_drop (List.mem_of_mem_take hn))
    · exact Go.nil fun h _ => ⟨[(a, lo (vs ++ ws) n')], rfl, rfl, _, n', rfl, by rw [peI_succ]; exact hvs.app hws, upd_ne h1, upd_ne h2, upd_ne h3⟩
  · subst hN
    refine Go.retZ (Ev.t1 (g_bytes hW) (Ev.lname h1 (.head _) hvs) (k_bytes hA.hd peI_lt ?_))
    have := peI_len (l := l) (i := (l.length + 2) / 3); omega
theorem f_behind {b : Nat} (hl : l.length ≤ 10000) (hbl : b ≤ l.length) : Fn prog w (Wd (KK w) mg mb) 2 135 [.str (sx l) t, .int (b : Int) u] (sI (rb l b : Nat)) := by
  refine Fn.intro (K := KK w) rfl rfl rfl Wd.kn rfl rfl (by decide) (fun A h0 L hA hW => ?_)
  refine Go.assign (Ev.nameI rfl) fun v ⟨t1, hv⟩ => ?_
  subst hv
  refine Go.whil (k0 := l.length - b) (fun k m N => ∃ e tt, N = [] ∧ m "end" = some (.int ((e : Nat) : Int) tt) ∧ m "text" = some (.str (sx l) t) ∧ e ≤ l.length ∧ rb l b = rb l e ∧ k = l.length - e) ⟨b, t1, rfl, upd_self, rfl, hbl, rfl, rfl⟩ ?_
  rintro k m1 N1 ⟨e, tt, rfl, he, ht, hel, hrb, rfl⟩
  refine ⟨_, Ts.tb (Tb.and (Ts.cmp (Ev.nameI he) (Ev.b1 (g_len hW) (Ev.nameS ht) (k_lenT (by omega))) c_lt) fun h => Tb.and (b := !isPlain (l.getD e 0)) (Ts.not (Ts.plain (Ev.c1 (g_is_plain_code hW) hW (kp_is_plain_code w) (hA.one (k := 1)) (Ev.b1 (g_ord hW) (Ev.strI (Ev.nameS ht) (Ev.nameI he) (by have := of_decide_eq_true h; omega) (by omega)) k_ord) fun v ⟨t, hv⟩ => hv ▸ f_plain))) fun _ => Tb.andN), fun hb => ?_, fun hb => ?_⟩
  · simp only [Bool.and_true, Bool.and_eq_true, decide_eq_true_eq, Bool.not_eq_true'] at hb
    have hlt : e < l.length := by omega
    refine Go.augI he (Ev.nat (n := 1)) fun t3 => Go.nil fun h _ => ⟨l.length - (e + 1), by omega, e + 1, t3, rfl, ?_, upd_ne ht, hlt, by rw [hrb, rb_go (getD_some hlt) hb.2], rfl⟩
    exact upd_self
  · refine Go.retZ (Ev.i (Ev.nameI he) ?_)
    rw [hrb]
    by_cases hlt : e < l.length
    · have : isPlain (l.getD e 0) = true := by
        have h1 : decide (((e : Nat) : Int) < ((l.length : Nat) : Int)) = true := decide_eq_true (by omega)
        rw [h1] at hb
        simpa using hb
      rw [rb_stop (getD_some hlt) this]
    · rw [rb_end (by omega)]
end
end Mine
end

section
open PySem PySem.W PySem.Calls PyProof.Rows PySem.Spec PySem.SeqAt
set_option Elab.async false
set_option linter.unusedVariables false
set_option linter.unusedSimpArgs false
set_option linter.deprecated false
set_option maxRecDepth 100000
namespace Mine
def u16 (l : List Nat) : List Nat := l.flatMap fun c => [c / 256, c % 256]
theorem u16_app {a b : List Nat} : u16 (a ++ b) = u16 a ++ u16 b := by simp [u16]
theorem u16_len : ∀ {l : List Nat}, (u16 l).length = 2 * l.length
  | [] => rfl
  | a :: r => by
    have := u16_len (l := r)
    simp [u16] at this ⊢; omega
theorem u16_lt {l : List Nat} (h : ∀ c ∈ l, c < 65536) : ∀ n ∈ u16 l, n < 256 := by
  intro n hn
  obtain ⟨c, hc, hn⟩ := List.mem_flatMap.mp hn
  have := h c hc
  simp at hn
  omega
theorem cut_succ {l : List Nat} {b i c : Nat} (h : l[b + i]? = some c) : cut l b (b + (i + 1)) = cut l b (b + i) ++ [c] := by
  simp only [cut, Nat.add_sub_cancel_left]
  rw [List.take_add_one, List.getElem?_drop, h]; rfl
abbrev np (c : Nat) : Bool := !isPlain c
theorem take_tw {p : Nat → Bool} {l : List Nat} : l.take (l.takeWhile p).length = l.takeWhile p := by
  conv => lhs; rhs; rw [← List.takeWhile_append_dropWhile (p := p) (l := l)]
  rw [List.take_left']; rfl
theorem drop_tw {p : Nat → Bool} {l : List Nat} : l.drop (l.takeWhile p).length = l.dropWhile p := by
  conv => lhs; rhs; rw [← List.takeWhile_append_dropWhile (p := p) (l := l)]
  rw [List.drop_left']; rfl
def enc : List Nat → List Nat
  | [] => []
  | c :: r => if isPlain c then (if c = 38 then [38, 45] else [c]) ++ enc r else 38 :: (pe (u16 ((c :: r).takeWhile np)) ++ 45 :: enc (r.dropWhile np))
termination_by l => l.length
decreasing_by
  · simp
  · have := (List.dropWhile_sublist np (l := r)).length_le
    simp; omega
section
variable {prog : Program} {w : World} {mg mb : Str → Option Value} {c : Nat} {t u x : Tok} {l p q : List Nat} {lv : Nat}
theorem half_no {c : Nat} (h : c < 55296) : isHalf c = false := by
  rw [isHalf, Bool.and_eq_false_iff]; left; exact decide_eq_false (by omega)
theorem f_u16 {b e : Nat} (hl : l.length ≤ 10000) (hb : b ≤ e) (he : e ≤ l.length) (hc : ∀ c ∈ l, c < 55296) : FnC prog w (Wd (KK w) mg mb) 2 128 [.str (sx l) t, .int (b : Int) u, .int (e : Int) x] (sY (bx (u16 (cut l b e)))) := by
  refine FnC.intro (K := KK w) rfl rfl rfl Wd.kn rfl rfl (by decide) (fun A h0 L hA hG hW => ?_)
  refine GoC.bnew hG (g_bytearray hW) fun a => ?_
  refine GoC.loop (n := e - b) (P := fun i v => i < e - b ∧ ∃ t, v = .int ((b : Int) + (i : Int)) t) (fun i m N => N = [(a, ba (u16 (cut l b (b + i))))] ∧ m "out" = some (.ref a) ∧ m "text" = some (.str (sx l) t))
    (Ev.t2 (g_range hW) (Ev.nameI (upd_ne rfl)) (Ev.nameI (upd_ne rfl)) k_range2) (fun h0 v h st hs hv => src_up hv hA.hd st (by omega) (by omega) (by omega)) ⟨by simp [cut, u16], upd_self, upd_ne rfl⟩ (fun i v m1 N1 own hi ⟨_, t1, hv⟩ ⟨hN, h1, h2⟩ hmap => ?_) fun m1 N1 ⟨hN, h1, h2⟩ hmap => ?_
  · subst hN hv
    have hlt : b + i < l.length := by omega
    have hget := getD_some hlt
    generalize hcc : l.getD (b + i) 0 = c at hget
    have hc' := hc c (List.mem_of_getElem? hget)
    refine GoC.leaf (Go.assign (P := pI (c : Int)) ?_ fun v ⟨t2, hv⟩ => GoC.nilSeq ?_)
    · rw [← hcc]
      exact Ev.b1 (g_ord hW) (Ev.strI (i := b + i) (Ev.nameS (upd_ne h2)) (Ev.i (Ev.nameI upd_self) (by omega)) hlt (by omega)) k_ord
    subst hv
    refine GoC.ite (b := isHalf c) (Ts.plain (Ev.c1 (g_is_half hW) hW (kp_is_half w) (hA.one (k := 1)) (Ev.name upd_self) fun v e => e ▸ f_half)) (fun h => absurd h (by rw [half_no hc']; decide)) fun _ => GoC.of (GoC.nilSeq ?_)
    refine GoC.ite (b := decide ((c : Int) > 65535)) (Ts.cmp (Ev.nameI upd_self) Ev.int c_gt) (fun h => absurd (of_decide_eq_true h) (by omega)) fun _ => GoC.of (GoC.nilSeq ?_)
    have hz : (u16 (cut l b (b + i))).length ≤ 100000 := by rw [u16_len]; simp [cut]; omega
    refine GoC.bapp (c := c / 256) hG (upd_ne (upd_ne h1)) (.head _) (Ev.i (Ev.bin (Ev.nameI upd_self) (Ev.nat (n := 8)) n_shr) rfl) (by omega) (by omega) (fun o' => .head) ?_
    refine GoC.bapp (c := c % 256) hG (upd_ne (upd_ne h1)) (.head _) (Ev.i (Ev.bin (Ev.nameI upd_self) (Ev.nat (n := 255)) n_and) (by rw [and255])) (by omega) (by simp; omega) (fun o' => .head) ?_
    refine GoC.nil fun h _ => ⟨[(a, _)], rfl, rfl, ?_, upd_ne (upd_ne h1), upd_ne (upd_ne h2)⟩
    rw [cut_succ hget, u16_app, List.append_assoc]
    rfl
  · subst hN
    refine GoC.of (Go.retZ (Ev.t1 (g_bytes hW) (Ev.baname h1 (.head _)) ?_))
    rw [show b + (e - b) = e by omega]
    refine k_bytesA ?_
    rw [u16_len]; simp [cut]; omega
theorem f_enc (hl : l.length ≤ 1000) (hc : ∀ c ∈ l, c < 55296) : FnC prog w (Wd (KK w) mg mb) 3 142 [.str (sx l) t] (sY (bx (enc l))) := by
  refine FnC.intro (K := KK w) rfl rfl rfl Wd.kn rfl rfl (by decide) (fun A h0 L hA hG hW => ?_)
  refine GoC.bnew hG (g_bytearray hW) fun a => ?_
  refine GoC.leaf (Go.assign (Ev.nat (n := 0)) fun v ⟨t0, hv⟩ => GoC.nilSeq ?_)
  subst hv
  refine GoC.whil (k0 := l.length) (fun k m N => ∃ at' pre tt, N = [(a, ba pre)] ∧ m "out" = some (.ref a) ∧ m "at" = some (.int ((at' : Nat) : Int) tt) ∧ m "text" = some (.str (sx l) t) ∧ at' ≤ l.length ∧ pre ++ enc (l.drop at') = enc l ∧ k = l.length - at' ∧ pre.length ≤ 8 * at') ⟨0, [], t0, rfl, upd_ne upd_self, upd_self, rfl, by omega, rfl, by omega, by simp⟩ ?_
  rintro k m1 N1 ⟨at', pre, tt, rfl, h1, h2, h3, hle, hpre, rfl, hz⟩
  refine ⟨_, Ts.cmp (Ev.nameI h2) (Ev.b1 (g_len hW) (Ev.nameS h3) (k_lenT (by omega))) c_lt, fun hb => ?_, fun hb => ?_⟩
  · have hlt : at' < l.length := by have := of_decide_eq_true hb; omega
    have hget := getD_some hlt
    generalize hcc : l.getD at' 0 = c at hget
    have hc' := hc c (List.mem_of_getElem? hget)
    have hdrop : l.drop at' = c :: l.drop (at' + 1) := by
      obtain ⟨hb, e⟩ := List.getElem?_eq_some_iff.mp hget
      rw [List.drop_eq_getElem_cons hb, e]
    rw [hdrop, enc] at hpre
    refine GoC.leaf (Go.assign (P := pI (c : Int)) ?_ fun v ⟨t2, hv⟩ => GoC.nilSeq ?_)
    · rw [← hcc]
      exact Ev.b1 (g_ord hW) (Ev.strI (i := at') (Ev.nameS h3) (Ev.nameI h2) hlt (by omega)) k_ord
    subst hv
    refine GoC.ite (b := isPlain c) (Ts.plain (Ev.c1 (g_is_plain_code hW) hW (kp_is_plain_code w) (hA.one (k := 1)) (Ev.name upd_self) fun v e => e ▸ f_plain)) (fun h => ?_) fun h => ?_
    · rw [if_pos h] at hpre
      have hcl : c ≤ 126 := by rw [isPlain, Bool.and_eq_true, decide_eq_true_eq, decide_eq_true_eq] at h; omega
      refine GoC.bapp (c := c) hG (upd_ne h1) (.head _) (Ev.nameI upd_self) (by omega) (by omega) (fun o' => .head) ?_
      refine GoC.ite (b := decide ((c : Int) = 38)) (Ts.cmp (Ev.nameI upd_self) Ev.int c_eq) (fun h' => ?_) fun h' => GoC.of (GoC.nilSeq ?_)
      · have e38 : c = 38 := by have := of_decide_eq_true h'; omega
        rw [if_pos e38] at hpre
        refine GoC.bapp (c := 45) hG (upd_ne h1) (.head _) (Ev.nat (n := 45)) (by omega) (by simp; omega) (fun o' => .head) ?_
        refine GoC.of (GoC.nilSeq (GoC.of (Go.augI (upd_ne h2) (Ev.nat (n := 1)) fun t3 => Go.nil fun h _ => ?_)))
        exact GoC.nil fun h _ => ⟨_, by omega, at' + 1, pre ++ [c] ++ [45], t3, rfl, upd_ne (upd_ne h1), upd_self, upd_ne (upd_ne h3), hlt, by rw [← hpre, e38]; simp, rfl, by simp; omega⟩
      · have n38 : c ≠ 38 := by have := of_decide_eq_false h'; omega
        rw [if_neg n38] at hpre
        refine GoC.of (Go.augI (upd_ne h2) (Ev.nat (n := 1)) fun t3 => Go.nil fun h _ => ?_)
        exact GoC.nil fun h _ => ⟨_, by omega, at' + 1, pre ++ [c], t3, rfl, upd_ne (upd_ne h1), upd_self, upd_ne (upd_ne h3), hlt, by rw [← hpre]; simp, rfl, by simp; omega⟩
    · rw [if_neg (by rw [h]; decide)] at hpre
      generalize hrun : (c :: l.drop (at' + 1)).takeWhile np = run at hpre
      have hrun' : (l.drop at').takeWhile np = run := by rw [hdrop, hrun]
      have hr1 : 1 ≤ run.length := by rw [← hrun, List.takeWhile_cons, if_pos (by simp [np, h])]; simp
      have hrl : at' + run.length ≤ l.length := by
        have := (List.takeWhile_sublist np (l := l.drop at')).length_le
        rw [hrun'] at this; simp at this; omega
      have hrb : rb l at' = at' + run.length := by rw [rb]; exact congrArg (fun x => at' + List.length x) hrun'
      have hcut : cut l at' (at' + run.length) = run := by
        rw [cut, Nat.add_sub_cancel_left, ← hrun', take_tw]
      have hdw : (l.drop (at' + 1)).dropWhile np = l.drop (at' + run.length) := by
        have e : l.drop (at' + run.length) = (l.drop at').drop run.length := (List.drop_drop ..).symm
        rw [e, ← hrun', drop_tw, hdrop, List.dropWhile_cons, if_pos (by simp [np, h])]
      rw [hdw] at hpre
      refine GoC.leaf (Go.assign (P := pI ((at' + run.length : Nat) : Int)) ?_ fun v ⟨t3, hv⟩ => GoC.nilSeq ?_)
      · rw [← hrb]
        exact Ev.c2 (g_run_behind hW) hW (kp_run_behind w) (hA.one (k := 2)) (Ev.name (upd_ne h3)) (Ev.name (upd_ne h2)) fun v u e1 e2 => by subst e1 e2; exact f_behind (by omega) hle
      subst hv
      have hun : (u16 run).length = 2 * run.length := u16_len
      have hpl : (pe (u16 run)).length ≤ 4 * ((2 * run.length + 2) / 3) := by
        have := peI_len (l := u16 run) (i := ((u16 run).length + 2) / 3)
        rw [hun] at this
        rw [pe, hun]; exact this
      have hrc : ∀ c ∈ run, c < 55296 := fun c hm => hc c (List.mem_of_mem_drop ((List.takeWhile_sublist np (l := l.drop at')).subset (hrun' ▸ hm)))
      refine GoC.bapp (c := 38) hG (upd_ne (upd_ne h1)) (.head _) (Ev.nat (n := 38)) (by omega) (by omega) (fun o' => .head) ?_
      refine GoC.bext (r := pe (u16 run)) hG (upd_ne (upd_ne h1)) (.head _) ?_ (by simp; omega) (fun o' => .head) ?_
      · refine EvC.call (sps := [sY (bx (u16 run)), sY (bx alpha)]) (g_part_encoded hW) (keepC_def hW (kp_part_encoded w)) ⟨?_, EvC.of (g_SHIFT_SIGNS hW), trivial⟩ (CallRnC.of (crn_def' hA fun h0 vs h st hs hvs => ?_))
        · refine EvC.call (sps := [sV _, sV _, sV _]) (g_utf16_octets hW) (keepC_def hW (kp_utf16_octets w)) ⟨EvC.of (Ev.name (upd_ne (upd_ne h3))), EvC.of (Ev.name (upd_ne (upd_ne h2))), EvC.of (Ev.name upd_self), trivial⟩ (crnC_def (W := Wd (KK w) mg mb) hA hG fun h0 vs h st hs hvs => ?_)
          match vs, hvs with
          | [v1, v2, v3], hv =>
            obtain ⟨e1, e2, e3, _⟩ := hv
            have e1 : v1 = _ := e1
            have e2 : v2 = _ := e2
            have e3 : v3 = _ := e3
            subst e1 e2 e3
            refine ⟨hW.stay hs.base, ?_⟩
            have := f_u16 (prog := prog) (w := w) (mg := mg) (mb := mb) (t := t) (u := tt) (x := t3) (b := at') (e := at' + run.length) (l := l) (by omega) (by omega) hrl hc
            rw [hcut] at this
            exact this
        · match vs, hvs with
          | [v1, v2], hv =>
            obtain ⟨⟨t4, e1⟩, ⟨t5, e2⟩, _⟩ := hv
            subst e1 e2
            exact ⟨Wd (KK w) mg mb, hW.stay hs.base, f_encoded (by omega) (u16_lt fun c hm => by have := hrc c hm; omega)⟩
      refine GoC.bapp (c := 45) hG (upd_ne (upd_ne h1)) (.head _) (Ev.nat (n := 45)) (by omega) (by simp; omega) (fun o' => .head) ?_
      refine GoC.of (Go.assign (Ev.name upd_self) fun v hv => Go.nil fun h _ => ?_)
      have hv : v = _ := hv
      subst hv
      exact GoC.nil fun h _ => ⟨_, by omega, at' + run.length, pre ++ [38] ++ pe (u16 run) ++ [45], t3, rfl, upd_ne (upd_ne (upd_ne h1)), upd_self, upd_ne (upd_ne (upd_ne h3)), hrl, by rw [← hpre]; simp, rfl, by simp; omega⟩
  · have hlt : at' = l.length := by have := of_decide_eq_false hb; omega
    refine GoC.of (Go.retZ (Ev.t1 (g_bytes hW) (Ev.baname h1 (.head _)) ?_))
    rw [hlt, List.drop_length, enc, List.append_nil] at hpre
    rw [← hpre]
    exact k_bytesA (by omega)
end
end Mine
end

section
open PySem PySem.W PySem.Calls PyProof.Rows PySem.Spec PySem.SeqAt
set_option Elab.async false
set_option linter.unusedVariables false
set_option linter.unusedSimpArgs false
set_option linter.deprecated false
set_option maxRecDepth 100000
namespace Mine
theorem lk_list_keys : typeLookup (.type "list") "keys" = pure none := by rw [typeLookup_type, builtinLookup_eq_fast]; kernel_rfl
theorem sub_ae : isSubtype (.type "AttributeError") (.type "AttributeError") = pure true := by rw [isSubtype_type]; kernel_rfl
section
variable {prog : Program} {w : World} {A : Around} {E : Value → Shared → Prop} {h : Heap} {g : Array GenState} {d : Drawn} {t : Nat} {os : OsState} {a : Addr} {o : Obj}
theorem attr_err {α : Type} {name msg : Str} {Q : α → Shared → Prop} (hm : msg.length ≤ sizeLine) (hh : A.handled = none)
    (q : ∀ h' tk e, h.StaysIn h' → (∃ ob, h'.get? e = some ob ∧ ob.cls = .type "AttributeError") → E (.ref e) ⟨h', g, d, tk, os⟩) :
    wpAny (model prog w) A (raiseAttrError (.ref a) name msg : Sem α) Q E ⟨h, g, d, t, os⟩ := by
  unfold raiseAttrError
  refine wpAny_bind (wpAny_mkStr (wpAny_bind ?_) hm)
  unfold newExc newTuple
  refine wpAny_bind (wpAny_newObj_type ?_ (by show (1 : Nat) ≤ sizeLine; rw [sizeLine_eq]; decide))
  refine wpAny_bind (m := firstArgMember _ _) (wpAny_of_eq (a := Value.none) (by kernel_rfl) ?_)
  refine wpAny_newObj_type ?_ (by simp [sizeOk, ownMembersOf, sizeLine_eq])
  have hown : ownMembersOf (.type "AttributeError") [Value.str msg t] = #[unsetMember, unsetMember] := rfl
  simp only [hown, Heap.size_push]
  have he : ((h.push { cls := .type "tuple", data := .seq [Value.str msg t].toArray }).push { cls := .type "AttributeError", data := .fields (#[.ref h.objs.size, .none, .none, .none, .bool false, .none] ++ #[unsetMember, unsetMember]) }).get? (h.objs.size + 1) = some { cls := .type "AttributeError", data := .fields (#[.ref h.objs.size, .none, .none, .none, .bool false, .none] ++ #[unsetMember, unsetMember]) } := by
    have := Heap.get?_push_size (h.push { cls := .type "tuple", data := .seq [Value.str msg t].toArray }) (o := { cls := .type "AttributeError", data := .fields (#[.ref h.objs.size, .none, .none, .none, .bool false, .none] ++ #[unsetMember, unsetMember]) }) rfl
    rw [Heap.size_push] at this
    exact this
  have st1 : h.StaysIn ((h.push { cls := .type "tuple", data := .seq [Value.str msg t].toArray }).push { cls := .type "AttributeError", data := .fields (#[.ref h.objs.size, .none, .none, .none, .bool false, .none] ++ #[unsetMember, unsetMember]) }) := fun b o e => Heap.get?_push_of_some _ (Heap.get?_push_of_some _ e)
  generalize (h.push { cls := .type "tuple", data := .seq [Value.str msg t].toArray }).push { cls := .type "AttributeError", data := .fields (#[.ref h.objs.size, .none, .none, .none, .bool false, .none] ++ #[unsetMember, unsetMember]) } = h1 at he st1 ⊢
  refine wpAny_bind (wpAny_mkText ?_)
  refine wpAny_bind ?_
  have hT : (⟨h1, g, d, t + 1 + 1, os⟩ : Shared).TypeIs (.ref (h.objs.size + 1)) "AttributeError" := ⟨_, he, rfl⟩
  unfold noteAttr
  refine wpAny_bind ?_
  unfold lacksNameAndObj
  refine wpAny_bind (wpAny_isInstance hT sub_ae ?_)
  refine bm_if_false rfl ?_
  refine wpAny_bind (wpAny_load he ?_)
  refine bm_if_false (by rfl) ?_
  refine bm_if_false (by rfl) ?_
  refine wpAny_pure ?_
  refine bm_if_true rfl ?_
  refine wpAny_bind (wpAny_rule ?_)
  refine wpAny_bind (wpAny_typeOf hT ?_)
  show wpAny _ _ (layMembers (h.objs.size + 1) 6 #[_, .ref a]) _ _ _
  unfold layMembers
  refine wpAny_bind (wpAny_load he ?_)
  refine wpAny_update he ?_
  refine wpAny_raiseNew_none hh (q _ _ _ (fun b o e => ?_) ⟨_, Heap.get?_update_self _ he rfl, rfl⟩)
  rw [Heap.get?_update_other _ _ (Nat.ne_of_gt (Nat.lt_succ_of_lt (Heap.lt_size e)))]
  exact st1 _ _ e
theorem keys_entry {tk : Tok} {vs : List Value} {n : Nat} {Q : Fin → Shared → Prop} (hx : h.get? a = some (lo vs n)) (hh : A.handled = none)
    (q : ∀ h' tk e, h.StaysIn h' → (∃ ob, h'.get? e = some ob ∧ ob.cls = .type "AttributeError") → E (.ref e) ⟨h', g, d, tk, os⟩) :
    wpAny (model prog w) A (Builtin.«object.__getattribute__» ⟨[.ref a, .str "keys" tk], []⟩) Q E ⟨h, g, d, t, os⟩ := by
  have hT : (⟨h, g, d, t, os⟩ : Shared).TypeIs (.ref a) "list" := ⟨_, hx, rfl⟩
  have f4 := lk_list_keys
  repeat (any_goals (first | assumption | wp_step))
  refine attr_err ?_ hh q
  rw [sizeLine_eq]
  decide +kernel
theorem keys_by {tk : Tok} {vs : List Value} {n : Nat} {Q : Value → Shared → Prop} (hx : h.get? a = some (lo vs n)) (hh : A.handled = none)
    (q : ∀ h' tk e, h.StaysIn h' → (∃ ob, h'.get? e = some ob ∧ ob.cls = .type "AttributeError") → E (.ref e) ⟨h', g, d, tk, os⟩) :
    wpAny (model prog w) A (getAttrBy (.ref a) (.str "keys" tk) false) Q E ⟨h, g, d, t, os⟩ := by
  have hT : (⟨h, g, d, t, os⟩ : Shared).TypeIs (.ref a) "list" := ⟨_, hx, rfl⟩
  have f2 := F.slot_list_getattribute.lookup
  have f3 := F.slot_list_getattribute.bind (.ref a)
  repeat (any_goals (first | assumption | wp_step))
  refine codeAny_call_builtin F.slot_list_getattribute.plain F.entry_list_ga (F.slot_list_getattribute.check _ _ _ _ _ _ _ _ hT (F.args_list_getattribute_2 _ _) (keys_entry hx hh fun h' tk e st ⟨ob, ho, hc⟩ => ?_))
  have hTe : (⟨h', g, d, tk, os⟩ : Shared).TypeIs (.ref e) "AttributeError" := ⟨ob, ho, hc⟩
  have f5 := sub_ae
  have f6 := F.plainAttrs_list.noGetattr
  unfold getattributeRaised
  refine wpAny_bind (wpAny_isInstance hTe sub_ae ?_)
  refine bm_if_true rfl ?_
  unfold hookBehind
  refine wpAny_bind (bm_if_false rfl (wpAny_of_eq f6 ?_))
  unfold hookOrError attributeErrorLeaves
  refine bm_if_true rfl ?_
  exact wpAny_throw (q h' tk e st ⟨ob, ho, hc⟩)
theorem no_keys {vs : List Value} {n : Nat} {Q : Option Value → Shared → Prop} (hx : h.get? a = some (lo vs n)) (hh : A.handled = none)
    (q : ∀ h' tk, h.StaysIn h' → Q none ⟨h', g, d, tk, os⟩) : wpAny (model prog w) A (getAttr? (.ref a) "keys") Q E ⟨h, g, d, t, os⟩ := by
  unfold getAttr? getAttrBy?
  refine wpAny_bind (wpAny_mkText ?_)
  refine wpAny_bind (wpAny_attempt (keys_by hx hh fun h' tk e st ⟨ob, ho, hc⟩ => ?_))
  have hTe : (⟨h', g, d, tk, os⟩ : Shared).TypeIs (.ref e) "AttributeError" := ⟨ob, ho, hc⟩
  refine wpAny_bind (wpAny_isInstance hTe sub_ae ?_)
  exact bm_if_true rfl (wpAny_pure (q h' tk st))
end
end Mine
end

section
open PySem PySem.W PySem.Calls PyProof.Rows PySem.Spec PySem.SeqAt
set_option Elab.async false
set_option linter.unusedVariables false
set_option linter.unusedSimpArgs false
set_option linter.deprecated false
set_option maxRecDepth 100000
namespace Mine
-- dict of a list of pairs
theorem dl_plain : plainId "dict.update.loop" = true := by decide +kernel
theorem dl_entry : entryFor table "dict.update.loop" = some Builtin.«dict.update.loop» := by first | exact entryFor_of_tree (by kernel_rfl) | exact entryFor_of_fast (by kernel_rfl)
section
variable {prog : Program} {w : World} {A : Around} {E : Value → Shared → Prop} {s : Shared} {R : Result → Shared → Prop}
theorem stored_take {kvs : List (Int × Value)} {i : Nat} {kv : Int × Value} (hn : (kvs.map (·.1)).Nodup) (h : kvs[i]? = some kv) : stored (kvs.take i) kv.1 kv.2 = kvs.take (i + 1) := by
  have e : kvs.take (i + 1) = kvs.take i ++ [kv] := by rw [List.take_add_one, h]; rfl
  unfold stored
  rw [if_neg, e]
  intro hany
  obtain ⟨x, hx, hk⟩ := List.any_eq_true.mp hany
  have hk := of_decide_eq_true hk
  obtain ⟨j, hj, rfl⟩ := List.getElem_of_mem hx
  obtain ⟨hi, hkv⟩ := List.getElem?_eq_some_iff.mp h
  have hji : j < i := by simp at hj; omega
  have h1 : (kvs.map (·.1))[j]'(by simp; omega) = (kvs.map (·.1))[i]'(by simp; omega) := by simpa [hkv] using hk
  have := (List.getElem_inj hn).mp h1
  omega
theorem dl_loop {l I d : Addr} {vs : List Value} {kvs : List (Int × Value)} (hh : A.handled = none) (hn : (kvs.map (·.1)).Nodup) (hlen : vs.length = kvs.length) (hz : kvs.length ≤ 100000) (hId : I ≠ d) (hlI : l ≠ I) (hld : l ≠ d) :
    ∀ (k i : Nat) (s : Shared), kvs.length - i = k → i ≤ kvs.length → s.heap.IsList l vs.toArray → s.heap.IsListIter I l i → s.heap.DictOf (intKind prog w) d (kvs.take i) →
      (∀ (j : Nat) (kv : Int × Value), kvs[j]? = some kv → ∃ (a : Addr) (n : Nat) (t : Tok), vs[j]? = some (Value.ref a) ∧ s.heap.get? a = some (tu [.int kv.1 t, kv.2] n) ∧ a ≠ I ∧ a ≠ d) →
      (∀ h' k', h'.DictOf (intKind prog w) d kvs → (∀ b o, b ≠ I → b ≠ d → s.heap.get? b = some o → h'.get? b = some o) → R (.ok (.ret .none)) { s with heap := h', toks := k' }) →
      codeAny (model prog w) A (.builtin "dict.update.loop" ⟨[.ref d, .ref I, rawInt (i : Int), .none], []⟩) R s := by
  intro k
  induction k with
  | zero =>
    intro i s hk hle hl hit hd ht hR
    have hin : i = kvs.length := by omega
    subst hin
    refine codeAny_builtin dl_entry ?_
    rw [Around.under_plainId dl_plain _]
    show wpAny _ A.in1 (pyNext (.ref I) >>= _) _ _ s
    refine wpAny_bind (wpAny_pyNext_list_end hh hit hl (by simp [hlen]) fun h' he => ?_)
    refine wpAny_bind (wpAny_pure ?_)
    rw [List.take_length] at hd
    refine wpAny_pure (hR h' _ ?_ fun b o hb _ e => he b o hb e)
    exact hd.extBut he (Ne.symm hId)
  | succ k ih =>
    intro i s hk hle hl hit hd ht hR
    have hlt : i < kvs.length := by omega
    obtain ⟨kv, hkv⟩ : ∃ x, kvs[i]? = some x := ⟨kvs[i], List.getElem?_eq_getElem hlt⟩
    obtain ⟨a, n, t, hva, hta, haI, had⟩ := ht i kv hkv
    refine codeAny_builtin dl_entry ?_
    rw [Around.under_plainId dl_plain _]
    show wpAny _ A.in1 (pyNext (.ref I) >>= _) _ _ s
    refine wpAny_bind (wpAny_pyNext_list_item (x := .ref a) hit hl (by simpa using hva) fun h' hit' hs => ?_)
    have hta' : h'.get? a = some (tu [.int kv.1 t, kv.2] n) := (hs.2 a haI).trans hta
    have hT : ({ s with heap := h' } : Shared).TypeIs (.ref a) "tuple" := ⟨_, hta', rfl⟩
    refine wpAny_bind (wpAny_holding ?_)
    refine wpAny_bind (wpAny_tryCatch ?_)
    unfold Builtin.Dict.pairItems
    refine wpAny_bind (wpAny_typeOf hT ?_)
    refine bm_if_true rfl ?_
    refine wpAny_bind (wpAny_seqItems hta' rfl ?_)
    refine wpAny_pure ?_
    show wpAny _ _ (holding [Value.int kv.1 t, kv.2] (dictSet d (.int kv.1 t) kv.2)) _ _ _
    have hd' : h'.DictOf (intKind prog w) d (kvs.take i) := hd.sameBut hs (Ne.symm hId)
    refine wpAny_holding (wpAny_dictSet_pairs (knd := intKind prog w) (k := kv.1) (intKind_is prog w kv.1 t) hd' (fun h2 hd2 hs2 => ?_) (by rw [List.length_take, sizeLine_eq]; omega))
    rw [stored_take hn hkv] at hd2
    refine wpAny_pure ⟨plainId_quiet dl_plain _, ?_⟩
    refine ih (i + 1) { s with heap := h2, toks := _ } (by omega) hlt ?_ ?_ hd2 ?_ fun h3 k' hd3 hk3 => ?_
    · exact (hl.extBut hs.extBut hlI).extBut hs2.extBut hld
    · exact hit'.extBut hs2.extBut hId
    · intro j kv' hj
      obtain ⟨a', n', t', e1, e2, e3, e4⟩ := ht j kv' hj
      exact ⟨a', n', t', e1, (hs2.2 a' e4).trans ((hs.2 a' e3).trans e2), e3, e4⟩
    · exact hR h3 k' hd3 fun b o hbI hbd e => hk3 b o hbI hbd ((hs2.2 b hbd).trans ((hs.2 b hbI).trans e))
theorem call_dict_list {l : Addr} {vs : List Value} {nl : Nat} {kvs : List (Int × Value)} {Q : Value → Shared → Prop} (hh : A.handled = none) (hn : (kvs.map (·.1)).Nodup) (hlen : vs.length = kvs.length) (hz : kvs.length ≤ 100000) (hl : s.heap.get? l = some (lo vs nl))
    (ht : ∀ (j : Nat) (kv : Int × Value), kvs[j]? = some kv → ∃ (a : Addr) (n : Nat) (t : Tok), vs[j]? = some (Value.ref a) ∧ s.heap.get? a = some (tu [.int kv.1 t, kv.2] n))
    (hQ : ∀ h' k', h'.DictOf (intKind prog w) s.heap.objs.size kvs → s.heap.StaysIn h' → Q (.ref s.heap.objs.size) { s with heap := h', toks := k' }) : wpAny (model prog w) A (call (.type "dict") [.ref l]) Q E s := by
  refine callType_codes (Q₁ := fun obj s₁ => obj = .ref s.heap.objs.size ∧ s₁ = { s with heap := s.heap.push { cls := .type "dict", data := .dict #[] } }) F.kt_called_dict (F.kt_typeCall_dict_1 _) F.entry_dict_init (kt_code_dict_new _ ⟨rfl, rfl⟩) ?_
  rintro obj s₁ ⟨rfl, rfl⟩
  have hnew : (s.heap.push { cls := .type "dict", data := .dict #[] }).DictOf (intKind prog w) s.heap.objs.size [] := Heap.DictOf.new s.heap
  refine ⟨hnew.typeIs, F.args_dict_init_2 _ _, ?_⟩
  have hl' : (s.heap.push { cls := .type "dict", data := .dict #[] }).get? l = some (lo vs nl) := Heap.get?_push_of_some _ hl
  unfold Builtin.«dict.__init__»
  refine wpAny_bind ?_
  unfold Builtin.Dict.selfAndRest
  refine wpAny_bind (wpAny_notOrdered_dict hnew.typeIs ?_)
  show wpAny _ _ (pure (s.heap.objs.size, [Value.ref l])) _ _ _
  refine wpAny_pure ?_
  show wpAny _ _ (Builtin.Dict.updateFrom "dict.__init__" s.heap.objs.size (.ref l) [] .none) _ _ _
  unfold Builtin.Dict.updateFrom
  refine wpAny_bind (wpAny_typeOf (isList_of hl').typeIs ?_)
  refine bm_if_true (by decide) ?_
  refine wpAny_bind (no_keys hl' hh fun h1 tk1 st1 => ?_)
  refine bm_if_true rfl ?_
  refine wpAny_bind (wpAny_rule ?_)
  have hl1 := st1 _ _ hl'
  refine wpAny_bind (wpAny_pyIter_list (isList_of hl1) ?_)
  have st2 : s.heap.StaysIn (h1.push { cls := .type "list_iterator", data := .fields #[.ref l, .int 0 0] }) := fun b o e => Heap.get?_push_of_some _ (st1 _ _ (Heap.get?_push_of_some _ e))
  have hds : s.heap.objs.size < h1.objs.size := by
    obtain ⟨o, _, _, ho, _⟩ := hnew.keep st1
    exact Heap.lt_size ho
  have hll : l < s.heap.objs.size := Heap.lt_size hl
  refine wpAny_pure ⟨plainId_quiet dl_plain _, ?_⟩
  refine dl_loop (A := A.in1) (R := wants (fun r s₂ => r = Value.none ∧ Q (Value.ref s.heap.objs.size) s₂) E) (vs := vs) (kvs := kvs) hh hn hlen hz (l := l) (I := h1.objs.size) (d := s.heap.objs.size) (Nat.ne_of_gt hds) (Nat.ne_of_lt (Nat.lt_trans hll hds)) (Nat.ne_of_lt hll) kvs.length 0 { s with heap := h1.push { cls := .type "list_iterator", data := .fields #[.ref l, .int 0 0] }, toks := tk1 } (by omega) (by omega) ((isList_of hl1).push _) ⟨_, Heap.get?_push_size _ rfl, rfl, rfl⟩ ?_ ?_ fun h' k' hd' hk => ?_
  · exact (hnew.keep st1).push _
  · intro j kv hj
    obtain ⟨a, n, t, e1, e2⟩ := ht j kv hj
    have := Heap.lt_size e2
    exact ⟨a, n, t, e1, st2 _ _ e2, Nat.ne_of_lt (Nat.lt_trans this hds), Nat.ne_of_lt this⟩
  · exact ⟨rfl, hQ h' k' hd' fun b o e => hk b o (Nat.ne_of_lt (Nat.lt_trans (Heap.lt_size e) hds)) (Nat.ne_of_lt (Heap.lt_size e)) (st2 _ _ e)⟩
end
end Mine
end

section
open PySem PySem.W PySem.Calls PyProof.Rows PySem.Spec PySem.SeqAt
set_option Elab.async false
set_option linter.unusedVariables false
set_option linter.unusedSimpArgs false
set_option linter.deprecated false
set_option maxRecDepth 100000
namespace Mine
/-- the table of the worths -/
def WT (kvs : List (Int × Value)) : Prop := kvs.length = 64 ∧ ∀ (j : Nat) (kv : Int × Value), kvs[j]? = some kv → kv.1 = ((alpha.getD j 0 : Nat) : Int) ∧ ∃ u, kv.2 = .int (j : Int) u
theorem alpha_len : alpha.length = 64 := by decide
theorem alpha_nodup : alpha.Nodup := by decide
theorem WT.nodup {kvs : List (Int × Value)} (h : WT kvs) : (kvs.map (·.1)).Nodup := by
  have e : kvs.map (·.1) = alpha.map fun n : Nat => (n : Int) := by
    apply List.ext_getElem?
    intro j
    by_cases hj : j < 64
    · have h1 : j < kvs.length := by rw [h.1]; exact hj
      obtain ⟨e, _⟩ := h.2 j _ (List.getElem?_eq_getElem h1)
      have h2 : j < alpha.length := by rw [alpha_len]; exact hj
      rw [List.getElem?_map, List.getElem?_map, List.getElem?_eq_getElem h1, List.getElem?_eq_getElem h2]
      simp only [Option.map_some]
      rw [e, List.getD_eq_getElem?_getD, List.getElem?_eq_getElem h2]; rfl
    · rw [List.getElem?_map, List.getElem?_map, List.getElem?_eq_none (by rw [h.1]; omega), List.getElem?_eq_none (by rw [alpha_len]; omega)]
      rfl
  rw [e, List.Nodup, List.pairwise_map]
  exact alpha_nodup.imp fun h1 h2 => h1 (by omega)
theorem valueAt_of {kvs : List (Int × Value)} (hn : (kvs.map (·.1)).Nodup) {j : Nat} {kv : Int × Value} (h : kvs[j]? = some kv) : valueAt kvs kv.1 = some kv.2 := by
  unfold valueAt
  obtain ⟨hj, e⟩ := List.getElem?_eq_some_iff.mp h
  cases hf : kvs.find? (fun x => decide (x.1 = kv.1)) with
  | none =>
    have := List.find?_eq_none.mp hf kv (List.mem_of_getElem? h)
    simp at this
  | some x =>
    have h1 := List.find?_some hf
    have h2 := List.mem_of_find?_eq_some hf
    obtain ⟨i, hi, ei⟩ := List.getElem_of_mem h2
    have h3 : x.1 = kv.1 := of_decide_eq_true h1
    have h4 : (kvs.map (·.1))[i]'(by simpa using hi) = (kvs.map (·.1))[j]'(by simpa using hj) := by simp [ei, e, h3]
    have := (List.getElem_inj hn).mp h4
    subst this
    rw [ei] at e
    rw [e]; rfl
/-- a table of worths that stands -/
def sW (prog : Program) (w : World) : Sp := .hp (fun v h => ∃ d kvs, v = .ref d ∧ h.DictOf (intKind prog w) d kvs ∧ (d == sysModules) = false ∧ WT kvs) fun v h h' k ⟨d, kvs, e, hd, r⟩ => ⟨d, kvs, e, hd.keep k, r⟩
section
variable {X : Fx} {m : Str → Option Value} {N : List (Addr × Obj)}
/-- return dict([pair for x in range(n)]) -/
theorem Go.retDict {rest : List Stmt} {de elt iter : Expr} {x : Str} {px pos cp rp : Pos} {scope : Scope} {n : Nat} {kf : Nat → Int} {vf : Nat → Int} (cl : List (Str × Addr)) (hA : X.A.handled = none) (hnl : X.h0.NoLimit)
    (hd : Ev X m N de (sV (.type "dict"))) (hit : Ev X m N iter (sR 0 ((n : Nat) : Int) 1)) (hn : n ≤ 1000)
    (helt : ∀ C i v m', i < n → (∃ t, v = .int (i : Int) t) → m' x = some v → Ev (X.comp scope cl C { objs := #[] }) m' N elt (nU fun vs => ∃ t u, vs = [.int (kf i) t, .int (vf i) u]))
    (hnd : ∀ i j, i < n → j < n → kf i = kf j → i = j)
    (sp : Sp) (hsp : ∀ h kvs d h', h'.DictOf (intKind X.prog X.w) d kvs → (d == sysModules) = false → kvs.length = n → (∀ (j : Nat) (kv : Int × Value), kvs[j]? = some kv → kv.1 = kf j ∧ ∃ u, kv.2 = .int (vf j) u) → sp.Is h (.ref d) h')
    (hclos : closureFor scope X.env = pure cl) (hcell : ∀ y ∈ scope.names, y.2 ≠ .cell) (hnames : ∀ y ∈ scope.names, y.2 = .local → scope.names.lookup y.1 = some .local)
    (hp : [Expr.ListComp elt [⟨.Name x px, iter, [], 0⟩] scope pos].all plainE = true := by rfl)
    (he : eval (.Call de [.ListComp elt [⟨.Name x px, iter, [], 0⟩] scope pos] [] cp) X.env = (do callWith cp (← eval de X.env) [] (backTo cp (starEach [.ListComp elt [⟨.Name x px, iter, [], 0⟩] scope pos] X.env)) (backToKw cp (keywordEach [] X.env))) := by rfl)
    (hkind : scope.kind = .function := by rfl) (hx : scope.names.lookup x = some .local := by rfl) (hs : ∀ v, foldedSetIterable iter X.env v = pure v := by intro _; rfl) :
    Go X m N (.Return (some (.Call de [.ListComp elt [⟨.Name x px, iter, [], 0⟩] scope pos] [] cp)) rp :: rest) (Mine.retZ X sp) := by
  intro Q E s hst q qe
  refine wpAny_execs_cons (wpAny_Return_some (Call_ (hd _ _ s hst fun v h1 tk1 st1 hv => ?_) he))
  have hv : v = .type "dict" := hv
  subst hv
  have S1 := hst.stay st1
  refine callWith_of (P := fun _ => True) (by rw [starEach_plain hp]; rfl) (fun _ _ => ⟨.machine, .inr (.inl rfl), Looks.of_pure rfl⟩) ?_
  rw [starEach_plain hp]
  refine evalArgs_plain (Calls.spliced_cons (LCg.ListComp_U S1.fr hclos hcell hkind hnames hx ?_ hs))
  refine hit _ _ _ S1 fun v h2 tk2 st2 ⟨r, t1, t2, t3, hv, hr⟩ => ?_
  subst hv
  have S2 := S1.stay st2
  have hsz : Builtin.Range.rangeSize 0 ((n : Nat) : Int) 1 = n := by
    unfold Builtin.Range.rangeSize
    rw [if_pos (by decide)]
    split
    · rw [Int.ediv_one]; omega
    · omega
  refine LCg.CompSrc.range (n := n) (news := N) hA S2.fr S2.nw hr ?_ hsz (by rw [sizeLine_eq]; omega) fun g => ?_
  · unfold Builtin.Range.small
    rw [hsz]
    simp [Builtin.Range.rangeFitsLong]
    omega
  have key : ∀ (k i : Nat) (ys : List Value) (news : List (Addr × Obj)), i + k = n → (∀ p ∈ N, p ∈ news) → ys.length = i → (∀ j, j < i → ∃ (a : Addr) (nn : Nat) (t u : Tok), ys[j]? = some (Value.ref a) ∧ (a, tu [.int (kf j) t, .int (vf j) u] nn) ∈ news) →
      LCg.CompRest X.prog X.w X.A X.h0 X.env.locals m X.env elt x scope cl { s with heap := g, toks := tk2 } (fun _ => True) (fun i v => ∃ t, v = .int ((0 : Int) + (i : Int)) t) (LCg.FinE X.h0 X.env.locals m { s with heap := g, toks := tk2 } (fun v s₁ => wpAny X.M X.A (spliced []) (fun vs s₂ => True ∧ wpAny X.M X.A (call (.type "dict") ([] ++ (⟨v :: vs, []⟩ : Args).pos) (⟨v :: vs, []⟩ : Args).kw) (fun v => Q (.ret v)) E s₂) E s₁)) k i ys news := by
    intro k
    induction k with
    | zero =>
      intro i ys news hik hN hlen hys
      refine LCg.CompRest.zero ?_
      intro D h tk F NW off
      refine Calls.spliced_nil ⟨trivial, ?_⟩
      show wpAny X.M X.A (call (.type "dict") [.ref D]) _ _ _
      have hi : i = n := by omega
      subst hi
      -- the pairs, chosen
      have hch : ∀ j, ∃ kv : Int × Value, j < i → ∃ (a : Addr) (nn : Nat) (t u : Tok), ys[j]? = some (Value.ref a) ∧ kv = (kf j, .int (vf j) u) ∧ h.get? a = some (tu [.int (kf j) t, .int (vf j) u] nn) := by
        intro j
        by_cases hj : j < i
        · obtain ⟨a, nn, t, u, e1, e2⟩ := hys j hj
          exact ⟨(kf j, .int (vf j) u), fun _ => ⟨a, nn, t, u, e1, rfl, (NW _ (.tail _ e2)).1⟩⟩
        · exact ⟨(0, .none), fun h => absurd h hj⟩
      obtain ⟨kvf, hkvf⟩ := Classical.axiomOfChoice hch
      have hget : ∀ (j : Nat) (kv : Int × Value), ((List.range i).map kvf)[j]? = some kv → j < i ∧ kv = kvf j := by
        intro j kv e
        obtain ⟨hj, e⟩ := List.getElem?_eq_some_iff.mp e
        simp at hj e
        exact ⟨hj, e.symm⟩
      have hkk : ∀ j, j < i → (kvf j).1 = kf j := fun j hj => by
        obtain ⟨a, nn, t, u, _, e2, _⟩ := hkvf j hj
        rw [e2]
      refine call_dict_list (kvs := (List.range i).map kvf) hA ?_ (by simp [hlen]) (by simp; omega) (NW _ (.head _)).1 ?_ fun h' k' hd' st' => ?_
      · rw [List.map_map, List.Nodup, List.pairwise_map]
        refine List.Pairwise.imp_of_mem ?_ (List.nodup_range (n := i))
        intro a b ha hb hne e
        have ha := List.mem_range.mp ha
        have hb := List.mem_range.mp hb
        simp only [Function.comp] at e
        rw [hkk a ha, hkk b hb] at e
        exact hne (hnd a b ha hb e)
      · intro j kv e
        obtain ⟨hj, rfl⟩ := hget j kv e
        obtain ⟨a, nn, t, u, e1, e2, e3⟩ := hkvf j hj
        exact ⟨a, nn, t, e1, by rw [e2]; exact e3⟩
      · have S' : St X m N h' := ⟨F.keeps st', fun p hp => ⟨st' _ _ (NW _ (.tail _ (hN p hp))).1, (hst.nw p hp).2⟩, hst.nd⟩
        refine q (.ret _) m N h' k' S' (hsp _ _ _ _ hd' ?_ (by simp) fun j kv e => ?_)
        · have h4 : X.h0.StaysIn h := F.keep
          have h5 := modules_low (hnl.keeps h4)
          exact beq_eq_false_iff_ne.mpr (Nat.ne_of_gt h5)
        · obtain ⟨hj, rfl⟩ := hget j kv e
          obtain ⟨a, nn, t, u, _, e2, _⟩ := hkvf j hj
          rw [e2]
          exact ⟨rfl, u, rfl⟩
    | succ k ih =>
      intro i ys news hik hN hlen hys
      refine LCg.CompRest.succ fun v I oI C oC D m₂ h tk E' ⟨t, hv⟩ hC hm F NW off hne => ?_
      have hCe := (NW (C, oC) (.tail _ (.head _))).1
      have S3 : St (X.comp scope cl C { objs := #[] }) m₂ N h := ⟨⟨LCg.NsObj.ns hC hCe, (fun b o e => by simp [Heap.get?] at e), Nat.zero_le _⟩, fun p hp => ⟨(NW _ (.tail _ (.tail _ (.tail _ (hN p hp))))).1, (off.mem p (hN p hp)).2.1, by simp [Heap.get?]⟩, hst.nd⟩
      refine helt C i v m₂ (by omega) ⟨t, by rw [hv]; simp⟩ hm _ _ { s with heap := h, toks := tk } S3 fun y h' tk' st' hy => ?_
      obtain ⟨a, o, rfl, e1, e2, vs, nn, rfl, tt, u, rfl⟩ := hy
      refine LCg.CompEnd.intro (all := (a, tu [.int (kf i) tt, .int (vf i) u] nn) :: (I, oI) :: (C, oC) :: (D, LCg.lst ys) :: news) (F.keeps st') (fun p hp => ?_) ((a, tu [.int (kf i) tt, .int (vf i) u] nn) :: news) (fun p hp => ?_) (LCg.Off3.of fun p hp => ?_) trivial (ih (i + 1) _ _ (by omega) (fun p hp => .tail _ (hN p hp)) (by simp [hlen]) fun j hj => ?_)
      · rcases List.mem_cons.mp hp with rfl | hp
        · obtain ⟨oL, _, _, hL, _⟩ := F.ns
          exact ⟨e2, fun e => (by have e : a = X.env.locals := e; subst e; rw [hL] at e1; cases e1), none_of_stays F.keep e1⟩
        · exact ⟨st' _ _ (NW p hp).1, (NW p hp).2⟩
      · rcases List.mem_cons.mp hp with rfl | hp
        · exact .tail _ (.head _)
        rcases List.mem_cons.mp hp with rfl | hp
        · exact .tail _ (.tail _ (.head _))
        rcases List.mem_cons.mp hp with rfl | hp
        · exact .tail _ (.tail _ (.tail _ (.head _)))
        rcases List.mem_cons.mp hp with rfl | hp
        · exact .head _
        · exact .tail _ (.tail _ (.tail _ (.tail _ hp)))
      · rcases List.mem_cons.mp hp with rfl | hp
        · have h1 := (NW (I, oI) (.head _)).1
          have h3 := (NW (D, LCg.lst ys) (.tail _ (.tail _ (.head _)))).1
          refine ⟨fun e => ?_, fun e => ?_, fun e => ?_⟩
          · have e : a = I := e; subst e; rw [h1] at e1; cases e1
          · have e : a = C := e; subst e; rw [hCe] at e1; cases e1
          · have e : a = D := e; subst e; rw [h3] at e1; cases e1
        · exact off.mem p hp
      · by_cases hji : j < i
        · obtain ⟨a', nn', t', u', g1, g2⟩ := hys j hji
          exact ⟨a', nn', t', u', by rw [List.getElem?_append_left (by omega)]; exact g1, .tail _ g2⟩
        · have : j = i := by omega
          subst this
          exact ⟨a, nn, tt, u, by rw [List.getElem?_append_right (by omega), hlen, Nat.sub_self]; rfl, .head _⟩
  exact key n 0 [] N (by omega) (fun p hp => hp) rfl fun j hj => absurd hj (by omega)
end
end Mine
end

section
open PySem PySem.W PySem.Calls PyProof.Rows PySem.Spec PySem.SeqAt
set_option Elab.async false
set_option linter.unusedVariables false
set_option linter.unusedSimpArgs false
set_option linter.deprecated false
set_option maxRecDepth 100000
namespace Mine
def gw (l : List Nat) : List Nat := (List.range (l.length + 1)).map fun i => gcN l / 2 ^ (6 * (l.length - i)) % 64
theorem gc_gw {l : List Nat} : gc l = (gw l).map fun k => alpha.getD k 0 := by simp [gc, gw, List.map_map, Function.comp_def]
theorem gw_lt {l : List Nat} : ∀ k ∈ gw l, k < 64 := by
  intro k hk
  obtain ⟨i, _, rfl⟩ := List.mem_map.mp hk
  exact Nat.mod_lt _ (by decide)
def tot6 (l : List Nat) : Nat := l.foldl (fun t c => 64 * t + c) 0
theorem tot6_take {l : List Nat} {i c : Nat} (h : l[i]? = some c) : tot6 (l.take (i + 1)) = 64 * tot6 (l.take i) + c := by
  rw [List.take_add_one, h]
  simp [tot6, List.foldl_append]
section
variable {X : Fx} {m : Str → Option Value} {N : List (Addr × Obj)} {Z : Zt} {rest : List Stmt}
theorem Go.drop {ss : List Stmt} {a : Addr} {o : Obj} (h : Go X m N ss Z) : Go X m ((a, o) :: N) ss Z := fun Q E s hs q qe =>
  h Q E s ⟨hs.fr, fun p hp => hs.nw p (.tail _ hp), (List.nodup_cons.mp hs.nd).2⟩ q qe
/-- return of a list of ours -/
theorem Go.retNew {x : Str} {p1 pos : Pos} {a : Addr} {vs : List Value} {n : Nat} {P : List Value → Prop} (hx : m x = some (.ref a)) (hm : (a, lo vs n) ∈ N) (hP : P vs) (hk : X.env.scope.kind = .function := by rfl) (hl : X.env.kindOf x = some .local := by rfl)
    (hd : (x == ("__debug__" : Str)) = false := by decide) : Go X m N (.Return (some (.Name x p1)) pos :: rest) (Mine.retZ X (nL P)) :=
  Go.ret (Ev.name hx hk hl hd) fun h v h' hs st hv => ⟨a, lo vs n, hv, (hs.nw _ hm).2.2, (hs.stay st).get hm, vs, n, rfl, hP⟩
theorem c_notInW {prog : Program} {w : World} {d : Addr} {kvs : List (Int × Value)} {c k : Nat} (hp : X.prog = prog) (hw : X.w = w) (hd : X.h0.DictOf (intKind prog w) d kvs) (hs : (d == sysModules) = false) (hW : WT kvs) (hk : k < 64) (hc : alpha.getD k 0 = c) : CmS X m N .NotIn (sI (c : Int)) (sV (.ref d)) false := by
  subst hp hw
  rintro h0 x y h st S ⟨t, rfl⟩ e2 Q E s e q
  have e2 : y = _ := e2
  subst e e2
  refine wpAny_notIn_of (knd := intKind X.prog X.w) (k := (c : Int)) (intKind_is _ _ _ t) hs (hd.keep S.base).mapOf ?_
  have hkl : k < kvs.length := by rw [hW.1]; exact hk
  obtain ⟨e1, _⟩ := hW.2 k _ (List.getElem?_eq_getElem hkl)
  have := valueAt_of hW.nodup (List.getElem?_eq_getElem hkl)
  rw [e1, hc] at this
  rw [this]
  exact q _ s.heap _ (stays_refl _) rfl
theorem Ev.wtI {value slice : Expr} {pos : Pos} {d : Addr} {kvs : List (Int × Value)} {c k : Nat} (h1 : Ev X m N value (sV (.ref d))) (h2 : Ev X m N slice (sI (c : Int))) (hd : X.h0.DictOf (intKind X.prog X.w) d kvs) (hW : WT kvs) (hk : k < 64) (hc : alpha.getD k 0 = c)
    (hs : ∀ a c d, subscripted slice false (Value.ref a) (Value.int c d) = operate [Value.ref a, Value.int c d] (getItem (.ref a) (Value.int c d)) := by intro _ _ _; rfl)
    (ht : ∀ a r, letTemporaryGo value (.ref a) r = pure () := by intro _ _; rfl) : Ev X m N (.Subscript value slice pos) (sI (k : Int)) := by
  intro Q E s hst q
  refine Subscript_ (h1 _ _ s hst fun o h1 tk1 st1 ho => h2 _ _ _ (hst.stay st1) fun i h2 tk2 st2 ⟨t, hi⟩ => ?_)
  have ho : o = .ref d := ho
  subst ho hi
  have S2 := (hst.stay st1).stay st2
  have hd' := hd.keep S2.base
  have hkl : k < kvs.length := by rw [hW.1]; exact hk
  obtain ⟨e1, u, e3⟩ := hW.2 k _ (List.getElem?_eq_getElem hkl)
  have h3 := valueAt_of hW.nodup (List.getElem?_eq_getElem hkl)
  rw [e1, hc, e3] at h3
  refine tail_of_ItemOn ⟨"dict", _, slot_dict_getitem.lookup, hd'.typeIs, wpAny_getItem_of (knd := intKind X.prog X.w) (k := (c : Int)) (intKind_is _ _ _ t) hd'.mapOf h3 ?_⟩ (hs _ _ _) (ht _)
  exact q _ h2 _ (stays_trans st1 st2) ⟨u, rfl⟩
end
section
variable {prog : Program} {w : World} {mg mb : Str → Option Value} {c : Nat} {t u x : Tok} {l p q : List Nat} {lv : Nat}
theorem f_worth : Fn prog w (Wd (KK w) mg mb) 1 71 [.bytes (bx alpha) u] (sW prog w) := by
  refine Fn.introC (K := KK w) (fun L => [("alphabet", L + 1)]) rfl rfl rfl Wd.kn rfl rfl (by intro; rfl) (by intro L; exact (by decide : (["alphabet"] : List Str).Nodup)) (by intro; rfl) (fun A h0 L os hA hW hos => ?_)
  obtain ⟨o1, rfl, d1⟩ := hos.one
  have d1 : o1.data = .cell (some (.bytes (bx alpha) u)) := d1
  refine Go.retDict (n := 64) (kf := fun j => ((alpha.getD j 0 : Nat) : Int)) (vf := fun j => (j : Int)) [("alphabet", L + 1)] hA.hd hW.nl (g_dict hW) (Ev.t1 (g_range hW) (Ev.i (Ev.b1 (g_len hW) ((Ev.cell (c := L + 1) rfl (.head _) d1).wk fun v e => ⟨_, e⟩) (k_lenY (by decide))) (by rw [alpha_len])) k_range1) (by decide)
    (fun C i v m' hi ⟨t, hv⟩ hm => ?_) ?_ (sW prog w) (fun h kvs d h' hd hs hl hk => ⟨d, kvs, rfl, hd, hs, hl, hk⟩) rfl (by decide) (by decide)
  · subst hv
    refine Ev.tuple (sps := [sI ((alpha.getD i 0 : Nat) : Int), sI (i : Int)]) ⟨Ev.bytI (l := alpha) ((Ev.cell (c := L + 1) rfl (.head _) d1).wk fun v e => ⟨_, e⟩) (Ev.nameI hm) (by rw [alpha_len]; exact hi) (by decide) alpha_lt, Ev.nameI hm, trivial⟩ fun h vs h' hv => ?_
    match vs, hv with
    | [v, u], hv =>
      obtain ⟨⟨t1, e1⟩, ⟨t2, e2⟩, _⟩ := hv
      exact ⟨t1, t2, by rw [e1, e2]⟩
  · intro i j hi hj e
    have e : alpha.getD i 0 = alpha.getD j 0 := by have : ((alpha.getD i 0 : Nat) : Int) = ((alpha.getD j 0 : Nat) : Int) := e; omega
    have hi' : i < alpha.length := by rw [alpha_len]; exact hi
    have hj' : j < alpha.length := by rw [alpha_len]; exact hj
    rw [List.getD_eq_getElem?_getD, List.getD_eq_getElem?_getD, List.getElem?_eq_getElem hi', List.getElem?_eq_getElem hj'] at e
    exact (List.getElem_inj alpha_nodup).mp e
theorem f_numbers {v : Value} (ks : List Nat) (hk : ∀ k ∈ ks, k < 64) (hl : ks.length ≤ 10000) : Fn prog w (fun h => Wd (KK w) mg mb h ∧ (sW prog w).Is h v h) 1 95 [.bytes (bx (ks.map fun k => alpha.getD k 0)) t, v] (nL (Lst fI ks)) := by
  refine Fn.intro (K := KK w) rfl rfl rfl (fun h hh => hh.1.kn) rfl rfl (by decide) (fun A h0 L hA hW => ?_)
  obtain ⟨hW, d, kvs, rfl, hd, hsys, hwt⟩ := hW
  have hb : ∀ n ∈ ks.map (fun k => alpha.getD k 0), n < 256 := by
    intro n hn
    obtain ⟨k, hk', rfl⟩ := List.mem_map.mp hn
    have := hk k hk'
    rw [List.getD_eq_getElem?_getD, List.getElem?_eq_getElem (by rw [alpha_len]; exact this)]
    exact alpha_lt _ (List.getElem_mem _)
  refine Go.assignN Ev.nilL fun a o ⟨vs, n, ho, hvs⟩ => ?_
  subst ho hvs
  refine Go.loop (n := ks.length) (P := fun i v => i < ks.length ∧ ∃ t, v = .int ((0 : Int) + (i : Int)) t) (fun i m N => ∃ vs n, N = [(a, lo vs n)] ∧ Lst fI (ks.take i) vs ∧ m "worth_row" = some (.ref a) ∧ m "signs" = some (.bytes (bx (ks.map fun k => alpha.getD k 0)) t) ∧ m "worths" = some (.ref d))
    (Ev.t1 (g_range hW) (Ev.b1 (g_len hW) (Ev.nameY rfl) (k_lenY (by simp; omega))) k_range1) (fun h0 v h st hs hv => src_up hv hA.hd st (by omega) (by simp) (by simp; omega)) ⟨[], n, rfl, Lst.nil, rfl, rfl, rfl⟩ (fun i v m1 N1 own hi ⟨_, t1, hv⟩ ⟨vs, n, hN, hvs, h1, h2, h3⟩ hmap => ?_) fun m1 N1 ⟨vs, n, hN, hvs, h1, h2, h3⟩ hmap => ?_
  · subst hN hv
    have hki := hk _ (List.getElem_mem hi)
    have hgd : (ks.map fun k => alpha.getD k 0).getD i 0 = alpha.getD ks[i] 0 := by
      rw [List.getD_eq_getElem?_getD, List.getElem?_map, List.getElem?_eq_getElem hi]; rfl
    refine Go.ite (b := false) (Ts.cmpS (Ev.bytI (i := i) (Ev.nameY (upd_ne h2)) (Ev.i (Ev.nameI upd_self) (by omega)) (by simpa using hi) (by simp; omega) hb) (Ev.name (upd_ne h3)) (c_notInW rfl rfl hd hsys hwt hki hgd.symm)) (fun h => by cases h) fun _ => Go.nilSeq ?_
    refine Go.append (upd_ne h1) (.head _) (Ev.wtI (Ev.name (upd_ne h3)) (Ev.bytI (i := i) (Ev.nameY (upd_ne h2)) (Ev.i (Ev.nameI upd_self) (by omega)) (by simpa using hi) (by simp; omega) hb) hd hwt hki hgd.symm) (by rw [hvs.1]; simp; omega) (fun o' => .head) fun v n' hv => ?_
    refine Go.nil fun h _ => ⟨[(a, lo (vs ++ [v]) n')], rfl, rfl, _, n', rfl, ?_, upd_ne h1, upd_ne h2, upd_ne h3⟩
    rw [List.take_add_one, List.getElem?_eq_getElem hi]
    exact hvs.push hv
  · subst hN
    rw [List.take_length] at hvs
    exact Go.retNew h1 (.head _) hvs
end
end Mine
end

section
open PySem PySem.W PySem.Calls PyProof.Rows PySem.Spec PySem.SeqAt
set_option Elab.async false
set_option linter.unusedVariables false
set_option linter.unusedSimpArgs false
set_option linter.deprecated false
set_option maxRecDepth 100000
namespace Mine
-- b''.join
theorem bj_slot : Slot "bytes" "join" "bytes.join" :=
  .of (owner := "bytes") (n := "join") (by rw [typeLookup_type, builtinLookup_eq_fast]; kernel_rfl) (by decide +kernel) (by decide +kernel) (by decide +kernel)
    (by first | exact .inl (by decide +kernel) | exact .inr (by decide +kernel)) (by rw [isSubtype_type]; kernel_rfl)
theorem bj_type : typeOf (.builtin "bytes.join") = pure (.type "method_descriptor") := by show builtinType _ = _; rw [builtinType_eq_fast]; kernel_rfl
theorem bj_entry : entryFor table "bytes.join" = some Builtin.«bytes.join» := entryFor_of_tree (by kernel_rfl)
theorem bj_owner : Manifest.owners.lookup (String.ofList ['s', 'e', 't', 'y', 'b'].reverse) = some Manifest.sig_bytes := by kernel_rfl
theorem bj_args (a b : Value) : argsOk "bytes.join" ⟨[a, b], []⟩ := by
  unfold argsOk; rw [signature?_of (id := "bytes.join") (n := ['n', 'i', 'o', 'j']) (o := ['s', 'e', 't', 'y', 'b']) (by kernel_rfl) bj_owner]; kernel_rfl
theorem by_plain : PlainAttrs "bytes" :=
  ⟨⟨"bytes.__getattribute__", by rw [typeLookup_type, builtinLookup_eq_fast]; kernel_rfl, by decide +kernel⟩, by rw [typeLookup_type, builtinLookup_eq_fast]; kernel_rfl⟩
theorem joined_nil (parts : List (Array UInt8)) : Builtin.Bytes.joined #[] parts = parts.foldl (· ++ ·) #[] := by
  unfold Builtin.Bytes.joined
  have key : ∀ (l : List (Array UInt8)) (n : Nat) (o : Array UInt8), (l.zipIdx n).foldl (fun out (p : Array UInt8 × Nat) => (if p.2 > 0 then out ++ #[] else out) ++ p.1) o = l.foldl (· ++ ·) o := by
    intro l
    induction l with
    | nil => intro n o; rfl
    | cons a r ih => intro n o; simp only [List.zipIdx_cons, List.foldl_cons]; rw [ih]; simp
  exact key parts 0 #[]
theorem fold_bx (ds : List (List Nat)) : (ds.map bx).foldl (· ++ ·) #[] = bx ds.flatten := by
  have key : ∀ (ds : List (List Nat)) (l : List Nat), (ds.map bx).foldl (· ++ ·) (bx l) = bx (l ++ ds.flatten) := by
    intro ds
    induction ds with
    | nil => intro l; simp
    | cons a r ih => intro l; simp only [List.map_cons, List.foldl_cons]; rw [bx_app, ih]; simp
  exact key ds []
theorem sum_sizes (ds : List (List Nat)) (n : Nat) : (ds.map bx).foldl (· + ·.size) n = n + ds.flatten.length := by
  induction ds generalizing n with
  | nil => simp
  | cons a r ih => simp only [List.map_cons, List.foldl_cons]; rw [ih]; simp [bx_size]; omega
section
variable {prog : Program} {w : World} {A : Around} {E : Value → Shared → Prop} {s : Shared}
theorem bj_letGo : ∀ {l : List (Value × Option Value)} {keep : List Value} {Q : Unit → Shared → Prop}, (∀ p ∈ l, p.2 = none) → Q () s → wpAny (model prog w) A (Builtin.Bytes.joinLetGo l keep) Q E s
  | [], _, _, _, h => wpAny_pure h
  | (x, u) :: r, keep, Q, hl, h => by
    have hu : u = none := hl (x, u) (.head _)
    subst hu
    unfold Builtin.Bytes.joinLetGo
    exact wpAny_bind (wpAny_letGo (bj_letGo (fun p hp => hl p (.tail _ hp)) h))
theorem bj_take {id : String} {b : Array UInt8} {t : Tok} (hid : id = "bytes.join") : Builtin.Bytes.takeBufferQuiet? id (.bytes b t) 0 = pure (some (b, none)) := by
  subst hid
  unfold Builtin.Bytes.takeBufferQuiet? Builtin.Bytes.takeBuffer?
  have e0 : ∀ f, Builtin.Bytes.buffer? "bytes.join" (.bytes b t) f = pure (some b) := by
    intro f
    unfold Builtin.Bytes.buffer?
    rw [KBy.special_eq KBy.look_buffer, KBy.own_buffer, KBy.own_release]
    kernel_rfl
  rw [KBy.special_eq KBy.look_buffer, KBy.own_buffer]
  simp only [pure_bind, e0]
  rfl
set_option maxHeartbeats 2000000 in
theorem call_join_bytes {a : Addr} {vs : List Value} {n : Nat} {t : Tok} {ds : List (List Nat)} {Q : Value → Shared → Prop} (ho : s.heap.get? a = some (lo vs n)) (hv : Lst fY ds vs) (hz : ds.flatten.length ≤ 1000000)
    (hQ : ∀ t k, Q (.bytes (bx ds.flatten) t) { s with toks := k }) : wpAny (model prog w) A (call (.builtin "bytes.join") [.bytes #[] t, .ref a]) Q E s := by
  refine wpAny_call_entry bj_slot (typeIs_bytes _ _ _) bj_entry ?_ (bj_args _ _)
  unfold Builtin.«bytes.join» Builtin.Bytes.joinM
  refine wpAny_bind (wpAny_of_eq (a := (Value.bytes #[] t, Value.ref a)) rfl ?_)
  refine bm_if_true rfl ?_
  refine wpAny_bind ?_
  unfold Builtin.Bytes.joinItems
  refine wpAny_bind (wpAny_typeOf (isList_of ho).typeIs ?_)
  refine bm_if_true rfl (wpAny_pure ?_)
  refine wpAny_bind (wpAny_seqItems ho rfl ?_)
  refine bm_if_true rfl ?_
  have hlen := hv.1
  rcases vs with _ | ⟨x, _ | ⟨x2, r⟩⟩
  · refine wpAny_bind ?_
    generalize hw : ([] : List Value) = vs at ho hv hlen ⊢
    rw [Std.Legacy.Range.forIn_eq_forIn_range']
    have hnum : ∀ i, i < vs.length → ∃ d t, ds[i]? = some d ∧ vs[i]? = some (.bytes (bx d) t) := fun i hi => by
      obtain ⟨d, hd, t, e⟩ := hv.2 i _ (List.getElem?_eq_getElem hi)
      exact ⟨d, t, hd, by rw [List.getElem?_eq_getElem hi, e]⟩
    refine wpAny_forIn_list _ (fun rest b s' => s' = s ∧ ∃ i, i ≤ vs.length ∧ rest = List.range' i (vs.length - i) ∧ b = ((((ds.take i).map bx).toArray : Array (Array UInt8)), (vs.take i).map fun v => (v, (none : Option Value)))) _ ?_ ?_ _ _ ⟨rfl, 0, Nat.zero_le _, ?_, ?_⟩
    · rintro j rest b s' ⟨rfl, i, hi, hrest, rfl⟩
      have hlt : i < vs.length := by
        rcases Nat.lt_or_ge i vs.length with h | h
        · exact h
        · rw [show vs.length - i = 0 by omega] at hrest; simp at hrest
      rw [show vs.length - i = (vs.length - (i + 1)) + 1 by omega, List.range'_succ] at hrest
      obtain ⟨rfl, rfl⟩ := List.cons.inj hrest
      obtain ⟨d, t', hd, hvi⟩ := hnum j hlt
      refine wpAny_bind (wpAny_seqItems ho rfl ?_)
      have hx : vs.toArray.getD j Value.none = .bytes (bx d) t' := by
        have := List.getElem?_eq_some_iff.mp hvi
        obtain ⟨h1, h2⟩ := this
        simp [Array.getD, h1, h2]
      simp only [hx]
      refine bm_if_false ?_ ?_
      · rw [Bool.or_eq_false_iff]
        refine ⟨rfl, List.any_eq_false.mpr fun p hp => ?_⟩
        obtain ⟨v, hv', rfl⟩ := List.mem_map.mp hp
        obtain ⟨k, hk, rfl⟩ := List.getElem_of_mem (List.mem_of_mem_take hv')
        obtain ⟨d2, t2, _, e2⟩ := hnum k hk
        rw [List.getElem?_eq_getElem hk] at e2
        have e2 := Option.some.inj e2
        simp [e2, Value.onHeap]
      refine wpAny_bind (wpAny_holding (wpAny_of_eq (bj_take (id := toString Builtin.Bytes.Kind.bytes.name ++ toString ".join") (by decide +kernel)) ?_))
      refine wpAny_bind (wpAny_seqItems ho rfl ?_)
      refine bm_if_false (by simp) (wpAny_pure ⟨rfl, j + 1, hlt, rfl, ?_⟩)
      rw [List.take_add_one, List.take_add_one, hd, hvi]
      simp
    · rintro b s' ⟨rfl, i, hi, hrest, rfl⟩
      have hin : i = vs.length := by
        rcases Nat.lt_or_ge i vs.length with h | h
        · rw [show vs.length - i = (vs.length - (i + 1)) + 1 by omega, List.range'_succ] at hrest; cases hrest
        · omega
      subst hin
      rw [List.take_length, show ds.take vs.length = ds by rw [hlen]; exact List.take_length]
      refine wpAny_bind ?_
      unfold Builtin.Bytes.payload Builtin.Bytes.payload?
      refine wpAny_bind (wpAny_pure (wpAny_pure ?_))
      have hsum : Builtin.Bytes.tooLong (((ds.map bx).toArray : Array (Array UInt8)).foldl (· + ·.size) ((#[] : Array UInt8).size * (((ds.map bx).toArray : Array (Array UInt8)).size - 1))) = false := by
        have := sum_sizes ds 0
        rw [show (#[] : Array UInt8).size * (((ds.map bx).toArray : Array (Array UInt8)).size - 1) = 0 by simp]
        rw [List.foldl_toArray, this]
        unfold Builtin.Bytes.tooLong
        rw [sizeLine_eq]
        exact decide_eq_false (by omega)
      refine bm_if_false hsum ?_
      have hj : Builtin.Bytes.joined #[] ((ds.map bx).toArray : Array (Array UInt8)).toList = bx ds.flatten := by rw [joined_nil]; exact fold_bx ds
      refine wpAny_bind ?_
      show wpAny _ _ (mkBytes (Builtin.Bytes.joined #[] ((ds.map bx).toArray : Array (Array UInt8)).toList)) _ _ _
      rw [hj]
      refine wpAny_mkBytes ?_ (by rw [bx_size, sizeLine_eq]; omega)
      refine wpAny_bind (wpAny_holding (wpAny_point ?_))
      refine wpAny_bind (bj_letGo (fun p hp => ?_) (wpAny_pure ⟨_, rfl, hQ _ _⟩))
      obtain ⟨v, _, rfl⟩ := List.mem_map.mp hp
      rfl
    · simp [List.range_eq_range']
    · simp
  ·
    obtain ⟨d, hd⟩ : ∃ d, ds = [d] := by
      cases ds with
      | nil => simp at hlen
      | cons d r => cases r with
        | nil => exact ⟨d, rfl⟩
        | cons _ _ => simp at hlen
    subst hd
    obtain ⟨y, hy, t', rfl⟩ := hv.2 0 _ rfl
    simp at hy
    subst hy
    refine wpAny_bind (wpAny_typeOf (typeIs_bytes _ _ _) ?_)
    refine bm_if_true rfl ?_
    refine wpAny_bind (wpAny_rule (wpAny_pure ⟨_, rfl, ?_⟩))
    show Q (Value.bytes (bx d) t') s
    have := hQ t' s.toks
    simpa using this
  · refine wpAny_bind ?_
    generalize hw : x :: x2 :: r = vs at ho hv hlen ⊢
    rw [Std.Legacy.Range.forIn_eq_forIn_range']
    have hnum : ∀ i, i < vs.length → ∃ d t, ds[i]? = some d ∧ vs[i]? = some (.bytes (bx d) t) := fun i hi => by
      obtain ⟨d, hd, t, e⟩ := hv.2 i _ (List.getElem?_eq_getElem hi)
      exact ⟨d, t, hd, by rw [List.getElem?_eq_getElem hi, e]⟩
    refine wpAny_forIn_list _ (fun rest b s' => s' = s ∧ ∃ i, i ≤ vs.length ∧ rest = List.range' i (vs.length - i) ∧ b = ((((ds.take i).map bx).toArray : Array (Array UInt8)), (vs.take i).map fun v => (v, (none : Option Value)))) _ ?_ ?_ _ _ ⟨rfl, 0, Nat.zero_le _, ?_, ?_⟩
    · rintro j rest b s' ⟨rfl, i, hi, hrest, rfl⟩
      have hlt : i < vs.length := by
        rcases Nat.lt_or_ge i vs.length with h | h
        · exact h
        · rw [show vs.length - i = 0 by omega] at hrest; simp at hrest
      rw [show vs.length - i = (vs.length - (i + 1)) + 1 by omega, List.range'_succ] at hrest
      obtain ⟨rfl, rfl⟩ := List.cons.inj hrest
      obtain ⟨d, t', hd, hvi⟩ := hnum j hlt
      refine wpAny_bind (wpAny_seqItems ho rfl ?_)
      have hx : vs.toArray.getD j Value.none = .bytes (bx d) t' := by
        have := List.getElem?_eq_some_iff.mp hvi
        obtain ⟨h1, h2⟩ := this
        simp [Array.getD, h1, h2]
      simp only [hx]
      refine bm_if_false ?_ ?_
      · rw [Bool.or_eq_false_iff]
        refine ⟨rfl, List.any_eq_false.mpr fun p hp => ?_⟩
        obtain ⟨v, hv', rfl⟩ := List.mem_map.mp hp
        obtain ⟨k, hk, rfl⟩ := List.getElem_of_mem (List.mem_of_mem_take hv')
        obtain ⟨d2, t2, _, e2⟩ := hnum k hk
        rw [List.getElem?_eq_getElem hk] at e2
        have e2 := Option.some.inj e2
        simp [e2, Value.onHeap]
      refine wpAny_bind (wpAny_holding (wpAny_of_eq (bj_take (id := toString Builtin.Bytes.Kind.bytes.name ++ toString ".join") (by decide +kernel)) ?_))
      refine wpAny_bind (wpAny_seqItems ho rfl ?_)
      refine bm_if_false (by simp) (wpAny_pure ⟨rfl, j + 1, hlt, rfl, ?_⟩)
      rw [List.take_add_one, List.take_add_one, hd, hvi]
      simp
    · rintro b s' ⟨rfl, i, hi, hrest, rfl⟩
      have hin : i = vs.length := by
        rcases Nat.lt_or_ge i vs.length with h | h
        · rw [show vs.length - i = (vs.length - (i + 1)) + 1 by omega, List.range'_succ] at hrest; cases hrest
        · omega
      subst hin
      rw [List.take_length, show ds.take vs.length = ds by rw [hlen]; exact List.take_length]
      refine wpAny_bind ?_
      unfold Builtin.Bytes.payload Builtin.Bytes.payload?
      refine wpAny_bind (wpAny_pure (wpAny_pure ?_))
      have hsum : Builtin.Bytes.tooLong (((ds.map bx).toArray : Array (Array UInt8)).foldl (· + ·.size) ((#[] : Array UInt8).size * (((ds.map bx).toArray : Array (Array UInt8)).size - 1))) = false := by
        have := sum_sizes ds 0
        rw [show (#[] : Array UInt8).size * (((ds.map bx).toArray : Array (Array UInt8)).size - 1) = 0 by simp]
        rw [List.foldl_toArray, this]
        unfold Builtin.Bytes.tooLong
        rw [sizeLine_eq]
        exact decide_eq_false (by omega)
      refine bm_if_false hsum ?_
      have hj : Builtin.Bytes.joined #[] ((ds.map bx).toArray : Array (Array UInt8)).toList = bx ds.flatten := by rw [joined_nil]; exact fold_bx ds
      refine wpAny_bind ?_
      show wpAny _ _ (mkBytes (Builtin.Bytes.joined #[] ((ds.map bx).toArray : Array (Array UInt8)).toList)) _ _ _
      rw [hj]
      refine wpAny_mkBytes ?_ (by rw [bx_size, sizeLine_eq]; omega)
      refine wpAny_bind (wpAny_holding (wpAny_point ?_))
      refine wpAny_bind (bj_letGo (fun p hp => ?_) (wpAny_pure ⟨_, rfl, hQ _ _⟩))
      obtain ⟨v, _, rfl⟩ := List.mem_map.mp hp
      rfl
    · simp [List.range_eq_range']
    · simp
end
section
variable {X : Fx} {m : Str → Option Value} {N : List (Addr × Obj)}
theorem Ev.joinB {pl : Sem Bool} {e1 e2 : Expr} {apos pos : Pos} {ds : List (List Nat)} (h1 : Ev X m N e1 (sY (bx []))) (h2 : Ev X m N e2 (sL (Lst fY ds))) (hz : ds.flatten.length ≤ 1000000)
    (he : eval (.Call (.Attribute e1 "join" apos) [e2] [] pos) X.env = (do
        let ov ← eval e1 X.env
        standAt apos.atName
        let (f, first) ← holding [ov] (getMethod ov "join" pl)
        callWith pos f first (backTo pos (starEach [e2] X.env)) []) := by rfl) (hp : [e2].all plainE = true := by rfl) : Ev X m N (.Call (.Attribute e1 "join" apos) [e2] [] pos) (sY (bx ds.flatten)) := by
  refine ev_mcall (id := "bytes.join") (sps := [sL (Lst fY ds)]) h1 (fun h0 v h Q E s e hv q => ?_) ⟨h2, trivial⟩ (fun h0 v vs h st hs hv hvs => ?_) hp he
  · obtain ⟨t, rfl⟩ := hv
    exact getMethod_builtin (typeIs_bytes _ _ _) by_plain bj_slot bj_type (fun a e => by cases e) q
  · obtain ⟨t, rfl⟩ := hv
    match vs, hvs with
    | [u], hu =>
      obtain ⟨⟨a, ws, n, rfl, ho, hw⟩, _⟩ := hu
      intro Q E s e q
      subst e
      exact call_join_bytes ho hw hz fun t' k => q _ s.heap k (stays_refl _) ⟨_, rfl⟩
theorem Ev.bytesC {b : List UInt8} {l : List Nat} {k : Nat} {pos : Pos} (h : b.toArray = bx l) : Ev X m N (.Constant (.bytes b) k pos) (sY (bx l)) := by
  intro Q E s hs q
  exact Constant_bytes (q _ s.heap _ (stays_refl _) ⟨_, by rw [h]⟩)
end
end Mine
end

section
open PySem PySem.W PySem.Calls PyProof.Rows PySem.Spec PySem.SeqAt
set_option Elab.async false
set_option linter.unusedVariables false
set_option linter.unusedSimpArgs false
set_option linter.deprecated false
set_option maxRecDepth 100000
namespace Mine
theorem bx_has {l : List Nat} {c : Nat} (hc : c < 256) (hb : ∀ n ∈ l, n < 256) : (bx l).contains ((c : Int).toNat.toUInt8) = decide (c ∈ l) := by
  rw [Bool.eq_iff_iff, decide_eq_true_eq, bx, List.contains_toArray, List.contains_iff_mem]
  simp only [Int.toNat_natCast]
  constructor
  · intro h
    obtain ⟨n, hn, e⟩ := List.mem_map.mp h
    have h1 := hb n hn
    have := congrArg UInt8.toNat e
    simp [Nat.toUInt8, UInt8.toNat_ofNat', Nat.mod_eq_of_lt h1, Nat.mod_eq_of_lt hc] at this
    exact this ▸ hn
  · intro h
    exact List.mem_map.mpr ⟨c, h, rfl⟩
theorem gives_by_in {l : List Nat} {c : Nat} {t u : Tok} (hc : c < 256) (hb : ∀ n ∈ l, n < 256) : Gives (Builtin.«bytes.__contains__» ⟨[.bytes (bx l) t, .int (c : Int) u], []⟩) (.val (.bool (decide (c ∈ l)))) := by
  refine .of_wp fun M A E s Q hq => ?_
  unfold Builtin.«bytes.__contains__»
  refine wpAny_bind (wpAny_of_eq (a := (Value.bytes (bx l) t, [Value.int (c : Int) u])) rfl ?_)
  refine wpAny_bind ?_
  unfold Builtin.Bytes.containsIn
  refine wpAny_bind (wpAny_attempt (wpAny_of_eq (a := (c : Int)) rfl ?_))
  refine wpAny_bind (wpAny_of_eq KBy.buffer_eq ?_)
  refine bm_if_false (by simp only [Bool.or_eq_false_iff, decide_eq_false_iff_not]; omega) ?_
  refine wpAny_pure (wpAny_pure ⟨_, rfl, ?_⟩)
  rw [bx_has hc hb]
  exact hq
section
variable {X : Fx} {m : Str → Option Value} {N : List (Addr × Obj)}
theorem c_inY {l : List Nat} {c : Nat} (hc : c < 256) (hb : ∀ n ∈ l, n < 256) : Cm2 X .In (pI (c : Int)) (pY (bx l)) (decide (c ∈ l)) := by
  rintro _ _ ⟨t, rfl⟩ ⟨u, rfl⟩ Q E s _ q
  exact in_gives (typeIs_bytes s (bx l) u) FB.slot_bytes_contains FB.entry_bytes_contains (FB.args_bytes_contains_2 _ _) (gives_by_in hc hb) (q _ s.heap s.toks (stays_refl _) rfl)
end
theorem list_cases {l : List Nat} (h1 : 1 ≤ l.length) (h2 : l.length ≤ 3) : (∃ a, l = [a]) ∨ (∃ a b, l = [a, b]) ∨ ∃ a b c, l = [a, b, c] := by
  match l, h1, h2 with
  | [a], _, _ => exact .inl ⟨a, rfl⟩
  | [a, b], _, _ => exact .inr (.inl ⟨a, b, rfl⟩)
  | [a, b, c], _, _ => exact .inr (.inr ⟨a, b, c, rfl⟩)
  | _ :: _ :: _ :: _ :: _, _, h => simp at h
theorem gw_tot {l : List Nat} (h1 : 1 ≤ l.length) (h2 : l.length ≤ 3) (hb : ∀ n ∈ l, n < 256) : tot6 (gw l) = gcN l := by
  rcases list_cases h1 h2 with ⟨a, rfl⟩ | ⟨a, b, rfl⟩ | ⟨a, b, c, rfl⟩
  · have := hb a (by simp)
    simp [tot6, gw, gcN, tot, List.range, List.range.loop]; omega
  · have := hb a (by simp); have := hb b (by simp)
    simp [tot6, gw, gcN, tot, List.range, List.range.loop]; omega
  · have := hb a (by simp); have := hb b (by simp); have := hb c (by simp)
    simp [tot6, gw, gcN, tot, List.range, List.range.loop]; omega
def spare (n : Nat) : Nat := 6 * (n + 1) - 8 * n
theorem gcN_div {l : List Nat} : gcN l / 2 ^ spare l.length = tot l := by
  rw [gcN, spare, Nat.mul_div_cancel _ (Nat.pow_pos (by decide))]
theorem gcN_mod {l : List Nat} : gcN l &&& (2 ^ spare l.length - 1) = 0 := by
  rw [Nat.and_two_pow_sub_one_eq_mod, gcN, spare, Nat.mul_mod_left]
theorem tot_bytes {l : List Nat} (h1 : 1 ≤ l.length) (h2 : l.length ≤ 3) (hb : ∀ n ∈ l, n < 256) : ((List.range l.length).map fun i => tot l / 2 ^ (8 * (l.length - 1 - i)) % 256) = l := by
  rcases list_cases h1 h2 with ⟨a, rfl⟩ | ⟨a, b, rfl⟩ | ⟨a, b, c, rfl⟩
  · have := hb a (by simp)
    simp [tot, List.range, List.range.loop]; omega
  · have := hb a (by simp); have := hb b (by simp)
    simp [tot, List.range, List.range.loop]; omega
  · have := hb a (by simp); have := hb b (by simp); have := hb c (by simp)
    simp [tot, List.range, List.range.loop]; omega
theorem gw_len {l : List Nat} : (gw l).length = l.length + 1 := by simp [gw]
section
variable {prog : Program} {w : World} {mg mb : Str → Option Value} {c : Nat} {t u x : Tok} {l p q : List Nat} {lv : Nat}
theorem f_octets {a : Addr} {vs : List Value} {nn : Nat} (h1 : 1 ≤ l.length) (h2 : l.length ≤ 3) (hb : ∀ n ∈ l, n < 256) (hvs : Lst fI (gw l) vs) : Fn prog w (fun h => Wd (KK w) mg mb h ∧ h.get? a = some (lo vs nn)) 1 81 [.ref a] (nU fun vs => ∃ v u, vs = [v, u] ∧ pY (bx l) v ∧ pI ((0 : Nat) : Int) u) := by
  refine Fn.introC (K := KK w) (fun L => [("whole", L + 1)]) rfl rfl rfl (fun h hh => hh.1.kn) rfl rfl (by intro; rfl) (by intro L; exact (by decide : (["whole"] : List Str).Nodup)) (by intro; rfl) (fun A h0 L os hA hW hos => ?_)
  obtain ⟨hW, hget⟩ := hW
  obtain ⟨o1, rfl, d1⟩ := hos.one
  have d1 : o1.data = .cell none := d1
  refine Go.assign (Ev.nat (n := 0)) fun v ⟨t0, hv⟩ => ?_
  subst hv
  have hlen : vs.length = l.length + 1 := by rw [hvs.1, gw_len]
  refine Go.loop (n := vs.length) (P := fun i v => vs[i]? = some v) (fun i m N => ∃ tk, N = [(L + 1, o1)] ∧ m "total" = some (.int ((tot6 ((gw l).take i) : Nat) : Int) tk) ∧ m "worth_row" = some (.ref a)) (Ev.name (upd_ne rfl))
    (fun h0' v h st hs hv => by
      have hv : v = .ref a := hv
      subst hv
      exact src_list (isList_of (st _ _ (hs.base _ _ hget))) hA.hd st (.inl ⟨_, hget⟩)) ⟨t0, rfl, upd_self, rfl⟩ (fun i v m1 N1 own hi hv ⟨tk, hN, g1, g2⟩ hmap => ?_) fun m1 N1 ⟨tk, hN, g1, g2⟩ hmap => ?_
  · subst hN
    obtain ⟨n, hn, tn, rfl⟩ := hvs.2 i v hv
    refine Go.assign (Ev.bin (Ev.bin (Ev.nat (n := 64)) (Ev.nameI (upd_ne g1)) (n_mul (by decide))) (Ev.nameI upd_self) n_add) fun v ⟨t1, hv⟩ => ?_
    subst hv
    refine Go.nil fun h _ => ⟨[(L + 1, o1)], rfl, rfl, t1, rfl, ?_, upd_ne (upd_ne g2)⟩
    rw [tot6_take hn]
    exact upd_self
  · subst hN
    rw [hvs.1, List.take_length, gw_tot h1 h2 hb] at g1
    have hLn : ∀ {m' : Str → Option Value} {N' : List (Addr × Obj)} {X : Fx} {pos : Pos}, X.h0 = h0 → m' "worth_row" = some (.ref a) → X.env.scope.kind = .function → X.env.kindOf "worth_row" = some .local → Ev X m' N' (.Name "worth_row" pos) (sL (Lst fI (gw l))) := fun e hm hk hl => Ev.hname hm (by rw [e]; exact hget) hvs hk hl
    refine Go.assign (Ev.bin (Ev.b1 (g_len hW) (hLn rfl g2 rfl rfl) (k_lenL (n := l.length + 1) (fun vs h => by rw [h.1, gw_len]) (by omega))) (Ev.nat (n := 1)) (n_sub (by omega))) fun v ⟨t1, hv⟩ => ?_
    subst hv
    have en : l.length + 1 - 1 = l.length := by omega
    rw [en]
    refine Go.assign (P := pI ((spare l.length : Nat) : Int)) (Ev.bin (Ev.bin (Ev.nat (n := 6)) (Ev.b1 (g_len hW) (hLn rfl (upd_ne g2) rfl rfl) (k_lenL (n := l.length + 1) (fun vs h => by rw [h.1, gw_len]) (by omega))) (n_mul (by decide))) (Ev.bin (Ev.nat (n := 8)) (Ev.nameI upd_self) (n_mul (by decide))) (n_sub (by omega))) fun v ⟨t2, hv⟩ => ?_
    subst hv
    refine Go.assignCell (P := pI ((tot l : Nat) : Int)) (c := L + 1) rfl (.head _) d1 (Ev.i (Ev.bin (Ev.nameI (upd_ne (upd_ne g1))) (Ev.nameI upd_self) n_shr) (by rw [gcN_div])) (fun o' => .head) fun v o' ⟨t3, hv⟩ hd' => ?_
    subst hv
    refine Go.ret (sp := nU fun vs => ∃ v u, vs = [v, u] ∧ pY (bx l) v ∧ pI ((0 : Nat) : Int) u) (Ev.tuple (sps := [sY (bx l), sI ((0 : Nat) : Int)]) ⟨?_, ?_, trivial⟩ fun h vs h' hv => ?_) fun h v h' hs st hv => Sp.wk hs.base (stays_refl _) hv
    · refine Ev.t1 (g_bytes hW) (Ev.asL (Rn.mono (Ev.comp (n := l.length) (P := fun i v => i < l.length ∧ ∃ t, v = .int ((l.length - 1 - i : Nat) : Int) t) (F := fun v y => ∀ (k : Nat) (tt : Tok), v = .int (k : Int) tt → fI (tot l / 2 ^ (8 * k) % 256) y) (G := fun i y => fI (tot l / 2 ^ (8 * (l.length - 1 - i)) % 256) y)
        [("whole", L + 1)] (Ev.call (sps := [sI (((l.length : Nat) : Int) - 1), sI (-1), sI (-1)]) (g_range hW) keep_typ ⟨Ev.bin (Ev.nameI (upd_ne upd_self)) Ev.int o_sub, Ev.neg (Ev.int (i := 1)), Ev.neg (Ev.int (i := 1)), trivial⟩ (k_range3 (by decide) small_m1))
        (fun h0 v h st hs _ hv => src_down hv hA.hd st (by omega)) (fun C g hg hN i v m' ⟨hi, t, hv⟩ hm => ?_) ?_ (by omega) rfl (by decide) (by decide)) ?_)) (k_bytes hA.hd hb (by omega))
      · subst hv
        refine Ev.wk (P := pI ((tot l / 2 ^ (8 * (l.length - 1 - i)) % 256 : Nat) : Int)) ?_ fun y ⟨u, e⟩ k tt ek => ?_
        · refine Ev.i (Ev.bin (Ev.bin ((Ev.cellv (c := L + 1) (v := .int ((tot l : Nat) : Int) t3) rfl (fun h S => ⟨o', S.base _ _ (hN _ (.head _)), hd'⟩)).wk fun v e => ⟨_, e⟩) (Ev.bin (Ev.nat (n := 8)) (Ev.nameI hm) (n_mul (by decide))) n_shr) (Ev.nat (n := 255)) n_and) ?_
          rw [and255]
        · have : k = l.length - 1 - i := by cases ek; rfl
          subst this
          exact ⟨u, e⟩
      · rintro i v y ⟨hi, t, rfl⟩ hf
        exact hf _ t rfl
      · rintro h v h' hs st ⟨a, o, e1, e2, e3, vs, n, e4, he⟩
        refine ⟨a, o, e1, e2, e3, vs, n, e4, ?_⟩
        have := Lst.each (F := fI) (xs := (List.range l.length).map fun i => tot l / 2 ^ (8 * (l.length - 1 - i)) % 256) he (by simp) fun i v hi hf => ⟨_, by simp [hi], hf⟩
        rwa [tot_bytes h1 h2 hb] at this
    · refine Ev.i (Ev.bin (Ev.nameI (upd_ne (upd_ne g1))) (Ev.bin (Ev.bin (Ev.nat (n := 1)) (Ev.nameI upd_self) (n_shl (by rw [spare]; omega) (by decide))) (Ev.nat (n := 1)) (n_sub (by rw [Nat.one_mul]; exact Nat.pow_pos (by decide)))) n_and) ?_
      rw [Nat.one_mul, gcN_mod]
    · match vs, hv with
      | [v, u], hv => exact ⟨v, u, rfl, hv.1, hv.2.1⟩
end
end Mine
end

section
open PySem PySem.W PySem.Calls PyProof.Rows PySem.Spec PySem.SeqAt
set_option Elab.async false
set_option linter.unusedVariables false
set_option linter.unusedSimpArgs false
set_option linter.deprecated false
set_option maxRecDepth 100000
namespace Mine
abbrev ch (u : List Nat) (i : Nat) : List Nat := cut u (i * 3) (i * 3 + 3)
abbrev nch (u : List Nat) : Nat := (u.length + 2) / 3
def krow (u : List Nat) (i : Nat) : List Nat := ((List.range i).map fun i => gw (ch u i)).flatten
theorem krow_succ {u : List Nat} {i : Nat} : krow u (i + 1) = krow u i ++ gw (ch u i) := by simp [krow, List.range_succ]
theorem pe_krow {u : List Nat} : ∀ {i : Nat}, peI u i = (krow u i).map fun k => alpha.getD k 0
  | 0 => rfl
  | i + 1 => by rw [peI_succ, krow_succ, List.map_append, ← pe_krow, gc_gw]
theorem ch_len {u : List Nat} {i : Nat} : (ch u i).length = min 3 (u.length - i * 3) := by simp [ch, cut]
theorem krow_len {u : List Nat} : ∀ {i : Nat}, i * 3 ≤ u.length → (krow u i).length = i * 4
  | 0, _ => rfl
  | i + 1, h => by
    have := krow_len (u := u) (i := i) (by omega)
    rw [krow_succ, List.length_append, this, gw_len, ch_len]; omega
theorem krow_all {u : List Nat} : (krow u (nch u)).length = u.length + nch u := by
  by_cases h : u.length = 0
  · have : nch u = 0 := by unfold nch; omega
    rw [this, h]; rfl
  · obtain ⟨k, hk⟩ : ∃ k, nch u = k + 1 := ⟨nch u - 1, by unfold nch; omega⟩
    have h3 : k * 3 ≤ u.length := by unfold nch at hk; omega
    rw [hk, krow_succ, List.length_append, krow_len h3, gw_len, ch_len]
    unfold nch at hk; omega
theorem krow_cut {u : List Nat} {i : Nat} (hi : i < nch u) : cut (krow u (nch u)) (i * 4) (i * 4 + 4) = gw (ch u i) := by
  have h3 : i * 3 < u.length := by unfold nch at hi; omega
  have hsplit : ∀ k, i < k → ∃ r, krow u k = krow u i ++ (gw (ch u i) ++ r) ∧ (k = i + 1 → r = []) := by
    intro k
    induction k with
    | zero => intro h; omega
    | succ k ih =>
      intro h
      by_cases hk : k = i
      · subst hk
        exact ⟨[], by rw [krow_succ, List.append_nil], fun _ => rfl⟩
      · obtain ⟨r, hr, _⟩ := ih (by omega)
        exact ⟨r ++ gw (ch u k), by rw [krow_succ, hr]; simp, fun e => absurd e (by omega)⟩
  obtain ⟨r, hr, hr0⟩ := hsplit (nch u) hi
  rw [hr, cut, List.drop_left' (krow_len (by omega))]
  rw [show i * 4 + 4 - i * 4 = 4 by omega]
  by_cases hf : i * 3 + 3 ≤ u.length
  · have : (gw (ch u i)).length = 4 := by rw [gw_len, ch_len]; omega
    rw [List.take_left' this]
  · have hlast : nch u = i + 1 := by unfold nch at *; omega
    rw [hr0 hlast, List.append_nil, List.take_of_length_le]
    rw [gw_len, ch_len]; omega
theorem ch_flat {u : List Nat} : ∀ {i : Nat}, ((List.range i).map fun i => ch u i).flatten = u.take (i * 3)
  | 0 => by simp
  | i + 1 => by
    have := ch_flat (u := u) (i := i)
    rw [List.range_succ, List.map_append, List.flatten_append, this]
    simp only [List.map_cons, List.map_nil, List.flatten_cons, List.flatten_nil, List.append_nil, ch, cut, Nat.add_sub_cancel_left]
    rw [show (i + 1) * 3 = i * 3 + 3 by omega, List.take_add]
theorem AllIs.two {a b : Sp} {h h' : Heap} : ∀ {vs : List Value}, AllIs [a, b] h vs h' → ∃ v u, vs = [v, u] ∧ a.Is h v h' ∧ b.Is h u h'
  | [v, u], hv => ⟨v, u, rfl, hv.1, hv.2.1⟩
theorem AllIs.one {a : Sp} {h h' : Heap} : ∀ {vs : List Value}, AllIs [a] h vs h' → ∃ v, vs = [v] ∧ a.Is h v h'
  | [v], hv => ⟨v, rfl, hv.1⟩
section
variable {prog : Program} {w : World} {mg mb : Str → Option Value} {c : Nat} {t y x : Tok} {u l p q : List Nat} {lv : Nat}
set_option maxHeartbeats 1000000 in
theorem f_decoded (hl : u.length ≤ 1000) (hb : ∀ n ∈ u, n < 256) : Fn prog w (Wd (KK w) mg mb) 2 102 [.bytes (bx (pe u)) t, .bytes (bx alpha) y] (sY (bx u)) := by
  refine Fn.intro (K := KK w) rfl rfl rfl Wd.kn rfl rfl (by decide) (fun A h0 L hA hW => ?_)
  have hcb : ∀ i, ∀ n ∈ ch u i, n < 256 := fun i n hn => hb n (List.mem_of_mem_drop (List.mem_of_mem_take hn))
  have hkall : ∀ k ∈ krow u (nch u), k < 64 := by
    intro k hk
    obtain ⟨z, hz, hk⟩ := List.mem_flatten.mp hk
    obtain ⟨i, _, rfl⟩ := List.mem_map.mp hz
    exact gw_lt k hk
  have hrl : (krow u (nch u)).length = u.length + nch u := krow_all
  have hnl : nch u ≤ u.length + 1 := by unfold nch; omega
  refine Go.assignN (P := fun o => ∃ vs n, o = lo vs n ∧ Lst fI (krow u (nch u)) vs) (Ev.call (sps := [sY (bx (pe u)), sW prog w]) (g_part_numbers hW) (keep_def hW (kp_part_numbers w)) ⟨Ev.nameY rfl, Ev.c1 (g_worth_table hW) hW (kp_worth_table w) (hA.one (k := 1)) (Ev.name rfl) (fun v e => e ▸ f_worth), trivial⟩ (crn_def' hA fun h0' vs h st hs hvs => ?_)) fun ar o ⟨rvs, rn, ho, hrvs⟩ => ?_
  · obtain ⟨v1, v2, rfl, ⟨t1, e1⟩, h2⟩ := hvs.two
    · subst e1
      refine ⟨fun h => Wd (KK w) mg mb h ∧ (sW prog w).Is h v2 h, ⟨hW.stay hs.base, h2⟩, ?_⟩
      rw [show pe u = (krow u (nch u)).map fun k => alpha.getD k 0 from pe_krow]
      exact f_numbers _ hkall (by omega)
  subst ho
  refine Go.assignN Ev.nilL fun af o ⟨fvs, fnn, ho, hfvs⟩ => ?_
  subst ho hfvs
  have hlenr : ∀ vs, Lst fI (krow u (nch u)) vs → vs.length = u.length + nch u := fun vs h => by rw [h.1, hrl]
  refine Go.loop (n := nch u) (P := fun i v => i < nch u ∧ ∃ t, v = .int ((i * 4 : Nat) : Int) t) (fun i m N => ∃ fvs fn, N = [(af, lo fvs fn), (ar, lo rvs rn)] ∧ Lst fY ((List.range i).map fun i => ch u i) fvs ∧ m "found" = some (.ref af) ∧ m "worth_row" = some (.ref ar))
    (Ev.call (sps := [sI ((0 : Nat) : Int), sI ((u.length + nch u : Nat) : Int), sI ((4 : Nat) : Int)]) (g_range hW) keep_typ ⟨Ev.nat, Ev.b1 (g_len hW) (Ev.lname (upd_ne upd_self) (.tail _ (.head _)) hrvs) (k_lenL hlenr (by omega)), Ev.nat, trivial⟩ (k_range3 (by decide) (small_div (by decide))))
    (fun h0 v h st hs hv => src_step (c := 4) (m := u.length + nch u) hv hA.hd st (by decide) (by unfold nch; omega) (by omega) (by decide)) ⟨[], fnn, rfl, Lst.nil, upd_self, upd_ne upd_self⟩ (fun i v m1 N1 own hi ⟨_, t1, hv⟩ ⟨fvs, fn, hN, hfv, g1, g2⟩ hmap => ?_) fun m1 N1 ⟨fvs, fn, hN, hfv, g1, g2⟩ hmap => ?_
  · subst hN hv
    have hi3 : i * 3 < u.length := by unfold nch at hi; omega
    have hcl : (ch u i).length = min 3 (u.length - i * 3) := ch_len
    refine Go.assignN (P := fun o => ∃ vs n, o = lo vs n ∧ Lst fI (gw (ch u i)) vs) (Ev.lstS (a := some (i * 4)) (b := some (i * 4 + 4)) (Ev.lname (upd_ne g2) (.tail _ (.head _)) hrvs) (Ev.nameI upd_self) (Ev.bin (Ev.nameI upd_self) (Ev.nat (n := 4)) n_add) (fun vs h => by rw [hlenr vs h]; omega) fun vs h => ?_) fun ag o ⟨gvs, gn, ho, hgv⟩ => ?_
    · have := h.cut (some (i * 4)) (some (i * 4 + 4))
      rw [show cutO (krow u (nch u)) (some (i * 4)) (some (i * 4 + 4)) = gw (ch u i) from krow_cut hi] at this
      exact this
    subst ho
    refine Go.ite (b := decide ((((ch u i).length + 1 : Nat) : Int) = 1)) (Ts.cmp (Ev.b1 (g_len hW) (Ev.lname upd_self (.head _) hgv) (k_lenL (n := (ch u i).length + 1) (fun vs h => by rw [h.1, gw_len]) (by omega))) Ev.int c_eq) (fun h => absurd (of_decide_eq_true h) (by omega)) fun _ => Go.nilSeq ?_
    refine Go.unpack2 (P1 := pY (bx (ch u i))) (P2 := pI ((0 : Nat) : Int)) (Ev.asU (Ev.call (sps := [sV (.ref ag)]) (g_group_octets hW) (keep_def hW (kp_group_octets w)) ⟨Ev.name upd_self, trivial⟩ (crn_def' (hA.one (k := 1)) fun h0' vs h st hs hvs => ?_))) hA.hd fun v1 v2 ⟨t2, e1⟩ ⟨t3, e2⟩ => ?_
    · obtain ⟨v, rfl, e⟩ := hvs.one
      · have e : v = .ref ag := e
        subst e
        exact ⟨fun h => Wd (KK w) mg mb h ∧ h.get? ag = some (lo gvs gn), ⟨hW.stay hs.base, hs.get (.head _)⟩, f_octets (by omega) (by omega) (hcb i) hgv⟩
    subst e1 e2
    refine Go.ite (b := decide (((0 : Nat) : Int) > 0)) (Ts.cmp (Ev.nameI upd_self) Ev.int c_gt) (fun h => absurd (of_decide_eq_true h) (by decide)) fun _ => Go.nilSeq ?_
    refine Go.append (upd_ne (upd_ne (upd_ne (upd_ne g1)))) (.tail _ (.head _)) (Ev.nameY (l := ch u i) (upd_ne upd_self)) (by rw [hfv.1]; simp; omega) (fun o' => .tail .head) fun v n' hv => ?_
    refine Go.drop (Go.nil fun h _ => ⟨[(af, lo (fvs ++ [v]) n'), (ar, lo rvs rn)], rfl, rfl, _, n', rfl, ?_, upd_ne (upd_ne (upd_ne (upd_ne g1))), upd_ne (upd_ne (upd_ne (upd_ne g2)))⟩)
    rw [List.range_succ, List.map_append]
    exact hfv.push hv
  · subst hN
    have hfl : ((List.range (nch u)).map fun i => ch u i).flatten = u := by
      rw [ch_flat, List.take_of_length_le]; unfold nch; omega
    refine Go.retZ ?_
    rw [← hfl]
    exact Ev.joinB (Ev.bytesC (l := []) (by simp [bx])) (Ev.lname g1 (.head _) hfv) (by rw [hfl]; omega)
end
end Mine
end

section
open PySem PySem.W PySem.Calls PyProof.Rows PySem.Spec PySem.SeqAt
set_option Elab.async false
set_option linter.unusedVariables false
set_option linter.unusedSimpArgs false
set_option linter.deprecated false
set_option maxRecDepth 100000
namespace Mine
theorem flat1 : ∀ {l : List Nat}, (l.map fun c => [c]).flatten = l
  | [] => rfl
  | a :: r => by simp [flat1 (l := r)]
theorem u16_even : ∀ {l : List Nat} {i c : Nat}, l[i]? = some c → (u16 l)[i * 2]? = some (c / 256) ∧ (u16 l)[i * 2 + 1]? = some (c % 256)
  | [], i, c, h => by simp at h
  | a :: r, 0, c, h => by
    simp at h; subst h
    exact ⟨rfl, rfl⟩
  | a :: r, i + 1, c, h => by
    have := u16_even (l := r) (i := i) (c := c) (by simpa using h)
    have e : u16 (a :: r) = a / 256 :: a % 256 :: u16 r := rfl
    rw [e, show (i + 1) * 2 = i * 2 + 2 by omega]
    simpa using this
section
variable {X : Fx} {m : Str → Option Value} {N : List (Addr × Obj)} {Z : Zt} {rest : List Stmt}
theorem Go.tryQ {body : List Stmt} {e₀ : ExceptHandler} {es : List ExceptHandler} {pos : Pos} (hno : ∀ e h, X.exc e h → False) (g : Go X m N body (seqZ X rest Z)) : Go X m N (.Try body (e₀ :: es) [] [] pos :: rest) Z := by
  intro Q E s hs q qe
  refine wpAny_execs_cons (wpAny_Try_except (g _ _ s hs (fun fl m' N' h' tk S hZ => ?_) fun e h tk x => (hno e h x).elim))
  cases fl with
  | next => exact wpAny_execs_nil (hZ _ _ _ S q qe)
  | brk => exact q _ _ _ _ _ S hZ
  | cont => exact q _ _ _ _ _ S hZ
  | ret v => exact q _ _ _ _ _ S hZ
end
section
variable {prog : Program} {w : World} {mg mb : Str → Option Value} {c : Nat} {t y x : Tok} {u l o p q run : List Nat} {lv : Nat}
theorem f_shift {b n : Nat} (hl : o.length ≤ 10000) (hb : ∀ n ∈ o, n < 256) (h1 : ∀ i, i < n → ∃ c, o[b + i]? = some c ∧ c ∈ alpha) (h2 : o[b + n]? = some 45) : Fn prog w (Wd (KK w) mg mb) 1 149 [.bytes (bx o) t, .int (b : Int) y] (sI ((b + n : Nat) : Int)) := by
  refine Fn.intro (K := KK w) rfl rfl rfl Wd.kn rfl rfl (by decide) (fun A h0 L hA hW => ?_)
  have hbn : b + n < o.length := (List.getElem?_eq_some_iff.mp h2).1
  refine Go.assign (Ev.nameI rfl) fun v ⟨t1, hv⟩ => ?_
  subst hv
  refine Go.whil (k0 := n) (fun k m N => ∃ i tt, N = [] ∧ m "end" = some (.int ((b + i : Nat) : Int) tt) ∧ m "octets" = some (.bytes (bx o) t) ∧ i ≤ n ∧ k = n - i) ⟨0, t1, rfl, upd_self, rfl, by omega, rfl⟩ ?_
  rintro k m1 N1 ⟨i, tt, rfl, he, ht, hin, rfl⟩
  have hlt : b + i < o.length := by omega
  have hget := getD_some hlt
  have hc := hb _ (List.mem_of_getElem? hget)
  refine ⟨_, Ts.tb (Tb.and (Ts.cmp (Ev.nameI he) (Ev.b1 (g_len hW) (Ev.nameY ht) (k_lenY (by omega))) c_lt) fun h => Tb.and (b := decide (o.getD (b + i) 0 ∈ alpha)) (Ts.cmp (Ev.bytI (i := b + i) (Ev.nameY ht) (Ev.nameI he) hlt (by omega) hb) (g_SHIFT_SIGNS hW) (c_inY hc alpha_lt)) fun _ => Tb.andN), fun hbb => ?_, fun hbb => ?_⟩
  · simp only [Bool.and_true, Bool.and_eq_true, decide_eq_true_eq] at hbb
    have hne : i ≠ n := fun e => by
      subst e
      rw [h2] at hget
      have := Option.some.inj hget
      rw [← this] at hbb
      exact absurd hbb.2 (by decide)
    refine Go.augI he (Ev.nat (n := 1)) fun t3 => Go.nil fun h _ => ⟨n - (i + 1), by omega, i + 1, t3, rfl, ?_, upd_ne ht, by omega, rfl⟩
    exact upd_self
  · have hi : i = n := by
      rcases Nat.lt_or_ge i n with h | h
      · obtain ⟨c, e1, e2⟩ := h1 i h
        rw [hget] at e1
        have := Option.some.inj e1
        have h3 : decide (((b + i : Nat) : Int) < ((o.length : Nat) : Int)) = true := decide_eq_true (by omega)
        rw [h3, this, decide_eq_true e2] at hbb
        simp at hbb
      · omega
    subst hi
    have h45 : o.getD (b + i) 0 = 45 := by rw [h2] at hget; exact (Option.some.inj hget).symm
    refine Go.ite (b := decide (((b + i : Nat) : Int) = ((o.length : Nat) : Int)) || (decide (((o.getD (b + i) 0 : Nat) : Int) ≠ 45) || false)) (Ts.tb (Tb.or (Ts.cmp (Ev.nameI he) (Ev.b1 (g_len hW) (Ev.nameY ht) (k_lenY (by omega))) c_eq) fun _ => Tb.or (Ts.cmp (Ev.bytI (i := b + i) (Ev.nameY ht) (Ev.nameI he) hlt (by omega) hb) Ev.int c_ne) fun _ => Tb.orN)) (fun h => ?_) fun _ => Go.nilSeq (Go.retZ (Ev.nameI he))
    rw [h45] at h
    simp at h
    omega
theorem f_units {b : Nat} (hl : run.length ≤ 1000) (hc : ∀ c ∈ run, c < 55296 ∧ isPlain c = false) : Fn prog w (Wd (KK w) mg mb) 2 156 [.bytes (bx (u16 run)) t, .int (b : Int) y] (sT (sx run)) := by
  refine Fn.intro (K := KK w) rfl rfl rfl Wd.kn rfl rfl (by decide) (fun A h0 L hA hW => ?_)
  have hul : (u16 run).length = 2 * run.length := u16_len
  have hub : ∀ n ∈ u16 run, n < 256 := u16_lt fun c h => by have := (hc c h).1; omega
  refine Go.assignN Ev.nilL fun a oo ⟨vs, n, ho, hvs⟩ => ?_
  subst ho hvs
  refine Go.assign (Ev.nat (n := 0)) fun v ⟨t0, hv⟩ => ?_
  subst hv
  refine Go.loop (n := run.length) (P := fun i v => i < run.length ∧ ∃ t, v = .int ((i * 2 : Nat) : Int) t) (fun i m N => ∃ vs n th, N = [(a, lo vs n)] ∧ Lst fS ((run.take i).map fun c => [c]) vs ∧ m "signs" = some (.ref a) ∧ m "high" = some (.int ((0 : Nat) : Int) th) ∧ m "raw" = some (.bytes (bx (u16 run)) t) ∧ m "begin" = some (.int (b : Int) y))
    (Ev.call (sps := [sI ((0 : Nat) : Int), sI ((2 * run.length : Nat) : Int), sI ((2 : Nat) : Int)]) (g_range hW) keep_typ ⟨Ev.nat, Ev.i (Ev.b1 (g_len hW) (Ev.nameY rfl) (k_lenY (by omega))) (by rw [hul]), Ev.nat, trivial⟩ (k_range3 (by decide) (small_div (by decide))))
    (fun h0 v h st hs hv => src_step (c := 2) (m := 2 * run.length) hv hA.hd st (by decide) (by omega) (by omega) (by decide)) ⟨[], n, t0, rfl, Lst.nil, upd_ne upd_self, upd_self, rfl, rfl⟩ (fun i v m1 N1 own hi ⟨_, t1, hv⟩ ⟨vs, n, th, hN, hvs, g1, g2, g3, g4⟩ hmap => ?_) fun m1 N1 ⟨vs, n, th, hN, hvs, g1, g2, g3, g4⟩ hmap => ?_
  · subst hN hv
    have hget := getD_some hi
    generalize run.getD i 0 = c at hget
    obtain ⟨hc1, hc2⟩ := hc c (List.mem_of_getElem? hget)
    obtain ⟨e1, e2⟩ := u16_even hget
    have f1 : (u16 run).getD (i * 2) 0 = c / 256 := by rw [List.getD_eq_getElem?_getD, e1]; rfl
    have f2 : (u16 run).getD (i * 2 + 1) 0 = c % 256 := by rw [List.getD_eq_getElem?_getD, e2]; rfl
    refine Go.assign (Ev.bin (Ev.nameI (upd_ne g4)) (Ev.bin (Ev.bin (Ev.nameI upd_self) (Ev.nat (n := 8)) (n_mul (by omega))) (Ev.nat (n := 6)) (n_div (by decide) (by decide))) n_add) fun v ⟨t2, hv⟩ => ?_
    subst hv
    refine Go.assign (P := pI (c : Int)) ?_ fun v ⟨t3, hv⟩ => ?_
    · refine Ev.i (Ev.bin (Ev.bin (Ev.bytI (i := i * 2) (Ev.nameY (upd_ne (upd_ne g3))) (Ev.nameI (upd_ne upd_self)) (by omega) (by omega) hub) (Ev.nat (n := 256)) (n_mul (by rw [f1]; omega))) (Ev.bytI (i := i * 2 + 1) (Ev.nameY (upd_ne (upd_ne g3))) (Ev.bin (Ev.nameI (upd_ne upd_self)) (Ev.nat (n := 1)) n_add) (by omega) (by omega) hub) n_add) ?_
      rw [f1, f2]; omega
    subst hv
    refine Go.ite (b := decide (((0 : Nat) : Int) > 0)) (Ts.cmp (Ev.nameI (upd_ne (upd_ne (upd_ne g2)))) Ev.int c_gt) (fun h => absurd (of_decide_eq_true h) (by decide)) fun _ => ?_
    refine Go.ite (b := decide ((55296 : Int) ≤ c) && decide ((c : Int) ≤ 56319)) (Ts.cmp2 Ev.int (Ev.nameI upd_self) Ev.int c_le c_le) (fun h => absurd h (by simp; omega)) fun _ => ?_
    refine Go.ite (b := isHalf c) (Ts.plain (Ev.c1 (g_is_half hW) hW (kp_is_half w) (hA.one (k := 1)) (Ev.name upd_self) fun v e => e ▸ f_half)) (fun h => absurd h (by rw [half_no hc1]; decide)) fun _ => ?_
    refine Go.ite (b := isPlain c) (Ts.plain (Ev.c1 (g_is_plain_code hW) hW (kp_is_plain_code w) (hA.one (k := 1)) (Ev.name upd_self) fun v e => e ▸ f_plain)) (fun h => absurd h (by rw [hc2]; decide)) fun _ => ?_
    refine Go.append (upd_ne (upd_ne (upd_ne g1))) (.head _) (Ev.b1 (g_chr hW) (Ev.nameI upd_self) (k_chr (by omega))) (by rw [hvs.1]; simp; omega) (fun o' => .head) fun v n' hv => ?_
    refine Go.nilSeq (Go.nilSeq (Go.nilSeq (Go.nilSeq (Go.nil fun h _ => ⟨[(a, lo (vs ++ [v]) n')], rfl, rfl, _, n', th, rfl, ?_, upd_ne (upd_ne (upd_ne g1)), upd_ne (upd_ne (upd_ne g2)), upd_ne (upd_ne (upd_ne g3)), upd_ne (upd_ne (upd_ne g4))⟩))))
    rw [List.take_add_one, hget, List.map_append]
    exact hvs.push hv
  · subst hN
    refine Go.ite (b := decide (((0 : Nat) : Int) > 0)) (Ts.cmp (Ev.nameI g2) Ev.int c_gt) (fun h => absurd (of_decide_eq_true h) (by decide)) fun _ => Go.nilSeq ?_
    rw [List.take_length] at hvs
    refine Go.retZ (Ev.t (Ev.join0 (Ev.lit (by decide)) (Ev.lname g1 (.head _) hvs) ?_) ?_)
    · simp only [List.map_map, Function.comp_def, List.length_singleton, sum_ones, List.length_map]; omega
    · congr 1
      exact flat1
theorem f_shifted {b e : Nat} (hl : run.length ≤ 300) (hol : o.length ≤ 10000) (hc : ∀ c ∈ run, c < 55296 ∧ isPlain c = false) (hcut : cut o b e = pe (u16 run)) : Fn prog w (Wd (KK w) mg mb) 3 163 [.bytes (bx o) t, .int (b : Int) y, .int (e : Int) x] (sT (sx run)) := by
  refine Fn.intro (K := KK w) rfl rfl rfl Wd.kn rfl rfl (by decide) (fun A h0 L hA hW => ?_)
  have hul : (u16 run).length = 2 * run.length := u16_len
  have hub : ∀ n ∈ u16 run, n < 256 := u16_lt fun c h => by have := (hc c h).1; omega
  refine Go.tryQ (fun _ _ x => x) ?_
  refine Go.assign (P := pY (bx (u16 run))) (Ev.c2 (g_part_decoded hW) hW (kp_part_decoded w) hA (P1 := pY (bx (pe (u16 run)))) ?_ (g_SHIFT_SIGNS hW) fun v u ⟨t1, e1⟩ ⟨t2, e2⟩ => by subst e1 e2; exact f_decoded (by omega) hub) fun v ⟨t3, hv⟩ => Go.nilSeq ?_
  · rw [← hcut]
    exact Ev.bytS (a := some b) (b := some e) (Ev.nameY rfl) (Ev.nameI rfl) (Ev.nameI rfl) (by omega)
  subst hv
  refine Go.ite (b := decide (((2 * run.length % 2 : Nat) : Int) = 1)) (Ts.cmp (Ev.bin (Ev.i (Ev.b1 (g_len hW) (Ev.nameY upd_self) (k_lenY (by omega))) (by rw [hul])) (Ev.nat (n := 2)) (n_mod (by decide))) Ev.int c_eq) (fun h => absurd (of_decide_eq_true h) (by omega)) fun _ => Go.nilSeq ?_
  exact Go.retZ (Ev.c2 (g_units_text hW) hW (kp_units_text w) hA (Ev.name upd_self) (Ev.name (upd_ne rfl)) fun v u e1 e2 => by subst e1 e2; exact f_units (by omega) hc)
end
end Mine
end

section
open PySem PySem.W PySem.Calls PyProof.Rows PySem.Spec PySem.SeqAt
set_option Elab.async false
set_option linter.unusedVariables false
set_option linter.unusedSimpArgs false
set_option linter.deprecated false
set_option maxRecDepth 100000
namespace Mine
theorem gc_alpha {l : List Nat} : ∀ n ∈ gc l, n ∈ alpha := by
  intro n hn
  obtain ⟨i, _, rfl⟩ := List.mem_map.mp hn
  have hk := Nat.mod_lt (gcN l / 2 ^ (6 * (l.length - i))) (show 64 > 0 by decide)
  rw [List.getD_eq_getElem?_getD, List.getElem?_eq_getElem (by rw [alpha_len]; exact hk)]
  exact List.getElem_mem _
theorem pe_alpha {l : List Nat} : ∀ n ∈ pe l, n ∈ alpha := by
  intro n hn
  obtain ⟨z, hz, hn⟩ := List.mem_flatten.mp hn
  obtain ⟨i, _, rfl⟩ := List.mem_map.mp hz
  exact gc_alpha n hn
theorem pe_pos {l : List Nat} (h : 1 ≤ l.length) : 1 ≤ (pe l).length := by
  obtain ⟨k, hk⟩ : ∃ k, (l.length + 2) / 3 = k + 1 := ⟨(l.length + 2) / 3 - 1, by omega⟩
  rw [pe, hk, peI_succ, List.length_append, gc_len]; omega
theorem enc_nil : enc [] = [] := by rw [enc]
theorem enc_plain {c : Nat} {r : List Nat} (h : isPlain c = true) : enc (c :: r) = (if c = 38 then [38, 45] else [c]) ++ enc r := by rw [enc, if_pos h]
theorem enc_run {c : Nat} {r : List Nat} (h : isPlain c = false) : enc (c :: r) = 38 :: (pe (u16 ((c :: r).takeWhile np)) ++ 45 :: enc (r.dropWhile np)) := by rw [enc, if_neg (by rw [h]; decide)]
theorem enc_lt (l : List Nat) : ∀ n ∈ enc l, n < 256 := by
  induction l using enc.induct with
  | case1 => rw [enc_nil]; simp
  | case2 c r h ih =>
    rw [enc_plain h]
    intro n hn
    rcases List.mem_append.mp hn with hn | hn
    · rw [isPlain, Bool.and_eq_true, decide_eq_true_eq, decide_eq_true_eq] at h
      split at hn <;> simp at hn <;> omega
    · exact ih n hn
  | case3 c r h ih =>
    rw [enc_run (by simpa using h)]
    intro n hn
    rcases List.mem_cons.mp hn with rfl | hn
    · decide
    rcases List.mem_append.mp hn with hn | hn
    · exact peI_lt n hn
    rcases List.mem_cons.mp hn with rfl | hn
    · decide
    · exact ih n hn
theorem run_split {c : Nat} {r : List Nat} (h : isPlain c = false) : c :: r = (c :: r).takeWhile np ++ r.dropWhile np := by
  have e : (c :: r).dropWhile np = r.dropWhile np := by rw [List.dropWhile_cons, if_pos (by simp [np, h])]
  rw [← e, List.takeWhile_append_dropWhile]
theorem enc_len (l : List Nat) : (enc l).length ≤ 8 * l.length := by
  induction l using enc.induct with
  | case1 => rw [enc_nil]; simp
  | case2 c r h ih =>
    rw [enc_plain h, List.length_append]
    split <;> simp <;> omega
  | case3 c r h ih =>
    have h : isPlain c = false := by simpa using h
    rw [enc_run h]
    have h1 := congrArg List.length (run_split (r := r) h)
    have h2 : 1 ≤ ((c :: r).takeWhile np).length := by rw [List.takeWhile_cons, if_pos (by simp [np, h])]; simp
    generalize (c :: r).takeWhile np = run at h1 h2
    rw [List.length_append] at h1
    have hpl : (pe (u16 run)).length ≤ 4 * ((2 * run.length + 2) / 3) := by
      have := peI_len (l := u16 run) (i := ((u16 run).length + 2) / 3)
      rw [u16_len] at this
      rw [pe, u16_len]; exact this
    simp only [List.length_cons, List.length_append] at h1 ⊢
    omega
theorem tw_mem {p : Nat → Bool} {z : Nat} : ∀ {l : List Nat}, z ∈ l.takeWhile p → p z = true
  | [], h => by simp at h
  | a :: s, h => by
    rw [List.takeWhile_cons] at h
    split at h
    · rename_i ha
      rcases List.mem_cons.mp h with rfl | h
      · exact ha
      · exact tw_mem h
    · simp at h
theorem dw_head {c : Nat} {r' : List Nat} : ∀ {r : List Nat}, r.dropWhile np = c :: r' → isPlain c = true
  | [], h => by simp at h
  | a :: s, h => by
    rw [List.dropWhile_cons] at h
    split at h
    · exact dw_head h
    · rename_i hn
      have := (List.cons.inj h).1
      subst this
      simpa [np] using hn
section
variable {prog : Program} {w : World} {mg mb : Str → Option Value} {t y x : Tok} {l : List Nat} {lv : Nat}
theorem get_mid {pre post : List Nat} {c : Nat} : (pre ++ c :: post)[pre.length]? = some c := by simp
theorem getD_mid {pre post : List Nat} {c : Nat} : (pre ++ c :: post).getD pre.length 0 = c := by rw [List.getD_eq_getElem?_getD, get_mid]; rfl
set_option maxHeartbeats 1000000 in
theorem f_text (hl : l.length ≤ 100) (hc : ∀ c ∈ l, c < 55296) : Fn prog w (Wd (KK w) mg mb) 4 170 [.bytes (bx (enc l)) t] (sT (sx l)) := by
  refine Fn.intro (K := KK w) rfl rfl rfl Wd.kn rfl rfl (by decide) (fun A h0 L hA hW => ?_)
  have hol := enc_len l
  have hob := enc_lt l
  refine Go.assignN Ev.nilL fun a oo ⟨vs, n, ho, hvs⟩ => ?_
  subst ho hvs
  refine Go.assign (Ev.nat (n := 0)) fun v ⟨t0, hv⟩ => ?_
  subst hv
  refine Go.assign (Ev.neg (Ev.int (i := 1))) fun v ⟨t1, hv⟩ => ?_
  subst hv
  refine Go.whil (k0 := l.length) (fun k m N => ∃ (r pre : List Nat) (ds : List (List Nat)) (vs : List Value) (n : Nat) (ta ts : Tok) (se : Int), N = [(a, lo vs n)] ∧ se ≤ ((pre.length : Nat) : Int) ∧ Lst fS ds vs ∧ ds.length ≤ l.length ∧ m "pieces" = some (.ref a) ∧ m "at" = some (.int ((pre.length : Nat) : Int) ta) ∧ m "shift_end" = some (.int se ts) ∧ m "octets" = some (.bytes (bx (enc l)) t) ∧
      ds.flatten ++ r = l ∧ pre ++ enc r = enc l ∧ (se = ((pre.length : Nat) : Int) → ∀ c r', r = c :: r' → isPlain c = true) ∧ k = r.length ∧ ds.length + r.length ≤ l.length) ⟨l, [], [], [], n, t0, t1, -1, rfl, by simp, Lst.nil, by simp, upd_ne (upd_ne upd_self), upd_ne upd_self, upd_self, rfl, rfl, rfl, (fun e => by simp at e), rfl, by simp⟩ ?_
  rintro k m1 N1 ⟨r, pre, ds, vs, n, ta, ts, se, rfl, hsl, hvs, hdl, g1, g2, g3, g4, hfl, hpre, hse, rfl, hcnt⟩
  have hpl : pre.length + (enc r).length = (enc l).length := by rw [← hpre]; simp
  refine ⟨_, Ts.cmp (Ev.nameI g2) (Ev.b1 (g_len hW) (Ev.nameY g4) (k_lenY (by omega))) c_lt, fun hb => ?_, fun hb => ?_⟩
  · have hb := of_decide_eq_true hb
    cases r with
    | nil => rw [enc_nil] at hpl; simp at hpl; omega
    | cons c r =>
      have hcl : c ∈ l := by rw [← hfl]; simp
      have hc1 := hc c hcl
      -- the first octet
      have first : ∀ (z : Nat) (post : List Nat), enc (c :: r) = z :: post → (enc l).getD pre.length 0 = z := fun z post e => by rw [← hpre, e]; exact getD_mid
      cases hp : isPlain c with
      | true =>
        rw [enc_plain hp] at hpre
        have hz : (enc l).getD pre.length 0 = c := by
          by_cases h38 : c = 38
          · refine first c (45 :: enc r) ?_
            rw [enc_plain hp, if_pos h38, h38]; rfl
          · exact first c (enc r) (by rw [enc_plain hp, if_neg h38]; rfl)
        refine Go.assign (Ev.bytI (i := pre.length) (Ev.nameY g4) (Ev.nameI g2) (by omega) (by omega) hob) fun v ⟨t2, hv⟩ => ?_
        subst hv
        rw [hz]
        refine Go.ite (b := !isPlain c) (Ts.not (Ts.plain (Ev.c1 (g_is_plain_code hW) hW (kp_is_plain_code w) (hA.one (k := 1)) (Ev.name upd_self) fun v e => e ▸ f_plain))) (fun h => absurd h (by rw [hp]; decide)) fun _ => Go.nilSeq ?_
        refine Go.ite (b := decide ((c : Int) ≠ 38)) (Ts.cmp (Ev.nameI upd_self) Ev.int c_ne) (fun h => ?_) fun h => Go.nilSeq ?_
        · have h38 : c ≠ 38 := by have := of_decide_eq_true h; omega
          rw [if_neg h38] at hpre
          refine Go.append (upd_ne g1) (.head _) (Ev.b1 (g_chr hW) (Ev.nameI upd_self) (k_chr (by omega))) (by rw [hvs.1]; omega) (fun o' => .head) fun v n' hv => ?_
          refine Go.augI (upd_ne g2) (Ev.nat (n := 1)) fun t3 => Go.cont fun h _ => ⟨r.length, by simp, r, pre ++ [c], ds ++ [[c]], vs ++ [v], n', t3, ts, se, rfl, by simp; omega, hvs.push hv, by simp at hcnt ⊢; omega, upd_ne (upd_ne g1), ?_, upd_ne (upd_ne g3), upd_ne (upd_ne g4), ?_, by rw [← hpre]; simp, ?_, rfl, by simp at hcnt ⊢; omega⟩
          · simpa using upd_self
          · rw [← hfl]; simp
          · intro e; simp at e; omega
        · have h38 : c = 38 := by have := of_decide_eq_false h; omega
          subst h38
          rw [if_pos rfl] at hpre
          have h45 : (enc l)[pre.length + 1 + 0]? = some 45 := by rw [← hpre]; simp
          refine Go.assign (P := pI ((pre.length + 1 + 0 : Nat) : Int)) (Ev.c2 (g_shift_behind hW) hW (kp_shift_behind w) (hA.one (k := 1)) (Ev.name (upd_ne g4)) (Ev.bin (Ev.nameI (upd_ne g2)) (Ev.nat (n := 1)) n_add) fun v u e1 ⟨t3, e2⟩ => by subst e1 e2; exact f_shift (by omega) hob (fun i hi => absurd hi (by omega)) h45) fun v ⟨t3, hv⟩ => ?_
          subst hv
          refine Go.ite (b := decide (((pre.length + 1 + 0 : Nat) : Int) = ((pre.length + 1 : Nat) : Int))) (Ts.cmp (Ev.nameI upd_self) (Ev.bin (Ev.nameI (upd_ne (upd_ne g2))) (Ev.nat (n := 1)) n_add) c_eq) (fun _ => ?_) fun h => absurd (of_decide_eq_false h) (by simp)
          refine Go.append (upd_ne (upd_ne g1)) (.head _) (Ev.lit (l := [38]) (by decide)) (by rw [hvs.1]; omega) (fun o' => .head) fun v n' hv => Go.nilSeq ?_
          refine Go.assign (Ev.bin (Ev.nameI upd_self) (Ev.nat (n := 1)) n_add) fun v ⟨t4, hv4⟩ => ?_
          subst hv4
          refine Go.nil fun h _ => ⟨r.length, by simp, r, pre ++ [38, 45], ds ++ [[38]], vs ++ [v], n', t4, ts, se, rfl, by simp; omega, hvs.push hv, by simp at hcnt ⊢; omega, upd_ne (upd_ne (upd_ne g1)), ?_, upd_ne (upd_ne (upd_ne g3)), upd_ne (upd_ne (upd_ne g4)), ?_, by rw [← hpre]; simp, ?_, rfl, by simp at hcnt ⊢; omega⟩
          · have : (pre ++ [38, 45]).length = pre.length + 1 + 0 + 1 := by simp
            rw [this]; exact upd_self
          · rw [← hfl]; simp
          · intro e; simp at e; omega
      | false =>
        rw [enc_run hp] at hpre
        have hz : (enc l).getD pre.length 0 = 38 := by rw [← hpre]; exact getD_mid
        have hsp := run_split (r := r) hp
        have hr1 : 1 ≤ ((c :: r).takeWhile np).length := by rw [List.takeWhile_cons, if_pos (by simp [np, hp])]; simp
        have hrp : ∀ z ∈ (c :: r).takeWhile np, isPlain z = false := fun z hz => by
          have := tw_mem hz
          simpa [np] using this
        generalize (c :: r).takeWhile np = run at hpre hsp hr1 hrp
        generalize hrest : r.dropWhile np = rest at hpre hsp
        have hrc : ∀ z ∈ run, z < 55296 ∧ isPlain z = false := fun z hz => ⟨hc z (by rw [← hfl, hsp]; simp [hz]), hrp z hz⟩
        have hlen := congrArg List.length hsp
        simp only [List.length_cons, List.length_append] at hlen
        have hrl : run.length ≤ 100 := by simp at hcnt; omega
        have hpe1 : 1 ≤ (pe (u16 run)).length := pe_pos (by rw [u16_len]; omega)
        have hpal := pe_alpha (l := u16 run)
        generalize hbody : pe (u16 run) = body at hpre hpe1 hpal
        have hpre2 : (pre ++ [38]) ++ (body ++ 45 :: enc rest) = enc l := by rw [← hpre]; simp
        have hp1 : (pre ++ [38]).length = pre.length + 1 := by simp
        have h45 : (enc l)[pre.length + 1 + body.length]? = some 45 := by
          rw [← hpre2, List.getElem?_append_right (by rw [hp1]; omega), hp1, show pre.length + 1 + body.length - (pre.length + 1) = body.length by omega]
          simp
        have hbd : ∀ i, i < body.length → ∃ c, (enc l)[pre.length + 1 + i]? = some c ∧ c ∈ alpha := fun i hi => by
          refine ⟨body[i], ?_, hpal _ (List.getElem_mem hi)⟩
          rw [← hpre2, List.getElem?_append_right (by rw [hp1]; omega), hp1, show pre.length + 1 + i - (pre.length + 1) = i by omega, List.getElem?_append_left hi, List.getElem?_eq_getElem hi]
        have hcut : cut (enc l) (pre.length + 1) (pre.length + 1 + body.length) = pe (u16 run) := by
          rw [hbody, cut, ← hpre2, List.drop_left' hp1, Nat.add_sub_cancel_left, List.take_left' rfl]
        refine Go.assign (Ev.bytI (i := pre.length) (Ev.nameY g4) (Ev.nameI g2) (by omega) (by omega) hob) fun v ⟨t2, hv⟩ => ?_
        subst hv
        rw [hz]
        refine Go.ite (b := !isPlain 38) (Ts.not (Ts.plain (Ev.c1 (g_is_plain_code hW) hW (kp_is_plain_code w) (hA.one (k := 1)) (Ev.name upd_self) fun v e => e ▸ f_plain))) (fun h => absurd h (by decide)) fun _ => Go.nilSeq ?_
        refine Go.ite (b := decide (((38 : Nat) : Int) ≠ 38)) (Ts.cmp (Ev.nameI upd_self) Ev.int c_ne) (fun h => absurd (of_decide_eq_true h) (by decide)) fun h => Go.nilSeq ?_
        refine Go.assign (P := pI ((pre.length + 1 + body.length : Nat) : Int)) (Ev.c2 (g_shift_behind hW) hW (kp_shift_behind w) (hA.one (k := 1)) (Ev.name (upd_ne g4)) (Ev.bin (Ev.nameI (upd_ne g2)) (Ev.nat (n := 1)) n_add) fun v u e1 ⟨t3, e2⟩ => by subst e1 e2; exact f_shift (by omega) hob hbd h45) fun v ⟨t3, hv⟩ => ?_
        subst hv
        refine Go.ite (b := decide (((pre.length + 1 + body.length : Nat) : Int) = ((pre.length + 1 : Nat) : Int))) (Ts.cmp (Ev.nameI upd_self) (Ev.bin (Ev.nameI (upd_ne (upd_ne g2))) (Ev.nat (n := 1)) n_add) c_eq) (fun h => absurd (of_decide_eq_true h) (by omega)) fun _ => ?_
        refine Go.ite (b := decide (((pre.length : Nat) : Int) = se)) (Ts.cmp (Ev.nameI (upd_ne (upd_ne g2))) (Ev.nameI (upd_ne (upd_ne g3))) c_eq) (fun h => absurd (hse (of_decide_eq_true h).symm c r rfl) (by rw [hp]; decide)) fun _ => ?_
        refine Go.append (P := pT (sx run)) (upd_ne (upd_ne g1)) (.head _) (Ev.c3 (g_shifted_text hW) hW (kp_shifted_text w) hA (Ev.name (upd_ne (upd_ne g4))) (Ev.bin (Ev.nameI (upd_ne (upd_ne g2))) (Ev.nat (n := 1)) n_add) (Ev.name upd_self) fun v u x e1 ⟨t4, e2⟩ e3 => by subst e1 e2 e3; exact f_shifted (by omega) (by omega) hrc hcut) (by rw [hvs.1]; omega) (fun o' => .head) fun v n' hv => ?_
        refine Go.assign (Ev.bin (Ev.nameI upd_self) (Ev.nat (n := 1)) n_add) fun v5 ⟨t5, hv5⟩ => Go.nilSeq (Go.nilSeq ?_)
        subst hv5
        refine Go.assign (Ev.bin (Ev.nameI (upd_ne upd_self)) (Ev.nat (n := 1)) n_add) fun v6 ⟨t6, hv6⟩ => ?_
        subst hv6
        have hnp : (pre ++ 38 :: (body ++ [45])).length = pre.length + 1 + body.length + 1 := by simp; omega
        refine Go.nil fun h _ => ⟨rest.length, by simp; omega, rest, pre ++ 38 :: (body ++ [45]), ds ++ [run], vs ++ [v], n', t6, t5, ((pre.length + 1 + body.length + 1 : Nat) : Int), rfl, by rw [hnp]; exact Int.le_refl _, hvs.push hv, by simp at hcnt ⊢; omega, upd_ne (upd_ne (upd_ne (upd_ne g1))), ?_, upd_ne upd_self, upd_ne (upd_ne (upd_ne (upd_ne g4))), ?_, by rw [← hpre]; simp, ?_, rfl, by simp at hcnt ⊢; omega⟩
        · rw [hnp]; exact upd_self
        · rw [← hfl, hsp]; simp
        · intro _ c2 r2 e2
          exact dw_head (hrest.trans e2)
  · have hb := of_decide_eq_false hb
    have hr : r = [] := by
      cases r with
      | nil => rfl
      | cons c r =>
        exfalso
        have : 1 ≤ (enc (c :: r)).length := by
          cases hp : isPlain c with
          | true => rw [enc_plain hp]; split <;> simp
          | false => rw [enc_run hp]; simp
        omega
    subst hr
    rw [List.append_nil] at hfl
    refine Go.retZ (Ev.t (Ev.join0 (Ev.lit (by decide)) (Ev.lname g1 (.head _) hvs) ?_) (by rw [hfl]))
    have : (ds.map (·.length)).sum = l.length := by rw [← hfl, List.length_flatten]
    omega
end
end Mine
end

section
open PySem PySem.W PySem.Calls PyProof.Rows PySem.Spec PySem.SeqAt
set_option Elab.async false
set_option linter.unusedVariables false
set_option linter.unusedSimpArgs false
set_option linter.deprecated false
set_option maxRecDepth 100000
namespace Mine
theorem all_fI {h h' : Heap} : ∀ {xs : List Nat} {vs : List Value}, AllIs (xs.map fun n : Nat => sI (n : Int)) h vs h' → Lst fI xs vs
  | [], [], _ => Lst.nil
  | [], _ :: _, h => h.elim
  | _ :: _, [], h => h.elim
  | x :: xs, v :: vs, h => Lst.cons h.1 (all_fI h.2)
theorem all_fS {h h' : Heap} : ∀ {xs : List (List Nat)} {vs : List Value}, AllIs (xs.map fun l => sT (sx l)) h vs h' → Lst fS xs vs
  | [], [], _ => Lst.nil
  | [], _ :: _, h => h.elim
  | _ :: _, [], h => h.elim
  | x :: xs, v :: vs, h => Lst.cons h.1 (all_fS h.2)
section
variable {X : Fx} {m : Str → Option Value} {N : List (Addr × Obj)} {Z : Zt} {rest : List Stmt}
theorem Go.swap2 {x y : Str} {p1 p2 tp vp pos : Pos} {k k2 : Nat} {e1 e2 : Expr} {P1 P2 : Obj → Prop} (hA : X.A.handled = none) (h1 : Ev X m N e1 (.nw P1)) (h2 : Ev X m N e2 (.nw P2)) (kk : ∀ a b oa ob, P1 oa → P2 ob → Go X (upd (upd m y (.ref b)) x (.ref a)) ((b, ob) :: (a, oa) :: N) rest Z)
    (hpl : [e1, e2].all plainE = true := by rfl) (hs : swapsWithSole [.Tuple [.Name x p1, .Name y p2] k tp] (.Tuple [e1, e2] k2 vp) pos.line X.env = pure false := by rfl)
    (hw : swappedStores [.Tuple [.Name x p1, .Name y p2] k tp] (.Tuple [e1, e2] k2 vp) X.env = pure (some [x, y]) := by rfl) (hl1 : X.env.kindOf x = some .local := by rfl) (hl2 : X.env.kindOf y = some .local := by rfl)
    (hp : (X.env.scope.kind == .class || (X.env.scope.kind == .module && X.env.locals != X.env.globals)) = false := by rfl) : Go X m N (.Assign [.Tuple [.Name x p1, .Name y p2] k tp] (.Tuple [e1, e2] k2 vp) pos :: rest) Z := by
  intro Q E s hst q qe
  refine wpAny_execs_cons (Assign_Tuple_swapped (names := [x, y]) (Tuple_ ?_) hs hw)
  rw [starEach_plain hpl]
  refine Calls.spliced_cons (h1 _ _ s hst fun v1 g1 tk1 st1 hv1 => Calls.spliced_cons (h2 _ _ _ (hst.stay st1) fun v2 g2 tk2 st2 hv2 => Calls.spliced_nil ?_))
  obtain ⟨a, oa, rfl, ea1, ea2, ha⟩ := hv1
  obtain ⟨b, ob, rfl, eb1, eb2, hb⟩ := hv2
  refine wpAny_newObj_type ?_ (by show (2 : Nat) ≤ sizeLine; rw [sizeLine_eq]; decide)
  refine wpAny_unpackItems_tuple (items := #[.ref a, .ref b]) hA ⟨_, Heap.get?_push_size _ rfl, rfl, 0, rfl⟩ fun g3 he => ?_
  have st3 : g2.StaysIn g3 := fun c o e => stays_extBut he _ _ (Heap.get?_push_of_some _ e)
  have S1 : St X m ((a, oa) :: N) g1 := hst.fresh st1 ea1 ea2
  have S2 : St X m ((b, ob) :: (a, oa) :: N) g2 := S1.fresh st2 eb1 eb2
  have S3 := S2.stay st3
  show wpAny X.M X.A (do holding [.ref a] (bindName X.env y (.ref b)); assignInOrder [bindName X.env x] [.ref a]) _ E _
  refine wpAny_bind (wpAny_holding (wpAny_bindName (wpAny_storeName_local hl2 S3.fr.ns (fun g4 hn4 hs4 => ?_) hp)))
  have S4 := S3.store hn4 hs4
  show wpAny X.M X.A (do holding [] (bindName X.env x (.ref a)); assignInOrder [] []) _ E _
  refine wpAny_bind (wpAny_holding (wpAny_bindName (wpAny_storeName_local hl1 S4.fr.ns (fun g5 hn5 hs5 => ?_) hp)))
  exact wpAny_pure (kk a b oa ob ha hb _ _ _ (S4.store hn5 hs5) q qe)
/-- the last sign -/
theorem Ev.strLast {value slice : Expr} {pos : Pos} {l : List Nat} (h1 : Ev X m N value (sT (sx l))) (h2 : Ev X m N slice (sI (-1))) (hi : 1 ≤ l.length) (hl : l.length ≤ 1000000)
    (hs : ∀ a b c d, subscripted slice false (Value.str a b) (Value.int c d) = operate [Value.str a b, Value.int c d] (getItem (.str a b) (Value.int c d)) := by intro _ _ _ _; rfl)
    (ht : ∀ a b r, letTemporaryGo value (.str a b) r = pure () := by intro _ _ _; rfl) : Ev X m N (.Subscript value slice pos) (sT (sx [l.getD (l.length - 1) 0])) := by
  refine Ev.sub h1 h2 ?_
  rintro h0 _ _ h st ⟨t, rfl⟩ ⟨u, rfl⟩ Q E s e q
  subst e
  have e : Txt.item (sx l) (-1) = sx [l.getD (l.length - 1) 0] := by
    unfold Txt.item Txt.charAt seqIndex?
    rw [sx_len]
    have e1 : (if (-1 : Int) < 0 then (-1 : Int) + (l.length : Int) else -1) = ((l.length - 1 : Nat) : Int) := by rw [if_pos (by decide)]; omega
    simp only [e1]
    rw [if_pos (by simp; omega)]
    have h2 : l.length - 1 < l.length := by omega
    simp [sx, h2]
  exact item_str (ssize_of (by omega) (by omega)) (by have := sx_len l; omega) (by rw [sx_len]; omega) (fun _ => q _ s.heap _ (stays_refl _) ⟨s.toks, by rw [e]⟩) (hs _ _ _ _) (fun r => ht _ _ r)
end
def natsOf : List Expr → Option (List Nat)
  | [] => some []
  | .Constant (.int (.ofNat n)) _ _ :: r => (natsOf r).map (n :: ·)
  | _ => none
theorem evs_nats {X : Fx} {m : Str → Option Value} {N : List (Addr × Obj)} : ∀ {es : List Expr} {xs : List Nat}, natsOf es = some xs → Evs X m N es (xs.map fun n : Nat => sI (n : Int))
  | [], xs, h => by cases h; trivial
  | e :: r, xs, h => by
    unfold natsOf at h
    split at h
    · rename_i e'; cases e'
    · rename_i n _ _ _ e'
      cases e'
      cases hr : natsOf r with
      | none => rw [hr] at h; cases h
      | some ys => rw [hr] at h; cases h; exact ⟨Ev.int, evs_nats hr⟩
    · cases h
def strsOf : List Expr → Option (List (List Nat))
  | [] => some []
  | .Constant (.str x) _ _ :: r => (strsOf r).map (x.cps.toList :: ·)
  | _ => none
theorem evs_strs {X : Fx} {m : Str → Option Value} {N : List (Addr × Obj)} : ∀ {es : List Expr} {xs : List (List Nat)}, strsOf es = some xs → Evs X m N es (xs.map fun l => sT (sx l))
  | [], xs, h => by cases h; trivial
  | e :: r, xs, h => by
    unfold strsOf at h
    split at h
    · rename_i e'; cases e'
    · rename_i x _ _ _ e'
      cases e'
      cases hr : strsOf r with
      | none => rw [hr] at h; cases h
      | some ys => rw [hr] at h; cases h; exact ⟨Ev.lit (str_sx x), evs_strs hr⟩
    · cases h
theorem Ev.nats {X : Fx} {m : Str → Option Value} {N : List (Addr × Obj)} {es : List Expr} {pos : Pos} (xs : List Nat) (h : natsOf es = some xs) (hn : Nat.ble es.length 1000 = true) (hp : es.all plainE = true) : Ev X m N (.List es pos) (nL (Lst fI xs)) :=
  Ev.list (evs_nats h) (fun _ _ _ hv => all_fI (xs := xs) hv) (Nat.le_of_ble_eq_true hn) hp
theorem Ev.strs {X : Fx} {m : Str → Option Value} {N : List (Addr × Obj)} {es : List Expr} {pos : Pos} (xs : List (List Nat)) (h : strsOf es = some xs) (hn : Nat.ble es.length 1000 = true) (hp : es.all plainE = true) : Ev X m N (.List es pos) (nL (Lst fS xs)) :=
  Ev.list (evs_strs h) (fun _ _ _ hv => all_fS (xs := xs) hv) (Nat.le_of_ble_eq_true hn) hp
@[irreducible] def codes20 : List Nat := [97, 98, 47, 47, 42, 37, 0, 31, 32, 127, 233, 8232, 8233, 8231, 8234, 97, 38, 305, 160, 126]
@[irreducible] def words12 : List (List Nat) := [[98], [99], [47], [97, 47], [98, 47, 97], [105, 110, 98, 111, 120], [73, 78, 66, 79, 88], [159], [128], [73], [99, 47, 98, 47, 97], [97, 98]]
@[irreducible] def menu : List (List Nat) := (codes20.map fun c => [c]) ++ words12
def sgn (c : Int) : List Nat := menu.getD (c.fmod 32).toNat []
section
variable {prog : Program} {w : World} {mg mb : Str → Option Value} {t y x : Tok} {l p q : List Nat} {lv : Nat}
theorem f_sign {c : Int} : Fn prog w (Wd (KK w) mg mb) 1 224 [.int c t] (sT (sx (sgn c))) := by
  refine Fn.intro (K := KK w) rfl rfl rfl Wd.kn rfl rfl (by decide) (fun A h0 L hA hW => ?_)
  refine @Go.assignN _ _ _ _ _ _ _ _ _ (fun o => ∃ vs n, o = lo vs n ∧ Lst fI codes20 vs) ?_ (fun a o ⟨vs, n, ho, hvs⟩ => ?_) (by kernel_rfl) rfl rfl
  · refine @Ev.nats _ _ _ _ _ codes20 ?_ ?_ ?_ <;> kernel_rfl
  subst ho
  have hm := Int.fmod_nonneg_of_pos c (show (0 : Int) < 32 by decide)
  have hm2 := Int.fmod_lt_of_pos c (show (0 : Int) < 32 by decide)
  refine @Go.assignN _ _ _ _ _ _ _ _ _ (fun o => ∃ vs n, o = lo vs n ∧ Lst fS menu vs) ?_ (fun a2 o ⟨vs2, n2, ho, hvs2⟩ => ?_) (by kernel_rfl) rfl rfl
  · have hl20 : vs.length = 20 := by rw [hvs.1]; decide +kernel
    refine @Ev.addL _ _ _ _ _ _ (Lst fS (codes20.map fun c => [c])) (Lst fS words12) _ (Ev.asL (Rn.mono (Ev.comp (n := vs.length) (P := fun i v => i < vs.length ∧ vs[i]? = some v) (F := fun v y => ∀ (n : Nat) (t : Tok), v = .int (n : Int) t → fS [n] y) (G := fun i y => ∃ n, codes20[i]? = some n ∧ fS [n] y) [] (Ev.name upd_self) (fun h0 v h st hs hs0 hv => ?_) (fun C g hg hN i v m' ⟨hi, hv⟩ hm => ?_) ?_ ?_ rfl (by decide) (by decide)) ?_)) (Ev.asL ?_) ?_
    · have hv : v = .ref a := hv
      subst hv
      exact (src_list (isList_of (hs.get (.head _))) hA.hd st (.inl ⟨_, hs.get (.head _)⟩)).bd
    · obtain ⟨n, hn, tn, rfl⟩ := hvs.2 i v hv
      have hlt : n < 1114112 := (show ∀ n ∈ codes20, n < 1114112 by decide +kernel) n (List.mem_of_getElem? hn)
      refine Ev.wk (P := pT (sx [n])) (Ev.b1 (g_chr (hW.stay hg)) (Ev.nameI hm) (k_chr hlt)) fun y ⟨u, e⟩ n' t' e' => ?_
      cases e'
      exact ⟨u, e⟩
    · rintro i v y ⟨hi, hv⟩ hf
      obtain ⟨n, hn, tn, rfl⟩ := hvs.2 i v hv
      exact ⟨n, hn, hf n tn rfl⟩
    · omega
    · rintro h v h' hs st ⟨a', o, e1, e2, e3, vs', n', e4, he⟩
      refine ⟨a', o, e1, e2, e3, vs', n', e4, Lst.each he (by simp [hvs.1]) fun i v hi ⟨n, hn, hf⟩ => ⟨[n], by simp [hn], hf⟩⟩
    · refine @Ev.strs _ _ _ _ _ words12 ?_ ?_ ?_ <;> kernel_rfl
    · intro v1 v2 h1 h2
      refine ⟨?_, ?_⟩
      · rw [menu]; exact h1.app h2
      · rw [h1.1, h2.1]; decide +kernel
  · subst ho
    have hml : menu.length = 32 := by decide +kernel
    refine Go.retZ (Ev.lstI (P := Lst fS menu) (P' := pT (sx (sgn c))) (i := (c.fmod 32).toNat) (Ev.lname upd_self (.head _) hvs2) (Ev.i (Ev.bin (Ev.nameI (upd_ne (upd_ne rfl))) Ev.int (o_mod (by decide))) (by omega)) (fun vs h => ?_) (by omega))
    have hlt : (c.fmod 32).toNat < menu.length := by rw [hml]; omega
    obtain ⟨v, e1, e2⟩ := h.get (List.getElem?_eq_getElem hlt)
    refine ⟨v, e1, ?_⟩
    rw [sgn, List.getD_eq_getElem?_getD, List.getElem?_eq_getElem hlt]
    exact e2
end
end Mine
end

section
open PySem PySem.W PySem.Calls PyProof.Rows PySem.Spec PySem.SeqAt
set_option Elab.async false
set_option linter.unusedVariables false
set_option linter.unusedSimpArgs false
set_option linter.deprecated false
set_option maxRecDepth 100000
namespace Mine
abbrev cls64 : Obj := excClassObj "NameFault" "NameFault" 64 63 [.ref 39] [.ref 39, .type "Exception", .type "BaseException", .type "object"] true [] [] false none none (some (.ref 55)) none (some (.str "NameFault" 245)) (some (.str "NameFault" 253)) (some (.bool true)) "Exception.__new__"
theorem K64 (w : World) : (KK w).lookup 64 = some cls64 := rfl
section
variable {prog : Program} {w : World} {A : Around} {E : Value → Shared → Prop} {h : Heap} {g : Array GenState} {d : Drawn} {t : Nat} {os : OsState} {R : Result → Shared → Prop}
theorem nf_check_new {M : Model} {rest : List Value} {Q : Unit → Shared → Prop} (hC : h.get? 64 = some cls64) (hq : Q () ⟨h, g, d, t, os⟩) : wpAny M A (checkBuiltinCall "Exception.__new__" ⟨.ref 64 :: rest, []⟩) Q E ⟨h, g, d, t, os⟩ := by
  have F := PySem.F.excBase_Exception
  have hcont : (Value.ref 64 :: [Value.ref 39, .type "Exception", .type "BaseException", .type "object"]).contains (.type "Exception") = true := by decide
  have hstar := F.noStar
  simp only [checkBuiltinCall, F.newKind, F.newSplit, F.newRow]
  repeat (first | refine wpAny_loadPart_at hC ?_ | (refine wpAny_isSubtype_exc hC ?_; rw [hcont]) | refine wpAny_staticBase_exc hC ?_ | refine wpAny_madeBy_exc hC ?_ | simp only [bne_self_eq_false, Bool.false_eq_true, if_false] | wp_step)
  exact hq
theorem nf_new {rest : List Value} (hC : h.get? 64 = some cls64)
    (hq : R (.ok (.ret (.ref (h.objs.size + 1)))) ⟨(h.push { cls := .type "tuple", data := .seq rest.toArray }).push
      { cls := .ref 64, data := .fields #[.ref h.objs.size, .none, .none, .none, .bool false, .none] }, g, d, t, os⟩) (hrest : rest.length ≤ sizeLine) :
    codeAny (model prog w) A (.builtin "Exception.__new__" ⟨.ref 64 :: rest, []⟩) R ⟨h, g, d, t, os⟩ := by
  have F := PySem.F.excBase_Exception
  have hends := F.ends
  have hcB : (Value.ref 64 :: [Value.ref 39, .type "Exception", .type "BaseException", .type "object"]).contains (.type "Exception") = true := by decide
  have hcA : (Value.ref 64 :: [Value.ref 39, .type "Exception", .type "BaseException", .type "object"]).contains (.type "AttributeError") = false := by decide
  have hcN : (Value.ref 64 :: [Value.ref 39, .type "Exception", .type "BaseException", .type "object"]).contains (.type "NameError") = false := by decide
  refine codeAny_builtinAt F.entry ?_
  unfold Builtin.«BaseException.__new__»
  refine PySem.wpAt_bind ?_
  show PySem.wpAt _ _ _ (stack >>= _) _ _ _
  refine PySem.wpAt_bind (PySem.wpAt_stack fun p below => PySem.wpAt_of_wpAny ?_)
  wp_walk
  refine PySem.wpAt_of_wpAny ?_
  rw [F.owner]
  repeat (first | with_reducible refine wpAny_madeHere_exc F.canon hC ?_ | with_reducible refine wpAny_loadPart_at hC ?_ | (with_reducible refine wpAny_isSubtype_exc hC ?_; first | rw [hcB] | rw [hcA] | rw [hcN]) | wp_step)
  show R _ _
  rw [Heap.size_push]
  exact hq
theorem nf_lookup_init {M : Model} {m1 m2 : Str → Option Value} {f : Value} {o39 : Obj} {Q : Option Value → Shared → Prop} (hC : h.get? 64 = some cls64) (n1 : h.Ns 63 m1) (e1 : m1 "__init__" = none) {c0 : Value} {dd : Option Addr} {cd : ClassData} {sl : Array (Option Value)}
    (hA : h.get? 39 = some { cls := c0, dict := dd, data := .cls cd, slots := sl }) (n2 : h.Ns cd.ns m2) (e2 : m2 "__init__" = some f) (hq : Q (some f) ⟨h, g, d, t, os⟩) : wpAny M A (typeLookup (.ref 64) "__init__") Q E ⟨h, g, d, t, os⟩ := by
  rw [typeLookup_eq]
  refine wpAny_bind (wpAny_mroOf_exc hC ?_)
  rw [lookupAlong_cons]
  refine wpAny_bind (wpAny_classOwn_exc hC n1 ?_)
  rw [e1]
  rw [lookupAlong_cons]
  refine wpAny_bind (wpAny_classOwn_cls hA n2 ?_)
  rw [e2]
  exact wpAny_pure hq
end
end Mine
end

section
open PySem PySem.W PySem.Calls PyProof.Rows PySem.Spec PySem.SeqAt
set_option Elab.async false
set_option linter.unusedVariables false
set_option linter.unusedSimpArgs false
set_option linter.deprecated false
set_option maxRecDepth 100000
namespace Mine
open Builtin Builtin.ObjectAttr
-- a NameFault at hand
def nf0 (t : Addr) : Obj := { cls := .ref 64, data := .fields #[.ref t, .none, .none, .none, .bool false, .none] }
def nf1 (t D : Addr) : Obj := { cls := .ref 64, dict := some D, data := .fields #[.ref t, .none, .none, .none, .bool false, .none] }
section
variable {prog : Program} {w : World} {A : Around} {E : Value → Shared → Prop} {s : Shared} {R : Result → Shared → Prop}
theorem nf_check_init {e : Addr} {oe : Obj} {rest : List Value} {Q : Unit → Shared → Prop} (hC : s.heap.get? 64 = some cls64) (he : s.heap.get? e = some oe) (hcls : oe.cls = .ref 64) (hq : Q () s) :
    wpAny (model prog w) A (checkBuiltinCall "Exception.__init__" ⟨.ref e :: rest, []⟩) Q E s := by
  obtain ⟨h, g, d, t, os⟩ := s
  have F := PySem.F.excBase_Exception
  have hcB : (Value.ref 64 :: [Value.ref 39, .type "Exception", .type "BaseException", .type "object"]).contains (.type "Exception") = true := by decide
  have hshort := F.noStar
  simp only [checkBuiltinCall, F.initKind, F.initSplit, F.initRow]
  repeat (first | (with_reducible refine wpAny_loadPart_at he ?_; rw [hcls]) | with_reducible refine wpAny_loadPart_at hC ?_ | (with_reducible refine wpAny_isSubtype_exc hC ?_; rw [hcB]) | wp_step)
  refine wpAny_onRaise ?_
  rw [show ∀ (a b : String) (n : Nat), Bind.check ⟨.positional, "*", "Exception", .self, [⟨"args", .varPos, false⟩]⟩ a b n (List.map (fun x => x.fst) ({ pos := Value.ref e :: rest } : Args).kw) = pure () from
    fun a b n => check_star_args _ _ _ _ _ _]
  exact wpAny_pure hq
theorem nf_init0 {e : Addr} {t0 : Addr} {rest : List Value} {Q : Value → Shared → Prop} (hC : s.heap.get? 64 = some cls64) (he : s.heap.get? e = some (nf0 t0))
    (h : ∀ h' t, h'.get? e = some (nf0 t) → (∀ b ob, b ≠ e → s.heap.get? b = some ob → h'.get? b = some ob) → Q .none { s with heap := h' }) (hrest : rest.length ≤ 1000) :
    wpAny (model prog w) A (call (.builtin "Exception.__init__") (.ref e :: rest)) Q E s := by
  have F := PySem.F.excBase_Exception
  refine wpAny_call (codeAny_call_builtin F.init.plain F.initEntry (nf_check_init hC he rfl ?_))
  unfold Builtin.«BaseException.__init__»
  dsimp only
  rw [if_neg (by simp)]
  unfold newTuple Builtin.BaseException.bexcPut
  have he₁ := Heap.get?_push_of_some (h := s.heap) { cls := .type "tuple", data := .seq rest.toArray } he
  refine wpAny_bind (wpAny_newObj_type (wpAny_bind (wpAny_bind (wpAny_field he₁ rfl (x := .ref t0) rfl (wpAny_bind (wpAny_setField he₁ rfl (Nat.zero_lt_succ _) ?_))))) (by show rest.toArray.size ≤ sizeLine; rw [List.size_toArray, sizeLine_eq]; omega))
  refine wpAny_letGo (wpAny_pure (h _ s.heap.objs.size ?_ fun b ob hb hbo => ?_))
  · exact Heap.get?_update_self _ he₁ rfl
  · rw [Heap.get?_update_other _ _ (Ne.symm hb)]
    exact Heap.get?_push_of_some _ hbo
/-- what the dict of the fault holds -/
def Has (m : Str → Option Value) (o : Obj) : Prop := ∀ (h : Heap) (a : Addr), h.get? a = some o → h.Ns1 a m
theorem refuse64 (self : Value) : refuseLoop self "__setattr__" [.ref 64, .ref 39, .type "Exception", .type "BaseException", .type "object"] = pure () := by
  rw [refuseLoop_ref, refuseLoop_ref]
  exact PySem.F.store_Exception.passes self
theorem nf_set {e : Addr} {oe : Obj} {od : Option Obj} {name : Str} {v : Value} {Q : Unit → Shared → Prop} (X : (KK w).In s.heap) (I : InstAt s.heap e oe 64 od) (hn : takerIn (KK w) 64 name = some none)
    (h : ∀ tk b tk', wpAny (model prog w) A.in1 (storeInOwnDict (.ref e) (.ref 64) (.str name tk) name v b) (fun fin s' => match fin with | .done (.ret _) => Q () s' | _ => False) (fun e s' => E e s') { s with toks := tk' }) :
    wpAny (model prog w) A (setAttr (.ref e) name v) Q E s := by
  have SF := PySem.F.store_Exception
  have f3 := SF.slot.bind (.ref e)
  obtain ⟨cd, hc, ho⟩ : ∃ cd, clsIn (KK w) 64 = some cd ∧ cd.mro = [.ref 64, .ref 39, .type "Exception", .type "BaseException", .type "object"] := ⟨_, rfl, rfl⟩
  have sub : Looks (model prog w) s.heap (isInstance (.ref e) (.type "object")) true := I.type.andThen (looks_mroIn X rfl)
  obtain ⟨attr, ha, hr⟩ := Option.bind_eq_some_iff.mp hn
  have hm : Looks (model prog w) s.heap (mroOf (.ref 64)) cd.mro := (looks_clsIn X hc).andThen .now
  have L3 : Looks (model prog w) s.heap (storeTaker? attr) none := by
    cases attr with
    | none => exact .now
    | some a =>
      obtain ⟨b, hb, hb'⟩ := Option.map_eq_some_iff.mp hr
      refine (looks_takesIn X hb).andThen ?_
      cases b
      · exact .now
      · cases hb'
  unfold setAttr callSpecial? specialOf
  refine wpAny_bind (wpAny_mkText (wpAny_bind (wpAny_bind (wpAny_bind (I.type _ _ _ _ (fun _ _ z => z) (looks_findIn X (r := some (.builtin "object.__setattr__")) rfl _ _ _ _ (fun _ _ z => z) ?_))))))
  refine wpAny_holding (wpAny_bind (wpAny_of_eq f3 (wpAny_bind (wpAny_call ?_))))
  refine codeAny_call_builtin SF.slot.plain SF.entry (@check_slot (model prog w) _ _ _ "object.__setattr__" "object" "__setattr__" (.ref e) [.str name s.toks, v] [] _ SF.kind SF.split (sub.keeps fun _ _ z => z) (SF.args (.ref e) (.str name s.toks) v) ?_)
  show wpAny _ _ (Builtin.«object.__setattr__» ⟨[.ref e, .str name s.toks, v], []⟩) _ _ _
  rw [osa_eq, refuse_eq]
  refine wpAny_bind (wpAny_bind (I.type _ _ _ _ (fun _ _ z => z) (wpAny_bind (hm _ _ _ _ (fun _ _ z => z) ?_))))
  rw [ho, refuse64]
  refine wpAny_pure (wpAny_bind (I.type _ _ _ _ (fun _ _ z => z) (wpAny_bind (looks_findIn X ha _ _ _ _ (fun _ _ z => z) (wpAny_bind (L3 _ _ _ _ (fun _ _ z => z) ?_))))))
  refine wpAny_mono (h s.toks _ _) (fun fin s' hf => ?_) (fun e s' z => z)
  cases fin with
  | again c => exact hf.elim
  | done f =>
    cases f with
    | ret v => exact wpAny_pure (wpAny_pure hf)
    | next => exact hf.elim
    | brk => exact hf.elim
    | cont => exact hf.elim
/-- the first: the dict is made -/
theorem nf_own0 {e t : Addr} {name : Str} {v : Value} {b : Bool} {tk : Tok} {Q : Fin → Shared → Prop} (X : (KK w).In s.heap) (he : s.heap.get? e = some (nf0 t))
    (h : ∀ h' D oD tk', h'.get? e = some (nf1 t D) → h'.get? D = some oD → Has (fun y => if y = name then some v else none) oD → s.heap.get? D = none → (∀ c ob, c ≠ e → s.heap.get? c = some ob → h'.get? c = some ob) → Q (.done (.ret .none)) { s with heap := h', toks := tk' }) :
    wpAny (model prog w) A (storeInOwnDict (.ref e) (.ref 64) (.str name tk) name v b) Q E s := by
  obtain ⟨cd, hc, hd'⟩ : ∃ cd, clsIn (KK w) 64 = some cd ∧ cd.hasDict = true := ⟨_, rfl, rfl⟩
  refine wpAny_bind (wpAny_pure (wpAny_bind (wpAny_bind (wpAny_loadPart he (wpAny_bind ((looks_clsIn X hc).here ?_))))))
  rw [hd']
  have hx₁ : (s.heap.push { cls := .type "dict", data := .dict #[] }).get? e = some (nf0 t) := Heap.get?_push_of_some _ he
  have hxs : e ≠ s.heap.objs.size := Nat.ne_of_lt (Heap.lt_size he)
  refine wpAny_bind (wpAny_alloc' ?_)
  refine wpAny_bind (wpAny_update' hx₁ ?_)
  refine wpAny_pure ?_
  have hgd : ((s.heap.push { cls := .type "dict", data := .dict #[] }).update e fun o => { cls := o.cls, dict := some s.heap.objs.size, data := o.data, slots := o.slots }).get? s.heap.objs.size
      = some { cls := .type "dict", data := .dict #[] } := (Heap.get?_update_ne _ _ _ _ hxs.symm).trans (Heap.get?_push_at rfl rfl)
  have hnd : ((s.heap.push { cls := .type "dict", data := .dict #[] }).update e fun o => { cls := o.cls, dict := some s.heap.objs.size, data := o.data, slots := o.slots }).Ns s.heap.objs.size (fun _ => none) :=
    ⟨_, #[], _, hgd, rfl, fun e he => absurd he (by simp), fun _ => rfl⟩
  show wpAny _ _ (storeInDict s.heap.objs.size (.str name tk) name v) _ _ _
  unfold storeInDict newKeyGuard
  refine wpAny_bind (wpAny_pure (wpAny_bind (wpAny_nsSet1 (Heap.Ns1.of_empty hnd) fun h' hn' hs => ?_)))
  obtain ⟨oD, esD, epD, hoD, hdD, hcD⟩ := hn'.count (Within.cons name v Within.nil)
  refine wpAny_bind (wpAny_lookBehind hoD (by rw [hdD]; exact pastItsLine_dict (Nat.le_trans hcD (by rw [List.length_cons, List.length_nil, sizeLine_eq]; omega))) ?_)
  refine wpAny_pure (h h' _ oD _ ?_ hoD (fun h2 a e2 => ?_) (Heap.get?_none_of_le (Nat.le_refl _)) fun c ob hc hob => ?_)
  · exact (hs.2 e hxs).trans (Heap.get?_update_self _ hx₁ rfl)
  · obtain ⟨o', es, ep, e1, e2', e3, eu, e4⟩ := hn'
    obtain rfl := Option.some.inj (hoD.symm.trans e1)
    exact ⟨_, es, ep, e2, e2', e3, eu, e4⟩
  · exact (hs.2 c (Nat.ne_of_lt (Heap.lt_size hob))).trans ((Heap.get?_update_ne _ _ _ _ hc).trans (Heap.get?_push_of_some _ hob))
theorem nf_own1 {e t D : Addr} {oD : Obj} {mA : Str → Option Value} {name : Str} {v : Value} {b : Bool} {tk : Tok} {Q : Fin → Shared → Prop} (X : (KK w).In s.heap) (he : s.heap.get? e = some (nf1 t D)) (hD : s.heap.get? D = some oD) (hm : Has mA oD)
    (h : ∀ h' oD' tk', h'.get? D = some oD' → Has (fun y => if y = name then some v else mA y) oD' → (∀ c ob, c ≠ D → s.heap.get? c = some ob → h'.get? c = some ob) → Q (.done (.ret .none)) { s with heap := h', toks := tk' }) {ns : List Str} (hw : Within mA ns) (hz : ns.length ≤ 100) :
    wpAny (model prog w) A (storeInOwnDict (.ref e) (.ref 64) (.str name tk) name v b) Q E s := by
  obtain ⟨cd, hc, hd'⟩ : ∃ cd, clsIn (KK w) 64 = some cd ∧ cd.hasDict = true := ⟨_, rfl, rfl⟩
  refine wpAny_bind (wpAny_pure (wpAny_bind (wpAny_bind (wpAny_loadPart he (wpAny_bind ((looks_clsIn X hc).here ?_))))))
  rw [hd']
  refine wpAny_pure (a := some D) ?_
  show wpAny _ _ (storeInDict D (.str name tk) name v) _ _ _
  unfold storeInDict newKeyGuard
  refine wpAny_bind (wpAny_pure (wpAny_bind (wpAny_nsSet1 (hm _ _ hD) fun h' hn' hs => ?_)))
  obtain ⟨oD', esD, epD, hoD, hdD, hcD⟩ := hn'.count (Within.cons name v hw)
  refine wpAny_bind (wpAny_lookBehind hoD (by rw [hdD]; exact pastItsLine_dict (Nat.le_trans hcD (by rw [List.length_cons, sizeLine_eq]; omega))) ?_)
  refine wpAny_pure (h h' oD' _ hoD (fun h2 a e2 => ?_) fun c ob hcD hob => (hs.2 c hcD).trans hob)
  obtain ⟨o', es, ep, e1, e2', e3, eu, e4⟩ := hn'
  obtain rfl := Option.some.inj (hoD.symm.trans e1)
  exact ⟨_, es, ep, e2, e2', e3, eu, e4⟩
end
end Mine
end

section
open PySem PySem.W PySem.Calls PyProof.Rows PySem.Spec PySem.SeqAt
set_option Elab.async false
set_option linter.unusedVariables false
set_option linter.unusedSimpArgs false
set_option linter.deprecated false
set_option maxRecDepth 100000
namespace Mine
section
variable {X : Fx} {m : Str → Option Value} {N : List (Addr × Obj)} {Z : Zt} {rest : List Stmt} {mg mb : Str → Option Value} {w : World}
theorem Go.excInit {pE pS pW apos cpos epos : Pos} {e t : Addr} {v : Value} {pl : Sem Bool} (hC : X.h0.get? 64 = some cls64) (hf : Ev X m ((e, nf0 t) :: N) (.Name "Exception" pE) (sV (.type "Exception"))) (hs1 : m "self" = some (.ref e)) (hs2 : m "what" = some v) (k : ∀ t, Go X m ((e, nf0 t) :: N) rest Z)
    (hKI : (KK w).In X.h0)
    (hk : X.env.scope.kind = .function := by rfl) (hl1 : X.env.kindOf "self" = some .local := by rfl) (hl2 : X.env.kindOf "what" = some .local := by rfl)
    (he : eval (.Call (.Attribute (.Name "Exception" pE) "__init__" apos) [.Name "self" pS, .Name "what" pW] [] cpos) X.env = (do
        let ov ← eval (.Name "Exception" pE) X.env
        standAt apos.atName
        let (f, first) ← holding [ov] (getMethod ov "__init__" pl)
        callWith cpos f first (backTo cpos (starEach [.Name "self" pS, .Name "what" pW] X.env)) []) := by rfl)
    (hi : interactive X.env = false := by rfl) (hsw : swapsWith (.Call (.Attribute (.Name "Exception" pE) "__init__" apos) [.Name "self" pS, .Name "what" pW] [] cpos) none epos.line X.env = pure false := by rfl) :
    Go X m ((e, nf0 t) :: N) (.Expr (.Call (.Attribute (.Name "Exception" pE) "__init__" apos) [.Name "self" pS, .Name "what" pW] [] cpos) epos :: rest) Z := by
  intro Q E s hs q qe
  refine wpAny_execs_cons (wpAny_Expr_any (MethodCall_ (hf _ _ s hs fun u h1 tk1 st1 hu => ?_) he) hi hsw)
  have hu' : u = .type "Exception" := hu
  subst hu'
  refine method_type (K := KK w) (hs.stay st1).fr hKI (by kernel_rfl) (by decide +kernel) (v := .builtin "Exception.__init__") rfl rfl ?_
  have hany : ((backTo cpos (starEach [.Name "self" pS, .Name "what" pW] X.env)).any (·.1) || ([] : List (Option Str × Sem Value)).any (·.1.isNone)) = false := by rw [starEach_plain (by rfl)]; simp
  refine callWith_of (P := fun _ => True) hany (fun _ _ => ⟨.machine, .inr (.inl rfl), Looks.of_pure rfl⟩) ?_
  rw [starEach_plain (by rfl)]
  refine evalArgs_plain (Calls.spliced_cons (Ev.name hs1 hk hl1 (by decide) _ _ _ (hs.stay st1) fun v1 h2 tk2 st2 hv1 => Calls.spliced_cons (Ev.name hs2 hk hl2 (by decide) _ _ _ ((hs.stay st1).stay st2) fun v2 h3 tk3 st3 hv2 => Calls.spliced_nil ⟨trivial, ?_⟩)))
  have hv1' : v1 = .ref e := hv1
  have hv2' : v2 = v := hv2
  subst hv1' hv2'
  have S3 := ((hs.stay st1).stay st2).stay st3
  refine nf_init0 (rest := [v2]) (S3.base _ _ hC) (S3.get (.head _)) (fun h4 t' h4e h4k => ?_) (by simp)
  exact k t' _ _ _ (S3.turn .head h4e h4k) q qe
theorem Go.set0 {a : Str} {pA pS pW pos : Pos} {e t : Addr} {x : Str} {v : Value} (hKI : (KK w).In X.h0) (hw : X.w = w) (hn : takerIn (KK w) 64 a = some none) (hs1 : m "self" = some (.ref e)) (hs2 : m x = some v)
    (k : ∀ D oD, Has (fun y => if y = a then some v else none) oD → Go X m ((D, oD) :: (e, nf1 t D) :: N) rest Z)
    (hk : X.env.scope.kind = .function := by rfl) (hl1 : X.env.kindOf "self" = some .local := by rfl) (hl2 : X.env.kindOf x = some .local := by rfl) (hd : (x == ("__debug__" : Str)) = false := by decide)
    (hsw : swapsWith (.Name x pW) (some (.Attribute (.Name "self" pS) a pA)) pos.line X.env = pure false := by rfl) :
    Go X m ((e, nf0 t) :: N) (.Assign [.Attribute (.Name "self" pS) a pA] (.Name x pW) pos :: rest) Z := by
  intro Q E s hs q qe
  subst hw
  refine wpAny_execs_cons (plainObj_wpAny_Assign_Attribute (Ev.name hs2 hk hl2 hd _ _ s hs fun v2 h1 tk1 st1 hv2 => Ev.name hs1 hk hl1 (by decide) _ _ _ (hs.stay st1) fun v1 h2 tk2 st2 hv1 => ?_) hsw)
  have hv1' : v1 = .ref e := hv1
  have hv2' : v2 = v := hv2
  subst hv1' hv2'
  have S2 := (hs.stay st1).stay st2
  refine nf_set (od := none) (hKI.keeps S2.base) ⟨S2.get (.head _), rfl, rfl, trivial⟩ hn fun tk b tk' => ?_
  refine nf_own0 (hKI.keeps S2.base) (S2.get (.head _)) fun h' D oD tk'' he hD hm hn hk' => ?_
  have S3 : St X m ((e, nf1 t D) :: N) h' := S2.turn .head he hk'
  refine k D oD hm _ _ _ (S3.cons hD (fun z => ?_) (none_of_stays S2.base hn) fun p hp z => ?_) q qe
  · obtain ⟨o, _, _, ho, _⟩ := S2.fr.ns
    rw [← z, hn] at ho; cases ho
  · rcases List.mem_cons.mp hp with rfl | hp
    · have := S2.get (.head _)
      rw [show e = D from z, hn] at this; cases this
    · have := S2.get (a := p.1) (o := p.2) (.tail _ hp)
      rw [z, hn] at this; cases this
theorem Go.set1 {a : Str} {pA pS pW pos : Pos} {e t D : Addr} {oD : Obj} {x : Str} {v : Value} {mA : Str → Option Value} {ns : List Str} (hKI : (KK w).In X.h0) (hw : X.w = w) (hn : takerIn (KK w) 64 a = some none) (hs1 : m "self" = some (.ref e)) (hs2 : m x = some v)
    (hm : Has mA oD) (hwi : Within mA ns) (hz : ns.length ≤ 100)
    (k : ∀ oD, Has (fun y => if y = a then some v else mA y) oD → Go X m ((D, oD) :: (e, nf1 t D) :: N) rest Z)
    (hk : X.env.scope.kind = .function := by rfl) (hl1 : X.env.kindOf "self" = some .local := by rfl) (hl2 : X.env.kindOf x = some .local := by rfl) (hd : (x == ("__debug__" : Str)) = false := by decide)
    (hsw : swapsWith (.Name x pW) (some (.Attribute (.Name "self" pS) a pA)) pos.line X.env = pure false := by rfl) :
    Go X m ((D, oD) :: (e, nf1 t D) :: N) (.Assign [.Attribute (.Name "self" pS) a pA] (.Name x pW) pos :: rest) Z := by
  intro Q E s hs q qe
  subst hw
  refine wpAny_execs_cons (plainObj_wpAny_Assign_Attribute (Ev.name hs2 hk hl2 hd _ _ s hs fun v2 h1 tk1 st1 hv2 => Ev.name hs1 hk hl1 (by decide) _ _ _ (hs.stay st1) fun v1 h2 tk2 st2 hv1 => ?_) hsw)
  have hv1' : v1 = .ref e := hv1
  have hv2' : v2 = v := hv2
  subst hv1' hv2'
  have S2 := (hs.stay st1).stay st2
  refine nf_set (od := some oD) (hKI.keeps S2.base) ⟨S2.get (.tail _ (.head _)), rfl, rfl, S2.get (.head _)⟩ hn fun tk b tk' => ?_
  refine nf_own1 (hKI.keeps S2.base) (S2.get (.tail _ (.head _))) (S2.get (.head _)) hm (fun h' oD' tk'' hD hm' hk' => ?_) hwi hz
  exact k oD' hm' _ _ _ (S2.turn .head hD hk') q qe
end
/-- what a fault holds -/
abbrev mWA (v a : Value) : Str → Option Value := fun y => if y = "at" then some a else if y = "what" then some v else none
/-- into a def, with what may be raised -/
theorem enter {prog : Program} {w : World} {A : Around} {s : Shared} {R : Result → Shared → Prop} {K : Frag} {f : Addr} {args : List Value} {oc : Value} {od : Option Addr} {osl : Array (Option Value)} {fd : FuncData} {b0 : Stmt} {bs : List Stmt} {binds : List (Str × Value)} {h0 : Heap} {N : List (Addr × Obj)} {Z : Zt}
    (exc : Addr → Value → Heap → Prop) (pas : ∀ L (E : Value → Shared → Prop) (s : Shared) (e : Value), exc L e s.heap → (∀ e' h' tk, exc L e' h' → E e' { s with heap := h', toks := tk }) → notedBy (model prog w) (A.deeper (callEnv fd L f)) (callEnv fd L f) (cameBackBy (model prog w) (A.deeper (callEnv fd L f)) (callEnv fd L f) E) e s)
    (ho : K.lookup f = some ⟨oc, od, .func fd, osl⟩) (hb : fd.body = .stmts (b0 :: bs)) (hcd : codeIn K fd.code fd.qualname = true) (hki : K.In s.heap) (hnl : s.heap.NoLimit) (hdp : A.depth < recursionLimit)
    (hbind : BindsTo s fd ⟨args, []⟩ binds) (hloc : ∀ x ∈ binds, fd.scope.names.lookup x.1 = some .local) (hcell : ∀ x ∈ fd.scope.names, x.2 ≠ .cell)
    (k : h0.StaysIn s.heap) (hsz : h0.objs.size ≤ s.heap.objs.size) (hN : ∀ p ∈ N, s.heap.get? p.1 = some p.2 ∧ h0.get? p.1 = none) (nd : (N.map (·.1)).Nodup)
    (h : ∀ L, L = s.heap.objs.size → Go { prog := prog, w := w, A := A.deeper (callEnv fd L f), env := callEnv fd L f, h0 := h0, exc := exc L, pas := pas L } (fun x => binds.reverse.lookup x) N (b0 :: bs) Z)
    (q : ∀ fl h' tk m' N' (X : Fx), X.h0 = h0 → X.env.locals = s.heap.objs.size → St X m' N' h' → Z fl m' N' h' → R (.ok (.ret (match fl with | .ret v => v | _ => .none))) { s with heap := h', toks := tk })
    (qe : ∀ L e h' tk, L = s.heap.objs.size → exc L e h' → wpAny (model prog w) (A.deeper (callEnv fd L f)) (leaving (callEnv fd L f) e) (fun _ s'' => R (.error e) s'') (fun e' s'' => R (.error e') s'') { s with heap := h', toks := tk })
    (hco : fd.scope.isCoroutine = false := by rfl) (hgen : fd.scope.isGenerator = false := by rfl) (hk : fd.scope.kind = .function := by rfl) : codeAny (model prog w) A (.call (.ref f) ⟨args, []⟩) R s := by
  refine codeAny_call_def hdp (hki _ _ ho) rfl hnl (codeRec_of hki hcd) hb hbind hcell hloc (fun h1 hns hk1 => ?_) hco hgen hk
  refine h _ rfl _ _ _ ⟨⟨hns, fun b o z => hk1 _ _ (k _ _ z), hsz⟩, fun p hp => ⟨hk1 _ _ (hN p hp).1, Nat.ne_of_lt (Heap.lt_size (hN p hp).1), (hN p hp).2⟩, nd⟩ (fun fl m' N' h' tk hS hZ => ?_) fun e h' tk hx => qe _ e h' tk rfl hx
  exact q fl h' tk m' N' _ rfl rfl hS hZ
theorem nf_init {prog : Program} {w : World} {A : Around} {s : Shared} {R : Result → Shared → Prop} {mg mb : Str → Option Value} {h0 : Heap} {e t : Addr} {v a : Value} (hL : A.depth < recursionLimit) (hW : Wd (KK w) mg mb h0) (k : h0.StaysIn s.heap) (hsz : h0.objs.size ≤ s.heap.objs.size)
    (he : s.heap.get? e = some (nf0 t)) (hen : h0.get? e = none)
    (q : ∀ h' tk D oD t, h0.StaysIn h' → h'.get? e = some (nf1 t D) → h'.get? D = some oD → Has (mWA v a) oD → h0.get? D = none → R (.ok (.ret .none)) { s with heap := h', toks := tk }) :
    codeAny (model prog w) A (.call (.ref 29) ⟨[.ref e, v, a], []⟩) R s := by
  have hW' := hW.stay k
  refine enter (K := KK w) (binds := [("self", .ref e), ("what", v), ("at", a)]) (N := [(e, nf0 t)]) (Z := fun fl _ N h => fl = .next ∧ ∃ D oD t, h.get? e = some (nf1 t D) ∧ h.get? D = some oD ∧ Has (mWA v a) oD ∧ h0.get? D = none) (fun _ _ _ => False) (fun _ _ _ _ x => x.elim)
    rfl rfl (by rfl) hW'.ki hW'.nl hL (BindsTo.of_defaults rfl (hW'.ki 22 _ rfl) rfl rfl rfl) (fun x hx => ?_) (by decide) k hsz (fun p hp => ?_) (by simp) (fun L hLe => ?_) (fun fl h' tk m' N' X e1 e2 S hZ => ?_) (fun _ _ _ _ _ x => x.elim)
  · simp only [List.mem_cons, List.not_mem_nil, or_false] at hx
    rcases hx with rfl | rfl | rfl <;> rfl
  · obtain rfl := List.mem_singleton.mp hp
    exact ⟨he, hen⟩
  · refine Go.excInit (w := w) (hW.ki 64 _ rfl) (Ev.blt hW rfl rfl) rfl rfl (fun t => ?_) hW.ki
    refine Go.set0 (w := w) hW.ki rfl rfl rfl rfl fun D oD hm => ?_
    refine Go.set1 (w := w) (ns := ["what"]) hW.ki rfl rfl rfl rfl hm (Within.cons _ _ Within.nil) (by decide) fun oD' hm' => ?_
    exact Go.nil fun h hs => ⟨rfl, D, oD', t, hs.get (.tail _ (.head _)), hs.get (.head _), hm', (hs.nw _ (.head _)).2.2⟩
  · obtain ⟨rfl, D, oD, t, z1, z2, z3, z4⟩ := hZ
    exact q h' tk D oD t (e1 ▸ S.base) z1 z2 z3 z4
end Mine
end

section
open PySem PySem.W PySem.Calls PyProof.Rows PySem.Spec PySem.SeqAt
set_option Elab.async false
set_option linter.unusedVariables false
set_option linter.unusedSimpArgs false
set_option linter.deprecated false
set_option maxRecDepth 100000
namespace Mine
section
variable {prog : Program} {w : World} {A : Around} {E : Value → Shared → Prop} {s : Shared} {mg mb : Str → Option Value} {v a : Value}
theorem nf_type_call {Q : Fin → Shared → Prop} (hd : A.depth < recursionLimit) (hW : Wd (KK w) mg mb s.heap)
    (q : ∀ e h' tk D oD t, s.heap.StaysIn h' → s.heap.get? e = none → h'.get? e = some (nf1 t D) → h'.get? D = some oD → Has (mWA v a) oD → s.heap.get? D = none → Q (.done (.ret (.ref e))) { s with heap := h', toks := tk }) :
    wpAny (model prog w) A (Builtin.«type.__call__» ⟨.ref 64 :: [v, a], []⟩) Q E s := by
  obtain ⟨h, g, d, t, os⟩ := s
  have F := PySem.F.excBase_Exception
  have hC : h.get? 64 = some cls64 := hW.ki 64 _ rfl
  repeat (first | with_reducible refine wpAny_loadPart_at hC ?_ | with_reducible refine wpAny_madeBy_exc hC ?_ | wp_step)
  refine codeAny_call_builtin_code (Code.quiet_builtin _ F.quiet) (nf_check_new hC ?_)
  refine nf_new hC ?_ (by rw [sizeLine_eq]; simp)
  show wpAny _ _ _ _ _ _
  have st : h.StaysIn ((h.push { cls := .type "tuple", data := .seq [v, a].toArray }).push { cls := .ref 64, data := .fields #[.ref h.objs.size, .none, .none, .none, .bool false, .none] }) := fun b o e => Heap.get?_push_of_some _ (Heap.get?_push_of_some _ e)
  have hC₁ := st _ _ hC
  have hget : ((h.push { cls := .type "tuple", data := .seq [v, a].toArray }).push
      { cls := .ref 64, data := .fields #[.ref h.objs.size, .none, .none, .none, .bool false, .none] }).get? (h.objs.size + 1) = some
      { cls := .ref 64, data := .fields #[.ref h.objs.size, .none, .none, .none, .bool false, .none] } := by heap_get
  have hcC : (Value.ref 64 :: [Value.ref 39, .type "Exception", .type "BaseException", .type "object"]).contains (.ref 64) = true := by decide
  have hen : h.get? (h.objs.size + 1) = none := Heap.get?_none_of_le (by omega)
  generalize hh : ((h.push { cls := .type "tuple", data := .seq [v, a].toArray }).push { cls := .ref 64, data := .fields #[.ref h.objs.size, .none, .none, .none, .bool false, .none] }) = h2 at *
  have hW2 := hW.stay st
  unfold isInstance
  repeat (first | with_reducible refine wpAny_loadPart_at hget ?_ | (with_reducible refine wpAny_isSubtype_exc hC₁ ?_; rw [hcC]) | wp_step)
  show wpAny _ _ (typeLookup (.ref 64) _) _ _ _
  refine looks_findIn hW2.ki (r := some (.ref 29)) rfl _ _ _ _ (fun _ _ z => z) ?_
  refine wpAny_holding (wpAny_bind (wpAny_bindSpecial_def (of := _) (hW2.ki 29 _ rfl) rfl ?_))
  have hsz : h.objs.size ≤ h2.objs.size := by rw [← hh]; simp only [Heap.size_push]; omega
  refine wpAny_bind (wpAny_call (nf_init (h0 := h) hd hW st hsz hget hen fun h' tk D oD t k1 k2 k3 k4 k5 => ?_))
  wp_walk
  exact q _ _ _ _ _ _ k1 hen k2 k3 k4 k5
theorem nf_make {Q : Value → Shared → Prop} (hd : A.depth + 1 < recursionLimit) (hW : Wd (KK w) mg mb s.heap)
    (q : ∀ e h' tk D oD t, s.heap.StaysIn h' → s.heap.get? e = none → h'.get? e = some (nf1 t D) → h'.get? D = some oD → Has (mWA v a) oD → s.heap.get? D = none → Q (.ref e) { s with heap := h', toks := tk }) :
    wpAny (model prog w) A (call (.ref 64) [v, a]) Q E s := by
  have f1 := tc_lookup
  have f2 := tc_bind (.ref 64)
  obtain ⟨h, g, d, t, os⟩ := s
  have hC : h.get? 64 = some cls64 := hW.ki 64 _ rfl
  have hT : (⟨h, g, d, t, os⟩ : Shared).TypeIs (.ref 64) "type" := ⟨_, hC, rfl⟩
  refine wpAny_call (codeAny_of_tree ?_)
  show wpAny _ _ (callAny (.ref 64) _) _ _ _
  repeat (any_goals (first | assumption | with_reducible refine wpAny_loadPart_at hC ?_ | wp_step))
  refine ⟨rfl, ?_⟩
  refine codeAny_call_builtin_at (Code.quiet_builtin _ (by decide +kernel)) entry_typeCall (wpAny_check_type_call_sub hC (nf_type_call ?_ hW fun e h' tk D oD t k1 k2 k3 k4 k5 k6 => ?_))
  · exact hd
  · exact q e h' tk D oD t k1 k2 k3 k4 k5 k6
end
end Mine
end

section
open PySem PySem.W PySem.Calls PyProof.Rows PySem.Spec PySem.SeqAt
set_option Elab.async false
set_option linter.unusedVariables false
set_option linter.unusedSimpArgs false
set_option linter.deprecated false
set_option maxRecDepth 100000
namespace Mine
-- a fault on its way up: its dict is kept
def nfv (D : Addr) (vs : Array Value) : Obj := { cls := .ref 64, dict := some D, data := .fields vs }
def TrD (B : Heap) (e D : Addr) (fl : Value) (h : Heap) : Prop :=
  ∃ vs T oT ts, h.get? e = some (nfv D vs) ∧ vs[1]? = some (.ref T) ∧ B.get? T = none ∧ T ≠ e ∧ h.get? T = some oT ∧ oT.data = .fields ts ∧ ts[3]? = some fl
structure Air (B : Heap) (l : List Env) (e D : Addr) (fl : Value) (h : Heap) : Prop where
  stay : B.StaysIn h
  new : B.get? e = none
  fr : h.FunFrames B l
  tr : TrD B e D fl h
section
variable {M : Model} {A : Around} {E : Value → Shared → Prop} {s : Shared} {B : Heap} {env : Env} {outer l : List Env} {L e D : Addr}
/-- a new entry of the traceback -/
theorem entryD {vs : Array Value} {head : Value} {b : Bool} {Q : Unit → Shared → Prop} (hfr : A.frames = some (env :: outer)) (hf : env.frame = some L) (hB : B.StaysIn s.heap) (hen : B.get? e = none) (hl : s.heap.FunFrames B (env :: outer))
    (he : s.heap.get? e = some (nfv D vs)) (hz : 1 < vs.size)
    (q : ∀ h', Air B (env :: outer) e D (rawInt L) h' → s.heap.UpToSlots h' → Q () { s with heap := h' }) :
    wpAny M A (do let a ← frameOf env; let pl ← entryPlaceOf L b; let x ← EntryCells.newEntry head a .none (rawInt L) .none pl; setField (.ref e) 1 x) Q E s := by
  have nf : ∀ x ∈ (env :: outer).filterMap (·.frame), x ≠ e := fun x hx z => by
    obtain ⟨_, o, ho, hd⟩ := hl.mem hx
    rw [z, he] at ho; cases ho; exact hd _ rfl
  refine wpAny_bind (wpAny_frameOf_fun hfr hl hf fun h1 k1 => ?_)
  refine wpAny_bind (wpAny_entryPlaceOf fun pl hpl => ?_)
  unfold EntryCells.newEntry newFields
  refine wpAny_bind (wpAny_newObj_type ?_ (hpl.sizeOk5 _ _ _ _ _))
  have he1 : h1.get? e = some (nfv D vs) := (k1.2.1 e fun hm => nf e hm rfl).trans he
  have hB1 : B.StaysIn h1 := fun c o z => (k1.2.1 c fun hm => by rw [(hl.mem hm).1] at z; cases z).trans (hB c o z)
  have hTe : h1.objs.size ≠ e := Nat.ne_of_gt (Heap.lt_size he1)
  generalize hoT : ({ cls := .type "traceback", dict := none, data := .fields ([head, .ref L, .none, rawInt L, .none] ++ (if pl.isEmpty then List.replicate 6 Value.none else pl)).toArray } : Obj) = oT
  have he2 : (h1.push oT).get? e = some (nfv D vs) := Heap.get?_push_of_some _ he1
  have hT2 : (h1.push oT).get? h1.objs.size = some oT := Heap.get?_push_size _ (by rw [← hoT]; rfl)
  have hdT : ∃ ts, oT.data = .fields ts ∧ ts[3]? = some (rawInt L) := ⟨_, by rw [← hoT], by simp⟩
  have kp : ∀ c o, c ≠ e → h1.get? c = some o → ((h1.push oT).update e (Obj.mapFields (·.setIfInBounds 1 (Value.ref h1.objs.size)))).get? c = some o := fun c o hc ho => by
    rw [Heap.get?_update_other _ _ (Ne.symm hc)]; exact Heap.get?_push_of_some _ ho
  refine wpAny_setField he2 rfl hz (q _ ⟨fun c o z => kp c o (fun y => by rw [y, hen] at z; cases z) (hB1 c o z), hen, hl.of_keeps fun c o ho hd => ?_, ?_⟩ fun c o ho hd => ?_)
  · obtain ⟨sl, hs⟩ := k1.2.2 c o ho
    exact ⟨_, kp c _ (fun y => by rw [y, he] at ho; cases ho; exact hd _ rfl) hs, rfl⟩
  · obtain ⟨ts, h3, h4⟩ := hdT
    refine ⟨vs.setIfInBounds 1 (Value.ref h1.objs.size), h1.objs.size, oT, ts, Heap.get?_update_self _ he2 rfl, by simp [hz], hB1.fresh, hTe, ?_, h3, h4⟩
    rw [Heap.get?_update_other _ _ (Ne.symm hTe)]; exact hT2
  · obtain ⟨sl, hs⟩ := k1.2.2 c o ho
    exact ⟨sl, kp c _ (fun y => by rw [y, he] at ho; cases ho; exact hd _ rfl) hs⟩
/-- the first frame that it meets -/
theorem noteD_first {t : Addr} {Q : Unit → Shared → Prop} (hfr : A.frames = some (env :: outer)) (hf : env.frame = some L) (hB : B.StaysIn s.heap) (hen : B.get? e = none) (hl : s.heap.FunFrames B (env :: outer)) (he : s.heap.get? e = some (nf1 t D))
    (q : ∀ h', Air B (env :: outer) e D (rawInt L) h' → s.heap.UpToSlots h' → Q () { s with heap := h' }) : wpAny M A (noteFrame (.ref e) env) Q E s := by
  unfold noteFrame
  simp only [hf]
  refine wpAny_bind (wpAny_field he rfl (x := .none) rfl ?_)
  rw [if_neg (by decide)]
  exact entryD hfr hf hB hen hl he (Nat.succ_lt_succ (Nat.zero_lt_succ _)) q
theorem noteD_again {Q : Unit → Shared → Prop} (hf : env.frame = some L) (H : TrD B e D (rawInt L) s.heap) (q : Q () s) : wpAny M A (noteFrame (.ref e) env) Q E s := by
  obtain ⟨vs, T, oT, ts, he, h1, hnT, hTe, hT, hdT, h3⟩ := H
  unfold noteFrame
  simp only [hf]
  refine wpAny_bind (wpAny_field he rfl h1 ?_)
  rw [if_pos (show (Value.ref T != Value.none) = true from by simp)]
  refine wpAny_bind (wpAny_field hT hdT h3 ?_)
  rw [if_pos (show (rawInt L == rawInt L) = true from by simp)]
  exact wpAny_pure q
/-- the field 3 of the entry at hand is written -/
theorem TrD.put {fl v : Value} (H : Air B l e D fl s.heap) : ∃ vs T oT ts, s.heap.get? e = some (nfv D vs) ∧ vs[1]? = some (.ref T) ∧ s.heap.get? T = some oT ∧ oT.data = .fields ts ∧ ts[3]? = some fl ∧
    ∀ {Q : Unit → Shared → Prop}, (∀ h', Air B l e D v h' → s.heap.UpToSlots h' → h'.get? e = some (nfv D vs) → Q () { s with heap := h' }) → wpAny M A (setField (.ref T) 3 v) Q E s := by
  obtain ⟨hB, hen, hl, vs, T, oT, ts, he, h1, hnT, hTe, hT, hdT, h3⟩ := H
  have hz : 3 < ts.size := (Array.getElem?_eq_some_iff.mp h3).1
  have ot : ∀ c, c ≠ T → (s.heap.update T (Obj.mapFields (·.setIfInBounds 3 v))).get? c = s.heap.get? c := fun c hc => Heap.get?_update_other _ _ (Ne.symm hc)
  have nr : ∀ c o, s.heap.get? c = some o → (∀ vs, o.data ≠ .fields vs) → c ≠ T := fun c o ho hd z => by
    rw [z, hT] at ho; cases ho; exact hd _ hdT
  refine ⟨vs, T, oT, ts, he, h1, hT, hdT, h3, fun q => wpAny_setField hT hdT hz (q _ ⟨fun c o z => (ot c fun y => by rw [y, hnT] at z; cases z).trans (hB c o z), hen,
    hl.of_keeps fun c o ho hd => ⟨o, (ot c (nr c o ho hd)).trans ho, rfl⟩, vs, T, _, _, (ot e (Ne.symm hTe)).trans he, h1, hnT, hTe, Heap.get?_update_self _ hT (Obj.isFreed_of_fields (Obj.data_mapFields hdT _)), Obj.data_mapFields hdT _, by simp [hz]⟩
    (fun c o ho hd => ⟨o.slots, (ot c (nr c o ho hd)).trans ho⟩) ((ot e (Ne.symm hTe)).trans he))⟩
theorem flightD {fl : Value} {f : Option Addr} {Q : Unit → Shared → Prop} (H : Air B l e D fl s.heap)
    (q : ∀ h', Air B l e D (f.elim .none fun f => rawInt f) h' → s.heap.UpToSlots h' → Q () { s with heap := h' }) : wpAny M A (setFlight (.ref e) f) Q E s := by
  obtain ⟨vs, T, oT, ts, he, h1, hT, hdT, h3, k⟩ := TrD.put (M := M) (A := A) (E := E) (v := f.elim .none fun f => rawInt f) H
  unfold setFlight
  refine wpAny_bind (wpAny_field he rfl h1 ?_)
  rw [if_pos (show (Value.ref T != Value.none) = true from by simp)]
  exact k fun h' H' k' _ => q h' H' k'
/-- a later frame -/
theorem noteD_next {Q : Unit → Shared → Prop} (hfr : A.frames = some (env :: outer)) (hf : env.frame = some L) (H : Air B (env :: outer) e D .none s.heap)
    (q : ∀ h', Air B (env :: outer) e D (rawInt L) h' → s.heap.UpToSlots h' → Q () { s with heap := h' }) : wpAny M A (noteFrame (.ref e) env) Q E s := by
  obtain ⟨vs, T, oT, ts, he, h1, hT, hdT, h3, k⟩ := TrD.put (M := M) (A := A) (E := E) (v := .none) H
  unfold noteFrame
  simp only [hf]
  refine wpAny_bind (wpAny_field he rfl h1 ?_)
  rw [if_pos (show (Value.ref T != Value.none) = true from by simp)]
  refine wpAny_bind (wpAny_field hT hdT h3 ?_)
  rw [if_neg (show ¬ ((Value.none == rawInt L) = true) from by simp [rawInt])]
  refine wpAny_bind (k fun h' H' k' he' => ?_)
  exact entryD hfr hf H'.stay H'.new H'.fr he' (Array.getElem?_eq_some_iff.mp h1).1 fun h2 H2 k2 => q h2 H2 (k'.trans k2)
/-- out of a frame -/
theorem Air.drop {fl : Value} {h : Heap} (H : Air B (env :: outer) e D fl h) : Air B outer e D fl h := ⟨H.stay, H.new, H.fr.2.2, H.tr⟩
theorem leaveD_held {Q : Unit → Shared → Prop} (hf : env.frame = some L) (H : Air B (env :: outer) e D (rawInt L) s.heap) (q : ∀ h', Air B outer e D .none h' → s.heap.UpToSlots h' → Q () { s with heap := h' }) : wpAny M A (leaving env (.ref e)) Q E s := by
  unfold leaving
  exact wpAny_bind (noteD_again hf H.tr (flightD H fun h' H' k' => q h' H'.drop k'))
theorem leaveD_first {t : Addr} {Q : Unit → Shared → Prop} (hfr : A.frames = some (env :: outer)) (hf : env.frame = some L) (hB : B.StaysIn s.heap) (hen : B.get? e = none) (hl : s.heap.FunFrames B (env :: outer)) (he : s.heap.get? e = some (nf1 t D))
    (q : ∀ h', Air B outer e D .none h' → s.heap.UpToSlots h' → Q () { s with heap := h' }) : wpAny M A (leaving env (.ref e)) Q E s := by
  unfold leaving
  exact wpAny_bind (noteD_first hfr hf hB hen hl he fun h1 H1 k1 => flightD (s := { s with heap := h1 }) H1 fun h' H' k' => q h' H'.drop (k1.trans k'))
theorem leaveD_next {Q : Unit → Shared → Prop} (hfr : A.frames = some (env :: outer)) (hf : env.frame = some L) (H : Air B (env :: outer) e D .none s.heap)
    (q : ∀ h', Air B outer e D .none h' → s.heap.UpToSlots h' → Q () { s with heap := h' }) : wpAny M A (leaving env (.ref e)) Q E s := by
  unfold leaving
  exact wpAny_bind (noteD_next hfr hf H fun h1 H1 k1 => flightD (s := { s with heap := h1 }) H1 fun h' H' k' => q h' H'.drop (k1.trans k'))
/-- it comes back from an own activation -/
theorem backD (hf : env.frame = some L) (H : Air B l e D (rawInt L) s.heap) (q : ∀ h', Air B l e D (rawInt L) h' → s.heap.UpToSlots h' → E (.ref e) { s with heap := h' }) : cameBackBy M A env E (.ref e) s := by
  obtain ⟨vs, T, oT, ts, he, h1, _⟩ := H.tr
  unfold cameBackBy
  refine wpAny_bind (wpAny_field he rfl h1 ?_)
  rw [if_neg (by simp)]
  rw [hf]
  exact flightD (f := some L) H q
end
end Mine
end

section
open PySem PySem.W PySem.Calls PyProof.Rows PySem.Spec PySem.SeqAt
set_option Elab.async false
set_option linter.unusedVariables false
set_option linter.unusedSimpArgs false
set_option linter.deprecated false
set_option maxRecDepth 100000
namespace Mine
abbrev frs (l : List Env) : List Addr := l.filterMap (·.frame)
structure Flt (g : Heap) (l : List Env) (B : Heap) (e D : Addr) (bad : Int → Prop) : Prop where
  gb : ∀ b o, g.get? b = some o → b ∉ frs l → B.get? b = some o
  ge : g.get? e = none
  gd : g.get? D = none
  has : ∃ oD v k tk, B.get? D = some oD ∧ Has (mWA v (.int k tk)) oD ∧ bad k
def Rsd (g : Heap) (l : List Env) (bad : Int → Prop) (ev : Value) (h : Heap) : Prop := ∃ e B D, ev = .ref e ∧ Air B l e D .none h ∧ Flt g l B e D bad ∧ g.UpToSlots h
def HeldX (g : Heap) (env : Env) (l : List Env) (L : Addr) (bad : Int → Prop) (ev : Value) (h : Heap) : Prop := ∃ e B D, ev = .ref e ∧ Air B (env :: l) e D (rawInt L) h ∧ Flt g l B e D bad ∧ g.UpToSlots h
def MadeX (g : Heap) (L : Addr) (bad : Int → Prop) (ev : Value) (h : Heap) : Prop := ∃ e t D oD v k tk m, ev = .ref e ∧ h.Ns L m ∧ g.StaysIn h ∧ h.get? e = some (nf1 t D) ∧ g.get? e = none ∧ g.get? D = none ∧ D ≠ L ∧ h.get? D = some oD ∧ Has (mWA v (.int k tk)) oD ∧ bad k
def Frm (g : Heap) (l : List Env) : Prop := ∃ base, base.StaysIn g ∧ g.FunFrames base l
theorem Has.dict {m : Str → Option Value} {o : Obj} {h : Heap} {a : Addr} (H : Has m o) (e : h.get? a = some o) : ∃ es n, o.data = .dict es n := by
  obtain ⟨o', es, ep, e1, e2, _⟩ := H h a e
  rw [e] at e1; cases e1
  exact ⟨es, ep, e2⟩
theorem made_ready {g h : Heap} {env : Env} {l : List Env} {L : Addr} {bad : Int → Prop} {ev : Value} (hk : env.scope.kind = .function) (hf : env.frame = some L) (hF : Frm g l) (hL : g.get? L = none) (H : MadeX g L bad ev h) :
    ∃ e t B D, ev = .ref e ∧ h.get? e = some (nf1 t D) ∧ B.StaysIn h ∧ B.get? e = none ∧ h.FunFrames B (env :: l) ∧ Flt g l B e D bad ∧ g.UpToSlots h := by
  obtain ⟨e, t, D, oD, v, k, tk, m, rfl, hn, hg, he, ge, gd, hDL, hD, hm, hb⟩ := H
  obtain ⟨base, hb1, hb2⟩ := hF
  have hbL : base.get? L = none := none_of_stays hb1 hL
  have hl : h.FunFrames base (env :: l) := .cons (by rw [hk]; decide) hf hn hbL (hb2.of_keeps fun b o e _ => ⟨o, hg b o e, rfl⟩)
  have hm' : ∀ b, b ∈ frs (env :: l) → b = L ∨ (b ∈ frs l ∧ ∃ o, g.get? b = some o) := fun b hb => by
    obtain ⟨x, hx, hxf⟩ := List.mem_filterMap.mp hb
    rcases List.mem_cons.mp hx with rfl | hx
    · exact .inl (Option.some.inj (hxf.symm.trans hf))
    · have := List.mem_filterMap.mpr ⟨x, hx, hxf⟩
      obtain ⟨_, o, ho, _⟩ := hb2.mem this
      exact .inr ⟨this, o, ho⟩
  refine ⟨e, t, hideAll h (e :: frs (env :: l)), D, rfl, he, fun b o q => of_hideAll _ q, hideAll_none _ (.head _), funFrames_hide hl fun x hx a ha => .tail _ (List.mem_filterMap.mpr ⟨x, hx, ha⟩), ⟨fun b o ho hnb => ?_, ge, gd, oD, v, k, tk, ?_, hm, hb⟩, Heap.UpToSlots.of_keeps hg⟩
  · refine hideAll_get _ (hg b o ho) fun z => ?_
    rcases List.mem_cons.mp z with rfl | z
    · rw [ge] at ho; cases ho
    · rcases hm' b z with rfl | ⟨z, _⟩
      · rw [hL] at ho; cases ho
      · exact hnb z
  · refine hideAll_get _ hD fun z => ?_
    rcases List.mem_cons.mp z with rfl | z
    · obtain ⟨es, n, hd⟩ := hm.dict hD
      rw [hD] at he; cases he; cases hd
    · rcases hm' D z with z | ⟨_, o, ho⟩
      · exact hDL z
      · rw [gd] at ho; cases ho
section
variable {M : Model} {A : Around} {E : Value → Shared → Prop} {s : Shared} {g : Heap} {env : Env} {l : List Env} {L : Addr} {bad : Int → Prop} {ev : Value}
theorem made_leaves {Q : Unit → Shared → Prop} (hfr : A.frames = some (env :: l)) (hk : env.scope.kind = .function) (hf : env.frame = some L) (hF : Frm g l) (hL : g.get? L = none) (H : MadeX g L bad ev s.heap)
    (q : ∀ h', Rsd g l bad ev h' → Q () { s with heap := h' }) : wpAny M A (leaving env ev) Q E s := by
  obtain ⟨e, t, B, D, rfl, he, hB, hen, hl, hflt, hu⟩ := made_ready hk hf hF hL H
  exact leaveD_first hfr hf hB hen hl he fun h' H' k => q h' ⟨e, B, D, rfl, H', hflt, hu.trans k⟩
theorem held_leaves {Q : Unit → Shared → Prop} (hf : env.frame = some L) (H : HeldX g env l L bad ev s.heap)
    (q : ∀ h', Rsd g l bad ev h' → Q () { s with heap := h' }) : wpAny M A (leaving env ev) Q E s := by
  obtain ⟨e, B, D, rfl, H, hflt, hu⟩ := H
  exact leaveD_held hf H fun h' H' k => q h' ⟨e, B, D, rfl, H', hflt, hu.trans k⟩
theorem pas_x (hfr : A.frames = some (env :: l)) (hk : env.scope.kind = .function) (hf : env.frame = some L) (hF : Frm g l) (hL : g.get? L = none) (H : MadeX g L bad ev s.heap ∨ HeldX g env l L bad ev s.heap)
    (q : ∀ e' h' tk, MadeX g L bad e' h' ∨ HeldX g env l L bad e' h' → E e' { s with heap := h', toks := tk }) : notedBy M A env (cameBackBy M A env E) ev s := by
  rcases H with H | H
  · obtain ⟨e, t, B, D, rfl, he, hB, hen, hl, hflt, hu⟩ := made_ready hk hf hF hL H
    exact noteD_first hfr hf hB hen hl he fun h1 H1 k1 => backD (s := { s with heap := h1 }) hf H1 fun h' H' k => q _ h' s.toks (.inr ⟨e, B, D, rfl, H', hflt, (hu.trans k1).trans k⟩)
  · obtain ⟨e, B, D, rfl, H, hflt, hu⟩ := H
    exact noteD_again hf H.tr (backD hf H fun h' H' k => q _ h' s.toks (.inr ⟨e, B, D, rfl, H', hflt, hu.trans k⟩))
/-- a later frame is left -/
theorem rsd_leaves {g1 : Heap} {Q : Unit → Shared → Prop} (hfr : A.frames = some (env :: l)) (hf : env.frame = some L) (hF : Frm g l) (hL : g.get? L = none) (hg : g.StaysIn g1) (H : Rsd g1 (env :: l) bad ev s.heap)
    (q : ∀ h', Rsd g l bad ev h' → Q () { s with heap := h' }) : wpAny M A (leaving env ev) Q E s := by
  obtain ⟨e, B, D, rfl, H, hflt, hu⟩ := H
  refine leaveD_next hfr hf H fun h' H' k => q h' ⟨e, B, D, rfl, H', ⟨fun b o ho hnb => hflt.gb b o (hg b o ho) fun z => ?_, none_of_stays hg hflt.ge, none_of_stays hg hflt.gd, hflt.has⟩, ((Heap.UpToSlots.of_keeps hg).trans hu).trans k⟩
  obtain ⟨x, hx, hxf⟩ := List.mem_filterMap.mp z
  rcases List.mem_cons.mp hx with rfl | hx
  · rw [Option.some.inj (hxf.symm.trans hf), hL] at ho; cases ho
  · exact hnb (List.mem_filterMap.mpr ⟨x, hx, hxf⟩)
end
end Mine
end

section
open PySem PySem.W PySem.Calls PyProof.Rows PySem.Spec PySem.SeqAt
set_option Elab.async false
set_option linter.unusedVariables false
set_option linter.unusedSimpArgs false
set_option linter.deprecated false
set_option maxRecDepth 100000
namespace Mine
theorem kp64 (w : World) : keepIn (KK w) (.ref 64) = true := by rfl
theorem nf_raiseStmt {M : Model} {A : Around} {E : Value → Shared → Prop} {s : Shared} {env : Env} {x : Sem Value} {Q : Flow → Shared → Prop} (hh : A.handled = none)
    (h : wpAny M A x (fun v s₁ => ∃ e t D, v = .ref e ∧ s₁.heap.get? 64 = some cls64 ∧ s₁.heap.get? e = some (nf1 t D) ∧ E (.ref e) s₁) E s) : wpAny M A (raiseStmt env (some x) none) Q E s := by
  have hcB : (Value.ref 64 :: [Value.ref 39, .type "Exception", .type "BaseException", .type "object"]).contains (.type "BaseException") = true := by decide
  unfold raiseStmt
  refine wpAny_bind (wpAny_mono h (fun v s₁ h₁ => ?_) fun _ _ x => x)
  obtain ⟨e, t, D, rfl, hC, he, hE⟩ := h₁
  unfold nf1 at he
  obtain ⟨hp, g, d, tk, os⟩ := s₁
  repeat (first | with_reducible refine wpAny_loadPart_at he ?_ | with_reducible refine wpAny_loadPart_at hC ?_ | (with_reducible refine wpAny_isSubtype_exc hC ?_; rw [hcB]) | wp_step)
  exact wpAny_raiseNew_none hh hE
section
variable {X : Fx} {m : Str → Option Value} {N : List (Addr × Obj)} {Z : Zt} {rest : List Stmt} {mg mb : Str → Option Value} {w : World} {bad : Int → Prop}
theorem Go.raise {x : Str} {np cpos pos : Pos} {e1 e2 : Expr} {P1 : Value → Prop} {k : Int} (hw : X.w = w) (hA : X.A.handled = none) (hd : X.A.depth + 1 < recursionLimit) (hW : Wd (KK w) mg mb X.h0)
    (hf : Ev X m N (.Name x np) (sV (.ref 64))) (h1 : Ev X m N e1 (.pl P1)) (h2 : Ev X m N e2 (sI k)) (hb : bad k) (hx : ∀ ev h, MadeX X.h0 X.env.locals bad ev h → X.exc ev h)
    (hp : [e1, e2].all plainE = true := by rfl)
    (he : eval (.Call (.Name x np) [e1, e2] [] cpos) X.env = (do callWith cpos (← eval (.Name x np) X.env) [] (backTo cpos (starEach [e1, e2] X.env)) (backToKw cpos (keywordEach [] X.env))) := by rfl) :
    Go X m N (.Raise (some (.Call (.Name x np) [e1, e2] [] cpos)) none pos :: rest) Z := by
  intro Q E s hs q qe
  subst hw
  refine wpAny_execs_cons ?_
  rw [arm_exec_Raise]
  refine wpAny_bind (wpAny_standAt (nf_raiseStmt hA (wpAny_bind (wpAny_mono (Call_ (hf _ _ s hs fun v g1 tk1 st1 hv => ?_) he) (fun v s₃ h₃ => wpAny_bind (wpAny_standAt (wpAny_pure h₃))) fun _ _ x => x))))
  have hv : v = .ref 64 := hv
  subst hv
  have S1 := hs.stay st1
  refine callWith_of (P := St X m N) (by rw [starEach_plain hp]; rfl) (fun h S => keep_def hW (kp64 _) h S) ?_
  rw [starEach_plain hp]
  refine evalArgs_plain (Calls.spliced_cons (h1 _ _ _ S1 fun v1 g2 tk2 st2 hv1 => Calls.spliced_cons (h2 _ _ _ (S1.stay st2) fun v2 g3 tk3 st3 hv2 => Calls.spliced_nil ?_)))
  have S3 := (S1.stay st2).stay st3
  obtain ⟨tt, rfl⟩ := hv2
  refine ⟨S3, nf_make hd (hW.stay S3.base) fun e h' tk D oD t k1 k2 k3 k4 k5 k6 => ⟨e, t, D, rfl, k1 _ _ (S3.base _ _ (hW.ki 64 _ rfl)), k3, ?_⟩⟩
  refine qe (.ref e) h' tk (hx _ _ ⟨e, t, D, oD, v1, k, tt, m, rfl, (S3.stay k1).fr.ns, (S3.stay k1).base, k3, none_of_stays S3.base k2, none_of_stays S3.base k6, fun z => ?_, k4, k5, hb⟩)
  obtain ⟨o, _, _, ho, _⟩ := S3.fr.ns
  rw [← z, k6] at ho; cases ho
end
/-- a def that may raise a fault -/
def FnE (prog : Program) (w : World) (W : Heap → Prop) (lv : Nat) (f : Addr) (args : List Value) (sp : Sp) (ok : Prop) (bad : Int → Prop) : Prop :=
  ∀ (A : Around) (s : Shared) (R : Result → Shared → Prop) (l : List Env), Lv A lv → A.frames = some l → Frm s.heap l → W s.heap →
    (∀ v h' tk, ok → s.heap.StaysIn h' → sp.Is s.heap v h' → R (.ok (.ret v)) { s with heap := h', toks := tk }) → (∀ ev h' tk, Rsd s.heap l bad ev h' → R (.error ev) { s with heap := h', toks := tk }) →
    codeAny (model prog w) A (.call (.ref f) ⟨args, []⟩) R s
theorem FnE.intro {prog : Program} {w : World} {W : Heap → Prop} {lv : Nat} {f : Addr} {args : List Value} {sp : Sp} {ok : Prop} {bad : Int → Prop} {K : Frag} {oc : Value} {od : Option Addr} {osl : Array (Option Value)} {fd : FuncData} {b0 : Stmt} {bs : List Stmt} {binds : List (Str × Value)}
    (ho : K.lookup f = some ⟨oc, od, .func fd, osl⟩) (hb : fd.body = .stmts (b0 :: bs)) (hcd : codeIn K fd.code fd.qualname = true) (hW : ∀ h, W h → K.In h ∧ h.NoLimit)
    (hbind : bindArgs fd ⟨args, []⟩ = pure binds) (hloc : (binds.all fun x => decide (fd.scope.names.lookup x.1 = some .local)) = true)
    (hcell : ∀ x ∈ fd.scope.names, x.2 ≠ .cell)
    (hk : fd.scope.kind = .function) (hfm : ∀ L, (callEnv fd L f).frame = some L)
    (h : ∀ A h0 L exc (pas : ∀ (E : Value → Shared → Prop) (s : Shared) (e : Value), exc e s.heap → (∀ e' h' tk, exc e' h' → E e' { s with heap := h', toks := tk }) → notedBy (model prog w) A (callEnv fd L f) (cameBackBy (model prog w) A (callEnv fd L f) E) e s), Lv A lv → W h0 → (∀ ev h, MadeX h0 L bad ev h → exc ev h) →
      Go ⟨prog, w, A, callEnv fd L f, h0, exc, pas⟩ (fun x => binds.reverse.lookup x) [] (b0 :: bs) (fun fl m N h => ok ∧ retZ ⟨prog, w, A, callEnv fd L f, h0, exc, pas⟩ sp fl m N h))
    (hco : fd.scope.isCoroutine = false := by rfl) (hgen : fd.scope.isGenerator = false := by rfl) : FnE prog w W (lv + 1) f args sp ok bad := by
  intro A s R l hA hfr hF hs q qe
  obtain ⟨XK, hl⟩ := hW _ hs
  refine codeAny_call_def (by have := hA.dp; omega) (XK _ _ ho) rfl hl (codeRec_of XK hcd) hb (BindsTo.of_eq hbind) hcell (fun x hx => of_decide_eq_true (List.all_eq_true.mp hloc x hx)) (fun h1 hns hk1 => ?_) hco hgen hk
  have hfr' := Around.frames_deeper (env := callEnv fd s.heap.objs.size f) hfr
  have hL : s.heap.get? s.heap.objs.size = none := Heap.get?_none_of_le (Nat.le_refl _)
  have G := h (A.deeper (callEnv fd s.heap.objs.size f)) s.heap s.heap.objs.size (fun ev h => MadeX s.heap s.heap.objs.size bad ev h ∨ HeldX s.heap (callEnv fd s.heap.objs.size f) l s.heap.objs.size bad ev h) (fun E s' e x qx => pas_x hfr' hk (hfm _) hF hL x qx) hA.deeper hs fun _ _ x => .inl x
  refine G _ _ _ ⟨⟨hns, hk1, Nat.le_refl _⟩, (fun _ hp => nomatch hp), List.nodup_nil⟩ (fun fl m' N' h' tk hS hZ => ?_) fun e h' tk x => ?_
  · cases fl with
    | ret v => exact q v h' tk hZ.1 hS.base hZ.2
    | next => exact q .none h' tk hZ.1 hS.base hZ.2
    | brk => exact hZ.2.elim
    | cont => exact hZ.2.elim
  · rcases x with x | x
    · exact made_leaves hfr' hk (hfm _) hF hL x fun h2 r => qe _ _ _ r
    · exact held_leaves (hfm _) x fun h2 r => qe _ _ _ r
end Mine
end

section
open PySem PySem.W PySem.Calls PyProof.Rows PySem.Spec PySem.SeqAt
set_option Elab.async false
set_option linter.unusedVariables false
set_option linter.unusedSimpArgs false
set_option linter.deprecated false
set_option maxRecDepth 100000
namespace Mine
/-- where check_name raises: begin, place, what is left -/
def ckp (bg at_ : Nat) : List Nat → Option Nat
  | [] => if bg = at_ then some bg else none
  | c :: r => if c = 47 then (if at_ = bg then some at_ else ckp (at_ + 1) (at_ + 1) r) else if c = 37 ∨ c = 42 then some at_ else if barred c = true then some at_ else ckp bg (at_ + 1) r
def chk (l : List Nat) : Option Nat := ckp 0 0 l
section
variable {prog : Program} {w : World} {mg mb : Str → Option Value} {c : Nat} {t u x : Tok} {l p q : List Nat} {lv : Nat}
theorem g_NF {X : Fx} {m : Str → Option Value} {N : List (Addr × Obj)} {pos : Pos} (hW : Wd (KK w) mg mb X.h0) (h : Fn0 X.env "NameFault" := by exact ⟨rfl, rfl, rfl, rfl⟩) : Ev X m N (.Name "NameFault" pos) (sV (.ref 64)) := Ev.glob hW rfl h.k h.l h.g
theorem f_check (hl : l.length ≤ 10000) : FnE prog w (Wd (KK w) mg mb) 4 198 [.str (sx l) t] (sT (sx l)) (chk l = none) (fun k => ∃ p : Nat, chk l = some p ∧ k = (p : Int)) := by
  refine FnE.intro (K := KK w) rfl rfl rfl Wd.kn rfl rfl (by decide) rfl (fun _ => rfl) (fun A h0 L exc pas hA hW hx => ?_)
  have hdp : A.depth + 1 < recursionLimit := by have := hA.dp; omega
  have hx' : ∀ (p : Nat), chk l = some p → ∀ ev h, MadeX h0 L (fun k => k = (p : Int)) ev h → exc ev h := fun p hp ev h => fun ⟨e, t, D, oD, v, k, tk, m, q1, q2, q3, q4, q5, q6, q7, q8, q9, q10⟩ => hx ev h ⟨e, t, D, oD, v, k, tk, m, q1, q2, q3, q4, q5, q6, q7, q8, q9, p, hp, q10⟩
  refine Go.assign (Ev.nat (n := 0)) fun v ⟨t1, hv⟩ => ?_
  subst hv
  refine Go.loop (n := l.length) (P := fun i v => i < l.length ∧ ∃ t, v = .int ((0 : Int) + (i : Int)) t) (fun i m N => ∃ bg : Nat, ∃ tt, N = [] ∧ m "begin" = some (.int (bg : Int) tt) ∧ m "text" = some (.str (sx l) t) ∧ chk l = ckp bg i (l.drop i))
    (Ev.t1 (g_range hW) (Ev.b1 (g_len hW) (Ev.nameS rfl) (k_lenT (by omega))) k_range1) (fun h0 v h st hs hv => src_up hv hA.hd st (by omega) (by simp) (by omega)) ⟨0, t1, rfl, upd_self, rfl, rfl⟩ (fun i v m1 N1 own hi ⟨_, t2, hv⟩ ⟨bg, tt, hN, h1, h2, h3⟩ hmap => ?_) fun m1 N1 ⟨bg, tt, hN, h1, h2, h3⟩ hmap => ?_
  · subst hN hv
    rw [List.drop_eq_getElem_cons hi] at h3
    have hgd : l.getD i 0 = l[i] := by rw [List.getD_eq_getElem?_getD, List.getElem?_eq_getElem hi]; rfl
    refine Go.assign (Ev.strI (i := i) (Ev.nameS (upd_ne h2)) (Ev.i (Ev.nameI upd_self) (by omega)) hi (by omega)) fun v ⟨t3, hv⟩ => ?_
    rw [hgd] at hv
    subst hv
    refine Go.ite (b := decide (l[i] = 47)) (Ts.mono (Ts.cmp (Ev.nameS upd_self) (g_DELIMITER hW) c_eqT) ?_) (fun e => ?_) (fun e => ?_)
    · rw [sx_inj, decide_eq_decide]; simp
    · have e := of_decide_eq_true e
      rw [ckp, if_pos e] at h3
      refine Go.ite (b := decide (i = bg)) (Ts.mono (Ts.cmp (show Ev _ _ _ _ (sI ((i : Nat) : Int)) from Ev.i (Ev.nameI (upd_ne upd_self)) (by omega)) (Ev.nameI (upd_ne (upd_ne h1))) c_eq) ?_) (fun e2 => ?_) (fun e2 => Go.nilSeq ?_)
      · exact decide_eq_decide.mpr (by omega)
      · have e2 := of_decide_eq_true e2
        rw [if_pos e2] at h3
        exact Go.raise (k := ((i : Nat) : Int)) (bad := fun k => k = ((i : Nat) : Int)) rfl hA.hd hdp hW (g_NF hW) Ev.str (Ev.i (Ev.nameI (upd_ne upd_self)) (by omega)) rfl (hx' i h3)
      · have e2 := of_decide_eq_false e2
        rw [if_neg e2] at h3
        refine Go.assign (P := pI ((i + 1 : Nat) : Int)) (Ev.i (Ev.bin (Ev.nameI (upd_ne upd_self)) (Ev.nat (n := 1)) o_add) (by omega)) fun v ⟨t4, hv⟩ => ?_
        subst hv
        exact Go.nilSeq (Go.nil fun h _ => ⟨[], rfl, rfl, i + 1, t4, rfl, upd_self, upd_ne (upd_ne (upd_ne h2)), h3⟩)
    · have e := of_decide_eq_false e
      rw [ckp, if_neg e] at h3
      refine Go.ite (b := decide (l[i] ∈ [37, 42])) (Ts.mono (Ts.cmp (Ev.nameS upd_self) (g_WILD_SIGNS hW) c_inT) in_sx) (fun e2 => ?_) (fun e2 => ?_)
      · have e2 := of_decide_eq_true e2
        rw [if_pos (by simpa using e2)] at h3
        exact Go.raise (k := ((i : Nat) : Int)) (bad := fun k => k = ((i : Nat) : Int)) rfl hA.hd hdp hW (g_NF hW) Ev.str (Ev.i (Ev.nameI (upd_ne upd_self)) (by omega)) rfl (hx' i h3)
      · have e2 := of_decide_eq_false e2
        rw [if_neg (by simpa using e2)] at h3
        refine Go.ite (b := barred l[i]) (Ts.plain (Ev.c1 (g_is_barred_code hW) hW (kp_is_barred_code w) (hA.one (k := 2)) (Ev.b1 (g_ord hW) (Ev.nameS upd_self) k_ord) fun v ⟨t, hv⟩ => hv ▸ f_barred)) (fun e3 => ?_) (fun e3 => Go.nilSeq ?_)
        · rw [if_pos e3] at h3
          exact Go.raise (k := ((i : Nat) : Int)) (bad := fun k => k = ((i : Nat) : Int)) rfl hA.hd hdp hW (g_NF hW) Ev.str (Ev.i (Ev.nameI (upd_ne upd_self)) (by omega)) rfl (hx' i h3)
        · rw [if_neg (by simp [e3])] at h3
          exact Go.nilSeq (Go.nilSeq (Go.nil fun h _ => ⟨[], rfl, rfl, bg, tt, rfl, upd_ne (upd_ne h1), upd_ne (upd_ne h2), h3⟩))
  · subst hN
    rw [List.drop_length, ckp] at h3
    refine Go.ite (b := decide (bg = l.length)) (Ts.mono (Ts.cmp (Ev.nameI h1) (Ev.b1 (g_len hW) (Ev.nameS h2) (k_lenT (by omega))) c_eq) ?_) (fun e => ?_) (fun e => Go.nilSeq ?_)
    · exact decide_eq_decide.mpr (by omega)
    · have e := of_decide_eq_true e
      rw [if_pos e] at h3
      exact Go.raise (k := ((bg : Nat) : Int)) (bad := fun k => k = ((bg : Nat) : Int)) rfl hA.hd hdp hW (g_NF hW) Ev.str (Ev.nameI h1) rfl (hx' bg h3)
    · have e := of_decide_eq_false e
      rw [if_neg e] at h3
      exact Go.ret (Ev.nameS h2) fun h v h' hs st hv => ⟨h3, Sp.wk hs.base (stays_refl _) hv⟩
end
end Mine
end

section
open PySem PySem.W PySem.Calls PyProof.Rows PySem.Spec PySem.SeqAt
set_option Elab.async false
set_option linter.unusedVariables false
set_option linter.unusedSimpArgs false
set_option linter.deprecated false
set_option maxRecDepth 100000
namespace Mine
theorem Frm.stay {g g1 : Heap} {l : List Env} (h : Frm g l) (k : g.StaysIn g1) : Frm g1 l := by
  obtain ⟨base, a, b⟩ := h
  exact ⟨base, stays_trans a k, b.of_keeps fun c o e _ => ⟨o, k _ _ e, rfl⟩⟩
theorem Frm.cons {g g1 : Heap} {l : List Env} {env : Env} {L : Addr} {m : Str → Option Value} (h : Frm g l) (k : g.StaysIn g1) (hL : g.get? L = none) (hk : env.scope.kind = .function) (hf : env.frame = some L) (hn : g1.Ns L m) : Frm g1 (env :: l) := by
  obtain ⟨base, a, b⟩ := h
  exact ⟨base, stays_trans a k, .cons (by rw [hk]; decide) hf hn (none_of_stays a hL) (b.of_keeps fun c o e _ => ⟨o, k _ _ e, rfl⟩)⟩
/-- an expression that may raise a fault -/
def EvE (X : Fx) (m : Str → Option Value) (N : List (Addr × Obj)) (e : Expr) (sp : Sp) (ok : Prop) (bad : Int → Prop) (l : List Env) : Prop :=
  ∀ (Q : Value → Shared → Prop) (E : Value → Shared → Prop) (s : Shared), St X m N s.heap → Frm s.heap l →
    (∀ v h' tk, ok → s.heap.StaysIn h' → sp.Is s.heap v h' → Q v { s with heap := h', toks := tk }) → (∀ ev h' tk g1, s.heap.StaysIn g1 → Rsd g1 l bad ev h' → E ev { s with heap := h', toks := tk }) →
    wpC X.M X.A (eval e X.env) Q E s
def FnEC (prog : Program) (w : World) (W : Heap → Prop) (lv : Nat) (f : Addr) (args : List Value) (sp : Sp) (ok : Prop) (bad : Int → Prop) : Prop :=
  ∀ (A : Around) (s : Shared) (R : Result → Shared → Prop) (l : List Env), Lv A lv → A.guards = some [] → A.frames = some l → Frm s.heap l → W s.heap →
    (∀ v h' tk, ok → s.heap.StaysIn h' → sp.Is s.heap v h' → R (.ok (.ret v)) { s with heap := h', toks := tk }) → (∀ ev h' tk, Rsd s.heap l bad ev h' → R (.error ev) { s with heap := h', toks := tk }) →
    codeC (model prog w) A (.call (.ref f) ⟨args, []⟩) R s
theorem FnE.c {prog : Program} {w : World} {W : Heap → Prop} {lv : Nat} {f : Addr} {args : List Value} {sp : Sp} {ok : Prop} {bad : Int → Prop} (h : FnE prog w W lv f args sp ok bad) : FnEC prog w W lv f args sp ok bad :=
  fun A s R l hA _ hfr hF hs q qe => codeC_of (h A s R l hA hfr hF hs q qe)
section
variable {X : Fx} {m : Str → Option Value} {N : List (Addr × Obj)} {K : Frag} {mg mb : Str → Option Value} {f : Addr} {lv : Nat} {fe e1 : Expr} {pos : Pos} {P1 : Value → Prop} {sp : Sp} {ok : Prop} {bad : Int → Prop} {l : List Env}
theorem EvE.call1 (hfr : X.A.frames = some l) (hg : X.A.guards = some []) (hf : Ev X m N fe (sV (.ref f))) (hW : Wd K mg mb X.h0) (hk : keepIn K (.ref f) = true) (hA : Lv X.A lv) (h1 : EvC X m N e1 (.pl P1))
    (hfn : ∀ v, P1 v → FnEC X.prog X.w (Wd K mg mb) lv f [v] sp ok bad) (hp : [e1].all plainE = true := by rfl)
    (he : eval (.Call fe [e1] [] pos) X.env = (do callWith pos (← eval fe X.env) [] (backTo pos (starEach [e1] X.env)) (backToKw pos (keywordEach [] X.env))) := by rfl) : EvE X m N (.Call fe [e1] [] pos) sp ok bad l := by
  intro Q E s hs hF q qe
  refine wpC_Call (hf _ _ s hs fun v h1' tk1 st1 hv => ?_) he
  have hv' : v = .ref f := hv
  subst hv'
  have S1 := hs.stay st1
  refine wpC_callWith (P := St X m N) (by rw [starEach_plain hp]; rfl) (keepC_def hW hk) ?_
  rw [starEach_plain hp]
  refine wpC_evalArgs_plain (wpC_spliced_cons (h1 _ _ _ S1 fun v2 h2 tk2 st2 hv2 => wpC_spliced_nil ⟨S1.stay st2, ?_⟩))
  have S2 := S1.stay st2
  exact wpC_call (hfn v2 hv2 X.A _ _ l hA hg hfr (hF.stay (stays_trans st1 st2)) (hW.stay S2.base) (fun v h' tk o st hv => q v h' tk o (stays_trans (stays_trans st1 st2) st) (Sp.wk (stays_trans st1 st2) (stays_refl _) hv))
    fun ev h' tk r => qe ev h' tk _ (stays_trans st1 st2) r)
end
theorem FnEC.ret {prog : Program} {w : World} {W : Heap → Prop} {lv : Nat} {f : Addr} {args : List Value} {sp : Sp} {ok : Prop} {bad : Int → Prop} {K : Frag} {oc : Value} {od : Option Addr} {osl : Array (Option Value)} {fd : FuncData} {e : Expr} {pos : Pos} {binds : List (Str × Value)}
    (ho : K.lookup f = some ⟨oc, od, .func fd, osl⟩) (hb : fd.body = .stmts [.Return (some e) pos]) (hcd : codeIn K fd.code fd.qualname = true) (hW : ∀ h, W h → K.In h ∧ h.NoLimit)
    (hbind : bindArgs fd ⟨args, []⟩ = pure binds) (hloc : (binds.all fun x => decide (fd.scope.names.lookup x.1 = some .local)) = true) (hcell : ∀ x ∈ fd.scope.names, x.2 ≠ .cell)
    (hk : fd.scope.kind = .function) (hfm : ∀ L, (callEnv fd L f).frame = some L)
    (h : ∀ A h0 L l, Lv A lv → A.guards = some [] → A.frames = some (callEnv fd L f :: l) → W h0 → EvE { prog := prog, w := w, A := A, env := callEnv fd L f, h0 := h0 } (fun x => binds.reverse.lookup x) [] e sp ok bad (callEnv fd L f :: l))
    (hco : fd.scope.isCoroutine = false := by rfl) (hgen : fd.scope.isGenerator = false := by rfl) : FnEC prog w W (lv + 1) f args sp ok bad := by
  intro A s R l hA hg hfr hF hs q qe
  obtain ⟨XK, hl⟩ := hW _ hs
  refine codeC_call_def (by have := hA.dp; omega) (XK _ _ ho) rfl hl (codeRec_of XK hcd) hb (BindsTo.of_eq hbind) hcell (fun x hx => of_decide_eq_true (List.all_eq_true.mp hloc x hx)) (fun h1 hns hk1 => ?_) hco hgen hk
  have hfr' := Around.frames_deeper (env := callEnv fd s.heap.objs.size f) hfr
  have hL : s.heap.get? s.heap.objs.size = none := Heap.get?_none_of_le (Nat.le_refl _)
  refine wpC_execs_cons (wpC_Return_some ?_)
  refine h _ s.heap s.heap.objs.size l hA.deeper hg hfr' hs _ _ _ ⟨⟨hns, hk1, Nat.le_refl _⟩, (fun _ hp => nomatch hp), List.nodup_nil⟩ (hF.cons hk1 hL hk (hfm _) hns) (fun v h' tk o st hv => ?_) fun ev h' tk g1 st r => ?_
  · exact q v h' tk o (stays_trans hk1 st) (Sp.wk hk1 (stays_refl _) hv)
  · exact rsd_leaves hfr' (hfm _) hF hL (stays_trans hk1 st) r fun h2 r2 => qe _ _ _ r2
section
variable {prog : Program} {w : World} {mg mb : Str → Option Value} {t : Tok} {l : List Nat}
theorem nrm_len (l : List Nat) : (nrm l).length ≤ l.length + 5 := by
  unfold nrm fpR
  split
  · rw [List.length_append]
    have : inbox.length = 5 := rfl
    split <;> simp <;> omega
  · omega
theorem f_wire (hl : l.length ≤ 100) (hc : ∀ c ∈ l, c < 55296) : FnEC prog w (Wd (KK w) mg mb) 5 205 [.bytes (bx (enc l)) t] (sT (sx (nrm l))) (chk (nrm l) = none) (fun k => ∃ p : Nat, chk (nrm l) = some p ∧ k = (p : Int)) := by
  refine FnEC.ret (K := KK w) rfl rfl rfl Wd.kn rfl rfl (by decide) rfl (fun _ => rfl) (fun A h0 L lf hA hG hfr hW => ?_)
  have hz := nrm_len l
  refine EvE.call1 hfr hG (g_check_name hW) hW (kp_check_name w) hA (EvC.of ?_) (P1 := pT (sx (nrm l))) fun v ⟨tt, hv⟩ => hv ▸ (f_check (by omega)).c
  refine Ev.c1 (P1 := pT (sx l)) (g_normal_name hW) hW (kp_normal_name w) (hA.one (k := 2)) ?_ fun v ⟨tt, hv⟩ => hv ▸ f_normal (by omega)
  exact Ev.c1 (g_utf7_text hW) hW (kp_utf7_text w) hA (Ev.name rfl) fun v e => e ▸ f_text hl hc
end
end Mine
end

section
open PySem PySem.W PySem.Calls PyProof.Rows PySem.Spec PySem.SeqAt
set_option Elab.async false
set_option linter.unusedVariables false
set_option linter.unusedSimpArgs false
set_option linter.deprecated false
set_option maxRecDepth 100000
namespace Mine
-- lambdas
section
variable {prog : Program} {w : World} {A : Around} {R : Result → Shared → Prop} {s : Shared}
theorem codeC_expr {e : Expr} {env : Env}
    (h : wpC (model prog w) (A.deeper env) (eval e env) (fun v s' => R (.ok (.ret v)) s')
      (fun e' s' => wpAny (model prog w) (A.deeper env) (leaving env e') (fun _ s'' => R (.error e') s'') (fun e'' s'' => R (.error e'') s'') s') s) :
    codeC (model prog w) A (.expr e env) R s := by
  refine codeC_of_tree ?_
  show wpC _ (A.deeper env) (do point; ret (← (eval e env).onRaise (leaving env))) _ _ s
  exact wpC_bind (wpC_of (wpAny_point (wpC_bind (wpC_onRaise (wpC_mono h (fun v s' h' => wpC_pure h') fun _ _ h' => wpC_of h')))))
theorem codeC_lam {f c' : Addr} {name qual : Str} {params : Arguments} {body : Expr} {scope : Scope} {cl : List (Str × Addr)} {pm ctv : Value} (hroom : A.depth < recursionLimit)
    (ho : s.heap.get? f = some (kla_obj name qual params body scope cl pm c' ctv)) (hcd : s.heap.CodeRec (.ref c') qual) (hnl : s.heap.NoLimit) (hbind : bindArgs (kla_fn name qual params body scope cl pm (.ref c') ctv) ⟨[], []⟩ = pure [])
    (h : ∀ h₁, h₁.Ns s.heap.objs.size (fun y => ([] : List (Str × Value)).lookup y) → s.heap.StaysIn h₁ →
      wpC (model prog w) (A.deeper (envX qual scope s.heap.objs.size f (.ref c') cl)) (eval body (envX qual scope s.heap.objs.size f (.ref c') cl)) (fun v s' => R (.ok (.ret v)) s')
        (fun e s' => wpAny (model prog w) (A.deeper (envX qual scope s.heap.objs.size f (.ref c') cl)) (leaving (envX qual scope s.heap.objs.size f (.ref c') cl) e) (fun _ s'' => R (.error e) s'') (fun e' s'' => R (.error e') s'') s') { s with heap := h₁ })
    (hcell : ∀ x ∈ scope.names, x.2 ≠ .cell) (hco : scope.isCoroutine = false := by rfl) (hgen : scope.isGenerator = false := by rfl) (hk : scope.kind = .function := by rfl) : codeC (model prog w) A (.call (.ref f) ⟨[], []⟩) R s := by
  refine codeC_of_tree ?_
  refine wpC_of ?_
  show wpAny _ A.in1 (callAny (.ref f) ⟨[], []⟩) _ _ s
  simp only [callAny]
  refine wpAny_bind (wpAny_load ho ?_)
  obtain ⟨c, oc, vs, tq, hc, hoc, hdc, hq⟩ := hcd
  cases hc
  simp only [callFunction, hco, hgen]
  refine wpAny_bind (m := field (.ref c') 1) (wpAny_field hoc hdc hq (wpAny_bind (wpAny_pure ?_)))
  refine wpAny_bind ?_
  rw [hbind]
  refine wpAny_pure (wpAny_bind (wpAny_newFunctionEnv hcell (fun x hx => nomatch hx) (fun h₁ hns hsb => ?_) hk))
  have hk1 : s.heap.StaysIn h₁ := fun b o e => hsb.extBut b o (Nat.ne_of_lt (Heap.lt_size e)) (Heap.get?_push_of_some _ e)
  exact wpAny_bind (wpAny_enterFrame (hnl.fresh _ hsb) hroom (wpAny_pure ⟨rfl, rfl, codeC_expr (h h₁ hns hk1)⟩))
end
/-- a lambda that stands, with its cells -/
structure Lam (f c' : Addr) (qual : Str) (params : Arguments) (body : Expr) (scope : Scope) (cl : List (Str × Addr)) (h : Heap) : Prop where
  ob : ∃ name pm ctv, h.get? f = some (kla_obj name qual params body scope cl pm c' ctv)
  cd : h.CodeRec (.ref c') qual
theorem FnEC.lam {prog : Program} {w : World} {mg mb : Str → Option Value} {K : Frag} {W : Heap → Prop} {lv : Nat} {f c' : Addr} {qual : Str} {params : Arguments} {body : Expr} {scope : Scope} {cl : List (Str × Addr)} {sp : Sp} {ok : Prop} {bad : Int → Prop}
    (hW : ∀ h, W h → Wd K mg mb h ∧ Lam f c' qual params body scope cl h) (hp : params = ⟨[], [], none, [], [], none, []⟩) (hcell : ∀ x ∈ scope.names, x.2 ≠ .cell) (hk : scope.kind = .function)
    (h : ∀ A h0 L l, Lv A lv → A.guards = some [] → A.frames = some (envX qual scope L f (.ref c') cl :: l) → W h0 → EvE { prog := prog, w := w, A := A, env := envX qual scope L f (.ref c') cl, h0 := h0 } (fun x => ([] : List (Str × Value)).lookup x) [] body sp ok bad (envX qual scope L f (.ref c') cl :: l))
    (hco : scope.isCoroutine = false) (hgen : scope.isGenerator = false) : FnEC prog w W (lv + 1) f [] sp ok bad := by
  intro A s R l hA hg hfr hF hs q qe
  obtain ⟨hWd, ⟨name, pm, ctv, ho⟩, hcd⟩ := hW _ hs
  subst hp
  refine codeC_lam (by have := hA.dp; omega) ho hcd hWd.nl rfl (fun h1 hns hk1 => ?_) hcell hco hgen hk
  have hfr' := Around.frames_deeper (env := envX qual scope s.heap.objs.size f (.ref c') cl) hfr
  have hL : s.heap.get? s.heap.objs.size = none := Heap.get?_none_of_le (Nat.le_refl _)
  refine h _ s.heap s.heap.objs.size l hA.deeper hg hfr' hs _ _ _ ⟨⟨hns, hk1, Nat.le_refl _⟩, (fun _ hp => nomatch hp), List.nodup_nil⟩ (hF.cons hk1 hL hk rfl hns) (fun v h' tk o st hv => ?_) fun ev h' tk g1 st r => ?_
  · exact q v h' tk o (stays_trans hk1 st) (Sp.wk hk1 (stays_refl _) hv)
  · exact rsd_leaves hfr' rfl hF hL (stays_trans hk1 st) r fun h2 r2 => qe _ _ _ r2
end Mine
end

section
open PySem PySem.W PySem.Calls PyProof.Rows PySem.Spec PySem.SeqAt
set_option Elab.async false
set_option linter.unusedVariables false
set_option linter.unusedSimpArgs false
set_option linter.deprecated false
set_option maxRecDepth 100000
namespace Mine
open Builtin Builtin.ObjectAttr
theorem f64_ga (w : World) : findIn (KK w) (.ref 64) "__getattribute__" = some (some (.builtin "BaseException.__getattribute__")) := by rfl
theorem f64_gh (w : World) : findIn (KK w) (.ref 64) "__getattr__" = some none := by rfl
theorem f64_at (w : World) : findIn (KK w) (.ref 64) "at" = some none := by rfl
section
variable {prog : Program} {w : World} {A : Around} {E : Value → Shared → Prop} {s : Shared}
theorem nf_find {e D : Addr} {oe oD : Obj} {mA : Str → Option Value} {v : Value} {Q : Found → Shared → Prop} (X : (KK w).In s.heap) (he : s.heap.get? e = some oe) (hc : oe.cls = .ref 64) (hnc : ∀ c, oe.data ≠ .cls c) (hdict : oe.dict = some D) (hD : s.heap.get? D = some oD) (hm : Has mA oD) (hv : mA "at" = some v)
    (q : ∀ tk, Q (.value v) { s with toks := tk }) : wpAny (model prog w) A (find (.ref e) (.ref 64) "at") Q E s := by
  obtain ⟨cd, hcl, hd'⟩ : ∃ cd, clsIn (KK w) 64 = some cd ∧ cd.hasDict = true := ⟨_, rfl, rfl⟩
  obtain ⟨oc, od, odt, osl⟩ := oe
  dsimp only at hc hdict hnc
  subst hc hdict
  unfold find
  refine wpAny_bind (looks_findIn X (f64_at w) _ _ _ _ (fun _ _ z => z) ?_)
  refine wpAny_bind (wpAny_pure (wpAny_bind (wpAny_pure ?_)))
  unfold ownThenClass inOwnDict ObjectAttr.ownDict loadHead
  refine wpAny_bind (wpAny_bind (wpAny_bind (wpAny_loadPart he ?_)))
  cases odt with
  | cls c => exact (hnc c rfl).elim
  | _ =>
    refine wpAny_bind (wpAny_loadPart he (wpAny_bind (looks_clsIn X hcl _ _ _ _ (fun _ _ z => z) ?_)))
    rw [hd']
    refine wpAny_pure (wpAny_nsGet (hm _ _ hD).ns ?_)
    rw [hv]
    exact wpAny_bind (wpAny_rule (wpAny_pure (q s.toks)))
theorem nf_get {e D : Addr} {oe oD : Obj} {mA : Str → Option Value} {v : Value} {expr : Bool} {Q : Value → Shared → Prop} (X : (KK w).In s.heap) (he : s.heap.get? e = some oe) (hc : oe.cls = .ref 64) (hnc : ∀ c, oe.data ≠ .cls c) (hdict : oe.dict = some D) (hD : s.heap.get? D = some oD) (hm : Has mA oD) (hv : mA "at" = some v) (hh : handedOut v = pure v)
    (q : ∀ tk, Q v { s with toks := tk }) : wpAny (model prog w) A (getAttr (.ref e) "at" expr) Q E s := by
  have FB := PySem.F.attrBase_Exception
  have f3 := FB.ga.bind (.ref e)
  have hx0 : (expr && onTheHeap (Value.builtin "BaseException.__getattribute__")) = false := by cases expr <;> rfl
  have L0 : Looks (model prog w) s.heap (typeOf (.ref e)) (.ref 64) := (hc ▸ (Looks.ld he).andThen .now : _)
  have sub : Looks (model prog w) s.heap (isInstance (.ref e) (.type "BaseException")) true := L0.andThen (looks_mroIn X rfl)
  unfold getAttr getAttrBy
  refine wpAny_bind (wpAny_mkText (wpAny_holding (wpAny_bind (L0 _ _ _ _ (fun _ _ z => z) (wpAny_bind (looks_findIn X (f64_ga w) _ _ _ _ (fun _ _ z => z) ?_))))))
  have hx2 : (Value.builtin "BaseException.__getattribute__" == Value.builtin "object.__getattribute__") = false := by decide +kernel
  have hx1 : (onTheHeap (Value.ref 64) && Value.builtin "BaseException.__getattribute__" == Value.builtin "object.__getattribute__") = false := by rw [hx2]; rfl
  show wpAny _ _ (if onTheHeap (Value.ref 64) && Value.builtin "BaseException.__getattribute__" == Value.builtin "object.__getattribute__" then _ else _) _ _ _
  rw [hx1]
  unfold getAttrByItsOwn hookBefore
  refine wpAny_bind (looks_findIn X (f64_gh w) _ _ _ _ (fun _ _ z => z) ?_)
  refine wpAny_bind (wpAny_attempt (wpAny_holding ?_))
  unfold callGetattribute boundAndCalled
  rw [hx0]
  refine wpAny_bind (wpAny_of_eq f3 (wpAny_call ?_))
  refine codeAny_call_builtin FB.ga.plain PySem.F.entry_bexc_ga (@check_slot (model prog w) _ _ _ "BaseException.__getattribute__" "BaseException" "__getattribute__" (.ref e) [.str "at" s.toks] [] _ (by decide +kernel) (by decide +kernel) (sub.keeps fun _ _ z => z) (PySem.F.args_bexc_ga _ _) ?_)
  show wpAny _ _ (Builtin.«object.__getattribute__» ⟨[.ref e, .str "at" s.toks], []⟩) _ _ _
  refine wpAny_bind (wpAny_pure (wpAny_bind (wpAny_pure (wpAny_bind (L0 _ _ _ _ (fun _ _ z => z) ?_)))))
  refine wpAny_bind (nf_find X he hc hnc hdict hD hm hv fun tk => wpAny_pure ?_)
  show wpAny _ _ (handedOut v) _ _ _
  rw [hh]
  exact wpAny_pure (q tk)
end
end Mine
end

section
open PySem PySem.W PySem.Calls PyProof.Rows PySem.Spec PySem.SeqAt
set_option Elab.async false
set_option linter.unusedVariables false
set_option linter.unusedSimpArgs false
set_option linter.deprecated false
set_option maxRecDepth 100000
namespace Mine
section
variable {prog : Program} {w : World} {A : Around} {E : Value → Shared → Prop} {s : Shared} {env : Env}
theorem wpC_Try_except {body orelse : List Stmt} {h₀ : ExceptHandler} {hs : List ExceptHandler} {pos : Pos} {Q : Flow → Shared → Prop}
    (h : wpC (model prog w) A (execs body env) (fun f s₁ => match f with | .next => wpC (model prog w) A (execs orelse env) Q E s₁ | f => Q f s₁)
      (fun e s₁ => wpAny (model prog w) A (noteFrame e env) (fun _ s₂ => wpAny (model prog w) A (setFlight e none) (fun _ s₃ => wpAny (model prog w) A (handleBy e env (h₀ :: hs)) Q E s₃) E s₂) E s₁) s) :
    wpC (model prog w) A (exec (.Try body (h₀ :: hs) orelse [] pos) env) Q E s := by
  rw [arm_exec_Try]
  refine wpC_bind (wpC_standAt ?_)
  unfold tryStmt
  simp only [List.isEmpty_nil, if_true, List.isEmpty_cons, Bool.false_and, Bool.false_eq_true, if_false]
  refine wpC_bind (wpC_attempt (wpC_mono h (fun f s₁ h₁ => ?_) fun e s₁ h₁ => ?_))
  · cases f <;> first | exact h₁ | exact wpC_pure h₁
  · exact wpC_of (wpAny_bind (wpAny_mono h₁ (fun _ _ h₂ => wpAny_bind h₂) fun _ _ x => x))
theorem caught {L : Addr} {l : List Env} {g1 : Heap} {bad : Int → Prop} {ev : Value} {np pos : Pos} {b₀ : Stmt} {suite : List Stmt} {rest : List ExceptHandler} {Q : Flow → Shared → Prop} (hfr : A.frames = some (env :: l)) (hf : env.frame = some L)
    (H : Rsd g1 (env :: l) bad ev s.heap) (hC : ∀ B e D, Flt g1 (env :: l) B e D bad → B.get? 64 = some cls64)
    (hname : ∀ (s' : Shared) (B : Heap) (e D : Addr), ev = .ref e → B.StaysIn s'.heap → Flt g1 (env :: l) B e D bad → g1.UpToSlots s'.heap → ∀ (Q : Value → Shared → Prop) (E : Value → Shared → Prop), Q (.ref 64) s' → wpAny (model prog w) (A.mark (some ev)) (eval (.Name "NameFault" np) env) Q E s')
    (k : ∀ (h' : Heap) (B : Heap) (e D : Addr) (E2 E3 : Value → Shared → Prop), ev = .ref e → Air B (env :: l) e D .none h' → Flt g1 (env :: l) B e D bad → g1.UpToSlots h' →
      wpAny (model prog w) (A.mark (some ev)) (storeName env "fault" ev) (fun _ s₂ => wpAny (model prog w) (A.mark (some ev)) (execs (b₀ :: suite) env)
        (fun f s₃ => wpAny (model prog w) A (do bindName env "fault" .none; unbindBehindTheSuite env "fault" pos) (fun _ s₄ => Q f s₄) E s₃) E2 s₂) E3 { s with heap := h' }) :
    wpAny (model prog w) A (noteFrame ev env) (fun _ s₂ => wpAny (model prog w) A (setFlight ev none) (fun _ s₃ => wpAny (model prog w) A (handleBy ev env (.ExceptHandler (some (.Name "NameFault" np)) (some "fault") (b₀ :: suite) pos :: rest)) Q E s₃) E s₂) E s := by
  obtain ⟨e, B, D, rfl, H, hflt, hu⟩ := H
  refine noteD_next hfr hf H fun h1 H1 k1 => ?_
  refine flightD (s := { s with heap := h1 }) (f := none) H1 fun h2 H2 k2 => ?_
  have hu2 := (hu.trans k1).trans k2
  refine wpAny_handleBy_cons (codeAny_handlers_test (hname { s with heap := h2 } B e D rfl H2.stay hflt hu2 _ _ ?_)) (by intro q; cases q)
  obtain ⟨vs, T, oT, ts, he, _⟩ := id H2.tr
  refine wpAny_excMatches_sub_self (H2.stay _ _ (hC B e D hflt)) he rfl (by decide) (codeAny_handlers_suite_as ?_)
  refine flightD (s := { s with heap := h2 }) (f := none) H2 fun h3 H3 k3 => ?_
  exact k h3 B e D _ _ rfl H3 hflt (hu2.trans k3)
end
end Mine
end

section
open PySem PySem.W PySem.Calls PyProof.Rows PySem.Spec PySem.SeqAt
set_option Elab.async false
set_option linter.unusedVariables false
set_option linter.unusedSimpArgs false
set_option linter.deprecated false
set_option maxRecDepth 100000
namespace Mine
/-- statements, with what they leave said of the heap alone -/
def GoR (X : Fx) (m : Str → Option Value) (N : List (Addr × Obj)) (ss : List Stmt) (Z : Flow → Heap → Prop) : Prop :=
  ∀ (Q : Flow → Shared → Prop) (E : Value → Shared → Prop) (s : Shared), St X m N s.heap → (∀ fl h' tk, Z fl h' → Q fl { s with heap := h', toks := tk }) → wpC X.M X.A (execs ss X.env) Q E s
section
variable {X : Fx} {m : Str → Option Value} {N : List (Addr × Obj)} {Z : Flow → Heap → Prop} {rest : List Stmt}
theorem GoR.assign {x : Str} {p1 p2 : Pos} {e : Expr} {P : Value → Prop} (he : Ev X m N e (.pl P)) (h : ∀ v, P v → GoR X (upd m x v) N rest Z)
    (hs : swapsWith e (some (.Name x p1)) p2.line X.env = pure false := by rfl) (hl : X.env.kindOf x = some .local := by rfl)
    (hp : (X.env.scope.kind == .class || (X.env.scope.kind == .module && X.env.locals != X.env.globals)) = false := by rfl) : GoR X m N (.Assign [.Name x p1] e p2 :: rest) Z := by
  intro Q E s hs' q
  refine wpC_execs_cons (wpC_of (wpAny_Assign_Name (he _ _ s hs' fun v h1 tk1 st1 hv => ?_) hs))
  refine wpAny_storeName_local hl (hs'.stay st1).fr.ns (fun h2 hn hsb => ?_) hp
  exact h v hv _ _ _ ((hs'.stay st1).store hn hsb) fun fl h' tk z => q fl h' tk z
theorem GoR.ret {e : Expr} {pos : Pos} {sp : Sp} (he : Ev X m N e sp) (h : ∀ h v h', St X m N h → h.StaysIn h' → sp.Is h v h' → Z (.ret v) h') : GoR X m N (.Return (some e) pos :: rest) Z :=
  fun _ _ s hs q => wpC_execs_cons (wpC_of (wpAny_Return_some (he _ _ s hs fun v h' tk st hv => q _ h' tk (h _ _ _ hs st hv))))
/-- try: x = f() / except NameFault as fault -/
theorem GoR.tryCall {fn x : Str} {f : Addr} {pf px pc p2 np pos hp : Pos} {b₀ : Stmt} {suite : List Stmt} {l : List Env} {P : Value → Prop} {ok : Prop} {bad : Int → Prop} {W0 : Heap → Prop} {lv : Nat} {L : Addr}
    (hfr : X.A.frames = some (X.env :: l)) (hg : X.A.guards = some []) (hf : X.env.frame = some L) (hFrm : ∀ h, St X m N h → Frm h (X.env :: l)) (hA : Lv X.A lv) (hx : m fn = some (.ref f)) (hW0 : ∀ h, St X m N h → W0 h)
    (hk : ∀ h, St X m N h → ∃ k, (k = Keeper.frame ∨ k = Keeper.machine) ∧ Looks X.M h (keeperOf (.ref f)) k) (hcall : FnEC X.prog X.w W0 lv f [] (.pl P) ok bad)
    (good : ∀ v, ok → P v → GoR X (upd m x v) N rest Z)
    (hC : ∀ h, St X m N h → ∀ B e D, Flt h (X.env :: l) B e D bad → B.get? 64 = some cls64)
    (hname : ∀ h0 (s' : Shared) (B : Heap) (ev : Value) (e D : Addr), ev = .ref e → St X m N h0 → B.StaysIn s'.heap → Flt h0 (X.env :: l) B e D bad → h0.UpToSlots s'.heap → ∀ (Q : Value → Shared → Prop) (E : Value → Shared → Prop), Q (.ref 64) s' → wpAny X.M (X.A.mark (some ev)) (eval (.Name "NameFault" np) X.env) Q E s')
    (caughtK : ∀ (h0 h' : Heap) (s : Shared) (B : Heap) (e D : Addr) (E2 E3 : Value → Shared → Prop) (Q : Flow → Shared → Prop) (E : Value → Shared → Prop), s.heap = h' → St X m N h0 → Air B (X.env :: l) e D .none h' → Flt h0 (X.env :: l) B e D bad → h0.UpToSlots h' →
      (∀ fl h'' tk, Z fl h'' → Q fl { s with heap := h'', toks := tk }) →
      wpAny X.M (X.A.mark (some (.ref e))) (storeName X.env "fault" (.ref e)) (fun _ s₂ => wpAny X.M (X.A.mark (some (.ref e))) (execs (b₀ :: suite) X.env)
        (fun f s₃ => wpAny X.M X.A (do bindName X.env "fault" .none; unbindBehindTheSuite X.env "fault" hp) (fun _ s₄ => (match f with | .next => wpC X.M X.A (execs rest X.env) Q E s₄ | f => Q f s₄)) E s₃) E2 s₂) E3 s)
    (he : eval (.Call (.Name fn pf) [] [] pc) X.env = (do callWith pc (← eval (.Name fn pf) X.env) [] (backTo pc (starEach [] X.env)) (backToKw pc (keywordEach [] X.env))) := by rfl)
    (hs : swapsWith (.Call (.Name fn pf) [] [] pc) (some (.Name x px)) p2.line X.env = pure false := by rfl) (hk1 : X.env.scope.kind = .function := by rfl) (hl1 : X.env.kindOf fn = some .local := by rfl) (hl : X.env.kindOf x = some .local := by rfl) (hd1 : (fn == ("__debug__" : Str)) = false := by decide)
    (hpp : (X.env.scope.kind == .class || (X.env.scope.kind == .module && X.env.locals != X.env.globals)) = false := by rfl) :
    GoR X m N (.Try [.Assign [.Name x px] (.Call (.Name fn pf) [] [] pc) p2] [.ExceptHandler (some (.Name "NameFault" np)) (some "fault") (b₀ :: suite) hp] [] [] pos :: rest) Z := by
  intro Q E s hst q
  refine wpC_execs_cons (wpC_Try_except (wpC_execs_cons (wpC_Assign_Name ?_ hs)))
  refine wpC_Call (Ev.name hx hk1 hl1 hd1 _ _ s hst fun v h1 tk1 st1 hv => ?_) he
  have hv' : v = .ref f := hv
  subst hv'
  have S1 := hst.stay st1
  refine wpC_callWith (P := St X m N) rfl hk (wpC_of (evalArgs_nil3 ⟨S1, ?_⟩))
  refine wpC_call (hcall X.A _ _ (X.env :: l) hA hg hfr (hFrm _ S1) (hW0 _ S1) (fun v h' tk o st hv => ?_) fun ev h' tk r => ?_)
  · have S2 := S1.stay st
    refine wpC_of (wpAny_storeName_local hl S2.fr.ns (fun h3 hn hsb => ?_) hpp)
    refine wpC_of (wpAny_execs_nil ?_)
    refine wpC_of (wpAny_execs_nil ?_)
    exact good v o hv _ _ _ (S2.store hn hsb) fun fl h'' tk'' z => q fl h'' tk'' z
  · refine caught (s := { s with heap := h', toks := tk }) hfr hf r (hC _ S1) (fun s' B e D e1 e2 e3 e4 => hname _ s' B ev e D e1 S1 e2 e3 e4) fun h2 B e D E2 E3 e1 e2 e3 e4 => ?_
    subst e1
    exact caughtK h1 h2 _ B e D E2 E3 Q E rfl S1 e2 e3 e4 fun fl h'' tk'' z => q fl h'' tk'' z
end
end Mine
end

section
open PySem PySem.W PySem.Calls PyProof.Rows PySem.Spec PySem.SeqAt
set_option Elab.async false
set_option linter.unusedVariables false
set_option linter.unusedSimpArgs false
set_option linter.deprecated false
set_option maxRecDepth 100000
namespace Mine
section
variable {X : Fx} {m : Str → Option Value} {N : List (Addr × Obj)}
theorem Ev.nfAt {n : Str} {np pos : Pos} {e D : Addr} {oe oD : Obj} {v : Value} {k : Int} {tk : Tok} (hx : m n = some (.ref e)) (hKI : (KK X.w).In X.h0) (he : (e, oe) ∈ N) (hc : oe.cls = .ref 64) (hnc : ∀ c, oe.data ≠ .cls c) (hdict : oe.dict = some D) (hD : (D, oD) ∈ N) (hm : Has (mWA v (.int k tk)) oD)
    (hk : X.env.scope.kind = .function := by rfl) (hl : X.env.kindOf n = some .local := by rfl) (hd : (n == ("__debug__" : Str)) = false := by decide) : Ev X m N (.Attribute (.Name n np) "at" pos) (sI k) := by
  intro Q E s hs q
  refine Attribute_name (Ev.name hx hk hl hd _ _ s hs fun o h1 tk1 st1 ho => ?_)
  have ho' : o = .ref e := ho
  subst ho'
  have S1 := hs.stay st1
  exact nf_get (hKI.keeps S1.base) (S1.get he) hc hnc hdict (S1.get hD) hm (if_pos rfl) rfl fun tk2 => q _ h1 tk2 st1 ⟨tk, rfl⟩
end
/-- what a call that may have met a fault leaves -/
def Rel (g : Heap) (l : List Env) (h : Heap) : Prop := (∀ b o, g.get? b = some o → b ∉ frs l → h.get? b = some o) ∧ g.UpToSlots h
theorem Rel.of_stays {g h : Heap} {l : List Env} (k : g.StaysIn h) : Rel g l h := ⟨fun b o e _ => k b o e, Heap.UpToSlots.of_keeps k⟩
/-- the state in the handler -/
theorem St.caught {X : Fx} {m : Str → Option Value} {N : List (Addr × Obj)} {l : List Env} {base h0 h B : Heap} {e D : Addr} {bad : Int → Prop} {A' : Around} (S : St X m N h0) (hf : X.env.frame = some X.env.locals) (hb : base.StaysIn X.h0) (hbF : ∀ b o, base.get? b = some o → b ∉ frs l) (hsz : base.objs.size ≤ X.h0.objs.size)
    (H : Air B (X.env :: l) e D .none h) (F : Flt h0 (X.env :: l) B e D bad) (hu : h0.UpToSlots h) :
    ∃ vs oD v k tk, Has (mWA v (.int k tk)) oD ∧ bad k ∧ St { prog := X.prog, w := X.w, A := A', env := X.env, h0 := base } m [(D, oD), (e, nfv D vs)] h := by
  obtain ⟨vs, T, oT, ts, he, _⟩ := H.tr
  obtain ⟨oD, v, k, tk, hD, hm, hk⟩ := F.has
  have hL : ∀ b, h0.get? b = none → b ≠ X.env.locals := fun b hb z => by
    obtain ⟨o, _, _, ho, _⟩ := S.fr.ns
    rw [← z, hb] at ho; cases ho
  have hbL : base.get? X.env.locals = none := by
    cases z : base.get? X.env.locals with
    | none => rfl
    | some o => exact absurd (Nat.lt_of_lt_of_le (Heap.lt_size (hb _ _ z)) S.fr.above) (Nat.lt_irrefl _)
  have hbF' : ∀ b o, base.get? b = some o → b ∉ frs (X.env :: l) := fun b o z hm => by
    obtain ⟨x, hx, hxf⟩ := List.mem_filterMap.mp hm
    rcases List.mem_cons.mp hx with rfl | hx
    · rw [← Option.some.inj (hf.symm.trans hxf), hbL] at z; cases z
    · exact hbF b o z (List.mem_filterMap.mpr ⟨x, hx, hxf⟩)
  have hb0 : base.StaysIn h0 := stays_trans hb S.base
  refine ⟨vs, oD, v, k, tk, hm, hk, ⟨hu.ns S.fr.ns, fun b o z => H.stay _ _ (F.gb b o (hb0 b o z) (hbF' b o z)), Nat.le_trans hsz S.fr.above⟩, fun p hp => ?_, ?_⟩
  · rcases List.mem_cons.mp hp with rfl | hp
    · exact ⟨H.stay _ _ hD, hL _ F.gd, none_of_stays hb0 F.gd⟩
    · obtain rfl := List.mem_singleton.mp hp
      exact ⟨he, hL _ F.ge, none_of_stays hb0 F.ge⟩
  · have : D ≠ e := fun z => by rw [z, H.new] at hD; cases hD
    simp [this]
theorem Rel.caught {X : Fx} {m : Str → Option Value} {N : List (Addr × Obj)} {l : List Env} {h0 h h2 B : Heap} {e D : Addr} {bad : Int → Prop} (S : St X m N h0) (hf : X.env.frame = some X.env.locals)
    (H : Air B (X.env :: l) e D .none h) (F : Flt h0 (X.env :: l) B e D bad) (hu : h0.UpToSlots h) (hs : ∀ b o, b ≠ X.env.locals → h.get? b = some o → h2.get? b = some o) : Rel X.h0 l h2 := by
  have hL : ∀ b o, X.h0.get? b = some o → b ≠ X.env.locals := fun b o z y => absurd (Nat.lt_of_lt_of_le (Heap.lt_size z) S.fr.above) (by rw [y]; exact Nat.lt_irrefl _)
  refine ⟨fun b o z hn => hs b o (hL b o z) (H.stay _ _ (F.gb b o (S.base b o z) fun hm => ?_)), fun b o z hd => ?_⟩
  · obtain ⟨x, hx, hxf⟩ := List.mem_filterMap.mp hm
    rcases List.mem_cons.mp hx with rfl | hx
    · exact hL b o z (Option.some.inj (hxf.symm.trans hf))
    · exact hn (List.mem_filterMap.mpr ⟨x, hx, hxf⟩)
  · obtain ⟨sl, hsl⟩ := hu b o (S.base b o z) hd
    exact ⟨sl, hs b _ (hL b o z) hsl⟩
end Mine
end

section
open PySem PySem.W PySem.Calls PyProof.Rows PySem.Spec PySem.SeqAt
set_option Elab.async false
set_option linter.unusedVariables false
set_option linter.unusedSimpArgs false
set_option linter.deprecated false
set_option maxRecDepth 100000
namespace Mine
theorem wp_glob {M : Model} {A : Around} {E : Value → Shared → Prop} {s : Shared} {env : Env} {K : Frag} {mg mb : Str → Option Value} {x : Str} {pos : Pos} {v : Value} {Q : Value → Shared → Prop} (hW : Wd K mg mb s.heap) (e : nsIn K mainGlobals x = some (some v)) (q : Q v s) (hk : env.scope.kind = .function := by rfl) (hl : env.kindOf x = some .globalImplicit := by rfl)
    (hg : env.globals = mainGlobals := by rfl) (hd : (x == ("__debug__" : Str)) = false := by decide) : wpAny M A (eval (.Name x pos) env) Q E s := by
  refine wpAny_Name ?_ hd
  unfold loadName
  simp only [Env.blockKind, hk, hl, ScopeKind.isAnnotationScope, Bool.false_and, Bool.false_eq_true, if_false]
  exact loadGlobal_global (by rw [hg]; exact hW.g) (mg_of hW.ki hW.g e) q
theorem St.use {X : Fx} {m : Str → Option Value} {N : List (Addr × Obj)} {e : Expr} {sp : Sp} {Q : Value → Shared → Prop} {E : Value → Shared → Prop} {s : Shared} {h : Heap} (S : St X m N h) (hh : s.heap = h) (he : Ev X m N e sp)
    (q : ∀ v h' tk, h.StaysIn h' → sp.Is h v h' → Q v { s with heap := h', toks := tk }) : wpAny X.M X.A (eval e X.env) Q E s := by
  subst hh; exact he Q E s S q
theorem FnH.intro {prog : Program} {w : World} {K : Frag} {f : Addr} {args : List Value} {oc : Value} {od : Option Addr} {osl : Array (Option Value)} {fd : FuncData} {b0 : Stmt} {bs : List Stmt} {binds : List (Str × Value)} {lv : Nat} {A : Around} {s : Shared} {R : Result → Shared → Prop} {Z : Flow → Heap → Prop}
    (hA : Lv A (lv + 1)) (hki : K.In s.heap) (hnl : s.heap.NoLimit)
    (ho : K.lookup f = some ⟨oc, od, .func fd, osl⟩) (hb : fd.body = .stmts (b0 :: bs)) (hcd : codeIn K fd.code fd.qualname = true)
    (hbind : bindArgs fd ⟨args, []⟩ = pure binds) (hloc : (binds.all fun x => decide (fd.scope.names.lookup x.1 = some .local)) = true) (hcell : ∀ x ∈ fd.scope.names, x.2 ≠ .cell)
    (h : ∀ h1, St { prog := prog, w := w, A := A.deeper (callEnv fd s.heap.objs.size f), env := callEnv fd s.heap.objs.size f, h0 := s.heap } (fun x => binds.reverse.lookup x) [] h1 → GoR { prog := prog, w := w, A := A.deeper (callEnv fd s.heap.objs.size f), env := callEnv fd s.heap.objs.size f, h0 := s.heap } (fun x => binds.reverse.lookup x) [] (b0 :: bs) Z)
    (q : ∀ fl h' tk, Z fl h' → R (.ok (.ret (match fl with | .ret v => v | _ => .none))) { s with heap := h', toks := tk })
    (hco : fd.scope.isCoroutine = false := by rfl) (hgen : fd.scope.isGenerator = false := by rfl) (hk : fd.scope.kind = .function := by rfl) : codeC (model prog w) A (.call (.ref f) ⟨args, []⟩) R s := by
  refine codeC_call_def (by have := hA.dp; omega) (hki _ _ ho) rfl hnl (codeRec_of hki hcd) hb (BindsTo.of_eq hbind) hcell (fun x hx => of_decide_eq_true (List.all_eq_true.mp hloc x hx)) (fun h1 hns hk1 => ?_) hco hgen hk
  have S1 : St { prog := prog, w := w, A := A.deeper (callEnv fd s.heap.objs.size f), env := callEnv fd s.heap.objs.size f, h0 := s.heap } (fun x => binds.reverse.lookup x) [] h1 := ⟨⟨hns, hk1, Nat.le_refl _⟩, (fun _ hp => nomatch hp), List.nodup_nil⟩
  exact h h1 S1 _ _ _ S1 fun fl h' tk z => q fl h' tk z
theorem f_held {prog : Program} {w : World} {mg mb : Str → Option Value} {W0 : Heap → Prop} {lv : Nat} {f : Addr} {t : Tok} {txt res : List Nat} {place : Int} {ok : Prop} {bad : Int → Prop}
    (hplace : Fn prog w (Wd (KK w) mg mb) lv 231 [.str (sx txt) t] (sI place)) (hcall : FnEC prog w W0 lv f [] (sT (sx res)) ok bad) (hgood : ok → res = txt ∧ place < 0) (hbad : ∀ k, bad k → k = place ∧ 0 ≤ place)
    (hW0 : ∀ h h', h.StaysIn h' → W0 h → W0 h') (hkf : ∀ M h, W0 h → ∃ k, (k = Keeper.frame ∨ k = Keeper.machine) ∧ Looks M h (keeperOf (.ref f)) k)
    {A : Around} {s : Shared} {R : Result → Shared → Prop} {l : List Env} {base : Heap} (hA : Lv A (lv + 1)) (hg : A.guards = some []) (hfr : A.frames = some l) (hb1 : base.StaysIn s.heap) (hb2 : s.heap.FunFrames base l) (hsz : base.objs.size ≤ s.heap.objs.size)
    (hW : Wd (KK w) mg mb base) (h0 : W0 s.heap)
    (q : ∀ h' tk, Rel s.heap l h' → R (.ok (.ret (.bool true))) { s with heap := h', toks := tk }) :
    codeC (model prog w) A (.call (.ref 243) ⟨[.ref f, .str (sx txt) t], []⟩) R s := by
  have hWs := hW.stay hb1
  have hL : s.heap.get? s.heap.objs.size = none := Heap.get?_none_of_le (Nat.le_refl _)
  have hbF : ∀ b o, base.get? b = some o → b ∉ frs l := fun b o z hm => by rw [(hb2.mem hm).1] at z; cases z
  have hbF' : ∀ (env : Env), env.frame = some s.heap.objs.size → ∀ b o, base.get? b = some o → b ∉ frs (env :: l) := fun env hf b o z hm => by
    obtain ⟨x, hx, hxf⟩ := List.mem_filterMap.mp hm
    rcases List.mem_cons.mp hx with rfl | hx
    · rw [← Option.some.inj (hf.symm.trans hxf), none_of_stays hb1 hL] at z; cases z
    · exact hbF b o z (List.mem_filterMap.mpr ⟨x, hx, hxf⟩)
  refine FnH.intro (K := KK w) (Z := fun fl h' => fl = .ret (.bool true) ∧ Rel s.heap l h') hA hWs.ki hWs.nl rfl rfl rfl rfl rfl (by decide) (fun h1 S1 => ?_) fun fl h' tk ⟨e, r⟩ => by subst e; exact q h' tk r
  refine GoR.assign (Ev.c1 (g_law_place hWs) hWs (kp_law_place w) (hA.deeper) (Ev.name rfl) fun v e => e ▸ hplace) fun v ⟨t2, hv⟩ => ?_
  subst hv
  refine GoR.tryCall (W0 := W0) (l := l) (L := s.heap.objs.size) (P := pT (sx res)) (ok := ok) (bad := bad) (lv := lv) (Around.frames_deeper hfr) hg rfl (fun h S => ?_) hA.deeper (upd_ne rfl) (fun h S => hW0 _ _ S.base h0) (fun h S => hkf _ _ (hW0 _ _ S.base h0)) hcall (fun v o ⟨t3, hv⟩ => ?_) (fun h S B e D F => ?_) (fun h0 s' B ev e D e1 S hB F hu Q E hq => ?_) fun h0 h' s B e D E2 E3 Q E e1 S H F hu hq => ?_
  · exact Frm.cons ⟨base, hb1, hb2⟩ S.base hL rfl rfl S.fr.ns
  · subst hv
    obtain ⟨g1, g2⟩ := hgood o
    subst g1
    refine GoR.ret (sp := sB true) (Ev.wk (Ev.and (Ev.cmp (Ev.nameI (upd_ne upd_self)) Ev.int c_lt) fun _ => Ev.or1 (Ev.cmp (Ev.nameS upd_self) (Ev.nameS (upd_ne (upd_ne rfl))) c_eqT)) fun v e => ?_) fun h v h' S st hv => ⟨by rw [show v = .bool true from hv], Rel.of_stays (stays_trans S.base st)⟩
    rw [show v = _ from e]
    simp [g2]
  · exact F.gb _ _ (S.base _ _ (hWs.ki 64 _ rfl)) (hbF' _ rfl _ _ (hW.ki 64 _ rfl))
  · exact wp_glob (hW.stay fun b o z => hB _ _ (F.gb b o (S.base b o (hb1 _ _ z)) (hbF' _ rfl b o z))) (x := "NameFault") rfl hq
  · obtain ⟨vs, oD, v', k, tk, hm, hk, S'⟩ := S.caught (A' := Around.mark _ (some (.ref e))) rfl hb1 hbF hsz H F hu
    obtain ⟨rfl, hk0⟩ := hbad k hk
    subst e1
    refine wpAny_storeName_local rfl S'.fr.ns (fun h3 hn3 hs3 => ?_) rfl
    have S3 := S'.store hn3 hs3
    refine wpAny_execs_cons (wpAny_Return_some (S3.use rfl (Ev.and (Ev.cmp (Ev.nameI (upd_ne upd_self)) Ev.int c_ge) fun _ => Ev.or1 (Ev.cmp (Ev.nfAt upd_self hW.ki (.tail _ (.head _)) rfl (fun _ z => by cases z) rfl (.head _) hm) (Ev.nameI (upd_ne upd_self)) c_eq)) fun v h4 tk4 st4 hv => ?_))
    have hv : v = _ := hv
    subst hv
    refine wpAny_nameGoes rfl (S3.stay st4).fr.ns rfl fun h5 m5 hn5 hs5 => ?_
    refine hq _ _ _ ⟨by simp [hk0], ?_⟩
    exact Rel.caught S rfl H F hu fun b o hb z => (hs5.2 b hb).trans (st4 _ _ ((hs3.2 b hb).trans z))
end Mine
end

section
open PySem PySem.W PySem.Calls PyProof.Rows PySem.Spec PySem.SeqAt
set_option Elab.async false
set_option linter.unusedVariables false
set_option linter.unusedSimpArgs false
set_option linter.deprecated false
set_option maxRecDepth 100000
namespace Mine
def hit1 (l : List Nat) (j : Nat) : Bool := decide (l.getD j 0 = 47) && (decide (j = 0) || decide (l.getD (j - 1) 0 = 47))
def hit2 (c : Nat) : Bool := decide (c ∈ [37, 42]) || (decide (c < 32) || ((decide (126 < c) && decide (c < 160)) || decide (c ∈ [8232, 8233])))
def stp (l : List Nat) (j : Nat) : List Nat := (if hit1 l j then [j] else []) ++ (if hit2 (l.getD j 0) then [j] else [])
def ini (l : List Nat) : List Nat := if (decide (l = []) || decide (l.getD (l.length - 1) 0 = 47)) = true then [l.length] else []
def fds (l : List Nat) (i : Nat) : List Nat := ini l ++ (List.range i).flatMap (stp l)
theorem fds_succ (l : List Nat) (i : Nat) : fds l (i + 1) = fds l i ++ stp l i := by
  unfold fds
  rw [List.range_succ, List.flatMap_append, List.append_assoc]
  simp
theorem stp_len (l : List Nat) (j : Nat) : (stp l j).length ≤ 2 := by
  unfold stp
  split <;> split <;> simp
theorem fds_len (l : List Nat) : ∀ i, (fds l i).length ≤ 1 + 2 * i
  | 0 => by unfold fds ini; split <;> simp
  | i + 1 => by
    rw [fds_succ, List.length_append]
    have := fds_len l i
    have := stp_len l i
    omega
section
variable {prog : Program} {w : World} {mg mb : Str → Option Value} {c : Nat} {t u x : Tok} {l p q : List Nat} {lv : Nat}
/-- the least of what was found -/
def Plc (l : List Nat) (k : Int) : Prop := (fds l l.length = [] ∧ k = -1) ∨ ∃ M : Nat, k = (M : Int) ∧ M ∈ fds l l.length ∧ ∀ a ∈ fds l l.length, M ≤ a
theorem f_place (hl : l.length ≤ 10000) : Fn prog w (Wd (KK w) mg mb) 1 231 [.str (sx l) t] (.pl fun v => ∃ k tk, v = .int k tk ∧ Plc l k) := by
  refine Fn.intro (K := KK w) rfl rfl rfl Wd.kn rfl rfl (by decide) (fun A h0 L hA hW => ?_)
  have sl1 : ∀ (a b : Nat), (sx [a] == sx [b]) = decide (a = b) := fun a b => by rw [sx_inj, decide_eq_decide]; simp
  refine Go.assignN (P := fun o => ∃ vs n, o = lo vs n ∧ Lst fI (ini l) vs) (Ev.ife (b := decide (l = []) || decide (l.getD (l.length - 1) 0 = 47)) (Ts.mono (Ts.tb (Tb.or (b := decide (l = [])) (c := decide (l.getD (l.length - 1) 0 = 47) || false) (Ts.mono (Ts.cmp (Ev.nameS rfl) (Ev.lit (l := []) (by decide)) c_eqT) sx_inj) fun h => Tb.or (Ts.mono (Ts.cmp (Ev.strLast (Ev.nameS rfl) (Ev.neg Ev.int) ?_ (by omega)) (Ev.lit (l := [47]) (by decide)) c_eqT) (sl1 _ _)) fun _ => Tb.orN)) (by rw [Bool.or_false])) (fun h => ?_) (fun h => ?_)) fun a o ⟨vs, n, ho, hvs⟩ => ?_
  · have := of_decide_eq_false h
    cases l with
    | nil => exact (this rfl).elim
    | cons a r => simp
  · refine Ev.list (sps := [sI ((l.length : Nat) : Int)]) ⟨Ev.b1 (g_len hW) (Ev.nameS rfl) (k_lenT (by omega)), trivial⟩ fun h1 vs h2 hv => ?_
    rw [ini, if_pos h]
    exact all_fI (xs := [l.length]) hv
  · refine Ev.list (sps := []) trivial fun h1 vs h2 hv => ?_
    rw [ini, if_neg (by rw [h]; decide)]
    exact all_fI (xs := []) hv
  · subst ho
    refine Go.loop (n := l.length) (P := fun i v => i < l.length ∧ ∃ t, v = .int ((0 : Int) + (i : Int)) t) (fun i m N => ∃ vs n, N = [(a, lo vs n)] ∧ Lst fI (fds l i) vs ∧ m "found" = some (.ref a) ∧ m "text" = some (.str (sx l) t))
      (Ev.t1 (g_range hW) (Ev.b1 (g_len hW) (Ev.nameS (upd_ne rfl)) (k_lenT (by omega))) k_range1) (fun h0 v h st hs hv => src_up hv hA.hd st (by omega) (by simp) (by omega)) ⟨vs, n, rfl, by simpa [fds] using hvs, upd_self, upd_ne rfl⟩ (fun i v m1 N1 own hi ⟨_, t2, hv⟩ ⟨vs, n, hN, h1, h2, h3⟩ hmap => ?_) fun m1 N1 ⟨vs, n, hN, h1, h2, h3⟩ hmap => ?_
    · subst hN hv
      have hfl := fds_len l i
      have hls : vs.length = (fds l i).length := h1.1
      refine Go.assign (P := pI ((l.getD i 0 : Nat) : Int)) (Ev.b1 (g_ord hW) (Ev.strI (i := i) (Ev.nameS (upd_ne h3)) (Ev.i (Ev.nameI upd_self) (by omega)) hi (by omega)) k_ord) fun v ⟨t3, hv⟩ => ?_
      subst hv
      refine Go.ite (b := hit1 l i) (Ts.mono (Ts.tb (Tb.and (b := decide (l.getD i 0 = 47)) (c := (decide (i = 0) || (decide (l.getD (i - 1) 0 = 47) || false)) && true) (Ts.mono (Ts.cmp (Ev.strI (i := i) (Ev.nameS (upd_ne (upd_ne h3))) (Ev.i (Ev.nameI (upd_ne upd_self)) (by omega)) hi (by omega)) (Ev.lit (l := [47]) (by decide)) c_eqT) (sl1 _ _))
        fun h => Tb.and (Ts.tb (Tb.or (b := decide (i = 0)) (Ts.mono (Ts.cmp (show Ev _ _ _ _ (sI ((i : Nat) : Int)) from Ev.i (Ev.nameI (upd_ne upd_self)) (by omega)) Ev.int c_eq) (decide_eq_decide.mpr (by omega))) fun h0 => Tb.or (Ts.mono (Ts.cmp (Ev.strI (i := i - 1) (Ev.nameS (upd_ne (upd_ne h3))) (Ev.i (Ev.bin (Ev.nameI (upd_ne upd_self)) Ev.int o_sub) (by have := of_decide_eq_false h0; omega)) (by omega) (by omega)) (Ev.lit (l := [47]) (by decide)) c_eqT) (sl1 _ _)) fun _ => Tb.orN)) fun _ => Tb.andN)) (by simp [hit1])) (fun e => ?_) (fun e => ?_)
      · refine Go.append (upd_ne (upd_ne h2)) (.head _) (show Ev _ _ _ _ (sI ((i : Nat) : Int)) from Ev.i (Ev.nameI (upd_ne upd_self)) (by omega)) (by omega) (fun o' => .head) fun v0 n0 hv0 => Go.nilSeq ?_
        refine Go.ite (b := hit2 (l.getD i 0)) (Ts.mono (Ts.tb (Tb.or (b := decide (l.getD i 0 ∈ [37, 42])) (Ts.mono (Ts.cmp (Ev.strI (i := i) (Ev.nameS (upd_ne (upd_ne h3))) (Ev.i (Ev.nameI (upd_ne upd_self)) (by omega)) hi (by omega)) (Ev.lit (l := [37, 42]) (by decide)) c_inT) in_sx) fun _ => Tb.or (b := decide (l.getD i 0 < 32)) (Ts.mono (Ts.cmp (Ev.nameI upd_self) Ev.int c_lt) (decide_eq_decide.mpr (by omega)))
          fun _ => Tb.or (b := decide (126 < l.getD i 0) && decide (l.getD i 0 < 160)) (Ts.mono (Ts.cmp2 Ev.int (Ev.nameI upd_self) Ev.int c_lt c_lt) (by rw [Bool.eq_iff_iff]; simp; omega)) fun _ => Tb.or (Ts.cmpS (Ev.nameI upd_self) (Ev.asU (Ev.tuple (sps := [sI ((8232 : Nat) : Int), sI ((8233 : Nat) : Int)]) (P := Lst fI [8232, 8233]) ⟨Ev.nat, Ev.nat, trivial⟩ fun h1 vs h2 hv => all_fI (xs := [8232, 8233]) hv)) c_inU) fun _ => Tb.orN)) (by rw [hit2, Bool.or_false])) (fun e2 => ?_) (fun e2 => Go.nilSeq ?_)
        · refine Go.append (upd_ne (upd_ne h2)) (.head _) (show Ev _ _ _ _ (sI ((i : Nat) : Int)) from Ev.i (Ev.nameI (upd_ne upd_self)) (by omega)) (by simp; omega) (fun o' => .head) fun v n' hv => Go.nilSeq (Go.nil fun h _ => ⟨[(a, lo (vs ++ [v0] ++ [v]) n')], rfl, rfl, vs ++ [v0] ++ [v], n', rfl, ?_, upd_ne (upd_ne h2), upd_ne (upd_ne h3)⟩)
          rw [fds_succ, stp, if_pos e, if_pos e2]
          rw [← List.append_assoc]; exact (h1.push hv0).push hv
        · refine Go.nil fun h _ => ⟨[(a, lo (vs ++ [v0]) n0)], rfl, rfl, vs ++ [v0], n0, rfl, ?_, upd_ne (upd_ne h2), upd_ne (upd_ne h3)⟩
          rw [fds_succ, stp, if_pos e, if_neg (by rw [e2]; decide)]
          rw [List.append_nil]; exact h1.push hv0
      · refine Go.nilSeq ?_
        refine Go.ite (b := hit2 (l.getD i 0)) (Ts.mono (Ts.tb (Tb.or (b := decide (l.getD i 0 ∈ [37, 42])) (Ts.mono (Ts.cmp (Ev.strI (i := i) (Ev.nameS (upd_ne (upd_ne h3))) (Ev.i (Ev.nameI (upd_ne upd_self)) (by omega)) hi (by omega)) (Ev.lit (l := [37, 42]) (by decide)) c_inT) in_sx) fun _ => Tb.or (b := decide (l.getD i 0 < 32)) (Ts.mono (Ts.cmp (Ev.nameI upd_self) Ev.int c_lt) (decide_eq_decide.mpr (by omega)))
          fun _ => Tb.or (b := decide (126 < l.getD i 0) && decide (l.getD i 0 < 160)) (Ts.mono (Ts.cmp2 Ev.int (Ev.nameI upd_self) Ev.int c_lt c_lt) (by rw [Bool.eq_iff_iff]; simp; omega)) fun _ => Tb.or (Ts.cmpS (Ev.nameI upd_self) (Ev.asU (Ev.tuple (sps := [sI ((8232 : Nat) : Int), sI ((8233 : Nat) : Int)]) (P := Lst fI [8232, 8233]) ⟨Ev.nat, Ev.nat, trivial⟩ fun h1 vs h2 hv => all_fI (xs := [8232, 8233]) hv)) c_inU) fun _ => Tb.orN)) (by rw [hit2, Bool.or_false])) (fun e2 => ?_) (fun e2 => Go.nilSeq ?_)
        · refine Go.append (upd_ne (upd_ne h2)) (.head _) (show Ev _ _ _ _ (sI ((i : Nat) : Int)) from Ev.i (Ev.nameI (upd_ne upd_self)) (by omega)) (by omega) (fun o' => .head) fun v n' hv => Go.nilSeq (Go.nil fun h _ => ⟨[(a, lo (vs ++ [v]) n')], rfl, rfl, vs ++ [v], n', rfl, ?_, upd_ne (upd_ne h2), upd_ne (upd_ne h3)⟩)
          rw [fds_succ, stp, if_neg (by rw [e]; decide), if_pos e2]
          rw [List.nil_append]; exact h1.push hv
        · refine Go.nil fun h _ => ⟨[(a, lo vs n)], rfl, rfl, vs, n, rfl, ?_, upd_ne (upd_ne h2), upd_ne (upd_ne h3)⟩
          rw [fds_succ, stp, if_neg (by rw [e]; decide), if_neg (by rw [e2]; decide)]
          rw [List.nil_append, List.append_nil]; exact h1
    · subst hN
      have hfl := fds_len l l.length
      refine Go.retZ (Ev.ife (b := decide (fds l l.length ≠ [])) (Ts.cmpS (Ev.lname h2 (.head _) h1) (Ev.asL (Ev.list (sps := []) (P := fun vs => vs = []) trivial fun h1 vs h2 hv => ?_)) (c_neN (P := Lst fI (fds l l.length)) (by have := hA.un; show A.units < _; omega) (fun ws hw => ?_) fun ws hw => hw)) (fun h => ?_) (fun h => ?_))
      · match vs, hv with
        | [], _ => rfl
      · have : ws.length = (fds l l.length).length := hw.1
        rw [this, decide_eq_decide]
        cases fds l l.length <;> simp
      · exact Ev.wk (Ev.b1 (g_min hW) (Ev.lname h2 (.head _) h1) (k_min hA.hd (of_decide_eq_true h))) fun v ⟨M, tk, e, hM, hle⟩ => ⟨M, tk, e, .inr ⟨M, rfl, hM, hle⟩⟩
      · refine Ev.wk (Ev.neg (Ev.int (i := 1))) fun v ⟨tk, e⟩ => ⟨-1, tk, e, .inl ⟨?_, rfl⟩⟩
        have := of_decide_eq_false h
        exact Classical.byContradiction this
end
end Mine
end

section
open PySem PySem.W PySem.Calls PyProof.Rows PySem.Spec PySem.SeqAt
set_option Elab.async false
set_option linter.unusedVariables false
set_option linter.unusedSimpArgs false
set_option linter.deprecated false
set_option maxRecDepth 100000
namespace Mine
theorem Plc.one {l : List Nat} {j k : Int} (hj : Plc l j) (hk : Plc l k) : j = k := by
  rcases hj with ⟨a, rfl⟩ | ⟨M, rfl, hM, hl⟩ <;> rcases hk with ⟨b, rfl⟩ | ⟨M', rfl, hM', hl'⟩
  · rfl
  · rw [a] at hM'; cases hM'
  · rw [b] at hM; cases hM
  · have := hl _ hM'; have := hl' _ hM; omega
theorem f_placeI {prog : Program} {w : World} {mg mb : Str → Option Value} {l : List Nat} {t : Tok} {k : Int} (hl : l.length ≤ 10000) (hk : Plc l k) : Fn prog w (Wd (KK w) mg mb) 1 231 [.str (sx l) t] (sI k) :=
  fun A s R hA hs q => f_place hl A s R hA hs fun v h' tk st hv => q v h' tk st (by
    obtain ⟨j, u, e, hj⟩ := hv
    exact ⟨u, by rw [e, hj.one hk]⟩)
/-- the place where check_name raises is the least place found -/
theorem hit2_eq {c : Nat} (hc : c < 55296) (h47 : c ≠ 47) : hit2 c = (decide (c = 37 ∨ c = 42) || barred c) := by
  have e1 : decide (126 < c) = decide (127 ≤ c) := decide_eq_decide.mpr Iff.rfl
  have e2 : decide (c < 160) = decide (c ≤ 159) := decide_eq_decide.mpr Nat.lt_succ_iff
  have e3 : isHalf c = false := by unfold isHalf; rw [decide_eq_false (Nat.not_le_of_lt hc)]; rfl
  have e4 : decide (c ∈ [8232, 8233]) = (decide (c = 8232) || decide (c = 8233)) := by simp [Bool.decide_or]
  have e5 : decide (c ∈ [37, 42]) = decide (c = 37 ∨ c = 42) := by simp
  unfold hit2 barred
  rw [e1, e2, e3, e4, e5, Bool.or_false]
def H (l : List Nat) (j : Nat) : Prop := hit1 l j = true ∨ hit2 (l.getD j 0) = true
def Eh (l : List Nat) : Prop := l = [] ∨ l.getD (l.length - 1) 0 = 47
theorem hit2_47 : hit2 47 = false := by decide
theorem ckp_spec {l : List Nat} (hc : ∀ c ∈ l, c < 55296) : ∀ (n i bg : Nat), i + n = l.length → bg ≤ i → (bg = i ↔ (i = 0 ∨ l.getD (i - 1) 0 = 47)) →
    (∀ p, ckp bg i (l.drop i) = some p → (i ≤ p ∧ ((p < l.length ∧ H l p) ∨ (p = l.length ∧ Eh l)) ∧ ∀ j, i ≤ j → j < p → ¬ H l j)) ∧ (ckp bg i (l.drop i) = none → (∀ j, i ≤ j → j < l.length → ¬ H l j) ∧ ¬ Eh l) := by
  intro n
  induction n with
  | zero =>
    intro i bg hn hb hbg
    have hi : i = l.length := by omega
    subst hi
    have eh : Eh l ↔ bg = l.length := by
      rw [hbg, Eh]
      constructor
      · rintro (h | h)
        · exact .inl (by rw [h]; rfl)
        · exact .inr h
      · rintro (h | h)
        · exact .inl (List.eq_nil_of_length_eq_zero h)
        · exact .inr h
    rw [List.drop_length]
    simp only [ckp]
    split
    · rename_i h
      refine ⟨fun p e => ?_, fun e => ?_⟩
      · cases e
        exact ⟨by omega, .inr ⟨h, eh.mpr h⟩, fun j h1 h2 => by omega⟩
      · cases e
    · rename_i h
      refine ⟨fun p e => ?_, fun _ => ⟨fun j h1 h2 => by omega, fun z => h (eh.mp z)⟩⟩
      cases e
  | succ n ih =>
    intro i bg hn hb hbg
    have hi : i < l.length := by omega
    have hgd : l.getD i 0 = l[i] := by rw [List.getD_eq_getElem?_getD, List.getElem?_eq_getElem hi]; rfl
    have here : ∀ {o : Option Nat}, o = some i → H l i → (∀ p, o = some p → (i ≤ p ∧ ((p < l.length ∧ H l p) ∨ (p = l.length ∧ Eh l)) ∧ ∀ j, i ≤ j → j < p → ¬ H l j)) ∧ (o = none → (∀ j, i ≤ j → j < l.length → ¬ H l j) ∧ ¬ Eh l) := fun e h => by
      subst e
      refine ⟨fun p e => ?_, fun e => ?_⟩
      · cases e
        exact ⟨by omega, .inl ⟨hi, h⟩, fun j h1 h2 => by omega⟩
      · cases e
    have next : ∀ {bg' : Nat} {o : Option Nat}, o = ckp bg' (i + 1) (l.drop (i + 1)) → bg' ≤ i + 1 → (bg' = i + 1 ↔ (i + 1 = 0 ∨ l.getD (i + 1 - 1) 0 = 47)) → ¬ H l i → (∀ p, o = some p → (i ≤ p ∧ ((p < l.length ∧ H l p) ∨ (p = l.length ∧ Eh l)) ∧ ∀ j, i ≤ j → j < p → ¬ H l j)) ∧ (o = none → (∀ j, i ≤ j → j < l.length → ¬ H l j) ∧ ¬ Eh l) := fun e h1 h2 h3 => by
      subst e
      obtain ⟨a, b⟩ := ih (i + 1) _ (by omega) h1 h2
      have sp : ∀ j, i ≤ j → j = i ∨ i + 1 ≤ j := fun j hj => by omega
      refine ⟨fun p e => ?_, fun e => ?_⟩
      · obtain ⟨a1, a2, a3⟩ := a p e
        refine ⟨by omega, a2, fun j h4 h5 => ?_⟩
        rcases sp j h4 with rfl | h6
        · exact h3
        · exact a3 j h6 h5
      · obtain ⟨b1, b2⟩ := b e
        refine ⟨fun j h4 h5 => ?_, b2⟩
        rcases sp j h4 with rfl | h6
        · exact h3
        · exact b1 j h6 h5
    rw [List.drop_eq_getElem_cons hi]
    simp only [ckp]
    by_cases h47 : l[i] = 47
    · rw [if_pos h47]
      by_cases hib : i = bg
      · rw [if_pos hib]
        refine here rfl (.inl ?_)
        have := hbg.mp hib.symm
        unfold hit1
        rw [hgd, h47]
        simp only [decide_true, Bool.true_and, Bool.or_eq_true, decide_eq_true_eq]
        exact this
      · rw [if_neg hib]
        refine next rfl (Nat.le_refl _) ⟨fun _ => .inr (by rw [Nat.add_sub_cancel, hgd]; exact h47), fun _ => rfl⟩ ?_
        rintro (h | h)
        · unfold hit1 at h
          simp only [Bool.and_eq_true, Bool.or_eq_true, decide_eq_true_eq] at h
          exact hib (hbg.mpr h.2).symm
        · rw [hgd, h47, hit2_47] at h; cases h
    · rw [if_neg h47]
      have h2 := hit2_eq (hc _ (List.getElem_mem hi)) h47
      have h1 : hit1 l i ≠ true := by unfold hit1; rw [hgd]; simp [h47]
      have bgn : bg = i + 1 ↔ (i + 1 = 0 ∨ l.getD (i + 1 - 1) 0 = 47) := ⟨fun h => by omega, fun h => by
        rcases h with h | h
        · omega
        · rw [Nat.add_sub_cancel, hgd] at h; exact (h47 h).elim⟩
      split
      · rename_i hw
        exact here rfl (.inr (by rw [hgd, h2]; simp [hw]))
      · rename_i hw
        split
        · rename_i hbd
          exact here rfl (.inr (by rw [hgd, h2]; simp [hbd]))
        · rename_i hbd
          refine next rfl (by omega) bgn ?_
          rintro (h | h)
          · exact h1 h
          · rw [hgd, h2] at h; simp [hw, hbd] at h
end Mine
end

section
open PySem PySem.W PySem.Calls PyProof.Rows PySem.Spec PySem.SeqAt
set_option Elab.async false
set_option linter.unusedVariables false
set_option linter.unusedSimpArgs false
namespace Mine
theorem mem_stp {l : List Nat} {i a : Nat} : a ∈ stp l i ↔ a = i ∧ H l i := by
  unfold stp H
  generalize hit1 l i = p
  generalize hit2 (l.getD i 0) = q
  cases p <;> cases q <;> simp
theorem mem_fds {l : List Nat} {a : Nat} : a ∈ fds l l.length ↔ (a = l.length ∧ Eh l) ∨ (a < l.length ∧ H l a) := by
  unfold fds
  rw [List.mem_append, List.mem_flatMap]
  refine or_congr ?_ ?_
  · unfold ini Eh
    by_cases h : l = [] ∨ l.getD (l.length - 1) 0 = 47
    · rw [if_pos (by rw [Bool.or_eq_true, decide_eq_true_eq, decide_eq_true_eq]; exact h)]
      simp only [List.mem_singleton]
      exact ⟨fun e => ⟨e, h⟩, fun e => e.1⟩
    · rw [if_neg (by rw [Bool.or_eq_true, decide_eq_true_eq, decide_eq_true_eq]; exact h)]
      exact ⟨fun e => (List.not_mem_nil e).elim, fun e => (h e.2).elim⟩
  · constructor
    · rintro ⟨i, hi, ha⟩
      obtain ⟨rfl, hh⟩ := mem_stp.mp ha
      exact ⟨List.mem_range.mp hi, hh⟩
    · rintro ⟨h1, h2⟩
      exact ⟨a, List.mem_range.mpr h1, mem_stp.mpr ⟨rfl, h2⟩⟩
theorem plc_chk {l : List Nat} (hc : ∀ c ∈ l, c < 55296) : (∀ p, chk l = some p → Plc l (p : Int)) ∧ (chk l = none → Plc l (-1)) := by
  obtain ⟨a, b⟩ := ckp_spec hc l.length 0 0 (by omega) (Nat.le_refl _) ⟨fun _ => .inl rfl, fun _ => rfl⟩
  rw [List.drop_zero] at a b
  refine ⟨fun p e => ?_, fun e => .inl ⟨?_, rfl⟩⟩
  · obtain ⟨_, h2, h3⟩ := a p e
    refine .inr ⟨p, rfl, mem_fds.mpr ?_, fun x hx => ?_⟩
    · rcases h2 with h | h
      · exact .inr h
      · exact .inl h
    · rcases mem_fds.mp hx with ⟨rfl, _⟩ | ⟨h4, h5⟩
      · rcases h2 with h | h <;> omega
      · rcases Nat.lt_or_ge x p with h6 | h6
        · exact (h3 x (Nat.zero_le _) h6 h5).elim
        · exact h6
  · obtain ⟨h1, h2⟩ := b e
    refine List.eq_nil_iff_forall_not_mem.mpr fun x hx => ?_
    rcases mem_fds.mp hx with ⟨_, h⟩ | ⟨h4, h5⟩
    · exact h2 h
    · exact h1 x (Nat.zero_le _) h4 h5
end Mine
end

section
open PySem PySem.W PySem.Calls PyProof.Rows PySem.Spec PySem.SeqAt
set_option Elab.async false
set_option linter.unusedVariables false
set_option linter.unusedSimpArgs false
set_option linter.deprecated false
set_option maxRecDepth 100000
namespace Mine
-- a dict written out, of texts
abbrev Lt : Type := Str × Nat × Pos
abbrev ltE (p : Lt) : Expr := .Constant (.str p.1) p.2.1 p.2.2
def twoOf (D : List (Lt × Lt)) : List (Option Expr) × List Expr := (D.map fun d => some (ltE d.1), D.map fun d => ltE d.2)
def KV : List (Str × Str) → List (Str × Value) → Prop
  | [], [] => True
  | (k, v) :: xs, (k', u) :: kvs => k = k' ∧ (∃ t, u = .str v t) ∧ KV xs kvs
  | _, _ => False
section
variable {X : Fx} {m : Str → Option Value} {N : List (Addr × Obj)}
theorem pairs_lits {pos : Pos} : ∀ (D : List (Lt × Lt)),
    Rn X (St X m N) (evalPairs (pairTrees (D.map fun d => some (ltE d.1)) (D.map fun d => ltE d.2) X.env pos)) (fun _ vs _ => ∃ kvs, Carries (PySem.strKind X.prog X.w) vs kvs ∧ KV (D.map fun d => (d.1.1, d.2.1)) kvs) := by
  intro D
  induction D with
  | nil =>
    intro Q E s hs q
    exact wpAny_pure (q _ s.heap s.toks (stays_refl _) ⟨[], trivial, trivial⟩)
  | cons d r ih =>
    intro Q E s hs q
    refine evalPairs_cons (Ev.str _ _ s hs fun kv h1 tk1 st1 ⟨t1, e1⟩ => wpAny_bind (Ev.str _ _ _ (hs.stay st1) fun vv h2 tk2 st2 ⟨t2, e2⟩ => wpAny_bind (wpAny_standAt (wpAny_pure (ih _ _ _ ((hs.stay st1).stay st2) fun ws h3 tk3 st3 ⟨kvs, c, d'⟩ => ?_)))))
    subst e1 e2
    exact q _ h3 tk3 (stays_trans (stays_trans st1 st2) st3) ⟨(d.1.1, .str d.2.1 t2) :: kvs, ⟨strKind_is _ _ d.1.1 t1, rfl, c⟩, rfl, ⟨t2, rfl⟩, d'⟩
theorem pairs_litsX {pos : Pos} {xs : List (Str × Str)} (D : List (Lt × Lt)) (h : D.map (fun d => (d.1.1, d.2.1)) = xs) :
    Rn X (St X m N) (evalPairs (pairTrees (D.map fun d => some (ltE d.1)) (D.map fun d => ltE d.2) X.env pos)) (fun _ vs _ => ∃ kvs, Carries (PySem.strKind X.prog X.w) vs kvs ∧ KV xs kvs) := h ▸ pairs_lits D
theorem KV.get {xs : List (Str × Str)} {kvs : List (Str × Value)} (h : KV xs kvs) (x : Str) : (valueAt kvs x = none ∧ xs.lookup x = none) ∨ ∃ v t, valueAt kvs x = some (.str v t) ∧ xs.lookup x = some v := by
  induction xs generalizing kvs with
  | nil =>
    cases kvs with
    | nil => exact .inl ⟨rfl, rfl⟩
    | cons _ _ => exact h.elim
  | cons p xs ih =>
    obtain ⟨k, v⟩ := p
    cases kvs with
    | nil => exact h.elim
    | cons p' kvs =>
      obtain ⟨k', u⟩ := p'
      obtain ⟨rfl, ⟨t, rfl⟩, h⟩ := h
      by_cases e : x = k
      · subst e
        exact .inr ⟨v, t, by simp [valueAt], by simp [List.lookup_cons]⟩
      · have e1 : valueAt ((k, .str v t) :: kvs) x = valueAt kvs x := by
          unfold valueAt
          rw [List.find?_cons_of_neg (by simpa using fun z => e z.symm)]
        rw [e1, List.lookup_cons, show (x == k) = false from beq_eq_false_iff_ne.mpr e]
        exact ih h
theorem KV.keys {xs : List (Str × Str)} {kvs : List (Str × Value)} (h : KV xs kvs) : kvs.map (·.1) = xs.map (·.1) := by
  induction xs generalizing kvs with
  | nil =>
    cases kvs with
    | nil => rfl
    | cons _ _ => exact h.elim
  | cons p xs ih =>
    cases kvs with
    | nil => exact h.elim
    | cons p' kvs =>
      obtain ⟨h1, _, h⟩ := h
      rw [List.map_cons, List.map_cons, ih h, h1]
theorem F_type_dget : typeOf (.builtin "dict.get") = pure (.type "method_descriptor") := by show builtinType _ = _; rw [builtinType_eq_fast]; kernel_rfl
theorem Ev.dispGet {keys : List (Option Expr)} {values : List Expr} {dpos apos pos : Pos} {e1 e2 : Expr} {xs : List (Str × Str)} {x : Str} {pl : Sem Bool} (D : List (Lt × Lt)) (hx1 : (keys, values) = twoOf D) (hx3 : D.map (fun d => (d.1.1, d.2.1)) = xs) (hall : keys.all (·.isSome) = true) (hl : keys.length = values.length) (hk0 : keys ≠ []) (hlen : keys.length ≤ 15)
    (hmg : ∀ kvs, KV xs kvs → merged [] kvs = kvs) (hsys : ∀ h, St X m N h → (h.objs.size == sysModules) = false) (h1 : Ev X m N e1 (sT x)) (h2 : Ev X m N e2 (sT x)) (hp : [e1, e2].all plainE = true := by rfl)
    (he : eval (.Call (.Attribute (.Dict keys values dpos) "get" apos) [e1, e2] [] pos) X.env = (do
        let ov ← eval (.Dict keys values dpos) X.env
        standAt apos.atName
        let (f, first) ← holding [ov] (getMethod ov "get" pl)
        callWith pos f first (backTo pos (starEach [e1, e2] X.env)) []) := by rfl) :
    Ev X m N (.Call (.Attribute (.Dict keys values dpos) "get" apos) [e1, e2] [] pos) (sT ((xs.lookup x).getD x)) := by
  obtain ⟨rfl, rfl⟩ := Prod.mk.inj hx1
  intro Q E s hs q
  refine MethodCall_ (wpAny_Dict_walk (knd := PySem.strKind X.prog X.w) hall hl hk0 hlen ?_) he
  have st0 : s.heap.StaysIn (s.heap.push { cls := .type "dict", data := .dict #[] }) := fun b o e => Heap.get?_push_of_some _ e
  refine pairs_litsX D hx3 _ _ _ (hs.stay st0) fun vs h1' tk1 st1 ⟨kvs, hc, hkv⟩ => ⟨kvs, hc, ?_, fun h' hd hsb => ?_⟩
  · refine ⟨_, #[], _, st1 _ _ (Heap.get?_push_size _ rfl), ?_, rfl, ?_, ?_, List.nodup_nil⟩
    · exact ⟨rfl, rfl, rfl⟩
    · intro e he; simp at he
    · first | exact trivial | exact .nil | simp [Pairs]
  · rw [hmg kvs hkv] at hd
    have st3 : s.heap.StaysIn h' := fun b o e => (hsb.2 b (Nat.ne_of_lt (Heap.lt_size e))).trans (st1 _ _ (st0 _ _ e))
    have S1 : St X m N h' := hs.stay st3
    refine getMethod_builtin hd.typeIs PySem.F.plainAttrs_dict PySem.F.slot_dict_get F_type_dget hd.mapOf.noDict ?_
    refine callWs (f := .builtin "dict.get") (first := [.ref s.heap.objs.size]) (sps := [sT x, sT x]) (sp := sT ((xs.lookup x).getD x)) keep_blt ⟨h1, h2, trivial⟩ hp S1 (fun us h st hs' hvs => ?_) fun u h2 tk2 st2 hu => q u h2 tk2 (stays_trans st3 st2) hu
    match us, hvs with
    | [a, b], hvs =>
      obtain ⟨t1, rfl⟩ := hvs.1
      obtain ⟨t2, rfl⟩ := hvs.2.1
      intro Q E s2 e2 q2
      have hd2 := hd.keep st
      subst e2
      refine call_meetsIn PySem.F.slot_dict_get hd2.typeIs PySem.F.entry_dict_get (PySem.F.args_dict_get_3 _ _ _) (meets_dict_get_default (PySem.strKind X.prog X.w) _ (strKind_is _ _ x t1) (hsys _ hs) _) ⟨_, hd2.mapOf, q2 _ _ _ (stays_refl _) ?_⟩
      rcases hkv.get x with ⟨g1, g2⟩ | ⟨v, t, g1, g2⟩
      · rw [g1, g2]; exact ⟨t2, rfl⟩
      · rw [g1, g2]; exact ⟨t, rfl⟩
end
end Mine
end

section
open PySem PySem.W PySem.Calls PyProof.Rows PySem.Spec PySem.SeqAt
set_option Elab.async false
set_option linter.unusedVariables false
set_option linter.unusedSimpArgs false
set_option linter.deprecated false
set_option maxRecDepth 100000
namespace Mine
section
variable {X : Fx} {m : Str → Option Value} {N : List (Addr × Obj)} {Z : Zt} {rest : List Stmt}
/-- x[0] = e, a list of ours -/
theorem Go.setFirst {x : Str} {p1 p2 pos : Pos} {k : Nat} {ip : Pos} {e : Expr} {a : Addr} {u : Value} {vs : List Value} {n : Nat} {P : Value → Prop} (hx : m x = some (.ref a)) (hm : (a, lo (u :: vs) n) ∈ N) (he : Ev X m N e (.pl P))
    {f : Obj → List (Addr × Obj)} (hch : ∀ o', Ch a (lo (u :: vs) n) o' N (f o')) (kk : ∀ v o', P v → (∃ n', o'.cls = .type "list" ∧ o'.data = .seq (v :: vs).toArray n' ∧ o'.dict = none ∧ o'.slots = #[]) → Go X m (f o') rest Z)
    (hs : swapsWith e (some (.Subscript (.Name x p1) (.Constant (.int 0) k ip) p2)) pos.line X.env = pure false := by rfl) (hk : X.env.scope.kind = .function := by rfl) (hl : X.env.kindOf x = some .local := by rfl) (hd : (x == ("__debug__" : Str)) = false := by decide) :
    Go X m N (.Assign [.Subscript (.Name x p1) (.Constant (.int 0) k ip) p2] e pos :: rest) Z := by
  intro Q E s hst q qe
  refine wpAny_execs_cons (wpAny_Assign_Subscript (he _ _ s hst fun v h1 tk1 st1 hv => Ev.name hx hk hl hd _ _ _ (hst.stay st1) fun w h2 tk2 st2 hw => Ev.int _ _ _ ((hst.stay st1).stay st2) fun i h3 tk3 st3 hi => ?_) hs)
  obtain ⟨t, rfl⟩ := hi
  have hw' : w = .ref a := hw
  subst hw'
  have S3 := ((hst.stay st1).stay st2).stay st3
  have ho := S3.get hm
  have hT : ({ s with heap := h3, toks := tk3 } : Shared).TypeIs (.ref a) "list" := ⟨_, ho, rfl⟩
  unfold setItem
  try with_reducible refine wpAny_holding ?_
  first | refine wpAny_bind (wpAny_pure ?_) | skip
  refine wpAny_bind (wpAny_sequenceKey hT (by decide) ?_)
  refine wpAny_bind (wpAny_callSpecial?_slot (name := Str.ofString "__setitem__") hT slot_list_setitem
    (wpAny_call_entry slot_list_setitem hT entry_list_setitem ?_ (args_list_setitem _ _ _)))
  unfold Builtin.«list.__setitem__»
  refine wpAny_bind (wpAny_of_eq (a := (.ref a, [.int 0 t, v])) rfl ?_)
  refine wpAny_bind (wpAny_listSubscript_int (fitsIndex_of (by omega) (by decide)) ?_)
  show wpAny _ _ ((seqItemAt a 0 >>= fun r => pure (r.map (0, ·))) >>= _) _ _ _
  refine wpAny_bind (wpAny_bind (wpAny_seqItemAt ho rfl (wpAny_pure ?_)))
  show wpAny _ _ (setSeqItemAt a 0 v >>= _) _ _ _
  refine wpAny_bind (wpAny_setSeqItemAt ho rfl ?_)
  have ha : (h3.update a (Obj.mapSeq (·.setIfInBounds 0 v))).get? a = some (Obj.mapSeq (·.setIfInBounds 0 v) (lo (u :: vs) n)) := Heap.get?_update_self _ ho rfl
  have hgo : wpAny X.M X.A (execs rest X.env) Q E { s with heap := h3.update a (Obj.mapSeq (·.setIfInBounds 0 v)), toks := tk3 } :=
    kk v _ hv ⟨_, rfl, rfl, rfl, rfl⟩ _ _ _ (S3.turn (hch _) ha fun b ob hb e => (Heap.get?_update_other _ _ (Ne.symm hb)).trans e) q qe
  first
    | exact wpAny_bind (wpAny_pure (wpAny_pure ⟨.none, rfl, wpAny_pure hgo⟩))
    | exact wpAny_pure ⟨.none, rfl, wpAny_pure hgo⟩
end
end Mine
end

section
open PySem PySem.W PySem.Calls PyProof.Rows PySem.Spec PySem.SeqAt
set_option Elab.async false
set_option linter.unusedVariables false
set_option linter.unusedSimpArgs false
set_option linter.deprecated false
set_option maxRecDepth 100000
namespace Mine
def m5 (c : Nat) : Nat := if c ∈ [105, 110, 98, 111, 120] then c - 32 else c
def x5 : List (Str × Str) := [(sx [105], sx [73]), (sx [110], sx [78]), (sx [98], sx [66]), (sx [111], sx [79]), (sx [120], sx [88])]
theorem sx1 (a b : Nat) : (sx [a] == sx [b]) = decide (a = b) := by rw [sx_inj, decide_eq_decide]; simp
theorem x5_get (c : Nat) : (x5.lookup (sx [c])).getD (sx [c]) = sx [m5 c] := by
  unfold x5 m5
  simp only [List.lookup_cons, sx1, List.lookup_nil]
  by_cases h1 : c = 105
  · simp [h1]
  by_cases h2 : c = 110
  · simp [h2]
  by_cases h3 : c = 98
  · simp [h3]
  by_cases h4 : c = 111
  · simp [h4]
  by_cases h5 : c = 120
  · simp [h5]
  simp [h1, h2, h3, h4, h5]
theorem x5_mg : ∀ kvs, KV x5 kvs → merged [] kvs = kvs := by
  intro kvs h
  refine merged_nil_of_nodup _ ?_
  rw [h.keys]
  decide
def hd1 (l : List Nat) : List Nat := (spl 47 l).headD []
def lnm (l : List Nat) : List Nat := jn 47 (if (hd1 l).length = 5 ∧ (hd1 l).map m5 = inbox then inbox :: (spl 47 l).tail else spl 47 l)
theorem spl_hd (l : List Nat) : spl 47 l = hd1 l :: (spl 47 l).tail := by
  have := spl_ne 47 l
  unfold hd1
  cases h : spl 47 l with
  | nil => exact (this h).elim
  | cons a r => rfl
theorem jn_len (c : Nat) : ∀ ps : List (List Nat), ps ≠ [] → (jn c ps).length + 1 = (ps.map (·.length)).sum + ps.length
  | [], h => (h rfl).elim
  | [p], _ => by simp [jn]
  | p :: q :: r, _ => by
    have := jn_len c (q :: r) (by simp)
    simp [jn] at this ⊢
    omega
theorem spl_sum (l : List Nat) : ((spl 47 l).map (·.length)).sum + (spl 47 l).length = l.length + 1 := by
  rw [← jn_len 47 _ (spl_ne 47 l), jn_spl]
theorem hd1_len (l : List Nat) : (hd1 l).length ≤ l.length := by
  have h1 := spl_sum l
  rw [spl_hd l] at h1
  simp at h1
  omega
section
variable {prog : Program} {w : World} {mg mb : Str → Option Value} {c : Nat} {t u x : Tok} {l p q : List Nat} {lv : Nat}
set_option maxHeartbeats 1000000 in
theorem f_lnormal (hl : l.length ≤ 10000) : Fn prog w (Wd (KK w) mg mb) 1 236 [.str (sx l) t] (sT (sx (lnm l))) := by
  refine Fn.intro (K := KK w) rfl rfl rfl Wd.kn rfl rfl (by decide) (fun A h0 L hA hW => ?_)
  have hsum := spl_sum l
  have hhd := spl_hd l
  have hln := hd1_len l
  refine Go.assignN (P := fun o => ∃ vs n, o = lo vs n ∧ Lst fS (spl 47 l) vs) (Ev.split (Ev.nameS rfl) (Ev.lit (l := [47]) (by decide)) (by omega)) fun a o ⟨vs, n, ho, hvs⟩ => ?_
  subst ho
  have hvs' := hvs
  rw [hhd] at hvs'
  obtain ⟨v0, r, hvr, hv0, hr⟩ := hvs'.uncons
  subst hvr
  have first : ∀ {e : Expr} {pos : Pos} {k : Nat} {ip : Pos}, e = .Name "parts" pos → True := fun _ => trivial
  refine Go.ite (b := decide ((hd1 l).length = 5) && decide ((hd1 l).map m5 = inbox)) (Ts.mono (Ts.tb (Tb.and (b := decide ((hd1 l).length = 5)) (c := decide ((hd1 l).map m5 = inbox) && true)
    (Ts.mono (Ts.cmp (Ev.b1 (g_len hW) (Ev.lstI (P := Lst fS (spl 47 l)) (P' := pT (sx (hd1 l))) (i := 0) (Ev.lname upd_self (.head _) hvs) Ev.nat (fun vs h => ?_) (by omega)) (k_lenT (by omega))) Ev.int c_eq) (decide_eq_decide.mpr (by omega)))
    fun h5 => Tb.and (Ts.mono (Ts.cmp (Ev.join0 (ps := (hd1 l).map fun c => [m5 c]) (Ev.lit (by decide)) (Ev.asL ?_) ?_) (Ev.lit (l := inbox) (by decide)) c_eqT) ?_) fun _ => Tb.andN)) (by rw [Bool.and_true])) (fun e => ?_) (fun e => Go.nilSeq ?_)
  · rw [hhd] at h
    obtain ⟨v, r, rfl, hv, _⟩ := h.uncons
    exact ⟨v, rfl, hv⟩
  · refine Rn.mono (Ev.comp (n := (hd1 l).length) (P := fun i v => ∃ t c, (hd1 l)[i]? = some c ∧ v = .str (sx [c]) t) (F := fun v y => ∃ c t u, v = .str (sx [c]) t ∧ y = .str (sx [m5 c]) u) (G := fun i y => ∃ c u, (hd1 l)[i]? = some c ∧ y = .str (sx [m5 c]) u) []
      (Ev.lstI (P := Lst fS (spl 47 l)) (P' := pT (sx (hd1 l))) (i := 0) (Ev.lname upd_self (.head _) hvs) Ev.nat (fun vs h => ?_) (by omega))
      (fun h0 v h st hs _ hv => src_str hv hA.hd st) (fun C g hg hN i v m' ⟨t, c, hc, hv⟩ hm => ?_) ?_ (by omega) rfl (by decide) (by decide)) ?_
    · rw [hhd] at h
      obtain ⟨v, r, rfl, hv, _⟩ := h.uncons
      exact ⟨v, rfl, hv⟩
    · subst hv
      have hW' := hW.stay hg
      with_reducible refine Ev.wk (P := pT (sx [m5 c])) ?h0 ?h1
      rotate_left
      · exact fun y ⟨u, e⟩ => ⟨c, t, u, rfl, e⟩
      with_reducible refine Ev.t ?h2 (x5_get c)
      with_reducible refine Ev.dispGet (pl := ?pl) ?D ?k1 ?k12 ?k2 ?k3 ?k4 ?k5 x5_mg ?k6 ?k7 ?k8 (hp := ?k9) (he := ?k10)
      case k10 => rfl
      case k9 => rfl
      case k1 => exact (rfl : _ = twoOf [((_, _, _), (_, _, _)), ((_, _, _), (_, _, _)), ((_, _, _), (_, _, _)), ((_, _, _), (_, _, _)), ((_, _, _), (_, _, _))])
      case k12 => rfl
      case k2 => kernel_rfl
      case k3 => kernel_rfl
      case k4 => exact List.cons_ne_nil _ _
      case k5 => exact Nat.le_of_ble_eq_true rfl
      case k7 => exact Ev.nameS hm
      case k8 => exact Ev.nameS hm
      intro h hs
      have := Heap.lt_size (hs.base _ _ ((hW'.ki _ _ (show (KK w).lookup 236 = some _ from rfl))))
      refine beq_eq_false_iff_ne.mpr fun e => ?_
      rw [e] at this
      exact absurd this (by decide)
    · rintro i v y ⟨t, c, hc, rfl⟩ ⟨c', t', u, hv, rfl⟩
      have : c = c' := by cases hv; rfl
      subst this
      exact ⟨c, u, hc, rfl⟩
    · rintro h v h' hs st ⟨a, o, e1, e2, e3, vs, n, e4, he⟩
      refine ⟨a, o, e1, e2, e3, vs, n, e4, Lst.each he (by simp) fun i v hi ⟨c, u, hc, e⟩ => ⟨[m5 c], by simp [hc], u, e⟩⟩
  · simp only [List.map_map, Function.comp_def, List.length_singleton, sum_ones, List.length_map]; omega
  · rw [sx_inj]
    congr 2
    rw [← List.flatMap_def]
    induction hd1 l with
    | nil => rfl
    | cons a r ih => simp [ih]
  · have e := (Bool.and_eq_true _ _).mp e
    refine Go.setFirst (P := pT (sx inbox)) upd_self (.head _) (Ev.lit (by decide)) (fun o' => .head) (fun v o' hv ⟨n', h1, h2, h3, h4⟩ => Go.nilSeq (Go.retZ ?_))
    have ho : o' = lo (v :: r) n' := by
      cases o'
      simp only at h1 h2 h3 h4
      subst h1 h2 h3 h4
      rfl
    subst ho
    rw [lnm, if_pos ⟨of_decide_eq_true e.1, of_decide_eq_true e.2⟩]
    refine Ev.joinC (Ev.lit (by decide)) (Ev.lname upd_self (.head _) (Lst.cons hv hr)) ?_
    rw [hhd] at hsum
    simp [inbox] at hsum ⊢
    omega
  · refine Go.retZ ?_
    rw [lnm, if_neg (by simpa using e)]
    exact Ev.joinC (Ev.lit (by decide)) (Ev.lname upd_self (.head _) hvs) (by omega)
end
end Mine
end

section
open PySem PySem.W PySem.Calls PyProof.Rows PySem.Spec PySem.SeqAt
set_option Elab.async false
set_option linter.unusedVariables false
set_option linter.unusedSimpArgs false
set_option linter.deprecated false
set_option maxRecDepth 100000
namespace Mine
-- plain laws
theorem spl_app (c : Nat) (p r : List Nat) : spl c (p ++ c :: r) = spl c p ++ spl c r := by
  induction p with
  | nil => simp [spl]
  | cons a p ih =>
    by_cases h : a = c
    · simp [spl, h, ih]
    · rw [List.cons_append, spl, if_neg h, ih, spl, if_neg h]
      have := spl_ne c p
      cases hp : spl c p with
      | nil => exact (this hp).elim
      | cons x xs => rfl
theorem jn_app (c : Nat) : ∀ (ps qs : List (List Nat)), ps ≠ [] → qs ≠ [] → jn c (ps ++ qs) = jn c ps ++ c :: jn c qs
  | [], _, h, _ => (h rfl).elim
  | [p], qs, _, h => by
    cases qs with
    | nil => exact (h rfl).elim
    | cons q r => simp [jn]
  | p :: q :: r, qs, _, h => by
    have := jn_app c (q :: r) qs (by simp) h
    rw [show (p :: q :: r) ++ qs = p :: q :: (r ++ qs) from rfl, jn, jn, show q :: (r ++ qs) = (q :: r) ++ qs from rfl, this]
    simp
def lren (l p q : List Nat) : List Nat := if (spl 47 l).take (spl 47 p).length = spl 47 p then jn 47 (spl 47 q ++ (spl 47 l).drop (spl 47 p).length) else l
theorem ren_lren (l p q : List Nat) : ren l p q = lren l p q := by
  unfold ren lren
  by_cases h1 : l = p
  · subst h1
    rw [if_pos rfl, if_pos (List.take_length), List.drop_length, List.append_nil, jn_spl]
  rw [if_neg h1]
  by_cases h2 : p ++ [47] <+: l
  · obtain ⟨r, hr⟩ := h2
    have e : l = p ++ 47 :: r := by rw [← hr]; simp
    have hs : spl 47 l = spl 47 p ++ spl 47 r := by rw [e, spl_app]
    rw [if_pos ⟨r, hr⟩, hs, List.take_left, if_pos rfl, List.drop_left, jn_app _ _ _ (spl_ne _ _) (spl_ne _ _), jn_spl, jn_spl, e, List.drop_left]
  · rw [if_neg h2, if_neg]
    intro h3
    have h4 : spl 47 l = spl 47 p ++ (spl 47 l).drop (spl 47 p).length := by
      conv => lhs; rw [← List.take_append_drop (spl 47 p).length (spl 47 l), h3]
    have h5 := jn_spl 47 l
    cases h6 : (spl 47 l).drop (spl 47 p).length with
    | nil =>
      rw [h6, List.append_nil] at h4
      rw [h4, jn_spl] at h5
      exact h1 h5.symm
    | cons a r =>
      rw [h4, h6, jn_app _ _ _ (spl_ne _ _) (by simp), jn_spl] at h5
      exact h2 ⟨jn 47 (a :: r), by rw [← h5]; simp⟩
-- the normal form
theorem up_m5 (c k : Nat) (hk : k ∈ inbox) : up c = k ↔ m5 c = k := by
  have hk : k = 73 ∨ k = 78 ∨ k = 66 ∨ k = 79 ∨ k = 88 := by simpa [inbox] using hk
  unfold up m5
  by_cases h : c ∈ [105, 110, 98, 111, 120]
  · have h2 : 97 ≤ c ∧ c ≤ 122 := (show ∀ c ∈ [105, 110, 98, 111, 120], 97 ≤ c ∧ c ≤ 122 by decide) c h
    rw [if_pos h, if_pos h2]
  · rw [if_neg h]
    by_cases h2 : 97 ≤ c ∧ c ≤ 122
    · rw [if_pos h2]
      have h3 : k < 97 := by omega
      refine ⟨fun e => absurd ?_ h, fun e => absurd h2.1 (by omega)⟩
      rw [show c = k + 32 by omega]
      rcases hk with rfl | rfl | rfl | rfl | rfl <;> decide
    · rw [if_neg h2]
theorem map_up_m5 : ∀ (l ks : List Nat), (∀ k ∈ ks, k ∈ inbox) → (l.map up = ks ↔ l.map m5 = ks)
  | [], ks, _ => by simp
  | a :: l, [], _ => by simp
  | a :: l, k :: ks, h => by
    rw [List.map_cons, List.map_cons, List.cons.injEq, List.cons.injEq, up_m5 a k (h k (by simp)), map_up_m5 l ks fun x hx => h x (by simp [hx])]
theorem fnd_split (l : List Nat) : (fnd 47 l < 0 ∧ spl 47 l = [l]) ∨ ∃ a r, fnd 47 l = (a.length : Int) ∧ l = a ++ 47 :: r ∧ spl 47 l = a :: spl 47 r := by
  induction l with
  | nil => exact .inl ⟨by decide, rfl⟩
  | cons x l ih =>
    by_cases hx : x = 47
    · subst hx
      exact .inr ⟨[], l, by simp [fnd], rfl, by simp [spl]⟩
    rcases ih with ⟨h1, h2⟩ | ⟨a, r, h1, h2, h3⟩
    · exact .inl ⟨by simp [fnd, hx, h1], by rw [spl, if_neg hx, h2]⟩
    · refine .inr ⟨x :: a, r, ?_, by rw [h2]; rfl, by rw [spl, if_neg hx, h3]⟩
      rw [fnd, if_neg hx, h1, if_neg (by omega)]
      simp
theorem nrm_lnm (l : List Nat) : nrm l = lnm l := by
  unfold nrm lnm fpH fpR hd1
  have key : ∀ a : List Nat, (a.map up = inbox) ↔ (a.length = 5 ∧ a.map m5 = inbox) := fun a => by
    rw [map_up_m5 a inbox fun k h => h]
    constructor
    · intro h
      exact ⟨by have := congrArg List.length h; simpa [inbox] using this, h⟩
    · exact fun h => h.2
  rcases fnd_split l with ⟨h1, h2⟩ | ⟨a, r, h1, h2, h3⟩
  · simp only [if_pos h1, h2, List.headD_cons, List.tail_cons, List.append_nil, key]
    split <;> simp [jn]
  · have hn : ¬ fnd 47 l < 0 := by omega
    have ht : (fnd 47 l).toNat = a.length := by omega
    simp only [if_neg hn, ht, h3, List.headD_cons, List.tail_cons, key]
    have e1 : l.take a.length = a := by rw [h2, List.take_left]
    have e2 : l.drop a.length = 47 :: r := by rw [h2, List.drop_left]
    rw [e1, e2]
    split
    · rw [show inbox :: spl 47 r = [inbox] ++ spl 47 r from rfl, jn_app _ _ _ (by simp) (spl_ne _ _), jn_spl]
      rfl
    · rw [show a :: spl 47 r = [a] ++ spl 47 r from rfl, jn_app _ _ _ (by simp) (spl_ne _ _), jn_spl]
      exact h2
end Mine
end

section
open PySem PySem.W PySem.Calls PyProof.Rows PySem.Spec PySem.SeqAt
set_option Elab.async false
set_option linter.unusedVariables false
set_option linter.unusedSimpArgs false
set_option linter.deprecated false
set_option maxRecDepth 100000
namespace Mine
theorem Lst.cutN {α : Type} {F : α → Value → Prop} {xs : List α} {vs : List Value} (h : Lst F xs vs) (n : Nat) : Lst F (xs.take n) (cutO vs none (some n)) := by
  have := h.cut none (some n)
  rwa [cutO_to (l := xs)] at this
theorem Lst.cutF {α : Type} {F : α → Value → Prop} {xs : List α} {vs : List Value} (h : Lst F xs vs) (n : Nat) : Lst F (xs.drop n) (cutO vs (some n) none) := by
  have := h.cut (some n) none
  rwa [cutO_from (l := xs)] at this
theorem sum_drop (n : Nat) : ∀ (l : List (List Nat)), ((l.drop n).map (·.length)).sum ≤ (l.map (·.length)).sum := by
  induction n with
  | zero => intro l; simp
  | succ n ih =>
    intro l
    cases l with
    | nil => simp
    | cons a r =>
      have := ih r
      simp at this ⊢
      omega
section
variable {prog : Program} {w : World} {mg mb : Str → Option Value} {c : Nat} {t u x : Tok} {l p q : List Nat} {lv : Nat}
theorem f_lrenamed (hl : l.length ≤ 10000) (hp : p.length ≤ 10000) (hq : q.length ≤ 10000) : Fn prog w (Wd (KK w) mg mb) 1 250 [.str (sx l) t, .str (sx p) u, .str (sx q) x] (sT (sx (lren l p q))) := by
  refine Fn.intro (K := KK w) rfl rfl rfl Wd.kn rfl rfl (by decide) (fun A h0 L hA hW => ?_)
  have s1 := spl_sum l
  have s2 := spl_sum p
  have s3 := spl_sum q
  refine Go.swap2 (P1 := fun o => ∃ vs n, o = lo vs n ∧ Lst fS (spl 47 l) vs) (P2 := fun o => ∃ vs n, o = lo vs n ∧ Lst fS (spl 47 p) vs) hA.hd (Ev.split (Ev.nameS rfl) (Ev.lit (l := [47]) (by decide)) (by omega)) (Ev.split (Ev.nameS rfl) (Ev.lit (l := [47]) (by decide)) (by omega)) fun a b oa ob ⟨vs, n, hoa, hvs⟩ ⟨ws, n2, hob, hws⟩ => ?_
  subst hoa hob
  have hu := hA.un
  refine Go.ite (b := !decide ((spl 47 l).take (spl 47 p).length = spl 47 p)) (Ts.cmpS (sp1 := sL (Lst fS ((spl 47 l).take (spl 47 p).length))) (sp2 := sL (Lst fS (spl 47 p))) (Ev.asL (Ev.lstS (a := none) (b := some (spl 47 p).length) (P := Lst fS (spl 47 l)) (Ev.lname (upd_self) (.tail _ (.head _)) hvs) trivial (Ev.b1 (g_len hW) (Ev.lname (P := Lst fS (spl 47 p)) (upd_ne upd_self) (.head _) hws) (k_lenL (n := (spl 47 p).length) (fun vs h => h.1) (by omega))) (fun vs h => by rw [h.1]; omega) fun vs h => h.cutN _))
    (Ev.lname (upd_ne upd_self) (.head _) hws) (c_neL (by show A.units < _; omega))) (fun e => ?_) (fun e => Go.nilSeq ?_)
  · refine Go.ret (sp := sT (sx l)) (Ev.nameS (upd_ne (upd_ne rfl))) fun h v h' hs st hv => ?_
    rw [lren, if_neg (by simpa using e)]
    exact hv
  · refine Go.retZ ?_
    rw [lren, if_pos (by simpa using e)]
    have s4 := sum_drop (spl 47 p).length (spl 47 l)
    refine Ev.joinC (Ev.lit (by decide)) (Ev.asL (Ev.addL (P1 := Lst fS (spl 47 q)) (P2 := Lst fS ((spl 47 l).drop (spl 47 p).length)) (Ev.asL (Ev.split (Ev.nameS (upd_ne (upd_ne rfl))) (Ev.lit (l := [47]) (by decide)) (by omega))) (Ev.asL (Ev.lstS (a := some (spl 47 p).length) (b := none) (P := Lst fS (spl 47 l)) (Ev.lname (upd_self) (.tail _ (.head _)) hvs) (Ev.b1 (g_len hW) (Ev.lname (P := Lst fS (spl 47 p)) (upd_ne upd_self) (.head _) hws) (k_lenL (n := (spl 47 p).length) (fun vs h => h.1) (by omega))) trivial (fun vs h => by rw [h.1]; omega) fun vs h => h.cutF _)) fun vs ws h1 h2 => ⟨h1.app h2, ?_⟩)) ?_
    · rw [h1.1, h2.1, List.length_drop]; omega
    · simp only [List.map_append, List.sum_append, List.length_append, List.length_drop]; omega
end
end Mine
end

section
open PySem PySem.W PySem.Calls PyProof.Rows PySem.Spec PySem.SeqAt
set_option Elab.async false
set_option linter.unusedVariables false
set_option linter.unusedSimpArgs false
set_option linter.deprecated false
set_option maxRecDepth 100000
namespace Mine
section
variable {prog : Program} {w : World} {A : Around} {R : Result → Shared → Prop} {s : Shared}
theorem codeC_call_cells {a : Addr} {o : Obj} {fd : FuncData} {body : List Stmt} {vals : List Value} {binds : List (Str × Value)}
    (hroom : A.depth < recursionLimit) (ho : s.heap.get? a = some o) (hdata : o.data = .func fd) (hlim : s.heap.NoLimit) (hcd : s.heap.CodeRec fd.code fd.qualname)
    (hbody : fd.body = .stmts body) (hbind : bindArgs fd ⟨vals, []⟩ = pure binds) (hclo : fd.closure = [])
    (hkind : ∀ x ∈ binds, fd.scope.names.lookup x.1 = some .local ∨ (fd.scope.names.lookup x.1 = some .cell ∧ ((cellsFrom (s.heap.objs.size + 1) fd.scope.names []).lookup x.1).isSome = true))
    (h : ∀ s₁, InCallC s (callEnvC fd s.heap.objs.size a).locals (bindL (callEnvC fd s.heap.objs.size a).kindOf binds fun _ => none) (callEnvC fd s.heap.objs.size a).cells
        (bindC (callEnvC fd s.heap.objs.size a).kindOf binds fun _ => none) s₁ →
      wpC (model prog w) (A.deeper (callEnvC fd s.heap.objs.size a)) (execs body (callEnvC fd s.heap.objs.size a)) (fun f s' => R (.ok (.ret (match f with | .ret v => v | _ => .none))) s')
        (fun e s' => wpAny (model prog w) (A.deeper (callEnvC fd s.heap.objs.size a)) (leaving (callEnvC fd s.heap.objs.size a) e) (fun _ s'' => R (.error e) s'') (fun e' s'' => R (.error e') s'') s') s₁)
    (hco : fd.scope.isCoroutine = false := by rfl) (hgen : fd.scope.isGenerator = false := by rfl) (hk : fd.scope.kind = .function := by rfl) :
    codeC (model prog w) A (.call (.ref a) ⟨vals, []⟩) R s := by
  refine codeC_call_function hroom ho hdata hco hgen hbody hcd ?_
  rw [hbind, hclo]
  refine wpAny_pure (wpAny_newFunctionEnv_cells hk hkind fun env he s' x => ?_)
  subst he
  exact ⟨hlim.keeps x.toInCall.keep, codeC_func (h s' x)⟩
end
section
variable {X : Fx} {m : Str → Option Value} {N : List (Addr × Obj)} {Z : Zt} {rest : List Stmt} {K : Frag} {mg mb : Str → Option Value}
/-- an expression that answers True, with objects of ours changed -/
def EvT (X : Fx) (m : Str → Option Value) (N : List (Addr × Obj)) (e : Expr) (G : List (Addr × Obj) → Prop) : Prop :=
  ∀ (Q : Value → Shared → Prop) (E : Value → Shared → Prop) (s : Shared), St X m N s.heap → (∀ N' h' tk, St X m N' h' → G N' → Q (.bool true) { s with heap := h', toks := tk }) → wpC X.M X.A (eval e X.env) Q E s
theorem GoC.ifNot {call : Expr} {body : List Stmt} {np pos : Pos} {G : List (Addr × Obj) → Prop} (h : EvT X m N call G) (k : ∀ N', G N' → GoC X m N' rest Z)
    (he : isTrue call X.env (eval call X.env) = (do let v ← eval call X.env; standAt call.pos; holding [v] (truthy v)) := by rfl) : GoC X m N (.If (.UnaryOp .Not call np) body [] pos :: rest) Z := by
  intro Q E s hs q qe
  refine wpC_execs_cons (wpC_If ?_)
  show wpC X.M X.A (do return !(← isTrue call X.env (eval call X.env))) _ E s
  rw [he]
  refine wpC_bind (wpC_bind (h _ _ s hs fun N' h' tk S hG => ?_))
  refine wpC_bind (wpC_standAt (wpC_holding (wpC_of (wpAny_truthy_bool (wpC_pure ?_)))))
  show wpC X.M X.A (execs [] X.env) _ E _
  refine wpC_of (wpAny_execs_nil ?_)
  exact k N' hG _ _ _ S q qe
theorem St.rel {l : List Env} {h h' : Heap} (S : St X m N h) (hl : frs l = [X.env.locals]) (r : Rel h l h') : St X m N h' := by
  have hL : ∀ b o, X.h0.get? b = some o → b ≠ X.env.locals := fun b o z y => absurd (Nat.lt_of_lt_of_le (Heap.lt_size z) S.fr.above) (by rw [y]; exact Nat.lt_irrefl _)
  have k : ∀ b o, b ≠ X.env.locals → h.get? b = some o → h'.get? b = some o := fun b o n e => r.1 b o e (by rw [hl]; simpa using n)
  exact ⟨⟨r.2.ns S.fr.ns, fun b o e => k b o (hL b o e) (S.fr.keep b o e), S.fr.above⟩, fun p hp => ⟨k _ _ (S.nw p hp).2.1 (S.nw p hp).1, (S.nw p hp).2⟩, S.nd⟩
theorem St.perm {N' : List (Addr × Obj)} {h : Heap} (S : St X m N h) (p : N.Perm N') : St X m N' h :=
  ⟨S.fr, fun q hq => S.nw q (p.symm.subset hq), (p.map _).nodup_iff.mp S.nd⟩
theorem GoC.perm {ss : List Stmt} {N' : List (Addr × Obj)} (p : N.Perm N') (h : GoC X m N' ss Z) : GoC X m N ss Z :=
  fun Q E s hs q qe => h Q E s (hs.perm p) q qe
theorem Go.perm {ss : List Stmt} {N' : List (Addr × Obj)} (p : N.Perm N') (h : Go X m N' ss Z) : Go X m N ss Z :=
  fun Q E s hs q qe => h Q E s (hs.perm p) q qe
/-- what making a function needs of the top -/
structure Mk (mg : Str → Option Value) (c P : Addr) (h : Heap) : Prop where
  g : h.Ns mainGlobals mg
  hd : CodeHd h c P
  gP : mainGlobals ≠ P
  b : h.BuiltinsAt mg P
theorem Mk.stay {c P : Addr} {h h' : Heap} (x : Mk mg c P h) (k : h.StaysIn h') : Mk mg c P h' := by
  obtain ⟨bm, ob, b1, b2, b3, b4, b5, b6⟩ := x.b
  exact ⟨x.g.keeps k, x.hd.keeps k, x.gP, bm, ob, b1, b2, b3, b4, k _ _ b5, b6⟩
theorem lam_made {params : Arguments} {body : Expr} {scope : Scope} {pos : Pos} {clos : List (Str × Addr)} {c P : Addr} {ps : Array Value} {f : Obj → List (Addr × Obj)}
    (hdef : defaultsOf params X.env = ([], [])) (hcl : closureFor scope X.env = pure clos) (hge : X.env.globals = mainGlobals) (hcode : X.env.code = .ref c) (hM : Mk mg c P X.h0)
    (hch : ∀ o', Ch P (tabObj ps) o' N (f o')) (ht : TriplesOk ps.toList) (hnf : codeAmong pos ps.toList = none)
    {Q : Value → Shared → Prop} {E : Value → Shared → Prop} {s : Shared} (hs : St X m N s.heap)
    (q : ∀ a c' h' tk ps', ps' = ps ++ #[rawInt pos.line, rawInt pos.col, .ref c'] → St X m (f (tabObj ps')) h' → Lam a c' (X.env.qual ++ "<lambda>") params body scope clos h' → Q (.ref a) { s with heap := h', toks := tk }) :
    wpAny X.M X.A (eval (.Lambda params body scope pos) X.env) Q E s := by
  have hM' := hM.stay hs.base
  have hP : s.heap.get? P = some (tabObj ps) := hs.get (hch (tabObj ps)).mem
  refine kla_eval hdef (kla_makeFunction (mg := mg) hcl hge hM'.g hcode hM'.hd hP ht hnf hM'.gP hM'.b fun c' ctv h' tk hx hge' hlt hrec htb => ?_)
  have S1 : St X m (f (tabObj (ps ++ #[rawInt pos.line, rawInt pos.col, .ref c']))) h' := hs.turn (hch _) htb fun b ob hb e => hx b ob hb e
  refine q _ c' _ tk _ rfl (S1.stay fun b o e => Heap.get?_push_of_some _ e) ⟨⟨_, _, _, Heap.get?_push_size _ rfl⟩, ?_⟩
  obtain ⟨c₂, oc, vs, t, e2, hoc, hd, hv⟩ := hrec
  exact ⟨c₂, oc, vs, t, e2, Heap.get?_push_of_some _ hoc, hd, hv⟩
theorem Lam.stay {f c' : Addr} {qual : Str} {params : Arguments} {body : Expr} {scope : Scope} {cl : List (Str × Addr)} {h h' : Heap} (L : Lam f c' qual params body scope cl h) (k : h.StaysIn h') : Lam f c' qual params body scope cl h' := by
  obtain ⟨⟨n, pm, ctv, e⟩, c₂, oc, vs, t, e2, hoc, hd, hv⟩ := L
  exact ⟨⟨n, pm, ctv, k _ _ e⟩, c₂, oc, vs, t, e2, k _ _ hoc, hd, hv⟩
theorem Lam.keeper {f c' : Addr} {qual : Str} {params : Arguments} {body : Expr} {scope : Scope} {cl : List (Str × Addr)} {h : Heap} {M : Model} (L : Lam f c' qual params body scope cl h) : ∃ k, (k = Keeper.frame ∨ k = Keeper.machine) ∧ Looks M h (keeperOf (.ref f)) k := by
  obtain ⟨⟨n, pm, ctv, e⟩, _⟩ := L
  exact ⟨.frame, .inl rfl, (Looks.ld (part := none) e).andThen .now⟩
end
end Mine
end

section
open PySem PySem.W PySem.Calls PyProof.Rows PySem.Spec PySem.SeqAt
set_option Elab.async false
set_option linter.unusedVariables false
set_option linter.unusedSimpArgs false
set_option linter.deprecated false
set_option maxRecDepth 100000
namespace Mine
section
variable {X : Fx} {m : Str → Option Value} {N : List (Addr × Obj)} {Z : Zt} {rest : List Stmt} {D : Addr → Prop}
theorem src_tup {vs : List Value} {a : Addr} {st h : Heap} (hl : h.IsTuple a vs.toArray) (hA : X.A.handled = none) (k : st.StaysIn h) (hD : D a ∨ st.get? a = none) : Src X D st (.ref a) h vs.length (fun i v => vs[i]? = some v) := by
  intro Q E s e q
  subst e
  obtain ⟨oa, hoa, hca, hda⟩ := id hl
  have hne : a ≠ s.heap.objs.size := Nat.ne_of_lt (Heap.lt_size hoa)
  refine wpAny_pyIter_tuple hl ?_
  have W := Walks.tuple (prog := X.prog) (w := X.w) hA s.heap.objs.size a hne vs.toArray
  have e1 : (fun (i : Nat) (v : Value) => vs.toArray[i]? = some v) = fun i v => vs[i]? = some v := by funext i v; simp
  rw [List.size_toArray, e1] at W
  have l0 : (s.heap.push { cls := .type "tuple_iterator", data := .fields #[.ref a, .int 0 0] }).IsTupleIter s.heap.objs.size a 0 ∧ (s.heap.push { cls := .type "tuple_iterator", data := .fields #[.ref a, .int 0 0] }).IsTuple a vs.toArray :=
    ⟨⟨_, Heap.get?_push_size _ rfl, rfl, rfl⟩, ⟨oa, Heap.get?_push_of_some _ hoa, hca, hda⟩⟩
  have live : ∀ (i : Nat) (h : Heap), (h.IsTupleIter s.heap.objs.size a i ∧ h.IsTuple a vs.toArray) → ∀ b ∈ [s.heap.objs.size, a], ∃ o, h.get? b = some o := by
    rintro i h ⟨⟨o, ho, _⟩, ⟨o2, ho2, _⟩⟩ b hb
    rcases List.mem_cons.mp hb with rfl | hb
    · exact ⟨o, ho⟩
    · rw [List.mem_singleton.mp hb]; exact ⟨o2, ho2⟩
  rcases hD with hD | hD
  · refine q _ _ [s.heap.objs.size] _ _ _ s.toks (fun b o e => Heap.get?_push_of_some _ e) W l0 (by simp) ?_ ?_ (fun b hb => by rw [List.mem_singleton.mp hb]; exact .head _) (fun b hb => hb) live
    · intro b hb; rw [List.mem_singleton.mp hb]; exact none_of_stays k (get_size _)
    · intro b hb
      rcases List.mem_cons.mp hb with rfl | hb
      · exact .inl (.head _)
      · rw [List.mem_singleton.mp hb]; exact .inr hD
  · refine q _ _ [s.heap.objs.size, a] _ _ _ s.toks (fun b o e => Heap.get?_push_of_some _ e) W l0 (by simp [Ne.symm hne]) ?_ (fun b hb => .inl hb) (fun b hb => hb) (fun b hb => by rw [List.mem_singleton.mp hb]; exact .head _) live
    intro b hb
    rcases List.mem_cons.mp hb with rfl | hb
    · exact none_of_stays k (get_size _)
    · rw [List.mem_singleton.mp hb]; exact hD
/-- for, with a target that is a cell -/
theorem Go.loopC {x : Str} {px pos : Pos} {iter : Expr} {body : List Stmt} {spIt : Sp} {n : Nat} {P : Nat → Value → Prop} (J : Nat → (Str → Option Value) → List (Addr × Obj) → Prop) (hit : Ev X m N iter spIt) {c : Addr} {o0 : Obj} {N0 : List (Addr × Obj)} (hN : N = (c, o0) :: N0) (hc : X.env.cells.lookup x = some c) (ho0 : ∃ v, o0.data = .cell v)
    (hsrc : ∀ h0 v h, h0.StaysIn h → St X m N h0 → spIt.Is h0 v h → Src X (fun b => ∃ o, X.h0.get? b = some o) h0 v h n P) (h0 : J 0 m N0)
    (turn : ∀ i v m1 N1 own o', i < n → P i v → J i m1 N1 → N1.map (·.1) = N0.map (·.1) → o'.data = .cell (some v) → Go X m1 ((c, o') :: (N1 ++ own)) body (fun fl m2 N2 h => match fl with
      | .next => ∃ N3, N2 = (c, o') :: (N3 ++ own) ∧ N3.map (·.1) = N0.map (·.1) ∧ J (i + 1) m2 N3
      | .cont => ∃ N3, N2 = (c, o') :: (N3 ++ own) ∧ N3.map (·.1) = N0.map (·.1) ∧ J (i + 1) m2 N3
      | .brk => False
      | .ret v => Z (.ret v) m2 N2 h))
    (done : ∀ m1 N1 o1, J n m1 N1 → N1.map (·.1) = N0.map (·.1) → (∃ v, o1.data = .cell v) → Go X m1 ((c, o1) :: N1) rest Z)
    (hs : ∀ x, foldedSetIterable iter X.env x = pure x := by intro _; rfl) (hk : X.env.scope.kind = .function := by rfl) (hx : X.env.kindOf x = some .cell := by rfl) : Go X m N (.For (.Name x px) iter body [] pos :: rest) Z := by
  intro Q E s hs' q qe
  refine wpAny_execs_cons (wpAny_For (hit _ _ s hs' fun v h1 tk1 st1 hv => hsrc s.heap v h1 st1 hs' hv _ _ _ rfl fun I fp fq wr S h2 tk2 st2 W hS0 hnd hfr hfp hfq hwr hlive => ?_) hs)
  have S2 := (hs'.stay st1).stay st2
  obtain ⟨oL, _, _, hL, _⟩ := hs'.fr.ns
  have hLq : X.env.locals ∉ fq := fun hm => by rw [hfr _ hm] at hL; cases hL
  have hLf : X.env.locals ∉ fp := fun hm => by
    rcases hfp _ hm with hq | ⟨o, ho⟩
    · exact hLq hq
    · exact absurd (Nat.lt_of_lt_of_le (Heap.lt_size ho) hs'.fr.above) (Nat.lt_irrefl _)
  have hbq : ∀ b ∈ fq, X.h0.get? b = none := fun b hb => none_of_stays hs'.base (hfr b hb)
  subst hN
  have hNq : ∀ N1 : List (Addr × Obj), N1.map (·.1) = ((c, o0) :: N0).map (·.1) → ∀ p ∈ N1, p.1 ∉ fq := fun N1 e p hp hm => by
    have h1 : p.1 ∈ ((c, o0) :: N0).map (·.1) := e ▸ List.mem_map_of_mem hp
    obtain ⟨p', hp', e'⟩ := List.mem_map.mp h1
    have := hs'.get (a := p'.1) (o := p'.2) hp'
    rw [e', hfr _ hm] at this; cases this
  refine codeAny_forLoop (fun k s' => ∃ i m1 N1 o1 h' tk, s' = { s with heap := h', toks := tk } ∧ S i h' ∧ St X m1 ((c, o1) :: N1) h' ∧ N1.map (·.1) = N0.map (·.1) ∧ J i m1 N1 ∧ (∃ v, o1.data = .cell v) ∧ i ≤ n ∧ k = n + 1 - i) ?_ (n + 1) ⟨0, m, N0, o0, h2, tk2, rfl, hS0, S2, rfl, h0, ho0, Nat.zero_le _, rfl⟩
  rintro k s' ⟨i, m1, N1, o1, h', tk, rfl, hSi, St1, hN1, hJ, ⟨v1, ho1⟩, hi, rfl⟩
  have hN1' : ((c, o1) :: N1).map (·.1) = ((c, o0) :: N0).map (·.1) := by rw [List.map_cons, List.map_cons, hN1]
  have next : ∀ h3 : Heap, (∀ b o, b ∉ wr → h'.get? b = some o → h3.get? b = some o) → St X m1 ((c, o1) :: N1) h3 := fun h3 hk =>
    ⟨⟨St1.fr.ns.at' fun o e => hk _ o (fun h => hLq (hwr _ h)) e, fun b o e => hk b o (fun h => by rw [hbq b (hwr _ h)] at e; cases e) (St1.fr.keep b o e), St1.fr.above⟩,
      fun p hp => ⟨hk _ _ (fun h => hNq _ hN1' p hp (hwr _ h)) (St1.nw p hp).1, (St1.nw p hp).2⟩, St1.nd⟩
  have hcq : c ∉ fq := hNq _ hN1' (c, o1) (.head _)
  have hcf : c ∉ fp := fun hm => by
    rcases hfp _ hm with hq | ⟨o, ho⟩
    · exact hcq hq
    · rw [(St1.nw (c, o1) (.head _)).2.2] at ho; cases ho
  by_cases hlt : i < n
  · refine W.item i _ _ _ hlt hSi fun u h3 tk3 hP hS3 hk3 => ?_
    have St3 := next h3 hk3
    refine wpAny_assign_Name (wpAny_storeName_cell hk hx hc (isCell_of St3 (.head _) ho1) fun h4 hc2 hsb => ?_)
    obtain ⟨o', ho', hd'⟩ := hc2
    have St4 : St X m1 ((c, o') :: N1) h4 := St3.turn .head ho' fun b ob hb e => (hsb.2 b hb).trans e
    have hS4 : S (i + 1) h4 := W.frame _ _ _ hS3 fun b hb o e => (hsb.2 b fun q => hcf (q ▸ hb)).trans e
    have hN4 : ((c, o') :: N1).map (·.1) = ((c, o0) :: N0).map (·.1) := by rw [List.map_cons, List.map_cons, hN1]
    have St5 : St X m1 ((c, o') :: (N1 ++ ownAt h4 fq)) h4 := by
      refine ⟨St4.fr, fun p hp => ?_, ?_⟩
      · rw [← List.cons_append] at hp
        rcases List.mem_append.mp hp with hp | hp
        · exact St4.nw p hp
        · obtain ⟨b, hb, rfl⟩ := List.mem_map.mp hp
          obtain ⟨o, ho⟩ := hlive _ _ hS4 b (hfq b hb)
          exact ⟨by rw [ho]; rfl, fun e => hLq (e ▸ hb), hbq b hb⟩
      · rw [← List.cons_append]
        refine nodup_append_of St4.nd (by rw [ownAt_map]; exact hnd) ?_
        intro p hp r hr e
        obtain ⟨b, hb, rfl⟩ := List.mem_map.mp hr
        exact hNq _ hN4 p hp (e ▸ hb)
    refine turn i u m1 N1 (ownAt h4 fq) o' hlt hP hJ hN1 hd' _ _ _ St5 (fun fl m2 N2 h5 tk5 St6 hZ => ?_) fun e h6 tk6 x => X.pas _ { s with heap := h6, toks := tk6 } e x fun e' h7 tk7 x' => qe e' h7 tk7 x'
    have fin : (∃ N3, N2 = (c, o') :: (N3 ++ ownAt h4 fq) ∧ N3.map (·.1) = N0.map (·.1) ∧ J (i + 1) m2 N3) → ∃ k', k' < n + 1 - i ∧ ∃ i m1 N1 o1 h' tk, ({ s with heap := h5, toks := tk5 } : Shared) = { s with heap := h', toks := tk } ∧ S i h' ∧ St X m1 ((c, o1) :: N1) h' ∧ N1.map (·.1) = N0.map (·.1) ∧ J i m1 N1 ∧ (∃ v, o1.data = .cell v) ∧ i ≤ n ∧ k' = n + 1 - i := by
      rintro ⟨N3, rfl, hN3, hJ3⟩
      refine ⟨n + 1 - (i + 1), by omega, i + 1, m2, N3, o', h5, tk5, rfl, ?_, ⟨St6.fr, fun p hp => St6.nw p ?_, ?_⟩, hN3, hJ3, ⟨_, hd'⟩, hlt, rfl⟩
      · refine W.frame _ _ _ hS4 fun b hb o e => ?_
        rcases hfp b hb with hq | ⟨o', ho'⟩
        · exact St6.get (List.mem_cons_of_mem _ (List.mem_append_right _ (mem_ownAt hq e)))
        · have h6 := St4.base b o' ho'
          rw [e] at h6
          cases h6
          exact St6.base b o ho'
      · rcases List.mem_cons.mp hp with rfl | hp
        · exact .head _
        · exact List.mem_cons_of_mem _ (List.mem_append_left _ hp)
      · have h7 := St6.nd
        rw [← List.cons_append, List.map_append, List.nodup_append] at h7
        exact h7.1
    cases fl with
    | next => exact fin hZ
    | cont => exact fin hZ
    | brk => exact hZ.elim
    | ret v => exact q _ _ _ _ _ St6 hZ
  · have hin : i = n := by omega
    subst hin
    refine W.done _ _ _ hSi fun h3 tk3 hk3 => wpAny_execs_nil ?_
    exact done m1 N1 o1 hJ hN1 ⟨v1, ho1⟩ _ _ _ (next h3 hk3) q qe
end
end Mine
end

section
open PySem PySem.W PySem.Calls PyProof.Rows PySem.Spec PySem.SeqAt
set_option Elab.async false
set_option linter.unusedVariables false
set_option linter.unusedSimpArgs false
set_option linter.deprecated false
set_option maxRecDepth 100000
namespace Mine
section
variable {X : Fx} {m : Str → Option Value} {N : List (Addr × Obj)} {Z : Zt} {rest : List Stmt} {mg mb : Str → Option Value}
theorem EvT.held {fe e2 : Expr} {cp lpos : Pos} {params : Arguments} {lbody : Expr} {lscope : Scope} {clos : List (Str × Addr)} {c P : Addr} {ps : Array Value} {f : Obj → List (Addr × Obj)} {U : Heap → Prop} {lv : Nat} {txt res : List Nat} {place : Int} {ok : Prop} {bad : Int → Prop}
    (hW : Wd (KK X.w) mg mb X.h0) (hfr : X.A.frames = some [X.env]) (hf : X.env.frame = some X.env.locals) (hkd : X.env.scope.kind = .function) (hg : X.A.guards = some []) (hA : Lv X.A (lv + 1)) (hfe : Ev X m N fe (sV (.ref 243)))
    (hdef : defaultsOf params X.env = ([], [])) (hcl : closureFor lscope X.env = pure clos) (hge : X.env.globals = mainGlobals) (hcode : X.env.code = .ref c) (hM : Mk mg c P X.h0)
    (hch : ∀ o', Ch P (tabObj ps) o' N (f o')) (ht : TriplesOk ps.toList) (hnf : codeAmong lpos ps.toList = none)
    (he2 : ∀ o', Ev X m (f o') e2 (sT (sx txt))) (hU : ∀ h h', h.StaysIn h' → U h → U h') (hU0 : ∀ o' h, St X m (f o') h → U h)
    (hplace : ∀ t, Fn X.prog X.w (Wd (KK X.w) mg mb) lv 231 [.str (sx txt) t] (sI place))
    (hcall : ∀ a c', FnEC X.prog X.w (fun h => Wd (KK X.w) mg mb h ∧ Lam a c' (X.env.qual ++ "<lambda>") params lbody lscope clos h ∧ U h) lv a [] (sT (sx res)) ok bad)
    (hgood : ok → res = txt ∧ place < 0) (hbad : ∀ k, bad k → k = place ∧ 0 ≤ place) (hp : plainE e2 = true)
    (he : eval (.Call fe [.Lambda params lbody lscope lpos, e2] [] cp) X.env = (do callWith cp (← eval fe X.env) [] (backTo cp (starEach [.Lambda params lbody lscope lpos, e2] X.env)) (backToKw cp (keywordEach [] X.env)))) :
    EvT X m N (.Call fe [.Lambda params lbody lscope lpos, e2] [] cp) (fun N' => ∃ c', N' = f (tabObj (ps ++ #[rawInt lpos.line, rawInt lpos.col, .ref c']))) := by
  intro Q E s hs q
  refine wpC_Call (hfe _ _ s hs fun v h1 tk1 st1 hv => ?_) he
  have hv' : v = .ref 243 := hv
  subst hv'
  have S1 := hs.stay st1
  have hp' : [Expr.Lambda params lbody lscope lpos, e2].all plainE = true := by
    show (plainE (.Lambda params lbody lscope lpos) && (plainE e2 && true)) = true
    rw [hp]; rfl
  refine wpC_callWith (P := (KK X.w).In) (by rw [starEach_plain hp']; rfl) (fun h hk => looks_keep (kp_law_held X.w) hk) ?_
  rw [starEach_plain hp']
  refine wpC_evalArgs_plain (wpC_spliced_cons (wpC_of (lam_made hdef hcl hge hcode hM hch ht hnf S1 fun a c' h2 tk2 ps' e S2 L2 => ?_)))
  refine wpC_spliced_cons (wpC_of (he2 _ _ _ _ S2 fun v3 h3 tk3 st3 hv3 => ?_))
  obtain ⟨t3, rfl⟩ := hv3
  have S3 := S2.stay st3
  refine wpC_spliced_nil ⟨hW.ki.keeps S3.base, ?_⟩
  refine wpC_call (f_held (W0 := fun h => Wd (KK X.w) mg mb h ∧ Lam a c' (X.env.qual ++ "<lambda>") params lbody lscope clos h ∧ U h) (base := X.h0) (l := [X.env]) (hplace t3) (hcall a c') hgood hbad
    (fun h h' k ⟨x1, x2, x3⟩ => ⟨x1.stay k, x2.stay k, hU _ _ k x3⟩) (fun M h x => x.2.1.keeper) hA hg hfr S3.base ?_ (Nat.le_trans S3.fr.above (Nat.le_of_lt S3.fr.ns.lt)) hW ⟨hW.stay S3.base, L2.stay st3, hU0 _ _ S3⟩ fun h' tk r => ?_)
  · refine .cons (by rw [hkd]; decide) hf S3.fr.ns ?_ trivial
    cases z : X.h0.get? X.env.locals with
    | none => rfl
    | some o => exact absurd (Nat.lt_of_lt_of_le (Heap.lt_size z) S3.fr.above) (Nat.lt_irrefl _)
  · subst e
    exact q _ _ _ (S3.rel (l := [X.env]) (by simp [frs, hf]) r) ⟨c', rfl⟩
end
end Mine
end

section
open PySem PySem.W PySem.Calls PyProof.Rows PySem.Spec PySem.SeqAt
set_option Elab.async false
set_option linter.unusedVariables false
set_option linter.unusedSimpArgs false
set_option linter.deprecated false
set_option maxRecDepth 100000
namespace Mine
section
variable {X : Fx} {m : Str → Option Value} {N : List (Addr × Obj)} {Z : Zt} {rest : List Stmt} {D : Addr → Prop}
theorem Walks.weak {prog : Program} {w : World} {A : Around} {I : Addr} {fp wr : List Addr} {n : Nat} {P P' : Nat → Value → Prop} {S : Nat → Heap → Prop} (W : Walks prog w A I fp wr n P S) (k : ∀ i v, P i v → P' i v) : Walks prog w A I fp wr n P' S :=
  { W with item := fun i s Q E hi hS q => W.item i s Q E hi hS fun v h' tk hP a b => q v h' tk (k _ _ hP) a b }
theorem Src.weak {st : Heap} {v : Value} {h : Heap} {n : Nat} {P P' : Nat → Value → Prop} (H : Src X D st v h n P) (k : ∀ i v, P i v → P' i v) : Src X D st v h n P' := by
  intro Q E s e q
  exact H Q E s e fun I fp fq wr S h' tk a W b c d e f g h => q I fp fq wr S h' tk a (Walks.weak W k) b c d e f g h
theorem src_tupF {xs : List (List Nat)} {v : Value} {st h : Heap} (hv : (nU (Lst fS xs)).Is st v h) (hA : X.A.handled = none) (k : st.StaysIn h) : Src X D st v h xs.length (fun i v => ∃ q, q ∈ xs ∧ fS q v) := by
  obtain ⟨a, o, rfl, e1, e2, us, un, rfl, hus⟩ := hv
  have := src_tup (X := X) (D := D) (vs := us) (a := a) ⟨_, e2, rfl, un, rfl⟩ hA k (.inr e1)
  rw [hus.1] at this
  refine this.weak fun i v hv => ?_
  obtain ⟨q, hq, hf⟩ := hus.2 i v hv
  exact ⟨q, List.mem_of_getElem? hq, hf⟩
theorem sx_val {x y : List Nat} {t u : Tok} (e : Value.str (sx x) t = .str (sx y) u) : x = y := by
  have e1 : sx x = sx y := by injection e
  have := congrArg (fun s : Str => s.cps.toList) e1
  simpa [sx] using this
/-- a list kept in a cell of the frame's -/
theorem Ev.cellL {x : Str} {pos : Pos} {c a : Addr} {o : Obj} {vs : List Value} {n : Nat} {P : List Value → Prop} (hc : X.env.cells.lookup x = some c) (hm : (c, o) ∈ N) (hd : o.data = .cell (some (.ref a))) (ha : (a, lo vs n) ∈ N) (hp : P vs)
    (hk : X.env.scope.kind = .function := by rfl) (hl : X.env.kindOf x = some .cell := by rfl) (hx : (x == ("__debug__" : Str)) = false := by decide) : Ev X m N (.Name x pos) (sL P) :=
  Rn.mono (Ev.cell hc hm hd hk hl hx) fun h v h' S st e => ⟨a, vs, n, e, (S.stay st).get ha, hp⟩
/-- a list kept in a cell of the frame around -/
theorem Ev.outL {x : Str} {pos : Pos} {c a : Addr} {o : Obj} {vs : List Value} {n : Nat} {P : List Value → Prop} (hc : X.env.cells.lookup x = some c) (hm : X.h0.get? c = some o) (hd : o.data = .cell (some (.ref a))) (ha : X.h0.get? a = some (lo vs n)) (hp : P vs)
    (hk : X.env.scope.kind = .function := by rfl) (hl : X.env.kindOf x = some .cell := by rfl) (hx : (x == ("__debug__" : Str)) = false := by decide) : Ev X m N (.Name x pos) (sL P) :=
  Rn.mono (Ev.cellv hc (fun h S => ⟨o, S.base _ _ hm, hd⟩) hk hl hx) fun h v h' S st e => ⟨a, vs, n, e, (S.stay st).base _ _ ha, hp⟩
/-- a text kept in a cell of the frame around -/
theorem Ev.outT {x : Str} {pos : Pos} {c : Addr} {o : Obj} {l : List Nat} {t : Tok} (hc : X.env.cells.lookup x = some c) (hm : X.h0.get? c = some o) (hd : o.data = .cell (some (.str (sx l) t)))
    (hk : X.env.scope.kind = .function := by rfl) (hl : X.env.kindOf x = some .cell := by rfl) (hx : (x == ("__debug__" : Str)) = false := by decide) : Ev X m N (.Name x pos) (sT (sx l)) :=
  Ev.wk (Ev.cellv hc (fun h S => ⟨o, S.base _ _ hm, hd⟩) hk hl hx) fun v e => ⟨t, e⟩
/-- a comprehension over a list of texts of ours -/
theorem Ev.mapC {elt iter : Expr} {x : Str} {px pos : Pos} {scope : Scope} {a : Addr} {vs : List Value} {n : Nat} {xs : List (List Nat)} {g : List Nat → List Nat} (cl : List (Str × Addr)) (hit : Ev X m N iter (sV (.ref a))) (hm : (a, lo vs n) ∈ N) (hvs : Lst fS xs vs) (hA : X.A.handled = none) (hz : xs.length ≤ 100000)
    (helt : ∀ C h y t m', X.h0.StaysIn h → (∀ p ∈ N, h.get? p.1 = some p.2) → y ∈ xs → m' x = some (.str (sx y) t) → Ev (X.comp scope cl C h) m' [] elt (sT (sx (g y))))
    (hclos : closureFor scope X.env = pure cl) (hcell : ∀ y ∈ scope.names, y.2 ≠ .cell) (hnames : ∀ y ∈ scope.names, y.2 = .local → scope.names.lookup y.1 = some .local)
    (hkind : scope.kind = .function := by rfl) (hx : scope.names.lookup x = some .local := by rfl) (hs : ∀ v, foldedSetIterable iter X.env v = pure v := by intro _; rfl) :
    Ev X m N (.ListComp elt [⟨.Name x px, iter, [], 0⟩] scope pos) (nL (Lst fS (xs.map g))) := by
  refine Rn.mono (Ev.comp (n := vs.length) (P := fun i v => i < vs.length ∧ vs[i]? = some v) (F := fun v y => ∀ (z : List Nat) (t : Tok), v = .str (sx z) t → fS (g z) y) (G := fun i y => ∃ z, xs[i]? = some z ∧ fS (g z) y) cl hit (fun h0 v h st hs hs0 hv => ?_) (fun C h hg hN i v m' ⟨hi, hv⟩ hm' => ?_) ?_ (by rw [hvs.1]; omega) hclos hcell hnames hkind hx hs) ?_
  · have hv : v = .ref a := hv
    subst hv
    exact (src_list (isList_of (hs.get hm)) hA st (.inl ⟨_, hs.get hm⟩)).bd
  · obtain ⟨z, hz, t, rfl⟩ := hvs.2 i v hv
    refine Ev.wk (helt C h z t m' hg hN (List.mem_of_getElem? hz) hm') fun y hy z' t' e => ?_
    rw [← sx_val e]
    exact hy
  · rintro i v y ⟨hi, hv⟩ hf
    obtain ⟨z, hz, t, rfl⟩ := hvs.2 i v hv
    exact ⟨z, hz, hf z t rfl⟩
  · rintro h v h' S st ⟨a', o, e1, e2, e3, vs', n', e4, he⟩
    exact ⟨a', o, e1, e2, e3, vs', n', e4, Lst.each he (by simp [hvs.1]) fun i v hi ⟨z, hz, hf⟩ => ⟨g z, by simp [hz], hf⟩⟩
theorem Go.assignMapC {elt iter : Expr} {x y : Str} {px py pos spos : Pos} {scope : Scope} {a : Addr} {vs : List Value} {n : Nat} {xs : List (List Nat)} {g : List Nat → List Nat} (cl : List (Str × Addr)) (hit : Ev X m N iter (sV (.ref a))) (hm : (a, lo vs n) ∈ N) (hvs : Lst fS xs vs) (hA : X.A.handled = none) (hz : xs.length ≤ 100000)
    (helt : ∀ C h y t m', X.h0.StaysIn h → (∀ p ∈ N, h.get? p.1 = some p.2) → y ∈ xs → m' x = some (.str (sx y) t) → Ev (X.comp scope cl C h) m' [] elt (sT (sx (g y))))
    (k : ∀ b ws nn, Lst fS (xs.map g) ws → Go X (upd m y (.ref b)) ((b, lo ws nn) :: N) rest Z)
    (hclos : closureFor scope X.env = pure cl) (hcell : ∀ y ∈ scope.names, y.2 ≠ .cell) (hnames : ∀ y ∈ scope.names, y.2 = .local → scope.names.lookup y.1 = some .local)
    (hsw : swapsWith (.ListComp elt [⟨.Name x px, iter, [], 0⟩] scope pos) (some (.Name y py)) spos.line X.env = pure true := by rfl)
    (hy : X.env.kindOf y = some .local := by rfl) (hp : (X.env.scope.kind == .class || (X.env.scope.kind == .module && X.env.locals != X.env.globals)) = false := by rfl)
    (hkind : scope.kind = .function := by rfl) (hx : scope.names.lookup x = some .local := by rfl) (hs : ∀ v, foldedSetIterable iter X.env v = pure v := by intro _; rfl) :
    Go X m N (.Assign [.Name y py] (.ListComp elt [⟨.Name x px, iter, [], 0⟩] scope pos) spos :: rest) Z := by
  refine Go.assignComp (n := vs.length) (P := fun i v => i < vs.length ∧ vs[i]? = some v) (F := fun v y => ∀ (z : List Nat) (t : Tok), v = .str (sx z) t → fS (g z) y) (G := fun i y => ∃ z, xs[i]? = some z ∧ fS (g z) y) cl hit (fun h0 v h st hs hs0 hv => ?_) (fun C h hg hN i v m' ⟨hi, hv⟩ hm' => ?_) ?_ (by rw [hvs.1]; omega) (fun b ws nn he => k b ws nn ?_) hclos hcell hnames hsw hy hp hkind hx hs
  · have hv : v = .ref a := hv
    subst hv
    exact (src_list (isList_of (hs.get hm)) hA st (.inl ⟨_, hs.get hm⟩)).bd
  · obtain ⟨z, hz, t, rfl⟩ := hvs.2 i v hv
    refine Ev.wk (helt C h z t m' hg hN (List.mem_of_getElem? hz) hm') fun y hy z' t' e => ?_
    rw [← sx_val e]
    exact hy
  · rintro i v y ⟨hi, hv⟩ hf
    obtain ⟨z, hz, t, rfl⟩ := hvs.2 i v hv
    exact ⟨z, hz, hf z t rfl⟩
  · exact Lst.each he (by simp [hvs.1]) fun i v hi ⟨z, hz, hf⟩ => ⟨g z, by simp [hz], hf⟩
end
/-- a part of the law's body, from its k-th statement on -/
abbrev lawX (prog : Program) (w : World) (A : Around) (h0 : Heap) (L : Addr) (fd : FuncData) : Fx := { prog := prog, w := w, A := A, env := callEnvC fd L 255, h0 := h0 }
def LawPart (prog : Program) (w : World) (A : Around) (h0 : Heap) (L : Addr) (k : Nat) (m : Str → Option Value) (N : List (Addr × Obj)) (Z : Zt) : Prop :=
  ∀ oc od osl fd body, (KK w).lookup 255 = some ⟨oc, od, .func fd, osl⟩ → fd.body = .stmts body → GoC (lawX prog w A h0 L fd) m N (body.drop k) Z
theorem LawPart.intro {prog : Program} {w : World} {A : Around} {h0 : Heap} {L : Addr} {k : Nat} {m : Str → Option Value} {N : List (Addr × Obj)} {Z : Zt} {oc : Value} {od : Option Addr} {osl : Array (Option Value)} {fd : FuncData} {body : List Stmt} {b0 : Stmt} {bs : List Stmt}
    (ho : (KK w).lookup 255 = some ⟨oc, od, .func fd, osl⟩) (hb : fd.body = .stmts body) (hs : body.drop k = b0 :: bs) (h : GoC (lawX prog w A h0 L fd) m N (b0 :: bs) Z) : LawPart prog w A h0 L k m N Z := by
  intro oc' od' osl' fd' body' ho' hb'
  rw [ho] at ho'
  cases ho'
  rw [hb] at hb'
  cases hb'
  rw [hs]
  exact h
abbrev fZ (i : Int) (v : Value) : Prop := ∃ t, v = .int i t
abbrev Zlaw : Zt := fun fl _ N _ => fl = .ret (.bool true) ∧ ∃ ps, (252, tabObj ps) ∈ N
end Mine
end

section
open PySem PySem.W PySem.Calls PyProof.Rows PySem.Spec PySem.SeqAt
set_option Elab.async false
set_option linter.unusedVariables false
set_option linter.unusedSimpArgs false
set_option linter.deprecated false
set_option maxRecDepth 100000
namespace Mine
def pres (l : List Nat) : List (List Nat) := (List.range (spl 47 l).length).map fun i => jn 47 ((spl 47 l).take (i + 1))
def words4 : List (List Nat) := [[97], [97, 98], [97, 47, 98], [98, 97]]
def nms (l : List Nat) : List (List Nat) := pres l ++ words4
def old3 (l : List Nat) (k : Nat) : List (List Nat) := [jn 47 ((spl 47 l).take (k + 1)), [97], jn 47 ((spl 47 l).drop 1)]
def newT (l : List Nat) : List Nat := [122, 47] ++ hd1 l
def turnI (scr : List Int) : Int := if scr = [] then 2 else (scr.headD 0).fdiv 4
theorem sum_take (n : Nat) : ∀ (l : List (List Nat)), ((l.take n).map (·.length)).sum ≤ (l.map (·.length)).sum := by
  induction n with
  | zero => intro l; simp
  | succ n ih =>
    intro l
    cases l with
    | nil => simp
    | cons a r =>
      have := ih r
      simp at this ⊢
      omega
section
variable {prog : Program} {w : World} {mg mb : Str → Option Value} {A : Around} {h0 : Heap} {L : Addr} {m : Str → Option Value}
set_option maxHeartbeats 1000000 in
theorem law_c {sa : Addr} {svs : List Value} {sn : Nat} {scr : List Int} {l : List Nat} {tl : Tok} {ps : Array Value} {o1 o2 o3 oT : Obj} (hA : Lv A 6) (hW : Wd (KK w) mg mb h0) (hs : h0.get? sa = some (lo svs sn)) (hsv : Lst fZ scr svs) (hsl : scr.length ≤ 100)
    (hm : m "script" = some (.ref sa)) (d1 : o1.data = .cell none) (d2 : o2.data = .cell none) (d3 : o3.data = .cell none) (dT : oT.data = .cell (some (.str (sx l) tl))) (hl : l.length ≤ 100) :
    LawPart prog w A h0 L 5 m [(L + 1, o1), (L + 2, o2), (L + 3, o3), (L + 4, oT), (252, tabObj ps)] Zlaw := by
  refine LawPart.intro rfl rfl rfl ?_
  have hsum := spl_sum l
  have hhd := spl_hd l
  have hln := hd1_len l
  have hpos : 0 < (spl 47 l).length := by rw [hhd]; simp
  have hu : A.units < cLine := by have := hA.un; omega
  refine GoC.of ?_
  refine Go.assignCellN (c := L + 1) (P := fun o => ∃ vs n, o = lo vs n ∧ Lst fS (spl 47 l) vs) rfl (.head _) d1 (Ev.split ((Ev.cell (c := L + 4) rfl (.tail _ (.tail _ (.tail _ (.head _)))) dT).wk fun v e => ⟨_, e⟩) (Ev.lit (l := [47]) (by decide)) (by omega)) (fun o' => .head) fun ap ob o' ⟨vs, n, ho, hvs⟩ dP => ?_
  subst ho
  refine Go.assign (P := pI ((turnI scr).fmod ((spl 47 l).length : Nat))) (Ev.bin (Ev.ife (b := decide (scr ≠ [])) (sp := sI (turnI scr)) (Ts.cmpS (sp1 := sL (Lst fZ scr)) (sp2 := sL fun vs => vs = []) (Ev.hname hm hs hsv) (Ev.asL Ev.nilL) (c_neN hu (fun vs h => ?_) fun vs h => h)) (fun e => ?_) (fun e => ?_))
    (Ev.b1 (g_len hW) (Ev.cellL (c := L + 1) rfl (.tail _ (.head _)) dP (.head _) hvs) (k_lenL (n := (spl 47 l).length) (fun vs h => h.1) (by omega))) (o_mod (by omega))) fun v ⟨tt, hv⟩ => ?_
  · rw [decide_eq_decide, h.1]
    cases scr <;> simp
  · refine Ev.i (Ev.bin (Ev.lstI (P := Lst fZ scr) (P' := pI (scr.headD 0)) (i := 0) (Ev.hname hm hs hsv) Ev.nat (fun vs h => ?_) (by omega)) (Ev.nat (n := 4)) (o_div (by decide) (small_div (b := 4) (by decide)))) ?_
    · cases scr with
      | nil => simp at e
      | cons a r =>
        obtain ⟨v, r', rfl, hv, _⟩ := h.uncons
        exact ⟨v, rfl, hv⟩
    · rw [turnI, if_neg (by simpa using e)]
      rfl
  · refine Ev.i Ev.int ?_
    rw [turnI, if_pos (by simpa using e)]
  subst hv
  obtain ⟨tn, htn, htl⟩ : ∃ tn : Nat, (turnI scr).fmod ((spl 47 l).length : Nat) = (tn : Int) ∧ tn < (spl 47 l).length := by
    have a1 := Int.fmod_nonneg_of_pos (turnI scr) (show (0 : Int) < ((spl 47 l).length : Nat) by omega)
    have a2 := Int.fmod_lt_of_pos (turnI scr) (show (0 : Int) < ((spl 47 l).length : Nat) by omega)
    exact ⟨((turnI scr).fmod ((spl 47 l).length : Nat)).toNat, by omega, by omega⟩
  rw [htn]
  have pre_len : ∀ p ∈ pres l, p.length ≤ 200 := by
    intro p hp
    obtain ⟨i, hi, rfl⟩ := List.mem_map.mp hp
    have := jn_len 47 ((spl 47 l).take (i + 1)) (by rw [hhd]; simp)
    have := sum_take (i + 1) (spl 47 l)
    have : ((spl 47 l).take (i + 1)).length ≤ (spl 47 l).length := by simp; omega
    omega
  refine Go.assignN (P := fun o => ∃ vs n, o = lo vs n ∧ Lst fS (nms l) vs) (Ev.addL (P1 := Lst fS (pres l)) (P2 := Lst fS words4) (Ev.asL (Rn.mono (Ev.comp (n := (spl 47 l).length) (P := fun i v => i < (spl 47 l).length ∧ ∃ t, v = .int ((1 : Int) + (i : Int)) t) (F := fun v y => ∀ (i : Nat) (t : Tok), v = .int ((1 : Int) + (i : Int)) t → fS (jn 47 ((spl 47 l).take (i + 1))) y) (G := fun i y => fS (jn 47 ((spl 47 l).take (i + 1))) y) [("parts", L + 1)]
      (Ev.call (sps := [sI 1, sI (((spl 47 l).length + 1 : Nat) : Int)]) (g_range hW) keep_typ ⟨Ev.int, Ev.bin (Ev.b1 (g_len hW) (Ev.cellL (c := L + 1) rfl (.tail _ (.head _)) dP (.head _) hvs) (k_lenL (n := (spl 47 l).length) (fun vs h => h.1) (by omega))) (Ev.nat (n := 1)) n_add, trivial⟩ k_range2)
      (fun h0 v h st hs _ hv => src_up hv hA.hd st (by omega) (by omega) (by omega)) (fun C g hg hN i v m' ⟨hi, t, hv⟩ hm' => ?_) ?_ (by omega) rfl (by decide) (by decide)) ?_)) (Ev.asL (Ev.strs words4 (by kernel_rfl) rfl rfl)) fun vs ws h1 h2 => ⟨h1.app h2, ?_⟩) fun an o ⟨nvs, nn, ho, hnvs⟩ => ?_
  · subst hv
    refine Ev.wk (P := pT (sx (jn 47 ((spl 47 l).take (i + 1))))) ?_ fun y hy j t' e => ?_
    · refine Ev.joinC (Ev.lit (by decide)) (Ev.asL (Ev.lstS (a := none) (b := some (i + 1)) (P := Lst fS (spl 47 l)) (Ev.outL (c := L + 1) rfl (hN _ (.tail _ (.head _))) dP (hN _ (.head _)) hvs) trivial (Ev.i (Ev.nameI hm') (by omega)) (fun vs h => by rw [h.1]; omega) fun vs h => h.cutN _)) ?_
      have := sum_take (i + 1) (spl 47 l)
      have : ((spl 47 l).take (i + 1)).length ≤ (spl 47 l).length := by simp; omega
      omega
    · have : i = j := by
        have e1 : (1 : Int) + (i : Int) = 1 + (j : Int) := by injection e
        omega
      subst this
      exact hy
  · rintro i v y ⟨hi, t, rfl⟩ hf
    exact hf i t rfl
  · rintro h v h' hs st ⟨a, o, e1, e2, e3, vs, n, e4, he⟩
    exact ⟨a, o, e1, e2, e3, vs, n, e4, Lst.each he (by simp [pres]) fun i v hi hf => ⟨_, by simp [pres, hi], hf⟩⟩
  · rw [h1.1, h2.1, pres, List.length_map, List.length_range]
    have : words4.length = 4 := rfl
    omega
  subst ho
  have old_len : ∀ q ∈ old3 l tn, q.length ≤ 200 := by
    intro q hq
    rcases List.mem_cons.mp hq with rfl | hq
    · exact pre_len _ (List.mem_map.mpr ⟨tn, List.mem_range.mpr htl, rfl⟩)
    rcases List.mem_cons.mp hq with rfl | hq
    · decide
    obtain rfl := List.mem_singleton.mp hq
    have := sum_drop 1 (spl 47 l)
    cases hdr : (spl 47 l).drop 1 with
    | nil => simp [jn]
    | cons a r =>
      have e := jn_len 47 (a :: r) (by simp)
      rw [hdr] at this
      have hl2 : (a :: r).length ≤ (spl 47 l).length := by rw [← hdr, List.length_drop]; omega
      omega
  have nm_len : ∀ y ∈ nms l, y.length ≤ 200 := by
    intro y hy
    rcases List.mem_append.mp hy with hy | hy
    · exact pre_len y hy
    · exact (show ∀ y ∈ words4, y.length ≤ 200 by decide) y hy
  have nl_len : (nms l).length ≤ 1000 := by
    have : words4.length = 4 := rfl
    simp [nms, pres]; omega
  have new_len : (newT l).length ≤ 200 := by simp [newT]; omega
  with_reducible refine Go.perm (N' := ?hN') ?hp ?hk
  case hp => exact List.perm_middle (l₁ := [_, _, _])
  with_reducible refine Go.loopC (n := 3) (spIt := nU (Lst fS (old3 l tn))) (P := fun i v => ∃ q, q ∈ old3 l tn ∧ fS q v) (c := L + 2) (o0 := ?go0) (N0 := ?gN0) (fun i m1 N1 => m1 "names" = some (.ref an) ∧ ∃ q3 v3, N1 = [(an, lo nvs nn), (ap, lo vs n), (L + 1, o'), (L + 3, q3), (L + 4, oT), (252, tabObj ps)] ∧ q3.data = .cell v3) ?git ?gN ?gc ?go ?gsrc ?g0 ?gturn ?gdone (hs := ?gs) (hk := ?gk) (hx := ?gx)
  case gN => rfl
  case gc => rfl
  case go => exact ⟨_, d2⟩
  case gs => intro _; rfl
  case gk => rfl
  case gx => rfl
  case gsrc => exact fun h0 v h st hs hv => src_tupF hv hA.hd st
  case g0 => exact ⟨upd_self, o3, none, rfl, d3⟩
  case gturn =>
    intro i v m1 N1 own oc hi ⟨q, hq, tq, hv⟩ ⟨g1, q3, v3, hN, dN⟩ hmap dO
    subst hN hv
    have hq200 := old_len q hq
    simp only [List.cons_append, List.nil_append]
    refine Go.assignCell (P := pT (sx (newT l))) (c := L + 3) rfl (.tail _ (.tail _ (.tail _ (.tail _ (.head _))))) dN (Ev.t (Ev.bin (Ev.lit (l := [122, 47]) (by decide)) (Ev.lstI (P := Lst fS (spl 47 l)) (P' := pT (sx (hd1 l))) (i := 0) (Ev.cellL (c := L + 1) rfl (.tail _ (.tail _ (.tail _ (.head _)))) dP (.tail _ (.tail _ (.head _))) hvs) Ev.nat (fun vs h => ?_) (by omega)) (o_cat ?_)) (sx_app _ _)) (fun o' => .tail (.tail (.tail (.tail .head)))) fun v o3' ⟨t3, hv⟩ d3' => ?_
    · rw [hhd] at h
      obtain ⟨v, r, rfl, hv, _⟩ := h.uncons
      exact ⟨v, rfl, hv⟩
    · rw [sx_len, sx_len, sizeLine_eq]; simp; omega
    subst hv
    have ren_len : ∀ (y a b : List Nat), y.length ≤ 200 → b.length ≤ 200 → (lren y a b).length ≤ 400 := by
      intro y a b h1 h2
      rw [← ren_lren]
      unfold ren
      split
      · omega
      · split
        · rw [List.length_append, List.length_drop]; omega
        · omega
    with_reducible refine Go.assignMapC (a := an) (n := nn) (xs := nms l) (g := fun x => lren x q (newT l)) [("old", L + 2), ("new", L + 3)] ?a1 ?a2 hnvs hA.hd ?a3 ?a4 ?a5 ?a6 ?a7 ?a8 (hsw := ?a9) (hy := ?a10) (hp := ?a11) (hkind := ?a12) (hx := ?a13) (hs := ?a14)
    case a1 => exact Ev.name g1
    case a2 => exact .tail _ (.head _)
    case a3 => omega
    case a6 => rfl
    case a7 => decide
    case a8 => decide
    case a9 => rfl
    case a10 => rfl
    case a11 => rfl
    case a12 => rfl
    case a13 => rfl
    case a14 => intro _; rfl
    case a4 =>
      intro C h y t m' hg hN hy hm'
      have hW' := hW.stay hg
      refine Ev.c3 (g_renamed hW') hW' (kp_renamed w) (hA.one (k := 2)) (Ev.name hm') (Ev.outT (c := L + 2) (l := q) rfl (hN _ (.head _)) dO) (Ev.outT (c := L + 3) (l := newT l) rfl (hN _ (.tail _ (.tail _ (.tail _ (.tail _ (.head _)))))) d3') fun v u x e1 ⟨t2, e2⟩ ⟨t3, e3⟩ => ?_
      have e1 : v = _ := e1
      subst e1 e2 e3
      have := nm_len y hy
      rw [← ren_lren]
      exact f_renamed (by omega) (by omega) (by omega)
    intro am ws wn hws
    have mv_len : ∀ y ∈ (nms l).map (fun x => lren x q (newT l)), y.length ≤ 400 := by
      intro y hy
      obtain ⟨x, hx, rfl⟩ := List.mem_map.mp hy
      exact ren_len x q (newT l) (nm_len x hx) new_len
    with_reducible refine Go.ite (b := !decide ((nms l).map (fun x => lren x q (newT l)) = (nms l).map (fun x => lren x q (newT l)))) ?b1 (fun e => absurd e (by simp)) (fun _ => Go.nilSeq ?b2)
    case b1 =>
      with_reducible refine Ts.cmpS (sp1 := sL (Lst fS ((nms l).map fun x => lren x q (newT l)))) (sp2 := sL (Lst fS ((nms l).map fun x => lren x q (newT l)))) ?c1 (Ev.asL ?c2) (c_neL ?c3) (hm := ?c4)
      case c4 => with_unfolding_all rfl
      case c3 => exact hu
      case c1 => exact Ev.lname upd_self (.head _) hws
      with_reducible refine Ev.mapC (a := an) (n := nn) (xs := nms l) (g := fun x => lren x q (newT l)) [("old", L + 2), ("new", L + 3)] ?a1 ?a2 hnvs hA.hd ?a3 ?a4 ?a6 ?a7 ?a8 (hkind := ?a12) (hx := ?a13) (hs := ?a14)
      case a1 => exact Ev.name (upd_ne g1)
      case a2 => exact .tail _ (.tail _ (.head _))
      case a3 => omega
      case a6 => rfl
      case a7 => decide
      case a8 => decide
      case a12 => rfl
      case a13 => rfl
      case a14 => intro _; rfl
      case a4 =>
        intro C h y t m' hg hN hy hm'
        have hW' := hW.stay hg
        refine Ev.c3 (g_law_renamed hW') hW' (kp_law_renamed w) (hA.one (k := 1)) (Ev.name hm') (Ev.outT (c := L + 2) (l := q) rfl (hN _ (.tail _ (.head _))) dO) (Ev.outT (c := L + 3) (l := newT l) rfl (hN _ (.tail _ (.tail _ (.tail _ (.tail _ (.tail _ (.head _))))))) d3') fun v u x e1 ⟨t2, e2⟩ ⟨t3, e3⟩ => ?_
        have e1 : v = _ := e1
        subst e1 e2 e3
        have := nm_len y hy
        exact f_lrenamed (by omega) (by omega) (by omega)
    with_reducible refine Go.ite (b := !decide (((nms l).map fun x => lren x q (newT l)).map (fun x => lren x (newT l) q) = ((nms l).map fun x => lren x q (newT l)).map (fun x => lren x (newT l) q))) ?b3 (fun e => absurd e (by simp)) (fun _ => Go.nilSeq ?b4)
    case b3 =>
      with_reducible refine Ts.cmpS (sp1 := sL (Lst fS (((nms l).map fun x => lren x q (newT l)).map fun x => lren x (newT l) q))) (sp2 := sL (Lst fS (((nms l).map fun x => lren x q (newT l)).map fun x => lren x (newT l) q))) (Ev.asL ?c5) (Ev.asL ?c6) (c_neL ?c3) (hm := ?c4)
      case c4 => with_unfolding_all rfl
      case c3 => exact hu
      case c5 =>
        with_reducible refine Ev.mapC (a := am) (n := wn) (xs := (nms l).map fun x => lren x q (newT l)) (g := fun x => lren x (newT l) q) [("old", L + 2), ("new", L + 3)] ?a1 ?a2 hws hA.hd ?a3 ?a4 ?a6 ?a7 ?a8 (hkind := ?a12) (hx := ?a13) (hs := ?a14)
        case a1 => exact Ev.name upd_self
        case a2 => exact .head _
        case a3 => rw [List.length_map]; omega
        case a6 => rfl
        case a7 => decide
        case a8 => decide
        case a12 => rfl
        case a13 => rfl
        case a14 => intro _; rfl
        case a4 =>
          intro C h y t m' hg hN hy hm'
          have hW' := hW.stay hg
          refine Ev.c3 (g_renamed hW') hW' (kp_renamed w) (hA.one (k := 2)) (Ev.name hm') (Ev.outT (c := L + 3) (l := newT l) rfl (hN _ (.tail _ (.tail _ (.tail _ (.tail _ (.tail _ (.head _))))))) d3') (Ev.outT (c := L + 2) (l := q) rfl (hN _ (.tail _ (.head _))) dO) fun v u x e1 ⟨t2, e2⟩ ⟨t3, e3⟩ => ?_
          have e1 : v = _ := e1
          subst e1 e2 e3
          have := mv_len y hy
          rw [← ren_lren y (newT l) q]
          exact f_renamed (by omega) (by omega) (by omega)
      case c6 =>
        with_reducible refine Ev.mapC (a := am) (n := wn) (xs := (nms l).map fun x => lren x q (newT l)) (g := fun x => lren x (newT l) q) [("old", L + 2), ("new", L + 3)] ?a1 ?a2 hws hA.hd ?a3 ?a4 ?a6 ?a7 ?a8 (hkind := ?a12) (hx := ?a13) (hs := ?a14)
        case a1 => exact Ev.name upd_self
        case a2 => exact .head _
        case a3 => rw [List.length_map]; omega
        case a6 => rfl
        case a7 => decide
        case a8 => decide
        case a12 => rfl
        case a13 => rfl
        case a14 => intro _; rfl
        case a4 =>
          intro C h y t m' hg hN hy hm'
          have hW' := hW.stay hg
          refine Ev.c3 (g_law_renamed hW') hW' (kp_law_renamed w) (hA.one (k := 1)) (Ev.name hm') (Ev.outT (c := L + 3) (l := newT l) rfl (hN _ (.tail _ (.tail _ (.tail _ (.tail _ (.tail _ (.head _))))))) d3') (Ev.outT (c := L + 2) (l := q) rfl (hN _ (.tail _ (.head _))) dO) fun v u x e1 ⟨t2, e2⟩ ⟨t3, e3⟩ => ?_
          have e1 : v = _ := e1
          subst e1 e2 e3
          have := mv_len y hy
          exact f_lrenamed (by omega) (by omega) (by omega)
    exact Go.drop (Go.nil fun h _ => ⟨[(an, lo nvs nn), (ap, lo vs n), (L + 1, o'), (L + 3, o3'), (L + 4, oT), (252, tabObj ps)], rfl, rfl, upd_ne g1, o3', _, rfl, d3'⟩)
  case gdone =>
    intro m1 N1 o1 ⟨g1, q3, v3, hN, dN⟩ hmap dO
    subst hN
    exact Go.ret (sp := sB true) Ev.bool fun h v h' S st hv => ⟨by rw [show v = .bool true from hv], ps, by simp⟩
  case git =>
    with_reducible refine Ev.tuple (sps := [sT (sx (jn 47 ((spl 47 l).take (tn + 1)))), sT (sx [97]), sT (sx (jn 47 ((spl 47 l).drop 1)))]) ?k1 ?k2 ?k3 ?k4
    case k4 => rfl
    case k3 => exact Nat.le_of_ble_eq_true rfl
    case k2 => exact fun h vs h' hv => all_fS (xs := old3 l tn) hv
    refine ⟨?_, ?_, ?_, trivial⟩
    · refine Ev.joinC (Ev.lit (by decide)) (Ev.asL (Ev.lstS (a := none) (b := some (tn + 1)) (P := Lst fS (spl 47 l)) (Ev.cellL (c := L + 1) rfl (.tail _ (.tail _ (.tail _ (.head _)))) dP (.tail _ (.tail _ (.head _))) hvs) trivial (Ev.bin (Ev.nameI (upd_ne upd_self)) (Ev.nat (n := 1)) n_add) (fun vs h => by rw [h.1]; omega) fun vs h => h.cutN _)) ?_
      have := sum_take (tn + 1) (spl 47 l)
      have : ((spl 47 l).take (tn + 1)).length ≤ (spl 47 l).length := by simp; omega
      omega
    · exact Ev.lit (by decide)
    · refine Ev.joinC (Ev.lit (by decide)) (Ev.asL (Ev.lstS (a := some 1) (b := none) (P := Lst fS (spl 47 l)) (Ev.cellL (c := L + 1) rfl (.tail _ (.tail _ (.tail _ (.head _)))) dP (.tail _ (.tail _ (.head _))) hvs) Ev.nat trivial (fun vs h => by rw [h.1]; omega) fun vs h => h.cutF _)) ?_
      have := sum_drop 1 (spl 47 l)
      have : ((spl 47 l).drop 1).length ≤ (spl 47 l).length := by simp
      omega
end
end Mine
end

section
open PySem PySem.W PySem.Calls PyProof.Rows PySem.Spec PySem.SeqAt
set_option Elab.async false
set_option linter.unusedVariables false
set_option linter.unusedSimpArgs false
set_option linter.deprecated false
set_option maxRecDepth 100000
namespace Mine
theorem Fn.up {prog : Program} {w : World} {W : Heap → Prop} {k n : Nat} {f : Addr} {args : List Value} {sp : Sp} (h : Fn prog w W k f args sp) (hk : k ≤ n) : Fn prog w W n f args sp :=
  fun A s R hA hs q => h A s R (hA.le hk) hs q
theorem FnEC.up {prog : Program} {w : World} {W : Heap → Prop} {k n : Nat} {f : Addr} {args : List Value} {sp : Sp} {ok : Prop} {bad : Int → Prop} (h : FnEC prog w W k f args sp ok bad) (hk : k ≤ n) : FnEC prog w W n f args sp ok bad :=
  fun A s R l hA hg hfr hF hs q qe => h A s R l (hA.le hk) hg hfr hF hs q qe
def placeOf (l : List Nat) : Int := match chk l with | some p => (p : Int) | none => -1
theorem placeOf_plc {l : List Nat} (hc : ∀ c ∈ l, c < 55296) : Plc l (placeOf l) := by
  obtain ⟨a, b⟩ := plc_chk hc
  unfold placeOf
  cases h : chk l with
  | some p => exact a p h
  | none => exact b h
theorem placeOf_good {l : List Nat} (h : chk l = none) : placeOf l < 0 := by unfold placeOf; rw [h]; decide
theorem placeOf_bad {l : List Nat} {k : Int} (h : ∃ p : Nat, chk l = some p ∧ k = (p : Int)) : k = placeOf l ∧ 0 ≤ placeOf l := by
  obtain ⟨p, hp, rfl⟩ := h
  unfold placeOf
  rw [hp]
  exact ⟨rfl, Int.natCast_nonneg p⟩
theorem fpR_sub (l : List Nat) : ∀ c ∈ fpR l, c ∈ l := by
  intro c hc
  unfold fpR at hc
  split at hc
  · simp at hc
  · exact List.mem_of_mem_drop hc
theorem nrm_codes {l : List Nat} (hc : ∀ c ∈ l, c < 55296) : ∀ c ∈ nrm l, c < 55296 := by
  intro c h
  unfold nrm at h
  split at h
  · rcases List.mem_append.mp h with h | h
    · exact (show ∀ c ∈ inbox, c < 55296 by decide) c h
    · exact hc c (fpR_sub l c h)
  · exact hc c h
section
variable {prog : Program} {w : World} {mg mb : Str → Option Value} {A : Around} {h0 : Heap} {L : Addr} {m : Str → Option Value}
set_option maxHeartbeats 1000000 in
theorem law_b {sa : Addr} {svs : List Value} {sn : Nat} {scr : List Int} {l : List Nat} {tl : Tok} {o1 o2 o3 oT : Obj} (hA : Lv A 7) (hG : A.guards = some []) (hW : Wd (KK w) mg mb h0) (hM : ∀ c, codeHdIn (KK w) c 252 = true → Mk mg c 252 h0) (hs : h0.get? sa = some (lo svs sn)) (hsv : Lst fZ scr svs) (hsl : scr.length ≤ 100)
    (hfr : ∀ oc od osl fd, (KK w).lookup 255 = some ⟨oc, od, .func fd, osl⟩ → A.frames = some [callEnvC fd L 255])
    (hm : m "script" = some (.ref sa)) (d1 : o1.data = .cell none) (d2 : o2.data = .cell none) (d3 : o3.data = .cell none) (dT : oT.data = .cell (some (.str (sx l) tl))) (hl : l.length ≤ 90) (hc : ∀ c ∈ l, c < 55296) :
    LawPart prog w A h0 L 3 m [(L + 1, o1), (L + 2, o2), (L + 3, o3), (L + 4, oT), (252, tabObj #[])] Zlaw := by
  refine LawPart.intro rfl rfl rfl ?_
  with_reducible refine GoC.ifNot (G := ?G) ?t1 ?k1 (he := ?e1)
  case e1 => rfl
  case t1 =>
    with_reducible refine EvT.held (P := 252) (c := ?c) (ps := #[]) (f := fun o' => [(L + 1, o1), (L + 2, o2), (L + 3, o3), (L + 4, oT), (252, o')]) (U := fun h => h.IsCell (L + 4) (some (.str (sx l) tl))) (lv := 6) (txt := l) (res := l) (place := placeOf l) (ok := chk l = none) (bad := fun k => ∃ p : Nat, chk l = some p ∧ k = (p : Int)) (clos := [("text", L + 4)]) (mg := mg) (mb := mb) ?a30 ?a1 ?a2 ?a3 ?a31 ?a32 ?a4 ?a5 ?a6 ?a7 ?a8 ?a9 ?a10 ?a11 ?a12 ?a13 ?a14 ?a15 ?a16 ?a17 ?a18 ?a19 ?a20 ?a21
    case a8 => rfl
    case a30 => exact hW
    case a31 => exact hG
    case a32 => exact hA
    case a1 => exact hfr _ _ _ _ rfl
    case a2 => rfl
    case a3 => rfl
    case a4 => exact g_law_held hW
    case a5 => rfl
    case a6 => rfl
    case a7 => rfl
    case a9 => exact hM _ rfl
    case a10 => exact fun o' => .tail (.tail (.tail (.tail .head)))
    case a11 => exact trivial
    case a12 => rfl
    case a13 => exact fun o' => (Ev.cell (c := L + 4) rfl (.tail _ (.tail _ (.tail _ (.head _)))) dT).wk fun v e => ⟨_, e⟩
    case a14 => exact fun h h' k ⟨o, e, d⟩ => ⟨o, k _ _ e, d⟩
    case a15 => exact fun o' h S => ⟨oT, S.get (.tail _ (.tail _ (.tail _ (.head _)))), dT⟩
    case a16 => exact fun t => (f_placeI (by omega) (placeOf_plc hc)).up (by decide)
    case a17 =>
      intro a c'
      with_reducible refine FnEC.lam (K := KK w) (mg := mg) (mb := mb) (fun h x => ⟨x.1, x.2.1⟩) ?b1 ?b2 ?b3 ?b4 ?b5 ?b6
      case b1 => rfl
      case b2 => decide
      case b3 => rfl
      case b5 => rfl
      case b6 => rfl
      case b4 =>
        intro A' g0 L' lf hA' hG' hfr' hW0
        refine EvE.call1 (P1 := pT (sx l)) (lv := 4) hfr' hG' (g_check_name hW0.1) hW0.1 (kp_check_name w) (hA'.le (by decide)) (EvC.of ((Ev.free (c := L + 4) (v := .str (sx l) tl) rfl fun h S => ?_).wk fun v e => ⟨_, e⟩)) fun v ⟨t, hv⟩ => hv ▸ (f_check (by omega)).c
        obtain ⟨o, e, d⟩ := hW0.2.2
        exact ⟨o, S.base _ _ e, d⟩
    case a18 => exact fun h => ⟨rfl, placeOf_good h⟩
    case a19 => exact fun k h => placeOf_bad h
    case a20 => rfl
    case a21 => rfl
  case k1 =>
    intro N' ⟨c', hN⟩
    subst hN
    have eps : (#[] ++ #[rawInt 237, rawInt 21, .ref c'] : Array Value) = #[rawInt 237, rawInt 21, .ref c'] := by simp
    show GoC _ _ [(L + 1, o1), (L + 2, o2), (L + 3, o3), (L + 4, oT), (252, tabObj (#[] ++ #[rawInt 237, rawInt 21, .ref c']))] _ _
    rw [eps]
    have hz := nrm_len l
    have hcn := nrm_codes hc
    with_reducible refine GoC.ifNot (G := ?G2) ?t2 ?k2 (he := ?e2)
    case e2 => rfl
    case t2 =>
      with_reducible refine EvT.held (P := 252) (c := ?c2) (ps := #[rawInt 237, rawInt 21, .ref c']) (f := fun o' => [(L + 1, o1), (L + 2, o2), (L + 3, o3), (L + 4, oT), (252, o')]) (U := fun h => h.IsCell (L + 4) (some (.str (sx l) tl))) (lv := 6) (txt := lnm l) (res := nrm l) (place := placeOf (nrm l)) (ok := chk (nrm l) = none) (bad := fun k => ∃ p : Nat, chk (nrm l) = some p ∧ k = (p : Int)) (clos := [("text", L + 4)]) (mg := mg) (mb := mb) ?a30 ?a1 ?a2 ?a3 ?a31 ?a32 ?a4 ?a5 ?a6 ?a7 ?a8 ?a9 ?a10 ?a11 ?a12 ?a13 ?a14 ?a15 ?a16 ?a17 ?a18 ?a19 ?a20 ?a21
      case a8 => rfl
      case a10 => exact fun o' => .tail (.tail (.tail (.tail .head)))
      case a30 => exact hW
      case a31 => exact hG
      case a32 => exact hA
      case a1 => exact hfr _ _ _ _ rfl
      case a2 => rfl
      case a3 => rfl
      case a4 => exact g_law_held hW
      case a5 => rfl
      case a6 => rfl
      case a7 => rfl
      case a9 => exact hM _ rfl
      case a11 => simp [TriplesOk, rawInt]
      case a12 => rfl
      case a13 => exact fun o' => Ev.c1 (g_law_normal hW) hW (kp_law_normal w) (hA.one (k := 1)) (P1 := pT (sx l)) ((Ev.cell (c := L + 4) rfl (.tail _ (.tail _ (.tail _ (.head _)))) dT).wk fun v e => ⟨_, e⟩) fun v ⟨t, hv⟩ => hv ▸ f_lnormal (by omega)
      case a14 => exact fun h h' k ⟨o, e, d⟩ => ⟨o, k _ _ e, d⟩
      case a15 => exact fun o' h S => ⟨oT, S.get (.tail _ (.tail _ (.tail _ (.head _)))), dT⟩
      case a16 =>
        intro t
        rw [← nrm_lnm l]
        exact (f_placeI (by omega) (placeOf_plc hcn)).up (by decide)
      case a17 =>
        intro a c'
        with_reducible refine FnEC.lam (K := KK w) (mg := mg) (mb := mb) (fun h x => ⟨x.1, x.2.1⟩) ?b1 ?b2 ?b3 ?b4 ?b5 ?b6
        case b1 => rfl
        case b2 => decide
        case b3 => rfl
        case b5 => rfl
        case b6 => rfl
        case b4 =>
          intro A' g0 L' lf hA' hG' hfr' hW0
          refine EvE.call1 (P1 := pY (bx (enc l))) (lv := 5) hfr' hG' (g_name_of_wire hW0.1) hW0.1 (kp_name_of_wire w) hA' (EvC.call (sps := [sT (sx l)]) (sp := sY (bx (enc l))) (g_utf7_octets hW0.1) (keepC_def hW0.1 (kp_utf7_octets w)) ⟨EvC.of ((Ev.free (c := L + 4) (v := .str (sx l) tl) rfl fun h S => ?_).wk fun v e => ⟨_, e⟩), trivial⟩ (crnC_def (W := Wd (KK w) mg mb) (lv := 3) (hA'.le (by decide)) hG' fun g1 vs h st hs hv => ?_)) fun v ⟨t, hv⟩ => hv ▸ f_wire (by omega) hc
          · obtain ⟨o, e, d⟩ := hW0.2.2
            exact ⟨o, S.base _ _ e, d⟩
          · obtain ⟨v, rfl, t, rfl⟩ := hv.one
            exact ⟨hW0.1.stay hs.base, f_enc (by omega) hc⟩
      case a18 => exact fun h => ⟨nrm_lnm l, placeOf_good h⟩
      case a19 => exact fun k h => placeOf_bad h
      case a20 => rfl
      case a21 => rfl
    case k2 =>
      intro N' ⟨c2, hN⟩
      subst hN
      exact law_c (hA.le (by decide)) hW hs hsv hsl hm d1 d2 d3 dT (by omega) _ _ _ _ _ rfl rfl
end
end Mine
end

section
open PySem PySem.W PySem.Calls PyProof.Rows PySem.Spec PySem.SeqAt
set_option Elab.async false
set_option linter.unusedVariables false
set_option linter.unusedSimpArgs false
set_option linter.deprecated false
set_option maxRecDepth 100000
namespace Mine
theorem src_lstF {X : Fx} {D : Addr → Prop} {α : Type} {F : α → Value → Prop} {xs : List α} {v : Value} {st h : Heap} (hv : (nL (Lst F xs)).Is st v h) (hA : X.A.handled = none) (k : st.StaysIn h) : Src X D st v h xs.length (fun i v => ∃ q, xs[i]? = some q ∧ F q v) := by
  obtain ⟨a, o, rfl, e1, e2, us, un, rfl, hus⟩ := hv
  have := src_list (X := X) (D := D) (vs := us) (a := a) (isList_of e2) hA k (.inr e1)
  rw [hus.1] at this
  exact this.weak fun i v hv => hus.2 i v hv
theorem Ev.dispI {X : Fx} {m : Str → Option Value} {N : List (Addr × Obj)} {value slice : Expr} {pos : Pos} {P : List Value → Prop} {P' : Value → Prop} {i : Nat} (h1 : Ev X m N value (sL P)) (h2 : Ev X m N slice (sI (i : Int))) (hP : ∀ vs, P vs → ∃ v, vs[i]? = some v ∧ P' v) (hi : i < 1000000) (hn : ∀ v, P' v → ∀ a, v ≠ .ref a)
    (hs : ∀ a c d, subscripted slice false (Value.ref a) (Value.int c d) = operate [Value.ref a, Value.int c d] (getItem (.ref a) (Value.int c d))) : Ev X m N (.Subscript value slice pos) (.pl P') := by
  refine Ev.sub h1 h2 ?_
  rintro h0 _ _ h st ⟨a, vs, n, rfl, hl, hp⟩ ⟨u, rfl⟩ Q E s e q
  subst e
  have hl := isList_of hl
  obtain ⟨v, hv, hv'⟩ := hP _ hp
  exact subscriptTail_builtin_flat hl.typeIs slot_list_getitem.lookup (wpAny_getItem_list hl (by omega) (by omega) (by simpa using hv) ⟨hn v hv', q _ s.heap _ (stays_refl _) hv'⟩) (hs _ _ _)
def heads4 : List (List Nat) := [[], [105, 110, 98, 111, 120, 47], [73, 110, 98, 111, 120], [73, 78, 66, 79, 88, 47, 97, 47]]
def headOk (hd : List Nat) : Prop := hd.length ≤ 8 ∧ ∀ c ∈ hd, c < 55296
theorem heads_ok : ∀ hd ∈ heads4, headOk hd := by unfold headOk; decide
theorem menu_ok : ∀ p ∈ menu, p.length ≤ 5 ∧ ∀ c ∈ p, c < 55296 := by decide +kernel
theorem sgn_ok (c : Int) : (sgn c).length ≤ 5 ∧ ∀ x ∈ sgn c, x < 55296 := by
  have hm := Int.fmod_nonneg_of_pos c (show (0 : Int) < 32 by decide)
  have hm2 := Int.fmod_lt_of_pos c (show (0 : Int) < 32 by decide)
  have hml : menu.length = 32 := by decide +kernel
  have hlt : (c.fmod 32).toNat < menu.length := by rw [hml]; omega
  unfold sgn
  rw [List.getD_eq_getElem?_getD, List.getElem?_eq_getElem hlt]
  exact menu_ok _ (List.getElem_mem hlt)
theorem sum_le5 : ∀ l : List Int, ((l.map sgn).map (·.length)).sum ≤ 5 * l.length
  | [] => by simp
  | a :: r => by
    have := sum_le5 r
    have := (sgn_ok a).1
    simp at this ⊢
    simp at *
    omega
section
variable {prog : Program} {w : World} {mg mb : Str → Option Value} {A : Around} {h0 : Heap} {L : Addr} {m : Str → Option Value}
set_option maxHeartbeats 1000000 in
theorem law_a {sa : Addr} {svs : List Value} {sn : Nat} {scr : List Int} {o1 o2 o3 oT : Obj} (hA : Lv A 7) (hG : A.guards = some []) (hW : Wd (KK w) mg mb h0) (hM : ∀ c, codeHdIn (KK w) c 252 = true → Mk mg c 252 h0) (hs : h0.get? sa = some (lo svs sn)) (hsv : Lst fZ scr svs) (hsl : scr.length ≤ 100)
    (hfr : ∀ oc od osl fd, (KK w).lookup 255 = some ⟨oc, od, .func fd, osl⟩ → A.frames = some [callEnvC fd L 255])
    (hm : m "script" = some (.ref sa)) (d1 : o1.data = .cell none) (d2 : o2.data = .cell none) (d3 : o3.data = .cell none) (dT : oT.data = .cell none) :
    LawPart prog w A h0 L 0 m [(L + 1, o1), (L + 2, o2), (L + 3, o3), (L + 4, oT), (252, tabObj #[])] Zlaw := by
  refine LawPart.intro rfl rfl rfl ?_
  have hu : A.units < cLine := by have := hA.un; omega
  have hm4 := Int.fmod_nonneg_of_pos (scr.headD 0) (show (0 : Int) < 4 by decide)
  have hm42 := Int.fmod_lt_of_pos (scr.headD 0) (show (0 : Int) < 4 by decide)
  with_reducible refine GoC.leaf (Go.assign (P := fun v => ∃ hd, headOk hd ∧ fS hd v) ?a1 ?a2 (hs := ?a3) (hl := ?a4) (hp := ?a5))
  case a3 => rfl
  case a4 => rfl
  case a5 => rfl
  case a1 =>
    with_reducible refine Ev.ife (b := decide (scr ≠ [])) ?b1 ?b2 ?b3
    case b1 =>
      refine Ts.cmpS (sp1 := sL (Lst fZ scr)) (sp2 := sL fun vs => vs = []) (Ev.hname hm hs hsv) (Ev.asL Ev.nilL) (c_neN hu (fun vs h => ?_) fun vs h => h)
      rw [decide_eq_decide, h.1]
      cases scr <;> simp
    case b2 =>
      intro e
      with_reducible refine Ev.dispI (P := Lst fS heads4) (i := ((scr.headD 0).fmod 4).toNat) (Ev.asL ?c1) ?c2 ?c3 ?c4 ?c6 ?c5
      case c5 => intros; rfl
      case c6 =>
        intro v ⟨hd, _, t, e⟩ a
        rw [e]
        exact fun z => by cases z
      case c4 => omega
      case c1 => exact Ev.strs heads4 (by kernel_rfl) rfl rfl
      case c2 =>
        refine Ev.i (Ev.bin (Ev.lstI (P := Lst fZ scr) (P' := pI (scr.headD 0)) (i := 0) (Ev.hname hm hs hsv) Ev.nat (fun vs h => ?_) (by omega)) Ev.int (o_mod (by decide))) (by omega)
        cases scr with
        | nil => simp at e
        | cons a r =>
          obtain ⟨v, r', rfl, hv, _⟩ := h.uncons
          exact ⟨v, rfl, hv⟩
      case c3 =>
        intro vs h
        have hlt : ((scr.headD 0).fmod 4).toNat < heads4.length := by show _ < 4; omega
        obtain ⟨v, e1, e2⟩ := h.get (List.getElem?_eq_getElem hlt)
        exact ⟨v, e1, _, heads_ok _ (List.getElem_mem hlt), e2⟩
    case b3 =>
      intro e
      exact Ev.wk (Ev.lit (l := [105, 78, 66, 79, 88, 47, 98]) (by decide)) fun v hv => ⟨_, by unfold headOk; decide, hv⟩
  case a2 =>
    intro v ⟨hd, ⟨hz, hcd⟩, t, hv⟩
    subst hv
    refine GoC.nilSeq ?_
    have hlen12 : (cut scr 1 13).length ≤ 12 := by simp [cut]; omega
    have hsum := sum_le5 (cut scr 1 13)
    have hfl : (((cut scr 1 13).map sgn).flatten).length ≤ 60 := by
      rw [List.length_flatten]
      exact Nat.le_trans hsum (by omega)
    obtain ⟨l, hl⟩ : ∃ l, l = hd ++ ((cut scr 1 13).map sgn).flatten := ⟨_, rfl⟩
    have hll : l.length ≤ 90 := by
      rw [hl, List.length_append]
      omega
    have hlc : ∀ c ∈ l, c < 55296 := by
      intro c hc
      rw [hl] at hc
      rcases List.mem_append.mp hc with hc | hc
      · exact hcd c hc
      · obtain ⟨p, hp, hc⟩ := List.mem_flatten.mp hc
        obtain ⟨x, _, rfl⟩ := List.mem_map.mp hp
        exact (sgn_ok x).2 c hc
    with_reducible refine GoC.leaf (Go.assignCell (P := pT (sx l)) (c := L + 4) (f := fun o' => [(L + 1, o1), (L + 2, o2), (L + 3, o3), (L + 4, o'), (252, tabObj #[])]) ?d1 ?d2 dT ?d3 ?d4 ?d5 (hs := ?d6) (hk := ?d7) (hl := ?d8))
    case d1 => rfl
    case d2 => exact .tail _ (.tail _ (.tail _ (.head _)))
    case d4 => exact fun o' => .tail (.tail (.tail .head))
    case d6 => rfl
    case d7 => rfl
    case d8 => rfl
    case d3 =>
      refine Ev.t (Ev.bin (Ev.nameS (l := hd) (t := t) upd_self) (Ev.join0 (ps := (cut scr 1 13).map sgn) (Ev.lit (by decide)) (Ev.asL ?_) ?_) (o_cat ?_)) (by rw [sx_app, ← hl])
      · refine Rn.mono (Ev.comp (n := (cut scr 1 13).length) (P := fun i v => ∃ q, (cut scr 1 13)[i]? = some q ∧ fZ q v) (F := fun v y => ∀ (z : Int) (t : Tok), v = .int z t → fS (sgn z) y) (G := fun i y => ∃ z, (cut scr 1 13)[i]? = some z ∧ fS (sgn z) y) []
          (Ev.lstS (a := some 1) (b := some 13) (P := Lst fZ scr) (P' := Lst fZ (cut scr 1 13)) (Ev.hname (upd_ne hm) hs hsv) Ev.nat Ev.nat (fun vs h => by rw [h.1]; omega) fun vs h => h.cut (some 1) (some 13))
          (fun g0 v h st hs' _ hv => src_lstF hv hA.hd st) (fun C g hg hN i v m' ⟨z, hz, t, hv⟩ hm' => ?_) ?_ (by omega) rfl (by decide) (by decide)) ?_
        · subst hv
          have hW' := hW.stay hg
          refine Ev.wk (P := pT (sx (sgn z))) (Ev.c1 (g_law_sign hW') hW' (kp_law_sign w) (hA.one (k := 1)) (Ev.name hm') fun v e => e ▸ f_sign) fun y hy z' t' e => ?_
          have : z = z' := by injection e
          subst this
          exact hy
        · rintro i v y ⟨z, hz, t, rfl⟩ hf
          exact ⟨z, hz, hf z t rfl⟩
        · rintro h v h' S st ⟨a, o, e1, e2, e3, vs, n, e4, he⟩
          exact ⟨a, o, e1, e2, e3, vs, n, e4, Lst.each he (by simp) fun i v hi ⟨z, hz, hf⟩ => ⟨sgn z, by simp [hz], hf⟩⟩
      · rw [List.length_map]; omega
      · rw [sx_len, sx_len, sizeLine_eq]; omega
    case d5 =>
      intro v oT' ⟨tl, hv⟩ dT'
      subst hv
      refine GoC.nilSeq ?_
      with_reducible refine GoC.ite (b := sx (nrm l) != sx (lnm l)) ?f1 ?f2 ?f3
      case f1 =>
        refine Ts.cmp (Ev.c1 (P1 := pT (sx l)) (g_normal_name hW) hW (kp_normal_name w) (hA.one (k := 2)) ((Ev.cell (c := L + 4) rfl (.tail _ (.tail _ (.tail _ (.head _)))) dT').wk fun v e => ⟨_, e⟩) fun v ⟨t, hv⟩ => hv ▸ f_normal (by omega)) (Ev.c1 (P1 := pT (sx l)) (g_law_normal hW) hW (kp_law_normal w) (hA.one (k := 1)) ((Ev.cell (c := L + 4) rfl (.tail _ (.tail _ (.tail _ (.head _)))) dT').wk fun v e => ⟨_, e⟩) fun v ⟨t, hv⟩ => hv ▸ f_lnormal (by omega)) c_neT
      case f2 =>
        intro e
        rw [nrm_lnm] at e
        simp at e
      case f3 =>
        intro e
        refine GoC.nil fun h S => ?_
        exact law_b hA hG hW hM hs hsv hsl hfr (upd_ne hm) d1 d2 d3 dT' hll hlc _ _ _ _ _ rfl rfl
end
end Mine
end

section
open PySem PySem.W PySem.Calls PyProof.Rows PySem.Spec PySem.SeqAt
set_option Elab.async false
set_option linter.unusedVariables false
set_option linter.unusedSimpArgs false
set_option linter.deprecated false
set_option maxRecDepth 100000
namespace Mine
theorem hid_ns {h : Heap} {l : List Addr} {a : Addr} {m : Str → Option Value} (hn : h.Ns a m) (ha : a ∉ l) : (hideAll h l).Ns a m := by
  obtain ⟨o, es, ep, e, r⟩ := hn
  exact ⟨o, es, ep, hideAll_get l e ha, r⟩
theorem hid_In {w : World} {h : Heap} (hK : (KK w).In h) : (KK w).In (hideAll h [252]) := by
  intro a o e
  refine hideAll_get _ (hK a o e) fun hm => ?_
  rw [List.mem_singleton.mp hm] at e
  have : (KK w).lookup 252 = none := rfl
  rw [this] at e
  cases e
theorem hid_Wd {p : Program} {loose : List Str} {mean : ExcName → Option Value} {mg mb : Str → Option Value} {w : World} {h : Heap} (T : Top p loose mean mg mb h) (hK : (KK w).In h) : Wd (KK w) mg mb (hideAll h [252]) := by
  refine ⟨hid_In hK, hid_ns T.g (by decide), hid_ns T.b (by decide), ?_, T.builtins⟩
  obtain ⟨mc, h1, h2⟩ := T.nolimit
  exact ⟨mc, hid_ns h1 (by decide), h2⟩
theorem hid_Mk {p : Program} {loose : List Str} {mean : ExcName → Option Value} {mg mb : Str → Option Value} {w : World} {h : Heap} (T : Top p loose mean mg mb h) (hK : (KK w).In h) {ps : Array Value} (hP : h.get? 252 = some (tabObj ps)) {c : Addr} (hc : codeHdIn (KK w) c 252 = true) : Mk mg c 252 (hideAll h [252]) := by
  refine ⟨hid_ns T.g (by decide), codeHd_of_K (hid_In hK) hc, by decide, ?_⟩
  obtain ⟨bm, ob, b1, b2, b3, b4, b5, b6⟩ := T.bmain
  have hbP : bm ≠ 252 := fun q => by
    rw [q, hP] at b3; cases b3; cases b4
  have hbG : bm ≠ mainGlobals := fun q => by
    obtain ⟨o, es, ep, e, hd, _⟩ := T.g
    rw [q, e] at b3; cases b3; rw [hd] at b6; cases b6
  exact ⟨bm, ob, b1, b2, hbG, hbP, hideAll_get _ b3 (by simpa using hbP), b4, b5, b6⟩
theorem lst_ints {P : Params} {h : Heap} : ∀ {vs : List Value} {xs : List WData}, WellAll P h vs xs → (∀ d ∈ xs, ∃ i, d = .int i) → ∃ scr : List Int, Lst fZ scr vs ∧ xs = scr.map .int
  | _, _, .nil, _ => ⟨[], Lst.nil, rfl⟩
  | _, _, .cons (d := d) (ds := ds) hv hvs, hx => by
    obtain ⟨i, rfl⟩ := hx d (.head _)
    obtain ⟨scr, h1, h2⟩ := lst_ints hvs fun e he => hx e (.tail _ he)
    cases hv with
    | int _ t => exact ⟨i :: scr, Lst.cons ⟨t, rfl⟩ h1, by rw [h2]; rfl⟩
/-- the call of the law -/
theorem law_intro {prog : Program} {w : World} {A : Around} {p : Program} {loose : List Str} {mean : ExcName → Option Value} {mg mb : Str → Option Value} {s : Shared} {R : Result → Shared → Prop} {sa : Addr} {svs : List Value} {sn : Nat} {scr : List Int}
    {oc : Value} {od : Option Addr} {osl : Array (Option Value)} {fd : FuncData} {body : List Stmt}
    (ho : (KK w).lookup 255 = some ⟨oc, od, .func fd, osl⟩) (hb : fd.body = .stmts body) (hcd : codeIn (KK w) fd.code fd.qualname = true) (hbind : bindArgs fd ⟨[.ref sa], []⟩ = pure [(("script" : Str), Value.ref sa)]) (hclo : fd.closure = [])
    (hcs : ∀ L : Addr, (callEnvC fd L 255).cells = [(("text" : Str), L + 4), (("new" : Str), L + 3), (("old" : Str), L + 2), (("parts" : Str), L + 1)]) (hloc : fd.scope.names.lookup ("script" : Str) = some NameKind.local) (hkl : ∀ L : Addr, (callEnvC fd L 255).kindOf ("script" : Str) = some NameKind.local) (hlo : ∀ L : Addr, (callEnvC fd L 255).locals = L)
    (hco : fd.scope.isCoroutine = false) (hgen : fd.scope.isGenerator = false) (hk : fd.scope.kind = .function)
    (hA : Lv A 8) (hG : A.guards = some []) (hfr : A.frames = some []) (T : Top p loose mean mg mb s.heap) (hK : (KK w).In s.heap) (hP : s.heap.get? 252 = some (tabObj #[])) (hs : s.heap.get? sa = some (lo svs sn)) (hsv : Lst fZ scr svs) (hsl : scr.length ≤ 100)
    (q : ∀ h' tk ps, (∀ b o, b ≠ 252 → s.heap.get? b = some o → h'.get? b = some o) → h'.get? 252 = some (tabObj ps) → R (.ok (.ret (.bool true))) { s with heap := h', toks := tk }) :
    codeC (model prog w) A (.call (.ref 255) ⟨[.ref sa], []⟩) R s := by
  have hsa : sa ≠ 252 := fun e => by
    rw [e, hP] at hs
    cases hs
  refine codeC_call_cells (binds := [("script", .ref sa)]) (by have := hA.dp; omega) (hK 255 _ ho) rfl T.nolimit (codeRec_of hK hcd) hb hbind hclo ?_ (fun s₁ x => ?_) hco hgen hk
  · intro x hx
    rw [List.mem_singleton.mp hx]
    exact .inl hloc
  · obtain ⟨os, h', tk, h1, rfl, S⟩ := cells_state (X := { prog := prog, w := w, A := A.deeper (callEnvC fd s.heap.objs.size 255), env := callEnvC fd s.heap.objs.size 255, h0 := s.heap }) x rfl (by rw [hcs]; exact (by decide : (["text", "new", "old", "parts"] : List Str).Nodup))
    have em : (bindL (callEnvC fd s.heap.objs.size 255).kindOf [("script", .ref sa)] fun _ => none) "script" = some (.ref sa) := by simp [bindL, hkl]
    have ec : (bindC (callEnvC fd s.heap.objs.size 255).kindOf [("script", .ref sa)] fun _ => none) = fun _ => none := by simp [bindC, hkl]
    rw [hcs, ec] at h1
    obtain ⟨oT, o3, o2, o1, rfl, dT, d3, d2, d1⟩ := h1.four
    have S' : St (lawX prog w (A.deeper (callEnvC fd s.heap.objs.size 255)) (hideAll s.heap [252]) s.heap.objs.size fd) (bindL (callEnvC fd s.heap.objs.size 255).kindOf [("script", .ref sa)] fun _ => none) ((252, tabObj #[]) :: [(s.heap.objs.size + 4, oT), (s.heap.objs.size + 3, o3), (s.heap.objs.size + 2, o2), (s.heap.objs.size + 1, o1)]) h' := by
      refine ⟨⟨S.fr.ns, fun b o e => S.fr.keep b o (of_hideAll _ e), by rw [hideAll_size]; exact S.fr.above⟩, fun p hp => ?_, ?_⟩
      · rcases List.mem_cons.mp hp with rfl | hp
        · refine ⟨S.fr.keep _ _ hP, ?_, hideAll_none _ (.head _)⟩
          have := Heap.lt_size hP
          show 252 ≠ (callEnvC fd s.heap.objs.size 255).locals
          rw [hlo]
          exact Nat.ne_of_lt this
        · refine ⟨(S.nw p hp).1, (S.nw p hp).2.1, ?_⟩
          cases z : (hideAll s.heap [252]).get? p.1 with
          | none => rfl
          | some o =>
            have := (S.nw p hp).2.2
            have z' := of_hideAll _ z
            rw [this] at z'
            cases z'
      · rw [List.map_cons]
        refine List.nodup_cons.mpr ⟨fun hm => ?_, S.nd⟩
        obtain ⟨p, hp, e⟩ := List.mem_map.mp hm
        have h2 : s.heap.get? p.1 = none := (S.nw p hp).2.2
        have e' : p.1 = 252 := e
        rw [e', hP] at h2
        cases h2
    have hpart := law_a (prog := prog) (w := w) (A := A.deeper (callEnvC fd s.heap.objs.size 255)) (h0 := hideAll s.heap [252]) (L := s.heap.objs.size) (m := bindL (callEnvC fd s.heap.objs.size 255).kindOf [("script", .ref sa)] fun _ => none) hA.deeper hG (hid_Wd T hK) (fun c hc => hid_Mk T hK hP hc) (hideAll_get _ hs (by simpa using hsa)) hsv hsl
      (fun oc' od' osl' fd' e => by rw [ho] at e; cases e; exact Around.frames_deeper hfr) em d1 d2 d3 dT oc od osl fd body ho hb
    refine hpart _ _ _ (S'.perm (List.reverse_perm [(s.heap.objs.size + 1, o1), (s.heap.objs.size + 2, o2), (s.heap.objs.size + 3, o3), (s.heap.objs.size + 4, oT), (252, tabObj #[])])) (fun fl m' N' h'' tk' S'' ⟨e, ps, hm⟩ => ?_) fun e h tk x => x.elim
    subst e
    exact q h'' tk' ps (fun b o hb e => S''.fr.keep b o (hideAll_get _ e (by simpa using hb))) (S''.get hm)
theorem law_call {prog : Program} {w : World} {A : Around} {p : Program} {loose : List Str} {mean : ExcName → Option Value} {mg mb : Str → Option Value} {s : Shared} {R : Result → Shared → Prop} {sa : Addr} {svs : List Value} {sn : Nat} {scr : List Int}
    (hA : Lv A 8) (hG : A.guards = some []) (hfr : A.frames = some []) (T : Top p loose mean mg mb s.heap) (hK : (KK w).In s.heap) (hP : s.heap.get? 252 = some (tabObj #[])) (hs : s.heap.get? sa = some (lo svs sn)) (hsv : Lst fZ scr svs) (hsl : scr.length ≤ 100)
    (q : ∀ h' tk ps, (∀ b o, b ≠ 252 → s.heap.get? b = some o → h'.get? b = some o) → h'.get? 252 = some (tabObj ps) → R (.ok (.ret (.bool true))) { s with heap := h', toks := tk }) :
    codeC (model prog w) A (.call (.ref 255) ⟨[.ref sa], []⟩) R s :=
  law_intro rfl rfl rfl rfl rfl (fun L => rfl) rfl (fun L => rfl) (fun L => rfl) rfl rfl rfl hA hG hfr T hK hP hs hsv hsl q
end Mine
end

section
open PySem PySem.W PySem.Calls PyProof.Rows PySem.Spec
set_option Elab.async false
set_option linter.unusedVariables false
set_option maxRecDepth 1000000
namespace Mine
-- the top, run once by the kernel (with the library's quick twins of topRun, importEnds, treeTable, openSeen; wellSaid in parts)
theorem top_runs : LeftO pg seenP ["PostError"] (fun s => xlAt seenP [] s && recOk [] s) hookK.obs hookK.val 3440 := by
  intro w
  unfold openEnds fencedOpening topFrom
  rw [PySem.W.Fast.te14082659384304107361, PySem.W.Fast.te10274390034422433532, PySem.W.Fast.te14364793385576792824, PySem.W.Fast.te4187177175401517315]
  kernel_rfl
theorem well_said : PySem.Challenge.rw_nz0295_01.wellSaid = true := by
  rw [PySem.W.Fast.te9446332074065402090]
  unfold PySem.W.Fast.tw9446332074065402090 PySem.W.Fast.tw17960256430627541270 PySem.W.Fast.tw2436336058641802641 PySem.W.Fast.tw12908688711261696721
  repeat' (with_reducible refine look_both ?_ ?_)
  all_goals decide +kernel
end Mine
end

section
open PySem PySem.W PySem.Calls PyProof.Rows PySem.Spec PySem.SeqAt
set_option Elab.async false
set_option linter.unusedVariables false
set_option linter.unusedSimpArgs false
set_option linter.deprecated false
set_option maxRecDepth 100000
namespace Mine
theorem args_open {P : Params} {h : Heap} {args : List WData} {vals : List Value} (hpre : Challenge.rw_nz0295_01.row.toRowW.claim.pre args = true) (hwl : WellAll P h vals args) :
    ∃ sa svs scr, vals = [.ref sa] ∧ args = [.list (scr.map .int)] ∧ h.get? sa = some (lo svs 0) ∧ Lst fZ scr svs ∧ scr.length ≤ 63 := by
  obtain ⟨h1, h2⟩ := pre_splitW hpre
  have h1 : WShape.hasAll [] args [.list .int] = true := h1
  obtain ⟨d, r, rfl, hd, hr⟩ := hasAllW_cons h1
  obtain rfl := hasAllW_nil hr
  obtain ⟨xs, rfl, hx⟩ := hasW_list hd
  obtain ⟨v, vs', rfl, hv, hvs⟩ := wellAll_cons_inv hwl
  cases hvs
  cases hv with
  | @list a vs _ hg hw =>
    obtain ⟨scr, e1, rfl⟩ := lst_ints hw fun d hd => hasW_int (hasItemsW_at hx d hd)
    refine ⟨a, vs, scr, rfl, rfl, hg, e1, ?_⟩
    have h3 := (holds_andW h2).1
    w_nolog (have hc := condW_of h3 (by wtm_val))
    simp at hc
    omega
theorem n_law (w : World) : nsIn (KK w) mainGlobals "law" = some (some (.ref 255)) := rfl
theorem law_hd (w : World) : codeHdIn (KK w) 254 252 = true := rfl
theorem law_top {w : World} {s₀ s₁ : Shared} {mg mb : Str → Option Value} {q : Program} {loose : List Str} {XP : (Str → Option Value) → Heap → Prop} (G : Ground q loose [] XP w s₀ mg mb s₁.heap) (hK : (KK w).In s₁.heap) (hP : s₁.heap.get? 252 = some (tabObj #[]))
    {args : List WData} {vals : List Value} (hpre : Challenge.rw_nz0295_01.row.toRowW.claim.pre args = true) (hwl : WellAll w.params s₁.heap vals args) (E : Value → Shared → Prop) :
    wpC (model pg w) callerA (call (.ref 255) vals) (fun v s' => v = .bool true ∧ OldK s₁.heap s'.heap ∧ s'.os = s₁.os ∧ s'.gens = s₁.gens) E s₁ := by
  obtain ⟨sa, svs, scr, rfl, rfl, hget, hl, hlen⟩ := args_open hpre hwl
  refine wpC_call (law_call (A := callerA) ⟨rfl, by decide, by decide⟩ rfl rfl G.T hK hP hget hl (by omega) fun h' tk ps k1 k2 => ?_)
  refine ⟨rfl, ⟨fun b o e => ?_, fun b o e => ?_⟩, rfl, rfl⟩
  · by_cases hb : b = 252
    · subst hb
      rw [hP] at e
      cases e
      obtain ⟨oc, vs, _, _, _, _, _, _, _, e1, e2, e3, e4, _⟩ := codeHd_of_K hK (law_hd w)
      exact .inr (.inl ⟨⟨254, oc, vs, e1, e2, e3, e4⟩, rfl, #[], ps, rfl, by rw [k2]; simp⟩)
    · exact .inl (k1 b o hb e)
  · by_cases hb : b = 252
    · subst hb
      exact ⟨_, k2⟩
    · exact ⟨o, k1 b o hb e⟩
end Mine
end

open PySem PySem.W PySem.Calls PyProof.Rows PySem.Spec
set_option Elab.async false
set_option linter.unusedVariables false
set_option maxRecDepth 1000000
namespace Mine
theorem def_there : (defOf seenP "law").isSome = true := by kernel_rfl
theorem def_same : pg.theDef "law" = (defOf seenP "law").map fun x => (x.1.params, x.1.body, x.1.scope) := by kernel_rfl
theorem def_kw : ((defOf seenP "law").map fun x => kwWritten? x.1.params.kwonlyargs x.1.params.kw_defaults) = (defOf seenP "law").map fun x => some x.2 := by kernel_rfl
theorem law_ok : (chainsOk seenP && opensWell pg && (frees PySem.Challenge.rw_nz0295_01.row.toRowW && PySem.Challenge.rw_nz0295_01.row.toRowW.within.isEmpty)) = true := by kernel_rfl
theorem law_promised : PySem.Challenge.rw_nz0295_01.row.toRowW.promised := by w_witness2
/-- the law called on any argument, from where the top has come through -/
theorem law_from {w : World} {s : Shared} {mg mb : Str → Option Value} {free : Addr → Prop} {gens : Prop} {kept : Heap → Prop} (hz : s.asleep) (hg : s.gens = #[]) (hkept : ∀ h, kept h) (G : Ground seenP ["PostError"] [] (XL seenP []) w s mg mb s.heap) (Y : hookK.says w s.heap) :
    PySem.Challenge.rw_nz0295_01.row.toRowW.claim.CallFrom (callStub "law") w free gens kept s := by
  intro args hpre hlay ord hord
  obtain ⟨⟨vals, s₁⟩, hlaid⟩ := Option.isSome_iff_exists.mp (layAllW_isSome (P := w.params) (ord := ord) G.has args [.list .int] s (pre_splitW hpre).1)
  have hkeep := layAllW_keeps _ _ _ hlaid
  have hrest := layAllW_rest _ _ _ hlaid
  have hwell := well_layAllW hord args s _ hlaid s₁.heap fun _ _ e => e
  have G₁ := G.keeps XL.keeps hkeep
  have Y₁ := hookK.keeps w _ _ Y hkeep
  have hK : (KK w).In s₁.heap := km_in_of Y₁
  have hlaw : mg "law" = some (.ref 255) := mg_of hK G₁.T.g (n_law w)
  have run : wpC (model pg w) callerA (callStub "law" vals).cur (fun fin s' => fin = .done (.ret (.bool true)) ∧ OldK s₁.heap s'.heap ∧ s'.os = s₁.os ∧ s'.gens = s₁.gens) (fun _ _ => False) s₁ := by
    refine wpC_then (wpAny_nsGet G₁.T.g ?_)
    rw [hlaw]
    exact wpC_bind (wpC_mono (law_top G₁ hK (km_tabs_of Y₁ 252 (.head _)) hpre hwell fun _ _ => False) (fun v s' ⟨e, k⟩ => wpC_pure ⟨by rw [e], k⟩) fun _ _ x => x)
  have hgens : s₁.gens = #[] := hrest.1.trans hg
  obtain ⟨n, r, s₂, s₃, hs, hn, hfo, hr, hold, hos⟩ := wp_halts_full (M := model pg w) (p := default) (R := fun r s' => r = .ok (.ret (.bool true)) ∧ OldK s₁.heap s'.heap ∧ s'.os = s₁.os) (Shared.asleep_of_life hrest.2.2.2 hz)
    (Sem.wp_mono _ _ (callStub "law" vals).cur (fun fin p' s' ⟨e, k1, k2, k3⟩ => by
      rw [e]
      exact ⟨⟨rfl, k1, k2⟩, leftWithCleanup_false_of_bare (AllBare.of_eq (k3.trans hgens))⟩) (fun _ _ _ x => x.elim) default s₁ (run _ default caller_in clean_caller))
  subst hr
  obtain ⟨eh, _, _, eo, _⟩ := Shared.forget_eq hfo
  obtain ⟨bs, hargs, _, hlive⟩ := reads_layAllW hord _ _ _ hlaid hlay s₁.heap fun _ _ e => e
  have hlife : s₃.heap.life = s.heap.life := (runN_life _ _ _ hn).trans hrest.2.2.2
  refine ⟨vals, s₁, hlaid, n, .done (.ret (.bool true)), s₃, hs, .inl ⟨.bool true, rfl, fun _ => rfl, ⟨.bool true, args, [], bs, .bool true, ?_, ?_, fun _ => ⟨List.nodup_nil, (fun a h => nomatch h), (fun a h => nomatch h)⟩, fun _ _ => ?_⟩, (fun i h => nomatch h), fun b o e _ _ _ => ?_, (fun i h => nomatch h)⟩, fun _ i x h => ?_, hkept _, by rw [hlife], Shared.rest_eq ((eo.trans hos).trans hrest.2.2.1)⟩
  · rw [eh]
    exact hargs.keepsK fun b o e hc => hold.get_of_cls e hc
  · obtain ⟨sa, svs, scr, rfl, rfl, _⟩ := args_open hpre hwell
    wrow_post
  · exact ident_freeW rfl rfl rfl _ _
  · rw [eh]
    exact hold.old b o e
  · rw [hg] at h
    simp at h
theorem law_holds : PySem.Challenge.rw_nz0295_01.Holds := by
  refine holds_law well_said fun said => ⟨said, law_promised, ⟨⟨⟨rfl, rfl, rfl, rfl, rfl, by decide +kernel⟩, (Bool.and_eq_true_iff.mp (Bool.and_eq_true_iff.mp law_ok).1).2, rfl⟩, law_promised.witness, fun w => ?_⟩⟩
  have hch : chainsOk seenP = true := (Bool.and_eq_true_iff.mp (Bool.and_eq_true_iff.mp law_ok).1).1
  have B := top_runs.behind (XP := fun mg h => XL seenP [] mg h ∧ RecFacts [] h) (fun s e => ⟨xl_of s (Bool.and_eq_true_iff.mp e).1, recFacts_of (Bool.and_eq_true_iff.mp e).2⟩) hch w
  refine ⟨B.1, fun s' hs' => ?_⟩
  obtain ⟨s₀, hf, hg0, s, hT, hz, hgens, hg, G0, y⟩ := B.2 s' hs'
  have G : Ground seenP ["PostError"] [] (XL seenP []) w s (s.heap.nsMap mainGlobals) (s.heap.nsMap builtinsNs) s.heap := ⟨G0.T, G0.B, G0.D, G0.TE, G0.TD, G0.W, G0.X.1, G0.cls, G0.has, G0.apart, G0.once, G0.K⟩
  refine ⟨s₀, hf, hg0, s, hT, fun x hx => ?_, (fun x hx => nomatch hx), (fun x hx => nomatch hx), law_from hz (Array.eq_empty_of_size_eq_zero (beq_iff_eq.mp hgens)) (fun h q => Bool.noConfusion q) G (hookK.of w s y)⟩
  obtain ⟨⟨d, kwd⟩, hdef⟩ := Option.isSome_iff_exists.mp def_there
  have hp : pg.theDef "law" = some (d.params, d.body, d.scope) := by rw [def_same, hdef]; rfl
  have hk : kwWritten? d.params.kwonlyargs d.params.kw_defaults = some kwd := by
    have := def_kw
    rw [hdef] at this
    exact Option.some.inj this
  have hx : x ∈ [("law" : Str)] := hx
  rw [List.mem_singleton.mp hx]
  exact pinned_of_view hg G hdef hp hk
end Mine
theorem PySem.Challenge.cw_nz0295_01_holds : PySem.Challenge.rw_nz0295_01.Holds :=
  Mine.law_holds

