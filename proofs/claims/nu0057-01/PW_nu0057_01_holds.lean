import PyProof.Rows.All
import Wide.All
import OpenK.AllK
import Wide.FinOn
import Lean
import PySem.Challenge.RW_nu0057_01
open PySem PySem.W PyProof.Rows
set_option Elab.async false
set_option maxRecDepth 100000
set_option linter.all false
namespace Mine

section head
set_option maxHeartbeats 8000000
/-- the view of the text: what stands pinned: the law alone -/
def viewB : Program := { PySem.Challenge.rw_nu0057_01.row.prog with main := { PySem.Challenge.rw_nu0057_01.row.prog.main with body := PySem.Challenge.rw_nu0057_01.row.prog.main.body.drop 43 } }
def looseB : List Str := [Str.ofString "NAN", Str.ofString "ZERO", Str.ofString "SPACES", Str.ofString "DIGITS", Str.ofString "common_divisor", Str.ofString "sign_of", Str.ofString "number_of", Str.ofString "is_nan", Str.ofString "negated", Str.ofString "plus", Str.ofString "minus", Str.ofString "times", Str.ofString "divided", Str.ofString "cut_whole", Str.ofString "modulo", Str.ofString "order_of", Str.ofString "compared_numbers", Str.ofString "floor_of", Str.ofString "ceiling_of", Str.ofString "rounded", Str.ofString "digits_end", Str.ofString "trimmed", Str.ofString "whole_of", Str.ofString "read_number", Str.ofString "write_number", Str.ofString "_law_pool", Str.ofString "_law_take", Str.ofString "_law_one", Str.ofString "_law_number", Str.ofString "_law_kind", Str.ofString "_law_sign", Str.ofString "_law_same", Str.ofString "_law_sum", Str.ofString "_law_product", Str.ofString "_law_quotient", Str.ofString "_law_rest", Str.ofString "_law_less", Str.ofString "_law_compared_right", Str.ofString "_law_whole_right", Str.ofString "_law_written_right", Str.ofString "_law_read_right"]
theorem look_open : looksOpen PySem.Challenge.rw_nu0057_01.row.prog = true := by
  unfold looksOpen
  (repeat' (with_reducible refine look_both ?_ ?_)) <;> decide +kernel
theorem part_said : PySem.Challenge.rw_nu0057_01.row.partSaid = true := by
  unfold OpenRow.partSaid
  (repeat' (first | with_reducible exact look_open | with_reducible refine look_both ?_ ?_)) <;> decide +kernel
theorem row_ok : PySem.Challenge.rw_nu0057_01.row.wellSaid = true := by
  unfold OpenRow.wellSaid
  (repeat' (first | with_reducible exact part_said | with_reducible refine look_both ?_ ?_)) <;> decide +kernel
theorem law_said : PySem.Challenge.rw_nu0057_01.wellSaid = true := by
  unfold OpenLaw.wellSaid
  (repeat' (first | with_reducible exact row_ok | with_reducible refine look_both ?_ ?_)) <;> decide +kernel
theorem view_ok : (chainsOk viewB && opensWell PySem.Challenge.rw_nu0057_01.row.prog && (frees PySem.Challenge.rw_nu0057_01.row.toRowW && PySem.Challenge.rw_nu0057_01.row.within.isEmpty)) = true := by
  (repeat' (with_reducible refine look_both ?_ ?_)) <;> decide +kernel
local macro_rules | `(tactic| o_law) => `(tactic| refine holds_law law_said fun said => ?_)
local macro_rules | `(tactic| o_head $H) => `(tactic| (
  refine PySem.W.holds_open (q := viewB) (loose := looseB) (Xt := fun s => xlAt viewB [] s && recOk (RowW.records PySem.Challenge.rw_nu0057_01.row.toRowW) s) (XP := XL viewB []) (Yf := Hook.obs $H) (Ya := Hook.val $H) (YP := Hook.says $H) (N := 2624) ?hl (Hook.of $H) (Hook.keeps $H) (fun s e => xl_of s (Bool.and_eq_true_iff.mp e).1) XL.keeps (by rfl) (by rfl) (by rfl) (fun s e => recFacts_of (Bool.and_eq_true_iff.mp e).2) (by rfl) row_ok view_ok ⟨rfl, rfl, rfl, rfl, rfl, by decide +kernel⟩ ?hw ?hc
  (case hl => (intro w; kernel_rfl))))
open_top hd for PySem.Challenge.rw_nu0057_01
end head

/-- abstract values -/
inductive V where
  | none
  | bool (b : Bool)
  | int (i : Int)
  | str (x : Str)
  | tup (l : List V)
  | lst (l : List V)
  | loc (a : Addr)
  | rng (n : Nat)
  | dict (w : World) (ks : List Str) (vs : List V)

mutual
def Rep (mu : Addr → Prop) (h : Heap) : V → Value → Prop
  | .none, v => v = .none
  | .bool b, v => v = .bool b
  | .int i, v => ∃ t, v = .int i t
  | .str x, v => ∃ t, v = .str x t
  | .tup l, v => ∃ a items, v = .ref a ∧ ¬ mu a ∧ h.IsTuple a items ∧ RepL mu h l items.toList
  | .lst l, v => ∃ a items, v = .ref a ∧ ¬ mu a ∧ h.IsList a items ∧ RepL mu h l items.toList
  | .loc a, v => v = .ref a
  | .rng n, v => ∃ a t u r, v = .ref a ∧ ¬ mu a ∧ IsRange h a 0 n 1 t u r
  | .dict w ks vs, v => ∃ a kvs, v = .ref a ∧ ¬ mu a ∧ (a == sysModules) = false ∧ h.DictOf (PySem.strKind PySem.Challenge.rw_nu0057_01.row.prog w) a kvs ∧ kvs.map (·.1) = ks ∧ RepL mu h vs (kvs.map (·.2))
def RepL (mu : Addr → Prop) (h : Heap) : List V → List Value → Prop
  | [], vs => vs = []
  | d :: l, vs => ∃ v r, vs = v :: r ∧ Rep mu h d v ∧ RepL mu h l r
end

/-- what is not marked stays, and stays unmarked -/
def Stp (mu mu' : Addr → Prop) (h h' : Heap) : Prop := ∀ b o, h.get? b = some o → ¬ mu b → h'.get? b = some o ∧ ¬ mu' b

mutual
theorem Rep.mono {mu mu' : Addr → Prop} {h h' : Heap} (st : Stp mu mu' h h') : ∀ {d : V} {v : Value}, Rep mu h d v → Rep mu' h' d v
  | .none, _, x => x
  | .bool _, _, x => x
  | .int _, _, x => x
  | .str _, _, x => x
  | .loc _, _, x => x
  | .tup l, _, x => by
    simp only [Rep] at x ⊢
    obtain ⟨a, items, e, hn, ⟨o, ho, r⟩, hl⟩ := x
    exact ⟨a, items, e, (st a o ho hn).2, ⟨o, (st a o ho hn).1, r⟩, RepL.mono st hl⟩
  | .lst l, _, x => by
    simp only [Rep] at x ⊢
    obtain ⟨a, items, e, hn, ⟨o, ho, r⟩, hl⟩ := x
    exact ⟨a, items, e, (st a o ho hn).2, ⟨o, (st a o ho hn).1, r⟩, RepL.mono st hl⟩
  | .rng n, _, x => by
    simp only [Rep] at x ⊢
    obtain ⟨a, t, u, r, e, hn, ho⟩ := x
    exact ⟨a, t, u, r, e, (st a _ ho hn).2, (st a _ ho hn).1⟩
  | .dict w ks vs, _, x => by
    simp only [Rep] at x ⊢
    obtain ⟨a, kvs, e, hn, hs, ⟨o, es, ep, ho, r⟩, hk, hl⟩ := x
    exact ⟨a, kvs, e, (st a o ho hn).2, hs, ⟨o, es, ep, (st a o ho hn).1, r⟩, hk, RepL.mono st hl⟩
theorem RepL.mono {mu mu' : Addr → Prop} {h h' : Heap} (st : Stp mu mu' h h') : ∀ {l : List V} {vs : List Value}, RepL mu h l vs → RepL mu' h' l vs
  | [], _, x => x
  | d :: l, _, x => by
    simp only [RepL] at x ⊢
    obtain ⟨v, r, e, hv, hr⟩ := x
    exact ⟨v, r, e, Rep.mono st hv, RepL.mono st hr⟩
end

theorem RepL.length {mu : Addr → Prop} {h : Heap} : ∀ {l : List V} {vs : List Value}, RepL mu h l vs → vs.length = l.length
  | [], _, x => by simp only [RepL] at x; simp [x]
  | d :: l, _, x => by
    simp only [RepL] at x
    obtain ⟨v, r, e, hv, hr⟩ := x
    simp [e, RepL.length hr]

theorem RepL.get {mu : Addr → Prop} {h : Heap} : ∀ {l : List V} {vs : List Value} {i : Nat} {d : V}, RepL mu h l vs → l[i]? = some d → ∃ v, vs[i]? = some v ∧ Rep mu h d v
  | [], _, _, _, _, e => by simp at e
  | d :: l, _, 0, d', x, e => by
    simp only [RepL] at x
    obtain ⟨v, r, rfl, hv, hr⟩ := x
    simp at e; subst e
    exact ⟨v, by simp, hv⟩
  | d :: l, _, i + 1, d', x, e => by
    simp only [RepL] at x
    obtain ⟨v, r, rfl, hv, hr⟩ := x
    simp at e
    obtain ⟨v', e', hv'⟩ := RepL.get hr e
    exact ⟨v', by simpa using e', hv'⟩

theorem RepL.append {mu : Addr → Prop} {h : Heap} : ∀ {l l' : List V} {vs vs' : List Value}, RepL mu h l vs → RepL mu h l' vs' → RepL mu h (l ++ l') (vs ++ vs')
  | [], _, _, _, x, y => by simp only [RepL] at x; subst x; simpa using y
  | d :: l, _, _, _, x, y => by
    simp only [RepL] at x
    obtain ⟨v, r, rfl, hv, hr⟩ := x
    simp only [List.cons_append, RepL]
    exact ⟨v, _, rfl, hv, RepL.append hr y⟩

/-- a marked place: the list of two, or a cell -/
def IsSt (h : Heap) (a : Addr) (items : Array Value) : Prop :=
  ∃ o, h.get? a = some o ∧ ((items.size = 2 ∧ o.cls = .type "list" ∧ ∃ n, o.data = .seq items n) ∨ (∃ v, items = #[v] ∧ o.data = .cell (some v)) ∨ (items = #[] ∧ o.data = .cell none))
/-- the marked places of the call -/
def Stor (mu : Addr → Prop) (h : Heap) : List (Addr × List V) → Prop
  | [] => True
  | (a, l) :: r => mu a ∧ (∀ p ∈ r, p.1 ≠ a) ∧ (∃ items, IsSt h a items ∧ RepL mu h l items.toList) ∧ Stor mu h r

/-- the heap below the law's call -/
structure Wd (w : World) (B : Heap) : Prop where
  X : (hd.heap_1 w.params).In B
  T : ∃ mean mg mb, Top viewB (looseW viewB looseB) mean mg mb B

/-- a call's fixed parts -/
structure Fx where
  A : Around
  env : Env
  L : Addr
  B : Heap
  hin : Heap
  nu : List Addr
  s0 : Shared
  n : Nat
  mu0 : Addr → Prop
  pin : List (Addr × Obj)

structure FxOk (w : World) (names : List (Str × NameKind)) (Φ : Fx) : Prop where
  wd : Wd w Φ.B
  handled : Φ.A.handled = none
  depth : Φ.A.depth + Φ.n < recursionLimit
  units : Φ.A.units + 8 * Φ.n + 80 < cLine
  hL : Φ.hin.get? Φ.L = none
  hB : Φ.B.StaysIn Φ.hin
  locals : Φ.env.locals = Φ.L
  globals : Φ.env.globals = mainGlobals
  builtins : Φ.env.builtins = builtinsNs
  kind : Φ.env.scope.kind = .function
  kinds : ∀ x, Φ.env.kindOf x = names.lookup x
  nodebug : names.lookup (Str.ofString "__debug__") = none
theorem FxOk.nd {w : World} {names : List (Str × NameKind)} {Φ : Fx} {x : Str} {k : NameKind} (ok : FxOk w names Φ) (h : names.lookup x = some k) : (x == ("__debug__" : Str)) = false := by
  cases e : (x == ("__debug__" : Str)) with
  | false => rfl
  | true => rw [eq_of_beq e] at h; rw [show names.lookup ("__debug__" : Str) = none from ok.nodebug] at h; cases h

/-- abstract state -/
structure AS where
  mu : Addr → Prop
  rho : List (Str × V)
  sig : List (Addr × List V)

structure Sat (Φ : Fx) (S : AS) (h : Heap) : Prop where
  keepB : Φ.B.StaysIn h
  keepIn : ∀ b o, Φ.hin.get? b = some o → b ∉ Φ.nu → h.get? b = some o
  muB : ∀ b o, Φ.B.get? b = some o → ¬ S.mu b
  muLive : ∀ b, S.mu b → ∃ o, h.get? b = some o
  sup : ∀ b, Φ.mu0 b → S.mu b
  muL : S.mu Φ.L
  locals : ∃ m, h.Ns Φ.L m ∧ ∀ x d, S.rho.lookup x = some d → ∃ v, m x = some v ∧ Rep S.mu h d v
  store : Stor S.mu h S.sig
  offL : ∀ p ∈ S.sig, p.1 ≠ Φ.L
  may : ∀ p ∈ S.sig, p.1 ∈ Φ.nu ∨ Φ.hin.get? p.1 = none
  pins : ∀ p ∈ Φ.pin, h.get? p.1 = some p.2 ∧ S.mu p.1 ∧ p.1 ≠ Φ.L ∧ ∀ q ∈ S.sig, q.1 ≠ p.1

structure SatS (Φ : Fx) (S : AS) (s : Shared) : Prop where
  sat : Sat Φ S s.heap
  gens : s.gens = Φ.s0.gens
  os : s.os = Φ.s0.os

abbrev noE : Value → Shared → Prop := fun _ _ => False
abbrev Mod (w : World) : Model := model PySem.Challenge.rw_nu0057_01.row.prog w

def EX (w : World) (Φ : Fx) (e : PySem.Expr) (S : AS) (Q : V → List (Addr × List V) → Prop) : Prop :=
  ∀ s, SatS Φ S s → wpAny (Mod w) Φ.A (eval e Φ.env) (fun v s' => ∃ d g, Rep S.mu s'.heap d v ∧ SatS Φ ⟨S.mu, S.rho, g⟩ s' ∧ Stp S.mu S.mu s.heap s'.heap ∧ Q d g) noE s

/-- a test -/
def IT (w : World) (Φ : Fx) (e : PySem.Expr) (S : AS) (Q : Bool → List (Addr × List V) → Prop) : Prop :=
  ∀ s, SatS Φ S s → wpAny (Mod w) Φ.A (PySem.isTrue e Φ.env (eval e Φ.env)) (fun b s' => ∃ g, SatS Φ ⟨S.mu, S.rho, g⟩ s' ∧ Stp S.mu S.mu s.heap s'.heap ∧ Q b g) noE s

def AT (w : World) (Φ : Fx) (op : BoolOp) (es : List PySem.Expr) (S : AS) (Q : Bool → List (Addr × List V) → Prop) : Prop :=
  ∀ s, SatS Φ S s → wpAny (Mod w) Φ.A (allTrue op es Φ.env) (fun b s' => ∃ g, SatS Φ ⟨S.mu, S.rho, g⟩ s' ∧ Stp S.mu S.mu s.heap s'.heap ∧ Q b g) noE s

/-- arguments, items of a display -/
def SP (w : World) (Φ : Fx) (pos : Pos) (es : List PySem.Expr) (S : AS) (Q : List V → List (Addr × List V) → Prop) : Prop :=
  ∀ s, SatS Φ S s → wpAny (Mod w) Φ.A (spliced (backTo pos (starEach es Φ.env))) (fun vs s' => ∃ l g, RepL S.mu s'.heap l vs ∧ SatS Φ ⟨S.mu, S.rho, g⟩ s' ∧ Stp S.mu S.mu s.heap s'.heap ∧ Q l g) noE s

inductive Fl where
  | next | brk | cont | ret (d : V)
def FlRep (mu : Addr → Prop) (h : Heap) : Fl → Flow → Prop
  | .next, f => f = .next
  | .brk, f => f = .brk
  | .cont, f => f = .cont
  | .ret d, f => ∃ v, f = .ret v ∧ Rep mu h d v

def SX (w : World) (Φ : Fx) (st : Stmt) (S : AS) (Q : Fl → AS → Prop) : Prop :=
  ∀ s, SatS Φ S s → wpAny (Mod w) Φ.A (exec st Φ.env) (fun f s' => ∃ fd S', FlRep S'.mu s'.heap fd f ∧ SatS Φ S' s' ∧ Stp S.mu S'.mu s.heap s'.heap ∧ Q fd S') noE s
def SS (w : World) (Φ : Fx) (b : List Stmt) (S : AS) (Q : Fl → AS → Prop) : Prop :=
  ∀ s, SatS Φ S s → wpAny (Mod w) Φ.A (execs b Φ.env) (fun f s' => ∃ fd S', FlRep S'.mu s'.heap fd f ∧ SatS Φ S' s' ∧ Stp S.mu S'.mu s.heap s'.heap ∧ Q fd S') noE s

/-- a function's contract: n is the depth it wants -/
def Fn (w : World) (B : Heap) (f : Addr) (n : Nat) (args : List V) (sig : List (Addr × List V)) (Q : V → List (Addr × List V) → Prop) : Prop :=
  ∀ (A : Around) (mu : Addr → Prop) (s : Shared) (vals : List Value), A.handled = none → A.depth + n < recursionLimit → A.units + 8 * n + 80 < cLine →
    B.StaysIn s.heap → (∀ b o, B.get? b = some o → ¬ mu b) → (∀ b, mu b → ∃ o, s.heap.get? b = some o) → RepL mu s.heap args vals → Stor mu s.heap sig →
    codeAny (Mod w) A (.call (.ref f) ⟨vals, []⟩) (fun r s' => ∃ v d g, r = .ok (.ret v) ∧ s'.gens = s.gens ∧ s'.os = s.os ∧ Rep mu s'.heap d v ∧ Stor mu s'.heap g ∧
      g.map (·.1) = sig.map (·.1) ∧ (∀ b o, s.heap.get? b = some o → b ∉ sig.map (·.1) → s'.heap.get? b = some o) ∧ Q d g) s

/-- nothing is lost -/
structure Gr (s s' : Shared) : Prop where
  keep : ∀ b o, s.heap.get? b = some o → s'.heap.get? b = some o
  gens : s'.gens = s.gens
  os : s'.os = s.os
theorem Gr.rfl' {s : Shared} : Gr s s := ⟨fun _ _ e => e, rfl, rfl⟩
theorem Gr.tok {s : Shared} {n : Nat} : Gr s { s with toks := n } := ⟨fun _ _ e => e, rfl, rfl⟩
theorem Gr.trans {s s' s'' : Shared} (a : Gr s s') (b : Gr s' s'') : Gr s s'' := ⟨fun x o e => b.keep x o (a.keep x o e), b.gens.trans a.gens, b.os.trans a.os⟩
theorem Gr.push {s : Shared} {o : Obj} : Gr s { s with heap := s.heap.push o } := ⟨fun _ _ e => Heap.get?_push_of_some _ e, rfl, rfl⟩
theorem Gr.stp {s s' : Shared} (x : Gr s s') (mu : Addr → Prop) : Stp mu mu s.heap s'.heap := fun b o e n => ⟨x.keep b o e, n⟩
theorem Stp.rfl' {mu : Addr → Prop} {h : Heap} : Stp mu mu h h := fun _ _ e n => ⟨e, n⟩
theorem Stp.trans {mu mu' mu'' : Addr → Prop} {h h' h'' : Heap} (a : Stp mu mu' h h') (b : Stp mu' mu'' h' h'') : Stp mu mu'' h h'' :=
  fun x o e n => b x o (a x o e n).1 (a x o e n).2

theorem Stor.step {mu mu' : Addr → Prop} {h h' : Heap} (st : Stp mu mu' h h') : ∀ {g : List (Addr × List V)}, (∀ p ∈ g, ∀ o, h.get? p.1 = some o → h'.get? p.1 = some o) → (∀ p ∈ g, mu' p.1) → Stor mu h g → Stor mu' h' g
  | [], _, _, _ => trivial
  | (a, l) :: r, hk, hm, ⟨_, h2, ⟨items, ⟨o, ho, hr⟩, hl⟩, h4⟩ =>
    ⟨hm (a, l) (.head _), h2, ⟨items, ⟨o, hk (a, l) (.head _) o ho, hr⟩, hl.mono st⟩, Stor.step st (fun p hp => hk p (.tail _ hp)) (fun p hp => hm p (.tail _ hp)) h4⟩
theorem Stor.mu {mu : Addr → Prop} {h : Heap} : ∀ {g : List (Addr × List V)}, Stor mu h g → ∀ p ∈ g, mu p.1
  | (a, l) :: r, x, p, hp => by
    rcases List.mem_cons.mp hp with rfl | hp
    · exact x.1
    · exact Stor.mu x.2.2.2 p hp
theorem Stor.live {mu : Addr → Prop} {h : Heap} : ∀ {g : List (Addr × List V)}, Stor mu h g → ∀ p ∈ g, ∃ o, h.get? p.1 = some o
  | (a, l) :: r, x, p, hp => by
    rcases List.mem_cons.mp hp with rfl | hp
    · obtain ⟨_, _, ⟨items, ⟨o, ho, _⟩, _⟩, _⟩ := x; exact ⟨o, ho⟩
    · exact Stor.live x.2.2.2 p hp

theorem Sat.gr {Φ : Fx} {S : AS} {h h' : Heap} (x : Sat Φ S h) (k : ∀ b o, h.get? b = some o → h'.get? b = some o) : Sat Φ S h' where
  keepB b o e := k b o (x.keepB b o e)
  keepIn b o e n := k b o (x.keepIn b o e n)
  muB := x.muB
  muLive b hb := let ⟨o, e⟩ := x.muLive b hb; ⟨o, k b o e⟩
  sup := x.sup
  muL := x.muL
  locals := by
    obtain ⟨m, hn, hm⟩ := x.locals
    refine ⟨m, hn.keeps k, fun y d e => ?_⟩
    obtain ⟨v, hv, hr⟩ := hm y d e
    exact ⟨v, hv, hr.mono fun b o e n => ⟨k b o e, n⟩⟩
  store := x.store.step (fun b o e n => ⟨k b o e, n⟩) (fun p _ o e => k _ _ e) x.store.mu
  offL := x.offL
  may := x.may
  pins p hp := let ⟨a, b, c, d⟩ := x.pins p hp; ⟨k _ _ a, b, c, d⟩
theorem SatS.gr {Φ : Fx} {S : AS} {s s' : Shared} (x : SatS Φ S s) (g : Gr s s') : SatS Φ S s' := ⟨x.sat.gr g.keep, g.gens.trans x.gens, g.os.trans x.os⟩

section reps
variable {mu : Addr → Prop} {h : Heap}
theorem Rep.none' : Rep mu h .none .none := by simp only [Rep]
theorem Rep.bool' {b : Bool} : Rep mu h (.bool b) (.bool b) := by simp only [Rep]
theorem Rep.int' {i : Int} {t : Tok} : Rep mu h (.int i) (.int i t) := by simp only [Rep]; exact ⟨_, rfl⟩
theorem Rep.str' {x : Str} {t : Tok} : Rep mu h (.str x) (.str x t) := by simp only [Rep]; exact ⟨_, rfl⟩
theorem Rep.tup' {a : Addr} {l : List V} {vs : List Value} (n : ¬ mu a) (ht : h.IsTuple a vs.toArray) (hl : RepL mu h l vs) : Rep mu h (.tup l) (.ref a) := by
  simp only [Rep]; exact ⟨a, vs.toArray, rfl, n, ht, by simpa using hl⟩
theorem Rep.lst' {a : Addr} {l : List V} {vs : List Value} (n : ¬ mu a) (ht : h.IsList a vs.toArray) (hl : RepL mu h l vs) : Rep mu h (.lst l) (.ref a) := by
  simp only [Rep]; exact ⟨a, vs.toArray, rfl, n, ht, by simpa using hl⟩
theorem Rep.boolE {b : Bool} {v : Value} (x : Rep mu h (.bool b) v) : v = .bool b := by simpa only [Rep] using x
theorem Rep.intE {i : Int} {v : Value} (x : Rep mu h (.int i) v) : ∃ t, v = .int i t := by simpa only [Rep] using x
theorem Rep.strE {y : Str} {v : Value} (x : Rep mu h (.str y) v) : ∃ t, v = .str y t := by simpa only [Rep] using x
theorem Rep.tupE {l : List V} {v : Value} (x : Rep mu h (.tup l) v) : ∃ a items, v = .ref a ∧ ¬ mu a ∧ h.IsTuple a items ∧ RepL mu h l items.toList := by simpa only [Rep] using x
theorem Rep.lstE {l : List V} {v : Value} (x : Rep mu h (.lst l) v) : ∃ a items, v = .ref a ∧ ¬ mu a ∧ h.IsList a items ∧ RepL mu h l items.toList := by simpa only [Rep] using x
theorem Rep.locE {a : Addr} {v : Value} (x : Rep mu h (.loc a) v) : v = .ref a := by simpa only [Rep] using x
theorem RepL.nil' : RepL mu h [] [] := by simp only [RepL]
theorem RepL.cons' {d : V} {l : List V} {v : Value} {vs : List Value} (a : Rep mu h d v) (b : RepL mu h l vs) : RepL mu h (d :: l) (v :: vs) := by
  simp only [RepL]; exact ⟨v, vs, rfl, a, b⟩
theorem RepL.consE {d : V} {l : List V} {vs : List Value} (x : RepL mu h (d :: l) vs) : ∃ v r, vs = v :: r ∧ Rep mu h d v ∧ RepL mu h l r := by simpa only [RepL] using x
theorem RepL.nilE {vs : List Value} (x : RepL mu h [] vs) : vs = [] := by simpa only [RepL] using x
end reps

section rules
variable {w : World} {Φ : Fx} {names : List (Str × NameKind)} {mu : Addr → Prop} {ρ : List (Str × V)} {g : List (Addr × List V)} {pos : Pos}

theorem EX.mono {e : PySem.Expr} {S : AS} {Q Q' : V → List (Addr × List V) → Prop} (h : EX w Φ e S Q) (k : ∀ d g, Q d g → Q' d g) : EX w Φ e S Q' :=
  fun s hs => wpAny_mono (h s hs) (fun _ _ ⟨d, g, a, b, c, q⟩ => ⟨d, g, a, b, c, k d g q⟩) fun _ _ x => x

section leaves
variable {Q : V → List (Addr × List V) → Prop}
theorem EX_int {i : Int} {k : Nat} (h : Q (.int i) g) : EX w Φ (.Constant (.int i) k pos) ⟨mu, ρ, g⟩ Q :=
  fun s hs => wpAny_Constant_int ⟨.int i, g, Rep.int', hs.gr .tok, Gr.tok.stp _, h⟩
theorem EX_str {x : Str} {k : Nat} (h : Q (.str x) g) : EX w Φ (.Constant (.str x) k pos) ⟨mu, ρ, g⟩ Q :=
  fun s hs => wpAny_Constant_str ⟨.str x, g, Rep.str', hs.gr .tok, Gr.tok.stp _, h⟩
theorem EX_bool {b : Bool} {k : Nat} (h : Q (.bool b) g) : EX w Φ (.Constant (.bool b) k pos) ⟨mu, ρ, g⟩ Q :=
  fun s hs => wpAny_Constant_bool ⟨.bool b, g, Rep.bool', hs, Stp.rfl', h⟩
theorem EX_loc {x : Str} {d : V} (ok : FxOk w names Φ) (hr : ρ.lookup x = some d) (h : Q d g) (hl : names.lookup x = some .local := by rfl) : EX w Φ (.Name x pos) ⟨mu, ρ, g⟩ Q := by
  intro s hs
  obtain ⟨m, hn, hm⟩ := hs.sat.locals
  obtain ⟨v, hv, rv⟩ := hm x d hr
  exact wpAny_Name (wpAny_loadName_local ok.kind ((ok.kinds x).trans hl) (ok.locals ▸ hn) hv ⟨d, g, rv, hs, Stp.rfl', h⟩) (ok.nd hl)

theorem EX_glob {x : Str} {d : V} {v : Value} (ok : FxOk w names Φ) (he : nsIn (hd.heap_1 w.params) mainGlobals x = some (some v))
    (hr : ∀ mu h, (∀ b o, (hd.heap_1 w.params).lookup b = some o → h.get? b = some o ∧ ¬ mu b) → Rep mu h d v) (h : Q d g) (hl : names.lookup x = some .globalImplicit := by rfl) : EX w Φ (.Name x pos) ⟨mu, ρ, g⟩ Q := by
  intro s hs
  obtain ⟨mean, mg, mb, T⟩ := ok.wd.T
  refine Calls.Name_function_global ok.kind ((ok.kinds x).trans hl) (Calls.loadGlobal_global (mg := mg) ?_ (mg_of ok.wd.X T.g he) ⟨d, g, ?_, hs, Stp.rfl', h⟩) (ok.nd hl)
  · rw [ok.globals]; exact T.g.keeps hs.sat.keepB
  · exact hr _ _ fun b o e => ⟨hs.sat.keepB _ _ (ok.wd.X _ _ e), hs.sat.muB _ _ (ok.wd.X _ _ e)⟩
end leaves

theorem SP_nil {Q : List V → List (Addr × List V) → Prop} (h : Q [] g) : SP w Φ pos [] ⟨mu, ρ, g⟩ Q :=
  fun s hs => Calls.spliced_nil ⟨[], g, RepL.nil', hs, Stp.rfl', h⟩
theorem SP_cons {e : PySem.Expr} {es : List PySem.Expr} {Q : List V → List (Addr × List V) → Prop}
    (h : EX w Φ e ⟨mu, ρ, g⟩ fun d g1 => SP w Φ pos es ⟨mu, ρ, g1⟩ fun l g2 => Q (d :: l) g2)
    (hs : starEach (e :: es) Φ.env = (false, eval e Φ.env) :: starEach es Φ.env := by rfl) : SP w Φ pos (e :: es) ⟨mu, ρ, g⟩ Q := by
  intro s hs0
  rw [hs]
  show wpAny _ _ (spliced ((false, eval e Φ.env) :: backTo pos (starEach es Φ.env))) _ _ _
  refine Calls.spliced_cons (wpAny_mono (h s hs0) (fun v s1 => ?_) fun _ _ x => x)
  rintro ⟨d, g1, hr, hs1, st1, h1⟩
  refine wpAny_mono (h1 s1 hs1) (fun vs s2 => ?_) fun _ _ x => x
  rintro ⟨l, g2, hl, hs2, st2, h2⟩
  exact ⟨d :: l, g2, RepL.cons' (hr.mono st2) hl, hs2, st1.trans st2, h2⟩

def Lim (l : List V) (P : Prop) : Prop := l.length ≤ 1000 ∧ P
theorem Lim_i {l : List V} {P : Prop} (h : P) (hl : l.length ≤ 1000) : Lim l P := ⟨hl, h⟩
theorem EX_tup {es : List PySem.Expr} {k : Nat} {Q : V → List (Addr × List V) → Prop} (h : SP w Φ pos es ⟨mu, ρ, g⟩ fun l g1 => Lim l (Q (.tup l) g1)) : EX w Φ (.Tuple es k pos) ⟨mu, ρ, g⟩ Q := by
  intro s hs
  refine wpAny_Tuple (wpAny_mono (h s hs) (fun vs s1 => ?_) fun _ _ x => x)
  rintro ⟨l, g1, hl, hs1, st1, hn, hq⟩
  have hlen : vs.length ≤ sizeLine := by rw [hl.length, sizeLine_eq]; omega
  refine ⟨hlen, .tup l, g1, Rep.tup' (vs := vs) (fun hm => ?_) ⟨_, Heap.get?_push_size _ rfl, rfl, 0, rfl⟩ (hl.mono (Gr.push.stp _)), hs1.gr .push, st1.trans (Gr.push.stp _), hq⟩
  obtain ⟨o, e⟩ := hs1.sat.muLive _ hm
  exact Nat.lt_irrefl _ (Heap.lt_size e)
theorem EX_lst {es : List PySem.Expr} {Q : V → List (Addr × List V) → Prop} (h : SP w Φ pos es ⟨mu, ρ, g⟩ fun l g1 => Lim l (Q (.lst l) g1)) : EX w Φ (.List es pos) ⟨mu, ρ, g⟩ Q := by
  intro s hs
  refine wpAny_List (wpAny_mono (h s hs) (fun vs s1 => ?_) fun _ _ x => x)
  rintro ⟨l, g1, hl, hs1, st1, hn, hq⟩
  have hlen : vs.length ≤ sizeLine := by rw [hl.length, sizeLine_eq]; omega
  refine ⟨hlen, .lst l, g1, Rep.lst' (vs := vs) (fun hm => ?_) ⟨_, Heap.get?_push_size _ rfl, rfl, 0, rfl⟩ (hl.mono (Gr.push.stp _)), hs1.gr .push, st1.trans (Gr.push.stp _), hq⟩
  obtain ⟨o, e⟩ := hs1.sat.muLive _ hm
  exact Nat.lt_irrefl _ (Heap.lt_size e)

/-- operations -/
def BinOk (w : World) (A : Around) (op : Operator) (a b : V) (P : V → Prop) : Prop :=
  ∀ (mu : Addr → Prop) (s : Shared) (va vb : Value), (∀ b, mu b → ∃ o, s.heap.get? b = some o) → Rep mu s.heap a va → Rep mu s.heap b vb →
    wpAny (Mod w) A (binaryOp op va vb) (fun v s' => ∃ d, Rep mu s'.heap d v ∧ Gr s s' ∧ P d) noE s

theorem EX_bin {l r : PySem.Expr} {op : Operator} {Q : V → List (Addr × List V) → Prop}
    (h : EX w Φ l ⟨mu, ρ, g⟩ fun a g1 => EX w Φ r ⟨mu, ρ, g1⟩ fun b g2 => BinOk w Φ.A op a b fun d => Q d g2) : EX w Φ (.BinOp l op r pos) ⟨mu, ρ, g⟩ Q := by
  intro s hs
  refine wpAny_BinOp (wpAny_mono (h s hs) (fun va s1 => ?_) fun _ _ x => x)
  rintro ⟨a, g1, ra, hs1, st1, h1⟩
  refine wpAny_mono (h1 s1 hs1) (fun vb s2 => ?_) fun _ _ x => x
  rintro ⟨b, g2, rb, hs2, st2, h2⟩
  refine wpAny_mono (h2 mu s2 va vb hs2.sat.muLive (ra.mono st2) rb) (fun v s3 => ?_) fun _ _ x => x
  rintro ⟨d, rd, gr, hq⟩
  exact ⟨d, g2, rd, hs2.gr gr, st1.trans (st2.trans (gr.stp _)), hq⟩

section binops
variable {A : Around} {i j : Int} {P : V → Prop}
theorem Bin_add (h : P (.int (i + j))) : BinOk w A .Add (.int i) (.int j) P := by
  intro mu s va vb _ ra rb
  obtain ⟨t, rfl⟩ := ra.intE; obtain ⟨u, rfl⟩ := rb.intE
  exact add_int ⟨_, Rep.int', Gr.tok, h⟩
theorem Bin_sub (h : P (.int (i - j))) : BinOk w A .Sub (.int i) (.int j) P := by
  intro mu s va vb _ ra rb
  obtain ⟨t, rfl⟩ := ra.intE; obtain ⟨u, rfl⟩ := rb.intE
  exact sub_int ⟨_, Rep.int', Gr.tok, h⟩
theorem Bin_mod (hj : j ≠ 0) (h : P (.int (i.fmod j))) : BinOk w A .Mod (.int i) (.int j) P := by
  intro mu s va vb _ ra rb
  obtain ⟨t, rfl⟩ := ra.intE; obtain ⟨u, rfl⟩ := rb.intE
  exact mod_int hj ⟨_, Rep.int', Gr.tok, h⟩
theorem Bin_mul (hm : IntMulOk i j) (h : P (.int (i * j))) : BinOk w A .Mult (.int i) (.int j) P := by
  intro mu s va vb _ ra rb
  obtain ⟨t, rfl⟩ := ra.intE; obtain ⟨u, rfl⟩ := rb.intE
  exact mul_int ⟨_, Rep.int', Gr.tok, h⟩ hm
end binops
end rules

section rules
variable {w : World} {Φ : Fx} {names : List (Str × NameKind)} {mu : Addr → Prop} {ρ : List (Str × V)} {g : List (Addr × List V)} {pos : Pos}

/-- comparisons -/
def CmpOk (w : World) (A : Around) (op : CmpOp) (a b : V) (P : Bool → Prop) : Prop :=
  ∀ (mu : Addr → Prop) (s : Shared) (va vb : Value), (∀ b, mu b → ∃ o, s.heap.get? b = some o) → Rep mu s.heap a va → Rep mu s.heap b vb →
    wpAny (Mod w) A (compareOp op va vb) (fun v s' => ∃ b, v = .bool b ∧ Gr s s' ∧ P b) noE s

section cmps
variable {A : Around} {i j : Int} {P : Bool → Prop}
theorem Cmp_lt (h : P (decide (i < j))) : CmpOk w A .Lt (.int i) (.int j) P := by
  intro mu s va vb _ ra rb
  obtain ⟨t, rfl⟩ := ra.intE; obtain ⟨u, rfl⟩ := rb.intE
  exact lt_int ⟨_, rfl, Gr.rfl', h⟩
theorem Cmp_gt (h : P (decide (j < i))) : CmpOk w A .Gt (.int i) (.int j) P := by
  intro mu s va vb _ ra rb
  obtain ⟨t, rfl⟩ := ra.intE; obtain ⟨u, rfl⟩ := rb.intE
  exact gt_int ⟨_, rfl, Gr.rfl', h⟩
theorem Cmp_le (h : P (decide (i ≤ j))) : CmpOk w A .LtE (.int i) (.int j) P := by
  intro mu s va vb _ ra rb
  obtain ⟨t, rfl⟩ := ra.intE; obtain ⟨u, rfl⟩ := rb.intE
  exact le_int ⟨_, rfl, Gr.rfl', h⟩
theorem Cmp_ge (h : P (decide (j ≤ i))) : CmpOk w A .GtE (.int i) (.int j) P := by
  intro mu s va vb _ ra rb
  obtain ⟨t, rfl⟩ := ra.intE; obtain ⟨u, rfl⟩ := rb.intE
  exact ge_int ⟨_, rfl, Gr.rfl', h⟩
theorem Cmp_eq (h : P (decide (i = j))) : CmpOk w A .Eq (.int i) (.int j) P := by
  intro mu s va vb _ ra rb
  obtain ⟨t, rfl⟩ := ra.intE; obtain ⟨u, rfl⟩ := rb.intE
  exact eq_int ⟨_, rfl, Gr.rfl', h⟩
theorem Cmp_ne (h : P (!decide (i = j))) : CmpOk w A .NotEq (.int i) (.int j) P := by
  intro mu s va vb _ ra rb
  obtain ⟨t, rfl⟩ := ra.intE; obtain ⟨u, rfl⟩ := rb.intE
  exact ne_int ⟨_, rfl, Gr.rfl', h⟩
theorem Cmp_eq_str {x y : Str} (h : P (x == y)) : CmpOk w A .Eq (.str x) (.str y) P := by
  intro mu s va vb _ ra rb
  obtain ⟨t, rfl⟩ := ra.strE; obtain ⟨u, rfl⟩ := rb.strE
  exact eq_str ⟨_, rfl, Gr.rfl', h⟩
theorem Cmp_ne_str {x y : Str} (h : P (x != y)) : CmpOk w A .NotEq (.str x) (.str y) P := by
  intro mu s va vb _ ra rb
  obtain ⟨t, rfl⟩ := ra.strE; obtain ⟨u, rfl⟩ := rb.strE
  exact ne_str ⟨_, rfl, Gr.rfl', h⟩
theorem Cmp_ne_bool {x y : Bool} (h : P (x != y)) : CmpOk w A .NotEq (.bool x) (.bool y) P := by
  intro mu s va vb _ ra rb
  rw [ra.boolE, rb.boolE]
  exact ne_bool ⟨_, rfl, Gr.rfl', h⟩
theorem Cmp_in_str {x y : Str} (h : P (Txt.contains x y)) : CmpOk w A .In (.str y) (.str x) P := by
  intro mu s va vb _ ra rb
  obtain ⟨t, rfl⟩ := ra.strE; obtain ⟨u, rfl⟩ := rb.strE
  exact SB.contains ⟨_, rfl, Gr.rfl', h⟩
end cmps

theorem EX_cmp {l r : PySem.Expr} {op : CmpOp} {Q : V → List (Addr × List V) → Prop}
    (h : EX w Φ l ⟨mu, ρ, g⟩ fun a g1 => EX w Φ r ⟨mu, ρ, g1⟩ fun b g2 => CmpOk w Φ.A op a b fun c => Q (.bool c) g2)
    (hm : behindInMarks op r = false := by with_unfolding_all rfl) : EX w Φ (.Compare l [op] [r] pos) ⟨mu, ρ, g⟩ Q := by
  intro s hs
  refine wpAny_Compare1 (wpAny_mono (h s hs) (fun va s1 => ?_) fun _ _ x => x) hm
  rintro ⟨a, g1, ra, hs1, st1, h1⟩
  refine wpAny_mono (h1 s1 hs1) (fun vb s2 => ?_) fun _ _ x => x
  rintro ⟨b, g2, rb, hs2, st2, h2⟩
  refine wpAny_mono (h2 mu s2 va vb hs2.sat.muLive (ra.mono st2) rb) (fun v s3 => ?_) fun _ _ x => x
  rintro ⟨c, rfl, gr, hq⟩
  exact ⟨.bool c, g2, Rep.bool', hs2.gr gr, st1.trans (st2.trans (gr.stp _)), hq⟩
theorem IT_cmp {l r : PySem.Expr} {op : CmpOp} {Q : Bool → List (Addr × List V) → Prop}
    (h : EX w Φ l ⟨mu, ρ, g⟩ fun a g1 => EX w Φ r ⟨mu, ρ, g1⟩ fun b g2 => CmpOk w Φ.A op a b fun c => Q c g2)
    (hm : behindInMarks op r = false := by with_unfolding_all rfl) : IT w Φ (.Compare l [op] [r] pos) ⟨mu, ρ, g⟩ Q := by
  intro s hs
  refine wpAny_isTrue_Compare1 (wpAny_mono (h s hs) (fun va s1 => ?_) fun _ _ x => x) hm
  rintro ⟨a, g1, ra, hs1, st1, h1⟩
  refine wpAny_mono (h1 s1 hs1) (fun vb s2 => ?_) fun _ _ x => x
  rintro ⟨b, g2, rb, hs2, st2, h2⟩
  refine wpAny_mono (h2 mu s2 va vb hs2.sat.muLive (ra.mono st2) rb) (fun v s3 => ?_) fun _ _ x => x
  rintro ⟨c, rfl, gr, hq⟩
  exact wpAny_truthy_bool ⟨g2, hs2.gr gr, st1.trans (st2.trans (gr.stp _)), hq⟩

/-- tests -/
theorem IT_val {e : PySem.Expr} {Q : Bool → List (Addr × List V) → Prop} (h : EX w Φ e ⟨mu, ρ, g⟩ fun d g1 => ∃ b, d = .bool b ∧ Q b g1)
    (he : PySem.isTrue e Φ.env (eval e Φ.env) = (do let v ← eval e Φ.env; standAt e.pos; holding [v] (truthy v)) := by rfl) : IT w Φ e ⟨mu, ρ, g⟩ Q := by
  intro s hs
  refine wpAny_isTrue_value (wpAny_mono (h s hs) (fun v s1 => ?_) fun _ _ x => x) he
  rintro ⟨d, g1, rd, hs1, st1, b, rfl, hq⟩
  rw [rd.boolE]
  exact wpAny_truthy_bool ⟨g1, hs1, st1, hq⟩
theorem IT_not {e : PySem.Expr} {Q : Bool → List (Addr × List V) → Prop} (h : IT w Φ e ⟨mu, ρ, g⟩ fun b g1 => Q (!b) g1) : IT w Φ (.UnaryOp .Not e pos) ⟨mu, ρ, g⟩ Q :=
  fun s hs => wpAny_isTrue_Not (h s hs)
theorem IT_bool {op : BoolOp} {es : List PySem.Expr} {Q : Bool → List (Addr × List V) → Prop} (h : AT w Φ op es ⟨mu, ρ, g⟩ Q) : IT w Φ (.BoolOp op es pos) ⟨mu, ρ, g⟩ Q :=
  fun s hs => wpAny_isTrue_BoolOp (h s hs)
theorem AT_and_nil {Q : Bool → List (Addr × List V) → Prop} (h : Q true g) : AT w Φ .And [] ⟨mu, ρ, g⟩ Q :=
  fun s hs => wpAny_allTrue_And_nil ⟨g, hs, Stp.rfl', h⟩
theorem AT_or_nil {Q : Bool → List (Addr × List V) → Prop} (h : Q false g) : AT w Φ .Or [] ⟨mu, ρ, g⟩ Q :=
  fun s hs => wpAny_allTrue_Or_nil ⟨g, hs, Stp.rfl', h⟩
theorem AT_and {e : PySem.Expr} {es : List PySem.Expr} {Q : Bool → List (Addr × List V) → Prop}
    (h : IT w Φ e ⟨mu, ρ, g⟩ fun b g1 => if b = true then AT w Φ .And es ⟨mu, ρ, g1⟩ Q else Q false g1) : AT w Φ .And (e :: es) ⟨mu, ρ, g⟩ Q := by
  intro s hs
  refine wpAny_allTrue_And_cons (wpAny_mono (h s hs) (fun b s1 => ?_) fun _ _ x => x)
  rintro ⟨g1, hs1, st1, hq⟩
  cases b
  · simp only [Bool.false_eq_true, if_false] at hq ⊢; exact ⟨g1, hs1, st1, hq⟩
  · simp only [if_true] at hq ⊢
    refine wpAny_mono (hq s1 hs1) (fun b s2 => ?_) fun _ _ x => x
    rintro ⟨g2, hs2, st2, hq⟩
    exact ⟨g2, hs2, st1.trans st2, hq⟩
theorem AT_or {e : PySem.Expr} {es : List PySem.Expr} {Q : Bool → List (Addr × List V) → Prop}
    (h : IT w Φ e ⟨mu, ρ, g⟩ fun b g1 => if b = true then Q true g1 else AT w Φ .Or es ⟨mu, ρ, g1⟩ Q) : AT w Φ .Or (e :: es) ⟨mu, ρ, g⟩ Q := by
  intro s hs
  refine wpAny_allTrue_Or_cons (wpAny_mono (h s hs) (fun b s1 => ?_) fun _ _ x => x)
  rintro ⟨g1, hs1, st1, hq⟩
  cases b
  · simp only [Bool.false_eq_true, if_false] at hq ⊢
    refine wpAny_mono (hq s1 hs1) (fun b s2 => ?_) fun _ _ x => x
    rintro ⟨g2, hs2, st2, hq⟩
    exact ⟨g2, hs2, st1.trans st2, hq⟩
  · simp only [if_true] at hq ⊢; exact ⟨g1, hs1, st1, hq⟩

theorem EX_if {t a b : PySem.Expr} {Q : V → List (Addr × List V) → Prop}
    (h : IT w Φ t ⟨mu, ρ, g⟩ fun c g1 => if c = true then EX w Φ a ⟨mu, ρ, g1⟩ Q else EX w Φ b ⟨mu, ρ, g1⟩ Q) : EX w Φ (.IfExp t a b pos) ⟨mu, ρ, g⟩ Q := by
  intro s hs
  refine wpAny_IfExp (wpAny_mono (h s hs) (fun c s1 => ?_) fun _ _ x => x)
  rintro ⟨g1, hs1, st1, hq⟩
  cases c
  · simp only [Bool.false_eq_true, if_false] at hq ⊢
    refine wpAny_mono (hq s1 hs1) (fun v s2 => ?_) fun _ _ x => x
    rintro ⟨d, g2, rd, hs2, st2, hq⟩
    exact ⟨d, g2, rd, hs2, st1.trans st2, hq⟩
  · simp only [if_true] at hq ⊢
    refine wpAny_mono (hq s1 hs1) (fun v s2 => ?_) fun _ _ x => x
    rintro ⟨d, g2, rd, hs2, st2, hq⟩
    exact ⟨d, g2, rd, hs2, st1.trans st2, hq⟩

theorem EX_neg {e : PySem.Expr} {Q : V → List (Addr × List V) → Prop} (h : EX w Φ e ⟨mu, ρ, g⟩ fun d g1 => ∃ i, d = .int i ∧ Q (.int (-i)) g1) : EX w Φ (.UnaryOp .USub e pos) ⟨mu, ρ, g⟩ Q := by
  intro s hs
  refine wpAny_UnaryOp (wpAny_mono (h s hs) (fun v s1 => ?_) fun _ _ x => x)
  rintro ⟨d, g1, rd, hs1, st1, i, rfl, hq⟩
  obtain ⟨t, rfl⟩ := rd.intE
  exact neg_int ⟨_, g1, Rep.int', hs1.gr .tok, st1.trans (Gr.tok.stp _), hq⟩
theorem EX_not {e : PySem.Expr} {Q : V → List (Addr × List V) → Prop} (h : EX w Φ e ⟨mu, ρ, g⟩ fun d g1 => ∃ b, d = .bool b ∧ Q (.bool (!b)) g1) : EX w Φ (.UnaryOp .Not e pos) ⟨mu, ρ, g⟩ Q := by
  intro s hs
  refine wpAny_UnaryOp (wpAny_mono (h s hs) (fun v s1 => ?_) fun _ _ x => x)
  rintro ⟨d, g1, rd, hs1, st1, b, rfl, hq⟩
  rw [rd.boolE]
  exact not_of (wpAny_truthy_bool ⟨_, g1, Rep.bool', hs1, st1, hq⟩)

/-- a chain of and, or, of bools -/
theorem EX_and2 {x y : PySem.Expr} {Q : V → List (Addr × List V) → Prop}
    (h : EX w Φ x ⟨mu, ρ, g⟩ fun d g1 => ∃ b, d = .bool b ∧ if b = true then EX w Φ y ⟨mu, ρ, g1⟩ Q else Q (.bool false) g1) : EX w Φ (.BoolOp .And [x, y] pos) ⟨mu, ρ, g⟩ Q := by
  intro s hs
  show wpAny _ _ (boolOp pos .And [eval x Φ.env, eval y Φ.env]) _ _ _
  refine IsLeap.wpAny_and2 (wpAny_mono (h s hs) (fun v s1 => ?_) fun _ _ x => x)
  rintro ⟨d, g1, rd, hs1, st1, b, rfl, hq⟩
  rw [rd.boolE]
  refine wpAny_truthy_bool ?_
  cases b
  · simp only [Bool.false_eq_true, if_false] at hq ⊢; exact ⟨_, g1, Rep.bool', hs1, st1, hq⟩
  · simp only [if_true] at hq ⊢
    refine wpAny_mono (hq s1 hs1) (fun v s2 => ?_) fun _ _ x => x
    rintro ⟨d, g2, rd, hs2, st2, hq⟩
    exact ⟨d, g2, rd, hs2, st1.trans st2, hq⟩
theorem EX_or2 {x y : PySem.Expr} {Q : V → List (Addr × List V) → Prop}
    (h : EX w Φ x ⟨mu, ρ, g⟩ fun d g1 => ∃ b, d = .bool b ∧ if b = true then Q (.bool true) g1 else EX w Φ y ⟨mu, ρ, g1⟩ Q) : EX w Φ (.BoolOp .Or [x, y] pos) ⟨mu, ρ, g⟩ Q := by
  intro s hs
  show wpAny _ _ (boolOp pos .Or [eval x Φ.env, eval y Φ.env]) _ _ _
  refine IsLeap.wpAny_or2 (wpAny_mono (h s hs) (fun v s1 => ?_) fun _ _ x => x)
  rintro ⟨d, g1, rd, hs1, st1, b, rfl, hq⟩
  rw [rd.boolE]
  refine wpAny_truthy_bool ?_
  cases b
  · simp only [Bool.false_eq_true, if_false] at hq ⊢
    refine wpAny_mono (hq s1 hs1) (fun v s2 => ?_) fun _ _ x => x
    rintro ⟨d, g2, rd, hs2, st2, hq⟩
    exact ⟨d, g2, rd, hs2, st1.trans st2, hq⟩
  · simp only [if_true] at hq ⊢; exact ⟨_, g1, Rep.bool', hs1, st1, hq⟩
theorem wpAny_and3 {M : Model} {A : Around} {E : Value → Shared → Prop} {s : Shared} {x y z : Sem Value} {pos : Pos} {Q : Value → Shared → Prop}
    (h : wpAny M A x (fun v s₁ => wpAny M A (truthy v) (fun t s₂ => if t then wpAny M A (boolOp pos .And [y, z]) Q E s₂ else Q v s₂) E s₁) E s) : wpAny M A (boolOp pos .And [x, y, z]) Q E s := by
  show wpAny M A (do
    let v ← x
    standAt pos
    let t ← holding [v] (truthy v)
    match BoolOp.And, t with
    | .And, false | .Or, true => pure v
    | _, _ => boolOp pos .And [y, z]) Q E s
  refine wpAny_bind (wpAny_mono h (fun v s₁ h₁ => wpAny_bind (wpAny_standAt (wpAny_bind (wpAny_holding (wpAny_mono h₁ (fun t s₂ h₂ => ?_) fun _ _ x => x))))) fun _ _ x => x)
  cases t with
  | false => simp only [Bool.false_eq_true, if_false] at h₂; exact wpAny_pure h₂
  | true => simp only [if_true] at h₂; exact h₂
theorem EX_and3 {x y z : PySem.Expr} {Q : V → List (Addr × List V) → Prop}
    (h : EX w Φ x ⟨mu, ρ, g⟩ fun d g1 => ∃ b, d = .bool b ∧ if b = true then EX w Φ (.BoolOp .And [y, z] pos) ⟨mu, ρ, g1⟩ Q else Q (.bool false) g1) : EX w Φ (.BoolOp .And [x, y, z] pos) ⟨mu, ρ, g⟩ Q := by
  intro s hs
  show wpAny _ _ (boolOp pos .And [eval x Φ.env, eval y Φ.env, eval z Φ.env]) _ _ _
  refine wpAny_and3 (wpAny_mono (h s hs) (fun v s1 => ?_) fun _ _ x => x)
  rintro ⟨d, g1, rd, hs1, st1, b, rfl, hq⟩
  rw [rd.boolE]
  refine wpAny_truthy_bool ?_
  cases b
  · simp only [Bool.false_eq_true, if_false] at hq ⊢; exact ⟨_, g1, Rep.bool', hs1, st1, hq⟩
  · simp only [if_true] at hq ⊢
    refine wpAny_mono (hq s1 hs1) (fun v s2 => ?_) fun _ _ x => x
    rintro ⟨d, g2, rd, hs2, st2, hq⟩
    exact ⟨d, g2, rd, hs2, st1.trans st2, hq⟩

/-- statements -/
theorem SS_nil {Q : Fl → AS → Prop} (h : Q .next ⟨mu, ρ, g⟩) : SS w Φ [] ⟨mu, ρ, g⟩ Q :=
  fun s hs => wpAny_execs_nil ⟨.next, _, by simp only [FlRep], hs, Stp.rfl', h⟩
theorem SS_cons {st : Stmt} {rest : List Stmt} {Q : Fl → AS → Prop}
    (h : SX w Φ st ⟨mu, ρ, g⟩ fun f S' => match f with | .next => SS w Φ rest S' Q | f => Q f S') : SS w Φ (st :: rest) ⟨mu, ρ, g⟩ Q := by
  intro s hs
  refine wpAny_execs_cons (wpAny_mono (h s hs) (fun f s1 => ?_) fun _ _ x => x)
  rintro ⟨fd, S1, rf, hs1, st1, hq⟩
  cases fd with
  | next =>
    simp only [FlRep] at rf; subst rf
    refine wpAny_mono (hq s1 hs1) (fun f s2 => ?_) fun _ _ x => x
    rintro ⟨fd, S2, rf, hs2, st2, hq⟩
    exact ⟨fd, S2, rf, hs2, st1.trans st2, hq⟩
  | brk => simp only [FlRep] at rf; subst rf; exact ⟨.brk, S1, by simp only [FlRep], hs1, st1, hq⟩
  | cont => simp only [FlRep] at rf; subst rf; exact ⟨.cont, S1, by simp only [FlRep], hs1, st1, hq⟩
  | ret d =>
    have rf' := rf
    simp only [FlRep] at rf; obtain ⟨v, rfl, rv⟩ := rf; exact ⟨.ret d, S1, rf', hs1, st1, hq⟩
theorem SX_ret {e : PySem.Expr} {Q : Fl → AS → Prop} (h : EX w Φ e ⟨mu, ρ, g⟩ fun d g1 => Q (.ret d) ⟨mu, ρ, g1⟩) : SX w Φ (.Return (some e) pos) ⟨mu, ρ, g⟩ Q := by
  intro s hs
  refine wpAny_Return_some (wpAny_mono (h s hs) (fun v s1 => ?_) fun _ _ x => x)
  rintro ⟨d, g1, rd, hs1, st1, hq⟩
  exact ⟨.ret d, _, by simp only [FlRep]; exact ⟨v, rfl, rd⟩, hs1, st1, hq⟩
theorem SX_if {t : PySem.Expr} {b o : List Stmt} {Q : Fl → AS → Prop}
    (h : IT w Φ t ⟨mu, ρ, g⟩ fun c g1 => if c = true then SS w Φ b ⟨mu, ρ, g1⟩ Q else SS w Φ o ⟨mu, ρ, g1⟩ Q) : SX w Φ (.If t b o pos) ⟨mu, ρ, g⟩ Q := by
  intro s hs
  refine wpAny_If (wpAny_mono (h s hs) (fun c s1 => ?_) fun _ _ x => x)
  rintro ⟨g1, hs1, st1, hq⟩
  cases c
  · simp only [Bool.false_eq_true, if_false] at hq ⊢
    refine wpAny_mono (hq s1 hs1) (fun f s2 => ?_) fun _ _ x => x
    rintro ⟨fd, S2, rf, hs2, st2, hq⟩
    exact ⟨fd, S2, rf, hs2, st1.trans st2, hq⟩
  · simp only [if_true] at hq ⊢
    refine wpAny_mono (hq s1 hs1) (fun f s2 => ?_) fun _ _ x => x
    rintro ⟨fd, S2, rf, hs2, st2, hq⟩
    exact ⟨fd, S2, rf, hs2, st1.trans st2, hq⟩

/-- the frame's own name is stored -/
theorem Sat.store' {S : AS} {h h' : Heap} {x : Str} {d : V} {v : Value} {m : Str → Option Value} (hs : Sat Φ ⟨mu, ρ, g⟩ h) (hm : ∀ y d, ρ.lookup y = some d → ∃ v, m y = some v ∧ Rep mu h d v)
    (hn : h'.Ns Φ.L (fun y => if y = x then some v else m y)) (sb : Heap.SameBut Φ.L h h') (hL : Φ.hin.get? Φ.L = none) (bL : Φ.B.StaysIn Φ.hin) (rv : Rep mu h d v) : Sat Φ ⟨mu, (x, d) :: ρ, g⟩ h' where
  keepB b o e := (sb.2 b (by rintro rfl; have := bL _ _ e; rw [hL] at this; cases this)).trans (hs.keepB b o e)
  keepIn b o e n := (sb.2 b (by rintro rfl; rw [hL] at e; cases e)).trans (hs.keepIn b o e n)
  muB := hs.muB
  muLive b hb := by
    by_cases c : b = Φ.L
    · subst c; obtain ⟨o, _, _, e, _⟩ := hn; exact ⟨o, e⟩
    · obtain ⟨o, e⟩ := hs.muLive b hb; exact ⟨o, (sb.2 b c).trans e⟩
  sup := hs.sup
  muL := hs.muL
  locals := by
    have st : Stp mu mu h h' := fun b o e n => ⟨(sb.2 b (by rintro rfl; exact n hs.muL)).trans e, n⟩
    refine ⟨_, hn, fun y d' e => ?_⟩
    simp only [List.lookup_cons] at e
    by_cases c : y = x
    · subst c
      simp only [beq_self_eq_true, Option.some.injEq] at e
      subst e
      exact ⟨v, by simp, rv.mono st⟩
    · have c' : (y == x) = false := beq_eq_false_iff_ne.mpr c
      simp only [c'] at e
      obtain ⟨u, hu, ru⟩ := hm y d' e
      exact ⟨u, by simp only [c, if_false]; exact hu, ru.mono st⟩
  store := hs.store.step (fun b o e n => ⟨(sb.2 b (by rintro rfl; exact n hs.muL)).trans e, n⟩) (fun p hp o e => (sb.2 _ (hs.offL p hp)).trans e) hs.store.mu
  offL := hs.offL
  may := hs.may
  pins p hp := let ⟨a, b, c, d⟩ := hs.pins p hp; ⟨(sb.2 _ c).trans a, b, c, d⟩

theorem store_ok {s : Shared} {x : Str} {d : V} {v : Value} {Q : Unit → Shared → Prop} (ok : FxOk w names Φ) (hs : SatS Φ ⟨mu, ρ, g⟩ s) (rv : Rep mu s.heap d v)
    (h : ∀ s', SatS Φ ⟨mu, (x, d) :: ρ, g⟩ s' → Stp mu mu s.heap s'.heap → Q () s') (hl : names.lookup x = some .local := by rfl) : wpAny (Mod w) Φ.A (storeName Φ.env x v) Q noE s := by
  obtain ⟨m, hn, hm⟩ := hs.sat.locals
  refine wpAny_storeName_local ((ok.kinds x).trans hl) (m := m) (ok.locals ▸ hn) (fun h' hn' sb => ?_) ?_
  · rw [ok.locals] at hn' sb
    exact h _ ⟨hs.sat.store' (S := ⟨mu, ρ, g⟩) hm hn' sb ok.hL ok.hB rv, hs.gens, hs.os⟩ fun b o e n => ⟨(sb.2 b (by rintro rfl; exact n hs.sat.muL)).trans e, n⟩
  · rw [ok.kind]; rfl

theorem SX_set {x : Str} {p : Pos} {e : PySem.Expr} {Q : Fl → AS → Prop} (ok : FxOk w names Φ) (h : EX w Φ e ⟨mu, ρ, g⟩ fun d g1 => Q .next ⟨mu, (x, d) :: ρ, g1⟩)
    (hl : names.lookup x = some .local := by rfl) (hw : swapsWith e (some (.Name x p)) pos.line Φ.env = pure false := by rfl) : SX w Φ (.Assign [.Name x p] e pos) ⟨mu, ρ, g⟩ Q := by
  intro s hs
  refine wpAny_Assign_Name (wpAny_mono (h s hs) (fun v s1 => ?_) fun _ _ x => x) hw
  rintro ⟨d, g1, rd, hs1, st1, hq⟩
  exact store_ok ok hs1 rd (fun s' hs' st' => ⟨.next, _, by simp only [FlRep], hs', st1.trans st', hq⟩) hl
end rules

/-- entering a def -/
theorem lookup_reverse {α : Type} : ∀ {l : List (Str × α)} {x : Str} {d : α}, (l.map (·.1)).Nodup → l.lookup x = some d → l.reverse.lookup x = some d
  | [], _, _, _, e => by simp at e
  | (y, c) :: l, x, d, n, e => by
    simp only [List.map_cons, List.nodup_cons] at n
    rw [List.reverse_cons, List.lookup_append]
    simp only [List.lookup_cons] at e
    by_cases q : x = y
    · subst q
      simp only [beq_self_eq_true, Option.some.injEq] at e
      subst e
      have : l.reverse.lookup x = none := by
        rw [List.lookup_eq_none_iff]
        intro p hp
        have hp' : p ∈ l := by simpa using hp
        have : x ≠ p.1 := fun e => n.1 (e ▸ List.mem_map_of_mem hp')
        simpa using this
      rw [this]; simp
    · have q' : (x == y) = false := beq_eq_false_iff_ne.mpr q
      simp only [q'] at e
      rw [lookup_reverse n.2 e]; rfl

theorem lookup_zip {mu : Addr → Prop} {h : Heap} : ∀ {ps : List Str} {args : List V} {vals : List Value} {x : Str} {d : V}, RepL mu h args vals → (ps.zip args).lookup x = some d → ∃ v, (ps.zip vals).lookup x = some v ∧ Rep mu h d v
  | [], _, _, _, _, _, e => by simp at e
  | _ :: _, [], _, _, _, _, e => by simp at e
  | p :: ps, a :: args, vals, x, d, r, e => by
    obtain ⟨v, vs, rfl, ra, rr⟩ := r.consE
    simp only [List.zip_cons_cons, List.lookup_cons] at e ⊢
    cases q : x == p with
    | true => simp only [q, Option.some.injEq] at e; subst e; exact ⟨v, rfl, ra⟩
    | false => simp only [q] at e; exact lookup_zip rr e

theorem fn_introD {w : World} {B : Heap} {f : Addr} {n : Nat} {args : List V} {sig : List (Addr × List V)} {Q : V → List (Addr × List V) → Prop} {fd : FuncData} {body : List Stmt} {oc : Value} {od : Option Addr} {osl : Array (Option Value)} (names : List (Str × NameKind)) (ps : List Str) (xs : List V) (xv : List Value) (hx : ∀ mu h, RepL mu h xs xv)
    (wd : Wd w B) (ho : (hd.heap_1 w.params).lookup f = some ⟨oc, od, .func fd, osl⟩) (hb : fd.body = .stmts body) (hcd : codeIn (hd.heap_1 w.params) fd.code fd.qualname = true)
    (hnames : fd.scope.names = names) (hglob : fd.globals = mainGlobals) (hbu : fd.builtins = builtinsNs) (hclo : fd.closure = [])
    (hbind : ∀ (s : Shared) (vals : List Value), B.StaysIn s.heap → vals.length = args.length → BindsTo s fd ⟨vals, []⟩ (ps.zip (vals ++ xv))) (hlen : ps.length = args.length + xs.length) (hnd : ps.Nodup)
    (hloc : ∀ x ∈ ps, names.lookup x = some .local) (hcell : ∀ x ∈ names, x.2 ≠ .cell) (hdbg : names.lookup (Str.ofString "__debug__") = none)
    (hco : fd.scope.isCoroutine = false) (hgen : fd.scope.isGenerator = false) (hk : fd.scope.kind = .function)
    (h : ∀ Φ mu, FxOk w names Φ → Φ.B = B → Φ.n = n → SS w Φ body ⟨mu, ps.zip (args ++ xs), sig⟩ fun fl S' => ∃ d, fl = .ret d ∧ S'.sig.map (·.1) = sig.map (·.1) ∧ Q d S'.sig) : Fn w B f (n + 1) args sig Q := by
  intro A mu s vals hh hd hu hB hmB hmL hr hst
  refine codeAny_call_def (fd := fd) (body := body) (binds := ps.zip (vals ++ xv)) (by omega) (hB _ _ (wd.X _ _ ho)) rfl ?_ ?_ hb (hbind s vals hB hr.length) (by rw [hnames]; exact hcell) ?_ (fun h₀ hns hkeep => ?_) hco hgen hk
  · obtain ⟨mean, mg, mb, T⟩ := wd.T; exact T.nolimit.keeps hB
  · exact (codeRec_of wd.X hcd).keeps hB
  · intro x hx'
    rw [hnames]
    exact hloc _ (List.of_mem_zip hx').1
  have hr' := hr.append (hx mu s.heap)
  have hlenV : (vals ++ xv).length = ps.length := by rw [hr'.length, List.length_append, hlen]
  let L := s.heap.objs.size
  let env := callEnv fd L f
  let Φ : Fx := ⟨A.deeper env, env, L, B, s.heap, sig.map (·.1), s, n, fun b => mu b ∨ b = L, []⟩
  have hfresh : s.heap.get? L = none := by
    cases e : s.heap.get? L with
    | none => rfl
    | some o => exact absurd (Heap.lt_size e) (Nat.lt_irrefl _)
  have ok : FxOk w names Φ := ⟨wd, hh, by show A.depth + 1 + n < _; omega, by show A.units + 3 + 8 * n + 80 < cLine; omega, hfresh, hB, rfl, hglob, hbu, hk, fun x => by
    show fd.scope.names.lookup x = _; rw [hnames], hdbg⟩
  have nL : ∀ b o, s.heap.get? b = some o → b ≠ L := fun b o e => Nat.ne_of_lt (Heap.lt_size e)
  have st : Stp mu (fun b => mu b ∨ b = L) s.heap h₀ := fun b o e n => ⟨hkeep b o e, fun c => c.elim n (nL b o e)⟩
  have sat : Sat Φ ⟨fun b => mu b ∨ b = L, ps.zip (args ++ xs), sig⟩ h₀ :=
    { keepB := fun b o e => hkeep b o (hB b o e)
      keepIn := fun b o e _ => hkeep b o e
      muB := fun b o e c => c.elim (hmB b o e) (nL b o (hB b o e))
      muLive := fun b c => c.elim (fun c => let ⟨o, e⟩ := hmL b c; ⟨o, hkeep b o e⟩) fun c => by
        obtain ⟨o, _, _, e, _⟩ := hns; exact ⟨o, by rw [c]; exact e⟩
      sup := fun b c => c
      muL := .inr rfl
      locals := ⟨_, hns, fun x d e => by
        obtain ⟨v, hv, rv⟩ := lookup_zip hr' e
        exact ⟨v, lookup_reverse (by rw [List.map_fst_zip (by omega)]; exact hnd) hv, rv.mono st⟩⟩
      store := hst.step st (fun p hp o e => hkeep _ o e) fun p hp => .inl (hst.mu p hp)
      offL := fun p hp => let ⟨o, e⟩ := hst.live p hp; nL _ o e
      may := fun p hp => .inl (List.mem_map_of_mem hp)
      pins := fun p hp => nomatch hp }
  refine wpAny_mono (h Φ _ ok rfl rfl _ ⟨sat, rfl, rfl⟩) (fun fl s' => ?_) fun _ _ x => x.elim
  rintro ⟨fd', S', rf, hs', -, d, rfl, hk', hq⟩
  simp only [FlRep] at rf
  obtain ⟨v, rfl, rv⟩ := rf
  refine ⟨v, d, S'.sig, rfl, hs'.gens, hs'.os, rv.mono (fun b o e n => ⟨e, fun c => n (hs'.sat.sup b (.inl c))⟩), ?_, hk', fun b o e n => hs'.sat.keepIn b o e n, hq⟩
  refine hs'.sat.store.step (fun b o e n => ⟨e, fun c => n (hs'.sat.sup b (.inl c))⟩) (fun _ _ _ e => e) fun p hp => ?_
  have : p.1 ∈ sig.map (·.1) := hk' ▸ List.mem_map_of_mem hp
  obtain ⟨q, hq, e⟩ := List.mem_map.mp this
  rw [← e]; exact hst.mu q hq
theorem fn_intro {w : World} {B : Heap} {f : Addr} {n : Nat} {args : List V} {sig : List (Addr × List V)} {Q : V → List (Addr × List V) → Prop} {fd : FuncData} {body : List Stmt} {oc : Value} {od : Option Addr} {osl : Array (Option Value)} (names : List (Str × NameKind)) (ps : List Str)
    (wd : Wd w B) (ho : (hd.heap_1 w.params).lookup f = some ⟨oc, od, .func fd, osl⟩) (hb : fd.body = .stmts body) (hcd : codeIn (hd.heap_1 w.params) fd.code fd.qualname = true)
    (hnames : fd.scope.names = names) (hglob : fd.globals = mainGlobals) (hbu : fd.builtins = builtinsNs) (hclo : fd.closure = [])
    (hbind : ∀ (s : Shared) (vals : List Value), B.StaysIn s.heap → vals.length = args.length → BindsTo s fd ⟨vals, []⟩ (ps.zip vals)) (hlen : ps.length = args.length) (hnd : ps.Nodup)
    (hloc : ∀ x ∈ ps, names.lookup x = some .local) (hcell : ∀ x ∈ names, x.2 ≠ .cell) (hdbg : names.lookup (Str.ofString "__debug__") = none)
    (hco : fd.scope.isCoroutine = false) (hgen : fd.scope.isGenerator = false) (hk : fd.scope.kind = .function)
    (h : ∀ Φ mu, FxOk w names Φ → Φ.B = B → Φ.n = n → SS w Φ body ⟨mu, ps.zip args, sig⟩ fun fl S' => ∃ d, fl = .ret d ∧ S'.sig.map (·.1) = sig.map (·.1) ∧ Q d S'.sig) : Fn w B f (n + 1) args sig Q := by
  refine fn_introD names ps [] [] (fun _ _ => RepL.nil') wd ho hb hcd hnames hglob hbu hclo (by simpa using hbind) (by simpa using hlen) hnd hloc hcell hdbg hco hgen hk (by simpa using h)
theorem fn_introE {w : World} {B : Heap} {f : Addr} {n : Nat} {args : List V} {sig : List (Addr × List V)} {Q : V → List (Addr × List V) → Prop} {fd : FuncData} {body : List Stmt} {oc : Value} {od : Option Addr} {osl : Array (Option Value)} (names : List (Str × NameKind)) (ps : List Str) (xs : List V) (xv : List Value) (cond : Prop) (hx : cond → ∀ mu h, RepL mu h xs xv)
    (wd : Wd w B) (ho : (hd.heap_1 w.params).lookup f = some ⟨oc, od, .func fd, osl⟩) (hb : fd.body = .stmts body) (hcd : codeIn (hd.heap_1 w.params) fd.code fd.qualname = true)
    (hnames : fd.scope.names = names) (hglob : fd.globals = mainGlobals) (hbu : fd.builtins = builtinsNs) (hclo : fd.closure = [])
    (hbind : ∀ (s : Shared) (vals : List Value), B.StaysIn s.heap → vals.length = args.length → BindsTo s fd ⟨vals, []⟩ (ps.zip (vals ++ xv))) (hlen : ps.length = args.length + xs.length)
    (hbind' : ∀ (s : Shared) (vals : List Value), B.StaysIn s.heap → vals.length = args.length + xs.length → BindsTo s fd ⟨vals, []⟩ (ps.zip vals)) (hnd : ps.Nodup)
    (hloc : ∀ x ∈ ps, names.lookup x = some .local) (hcell : ∀ x ∈ names, x.2 ≠ .cell) (hdbg : names.lookup (Str.ofString "__debug__") = none)
    (hco : fd.scope.isCoroutine = false) (hgen : fd.scope.isGenerator = false) (hk : fd.scope.kind = .function)
    (h : ∀ Φ mu, FxOk w names Φ → Φ.B = B → Φ.n = n → SS w Φ body ⟨mu, ps.zip (args ++ xs), sig⟩ fun fl S' => ∃ d, fl = .ret d ∧ S'.sig.map (·.1) = sig.map (·.1) ∧ Q d S'.sig) : Fn w B f (n + 1) (args ++ xs) sig Q ∧ (cond → Fn w B f (n + 1) args sig Q) := by
  refine ⟨?_, fun hc => ?_⟩
  · exact fn_intro names ps wd ho hb hcd hnames hglob hbu hclo (fun s vals hB hv => hbind' s vals hB (by simpa using hv)) (by simpa using hlen) hnd hloc hcell hdbg hco hgen hk h
  · exact fn_introD names ps xs xv (hx hc) wd ho hb hcd hnames hglob hbu hclo hbind hlen hnd hloc hcell hdbg hco hgen hk h

section rules
variable {w : World} {Φ : Fx} {names : List (Str × NameKind)} {mu : Addr → Prop} {ρ : List (Str × V)} {g : List (Addr × List V)} {pos : Pos}

theorem branch {c : Bool} {P Q : Prop} (h1 : c = true → P) (h2 : c = false → Q) : if c = true then P else Q := by
  cases c
  · simpa using h2 rfl
  · simpa using h1 rfl

/-- the arguments of a call -/
theorem args_ok {e : PySem.Expr} {es : List PySem.Expr} {S : AS} {s : Shared} {f : Value} {Q : List V → List (Addr × List V) → Prop} {R : Args → Shared → Prop} (h : SP w Φ pos (e :: es) S Q) (hs : SatS Φ S s)
    (k : ∀ vs l g1 s1, RepL S.mu s1.heap l vs → SatS Φ ⟨S.mu, S.rho, g1⟩ s1 → Stp S.mu S.mu s.heap s1.heap → Q l g1 → R ⟨vs, []⟩ s1)
    (hs' : starEach (e :: es) Φ.env = (false, eval e Φ.env) :: starEach es Φ.env := by rfl) : wpAny (Mod w) Φ.A (evalArgs f true (backTo pos (starEach (e :: es) Φ.env)) []) R noE s := by
  have h0 := h s hs
  rw [hs'] at h0 ⊢
  refine Calls.evalArgs_plain (wpAny_mono h0 (fun vs s1 => ?_) fun _ _ x => x)
  rintro ⟨l, g1, hl, hs1, st1, hq⟩
  exact k vs l g1 s1 hl hs1 st1 hq

theorem name_def {x : Str} {p : Pos} {v : Value} {s : Shared} {S : AS} {Q : Value → Shared → Prop} (ok : FxOk w names Φ) (hs : SatS Φ S s) (he : nsIn (hd.heap_1 w.params) mainGlobals x = some (some v)) (h : Q v s)
    (hl : names.lookup x = some .globalImplicit) : wpAny (Mod w) Φ.A (eval (.Name x p) Φ.env) Q noE s := by
  obtain ⟨mean, mg, mb, T⟩ := ok.wd.T
  refine Calls.Name_function_global ok.kind ((ok.kinds x).trans hl) (Calls.loadGlobal_global (mg := mg) ?_ (mg_of ok.wd.X T.g he) h) (ok.nd hl)
  rw [ok.globals]; exact T.g.keeps hs.sat.keepB
theorem name_boot {x : Str} {p : Pos} {v : Value} {s : Shared} {S : AS} {Q : Value → Shared → Prop} (ok : FxOk w names Φ) (hs : SatS Φ S s) (he : nsIn (hd.heap_1 w.params) mainGlobals x = some none) (hb : bootBuiltins x = some v) (h : Q v s)
    (hl : names.lookup x = some .globalImplicit) (hn : x ≠ "__name__") : wpAny (Mod w) Φ.A (eval (.Name x p) Φ.env) Q noE s := by
  obtain ⟨mean, mg, mb, T⟩ := ok.wd.T
  refine Calls.Name_function_global ok.kind ((ok.kinds x).trans hl) (Calls.loadGlobal_builtin (mg := mg) (mb := mb) ?_ (mg_none_of ok.wd.X T.g he) ?_ ((T.builtins x hn).trans hb) h) (ok.nd hl)
  · rw [ok.globals]; exact T.g.keeps hs.sat.keepB
  · rw [ok.builtins]; exact T.b.keeps hs.sat.keepB

/-- a call of a def that changes nothing -/
theorem EX_call {f : Str} {p : Pos} {fa : Addr} {n : Nat} {e : PySem.Expr} {es : List PySem.Expr} {Q : V → List (Addr × List V) → Prop} {oc : Value} {od : Option Addr} {osl : Array (Option Value)} {fd : FuncData} (ok : FxOk w names Φ)
    (h : SP w Φ pos (e :: es) ⟨mu, ρ, g⟩ fun l g1 => Fn w Φ.B fa n l [] fun d _ => Q d g1) (hn : n ≤ Φ.n)
    (he : nsIn (hd.heap_1 w.params) mainGlobals f = some (some (.ref fa)) := by rfl) (ho : (hd.heap_1 w.params).lookup fa = some ⟨oc, od, .func fd, osl⟩ := by rfl)
    (hl : names.lookup f = some .globalImplicit := by rfl)
    (hs' : starEach (e :: es) Φ.env = (false, eval e Φ.env) :: starEach es Φ.env := by rfl) : EX w Φ (.Call (.Name f p) (e :: es) [] pos) ⟨mu, ρ, g⟩ Q := by
  intro s hs
  refine wpAny_Call_NameR (name_def ok hs he (Calls.callWith_function (o := ⟨oc, od, .func fd, osl⟩) (fd := fd) (args_ok h hs (fun vs l g1 s1 hl hs1 st1 hq => ⟨⟨hs1.sat.keepB _ _ (ok.wd.X _ _ ho), rfl⟩, ?_⟩) hs')) hl)
  refine wpAny_call (codeAny_mono (hq Φ.A mu s1 vs ok.handled (by have := ok.depth; omega) (by have := ok.units; omega) hs1.sat.keepB hs1.sat.muB hs1.sat.muLive hl trivial) fun r s2 => ?_)
  rintro ⟨v, d, g2, rfl, hg, hos, rv, -, -, hk, hq⟩
  have gr : Gr s1 s2 := ⟨fun b o e => hk b o e (by simp), hg, hos⟩
  exact ⟨d, g1, rv, hs1.gr gr, st1.trans (gr.stp _), hq⟩

theorem Sat.call {S : AS} {h h' : Heap} {g' : List (Addr × List V)} (x : Sat Φ S h) (hst : Stor S.mu h' g') (hk : g'.map (·.1) = S.sig.map (·.1)) (k : ∀ b o, h.get? b = some o → b ∉ S.sig.map (·.1) → h'.get? b = some o) : Sat Φ ⟨S.mu, S.rho, g'⟩ h' := by
  have off : ∀ b, ¬ S.mu b → b ∉ S.sig.map (·.1) := fun b n hb => by
    obtain ⟨p, hp, rfl⟩ := List.mem_map.mp hb; exact n (x.store.mu p hp)
  have old : ∀ p ∈ g', ∃ q ∈ S.sig, q.1 = p.1 := fun p hp => by
    have : p.1 ∈ S.sig.map (·.1) := hk ▸ List.mem_map_of_mem hp
    obtain ⟨q, hq, e⟩ := List.mem_map.mp this; exact ⟨q, hq, e⟩
  exact
  { keepB := fun b o e => k b o (x.keepB b o e) (off b (x.muB b o e))
    keepIn := fun b o e n => k b o (x.keepIn b o e n) fun hb => by
      obtain ⟨p, hp, rfl⟩ := List.mem_map.mp hb
      rcases x.may p hp with q | q
      · exact n q
      · rw [q] at e; cases e
    muB := x.muB
    muLive := fun b hb => by
      by_cases c : b ∈ S.sig.map (·.1)
      · rw [← hk] at c
        obtain ⟨p, hp, rfl⟩ := List.mem_map.mp c
        exact hst.live p hp
      · obtain ⟨o, e⟩ := x.muLive b hb; exact ⟨o, k b o e c⟩
    sup := x.sup
    muL := x.muL
    locals := by
      obtain ⟨m, ⟨o, es, ep, ho, r⟩, hm⟩ := x.locals
      refine ⟨m, ⟨o, es, ep, k _ _ ho (fun hb => ?_), r⟩, fun y d e => ?_⟩
      · obtain ⟨p, hp, e⟩ := List.mem_map.mp hb; exact x.offL p hp e
      · obtain ⟨v, hv, rv⟩ := hm y d e
        exact ⟨v, hv, rv.mono fun b o e n => ⟨k b o e (off b n), n⟩⟩
    store := hst
    offL := fun p hp => by obtain ⟨q, hq, e⟩ := old p hp; rw [← e]; exact x.offL q hq
    may := fun p hp => by obtain ⟨q, hq, e⟩ := old p hp; rw [← e]; exact x.may q hq
    pins := fun p hp => by
      obtain ⟨a, b, c, d⟩ := x.pins p hp
      refine ⟨k _ _ a fun hb => ?_, b, c, fun q hq => ?_⟩
      · obtain ⟨q, hq, e⟩ := List.mem_map.mp hb; exact d q hq e
      · obtain ⟨r, hr, e⟩ := old q hq; rw [← e]; exact d r hr }

/-- a call that may change the marked lists -/
theorem EX_callS {f : Str} {p : Pos} {fa : Addr} {n : Nat} {e : PySem.Expr} {es : List PySem.Expr} {Q : V → List (Addr × List V) → Prop} {oc : Value} {od : Option Addr} {osl : Array (Option Value)} {fd : FuncData} (ok : FxOk w names Φ)
    (h : SP w Φ pos (e :: es) ⟨mu, ρ, g⟩ fun l g1 => Fn w Φ.B fa n l g1 Q) (hn : n ≤ Φ.n)
    (he : nsIn (hd.heap_1 w.params) mainGlobals f = some (some (.ref fa)) := by rfl) (ho : (hd.heap_1 w.params).lookup fa = some ⟨oc, od, .func fd, osl⟩ := by rfl)
    (hl : names.lookup f = some .globalImplicit := by rfl)
    (hs' : starEach (e :: es) Φ.env = (false, eval e Φ.env) :: starEach es Φ.env := by rfl) : EX w Φ (.Call (.Name f p) (e :: es) [] pos) ⟨mu, ρ, g⟩ Q := by
  intro s hs
  refine wpAny_Call_NameR (name_def ok hs he (Calls.callWith_function (o := ⟨oc, od, .func fd, osl⟩) (fd := fd) (args_ok h hs (fun vs l g1 s1 hl hs1 st1 hq => ⟨⟨hs1.sat.keepB _ _ (ok.wd.X _ _ ho), rfl⟩, ?_⟩) hs')) hl)
  refine wpAny_call (codeAny_mono (hq Φ.A mu s1 vs ok.handled (by have := ok.depth; omega) (by have := ok.units; omega) hs1.sat.keepB hs1.sat.muB hs1.sat.muLive hl hs1.sat.store) fun r s2 => ?_)
  rintro ⟨v, d, g2, rfl, hg, hos, rv, hst, hk', hk, hq⟩
  refine ⟨d, g2, rv, ⟨Sat.call (S := ⟨mu, ρ, g1⟩) hs1.sat hst hk' hk, hg.trans hs1.gens, hos.trans hs1.os⟩, st1.trans fun b o e n => ⟨hk b o e fun hb => ?_, n⟩, hq⟩
  obtain ⟨p, hp, rfl⟩ := List.mem_map.mp hb
  exact n (hs1.sat.store.mu p hp)

/-- built-in functions -/
def CallOk (w : World) (A : Around) (f : Value) (l : List V) (P : V → Prop) : Prop :=
  ∀ (mu : Addr → Prop) (s : Shared) (vs : List Value), (∀ b, mu b → ∃ o, s.heap.get? b = some o) → RepL mu s.heap l vs →
    wpAny (Mod w) A (call f vs) (fun v s' => ∃ d, Rep mu s'.heap d v ∧ Gr s s' ∧ P d) noE s
theorem EX_boot {f : Str} {id : String} {p : Pos} {e : PySem.Expr} {es : List PySem.Expr} {Q : V → List (Addr × List V) → Prop} (ok : FxOk w names Φ) (hb : bootBuiltins f = some (.builtin id))
    (h : SP w Φ pos (e :: es) ⟨mu, ρ, g⟩ fun l g1 => CallOk w Φ.A (.builtin id) l fun d => Q d g1)
    (he : nsIn (hd.heap_1 w.params) mainGlobals f = some none := by rfl)
    (hl : names.lookup f = some .globalImplicit := by rfl) (hn : f ≠ "__name__" := by decide)
    (hs' : starEach (e :: es) Φ.env = (false, eval e Φ.env) :: starEach es Φ.env := by rfl) (hp : (backTo pos (starEach (e :: es) Φ.env)).any (·.1) = false := by rfl) : EX w Φ (.Call (.Name f p) (e :: es) [] pos) ⟨mu, ρ, g⟩ Q := by
  intro s hs
  refine wpAny_Call_NameR (name_boot ok hs he hb (Calls.callWith_builtin hp (args_ok h hs (fun vs l g1 s1 hl hs1 st1 hq => ?_) hs')) hl hn)
  refine wpAny_mono (hq mu s1 vs hs1.sat.muLive hl) (fun v s2 => ?_) fun _ _ x => x
  rintro ⟨d, rd, gr, hq⟩
  exact ⟨d, g1, rd, hs1.gr gr, st1.trans (gr.stp _), hq⟩
theorem EX_bootT {f : Str} {T : String} {p : Pos} {e : PySem.Expr} {es : List PySem.Expr} {Q : V → List (Addr × List V) → Prop} (ok : FxOk w names Φ) (hb : bootBuiltins f = some (.type T))
    (h : SP w Φ pos (e :: es) ⟨mu, ρ, g⟩ fun l g1 => CallOk w Φ.A (.type T) l fun d => Q d g1)
    (he : nsIn (hd.heap_1 w.params) mainGlobals f = some none := by rfl)
    (hl : names.lookup f = some .globalImplicit := by rfl) (hn : f ≠ "__name__" := by decide)
    (hs' : starEach (e :: es) Φ.env = (false, eval e Φ.env) :: starEach es Φ.env := by rfl) (hp : (backTo pos (starEach (e :: es) Φ.env)).any (·.1) = false := by rfl) : EX w Φ (.Call (.Name f p) (e :: es) [] pos) ⟨mu, ρ, g⟩ Q := by
  intro s hs
  refine wpAny_Call_NameR (name_boot ok hs he hb (PySem.callWith_type hp (args_ok h hs (fun vs l g1 s1 hl hs1 st1 hq => ?_) hs')) hl hn)
  refine wpAny_mono (hq mu s1 vs hs1.sat.muLive hl) (fun v s2 => ?_) fun _ _ x => x
  rintro ⟨d, rd, gr, hq⟩
  exact ⟨d, g1, rd, hs1.gr gr, st1.trans (gr.stp _), hq⟩

section boots
variable {A : Around} {P : V → Prop}
theorem Call_abs {i : Int} (h : P (.int i.natAbs)) : CallOk w A (.builtin "abs") [.int i] P := by
  intro mu s vs _ hl
  obtain ⟨v, r, rfl, rv, hr⟩ := hl.consE
  obtain rfl := hr.nilE
  obtain ⟨t, rfl⟩ := rv.intE
  have e : (if i < 0 then -i else i) = i.natAbs := by split <;> omega
  exact call_abs_int fun u tk => ⟨.int i.natAbs, by rw [e]; exact Rep.int', Gr.tok, h⟩
theorem Call_len_str {x : Str} (hx : x.length < 2 ^ 62) (h : P (.int x.length)) : CallOk w A (.builtin "len") [.str x] P := by
  intro mu s vs _ hl
  obtain ⟨v, r, rfl, rv, hr⟩ := hl.consE
  obtain rfl := hr.nilE
  obtain ⟨t, rfl⟩ := rv.strE
  exact PySem.P.len_str (by omega) ⟨_, Rep.int', Gr.tok, h⟩
theorem Call_len_lst {l : List V} (hx : l.length < 2 ^ 62) (h : P (.int l.length)) : CallOk w A (.builtin "len") [.lst l] P := by
  intro mu s vs _ hl
  obtain ⟨v, r, rfl, rv, hr⟩ := hl.consE
  obtain rfl := hr.nilE
  obtain ⟨a, items, rfl, _, hi, hri⟩ := rv.lstE
  have e : items.size = l.length := by rw [← hri.length, Array.length_toList]
  exact len_list hi (by omega) ⟨_, by rw [e]; exact Rep.int', Gr.tok, h⟩
theorem Call_max {i j : Int} (hA : A.handled = none) (h : P (.int (if j > i then j else i))) : CallOk w A (.builtin "max") [.int i, .int j] P := by
  intro mu s vs _ hl
  obtain ⟨v, r, rfl, rv, hr⟩ := hl.consE
  obtain ⟨v', r', rfl, rv', hr'⟩ := hr.consE
  obtain rfl := hr'.nilE
  obtain ⟨t, rfl⟩ := rv.intE
  obtain ⟨u, rfl⟩ := rv'.intE
  refine max_two_ints hA fun h' tk hk => ⟨_, ?_, ⟨hk, rfl, rfl⟩, h⟩
  split <;> exact Rep.int'
theorem Call_min {i j : Int} (hA : A.handled = none) (h : P (.int (if j < i then j else i))) : CallOk w A (.builtin "min") [.int i, .int j] P := by
  intro mu s vs _ hl
  obtain ⟨v, r, rfl, rv, hr⟩ := hl.consE
  obtain ⟨v', r', rfl, rv', hr'⟩ := hr.consE
  obtain rfl := hr'.nilE
  obtain ⟨t, rfl⟩ := rv.intE
  obtain ⟨u, rfl⟩ := rv'.intE
  refine min_two_ints hA fun h' tk hk => ⟨_, ?_, ⟨hk, rfl, rfl⟩, h⟩
  split <;> exact Rep.int'
theorem Call_str_int {i : Int} (hi : i.natAbs.log2 < 1920) (h : P (.str (Str.ofString (toString i)))) : CallOk w A (.type "str") [.int i] P := by
  intro mu s vs _ hl
  obtain ⟨v, r, rfl, rv, hr⟩ := hl.consE
  obtain rfl := hr.nilE
  obtain ⟨t, rfl⟩ := rv.intE
  exact PySem.P.str_of_int hi ⟨_, Rep.str', Gr.tok, h⟩
end boots

/-- items -/
def SubOk (w : World) (A : Around) (o i : V) (P : V → Prop) : Prop :=
  ∀ (mu : Addr → Prop) (s : Shared) (vo vi : Value), (∀ b, mu b → ∃ o, s.heap.get? b = some o) → Rep mu s.heap o vo → Rep mu s.heap i vi →
    ∃ T id, s.TypeIs vo T ∧ typeLookup (.type T) "__getitem__" = pure (some (.builtin id)) ∧ wpAny (Mod w) A (getItem vo vi) (fun v s' => ∃ d, Rep mu s'.heap d v ∧ Gr s s' ∧ P d) noE s
theorem EX_sub {o i : PySem.Expr} {Q : V → List (Addr × List V) → Prop} (h : EX w Φ o ⟨mu, ρ, g⟩ fun a g1 => EX w Φ i ⟨mu, ρ, g1⟩ fun b g2 => SubOk w Φ.A a b fun d => Q d g2)
    (hi : ∀ o' i' : Value, subscripted i false o' i' = operate [o', i'] (getItem o' i') := by intro _ _; rfl) : EX w Φ (.Subscript o i pos) ⟨mu, ρ, g⟩ Q := by
  intro s hs
  refine Subscript_ (wpAny_mono (h s hs) (fun va s1 => ?_) fun _ _ x => x)
  rintro ⟨a, g1, ra, hs1, st1, h1⟩
  refine wpAny_mono (h1 s1 hs1) (fun vb s2 => ?_) fun _ _ x => x
  rintro ⟨b, g2, rb, hs2, st2, h2⟩
  obtain ⟨T, id, hT, hl, hg⟩ := h2 mu s2 va vb hs2.sat.muLive (ra.mono st2) rb
  refine tail_any hT hl (wpAny_mono hg (fun v s3 => ?_) fun _ _ x => x) (hi _ _)
  rintro ⟨d, rd, gr, hq⟩
  exact ⟨d, g2, rd, hs2.gr gr, st1.trans (st2.trans (gr.stp _)), hq⟩

section items
variable {A : Around} {P : V → Prop}
theorem Sub_tup {l : List V} {k : Int} {d : V} (hk : l[k.toNat]? = some d) (h : P d) (h0 : 0 ≤ k := by decide) (hl : k < 2 ^ 62 := by decide) : SubOk w A (.tup l) (.int k) P := by
  intro mu s vo vi _ ro ri
  obtain ⟨a, items, rfl, _, hi, hri⟩ := ro.tupE
  obtain ⟨t, rfl⟩ := ri.intE
  obtain ⟨v, hv, rv⟩ := hri.get hk
  have hlt : k.toNat < items.size := by
    have := (List.getElem?_eq_some_iff.mp hv).1
    simpa using this
  refine ⟨"tuple", _, hi.typeIs, slot_tuple_getitem.lookup, PyProof.Rows.getItem_tuple (j := k.toNat) (x := v) hi (by omega) (by omega) ?_ (by rw [← Array.getElem?_toList]; exact hv) ⟨d, rv, Gr.rfl', h⟩⟩
  unfold seqIndex?
  simp only [show ¬ (k < 0) by omega, if_false]
  rw [if_pos]
  simp only [Bool.and_eq_true, decide_eq_true_eq]
  omega
theorem Sub_lst {l : List V} {k : Int} {d : V} (hk : l[k.toNat]? = some d) (h : P d) (h0 : 0 ≤ k := by decide) (hl : k < 2 ^ 62 := by decide) : SubOk w A (.lst l) (.int k) P := by
  intro mu s vo vi _ ro ri
  obtain ⟨a, items, rfl, _, hi, hri⟩ := ro.lstE
  obtain ⟨t, rfl⟩ := ri.intE
  obtain ⟨v, hv, rv⟩ := hri.get hk
  refine ⟨"list", _, hi.typeIs, slot_list_getitem.lookup, wpAny_getItem_list (x := v) hi (by omega) (by omega) ?_ ⟨d, rv, Gr.rfl', h⟩⟩
  rw [← Array.getElem?_toList]; exact hv
end items
end rules
theorem all1 {P : List Value → Prop} (h : ∀ a, P [a]) : ∀ vals : List Value, vals.length = 1 → P vals
  | [a], _ => h a
theorem all2 {P : List Value → Prop} (h : ∀ a b, P [a, b]) : ∀ vals : List Value, vals.length = 2 → P vals
  | [a, b], _ => h a b
theorem all3 {P : List Value → Prop} (h : ∀ a b c, P [a, b, c]) : ∀ vals : List Value, vals.length = 3 → P vals
  | [a, b, c], _ => h a b c

/-- a bare place that knows the kinds of the names alone -/
def envN (names : List (Str × NameKind)) : Env := { scope := { kind := .function, names := names, isGenerator := false, isCoroutine := false }, locals := 0, globals := 0, cells := [] }
theorem envN_kindOf (names : List (Str × NameKind)) (x : Str) : (envN names).kindOf x = names.lookup x := rfl

section rules
variable {w : World} {Φ : Fx} {names : List (Str × NameKind)} {mu : Addr → Prop} {ρ : List (Str × V)} {g : List (Addr × List V)} {pos : Pos}

theorem FxOk.block (ok : FxOk w names Φ) : Φ.env.blockKind = .function := by
  unfold Env.blockKind
  rw [ok.kind]; rfl
theorem swp_ok {ts : List PySem.Expr} {v : PySem.Expr} {r : Sem (Option (List Str))} (ok : FxOk w names Φ) (h : swappedStores ts v (envN names) = r) : swappedStores ts v Φ.env = r := by
  rw [← h]
  unfold swappedStores
  simp only [ok.kinds, ok.block]
  rfl

/-- an old heap and one that has lost nothing but a new place -/
theorem Gr.ext {s : Shared} {h' : Heap} (x : Heap.ExtBut s.heap.objs.size s.heap h') : Gr s { s with heap := h' } :=
  ⟨fun b o e => x b o (Nat.ne_of_lt (Heap.lt_size e)) e, rfl, rfl⟩

/-- a target takes a value -/
def TG (w : World) (Φ : Fx) (t : PySem.Expr) (d : V) (S : AS) (Q : AS → Prop) : Prop :=
  ∀ s v, SatS Φ S s → Rep S.mu s.heap d v → wpAny (Mod w) Φ.A (assign t Φ.env v) (fun _ s' => ∃ S', SatS Φ S' s' ∧ Stp S.mu S'.mu s.heap s'.heap ∧ Q S') noE s
theorem TG_name {x : Str} {p : Pos} {d : V} {Q : AS → Prop} (ok : FxOk w names Φ) (h : Q ⟨mu, (x, d) :: ρ, g⟩) (hl : names.lookup x = some .local := by rfl) : TG w Φ (.Name x p) d ⟨mu, ρ, g⟩ Q :=
  fun s v hs rv => wpAny_assign_Name (store_ok ok hs rv (fun s' hs' st => ⟨_, hs', st, h⟩) hl)
theorem TG_tup2 {x y : Str} {p q r : Pos} {k : Nat} {d e : V} {Q : AS → Prop} (ok : FxOk w names Φ) (h : Q ⟨mu, (y, e) :: (x, d) :: ρ, g⟩) (hx : names.lookup x = some .local := by rfl) (hy : names.lookup y = some .local := by rfl) :
    TG w Φ (.Tuple [.Name x p, .Name y q] k r) (.tup [d, e]) ⟨mu, ρ, g⟩ Q := by
  intro s v hs rv
  obtain ⟨a, items, rfl, _, hi, hr⟩ := rv.tupE
  obtain ⟨v1, r1, e1, rv1, hr⟩ := hr.consE
  obtain ⟨v2, r2, rfl, rv2, hr⟩ := hr.consE
  obtain rfl := hr.nilE
  refine wpAny_assign_Tuple ok.handled hi (by rw [← Array.length_toList, e1]; rfl) rfl fun h' he => ?_
  rw [e1]
  have gr := Gr.ext (s := s) he
  have st := gr.stp mu
  refine wpAny_assignInOrder_more (wpAny_assign_Name (store_ok ok (hs.gr gr) (rv1.mono st) (fun s1 hs1 st1 => ?_) hx))
  refine wpAny_assignInOrder_more (wpAny_assign_Name (store_ok ok hs1 (rv2.mono (st.trans st1)) (fun s2 hs2 st2 => ?_) hy))
  exact wpAny_assignInOrder_none ⟨_, hs2, st.trans (st1.trans st2), h⟩
theorem TG_tup3 {x y z : Str} {p q q' r : Pos} {k : Nat} {d e f : V} {Q : AS → Prop} (ok : FxOk w names Φ) (h : Q ⟨mu, (z, f) :: (y, e) :: (x, d) :: ρ, g⟩) (hx : names.lookup x = some .local := by rfl) (hy : names.lookup y = some .local := by rfl) (hz : names.lookup z = some .local := by rfl) :
    TG w Φ (.Tuple [.Name x p, .Name y q, .Name z q'] k r) (.tup [d, e, f]) ⟨mu, ρ, g⟩ Q := by
  intro s v hs rv
  obtain ⟨a, items, rfl, _, hi, hr⟩ := rv.tupE
  obtain ⟨v1, r1, e1, rv1, hr⟩ := hr.consE
  obtain ⟨v2, r2, rfl, rv2, hr⟩ := hr.consE
  obtain ⟨v3, r3, rfl, rv3, hr⟩ := hr.consE
  obtain rfl := hr.nilE
  refine wpAny_assign_Tuple ok.handled hi (by rw [← Array.length_toList, e1]; rfl) rfl fun h' he => ?_
  rw [e1]
  have gr := Gr.ext (s := s) he
  have st := gr.stp mu
  refine wpAny_assignInOrder_more (wpAny_assign_Name (store_ok ok (hs.gr gr) (rv1.mono st) (fun s1 hs1 st1 => ?_) hx))
  refine wpAny_assignInOrder_more (wpAny_assign_Name (store_ok ok hs1 (rv2.mono (st.trans st1)) (fun s2 hs2 st2 => ?_) hy))
  refine wpAny_assignInOrder_more (wpAny_assign_Name (store_ok ok hs2 (rv3.mono (st.trans (st1.trans st2))) (fun s3 hs3 st3 => ?_) hz))
  exact wpAny_assignInOrder_none ⟨_, hs3, st.trans (st1.trans (st2.trans st3)), h⟩

/-- x, y = (a, b): the stores swapped -/
theorem SX_swap2 {x y : Str} {p q r r' : Pos} {k k' : Nat} {vs : List PySem.Expr} {Q : Fl → AS → Prop} (ok : FxOk w names Φ)
    (h : EX w Φ (.Tuple vs k' r') ⟨mu, ρ, g⟩ fun t g1 => ∃ d e, t = .tup [d, e] ∧ Q .next ⟨mu, (x, d) :: (y, e) :: ρ, g1⟩)
    (hsw : swappedStores [.Tuple [.Name x p, .Name y q] k r] (.Tuple vs k' r') (envN names) = pure (some [x, y]) := by rfl) (hx : names.lookup x = some .local := by rfl) (hy : names.lookup y = some .local := by rfl) :
    SX w Φ (.Assign [.Tuple [.Name x p, .Name y q] k r] (.Tuple vs k' r') pos) ⟨mu, ρ, g⟩ Q := by
  intro s hs
  refine Assign_Tuple_swapped (names := [x, y]) (wpAny_mono (h s hs) (fun v s1 => ?_) fun _ _ x => x) rfl (swp_ok ok hsw)
  rintro ⟨t, g1, rt, hs1, st1, d, e, rfl, hq⟩
  obtain ⟨a, items, rfl, _, hi, hr⟩ := rt.tupE
  obtain ⟨v1, r1, e1, rv1, hr⟩ := hr.consE
  obtain ⟨v2, r2, rfl, rv2, hr⟩ := hr.consE
  obtain rfl := hr.nilE
  have hsz : items.size = 2 := by rw [← Array.length_toList, e1]; rfl
  show wpAny _ _ (unpackItems (.ref a) 2 none) _ _ _
  rw [← hsz]
  refine wpAny_unpackItems_tuple ok.handled hi fun h' he => ?_
  rw [e1]
  have gr := Gr.ext (s := s1) he
  have st := gr.stp mu
  refine wpAny_assignInOrder_more (wpAny_bindName (store_ok ok (hs1.gr gr) (rv2.mono st) (fun s2 hs2 st2 => ?_) hy))
  refine wpAny_assignInOrder_more (wpAny_bindName (store_ok ok hs2 (rv1.mono (st.trans st2)) (fun s3 hs3 st3 => ?_) hx))
  exact wpAny_assignInOrder_none ⟨.next, _, by simp only [FlRep], hs3, st1.trans (st.trans (st2.trans st3)), hq⟩
theorem SX_swap3 {x y z : Str} {p q q' r r' : Pos} {k k' : Nat} {vs : List PySem.Expr} {Q : Fl → AS → Prop} (ok : FxOk w names Φ)
    (h : EX w Φ (.Tuple vs k' r') ⟨mu, ρ, g⟩ fun t g1 => ∃ d e f, t = .tup [d, e, f] ∧ Q .next ⟨mu, (x, d) :: (y, e) :: (z, f) :: ρ, g1⟩)
    (hsw : swappedStores [.Tuple [.Name x p, .Name y q, .Name z q'] k r] (.Tuple vs k' r') (envN names) = pure (some [x, y, z]) := by rfl) (hx : names.lookup x = some .local := by rfl) (hy : names.lookup y = some .local := by rfl) (hz : names.lookup z = some .local := by rfl) :
    SX w Φ (.Assign [.Tuple [.Name x p, .Name y q, .Name z q'] k r] (.Tuple vs k' r') pos) ⟨mu, ρ, g⟩ Q := by
  intro s hs
  refine Assign_Tuple_swapped (names := [x, y, z]) (wpAny_mono (h s hs) (fun v s1 => ?_) fun _ _ x => x) rfl (swp_ok ok hsw)
  rintro ⟨t, g1, rt, hs1, st1, d, e, f, rfl, hq⟩
  obtain ⟨a, items, rfl, _, hi, hr⟩ := rt.tupE
  obtain ⟨v1, r1, e1, rv1, hr⟩ := hr.consE
  obtain ⟨v2, r2, rfl, rv2, hr⟩ := hr.consE
  obtain ⟨v3, r3, rfl, rv3, hr⟩ := hr.consE
  obtain rfl := hr.nilE
  have hsz : items.size = 3 := by rw [← Array.length_toList, e1]; rfl
  show wpAny _ _ (unpackItems (.ref a) 3 none) _ _ _
  rw [← hsz]
  refine wpAny_unpackItems_tuple ok.handled hi fun h' he => ?_
  rw [e1]
  have gr := Gr.ext (s := s1) he
  have st := gr.stp mu
  refine wpAny_assignInOrder_more (wpAny_bindName (store_ok ok (hs1.gr gr) (rv3.mono st) (fun s2 hs2 st2 => ?_) hz))
  refine wpAny_assignInOrder_more (wpAny_bindName (store_ok ok hs2 (rv2.mono (st.trans st2)) (fun s3 hs3 st3 => ?_) hy))
  refine wpAny_assignInOrder_more (wpAny_bindName (store_ok ok hs3 (rv1.mono (st.trans (st2.trans st3))) (fun s4 hs4 st4 => ?_) hx))
  exact wpAny_assignInOrder_none ⟨.next, _, by simp only [FlRep], hs4, st1.trans (st.trans (st2.trans (st3.trans st4))), hq⟩

/-- x += e -/
theorem SX_iadd {x : Str} {p : Pos} {e : PySem.Expr} {i : Int} {Q : Fl → AS → Prop} (ok : FxOk w names Φ) (hr : ρ.lookup x = some (.int i))
    (h : EX w Φ e ⟨mu, ρ, g⟩ fun d g1 => ∃ j, d = .int j ∧ Q .next ⟨mu, (x, .int (i + j)) :: ρ, g1⟩) (hl : names.lookup x = some .local := by rfl) : SX w Φ (.AugAssign (.Name x p) .Add e pos) ⟨mu, ρ, g⟩ Q := by
  intro s hs
  obtain ⟨m, hn, hm⟩ := hs.sat.locals
  obtain ⟨v, hv, rv⟩ := hm x _ hr
  obtain ⟨t, rfl⟩ := rv.intE
  refine wpAny_AugAssign_Name (wpAny_loadName_local ok.kind ((ok.kinds x).trans hl) (ok.locals ▸ hn) hv (wpAny_mono (h s hs) (fun v s1 => ?_) fun _ _ x => x))
  rintro ⟨d, g1, rd, hs1, st1, j, rfl, hq⟩
  obtain ⟨u, rfl⟩ := rd.intE
  exact iadd_int (store_ok ok (hs1.gr .tok) Rep.int' (fun s' hs' st' => ⟨.next, _, by simp only [FlRep], hs', st1.trans ((Gr.tok.stp _).trans st'), hq⟩) hl)
theorem SX_isub {x : Str} {p : Pos} {e : PySem.Expr} {i : Int} {Q : Fl → AS → Prop} (ok : FxOk w names Φ) (hr : ρ.lookup x = some (.int i))
    (h : EX w Φ e ⟨mu, ρ, g⟩ fun d g1 => ∃ j, d = .int j ∧ Q .next ⟨mu, (x, .int (i - j)) :: ρ, g1⟩) (hl : names.lookup x = some .local := by rfl) : SX w Φ (.AugAssign (.Name x p) .Sub e pos) ⟨mu, ρ, g⟩ Q := by
  intro s hs
  obtain ⟨m, hn, hm⟩ := hs.sat.locals
  obtain ⟨v, hv, rv⟩ := hm x _ hr
  obtain ⟨t, rfl⟩ := rv.intE
  refine wpAny_AugAssign_Name (wpAny_loadName_local ok.kind ((ok.kinds x).trans hl) (ok.locals ▸ hn) hv (wpAny_mono (h s hs) (fun v s1 => ?_) fun _ _ x => x))
  rintro ⟨d, g1, rd, hs1, st1, j, rfl, hq⟩
  obtain ⟨u, rfl⟩ := rd.intE
  exact isub_int (store_ok ok (hs1.gr .tok) Rep.int' (fun s' hs' st' => ⟨.next, _, by simp only [FlRep], hs', st1.trans ((Gr.tok.stp _).trans st'), hq⟩) hl)

/-- fewer names -/
def Sub : List (Str × V) → List (Str × V) → Prop
  | [], _ => True
  | p :: r, ρ => ρ.lookup p.1 = some p.2 ∧ Sub r ρ
theorem Sub.of : ∀ {ρ' ρ : List (Str × V)}, Sub ρ' ρ → ∀ x d, ρ'.lookup x = some d → ρ.lookup x = some d
  | [], _, _, _, _, e => by simp at e
  | (y, c) :: r, ρ, h, x, d, e => by
    simp only [List.lookup_cons] at e
    cases q : x == y with
    | true =>
      simp only [q, Option.some.injEq] at e
      rw [eq_of_beq q, ← e]; exact h.1
    | false => simp only [q] at e; exact Sub.of h.2 x d e
theorem SatS.weaken {s : Shared} {ρ' : List (Str × V)} (hs : SatS Φ ⟨mu, ρ, g⟩ s) (h : Sub ρ' ρ) : SatS Φ ⟨mu, ρ', g⟩ s :=
  ⟨{ hs.sat with locals := let ⟨m, hn, hm⟩ := hs.sat.locals; ⟨m, hn, fun x d e => hm x d (h.of x d e)⟩ }, hs.gens, hs.os⟩

/-- while -/
theorem SX_while {test : PySem.Expr} {body : List Stmt} {Q : Fl → AS → Prop} (I : Nat → List (Str × V) → List (Addr × List V) → Prop) (n : Nat) (ρ0 : List (Str × V)) (hsub : Sub ρ0 ρ) (h0 : I n ρ0 g)
    (h : ∀ n mu ρ g, I n ρ g → IT w Φ test ⟨mu, ρ, g⟩ fun c g1 => if c = true then SS w Φ body ⟨mu, ρ, g1⟩ (fun f S' => match f with
      | .next => ∃ m ρ', m < n ∧ Sub ρ' S'.rho ∧ I m ρ' S'.sig
      | .cont => ∃ m ρ', m < n ∧ Sub ρ' S'.rho ∧ I m ρ' S'.sig
      | .brk => Q .next S' | .ret d => Q (.ret d) S') else Q .next ⟨mu, ρ, g1⟩) :
    SX w Φ (.While test body [] pos) ⟨mu, ρ, g⟩ Q := by
  intro s hs
  refine wpAny_While (codeAny_whileLoop (fun n s' => ∃ S' : AS, I n S'.rho S'.sig ∧ SatS Φ S' s' ∧ Stp mu S'.mu s.heap s'.heap) (fun n s1 hI => ?_) n ⟨⟨mu, ρ0, g⟩, h0, hs.weaken hsub, Stp.rfl'⟩)
  obtain ⟨⟨mu1, ρ1, g1⟩, hI, hs1, st1⟩ := hI
  refine wpAny_mono (h n mu1 ρ1 g1 hI s1 hs1) (fun c s2 => ?_) fun _ _ x => x.elim
  rintro ⟨g2, hs2, st2, hq⟩
  cases c
  · simp only [Bool.false_eq_true, if_false] at hq ⊢
    exact wpAny_execs_nil ⟨.next, _, by simp only [FlRep], hs2, st1.trans st2, hq⟩
  · simp only [if_true] at hq ⊢
    refine wpAny_mono (hq s2 hs2) (fun f s3 => ?_) fun _ _ x => x.elim
    rintro ⟨fd, ⟨mu3, ρ3, g3⟩, rf, hs3, st3, hq⟩
    cases fd with
    | next => simp only [FlRep] at rf; subst rf; obtain ⟨m, ρ', hm, hsub, hI⟩ := hq; exact ⟨m, hm, ⟨mu3, ρ', g3⟩, hI, hs3.weaken hsub, st1.trans (st2.trans st3)⟩
    | cont => simp only [FlRep] at rf; subst rf; obtain ⟨m, ρ', hm, hsub, hI⟩ := hq; exact ⟨m, hm, ⟨mu3, ρ', g3⟩, hI, hs3.weaken hsub, st1.trans (st2.trans st3)⟩
    | brk => simp only [FlRep] at rf; subst rf; exact ⟨.next, _, by simp only [FlRep], hs3, st1.trans (st2.trans st3), hq⟩
    | ret d =>
      have rf' := rf
      simp only [FlRep] at rf; obtain ⟨v, rfl, rv⟩ := rf; exact ⟨.ret d, _, rf', hs3, st1.trans (st2.trans st3), hq⟩

end rules

/-- an iterator at the place it -/
structure ItP (w : World) (it : Addr) (It : (Addr → Prop) → Heap → List V → Prop) : Prop where
  frame : ∀ mu mu' h h' l, It mu h l → Stp mu mu' h h' → (∀ o, h.get? it = some o → h'.get? it = some o) → It mu' h' l
  live : ∀ mu h l, It mu h l → ∃ o, h.get? it = some o
  item : ∀ A mu s d r, A.handled = none → mu it → It mu s.heap (d :: r) → wpAny (Mod w) A (pyNext (.ref it)) (fun x s' => ∃ v, x = some v ∧ s'.gens = s.gens ∧ s'.os = s.os ∧ Heap.SameBut it s.heap s'.heap ∧ It mu s'.heap r ∧ Rep mu s'.heap d v) noE s
  fin : ∀ A mu s, A.handled = none → It mu s.heap [] → wpAny (Mod w) A (pyNext (.ref it)) (fun x s' => x = none ∧ s'.gens = s.gens ∧ s'.os = s.os ∧ Heap.ExtBut it s.heap s'.heap) noE s
  own : ∀ mu h l A s elts k pos v, It mu h l → s.heap = h → ∀ Q : Unit → Shared → Prop, Q () s → wpAny (Mod w) A (letOwnedTupleGo (.Tuple elts k pos) (.ref it) v) Q noE s

def ItOf (w : World) (d : V) (l : List V) : Prop :=
  ∀ (A : Around) (mu : Addr → Prop) (s : Shared) (v : Value), A.handled = none → (∀ b, mu b → ∃ o, s.heap.get? b = some o) → Rep mu s.heap d v →
    wpAny (Mod w) A (pyIter v) (fun x s' => ∃ it It, x = .ref it ∧ Gr s s' ∧ s.heap.get? it = none ∧ ItP w it It ∧ It (fun b => mu b ∨ b = it) s'.heap l) noE s

theorem get_size {h : Heap} : h.get? h.objs.size = none := by
  cases e : h.get? h.objs.size with
  | none => rfl
  | some o => exact absurd (Heap.lt_size e) (Nat.lt_irrefl _)

theorem own_of {w : World} {A : Around} {s : Shared} {it : Addr} {o : Obj} {n : String} {vs : Array Value} {elts : List PySem.Expr} {k : Nat} {pos : Pos} {v : Value} {Q : Unit → Shared → Prop} (ho : s.heap.get? it = some o) (hc : o.cls = .type n) (hd : o.data = .fields vs)
    (hn : (["enumerate", "zip", "dict_itemiterator", "dict_reverseitemiterator", "odict_iterator", "itertools.zip_longest", "itertools.pairwise"].contains n) = false) (h : Q () s) : wpAny (Mod w) A (letOwnedTupleGo (.Tuple elts k pos) (.ref it) v) Q noE s := by
  cases v with
  | ref T =>
    show wpAny _ _ (load it >>= _) _ _ _
    refine wpAny_bind (wpAny_load ho ?_)
    rw [hc, hd]
    dsimp only
    rw [hn]
    exact wpAny_pure h
  | _ => exact wpAny_pure h

def ListIt (it : Addr) (mu : Addr → Prop) (h : Heap) (l : List V) : Prop :=
  ∃ a items i, h.IsListIter it a i ∧ ¬ mu a ∧ h.IsList a items ∧ RepL mu h l (items.toList.drop i)
theorem drop_cons {α : Type} {l : List α} {i : Nat} {x : α} {r : List α} (h : l.drop i = x :: r) : l[i]? = some x ∧ l.drop (i + 1) = r := by
  have h1 : l[i]? = some x := by
    have := congrArg List.head? h
    simpa [List.head?_drop] using this
  refine ⟨h1, ?_⟩
  have h2 := congrArg List.tail h
  simpa [List.tail_drop] using h2

theorem ListIt.p {w : World} {it : Addr} : ItP w it (ListIt it) where
  frame := by
    rintro mu mu' h h' l ⟨a, items, i, ⟨o, ho, r⟩, n, ⟨o', ho', r'⟩, hl⟩ st k
    exact ⟨a, items, i, ⟨o, k o ho, r⟩, (st a o' ho' n).2, ⟨o', (st a o' ho' n).1, r'⟩, hl.mono st⟩
  live := by rintro mu h l ⟨a, items, i, ⟨o, ho, r⟩, _⟩; exact ⟨o, ho⟩
  item := by
    rintro A mu s d r hA hm ⟨a, items, i, hit, n, hi, hl⟩
    obtain ⟨v, vs, e, rv, rr⟩ := hl.consE
    obtain ⟨e1, e2⟩ := drop_cons e
    refine wpAny_pyNext_list_item hit hi (x := v) (by rw [← Array.getElem?_toList]; exact e1) fun h' hit' sb => ?_
    have st : Stp mu mu s.heap h' := fun b o e n => ⟨(sb.2 b (by rintro rfl; exact n hm)).trans e, n⟩
    obtain ⟨o', ho', r'⟩ := hi
    exact ⟨v, rfl, rfl, rfl, sb, ⟨a, items, i + 1, hit', n, ⟨o', (st a o' ho' n).1, r'⟩, by rw [e2]; exact rr.mono st⟩, rv.mono st⟩
  fin := by
    rintro A mu s hA ⟨a, items, i, hit, n, hi, hl⟩
    have e := hl.nilE
    refine wpAny_pyNext_list_end hA hit hi ?_ fun h' he => ⟨rfl, rfl, rfl, he⟩
    rw [← Array.getElem?_toList]
    exact List.getElem?_eq_none (by simpa using List.drop_eq_nil_iff.mp e)
  own := by
    rintro mu h l A s elts k pos v ⟨a, items, i, ⟨o, ho, hc, hd⟩, _⟩ rfl Q hq
    exact own_of ho hc hd (by decide) hq

/-- signs, one by one -/
def signs (x : Str) : List V := x.cps.toList.map fun c => .str ⟨#[c]⟩
def StrIt (it : Addr) (mu : Addr → Prop) (h : Heap) (l : List V) : Prop :=
  ∃ x t i ty, (ty = "str_ascii_iterator" ∨ ty = "str_iterator") ∧ h.IsStrIter it ty x t i ∧ l = (signs x).drop i
theorem StrIt.p {w : World} {it : Addr} : ItP w it (StrIt it) where
  frame := by
    rintro mu mu' h h' l ⟨x, t, i, ty, hty, ⟨o, ho, r⟩, e⟩ st k
    exact ⟨x, t, i, ty, hty, ⟨o, k o ho, r⟩, e⟩
  live := by rintro mu h l ⟨x, t, i, ty, hty, ⟨o, ho, r⟩, e⟩; exact ⟨o, ho⟩
  item := by
    rintro A mu s d r hA hm ⟨x, t, i, ty, hty, hit, e⟩
    obtain ⟨e1, e2⟩ := drop_cons e.symm
    simp only [signs, List.getElem?_map, Option.map_eq_some_iff] at e1
    obtain ⟨c, hc, rfl⟩ := e1
    have hc' : x.cps[i]? = some c := by rw [← Array.getElem?_toList]; exact hc
    rcases hty with rfl | rfl
    · refine wpAny_pyNext_ascii_item hit hc' fun h' hit' sb => ⟨_, rfl, rfl, rfl, sb, ⟨x, t, i + 1, _, .inl rfl, hit', e2.symm⟩, Rep.str'⟩
    · refine wpAny_pyNext_wide_item hit hc' fun h' hit' sb => ⟨_, rfl, rfl, rfl, sb, ⟨x, t, i + 1, _, .inr rfl, hit', e2.symm⟩, Rep.str'⟩
  fin := by
    rintro A mu s hA ⟨x, t, i, ty, hty, hit, e⟩
    have hn : x.cps[i]? = none := by
      have := List.drop_eq_nil_iff.mp e.symm
      simp only [signs, List.length_map, Array.length_toList] at this
      exact Array.getElem?_eq_none this
    rcases hty with rfl | rfl
    · exact wpAny_pyNext_ascii_end hA hit hn fun h' he => ⟨rfl, rfl, rfl, he⟩
    · exact wpAny_pyNext_wide_end hA hit hn fun h' he => ⟨rfl, rfl, rfl, he⟩
  own := by
    rintro mu h l A s elts k pos v ⟨x, t, i, ty, hty, ⟨o, ho, hc, hd⟩, e⟩ rfl Q hq
    rcases hty with rfl | rfl <;> exact own_of ho hc hd (by decide) hq

theorem ItOf.lst {w : World} {l : List V} : ItOf w (.lst l) l := by
  intro A mu s v hA hm rv
  obtain ⟨a, items, rfl, n, ⟨o, ho, r⟩, hl⟩ := rv.lstE
  refine wpAny_pyIter_list ⟨o, ho, r⟩ ⟨s.heap.objs.size, ListIt s.heap.objs.size, rfl, Gr.push, get_size, ListIt.p, a, items, 0, ⟨_, Heap.get?_push_size _ rfl, rfl, rfl⟩, fun c => c.elim n (Nat.ne_of_lt (Heap.lt_size ho)), ⟨o, Heap.get?_push_of_some _ ho, r⟩, ?_⟩
  rw [List.drop_zero]
  exact hl.mono fun b o e n => ⟨Heap.get?_push_of_some _ e, fun c => c.elim n (Nat.ne_of_lt (Heap.lt_size e))⟩
theorem ItOf.str {w : World} {x : Str} : ItOf w (.str x) (signs x) := by
  intro A mu s v hA hm rv
  obtain ⟨t, rfl⟩ := rv.strE
  have fin : ∀ ty, (ty = "str_ascii_iterator" ∨ ty = "str_iterator") → ∃ it It, (Value.ref s.heap.objs.size) = .ref it ∧ Gr s { s with heap := s.heap.push { cls := .type ty, data := .fields #[.str x t, .int 0 0] } } ∧ s.heap.get? it = none ∧ ItP w it It ∧ It (fun b => mu b ∨ b = it) (s.heap.push { cls := .type ty, data := .fields #[.str x t, .int 0 0] }) (signs x) :=
    fun ty hty => ⟨s.heap.objs.size, StrIt s.heap.objs.size, rfl, Gr.push, get_size, StrIt.p, x, t, 0, ty, hty, ⟨_, Heap.get?_push_size _ rfl, rfl, rfl⟩, rfl⟩
  cases hx : x.cps.all (fun x => decide (x < 128)) with
  | true => exact wpAny_pyIter_ascii hx (fin _ (.inl rfl))
  | false => exact wpAny_pyIter_wide hx (fin _ (.inr rfl))

section rules
variable {w : World} {Φ : Fx} {names : List (Str × NameKind)} {mu : Addr → Prop} {ρ : List (Str × V)} {g : List (Addr × List V)} {pos : Pos}

theorem Sat.poke {S : AS} {h h' : Heap} {a : Addr} (x : Sat Φ S h) (sb : Heap.ExtBut a h h') (hm : S.mu a) (hL : Φ.L ≠ a) (hg : ∀ p ∈ S.sig, p.1 ≠ a) (hi : a ∈ Φ.nu ∨ Φ.hin.get? a = none) (hp : ∀ p ∈ Φ.pin, p.1 ≠ a) (lv : ∃ o, h'.get? a = some o) : Sat Φ S h' where
  keepB b o e := sb b o (by rintro rfl; exact x.muB _ _ e hm) (x.keepB b o e)
  keepIn b o e n := sb b o (by rintro rfl; rcases hi with c | c; exact n c; rw [c] at e; cases e) (x.keepIn b o e n)
  muB := x.muB
  muLive b hb := by
    by_cases c : b = a
    · subst c; exact lv
    · obtain ⟨o, e⟩ := x.muLive b hb; exact ⟨o, sb b o c e⟩
  sup := x.sup
  muL := x.muL
  locals := by
    obtain ⟨m, ⟨o, es, ep, ho, r⟩, hm'⟩ := x.locals
    refine ⟨m, ⟨o, es, ep, sb _ _ hL ho, r⟩, fun y d e => ?_⟩
    obtain ⟨v, hv, rv⟩ := hm' y d e
    exact ⟨v, hv, rv.mono fun b o e n => ⟨sb b o (by rintro rfl; exact n hm) e, n⟩⟩
  store := x.store.step (fun b o e n => ⟨sb b o (by rintro rfl; exact n hm) e, n⟩) (fun p hp o e => sb _ _ (hg p hp) e) x.store.mu
  offL := x.offL
  may := x.may
  pins p hp' := let ⟨a1, b, c, d⟩ := x.pins p hp'; ⟨sb _ _ (hp p hp') a1, b, c, d⟩

/-- for t in e: body -/
theorem SX_for {t e : PySem.Expr} {body : List Stmt} {Q : Fl → AS → Prop} (I : List V → List (Str × V) → List (Addr × List V) → Prop) (ρ0 : List (Str × V)) (ok : FxOk w names Φ) (hsub : Sub ρ0 ρ)
    (h : EX w Φ e ⟨mu, ρ, g⟩ fun d g1 => ∃ l, ItOf w d l ∧ I l ρ0 g1)
    (turn : ∀ Φ', FxOk w names Φ' → Φ'.B = Φ.B → Φ'.n = Φ.n → ∀ d r mu ρ g, I (d :: r) ρ g → TG w Φ' t d ⟨mu, ρ, g⟩ fun S1 => SS w Φ' body S1 fun f S' => match f with
      | .next => ∃ ρ', Sub ρ' S'.rho ∧ I r ρ' S'.sig
      | .cont => ∃ ρ', Sub ρ' S'.rho ∧ I r ρ' S'.sig
      | .brk => Q .next S' | .ret d => Q (.ret d) S')
    (fin : ∀ ρ g, I [] ρ g → ∀ mu', Q .next ⟨mu', ρ, g⟩)
    (ht : (∃ x p, t = .Name x p) ∨ (∃ es k p, t = .Tuple es k p))
    (hs : ∀ x, foldedSetIterable e Φ.env x = pure x := by intro _; rfl) : SX w Φ (.For t e body [] pos) ⟨mu, ρ, g⟩ Q := by
  intro s hs0
  refine wpAny_For (wpAny_mono (h s hs0) (fun v s1 => ?_) fun _ _ x => x) hs
  rintro ⟨d, g1, rd, hs1, st1, l, hit, hI⟩
  refine wpAny_mono (hit Φ.A mu s1 v ok.handled hs1.sat.muLive rd) (fun x s2 => ?_) fun _ _ x => x
  rintro ⟨it, It, rfl, gr, hfresh, P, hIt⟩
  have hs2 := hs1.gr gr
  have old : ∀ b o, s1.heap.get? b = some o → b ≠ it := fun b o e c => by rw [c, hfresh] at e; cases e
  have muOld : ∀ b, mu b → b ≠ it := fun b hb => let ⟨o, e⟩ := hs1.sat.muLive b hb; old b o e
  have stI : Stp mu (fun b => mu b ∨ b = it) s1.heap s2.heap := fun b o e n => ⟨gr.keep b o e, fun c => c.elim n (old b o e)⟩
  have offB : Φ.B.get? it = none := by
    cases e : Φ.B.get? it with
    | none => rfl
    | some o => exact absurd rfl (old _ _ (hs1.sat.keepB _ _ e))
  have sat0 : SatS Φ ⟨fun b => mu b ∨ b = it, ρ, g1⟩ s2 := ⟨{ hs2.sat with
      muB := fun b o e c => c.elim (hs2.sat.muB b o e) fun c => by rw [c, offB] at e; cases e
      muLive := fun b c => c.elim (hs2.sat.muLive b) fun c => by rw [c]; exact P.live _ _ _ hIt
      sup := fun b c => .inl (hs2.sat.sup b c)
      muL := .inl hs2.sat.muL
      locals := by
        obtain ⟨m, ⟨o, es, ep, ho, r⟩, hm⟩ := hs1.sat.locals
        refine ⟨m, ⟨o, es, ep, gr.keep _ _ ho, r⟩, fun y d e => ?_⟩
        obtain ⟨v, hv, rv⟩ := hm y d e
        exact ⟨v, hv, rv.mono stI⟩
      store := hs1.sat.store.step stI (fun p _ o e => gr.keep _ _ e) fun p hp => .inl (hs1.sat.store.mu p hp)
      pins := fun p hp => let ⟨a, b, c, d⟩ := hs2.sat.pins p hp; ⟨a, .inl b, c, d⟩ }, hs2.gens, hs2.os⟩
  have sigOld : ∀ p ∈ g1, p.1 ≠ it := fun p hp => muOld _ (hs1.sat.store.mu p hp)
  have LOld : Φ.L ≠ it := muOld _ hs1.sat.muL
  have offIn : it ∉ Φ.nu → Φ.hin.get? it = none := fun hn => by
    cases e : Φ.hin.get? it with
    | none => rfl
    | some o => exact absurd rfl (old _ _ (hs1.sat.keepIn _ _ e hn))
  have nuOld : ∀ b o, Φ.hin.get? b = some o → b ∉ Φ.nu → b ≠ it := fun b o e n => old b o (hs1.sat.keepIn b o e n)
  have inIt : it ∈ Φ.nu ∨ Φ.hin.get? it = none := by
    by_cases c : it ∈ Φ.nu
    · exact .inl c
    · exact .inr (offIn c)
  have pinOld : ∀ p ∈ Φ.pin, p.1 ≠ it := fun p hp => muOld _ (hs1.sat.pins p hp).2.1
  have hti : ∀ (s' : Shared) (S : AS) (l : List V) (v : Value) (Q : Unit → Shared → Prop), It S.mu s'.heap l → Q () s' → wpAny (Mod w) Φ.A (letOwnedTupleGo t (.ref it) v) Q noE s' := by
    intro s' S l v Q hI hq
    rcases ht with ⟨x, p, rfl⟩ | ⟨es, k, p, rfl⟩
    · exact wpAny_pure hq
    · exact P.own _ _ _ _ _ _ _ _ _ hI rfl _ hq
  refine codeAny_forLoop_any (fun n s' => ∃ l, ∃ S : AS, n = l.length ∧ I l S.rho S.sig ∧ SatS Φ S s' ∧ It S.mu s'.heap l ∧ S.mu it ∧ Stp mu S.mu s.heap s'.heap ∧ ∀ p ∈ S.sig, p.1 ≠ it) (fun n s3 hJ => ?_) l.length ⟨l, ⟨_, ρ0, g1⟩, rfl, hI, sat0.weaken hsub, hIt, .inr rfl, st1.trans stI, sigOld⟩
  obtain ⟨l', S, rfl, hI', hs3, hIt', hmit, st3, hsg⟩ := hJ
  cases l' with
  | nil =>
    refine wpAny_mono (P.fin Φ.A S.mu s3 ok.handled hIt') (fun x s4 => ?_) fun _ _ x => x.elim
    rintro ⟨rfl, hg, hos, ext⟩
    have stE : Stp S.mu (fun b => S.mu b ∧ b ≠ it) s3.heap s4.heap := fun b o e n => ⟨ext b o (by rintro rfl; exact n hmit) e, fun c => n c.1⟩
    refine wpAny_execs_nil ⟨.next, ⟨fun b => S.mu b ∧ b ≠ it, S.rho, S.sig⟩, by simp only [FlRep], ⟨?_, hg.trans hs3.gens, hos.trans hs3.os⟩, st3.trans stE, fin _ _ hI' _⟩
    exact
    { keepB := fun b o e => ext b o (by rintro rfl; rw [offB] at e; cases e) (hs3.sat.keepB b o e)
      keepIn := fun b o e n => ext b o (nuOld b o e n) (hs3.sat.keepIn b o e n)
      muB := fun b o e c => hs3.sat.muB b o e c.1
      muLive := fun b c => let ⟨o, e⟩ := hs3.sat.muLive b c.1; ⟨o, ext b o c.2 e⟩
      sup := fun b c => ⟨hs3.sat.sup b c, muOld b (hs1.sat.sup b c)⟩
      muL := ⟨hs3.sat.muL, LOld⟩
      locals := by
        obtain ⟨m, ⟨o, es, ep, ho, r⟩, hm⟩ := hs3.sat.locals
        refine ⟨m, ⟨o, es, ep, ext _ _ LOld ho, r⟩, fun y d e => ?_⟩
        obtain ⟨v, hv, rv⟩ := hm y d e
        exact ⟨v, hv, rv.mono stE⟩
      store := hs3.sat.store.step stE (fun p hp o e => ext _ _ (hsg p hp) e) fun p hp => ⟨hs3.sat.store.mu p hp, hsg p hp⟩
      offL := hs3.sat.offL
      may := hs3.sat.may
      pins := fun p hp => let ⟨a, b, c, d⟩ := hs3.sat.pins p hp; ⟨ext _ _ (pinOld p hp) a, ⟨b, pinOld p hp⟩, c, d⟩ }
  | cons d r =>
    refine wpAny_mono (P.item Φ.A S.mu s3 d r ok.handled hmit hIt') (fun x s4 => ?_) fun _ _ x => x.elim
    rintro ⟨v, rfl, hg, hos, sb, hIt4, rv⟩
    obtain ⟨o4, ho4⟩ := P.live _ _ _ hIt4
    have hs4 : SatS Φ S s4 := ⟨hs3.sat.poke sb.extBut hmit LOld hsg inIt pinOld ⟨o4, ho4⟩, hg.trans hs3.gens, hos.trans hs3.os⟩
    have st34 : Stp S.mu S.mu s3.heap s4.heap := fun b o e n => ⟨(sb.2 b (by rintro rfl; exact n hmit)).trans e, n⟩
    refine wpAny_mono (hti s4 S r v (fun _ s' => s' = s4) hIt4 rfl) (fun _ s4' e4 => ?_) fun _ _ x => x.elim
    subst e4
    let Φ' : Fx := { Φ with pin := (it, o4) :: Φ.pin }
    have ok' : FxOk w names Φ' := ⟨ok.wd, ok.handled, ok.depth, ok.units, ok.hL, ok.hB, ok.locals, ok.globals, ok.builtins, ok.kind, ok.kinds, ok.nodebug⟩
    have pin' : ∀ p ∈ Φ'.pin, s4'.heap.get? p.1 = some p.2 ∧ S.mu p.1 ∧ p.1 ≠ Φ.L ∧ ∀ q ∈ S.sig, q.1 ≠ p.1 := by
      intro p hp
      rcases List.mem_cons.mp hp with rfl | hp
      · exact ⟨ho4, hmit, Ne.symm LOld, hsg⟩
      · exact hs4.sat.pins p hp
    have hs4' : SatS Φ' S s4' := ⟨{ hs4.sat with pins := pin' }, hs4.gens, hs4.os⟩
    refine wpAny_mono (turn Φ' ok' rfl rfl d r S.mu S.rho S.sig hI' s4' v hs4' rv) (fun _ s5 => ?_) fun _ _ x => x.elim
    rintro ⟨S5, hs5, st5, hb⟩
    refine wpAny_mono (hb s5 hs5) (fun f s6 => ?_) fun _ _ x => x.elim
    rintro ⟨fd, S6, rf, hs6, st6, hq⟩
    have hpin := hs6.sat.pins (it, o4) (.head _)
    have hs6' : SatS Φ S6 s6 := ⟨{ hs6.sat with pins := fun p hp => hs6.sat.pins p (.tail _ hp) }, hs6.gens, hs6.os⟩
    have hIt6 : It S6.mu s6.heap r := P.frame _ _ _ _ _ hIt4 (st5.trans st6) fun o e => by rw [ho4] at e; cases e; exact hpin.1
    have st36 : Stp mu S6.mu s.heap s6.heap := st3.trans (st34.trans (st5.trans st6))
    cases fd with
    | next => simp only [FlRep] at rf; subst rf; obtain ⟨ρ', hsub, hI6⟩ := hq; exact ⟨r.length, by simp, r, ⟨S6.mu, ρ', S6.sig⟩, rfl, hI6, hs6'.weaken hsub, hIt6, hpin.2.1, st36, hpin.2.2.2⟩
    | cont => simp only [FlRep] at rf; subst rf; obtain ⟨ρ', hsub, hI6⟩ := hq; exact ⟨r.length, by simp, r, ⟨S6.mu, ρ', S6.sig⟩, rfl, hI6, hs6'.weaken hsub, hIt6, hpin.2.1, st36, hpin.2.2.2⟩
    | brk => simp only [FlRep] at rf; subst rf; exact ⟨.next, S6, by simp only [FlRep], hs6', st36, hq⟩
    | ret d =>
      have rf' := rf
      simp only [FlRep] at rf; obtain ⟨v, rfl, rv⟩ := rf; exact ⟨.ret d, S6, rf', hs6', st36, hq⟩
end rules

theorem Fn.mono {w : World} {B : Heap} {f : Addr} {n : Nat} {a : List V} {sg : List (Addr × List V)} {Q Q' : V → List (Addr × List V) → Prop} (h : Fn w B f n a sg Q) (k : ∀ d g, Q d g → Q' d g) : Fn w B f n a sg Q' :=
  fun A mu s vals h1 h2 h3 h4 h5 h6 h7 h8 => codeAny_mono (h A mu s vals h1 h2 h3 h4 h5 h6 h7 h8) fun r s' ⟨v, d, g, a, b, c, e, f, i, j, q⟩ => ⟨v, d, g, a, b, c, e, f, i, j, k d g q⟩
theorem Fn.eqk {w : World} {B : Heap} {f : Addr} {n : Nat} {a : List V} {sg : List (Addr × List V)} {X : V} {Q : V → List (Addr × List V) → Prop} (h : Fn w B f n a sg fun d _ => d = X) (k : ∀ g, Q X g) : Fn w B f n a sg Q :=
  h.mono fun d g e => by subst e; exact k g

/-- sizes -/
def Bd (k : Nat) (i : Int) : Prop := i.natAbs < 2 ^ k
theorem Bd.mono {k m : Nat} {i : Int} (h : Bd k i) (hk : k ≤ m) : Bd m i := Nat.lt_of_lt_of_le h (Nat.pow_le_pow_right (by decide) hk)
theorem Bd.mul {k m : Nat} {i j : Int} (h : Bd k i) (h' : Bd m j) : Bd (k + m) (i * j) := by
  unfold Bd at *
  rw [Int.natAbs_mul, Nat.pow_add]
  exact Nat.mul_lt_mul'' h h'
theorem Bd.add {k : Nat} {i j : Int} (h : Bd k i) (h' : Bd k j) : Bd (k + 1) (i + j) := by
  unfold Bd at *
  have := Int.natAbs_add_le i j
  rw [Nat.pow_succ]; omega
theorem Bd.neg {k : Nat} {i : Int} (h : Bd k i) : Bd k (-i) := by unfold Bd at *; omega
theorem Bd.sub {k : Nat} {i j : Int} (h : Bd k i) (h' : Bd k j) : Bd (k + 1) (i - j) := by
  rw [Int.sub_eq_add_neg]; exact h.add h'.neg
theorem Bd.le {k : Nat} {i j : Int} (h : Bd k i) (hj : j.natAbs ≤ i.natAbs) : Bd k j := Nat.lt_of_le_of_lt hj h
theorem Bd.log {k : Nat} {i : Int} (h : Bd k i) (hk : 0 < k) : i.natAbs.log2 < k := by
  by_cases h0 : i.natAbs = 0
  · rw [h0]; simpa using hk
  · exact (Nat.log2_lt h0).mpr h
theorem mulOk_of {k m : Nat} {i j : Int} (h : Bd k i) (h' : Bd m j) (hk : k + m ≤ 134217728) : IntMulOk i j := by
  have h1 := PyProof.Rows.intBits_le h
  have h2 := PyProof.Rows.intBits_le h'
  unfold IntMulOk
  have : Builtin.Int.intTooBig ((Builtin.Int.intBits i + Builtin.Int.intBits j : Nat) : Int) = false := by
    unfold Builtin.Int.intTooBig
    rw [decide_eq_false_iff_not]
    have : (bitsLine : Int) = 134217728 := by decide +kernel
    omega
  intro hc
  simp only [Bool.and_eq_true] at hc
  have h3 := hc.2
  rw [show ((Builtin.Int.intBits i : Int) + (Builtin.Int.intBits j : Int)) = ((Builtin.Int.intBits i + Builtin.Int.intBits j : Nat) : Int) by omega] at h3
  rw [this] at h3
  cases h3

section ops
variable {w : World} {A : Around} {i j : Int} {P : V → Prop}
theorem Bin_fdiv (hj : j ≠ 0) (hb : Bd 9000 j) (h : P (.int (i.fdiv j))) : BinOk w A .FloorDiv (.int i) (.int j) P := by
  intro mu s va vb _ ra rb
  obtain ⟨t, rfl⟩ := ra.intE; obtain ⟨u, rfl⟩ := rb.intE
  exact floordiv_int hj ⟨_, Rep.int', Gr.tok, h⟩ (.inl (PyProof.noPylong_of_log2 (hb.log (by decide))))
theorem Bin_pow (hj : 0 ≤ j) (hi : Bd 64 i) (hs : j ≤ 1000000) (h : P (.int (i ^ j.toNat))) : BinOk w A .Pow (.int i) (.int j) P := by
  intro mu s va vb _ ra rb
  obtain ⟨t, rfl⟩ := ra.intE; obtain ⟨u, rfl⟩ := rb.intE
  have h1 := PyProof.Rows.intBits_le hi
  refine pow_int hj ?_ ⟨_, Rep.int', Gr.tok, h⟩
  have : (Builtin.Int.intBits i : Int) * j ≤ 64 * 1000000 := Int.mul_le_mul (by omega) hs hj (by decide)
  omega
theorem Bin_cat {x y : Str} (hs : x.length + y.length ≤ 1000000) (h : P (.str (x ++ y))) : BinOk w A .Add (.str x) (.str y) P := by
  intro mu s va vb _ ra rb
  obtain ⟨t, rfl⟩ := ra.strE; obtain ⟨u, rfl⟩ := rb.strE
  exact SB.add (fun t' k => ⟨_, Rep.str', Gr.tok, h⟩) (by rw [sizeLine_eq]; omega)
end ops

/-- the names of the text -/
theorem ns_common_divisor (w : World) : nsIn (hd.heap_1 w.params) mainGlobals (Str.ofString "common_divisor") = some (some (.ref 23)) := by rfl
theorem ns_sign_of (w : World) : nsIn (hd.heap_1 w.params) mainGlobals (Str.ofString "sign_of") = some (some (.ref 30)) := by rfl
theorem ns_number_of (w : World) : nsIn (hd.heap_1 w.params) mainGlobals (Str.ofString "number_of") = some (some (.ref 38)) := by rfl
theorem ns_is_nan (w : World) : nsIn (hd.heap_1 w.params) mainGlobals (Str.ofString "is_nan") = some (some (.ref 45)) := by rfl
theorem ns_negated (w : World) : nsIn (hd.heap_1 w.params) mainGlobals (Str.ofString "negated") = some (some (.ref 52)) := by rfl
theorem ns_plus (w : World) : nsIn (hd.heap_1 w.params) mainGlobals (Str.ofString "plus") = some (some (.ref 59)) := by rfl
theorem ns_minus (w : World) : nsIn (hd.heap_1 w.params) mainGlobals (Str.ofString "minus") = some (some (.ref 66)) := by rfl
theorem ns_times (w : World) : nsIn (hd.heap_1 w.params) mainGlobals (Str.ofString "times") = some (some (.ref 73)) := by rfl
theorem ns_divided (w : World) : nsIn (hd.heap_1 w.params) mainGlobals (Str.ofString "divided") = some (some (.ref 80)) := by rfl
theorem ns_cut_whole (w : World) : nsIn (hd.heap_1 w.params) mainGlobals (Str.ofString "cut_whole") = some (some (.ref 87)) := by rfl
theorem ns_modulo (w : World) : nsIn (hd.heap_1 w.params) mainGlobals (Str.ofString "modulo") = some (some (.ref 94)) := by rfl
theorem ns_order_of (w : World) : nsIn (hd.heap_1 w.params) mainGlobals (Str.ofString "order_of") = some (some (.ref 101)) := by rfl
theorem ns_compared_numbers (w : World) : nsIn (hd.heap_1 w.params) mainGlobals (Str.ofString "compared_numbers") = some (some (.ref 108)) := by rfl
theorem ns_floor_of (w : World) : nsIn (hd.heap_1 w.params) mainGlobals (Str.ofString "floor_of") = some (some (.ref 115)) := by rfl
theorem ns_ceiling_of (w : World) : nsIn (hd.heap_1 w.params) mainGlobals (Str.ofString "ceiling_of") = some (some (.ref 122)) := by rfl
theorem ns_rounded (w : World) : nsIn (hd.heap_1 w.params) mainGlobals (Str.ofString "rounded") = some (some (.ref 129)) := by rfl
theorem ns_digits_end (w : World) : nsIn (hd.heap_1 w.params) mainGlobals (Str.ofString "digits_end") = some (some (.ref 136)) := by rfl
theorem ns_trimmed (w : World) : nsIn (hd.heap_1 w.params) mainGlobals (Str.ofString "trimmed") = some (some (.ref 143)) := by rfl
theorem ns_whole_of (w : World) : nsIn (hd.heap_1 w.params) mainGlobals (Str.ofString "whole_of") = some (some (.ref 150)) := by rfl
theorem ns_read_number (w : World) : nsIn (hd.heap_1 w.params) mainGlobals (Str.ofString "read_number") = some (some (.ref 157)) := by rfl
theorem ns_write_number (w : World) : nsIn (hd.heap_1 w.params) mainGlobals (Str.ofString "write_number") = some (some (.ref 165)) := by rfl
theorem ns_law_pool (w : World) : nsIn (hd.heap_1 w.params) mainGlobals (Str.ofString "_law_pool") = some (some (.ref 172)) := by rfl
theorem ns_law_take (w : World) : nsIn (hd.heap_1 w.params) mainGlobals (Str.ofString "_law_take") = some (some (.ref 179)) := by rfl
theorem ns_law_one (w : World) : nsIn (hd.heap_1 w.params) mainGlobals (Str.ofString "_law_one") = some (some (.ref 186)) := by rfl
theorem ns_law_number (w : World) : nsIn (hd.heap_1 w.params) mainGlobals (Str.ofString "_law_number") = some (some (.ref 193)) := by rfl
theorem ns_law_kind (w : World) : nsIn (hd.heap_1 w.params) mainGlobals (Str.ofString "_law_kind") = some (some (.ref 200)) := by rfl
theorem ns_law_sign (w : World) : nsIn (hd.heap_1 w.params) mainGlobals (Str.ofString "_law_sign") = some (some (.ref 207)) := by rfl
theorem ns_law_same (w : World) : nsIn (hd.heap_1 w.params) mainGlobals (Str.ofString "_law_same") = some (some (.ref 214)) := by rfl
theorem ns_law_sum (w : World) : nsIn (hd.heap_1 w.params) mainGlobals (Str.ofString "_law_sum") = some (some (.ref 221)) := by rfl
theorem ns_law_product (w : World) : nsIn (hd.heap_1 w.params) mainGlobals (Str.ofString "_law_product") = some (some (.ref 228)) := by rfl
theorem ns_law_quotient (w : World) : nsIn (hd.heap_1 w.params) mainGlobals (Str.ofString "_law_quotient") = some (some (.ref 235)) := by rfl
theorem ns_law_rest (w : World) : nsIn (hd.heap_1 w.params) mainGlobals (Str.ofString "_law_rest") = some (some (.ref 242)) := by rfl
theorem ns_law_less (w : World) : nsIn (hd.heap_1 w.params) mainGlobals (Str.ofString "_law_less") = some (some (.ref 247)) := by rfl
theorem ns_law_compared_right (w : World) : nsIn (hd.heap_1 w.params) mainGlobals (Str.ofString "_law_compared_right") = some (some (.ref 252)) := by rfl
theorem ns_law_whole_right (w : World) : nsIn (hd.heap_1 w.params) mainGlobals (Str.ofString "_law_whole_right") = some (some (.ref 259)) := by rfl
theorem ns_law_written_right (w : World) : nsIn (hd.heap_1 w.params) mainGlobals (Str.ofString "_law_written_right") = some (some (.ref 266)) := by rfl
theorem ns_law_read_right (w : World) : nsIn (hd.heap_1 w.params) mainGlobals (Str.ofString "_law_read_right") = some (some (.ref 273)) := by rfl
theorem ns_law (w : World) : nsIn (hd.heap_1 w.params) mainGlobals (Str.ofString "law") = some (some (.ref 280)) := by rfl
theorem nb_abs (w : World) : nsIn (hd.heap_1 w.params) mainGlobals (Str.ofString "abs") = some none := by rfl
theorem nb_len (w : World) : nsIn (hd.heap_1 w.params) mainGlobals (Str.ofString "len") = some none := by rfl
theorem nb_str (w : World) : nsIn (hd.heap_1 w.params) mainGlobals (Str.ofString "str") = some none := by rfl
theorem nb_int (w : World) : nsIn (hd.heap_1 w.params) mainGlobals (Str.ofString "int") = some none := by rfl
theorem nb_max (w : World) : nsIn (hd.heap_1 w.params) mainGlobals (Str.ofString "max") = some none := by rfl
theorem nb_min (w : World) : nsIn (hd.heap_1 w.params) mainGlobals (Str.ofString "min") = some none := by rfl
theorem nb_range (w : World) : nsIn (hd.heap_1 w.params) mainGlobals (Str.ofString "range") = some none := by rfl
theorem ns_NAN (w : World) : nsIn (hd.heap_1 w.params) mainGlobals (Str.ofString "NAN") = some (some (.ref 15)) := by rfl
theorem ns_ZERO (w : World) : nsIn (hd.heap_1 w.params) mainGlobals (Str.ofString "ZERO") = some (some (.ref 16)) := by rfl
theorem ns_DIGITS (w : World) : ∃ t, nsIn (hd.heap_1 w.params) mainGlobals (Str.ofString "DIGITS") = some (some (.str (Str.ofString "0123456789") t)) := ⟨_, rfl⟩
theorem ns_SPACES (w : World) : ∃ t, nsIn (hd.heap_1 w.params) mainGlobals (Str.ofString "SPACES") = some (some (.str (Str.ofString " \t\n\r") t)) := ⟨_, rfl⟩

section consts
variable {w : World} {Φ : Fx} {names : List (Str × NameKind)} {mu : Addr → Prop} {ρ : List (Str × V)} {g : List (Addr × List V)} {pos : Pos} {Q : V → List (Addr × List V) → Prop}
theorem EX_NAN (ok : FxOk w names Φ) (h : Q (.tup [.int 0, .int 0]) g) (hl : names.lookup (Str.ofString "NAN") = some .globalImplicit := by rfl) : EX w Φ (.Name (Str.ofString "NAN") pos) ⟨mu, ρ, g⟩ Q :=
  EX_glob (v := .ref 15) ok (ns_NAN w) (fun mu h k => Rep.tup' (vs := [.int 0 189, .int 0 190]) (k 15 _ rfl).2 ⟨_, (k 15 _ rfl).1, rfl, _, rfl⟩ (RepL.cons' Rep.int' (RepL.cons' Rep.int' RepL.nil'))) h hl
theorem EX_ZERO (ok : FxOk w names Φ) (h : Q (.tup [.int 0, .int 1]) g) (hl : names.lookup (Str.ofString "ZERO") = some .globalImplicit := by rfl) : EX w Φ (.Name (Str.ofString "ZERO") pos) ⟨mu, ρ, g⟩ Q :=
  EX_glob (v := .ref 16) ok (ns_ZERO w) (fun mu h k => Rep.tup' (vs := [.int 0 192, .int 1 193]) (k 16 _ rfl).2 ⟨_, (k 16 _ rfl).1, rfl, _, rfl⟩ (RepL.cons' Rep.int' (RepL.cons' Rep.int' RepL.nil'))) h hl
theorem EX_DIGITS (ok : FxOk w names Φ) (h : Q (.str (Str.ofString "0123456789")) g) (hl : names.lookup (Str.ofString "DIGITS") = some .globalImplicit := by rfl) : EX w Φ (.Name (Str.ofString "DIGITS") pos) ⟨mu, ρ, g⟩ Q :=
  let ⟨_, e⟩ := ns_DIGITS w; EX_glob ok e (fun mu h k => Rep.str') h hl
theorem EX_SPACES (ok : FxOk w names Φ) (h : Q (.str (Str.ofString " \t\n\r")) g) (hl : names.lookup (Str.ofString "SPACES") = some .globalImplicit := by rfl) : EX w Φ (.Name (Str.ofString "SPACES") pos) ⟨mu, ρ, g⟩ Q :=
  let ⟨_, e⟩ := ns_SPACES w; EX_glob ok e (fun mu h k => Rep.str') h hl
end consts

section boots
variable {w : World} {Φ : Fx} {names : List (Str × NameKind)} {mu : Addr → Prop} {ρ : List (Str × V)} {g : List (Addr × List V)} {pos p : Pos} {e : PySem.Expr} {es : List PySem.Expr} {Q : V → List (Addr × List V) → Prop}
theorem EX_abs (ok : FxOk w names Φ) (h : SP w Φ pos (e :: es) ⟨mu, ρ, g⟩ fun l g1 => CallOk w Φ.A (.builtin "abs") l fun d => Q d g1) (hl : names.lookup (Str.ofString "abs") = some .globalImplicit)
    (hs' : starEach (e :: es) Φ.env = (false, eval e Φ.env) :: starEach es Φ.env) (hp : (backTo pos (starEach (e :: es) Φ.env)).any (·.1) = false) : EX w Φ (.Call (.Name (Str.ofString "abs") p) (e :: es) [] pos) ⟨mu, ρ, g⟩ Q :=
  EX_boot ok boot_abs h (nb_abs w) hl (by decide) hs' hp
theorem EX_len (ok : FxOk w names Φ) (h : SP w Φ pos (e :: es) ⟨mu, ρ, g⟩ fun l g1 => CallOk w Φ.A (.builtin "len") l fun d => Q d g1) (hl : names.lookup (Str.ofString "len") = some .globalImplicit)
    (hs' : starEach (e :: es) Φ.env = (false, eval e Φ.env) :: starEach es Φ.env) (hp : (backTo pos (starEach (e :: es) Φ.env)).any (·.1) = false) : EX w Φ (.Call (.Name (Str.ofString "len") p) (e :: es) [] pos) ⟨mu, ρ, g⟩ Q :=
  EX_boot ok boot_len h (nb_len w) hl (by decide) hs' hp
theorem EX_max (ok : FxOk w names Φ) (h : SP w Φ pos (e :: es) ⟨mu, ρ, g⟩ fun l g1 => CallOk w Φ.A (.builtin "max") l fun d => Q d g1) (hl : names.lookup (Str.ofString "max") = some .globalImplicit)
    (hs' : starEach (e :: es) Φ.env = (false, eval e Φ.env) :: starEach es Φ.env) (hp : (backTo pos (starEach (e :: es) Φ.env)).any (·.1) = false) : EX w Φ (.Call (.Name (Str.ofString "max") p) (e :: es) [] pos) ⟨mu, ρ, g⟩ Q :=
  EX_boot ok boot_max h (nb_max w) hl (by decide) hs' hp
theorem EX_min (ok : FxOk w names Φ) (h : SP w Φ pos (e :: es) ⟨mu, ρ, g⟩ fun l g1 => CallOk w Φ.A (.builtin "min") l fun d => Q d g1) (hl : names.lookup (Str.ofString "min") = some .globalImplicit)
    (hs' : starEach (e :: es) Φ.env = (false, eval e Φ.env) :: starEach es Φ.env) (hp : (backTo pos (starEach (e :: es) Φ.env)).any (·.1) = false) : EX w Φ (.Call (.Name (Str.ofString "min") p) (e :: es) [] pos) ⟨mu, ρ, g⟩ Q :=
  EX_boot ok boot_min h (nb_min w) hl (by decide) hs' hp
theorem EX_strc (ok : FxOk w names Φ) (h : SP w Φ pos (e :: es) ⟨mu, ρ, g⟩ fun l g1 => CallOk w Φ.A (.type "str") l fun d => Q d g1) (hl : names.lookup (Str.ofString "str") = some .globalImplicit)
    (hs' : starEach (e :: es) Φ.env = (false, eval e Φ.env) :: starEach es Φ.env) (hp : (backTo pos (starEach (e :: es) Φ.env)).any (·.1) = false) : EX w Φ (.Call (.Name (Str.ofString "str") p) (e :: es) [] pos) ⟨mu, ρ, g⟩ Q :=
  EX_bootT ok (T := "str") (by decide +kernel) h (nb_str w) hl (by decide) hs' hp
theorem EX_intc (ok : FxOk w names Φ) (h : SP w Φ pos (e :: es) ⟨mu, ρ, g⟩ fun l g1 => CallOk w Φ.A (.type "int") l fun d => Q d g1) (hl : names.lookup (Str.ofString "int") = some .globalImplicit)
    (hs' : starEach (e :: es) Φ.env = (false, eval e Φ.env) :: starEach es Φ.env) (hp : (backTo pos (starEach (e :: es) Φ.env)).any (·.1) = false) : EX w Φ (.Call (.Name (Str.ofString "int") p) (e :: es) [] pos) ⟨mu, ρ, g⟩ Q :=
  EX_bootT ok (T := "int") (by decide +kernel) h (nb_int w) hl (by decide) hs' hp
end boots

section rules
variable {w : World} {Φ : Fx} {names : List (Str × NameKind)} {mu : Addr → Prop} {ρ : List (Str × V)} {g : List (Addr × List V)} {pos : Pos}

theorem IT.mono {e : PySem.Expr} {S : AS} {Q Q' : Bool → List (Addr × List V) → Prop} (h : IT w Φ e S Q) (k : ∀ d g, Q d g → Q' d g) : IT w Φ e S Q' :=
  fun s hs => wpAny_mono (h s hs) (fun _ _ ⟨g, b, c, q⟩ => ⟨g, b, c, k _ g q⟩) fun _ _ x => x
theorem AT.mono {op : BoolOp} {e : List PySem.Expr} {S : AS} {Q Q' : Bool → List (Addr × List V) → Prop} (h : AT w Φ op e S Q) (k : ∀ d g, Q d g → Q' d g) : AT w Φ op e S Q' :=
  fun s hs => wpAny_mono (h s hs) (fun _ _ ⟨g, b, c, q⟩ => ⟨g, b, c, k _ g q⟩) fun _ _ x => x

/-- the ways of a test meet -/
theorem AT_andj {e : PySem.Expr} {es : List PySem.Expr} {b2 : Bool} {Q : Bool → List (Addr × List V) → Prop}
    (h : IT w Φ e ⟨mu, ρ, g⟩ fun b1 g1 => (b1 = true → AT w Φ .And es ⟨mu, ρ, g1⟩ fun b g2 => b = b2 ∧ g2 = g1) ∧ Q (b1 && b2) g1) : AT w Φ .And (e :: es) ⟨mu, ρ, g⟩ Q := by
  refine AT_and (h.mono fun b1 g1 hq => ?_)
  cases b1
  · simpa using hq.2
  · simp only [if_true]
    refine (hq.1 rfl).mono fun b g2 hb => ?_
    obtain ⟨rfl, rfl⟩ := hb
    simpa using hq.2
theorem AT_orj {e : PySem.Expr} {es : List PySem.Expr} {b2 : Bool} {Q : Bool → List (Addr × List V) → Prop}
    (h : IT w Φ e ⟨mu, ρ, g⟩ fun b1 g1 => (b1 = false → AT w Φ .Or es ⟨mu, ρ, g1⟩ fun b g2 => b = b2 ∧ g2 = g1) ∧ Q (b1 || b2) g1) : AT w Φ .Or (e :: es) ⟨mu, ρ, g⟩ Q := by
  refine AT_or (h.mono fun b1 g1 hq => ?_)
  cases b1
  · simp only [Bool.false_eq_true, if_false]
    refine (hq.1 rfl).mono fun b g2 hb => ?_
    obtain ⟨rfl, rfl⟩ := hb
    simpa using hq.2
  · simpa using hq.2
theorem AT_and1 {e : PySem.Expr} {Q : Bool → List (Addr × List V) → Prop} (h : IT w Φ e ⟨mu, ρ, g⟩ Q) : AT w Φ .And [e] ⟨mu, ρ, g⟩ Q := by
  refine AT_and (h.mono fun b g1 hq => ?_)
  cases b
  · simpa using hq
  · simp only [if_true]; exact AT_and_nil hq
theorem AT_or1 {e : PySem.Expr} {Q : Bool → List (Addr × List V) → Prop} (h : IT w Φ e ⟨mu, ρ, g⟩ Q) : AT w Φ .Or [e] ⟨mu, ρ, g⟩ Q := by
  refine AT_or (h.mono fun b g1 hq => ?_)
  cases b
  · simp only [Bool.false_eq_true, if_false]; exact AT_or_nil hq
  · simpa using hq
theorem EX_and2j {x y : PySem.Expr} {b2 : Bool} {Q : V → List (Addr × List V) → Prop}
    (h : EX w Φ x ⟨mu, ρ, g⟩ fun d g1 => ∃ b, d = .bool b ∧ (b = true → EX w Φ y ⟨mu, ρ, g1⟩ fun d g2 => d = .bool b2 ∧ g2 = g1) ∧ Q (.bool (b && b2)) g1) : EX w Φ (.BoolOp .And [x, y] pos) ⟨mu, ρ, g⟩ Q := by
  refine EX_and2 (h.mono fun d g1 hq => ?_)
  obtain ⟨b, rfl, h1, h2⟩ := hq
  refine ⟨b, rfl, ?_⟩
  cases b
  · simpa using h2
  · simp only [if_true]
    refine (h1 rfl).mono fun d g2 hd => ?_
    obtain ⟨rfl, rfl⟩ := hd
    simpa using h2
theorem EX_or2j {x y : PySem.Expr} {b2 : Bool} {Q : V → List (Addr × List V) → Prop}
    (h : EX w Φ x ⟨mu, ρ, g⟩ fun d g1 => ∃ b, d = .bool b ∧ (b = false → EX w Φ y ⟨mu, ρ, g1⟩ fun d g2 => d = .bool b2 ∧ g2 = g1) ∧ Q (.bool (b || b2)) g1) : EX w Φ (.BoolOp .Or [x, y] pos) ⟨mu, ρ, g⟩ Q := by
  refine EX_or2 (h.mono fun d g1 hq => ?_)
  obtain ⟨b, rfl, h1, h2⟩ := hq
  refine ⟨b, rfl, ?_⟩
  cases b
  · simp only [Bool.false_eq_true, if_false]
    refine (h1 rfl).mono fun d g2 hd => ?_
    obtain ⟨rfl, rfl⟩ := hd
    simpa using h2
  · simpa using h2
theorem EX_and3j {x y z : PySem.Expr} {b2 : Bool} {Q : V → List (Addr × List V) → Prop}
    (h : EX w Φ x ⟨mu, ρ, g⟩ fun d g1 => ∃ b, d = .bool b ∧ (b = true → EX w Φ (.BoolOp .And [y, z] pos) ⟨mu, ρ, g1⟩ fun d g2 => d = .bool b2 ∧ g2 = g1) ∧ Q (.bool (b && b2)) g1) : EX w Φ (.BoolOp .And [x, y, z] pos) ⟨mu, ρ, g⟩ Q := by
  refine EX_and3 (h.mono fun d g1 hq => ?_)
  obtain ⟨b, rfl, h1, h2⟩ := hq
  refine ⟨b, rfl, ?_⟩
  cases b
  · simpa using h2
  · simp only [if_true]
    refine (h1 rfl).mono fun d g2 hd => ?_
    obtain ⟨rfl, rfl⟩ := hd
    simpa using h2
/-- the ways of x if t else y meet: two ints -/
theorem EX_ifj {t a b : PySem.Expr} {i j : Int} {Q : V → List (Addr × List V) → Prop}
    (h : IT w Φ t ⟨mu, ρ, g⟩ fun c g1 => (c = true → EX w Φ a ⟨mu, ρ, g1⟩ fun d g2 => d = .int i ∧ g2 = g1) ∧ (c = false → EX w Φ b ⟨mu, ρ, g1⟩ fun d g2 => d = .int j ∧ g2 = g1) ∧ Q (.int (if c = true then i else j)) g1) : EX w Φ (.IfExp t a b pos) ⟨mu, ρ, g⟩ Q := by
  refine EX_if (h.mono fun c g1 hq => ?_)
  obtain ⟨h1, h2, h3⟩ := hq
  cases c
  · simp only [Bool.false_eq_true, if_false] at h3 ⊢
    refine (h2 rfl).mono fun d g2 hd => ?_
    obtain ⟨rfl, rfl⟩ := hd
    exact h3
  · simp only [if_true] at h3 ⊢
    refine (h1 rfl).mono fun d g2 hd => ?_
    obtain ⟨rfl, rfl⟩ := hd
    exact h3
theorem EX_if10 {t : PySem.Expr} {k k' : Nat} {p p' : Pos} {Q : V → List (Addr × List V) → Prop}
    (h : IT w Φ t ⟨mu, ρ, g⟩ fun c g1 => ∀ b : Nat, b = (if c = true then 1 else 0) → Q (.int (b : Int)) g1) : EX w Φ (.IfExp t (.Constant (.int 1) k p) (.Constant (.int 0) k' p') pos) ⟨mu, ρ, g⟩ Q := by
  refine EX_ifj (i := 1) (j := 0) (h.mono fun c g1 hq => ⟨fun _ => EX_int ⟨rfl, rfl⟩, fun _ => EX_int ⟨rfl, rfl⟩, ?_⟩)
  have := hq _ rfl
  cases c <;> exact this
theorem AT_andj_g {e : PySem.Expr} {es : List PySem.Expr} {Q : Bool → List (Addr × List V) → Prop} (h : AT w Φ .And (e :: es) ⟨mu, ρ, g⟩ Q) : AT w Φ .And (e :: es) ⟨mu, ρ, g⟩ Q := h
theorem AT_orj_g {e : PySem.Expr} {es : List PySem.Expr} {Q : Bool → List (Addr × List V) → Prop} (h : AT w Φ .Or (e :: es) ⟨mu, ρ, g⟩ Q) : AT w Φ .Or (e :: es) ⟨mu, ρ, g⟩ Q := h
theorem EX_and2j_g {x y : PySem.Expr} {Q : V → List (Addr × List V) → Prop} (h : EX w Φ (.BoolOp .And [x, y] pos) ⟨mu, ρ, g⟩ Q) : EX w Φ (.BoolOp .And [x, y] pos) ⟨mu, ρ, g⟩ Q := h
theorem EX_or2j_g {x y : PySem.Expr} {Q : V → List (Addr × List V) → Prop} (h : EX w Φ (.BoolOp .Or [x, y] pos) ⟨mu, ρ, g⟩ Q) : EX w Φ (.BoolOp .Or [x, y] pos) ⟨mu, ρ, g⟩ Q := h
theorem EX_and3j_g {x y z : PySem.Expr} {Q : V → List (Addr × List V) → Prop} (h : EX w Φ (.BoolOp .And [x, y, z] pos) ⟨mu, ρ, g⟩ Q) : EX w Φ (.BoolOp .And [x, y, z] pos) ⟨mu, ρ, g⟩ Q := h
end rules

/-- a text by its signs -/
abbrev S (l : List Nat) : Str := ⟨l.toArray⟩
theorem S_len (l : List Nat) : (S l).length = l.length := by simp [Str.length]
theorem S_eta (x : Str) : S x.cps.toList = x := rfl
theorem S_inj {a b : List Nat} : (S a == S b) = decide (a = b) := by
  by_cases h : a = b
  · subst h; simp
  · have : ¬ S a = S b := fun e => h (by have := congrArg (fun x : Str => x.cps.toList) e; simpa using this)
    rw [decide_eq_false h]
    exact beq_eq_false_iff_ne.mpr this
theorem S_app (a b : List Nat) : S a ++ S b = S (a ++ b) := by
  have : (S a ++ S b).cps = (S (a ++ b)).cps := by
    show ((S a).cps ++ (S b).cps) = _
    simp
  exact congrArg (fun c => (⟨c⟩ : Str)) this
theorem S_contains (l : List Nat) (c : Nat) : Txt.contains (S l) (S [c]) = decide (c ∈ l) := by
  unfold Txt.contains
  have := StrLaws.found_one (S l) c
  simpa using this

theorem slice_clip (i j : Nat) (n : Nat) : Builtin.Str.strSliceIndices (some (i : Int)) (some (j : Int)) 1 n = Builtin.Str.strSliceIndices (some ((min i n : Nat) : Int)) (some ((min j n : Nat) : Int)) 1 n := by
  unfold Builtin.Str.strSliceIndices
  have h : ∀ k : Nat, (if (k : Int) < 0 then (k : Int) + n else (k : Int)) = k := fun k => if_neg (by omega)
  simp only [h, show (1 : Int) > 0 by decide, if_true]
  congr 1 <;> omega
theorem slice_ss (l : List Nat) (i j : Nat) : Txt.slice (S l) (some (i : Int)) (some (j : Int)) = S ((l.take j).drop i) := by
  have e : Txt.slice (S l) (some (i : Int)) (some (j : Int)) = Txt.slice (S l) (some ((min i l.length : Nat) : Int)) (some ((min j l.length : Nat) : Int)) := by
    unfold Txt.slice
    rw [S_len, slice_clip]
  rw [e]
  by_cases h : min i l.length ≤ min j l.length
  · show StrLaws.sliceText _ _ _ = _
    rw [StrLaws.sliceText_plain ⟨by omega, by omega, by simp; omega⟩]
    congr 2
    simp only [Int.toNat_natCast]
    rw [show ((min j l.length : Nat) : Int) - ((min i l.length : Nat) : Int) = ((min j l.length - min i l.length : Nat) : Int) by omega, Int.toNat_natCast]
    rw [List.drop_take]
    apply List.ext_getElem?
    intro k
    simp only [List.getElem?_take, List.getElem?_drop]
    by_cases h1 : k < min j l.length - min i l.length <;> by_cases h2 : k < j - i
    · simp only [h1, h2, if_true]; congr 1; omega
    · omega
    · simp only [h1, h2, if_true, if_false]
      rw [eq_comm, List.getElem?_eq_none]
      omega
    · simp only [h1, h2, if_false]
  · have hj : min j l.length < min i l.length := by omega
    have hj' : j ≤ i := by omega
    have e2 : Builtin.Str.strSliceIndices (some ((min i l.length : Nat) : Int)) (some ((min j l.length : Nat) : Int)) 1 (S l).length = [] := by
      unfold Builtin.Str.strSliceIndices
      have h : ∀ k : Nat, (if (k : Int) < 0 then (k : Int) + ((S l).length : Int) else (k : Int)) = k := fun k => if_neg (by omega)
      simp only [h, show (1 : Int) > 0 by decide, if_true]
      unfold sliceRange
      rw [if_pos (by decide), if_neg (by rw [S_len]; omega)]
      rfl
    have e3 : (l.take j).drop i = [] := by
      rw [List.drop_eq_nil_iff, List.length_take]; omega
    unfold Txt.slice
    rw [e2, e3, if_neg]
    · rfl
    · rw [S_len]; simp; omega
theorem slice_ns (l : List Nat) (j : Nat) : Txt.slice (S l) none (some (j : Int)) = S (l.take j) := by
  have : Txt.slice (S l) none (some (j : Int)) = Txt.slice (S l) (some ((0 : Nat) : Int)) (some (j : Int)) := by
    unfold Txt.slice; rw [StrLaws.sliceIdx_none_lo]; rfl
  rw [this, slice_ss]; simp
theorem slice_sn (l : List Nat) (i : Nat) (h : i ≤ l.length) : Txt.slice (S l) (some (i : Int)) none = S (l.drop i) := by
  show StrLaws.sliceText _ _ _ = _
  rw [StrLaws.sliceText_from ⟨by omega, by simp; omega⟩]
  congr 2
  simp only [Int.toNat_natCast]
  apply List.take_of_length_le
  simp

section rules
variable {w : World} {Φ : Fx} {names : List (Str × NameKind)} {mu : Addr → Prop} {ρ : List (Str × V)} {g : List (Addr × List V)} {pos p : Pos}

theorem Sub_str {A : Around} {l : List Nat} {k : Int} {c : Nat} {P : V → Prop} (hk : l[k.toNat]? = some c) (h : P (.str (S [c]))) (h0 : 0 ≤ k) (hl : k < 2 ^ 62) : SubOk w A (.str (S l)) (.int k) P := by
  intro mu s vo vi _ ro ri
  obtain ⟨t, rfl⟩ := ro.strE
  obtain ⟨u, rfl⟩ := ri.intE
  have hlt := (List.getElem?_eq_some_iff.mp hk).1
  have e : seqIndex? k (S l).length = some k.toNat := by
    unfold seqIndex?
    rw [S_len]
    simp only [show ¬ (k < 0) by omega, if_false]
    rw [if_pos]
    simp only [Bool.and_eq_true, decide_eq_true_eq]; omega
  have ec : Txt.charAt (S l) k = some c := by
    unfold Txt.charAt; rw [e]; simpa using hk
  refine ⟨"str", _, typeIs_str _ _ _, F.slot_str_getitem.lookup, SB.getItem (fitsSsize_of (N := 9223372036854775808) (by omega) (by omega) (Int.le_refl _)) (by rw [ec]; rfl) ⟨.str (S [c]), ?_, Gr.tok, h⟩⟩
  unfold Txt.item
  rw [ec]
  exact Rep.str'
theorem Sub_strLast {A : Around} {l : List Nat} {c : Nat} {P : V → Prop} (hk : l.getLast? = some c) (h : P (.str (S [c]))) (hl : l.length < 2 ^ 62) : SubOk w A (.str (S l)) (.int (-1)) P := by
  intro mu s vo vi _ ro ri
  obtain ⟨t, rfl⟩ := ro.strE
  obtain ⟨u, rfl⟩ := ri.intE
  have hne : l ≠ [] := by intro e; subst e; simp at hk
  have hpos := List.length_pos_iff.mpr hne
  have e : seqIndex? (-1) (S l).length = some (l.length - 1) := by
    unfold seqIndex?
    rw [S_len]
    simp only [show ((-1 : Int) < 0) by decide, if_true]
    rw [if_pos]
    · congr 1; omega
    · simp only [Bool.and_eq_true, decide_eq_true_eq]; omega
  have ec : Txt.charAt (S l) (-1) = some c := by
    unfold Txt.charAt; rw [e]
    rw [List.getLast?_eq_getElem?] at hk
    simpa using hk
  refine ⟨"str", _, typeIs_str _ _ _, F.slot_str_getitem.lookup, SB.getItem (by decide) (by rw [ec]; rfl) ⟨.str (S [c]), ?_, Gr.tok, h⟩⟩
  unfold Txt.item
  rw [ec]
  exact Rep.str'

/-- slices of a text -/
theorem keptStays (h0 : Heap) : KeptH fun h => ∀ b o, h0.get? b = some o → h.get? b = some o := fun h ob k b o e => Heap.get?_push_of_some _ (k b o e)
theorem EX_slice_ss {v lo hi : PySem.Expr} {Q : V → List (Addr × List V) → Prop}
    (h : EX w Φ v ⟨mu, ρ, g⟩ fun d g1 => EX w Φ lo ⟨mu, ρ, g1⟩ fun d1 g2 => EX w Φ hi ⟨mu, ρ, g2⟩ fun d2 g3 => ∃ (l : List Nat) (i j : Nat), d = .str (S l) ∧ d1 = .int i ∧ d2 = .int j ∧ l.length ≤ 1000000 ∧ Q (.str (S ((l.take j).drop i))) g3) :
    EX w Φ (.Subscript v (.Slice (some lo) (some hi) none p) pos) ⟨mu, ρ, g⟩ Q := by
  intro s hs
  refine Subscript_ (wpAny_mono (h s hs) (fun vv s1 => ?_) fun _ _ x => x)
  rintro ⟨d, g1, rd, hs1, st1, h1⟩
  refine wpAny_Slice (wpAny_evalPart_some (wpAny_mono (h1 s1 hs1) (fun v1 s2 => ?_) fun _ _ x => x))
  rintro ⟨d1, g2, rd1, hs2, st2, h2⟩
  refine wpAny_evalPart_some (wpAny_mono (h2 s2 hs2) (fun v2 s3 => ?_) fun _ _ x => x)
  rintro ⟨d2, g3, rd2, hs3, st3, l, i, j, rfl, rfl, rfl, hl, hq⟩
  obtain ⟨t, rfl⟩ := rd.strE
  obtain ⟨t1, rfl⟩ := rd1.intE
  obtain ⟨t2, rfl⟩ := rd2.intE
  refine wpAny_evalPart_none (tail_of_ItemOn (SBH.sliceItem_ss (keptStays s3.heap) (fun _ _ e => e) (fun h' t' k hk => ?_) (by rw [S_len, sizeLine_eq]; omega)) rfl (fun _ => by with_unfolding_all cases v <;> rfl))
  have gr : Gr s3 { s3 with heap := h', toks := k } := ⟨hk, rfl, rfl⟩
  exact ⟨_, g3, by rw [slice_ss]; exact Rep.str', hs3.gr gr, st1.trans (st2.trans (st3.trans (gr.stp _))), hq⟩
theorem EX_slice_ns {v hi : PySem.Expr} {Q : V → List (Addr × List V) → Prop}
    (h : EX w Φ v ⟨mu, ρ, g⟩ fun d g1 => EX w Φ hi ⟨mu, ρ, g1⟩ fun d2 g3 => ∃ (l : List Nat) (j : Nat), d = .str (S l) ∧ d2 = .int j ∧ l.length ≤ 1000000 ∧ Q (.str (S (l.take j))) g3) :
    EX w Φ (.Subscript v (.Slice none (some hi) none p) pos) ⟨mu, ρ, g⟩ Q := by
  intro s hs
  refine Subscript_ (wpAny_mono (h s hs) (fun vv s1 => ?_) fun _ _ x => x)
  rintro ⟨d, g1, rd, hs1, st1, h1⟩
  refine wpAny_Slice (wpAny_evalPart_none ?_)
  refine wpAny_evalPart_some (wpAny_mono (h1 s1 hs1) (fun v2 s3 => ?_) fun _ _ x => x)
  rintro ⟨d2, g3, rd2, hs3, st3, l, j, rfl, rfl, hl, hq⟩
  obtain ⟨t, rfl⟩ := rd.strE
  obtain ⟨t2, rfl⟩ := rd2.intE
  refine wpAny_evalPart_none (tail_of_ItemOn (SBH.sliceItem_ns (keptStays s3.heap) (fun _ _ e => e) (fun h' t' k hk => ?_) (by rw [S_len, sizeLine_eq]; omega)) rfl (fun _ => by with_unfolding_all cases v <;> rfl))
  have gr : Gr s3 { s3 with heap := h', toks := k } := ⟨hk, rfl, rfl⟩
  exact ⟨_, g3, by rw [slice_ns]; exact Rep.str', hs3.gr gr, st1.trans (st3.trans (gr.stp _)), hq⟩
theorem EX_slice_sn {v lo : PySem.Expr} {Q : V → List (Addr × List V) → Prop}
    (h : EX w Φ v ⟨mu, ρ, g⟩ fun d g1 => EX w Φ lo ⟨mu, ρ, g1⟩ fun d1 g3 => ∃ (l : List Nat) (i : Nat), d = .str (S l) ∧ d1 = .int i ∧ l.length ≤ 1000000 ∧ i ≤ l.length ∧ Q (.str (S (l.drop i))) g3) :
    EX w Φ (.Subscript v (.Slice (some lo) none none p) pos) ⟨mu, ρ, g⟩ Q := by
  intro s hs
  refine Subscript_ (wpAny_mono (h s hs) (fun vv s1 => ?_) fun _ _ x => x)
  rintro ⟨d, g1, rd, hs1, st1, h1⟩
  refine wpAny_Slice (wpAny_evalPart_some (wpAny_mono (h1 s1 hs1) (fun v1 s3 => ?_) fun _ _ x => x))
  rintro ⟨d1, g3, rd1, hs3, st3, l, i, rfl, rfl, hl, hi, hq⟩
  obtain ⟨t, rfl⟩ := rd.strE
  obtain ⟨t1, rfl⟩ := rd1.intE
  refine wpAny_evalPart_none (wpAny_evalPart_none (tail_of_ItemOn (SBH.sliceItem_sn (keptStays s3.heap) (fun _ _ e => e) (fun h' t' k hk => ?_) (by rw [S_len, sizeLine_eq]; omega)) rfl (fun _ => by with_unfolding_all cases v <;> rfl)))
  have gr : Gr s3 { s3 with heap := h', toks := k } := ⟨hk, rfl, rfl⟩
  exact ⟨_, g3, by rw [slice_sn _ _ hi]; exact Rep.str', hs3.gr gr, st1.trans (st3.trans (gr.stp _)), hq⟩
theorem Call_int_str {A : Around} {l : List Nat} {P : V → Prop} (hd : NumText.AllDigits l) (hn : l ≠ []) (hl : l.length ≤ 600) (h : P (.int (NumText.digitsVal l))) : CallOk w A (.type "int") [.str (S l)] P := by
  intro mu s vs _ hl'
  obtain ⟨v, r, rfl, rv, hr⟩ := hl'.consE
  obtain rfl := hr.nilE
  obtain ⟨t, rfl⟩ := rv.strE
  exact KIN.call_text (PySem.intText_digits (x := S l) hd hn (by rw [S_len]; omega)) (by rw [S_len]; omega) ⟨_, Rep.int', Gr.tok, h⟩

theorem Sub_strD {A : Around} {l : List Nat} {k : Int} {P : V → Prop} (h0 : 0 ≤ k) (h1 : k < l.length) (hl : l.length < 2 ^ 62) (h : P (.str (S [l.getD k.toNat 0]))) : SubOk w A (.str (S l)) (.int k) P := by
  have hlt : k.toNat < l.length := by omega
  refine Sub_str (c := l.getD k.toNat 0) ?_ h h0 (by omega)
  rw [List.getD_eq_getElem?_getD, List.getElem?_eq_getElem hlt]; rfl
theorem Cmp_in_S {A : Around} {l : List Nat} {c : Nat} {P : Bool → Prop} (h : P (decide (c ∈ l))) : CmpOk w A .In (.str (S [c])) (.str (S l)) P :=
  Cmp_in_str (by rw [S_contains]; exact h)
theorem Call_len_S {A : Around} {l : List Nat} {P : V → Prop} (hx : l.length < 2 ^ 62) (h : P (.int (l.length : Int))) : CallOk w A (.builtin "len") [.str (S l)] P :=
  Call_len_str (by rw [S_len]; exact hx) (by rw [S_len]; exact h)
theorem Bin_catS {A : Around} {x y : List Nat} {P : V → Prop} (hs : x.length + y.length ≤ 1000000) (h : P (.str (S (x ++ y)))) : BinOk w A .Add (.str (S x)) (.str (S y)) P :=
  Bin_cat (by rw [S_len, S_len]; exact hs) (by rw [S_app]; exact h)
/-- the signs of a whole number -/
def dec (n : Nat) : List Nat := (Nat.toDigits 10 n).map Char.toNat
theorem dec_str (n : Nat) : Str.ofString (toString ((n : Nat) : Int)) = S (dec n) := by
  have := KIN.signs_num n
  rw [← S_eta (Str.ofString _), this]; rfl
theorem Call_str_nat {A : Around} {n : Nat} {P : V → Prop} (hi : Bd 1900 n) (h : P (.str (S (dec n)))) : CallOk w A (.type "str") [.int (n : Int)] P :=
  Call_str_int ((hi.mono (m := 1920) (by decide)).log (by decide)) (by rw [dec_str]; exact h)
theorem lit_none : Str.ofString "" = S [] := by decide +kernel
theorem EX_str0 {k : Nat} {Q : V → List (Addr × List V) → Prop} (h : Q (.str (S [])) g) : EX w Φ (.Constant (.str (Str.ofString "")) k pos) ⟨mu, ρ, g⟩ Q :=
  EX_str (by rw [lit_none]; exact h)
end rules

theorem FxOk.u64 {w : World} {names : List (Str × NameKind)} {Φ : Fx} (ok : FxOk w names Φ) : Φ.A.units + 64 < cLine := by have := ok.units; omega
theorem Rep.rngE {mu : Addr → Prop} {h : Heap} {n : Nat} {v : Value} (x : Rep mu h (.rng n) v) : ∃ a t u r, v = .ref a ∧ ¬ mu a ∧ IsRange h a 0 n 1 t u r := by simpa only [Rep] using x
theorem Rep.dictE {mu : Addr → Prop} {h : Heap} {w : World} {ks : List Str} {vs : List V} {v : Value} (x : Rep mu h (.dict w ks vs) v) : ∃ a kvs, v = .ref a ∧ ¬ mu a ∧ (a == sysModules) = false ∧ h.DictOf (PySem.strKind PySem.Challenge.rw_nu0057_01.row.prog w) a kvs ∧ kvs.map (·.1) = ks ∧ RepL mu h vs (kvs.map (·.2)) := by simpa only [Rep] using x

/-- the two of a pair, read -/
theorem Rep.reads_pr {mu : Addr → Prop} {h : Heap} {i j : Int} {v : Value} (x : Rep mu h (.tup [.int i, .int j]) v) : ∃ as, Reads h v (.tuple [.int i, .int j]) as := by
  obtain ⟨a, items, rfl, _, ⟨o, ho, hc, n, hd⟩, hr⟩ := x.tupE
  obtain ⟨v1, r1, e1, rv1, hr⟩ := hr.consE
  obtain ⟨v2, r2, rfl, rv2, hr⟩ := hr.consE
  obtain rfl := hr.nilE
  obtain ⟨t, rfl⟩ := rv1.intE
  obtain ⟨u, rfl⟩ := rv2.intE
  exact ⟨_, reads_tuple_at ho hc hd (by rw [e1]; exact ReadsAll.cons (Reads.int _ _) (ReadsAll.cons (Reads.int _ _) ReadsAll.nil))⟩
theorem pr_eqv (i j k l : Int) : PyData.eqv (.tuple [.int i, .int j]) (.tuple [.int k, .int l]) = decide ((i, j) = (k, l)) := by
  simp only [PyData.eqv, PyData.eqvAll, Bool.and_true]
  by_cases h : i = k <;> by_cases h' : j = l <;> simp [h, h']
theorem strsAre_of {mu : Addr → Prop} {h : Heap} : ∀ {l : List Str} {vs : List Value}, RepL mu h (l.map .str) vs → StrsAre vs l
  | [], vs, x => by obtain rfl := RepL.nilE x; exact .nil
  | y :: l, vs, x => by
    obtain ⟨v, r, rfl, rv, rr⟩ := RepL.consE x
    obtain ⟨t, rfl⟩ := rv.strE
    exact .cons y t (strsAre_of rr)
section cmps
variable {w : World} {A : Around} {P : Bool → Prop}
theorem Cmp_eq_pr {i j k l : Int} (hu : A.units + 64 < cLine) (h : P (decide ((i, j) = (k, l)))) : CmpOk w A .Eq (.tup [.int i, .int j]) (.tup [.int k, .int l]) P := by
  intro mu s va vb _ ra rb
  obtain ⟨as, xa⟩ := ra.reads_pr
  obtain ⟨bs, xb⟩ := rb.reads_pr
  exact eq_dataH xa xb (by rfl) (by rfl) hu ⟨_, rfl, Gr.rfl', by rw [pr_eqv]; exact h⟩
theorem Cmp_ne_pr {i j k l : Int} (hu : A.units + 64 < cLine) (h : P (!decide ((i, j) = (k, l)))) : CmpOk w A .NotEq (.tup [.int i, .int j]) (.tup [.int k, .int l]) P := by
  intro mu s va vb _ ra rb
  obtain ⟨as, xa⟩ := ra.reads_pr
  obtain ⟨bs, xb⟩ := rb.reads_pr
  exact ne_dataH xa xb (by rfl) (by rfl) hu ⟨_, rfl, Gr.rfl', by rw [pr_eqv]; exact h⟩
theorem Cmp_eq_strs2 {a b c d : Str} (hu : A.units + 64 < cLine) (h : P ((a == c) && (b == d))) : CmpOk w A .Eq (.lst [.str a, .str b]) (.lst [.str c, .str d]) P := by
  intro mu s va vb _ ra rb
  obtain ⟨p, items, rfl, _, hi, hr⟩ := ra.lstE
  obtain ⟨q, items', rfl, _, hi', hr'⟩ := rb.lstE
  obtain ⟨v1, r1, e1, rv1, hr⟩ := hr.consE
  obtain ⟨v2, r2, rfl, rv2, hr⟩ := hr.consE
  obtain rfl := hr.nilE
  obtain ⟨t, rfl⟩ := rv1.strE
  obtain ⟨u, rfl⟩ := rv2.strE
  obtain ⟨v3, r3, e2, rv3, hr'⟩ := hr'.consE
  obtain ⟨v4, r4, rfl, rv4, hr'⟩ := hr'.consE
  obtain rfl := hr'.nilE
  obtain ⟨t', rfl⟩ := rv3.strE
  obtain ⟨u', rfl⟩ := rv4.strE
  obtain rfl : items = #[.str a t, .str b u] := by rw [← Array.toArray_toList (xs := items), e1]
  obtain rfl : items' = #[.str c t', .str d u'] := by rw [← Array.toArray_toList (xs := items'), e2]
  refine SeqAt.eq_listAt (e := fun j => if j = 0 then a == c else b == d) hi hi' rfl (by omega) (fun j h1 h2 => ?_) ⟨_, rfl, Gr.rfl', ?_⟩
  · match j, h1 with
    | 0, _ => exact SeqAt.EqAt.str_str a t c t'
    | 1, _ => exact SeqAt.EqAt.str_str b u d u'
  · have : (List.range (#[Value.str a t, Value.str b u] : Array Value).size) = [0, 1] := rfl
    rw [this]
    simpa using h
theorem Cmp_eq_nil {l : List V} (hu : A.units + 64 < cLine) (h : P l.isEmpty) : CmpOk w A .Eq (.lst l) (.lst []) P := by
  intro mu s va vb _ ra rb
  obtain ⟨p, items, rfl, _, hi, hr⟩ := ra.lstE
  obtain ⟨q, items', rfl, _, hi', hr'⟩ := rb.lstE
  have e1 : items.size = l.length := by rw [← hr.length, Array.length_toList]
  have e2 : items'.size = 0 := by rw [← Array.length_toList, hr'.nilE]; rfl
  cases l with
  | nil =>
    refine SeqAt.eq_listAt (e := fun _ => true) hi hi' (by rw [e1, e2]; rfl) (by omega) (fun j h1 h2 => by omega) ⟨_, rfl, Gr.rfl', ?_⟩
    rw [e1]; exact h
  | cons d r =>
    exact SeqAt.eq_list_lengthsAt hi hi' (by rw [e1, e2]; rfl) (by omega) ⟨_, rfl, Gr.rfl', h⟩
theorem Cmp_in_strs2 {x a b : Str} (h : P (a == x || b == x)) : CmpOk w A .In (.str x) (.lst [.str a, .str b]) P := by
  intro mu s va vb _ ra rb
  obtain ⟨t, rfl⟩ := ra.strE
  obtain ⟨b, items', rfl, _, hi', hr'⟩ := rb.lstE
  exact in_list_strs (vs := items'.toList) (by simpa using hi') (strsAre_of (l := [a, _]) hr') ⟨_, rfl, Gr.rfl', by simpa using h⟩
theorem Cmp_notin_strs2 {x a b : Str} (h : P (!(a == x || b == x))) : CmpOk w A .NotIn (.str x) (.lst [.str a, .str b]) P := by
  intro mu s va vb _ ra rb
  obtain ⟨t, rfl⟩ := ra.strE
  obtain ⟨b, items', rfl, _, hi', hr'⟩ := rb.lstE
  exact notin_list_strs (vs := items'.toList) (by simpa using hi') (strsAre_of (l := [a, _]) hr') ⟨_, rfl, Gr.rfl', by simpa using h⟩
end cmps

section ops
variable {w : World} {A : Around} {P : V → Prop}
theorem fresh_not {mu : Addr → Prop} {h : Heap} (lv : ∀ b, mu b → ∃ o, h.get? b = some o) : ¬ mu h.objs.size := fun hm => by
  obtain ⟨o, e⟩ := lv _ hm
  exact Nat.lt_irrefl _ (Heap.lt_size e)
theorem Bin_addL {x y : List V} (hs : x.length + y.length ≤ 1000000) (h : P (.lst (x ++ y))) : BinOk w A .Add (.lst x) (.lst y) P := by
  intro mu s va vb lv ra rb
  obtain ⟨a, items, rfl, _, hi, hr⟩ := ra.lstE
  obtain ⟨b, items', rfl, _, hi', hr'⟩ := rb.lstE
  have e1 : items.size = x.length := by rw [← hr.length, Array.length_toList]
  have e2 : items'.size = y.length := by rw [← hr'.length, Array.length_toList]
  obtain ⟨⟨cls, dd, data, sl⟩, ho, hc, n, hd⟩ := id hi
  obtain ⟨⟨cls2, dd2, data2, sl2⟩, ho2, hc2, n2, hd2⟩ := id hi'
  simp only at hc hd hc2 hd2
  subst hc hd hc2 hd2
  refine concat_meets ⟨_, ho, rfl⟩ ⟨_, ho2, rfl⟩ noFill_list_add seq_list_add PySem.F.slot_list_add PySem.F.entry_list_add (PySem.F.args_list_add_2 _ _) (list_addW a b items items' n n2 dd dd2 sl sl2 (by rw [sizeLine_eq]; omega)) ⟨ho, ho2, ?_⟩
  refine ⟨.lst (x ++ y), ?_, Gr.push, h⟩
  have e : items ++ items' = (items.toList ++ items'.toList).toArray := by simp
  rw [e]
  exact Rep.lst' (fresh_not lv) ⟨_, Heap.get?_push_size _ rfl, rfl, 0, rfl⟩ ((hr.append hr').mono (Gr.push.stp _))
theorem Sub_lstD {l : List V} {k : Int} (h0 : 0 ≤ k) (h1 : k < l.length) (hl : l.length < 2 ^ 62) (h : ∀ d, l[k.toNat]? = some d → P d) : SubOk w A (.lst l) (.int k) P := by
  have hlt : k.toNat < l.length := by omega
  exact Sub_lst (d := l[k.toNat]) (List.getElem?_eq_getElem hlt) (h _ (List.getElem?_eq_getElem hlt)) h0 (by omega)
theorem Call_range {n : Nat} (hn : n ≤ 1000000) (h : P (.rng n)) : CallOk w A (.type "range") [.int (n : Int)] P := by
  intro mu s vs lv hl
  obtain ⟨v, r, rfl, rv, hr⟩ := hl.consE
  obtain rfl := hr.nilE
  obtain ⟨t, rfl⟩ := rv.intE
  refine call_range_1 ⟨.rng n, ?_, ⟨fun b o e => Heap.get?_push_of_some _ e, rfl, rfl⟩, h⟩
  simp only [Rep]
  exact ⟨_, _, _, _, rfl, fresh_not lv, Heap.get?_push_size _ rfl⟩
/-- an item of a dict -/
theorem lookup_at {K : Type} [DecidableEq K] {mu : Addr → Prop} {h : Heap} {d : V} : ∀ {kvs : List (K × Value)} {vs : List V} {i : Nat} {k : K}, RepL mu h vs (kvs.map (·.2)) → (kvs.map (·.1))[i]? = some k → (kvs.map (·.1)).Nodup → vs[i]? = some d → ∃ v, valueAt kvs k = some v ∧ Rep mu h d v
  | [], _, _, _, _, e, _, _ => by simp at e
  | (k0, v0) :: kvs, vs, 0, k, r, e, nd, ed => by
    cases vs with
    | nil => simp at ed
    | cons d0 vs =>
      simp at e ed
      subst e; subst ed
      obtain ⟨v, rr, e1, rv, _⟩ := RepL.consE r
      simp only [List.map_cons, List.cons.injEq] at e1
      exact ⟨v0, by simp [valueAt], by rw [e1.1]; exact rv⟩
  | (k0, v0) :: kvs, vs, i + 1, k, r, e, nd, ed => by
    cases vs with
    | nil => simp at ed
    | cons d0 vs =>
      simp only [List.map_cons, List.getElem?_cons_succ] at e ed
      simp only [List.map_cons, List.nodup_cons] at nd
      obtain ⟨v, rr, e1, rv, hrr⟩ := RepL.consE r
      simp only [List.map_cons, List.cons.injEq] at e1
      have hne : k0 ≠ k := fun q => nd.1 (q ▸ List.mem_of_getElem? e)
      obtain ⟨v', hv', rv'⟩ := lookup_at (vs := vs) (by rw [e1.2]; exact hrr) e nd.2 ed
      exact ⟨v', by simpa [valueAt, hne, Ne.symm hne] using hv', rv'⟩
end ops

section marks
variable {w : World} {Φ : Fx} {names : List (Str × NameKind)} {mu : Addr → Prop} {ρ : List (Str × V)} {g : List (Addr × List V)}

theorem Stor.get {h : Heap} : ∀ {g : List (Addr × List V)} {a : Addr} {l : List V}, Stor mu h g → (a, l) ∈ g → ∃ items, IsSt h a items ∧ RepL mu h l items.toList
  | (b, m) :: r, a, l, x, hp => by
    rcases List.mem_cons.mp hp with e | hp
    · cases e; exact x.2.2.1
    · exact Stor.get x.2.2.2 hp
theorem IsSt.list2 {h : Heap} {a : Addr} {items : Array Value} (x : IsSt h a items) (hs : items.size = 2) : h.IsList a items := by
  obtain ⟨o, ho, r⟩ := x
  rcases r with ⟨_, r⟩ | ⟨v, rfl, _⟩ | ⟨rfl, _⟩
  · exact ⟨o, ho, r⟩
  · simp at hs
  · simp at hs
theorem IsSt.cell1 {h : Heap} {a : Addr} {items : Array Value} (x : IsSt h a items) (hs : items.size ≠ 2) : ∃ v, h.IsCell a v ∧ items.toList = v.toList := by
  obtain ⟨o, ho, r⟩ := x
  rcases r with ⟨h2, r⟩ | ⟨v, rfl, hd⟩ | ⟨rfl, hd⟩
  · exact absurd h2 hs
  · exact ⟨some v, ⟨o, ho, hd⟩, rfl⟩
  · exact ⟨none, ⟨o, ho, hd⟩, rfl⟩
theorem Sat.put {a : Addr} {l l' : List V} {r : List (Addr × List V)} {h h' : Heap} (x : Sat Φ ⟨mu, ρ, (a, l) :: r⟩ h) (sb : Heap.ExtBut a h h')
    (it : ∃ items, IsSt h' a items ∧ RepL mu h' l' items.toList) : Sat Φ ⟨mu, ρ, (a, l') :: r⟩ h' := by
  have hma : mu a := x.store.1
  refine Sat.call (S := ⟨mu, ρ, (a, l) :: r⟩) x ⟨hma, x.store.2.1, it, ?_⟩ rfl fun b o e n => sb b o (fun c => n (by simp [c])) e
  exact x.store.2.2.2.step (fun b o e n => ⟨sb b o (fun c => n (c ▸ hma)) e, n⟩) (fun p hp o e => sb _ _ (x.store.2.1 p hp) e) x.store.2.2.2.mu

/-- a new place is marked -/
theorem Sat.grow {h0 h : Heap} {a : Addr} (x : Sat Φ ⟨mu, ρ, g⟩ h0) (hf : h0.get? a = none) (k : ∀ b o, h0.get? b = some o → h.get? b = some o) (lv : ∃ o, h.get? a = some o) : Sat Φ ⟨fun b => mu b ∨ b = a, ρ, g⟩ h := by
  have old : ∀ b o, h0.get? b = some o → b ≠ a := fun b o e c => by rw [c, hf] at e; cases e
  have st : Stp mu (fun b => mu b ∨ b = a) h0 h := fun b o e n => ⟨k b o e, fun c => c.elim n (old b o e)⟩
  exact
  { keepB := fun b o e => k b o (x.keepB b o e)
    keepIn := fun b o e n => k b o (x.keepIn b o e n)
    muB := fun b o e c => c.elim (x.muB b o e) fun c => old b o (x.keepB b o e) c
    muLive := fun b c => c.elim (fun c => let ⟨o, e⟩ := x.muLive b c; ⟨o, k b o e⟩) fun c => c ▸ lv
    sup := fun b c => .inl (x.sup b c)
    muL := .inl x.muL
    locals := by
      obtain ⟨m, ⟨o, es, ep, ho, r⟩, hm⟩ := x.locals
      refine ⟨m, ⟨o, es, ep, k _ _ ho, r⟩, fun y d e => ?_⟩
      obtain ⟨v, hv, rv⟩ := hm y d e
      exact ⟨v, hv, rv.mono st⟩
    store := x.store.step st (fun p _ o e => k _ _ e) fun p hp => .inl (x.store.mu p hp)
    offL := x.offL
    may := x.may
    pins := fun p hp => let ⟨a, b, c, d⟩ := x.pins p hp; ⟨k _ _ a, .inl b, c, d⟩ }
theorem Sat.shrink {h0 h : Heap} {a : Addr} {ρ0 : List (Str × V)} {g0 : List (Addr × List V)} (x : Sat Φ ⟨fun b => mu b ∨ b = a, ρ, g⟩ h) (x0 : Sat Φ ⟨mu, ρ0, g0⟩ h0) (hf : h0.get? a = none) (hg : ∀ q ∈ g, q.1 ≠ a) : Sat Φ ⟨mu, ρ, g⟩ h := by
  have mold : ∀ b, mu b → b ≠ a := fun b hb c => by obtain ⟨o, e⟩ := x0.muLive b hb; rw [c, hf] at e; cases e
  have st : Stp (fun b => mu b ∨ b = a) mu h h := fun b o e n => ⟨e, fun c => n (.inl c)⟩
  exact
  { keepB := x.keepB
    keepIn := x.keepIn
    muB := fun b o e c => x.muB b o e (.inl c)
    muLive := fun b c => x.muLive b (.inl c)
    sup := x0.sup
    muL := x0.muL
    locals := by
      obtain ⟨m, hn, hm⟩ := x.locals
      refine ⟨m, hn, fun y d e => ?_⟩
      obtain ⟨v, hv, rv⟩ := hm y d e
      exact ⟨v, hv, rv.mono st⟩
    store := x.store.step st (fun p _ o e => e) fun p hp => (x.store.mu p hp).resolve_right (hg p hp)
    offL := x.offL
    may := x.may
    pins := fun p hp => by
      obtain ⟨a1, b, c, d⟩ := x.pins p hp
      exact ⟨a1, (x0.pins p hp).2.1, c, d⟩ }
theorem Sat.unpin {S : AS} {h : Heap} {p : Addr × Obj} (x : Sat { Φ with pin := p :: Φ.pin } S h) : Sat Φ S h :=
  { x with pins := fun q hq => x.pins q (.tail _ hq) }
theorem FxOk.pinned {p : Addr × Obj} (ok : FxOk w names Φ) : FxOk w names { Φ with pin := p :: Φ.pin } :=
  ⟨ok.wd, ok.handled, ok.depth, ok.units, ok.hL, ok.hB, ok.locals, ok.globals, ok.builtins, ok.kind, ok.kinds, ok.nodebug⟩
theorem with_new {s : Shared} {o : Obj} (hs : SatS Φ ⟨mu, ρ, g⟩ s) (hof : o.isFreed = false) : SatS { Φ with pin := (s.heap.objs.size, o) :: Φ.pin } ⟨fun b => mu b ∨ b = s.heap.objs.size, ρ, g⟩ { s with heap := s.heap.push o } := by
  have x := hs.sat.grow (a := s.heap.objs.size) (h := s.heap.push o) get_size (fun b o' e => Heap.get?_push_of_some _ e) ⟨o, Heap.get?_push_size _ hof⟩
  refine ⟨{ x with pins := fun p hp => ?_ }, hs.gens, hs.os⟩
  rcases List.mem_cons.mp hp with rfl | hp
  · refine ⟨Heap.get?_push_size _ hof, .inr rfl, fun c => ?_, fun q hq c => ?_⟩
    · obtain ⟨o', e⟩ := hs.sat.muLive _ hs.sat.muL
      rw [← c] at e
      rw [get_size] at e; cases e
    · obtain ⟨o', e⟩ := hs.sat.store.live q hq
      rw [c, get_size] at e; cases e
  · exact x.pins p hp
theorem back_new {s s1 : Shared} {o : Obj} {ρ' : List (Str × V)} {g' : List (Addr × List V)} {h' : Heap} {t : Nat} (hs : SatS Φ ⟨mu, ρ, g⟩ s) (x : SatS { Φ with pin := (s.heap.objs.size, o) :: Φ.pin } ⟨fun b => mu b ∨ b = s.heap.objs.size, ρ', g'⟩ s1)
    (sb : Heap.ExtBut s.heap.objs.size s1.heap h') (lv : ∃ o, h'.get? s.heap.objs.size = some o) : SatS Φ ⟨mu, ρ', g'⟩ { s1 with heap := h', toks := t } := by
  have hp := x.sat.pins _ (.head _)
  have y := x.sat.unpin
  have hnin : Φ.hin.get? s.heap.objs.size = none ∨ s.heap.objs.size ∈ Φ.nu := by
    by_cases c : s.heap.objs.size ∈ Φ.nu
    · exact .inr c
    · cases e : Φ.hin.get? s.heap.objs.size with
      | none => exact .inl rfl
      | some o' =>
        have e2 := hs.sat.keepIn _ _ e c
        rw [get_size] at e2; cases e2
  have z := y.poke sb (.inr rfl) (fun c => hp.2.2.1 c.symm) hp.2.2.2 hnin.symm (fun q hq c => by
    obtain ⟨o', e⟩ := hs.sat.muLive _ (hs.sat.pins q hq).2.1
    rw [c, get_size] at e; cases e) lv
  exact ⟨z.shrink hs.sat get_size hp.2.2.2, x.gens, x.os⟩
theorem Sat.retype {x : Str} {d d' : V} {h : Heap} (hs : Sat Φ ⟨mu, (x, d) :: ρ, g⟩ h) (k : ∀ v, Rep mu h d v → Rep mu h d' v) : Sat Φ ⟨mu, (x, d') :: ρ, g⟩ h :=
  { hs with
    locals := by
      obtain ⟨m, hn, hm⟩ := hs.locals
      refine ⟨m, hn, fun y e he => ?_⟩
      have := hm y
      simp only [List.lookup_cons] at he this
      cases c : y == x with
      | true =>
        simp only [c, Option.some.injEq] at he
        subst he
        obtain ⟨v, hv, rv⟩ := this d (by simp [c])
        exact ⟨v, hv, k v rv⟩
      | false =>
        simp only [c] at he
        exact this e (by simpa [c] using he) }
end marks

section rules
variable {w : World} {Φ : Fx} {names : List (Str × NameKind)} {mu : Addr → Prop} {ρ : List (Str × V)} {g : List (Addr × List V)} {pos p p' : Pos}

theorem src_items {h : Heap} {x y : V} {items : Array Value} (r : RepL mu h [x, y] items.toList) : ∃ a b, items = #[a, b] ∧ Rep mu h x a ∧ Rep mu h y b := by
  obtain ⟨v1, r1, e1, rv1, hr⟩ := r.consE
  obtain ⟨v2, r2, rfl, rv2, hr⟩ := hr.consE
  obtain rfl := hr.nilE
  exact ⟨v1, v2, by rw [← Array.toArray_toList (xs := items), e1], rv1, rv2⟩
/-- source[0], source[1] -/
theorem EX_src0 {x : Str} {a : Addr} {i : V} {y : V} {r : List (Addr × List V)} {k : Nat} {Q : V → List (Addr × List V) → Prop} (ok : FxOk w names Φ) (hr : ρ.lookup x = some (.loc a))
    (h : Q i ((a, [i, y]) :: r)) (hl : names.lookup x = some .local) : EX w Φ (.Subscript (.Name x p) (.Constant (.int 0) k p') pos) ⟨mu, ρ, (a, [i, y]) :: r⟩ Q := by
  intro s hs
  refine Subscript_ (wpAny_mono (EX_loc (Q := fun d g1 => d = .loc a ∧ g1 = (a, [i, y]) :: r) ok hr ⟨rfl, rfl⟩ hl s hs) (fun va s1 => ?_) fun _ _ x => x)
  rintro ⟨_, _, ra, hs1, st1, rfl, rfl⟩
  obtain rfl := ra.locE
  refine wpAny_Constant_int ?_
  have hs2 := hs1.gr (Gr.tok (n := s1.toks + 1))
  obtain ⟨items, hi, hri⟩ := hs2.sat.store.2.2.1
  obtain ⟨v1, v2, rfl, rv1, rv2⟩ := src_items hri
  exact tail_any (hi.list2 rfl).typeIs slot_list_getitem.lookup (wpAny_getItem_list (x := v1) (hi.list2 rfl) (by decide) (by decide) rfl ⟨i, _, rv1, hs2, st1.trans (Gr.tok.stp _), h⟩) rfl
theorem EX_src1 {x : Str} {a : Addr} {i : V} {y : V} {r : List (Addr × List V)} {k : Nat} {Q : V → List (Addr × List V) → Prop} (ok : FxOk w names Φ) (hr : ρ.lookup x = some (.loc a))
    (h : Q y ((a, [i, y]) :: r)) (hl : names.lookup x = some .local) : EX w Φ (.Subscript (.Name x p) (.Constant (.int 1) k p') pos) ⟨mu, ρ, (a, [i, y]) :: r⟩ Q := by
  intro s hs
  refine Subscript_ (wpAny_mono (EX_loc (Q := fun d g1 => d = .loc a ∧ g1 = (a, [i, y]) :: r) ok hr ⟨rfl, rfl⟩ hl s hs) (fun va s1 => ?_) fun _ _ x => x)
  rintro ⟨_, _, ra, hs1, st1, rfl, rfl⟩
  obtain rfl := ra.locE
  refine wpAny_Constant_int ?_
  have hs2 := hs1.gr (Gr.tok (n := s1.toks + 1))
  obtain ⟨items, hi, hri⟩ := hs2.sat.store.2.2.1
  obtain ⟨v1, v2, rfl, rv1, rv2⟩ := src_items hri
  exact tail_any (hi.list2 rfl).typeIs slot_list_getitem.lookup (wpAny_getItem_list (x := v2) (hi.list2 rfl) (by decide) (by decide) rfl ⟨y, _, rv2, hs2, st1.trans (Gr.tok.stp _), h⟩) rfl
/-- source[0] = e -/
theorem SX_src0 {x : Str} {a : Addr} {e : PySem.Expr} {k : Nat} {q : Pos} {Q : Fl → AS → Prop} (ok : FxOk w names Φ) (hr : ρ.lookup x = some (.loc a))
    (h : EX w Φ e ⟨mu, ρ, g⟩ fun d g1 => ∃ z i y r, d = .int z ∧ g1 = (a, [i, y]) :: r ∧ Q .next ⟨mu, ρ, (a, [.int z, y]) :: r⟩) (hl : names.lookup x = some .local)
    (hsw : swapsWith e (some (.Subscript (.Name x p) (.Constant (.int 0) k p') q)) pos.line Φ.env = pure false) : SX w Φ (.Assign [.Subscript (.Name x p) (.Constant (.int 0) k p') q] e pos) ⟨mu, ρ, g⟩ Q := by
  intro s hs
  refine wpAny_Assign_Subscript (wpAny_mono (h s hs) (fun v s1 => ?_) fun _ _ x => x) hsw
  rintro ⟨d, g1, rd, hs1, st1, z, i, y, r, rfl, rfl, hq⟩
  obtain ⟨t, rfl⟩ := rd.intE
  refine wpAny_mono (EX_loc (pos := p) (Q := fun d g1 => d = .loc a ∧ g1 = (a, [i, y]) :: r) ok hr ⟨rfl, rfl⟩ hl s1 hs1) (fun va s2 => ?_) fun _ _ x => x
  rintro ⟨_, _, ra, hs2, st2, rfl, rfl⟩
  obtain rfl := ra.locE
  refine wpAny_Constant_int ?_
  have hs3 := hs2.gr (Gr.tok (n := s2.toks + 1))
  obtain ⟨items, hi, hri⟩ := hs3.sat.store.2.2.1
  obtain ⟨v1, v2, rfl, rv1, rv2⟩ := src_items hri
  have hma : mu a := hs3.sat.store.1
  refine wpAny_setItem_list (hi.list2 rfl) (by decide) (by decide) (by simp) fun h' hl' sb => ?_
  have st3 : Stp mu mu s2.heap h' := fun b o e n => ⟨(sb.2 b (by rintro rfl; exact n hma)).trans e, n⟩
  refine ⟨.next, _, by simp only [FlRep], ⟨Sat.put hs3.sat sb.extBut ⟨#[.int z t, v2], ?_, RepL.cons' Rep.int' (RepL.cons' (rv2.mono st3) RepL.nil')⟩, hs3.gens, hs3.os⟩, st1.trans (st2.trans st3), hq⟩
  obtain ⟨o, ho, r'⟩ := hl'
  exact ⟨o, ho, .inl ⟨rfl, r'⟩⟩
theorem SX_src1 {x : Str} {a : Addr} {e : PySem.Expr} {k : Nat} {q : Pos} {Q : Fl → AS → Prop} (ok : FxOk w names Φ) (hr : ρ.lookup x = some (.loc a))
    (h : EX w Φ e ⟨mu, ρ, g⟩ fun d g1 => ∃ z i y r, d = .int z ∧ g1 = (a, [i, y]) :: r ∧ Q .next ⟨mu, ρ, (a, [i, .int z]) :: r⟩) (hl : names.lookup x = some .local)
    (hsw : swapsWith e (some (.Subscript (.Name x p) (.Constant (.int 1) k p') q)) pos.line Φ.env = pure false) : SX w Φ (.Assign [.Subscript (.Name x p) (.Constant (.int 1) k p') q] e pos) ⟨mu, ρ, g⟩ Q := by
  intro s hs
  refine wpAny_Assign_Subscript (wpAny_mono (h s hs) (fun v s1 => ?_) fun _ _ x => x) hsw
  rintro ⟨d, g1, rd, hs1, st1, z, i, y, r, rfl, rfl, hq⟩
  obtain ⟨t, rfl⟩ := rd.intE
  refine wpAny_mono (EX_loc (pos := p) (Q := fun d g1 => d = .loc a ∧ g1 = (a, [i, y]) :: r) ok hr ⟨rfl, rfl⟩ hl s1 hs1) (fun va s2 => ?_) fun _ _ x => x
  rintro ⟨_, _, ra, hs2, st2, rfl, rfl⟩
  obtain rfl := ra.locE
  refine wpAny_Constant_int ?_
  have hs3 := hs2.gr (Gr.tok (n := s2.toks + 1))
  obtain ⟨items, hi, hri⟩ := hs3.sat.store.2.2.1
  obtain ⟨v1, v2, rfl, rv1, rv2⟩ := src_items hri
  have hma : mu a := hs3.sat.store.1
  refine wpAny_setItem_list (hi.list2 rfl) (by decide) (by decide) (by simp) fun h' hl' sb => ?_
  have st3 : Stp mu mu s2.heap h' := fun b o e n => ⟨(sb.2 b (by rintro rfl; exact n hma)).trans e, n⟩
  refine ⟨.next, _, by simp only [FlRep], ⟨Sat.put hs3.sat sb.extBut ⟨#[v1, .int z t], ?_, RepL.cons' (rv1.mono st3) (RepL.cons' Rep.int' RepL.nil')⟩, hs3.gens, hs3.os⟩, st1.trans (st2.trans st3), hq⟩
  obtain ⟨o, ho, r'⟩ := hl'
  exact ⟨o, ho, .inl ⟨rfl, r'⟩⟩

/-- a cell's name -/
theorem EX_cell {x : Str} {c : Addr} {d : V} {Q : V → List (Addr × List V) → Prop} (ok : FxOk w names Φ) (hl : names.lookup x = some .cell) (hc : Φ.env.cells.lookup x = some c) (hg : (c, [d]) ∈ g) (h : Q d g) : EX w Φ (.Name x pos) ⟨mu, ρ, g⟩ Q := by
  intro s hs
  obtain ⟨items, hi, hr⟩ := hs.sat.store.get hg
  have hsz : items.size = 1 := by rw [← Array.length_toList, hr.length]; rfl
  obtain ⟨v, hv, e⟩ := hi.cell1 (by omega)
  obtain ⟨u, r, e2, ru, hr2⟩ := hr.consE
  obtain rfl := hr2.nilE
  rw [e] at e2
  cases v with
  | none => simp at e2
  | some v =>
    simp at e2; subst e2
    exact wpAny_Name (wpAny_loadName_cell ok.kind ((ok.kinds x).trans hl) hc hv ⟨d, g, ru, hs, Stp.rfl', h⟩) (ok.nd hl)
/-- a cell's name is stored -/
theorem SX_setcell {x : Str} {c : Addr} {l : List V} {e : PySem.Expr} {Q : Fl → AS → Prop} (ok : FxOk w names Φ) (hl : names.lookup x = some .cell) (hc : Φ.env.cells.lookup x = some c) (hlen : l.length ≤ 1)
    (h : EX w Φ e ⟨mu, ρ, g⟩ fun d g1 => ∃ r, g1 = (c, l) :: r ∧ Q .next ⟨mu, ρ, (c, [d]) :: r⟩) (hw : swapsWith e (some (.Name x p)) pos.line Φ.env = pure false) : SX w Φ (.Assign [.Name x p] e pos) ⟨mu, ρ, g⟩ Q := by
  intro s hs
  refine wpAny_Assign_Name (wpAny_mono (h s hs) (fun v s1 => ?_) fun _ _ x => x) hw
  rintro ⟨d, g1, rd, hs1, st1, r, rfl, hq⟩
  obtain ⟨items, hi, hr⟩ := hs1.sat.store.2.2.1
  have hsz : items.size = l.length := by rw [← Array.length_toList, hr.length]
  obtain ⟨v0, hv, _⟩ := hi.cell1 (by omega)
  have hma : mu c := hs1.sat.store.1
  refine wpAny_storeName_cell ok.kind ((ok.kinds x).trans hl) hc hv fun h' hc' sb => ?_
  have st3 : Stp mu mu s1.heap h' := fun b o e n => ⟨(sb.2 b (by rintro rfl; exact n hma)).trans e, n⟩
  obtain ⟨o, ho, hd⟩ := hc'
  exact ⟨.next, _, by simp only [FlRep], ⟨Sat.put hs1.sat sb.extBut ⟨#[v], ⟨o, ho, .inr (.inl ⟨v, rfl, hd⟩)⟩, RepL.cons' (rd.mono st3) RepL.nil'⟩, hs1.gens, hs1.os⟩, st1.trans st3, hq⟩

/-- a dict display -/
def prsOf (env : Env) (pos : Pos) : List (Option PySem.Expr) → List PySem.Expr → List (Sem Value × Sem Value)
  | some k :: ks, v :: vs => (eval k env, do let x ← eval v env; standAt pos; pure x) :: prsOf env pos ks vs
  | _, _ => []
def PP (w : World) (Φ : Fx) (pos : Pos) (keys : List (Option PySem.Expr)) (vals : List PySem.Expr) (S : AS) (Q : List Str → List V → List (Addr × List V) → Prop) : Prop :=
  ∀ s, SatS Φ S s → wpAny (Mod w) Φ.A (evalPairs (prsOf Φ.env pos keys vals)) (fun vs s' => ∃ kl dl g kvs, Carries (PySem.strKind PySem.Challenge.rw_nu0057_01.row.prog w) vs kvs ∧ kvs.map (·.1) = kl ∧ RepL S.mu s'.heap dl (kvs.map (·.2)) ∧
    SatS Φ ⟨S.mu, S.rho, g⟩ s' ∧ Stp S.mu S.mu s.heap s'.heap ∧ Q kl dl g) noE s
theorem PP_nil {Q : List Str → List V → List (Addr × List V) → Prop} (h : Q [] [] g) : PP w Φ pos [] [] ⟨mu, ρ, g⟩ Q :=
  fun s hs => evalPairs_nil ⟨[], [], g, [], trivial, rfl, RepL.nil', hs, Stp.rfl', h⟩
theorem PP_cons {x : Str} {n : Nat} {v : PySem.Expr} {ks : List (Option PySem.Expr)} {vs : List PySem.Expr} {Q : List Str → List V → List (Addr × List V) → Prop}
    (h : EX w Φ v ⟨mu, ρ, g⟩ fun d g1 => PP w Φ pos ks vs ⟨mu, ρ, g1⟩ fun kl dl g2 => Q (x :: kl) (d :: dl) g2) : PP w Φ pos (some (.Constant (.str x) n p) :: ks) (v :: vs) ⟨mu, ρ, g⟩ Q := by
  intro s hs
  refine evalPairs_cons (wpAny_Constant_str (wpAny_bind (wpAny_mono (h _ (hs.gr .tok)) (fun u s1 => ?_) fun _ _ x => x)))
  rintro ⟨d, g1, rd, hs1, st1, hp⟩
  refine wpAny_bind (wpAny_standAt (wpAny_pure (wpAny_mono (hp s1 hs1) (fun ps s2 => ?_) fun _ _ x => x)))
  rintro ⟨kl, dl, g2, kvs, hc, rfl, hr, hs2, st2, hq⟩
  exact ⟨_, d :: dl, g2, (x, u) :: kvs, ⟨strKind_is _ _ _ _, rfl, hc⟩, rfl, RepL.cons' (rd.mono st2) hr, hs2, (Gr.tok.stp _).trans (st1.trans st2), hq⟩
theorem notSys {s : Shared} (ok : FxOk w names Φ) (hs : Φ.B.StaysIn s.heap) : (s.heap.objs.size == sysModules) = false := by
  have h1 : 280 < s.heap.objs.size := Heap.lt_size (hs _ _ (ok.wd.X 280 _ rfl))
  exact beq_eq_false_iff_ne.mpr (by show s.heap.objs.size ≠ 1; omega)
theorem EX_dict {keys : List (Option PySem.Expr)} {vals : List PySem.Expr} {Q : V → List (Addr × List V) → Prop} (ok : FxOk w names Φ)
    (h : ∀ Φ', FxOk w names Φ' → Φ'.A = Φ.A → Φ'.env = Φ.env → Φ'.B = Φ.B → Φ'.n = Φ.n → ∀ mu', PP w Φ' pos keys vals ⟨mu', ρ, g⟩ fun kl dl g1 => kl.Nodup ∧ Q (.dict w kl dl) g1)
    (hshape : (evalEachOpt keys Φ.env).zip ((evalEach vals Φ.env).map fun v => do let x ← v; standAt pos; pure x) = (prsOf Φ.env pos keys vals).map fun p => (some p.1, p.2)) (h0 : prsOf Φ.env pos keys vals ≠ []) (hlen : (prsOf Φ.env pos keys vals).length ≤ 15) :
    EX w Φ (.Dict keys vals pos) ⟨mu, ρ, g⟩ Q := by
  intro s hs
  have hn := with_new (o := { cls := .type "dict", data := .dict #[] }) hs rfl
  refine wpAny_Dict_pairs (knd := PySem.strKind PySem.Challenge.rw_nu0057_01.row.prog w) hshape h0 hlen (wpAny_mono (h _ ok.pinned rfl rfl rfl rfl _ _ hn) (fun vs s1 => ?_) fun _ _ x => x)
  rintro ⟨kl, dl, g1, kvs, hc, rfl, hr, hs1, st1, hnd, hq⟩
  have hp := hs1.sat.pins _ (.head _)
  refine ⟨kvs, hc, ⟨_, #[], 0, hp.1, ⟨rfl, rfl, rfl⟩, rfl, fun _ he => by simp at he, .nil, .nil⟩, fun h' hd sb => ?_⟩
  rw [merged_nil_of_nodup _ hnd] at hd
  have hd' := hd
  obtain ⟨o, es, ep, ho, _⟩ := hd'
  have st2 : Stp (fun b => mu b ∨ b = s.heap.objs.size) mu s1.heap h' := fun b o e n => ⟨(sb.2 b fun c => n (.inr c)).trans e, fun c => n (.inl c)⟩
  have st0 : Stp mu (fun b => mu b ∨ b = s.heap.objs.size) s.heap (s.heap.push { cls := .type "dict", data := .dict #[] }) := fun b o e n => ⟨Heap.get?_push_of_some _ e, fun c => c.elim n (Nat.ne_of_lt (Heap.lt_size e))⟩
  refine ⟨.dict w (kvs.map (·.1)) dl, g1, ?_, back_new hs hs1 sb.extBut ⟨o, ho⟩, st0.trans (st1.trans st2), hq⟩
  simp only [Rep]
  exact ⟨_, kvs, rfl, fresh_not hs.sat.muLive, notSys ok hs.sat.keepB, hd, rfl, hr.mono st2⟩
theorem Sub_dict {A : Around} {ks : List Str} {vs : List V} {k : Str} {d : V} {P : V → Prop} (i : Nat) (hk : ks[i]? = some k) (hd : vs[i]? = some d) (h : P d) : SubOk w A (.dict w ks vs) (.str k) P := by
  intro mu s vo vi _ ro ri
  obtain ⟨a, kvs, rfl, _, hs, hD, rfl, hr⟩ := ro.dictE
  obtain ⟨t, rfl⟩ := ri.strE
  have hD' := hD
  obtain ⟨o, es, ep, _, _, _, _, _, nd⟩ := hD'
  obtain ⟨v, hv, rv⟩ := lookup_at hr hk nd hd
  exact ⟨"dict", _, hD.typeIs, slot_dict_getitem.lookup, wpAny_getItem_of (strKind_is _ _ _ _) hD.mapOf hv ⟨d, rv, Gr.tok, h⟩⟩

/-- x = [..]; x.append(e) -/
theorem SS_setapp {x : Str} {es : List PySem.Expr} {e : PySem.Expr} {p1 p2 p3 p4 p5 p6 p7 : Pos} {rest : List Stmt} {Q : Fl → AS → Prop} (ok : FxOk w names Φ)
    (h : SP w Φ p2 es ⟨mu, ρ, g⟩ fun l g1 => l.length ≤ 1000 ∧ ∀ Φ', FxOk w names Φ' → Φ'.A = Φ.A → Φ'.env = Φ.env → Φ'.B = Φ.B → Φ'.n = Φ.n → ∀ mu' a, EX w Φ' e ⟨mu', (x, .loc a) :: ρ, g1⟩ fun d g2 => SS w Φ rest ⟨mu, (x, .lst (l ++ [d])) :: ρ, g2⟩ Q)
    (hl : names.lookup x = some .local) (hw : swapsWith (.List es p2) (some (.Name x p1)) p3.line Φ.env = pure false)
    (hbase : ∀ env, attributeBase (.Name x p4) "append" env (eval (.Name x p4) env) = eval (.Name x p4) env)
    (hfew : ((backTo p6 (starEach [e] Φ.env)).all (fun x => !x.1) && (backToKw p6 (keywordEach [] Φ.env)).all (fun x => x.1.isSome)
      && decide (([e] : List PySem.Expr).length + ([] : List Keyword).length + (if ([] : List Keyword).isEmpty then 0 else 1) < 30)) = true)
    (hline : (p5.endLine == p6.line) = true) (htrees : backTo p6 (starEach [e] Φ.env) = [(false, eval e Φ.env)]) :
    SS w Φ (.Assign [.Name x p1] (.List es p2) p3 :: .Expr (.Call (.Attribute (.Name x p4) "append" p5) [e] [] p6) p7 :: rest) ⟨mu, ρ, g⟩ Q := by
  intro s hs
  refine wpAny_execs_cons (wpAny_Assign_Name (wpAny_List (wpAny_mono (h s hs) (fun vs s1 => ?_) fun _ _ x => x)) hw)
  rintro ⟨l, g1, hl1, hs1, st1, hlen, hE⟩
  have hvlen : vs.length ≤ sizeLine := by rw [hl1.length, sizeLine_eq]; omega
  refine ⟨hvlen, ?_⟩
  have hn := with_new (o := { cls := .type "list", data := .seq vs.toArray }) hs1 rfl
  have ok' := ok.pinned (p := (s1.heap.objs.size, { cls := .type "list", data := .seq vs.toArray }))
  let Φ' : Fx := { Φ with pin := (s1.heap.objs.size, { cls := .type "list", data := .seq vs.toArray }) :: Φ.pin }
  refine store_ok (Φ := Φ') (d := .loc s1.heap.objs.size) ok' hn (by simp only [Rep]) (fun s2 hs2 st2 => ?_) hl
  have st0 : Stp mu (fun b => mu b ∨ b = s1.heap.objs.size) s1.heap (s1.heap.push { cls := .type "list", data := .seq vs.toArray }) := fun b o e n => ⟨Heap.get?_push_of_some _ e, fun c => c.elim n (Nat.ne_of_lt (Heap.lt_size e))⟩
  refine wpAny_execs_cons (wpAny_Expr_any (hi := by simp [interactive, ok.kind]) (wpAny_Call_append (hbase _) hfew hline htrees (wpAny_mono (EX_loc (Φ := Φ') (Q := fun d gg => d = .loc s1.heap.objs.size ∧ gg = g1) ok' (by simp) ⟨rfl, rfl⟩ hl s2 hs2) (fun va s3 => ?_) fun _ _ x => x)))
  rintro ⟨_, _, ra, hs3, st3, rfl, rfl⟩
  obtain rfl := ra.locE
  have hp3 := hs3.sat.pins _ (.head _)
  refine ⟨_, vs.toArray, rfl, ⟨_, _, hp3.1, rfl, rfl, rfl⟩, ?_⟩
  refine wpAny_mono (hE _ ok' rfl rfl rfl rfl _ _ s3 hs3) (fun y s4 => ?_) fun _ _ x => x
  rintro ⟨d, g2, rd, hs4, st4, hS⟩
  have hp4 := hs4.sat.pins _ (.head _)
  refine list_append_plainL (hsz := by simpa using hvlen) ⟨_, _, hp4.1, rfl, rfl, rfl⟩ fun h' hD sb => ?_
  have hD' := hD.isList
  obtain ⟨o, _, ho, _⟩ := hD
  have st5 : Stp (fun b => mu b ∨ b = s1.heap.objs.size) mu s4.heap h' := fun b o e n => ⟨(sb.2 b fun c => n (.inr c)).trans e, fun c => n (.inl c)⟩
  have hs5 := back_new (h' := h') (t := s4.toks) hs1 hs4 sb.extBut ⟨o, ho⟩
  have stA : Stp mu mu s1.heap h' := st0.trans (st2.trans (st3.trans (st4.trans st5)))
  have hs6 : SatS Φ ⟨mu, (x, .lst (l ++ [d])) :: ρ, g2⟩ { s4 with heap := h' } := ⟨hs5.sat.retype fun v rv => by
    obtain rfl := rv.locE
    refine Rep.lst' (vs := vs ++ [y]) (fresh_not hs1.sat.muLive) ?_ ((hl1.mono stA).append (RepL.cons' (rd.mono st5) RepL.nil'))
    have : (vs ++ [y]).toArray = vs.toArray.push y := by simp
    rw [this]; exact hD', hs5.gens, hs5.os⟩
  refine wpAny_mono (hS _ hs6) (fun f s7 => ?_) fun _ _ x => x
  rintro ⟨fd, S7, rf, hs7, st7, hq⟩
  exact ⟨fd, S7, rf, hs7, st1.trans (stA.trans st7), hq⟩
end rules

def RngIt (it : Addr) (mu : Addr → Prop) (h : Heap) (l : List V) : Prop :=
  ∃ (x : Int) (n : Nat), IsRangeIter h it x n 1 ∧ l = (List.range n).map fun k => .int (x + (k : Int))
theorem RngIt.p {w : World} {it : Addr} : ItP w it (RngIt it) where
  frame := by
    rintro mu mu' h h' l ⟨x, n, hit, e⟩ st k
    exact ⟨x, n, k _ hit, e⟩
  live := by rintro mu h l ⟨x, n, hit, e⟩; exact ⟨_, hit⟩
  item := by
    rintro A mu s d r hA hm ⟨x, n, hit, e⟩
    cases n with
    | zero => simp at e
    | succ n =>
      rw [List.range_succ_eq_map, List.map_cons] at e
      simp only [List.cons.injEq] at e
      obtain ⟨rfl, rfl⟩ := e
      refine wpAny_pyNext_range_item hit (by omega) fun h' hit' sb => ⟨_, rfl, rfl, rfl, sb, ⟨x + 1, n, ?_, ?_⟩, ?_⟩
      · rw [show ((n + 1 : Nat) : Int) - 1 = (n : Int) by omega] at hit'; exact hit'
      · rw [List.map_map]
        refine List.map_congr_left fun k _ => ?_
        simp only [Function.comp]
        congr 1; omega
      · simp only [Rep]; exact ⟨s.toks, by congr 1; simp⟩
  fin := by
    rintro A mu s hA ⟨x, n, hit, e⟩
    cases n with
    | zero => exact wpAny_pyNext_range_end hA hit (by simp) fun h' he => ⟨rfl, rfl, rfl, he⟩
    | succ n => rw [List.range_succ_eq_map] at e; simp at e
  own := by
    rintro mu h l A s elts k pos v ⟨x, n, hit, e⟩ rfl Q hq
    exact own_of hit rfl rfl (by decide) hq
theorem ItOf.rng {w : World} {n : Nat} (hn : n ≤ 1000000) : ItOf w (.rng n) ((List.range n).map fun (k : Nat) => V.int (k : Int)) := by
  intro A mu s v hA hm rv
  obtain ⟨a, t, u, r, rfl, hna, hr⟩ := rv.rngE
  have hsz : Builtin.Range.rangeSize 0 (n : Int) 1 = n := by
    unfold Builtin.Range.rangeSize
    simp only [show (1 : Int) > 0 by decide, if_true]
    split <;> omega
  refine wpAny_pyIter_range hr ?_ ⟨s.heap.objs.size, RngIt s.heap.objs.size, rfl, Gr.push, get_size, RngIt.p, 0, n, ?_, by simp⟩
  · unfold Builtin.Range.small
    rw [hsz]
    unfold Builtin.Range.rangeFitsLong
    simp only [Bool.and_eq_true, Bool.or_eq_true, decide_eq_true_eq, beq_iff_eq]
    simp only [show (1 : Int) > 0 by decide, if_true, Bool.and_eq_true, decide_eq_true_eq]
    omega
  · rw [hsz]; exact Heap.get?_push_size _ rfl

def DctIt (w : World) (it : Addr) (mu : Addr → Prop) (h : Heap) (l : List V) : Prop :=
  ∃ (a : Addr) (kvs : List (Str × Value)) (i ep : Nat), h.IsKeyIter it a i kvs.length ep ∧ ¬ mu a ∧ h.DictAt (PySem.strKind PySem.Challenge.rw_nu0057_01.row.prog w) a kvs ep ∧ l = ((kvs.map (·.1)).map V.str).drop i
theorem DctIt.p {w : World} {it : Addr} : ItP w it (DctIt w it) where
  frame := by
    rintro mu mu' h h' l ⟨a, kvs, i, ep, ⟨o, ho, r⟩, n, ⟨o', es', ho', r'⟩, e⟩ st k
    exact ⟨a, kvs, i, ep, ⟨o, k o ho, r⟩, (st a o' ho' n).2, ⟨o', es', (st a o' ho' n).1, r'⟩, e⟩
  live := by rintro mu h l ⟨a, kvs, i, ep, ⟨o, ho, r⟩, _⟩; exact ⟨o, ho⟩
  item := by
    rintro A mu s d r hA hm ⟨a, kvs, i, ep, hit, n, hD, e⟩
    obtain ⟨e1, e2⟩ := drop_cons e.symm
    rw [List.getElem?_map, List.getElem?_map, Option.map_map] at e1
    obtain ⟨⟨k, u⟩, hk, rfl⟩ := Option.map_eq_some_iff.mp e1
    refine wpAny_pyNext_dict_item hit hD hk fun key h' hkey hit' sb => ?_
    obtain ⟨t, rfl⟩ := Value.isStrOf_shape hkey
    have hne : a ≠ it := by rintro rfl; exact n hm
    exact ⟨_, rfl, rfl, rfl, sb, ⟨a, kvs, i + 1, ep, hit', n, hD.extBut sb.extBut hne, e2.symm⟩, Rep.str'⟩
  fin := by
    rintro A mu s hA ⟨a, kvs, i, ep, hit, n, hD, e⟩
    refine wpAny_pyNext_dict_end hA hit hD ?_ fun h' he => ⟨rfl, rfl, rfl, he⟩
    have := List.drop_eq_nil_iff.mp e.symm
    simp only [List.length_map] at this
    exact List.getElem?_eq_none this
  own := by
    rintro mu h l A s elts k pos v ⟨a, kvs, i, ep, ⟨o, ho, hc, hd⟩, _⟩ rfl Q hq
    exact own_of ho hc hd (by decide) hq

/-- iterators of a comprehension -/
def ItOfS (w : World) (d : V) (l : List V) : Prop :=
  ∀ (A : Around) (mu : Addr → Prop) (s : Shared) (v : Value), A.handled = none → (∀ b, mu b → ∃ o, s.heap.get? b = some o) → Rep mu s.heap d v →
    wpAny (Mod w) A (pyIter v) (fun x s' => ∃ it It, x = .ref it ∧ Gr s s' ∧ s.heap.get? it = none ∧ ItP w it It ∧ It (fun b => mu b ∨ b = it) s'.heap l ∧
      ∀ (A : Around) (s : Shared) (E Q : Value → Shared → Prop) (mu : Addr → Prop) (l : List V), It mu s.heap l → Q (.ref it) s → wpAny (Mod w) A (pyIter (.ref it)) Q E s) noE s
theorem ItOfS.lst {w : World} {l : List V} : ItOfS w (.lst l) l := by
  intro A mu s v hA hm rv
  obtain ⟨a, items, rfl, n, ⟨o, ho, r⟩, hl⟩ := rv.lstE
  refine wpAny_pyIter_list ⟨o, ho, r⟩ ⟨s.heap.objs.size, ListIt s.heap.objs.size, rfl, Gr.push, get_size, ListIt.p, ⟨a, items, 0, ⟨_, Heap.get?_push_size _ rfl, rfl, rfl⟩, fun c => c.elim n (Nat.ne_of_lt (Heap.lt_size ho)), ⟨o, Heap.get?_push_of_some _ ho, r⟩, ?_⟩, ?_⟩
  · rw [List.drop_zero]
    exact hl.mono fun b o e n => ⟨Heap.get?_push_of_some _ e, fun c => c.elim n (Nat.ne_of_lt (Heap.lt_size e))⟩
  · rintro A s E Q mu l ⟨a, items, i, hit, _⟩ hq
    exact wpAny_pyIter_listiter hit hq
theorem ItOfS.dict {w : World} {ks : List Str} {vs : List V} : ItOfS w (.dict w ks vs) (ks.map V.str) := by
  intro A mu s v hA hm rv
  obtain ⟨a, kvs, rfl, n, hsys, hD, rfl, hr⟩ := rv.dictE
  obtain ⟨ep, hAt⟩ := hD.dictAt
  refine wpAny_pyIter_dict hsys hAt ⟨s.heap.objs.size, DctIt w s.heap.objs.size, rfl, Gr.push, get_size, DctIt.p, ⟨a, kvs, 0, ep, ⟨_, Heap.get?_push_size _ rfl, rfl, rfl⟩, fun c => c.elim n (Nat.ne_of_lt hAt.lt_size), hAt.push _, by rw [List.drop_zero]⟩, ?_⟩
  rintro A s E Q mu l ⟨a, kvs, i, ep, hit, _⟩ hq
  exact wpAny_pyIter_keyiter hit hq

section comp
variable {w : World} {Φ : Fx} {names : List (Str × NameKind)} {mu : Addr → Prop} {ρ : List (Str × V)} {g : List (Addr × List V)}

def Body (w : World) (Φ : Fx) (names' : List (Str × NameKind)) (cl : List (Str × Addr)) (x : Str) (ifs : List PySem.Expr) (elt : PySem.Expr) (g : List (Addr × List V)) (T : V → List V) (l : List V) : Prop :=
  ∀ Φ', FxOk w names' Φ' → Φ'.A = Φ.A → Φ'.env.cells = cl → Φ'.B = Φ.B → Φ'.n = Φ.n → ∀ d ∈ l, ∀ mu' s, SatS Φ' ⟨mu', [(x, d)], g⟩ s →
    wpAny (Mod w) Φ'.A (forIn ifs true fun c r => if r = true then do let ok ← PySem.isTrue c Φ'.env (eval c Φ'.env); pure (ForInStep.yield ok) else pure (ForInStep.yield r))
      (fun okb s3 => SatS Φ' ⟨mu', [(x, d)], g⟩ s3 ∧ Stp mu' mu' s.heap s3.heap ∧ if okb = true then wpAny (Mod w) Φ'.A (eval elt Φ'.env) (fun y s4 => ∃ dy, Rep mu' s4.heap dy y ∧ SatS Φ' ⟨mu', [(x, d)], g⟩ s4 ∧ Stp mu' mu' s3.heap s4.heap ∧ T d = [dy]) noE s3 else T d = []) noE s

theorem comp_core {elt iter : PySem.Expr} {x : Str} {px : Pos} {ifs : List PySem.Expr} {scope : Scope} {pos : Pos} {cl : List (Str × Addr)} {names' : List (Str × NameKind)} {T : V → List V} {l : List V} {it : Addr} {It : (Addr → Prop) → Heap → List V → Prop} {s1 s2 : Shared} {RR : Value → Addr → Result → Shared → Prop} {E0 : Value → Shared → Prop}
    (ok : FxOk w names Φ) (hs1 : SatS Φ ⟨mu, ρ, g⟩ s1) (gr : Gr s1 s2) (hf : s1.heap.get? it = none) (P : ItP w it It)
    (hself : ∀ (A : Around) (s : Shared) (E Q : Value → Shared → Prop) (mu : Addr → Prop) (l : List V), It mu s.heap l → Q (.ref it) s → wpAny (Mod w) A (pyIter (.ref it)) Q E s)
    (hIt : It (fun b => mu b ∨ b = it) s2.heap l) (hlen : (l.flatMap T).length ≤ 100000)
    (hcell : ∀ y ∈ scope.names, y.2 ≠ .cell) (hkind : scope.kind = .function) (hx : names'.lookup x = some .local) (hnames : (relabel scope (envN names)).names = names') (hdbg : names'.lookup (Str.ofString "__debug__") = none)
    (body : Body w Φ names' cl x ifs elt g T l)
    (hRR : ∀ D C s' m items, s1.heap.get? D = none → s1.heap.get? C = none → D ≠ C → s'.gens = s1.gens → s'.os = s1.os → s'.heap.Ns C m → s'.heap.IsList D items →
      (∃ muC : Addr → Prop, (∀ b, muC b ↔ (mu b ∨ b = it) ∨ b = D ∨ b = C) ∧ RepL muC s'.heap (l.flatMap T) items.toList ∧ Stor muC s'.heap g) →
      (∀ b o, s1.heap.get? b = some o → b ∉ g.map (·.1) → s'.heap.get? b = some o) → RR (.ref D) C (.ok .next) s') :
    wpAny (Mod w) Φ.A (newList []) (fun acc s₃ => wpAny (Mod w) Φ.A (newFunctionEnv scope Φ.env.globals cl [] Φ.env.qual none .none (some Φ.env)) (fun cenv s₄ =>
      codeAny (Mod w) Φ.A (.compStart (.ListComp elt [⟨.Name x px, iter, ifs, 0⟩] scope pos) 0 (.ref it) acc { cenv with scope := relabel scope Φ.env }) (RR acc cenv.locals) s₄) E0 s₃) E0 s2 := by
  refine wpAny_newObj_type (wpAny_newFunctionEnv hcell (by intro y hy; simp at hy) (fun h₁ hns₁ hsb₁ => ?_) hkind)
  dsimp only at hns₁ hsb₁ ⊢
  generalize hH2 : s2.heap.push { cls := .type "list", dict := none, data := .seq ([] : List Value).toArray } = H2 at hns₁ hsb₁ ⊢
  have hC : H2.objs.size = s2.heap.objs.size + 1 := by rw [← hH2, Heap.size_push]
  have hDC : s2.heap.objs.size ≠ H2.objs.size := by rw [hC]; exact Nat.ne_of_lt (Nat.lt_succ_self _)
  have below : ∀ b, b < s2.heap.objs.size → b ≠ H2.objs.size ∧ b ≠ s2.heap.objs.size := fun b hb => ⟨by rw [hC]; exact Nat.ne_of_lt (Nat.lt_succ_of_lt hb), Nat.ne_of_lt hb⟩
  have old : ∀ b o, s2.heap.get? b = some o → h₁.get? b = some o := fun b o e => hsb₁.extBut b o (below b (Heap.lt_size e)).1 (Heap.get?_push_of_some _ (hH2 ▸ Heap.get?_push_of_some _ e))
  have hacc : h₁.get? s2.heap.objs.size = some { cls := .type "list", dict := none, data := .seq ([] : List Value).toArray } := hsb₁.extBut _ _ hDC (Heap.get?_push_of_some _ (hH2 ▸ Heap.get?_push_size _ rfl))
  have fresh : ∀ a, s2.heap.objs.size ≤ a → s1.heap.get? a = none := fun a ha => by
    cases e : s1.heap.get? a with
    | none => rfl
    | some o' => exact absurd (Heap.lt_size (gr.keep _ _ e)) (Nat.not_lt.mpr ha)
  have fD := fresh _ (Nat.le_refl _)
  have fC := fresh H2.objs.size (by rw [hC]; exact Nat.le_succ _)
  have belowG : ∀ b o, s2.heap.get? b = some o → b ≠ H2.objs.size ∧ b ≠ s2.heap.objs.size := fun b o e => below b (Heap.lt_size e)
  clear below hC fresh
  generalize s2.heap.objs.size = D at *
  generalize H2.objs.size = C at *
  obtain ⟨oi, hoi⟩ := P.live _ _ _ hIt
  have iD : it ≠ D := (belowG it _ hoi).2
  have iC : it ≠ C := (belowG it _ hoi).1
  have old1 : ∀ b o, s1.heap.get? b = some o → b ≠ it ∧ b ≠ D ∧ b ≠ C := fun b o e => ⟨fun c => (by rw [c, hf] at e; cases e), fun c => (by rw [c, fD] at e; cases e), fun c => (by rw [c, fC] at e; cases e)⟩
  let muC : Addr → Prop := fun b => (mu b ∨ b = it) ∨ b = D ∨ b = C
  have muOld : ∀ b, mu b → b ≠ it ∧ b ≠ D ∧ b ≠ C := fun b hb => let ⟨o, e⟩ := hs1.sat.muLive b hb; old1 b o e
  have sgOld : ∀ p ∈ g, p.1 ≠ it ∧ p.1 ≠ D ∧ p.1 ≠ C := fun p hp => let ⟨o, e⟩ := hs1.sat.store.live p hp; old1 _ o e
  let Φ0 : Fx := ⟨Φ.A, compEnvC scope cl C Φ.env, C, Φ.B, s1.heap, g.map (·.1), s1, Φ.n, mu, []⟩
  have hkinds : ∀ y, (compEnvC scope cl C Φ.env).kindOf y = names'.lookup y := fun y => by
    rw [← hnames]
    show ((relabel scope Φ.env).names).lookup y = _
    unfold relabel
    simp only [ok.kind, ok.kinds, envN_kindOf]; rfl
  have ok0 : FxOk w names' Φ0 := ⟨ok.wd, ok.handled, ok.depth, ok.units, fC, hs1.sat.keepB, rfl, ok.globals, ok.builtins, hkind, hkinds, hdbg⟩
  have st1 : Stp mu muC s1.heap h₁ := fun b o e n => ⟨old b o (gr.keep b o e), fun c => by
    obtain ⟨a, b', c'⟩ := old1 b o e
    rcases c with (c | c) | c | c
    · exact n c
    · exact a c
    · exact b' c
    · exact c' c⟩
  have nB : ∀ b o, Φ.B.get? b = some o → ¬ muC b := fun b o e => (st1 b o (hs1.sat.keepB b o e) (hs1.sat.muB b o e)).2
  have hN : h₁.Ns C (fun x => ([] : List (Str × Value)).reverse.lookup x) := hns₁
  have sat0 : SatS Φ0 ⟨muC, [], g⟩ { s2 with heap := h₁, toks := s2.toks + ([] : List (Str × Value)).length } := ⟨
    { keepB := fun b o e => old b o (gr.keep b o (hs1.sat.keepB b o e))
      keepIn := fun b o e _ => old b o (gr.keep b o e)
      muB := nB
      muLive := fun b c => by
        rcases c with (c | c) | c | c
        · obtain ⟨o, e⟩ := hs1.sat.muLive b c; exact ⟨o, old b o (gr.keep b o e)⟩
        · exact ⟨oi, by rw [c]; exact old _ _ hoi⟩
        · exact ⟨_, by rw [c]; exact hacc⟩
        · obtain ⟨o, _, _, e, _⟩ := hN; exact ⟨o, by rw [c]; exact e⟩
      sup := fun b c => .inl (.inl c)
      muL := .inr (.inr rfl)
      locals := ⟨_, hN, fun y d e => by simp at e⟩
      store := hs1.sat.store.step st1 (fun p _ o e => old _ o (gr.keep _ o e)) fun p hp => .inl (.inl (hs1.sat.store.mu p hp))
      offL := fun p hp => (sgOld p hp).2.2
      may := fun p hp => .inl (List.mem_map_of_mem hp)
      pins := fun p hp => nomatch hp }, gr.gens, gr.os⟩
  have hIt0 : It muC h₁ l := P.frame _ _ _ _ _ hIt (fun b o e n => ⟨old b o e, fun c => by
      rcases c with c | c | c
      · exact n c
      · exact (belowG b o e).2 c
      · exact (belowG b o e).1 c⟩) fun o e => old _ _ e
  have loop : ∀ s₃ : Shared, s₃ = { s2 with heap := h₁, toks := s2.toks + ([] : List (Str × Value)).length } →
      codeAny (Mod w) Φ.A (.compLoop (.ListComp elt [⟨.Name x px, iter, ifs, 0⟩] scope pos) 0 (.ref it) (.ref D) (compEnvC scope cl C Φ.env)) (RR (.ref D) C) s₃ := by
    rintro s₃ rfl
    refine codeAny_compLoop_tests (fun n s' => ∃ r acc, ∃ items : Array Value, ∃ k : Nat, n = r.length ∧ (∀ d ∈ r, d ∈ l) ∧ acc ++ r.flatMap T = l.flatMap T ∧ SatS Φ0 ⟨muC, [], g⟩ s' ∧ It muC s'.heap r ∧
      s'.heap.get? D = some { cls := .type "list", dict := none, data := .seq items k } ∧ RepL muC s'.heap acc items.toList) ?_ l.length
      ⟨l, [], #[], 0, rfl, fun _ h => h, rfl, sat0, hIt0, hacc, RepL.nil'⟩
    rintro n s' ⟨r, acc, items, k, rfl, hsub, htot, hs', hIt', hD', hacc'⟩
    cases r with
    | nil =>
      refine wpAny_mono (P.fin Φ.A muC s' ok.handled hIt') (fun y s4 => ?_) fun _ _ x => x.elim
      rintro ⟨rfl, hg, hos, ext⟩
      simp only [List.flatMap_nil, List.append_nil] at htot
      obtain ⟨m, ⟨o, es, ep, ho, rr⟩, _⟩ := hs'.sat.locals
      have st4 : Stp muC muC s'.heap s4.heap := fun b o e n => ⟨ext b o (fun c => n (.inl (.inr c))) e, n⟩
      refine hRR D C s4 m items fD fC hDC (hg.trans hs'.gens) (hos.trans hs'.os) ⟨o, es, ep, ext _ _ (Ne.symm iC) ho, rr⟩ ⟨_, ext _ _ (Ne.symm iD) hD', rfl, _, rfl⟩ ⟨muC, fun b => Iff.rfl, htot ▸ hacc'.mono st4, ?_⟩ fun b o e n => ?_
      · exact hs'.sat.store.step st4 (fun p hp o e => ext _ _ (sgOld p hp).1 e) hs'.sat.store.mu
      · exact ext b o (old1 b o e).1 (hs'.sat.keepIn b o e n)
    | cons d r =>
      refine wpAny_mono (P.item Φ.A muC s' d r ok.handled (.inl (.inr rfl)) hIt') (fun y s4 => ?_) fun _ _ x => x.elim
      rintro ⟨v, rfl, hg, hos, sb, hIt4, rv⟩
      obtain ⟨o4, ho4⟩ := P.live _ _ _ hIt4
      have hs4 : SatS Φ0 ⟨muC, [], g⟩ s4 := ⟨hs'.sat.poke sb.extBut (.inl (.inr rfl)) (Ne.symm iC) (fun p hp => (sgOld p hp).1) (.inr hf) (fun p hp => nomatch hp) ⟨o4, ho4⟩, hg.trans hs'.gens, hos.trans hs'.os⟩
      have st4 : Stp muC muC s'.heap s4.heap := fun b o e n => ⟨(sb.2 b (fun c => n (.inl (.inr c)))).trans e, n⟩
      have hD4 := (sb.2 D (Ne.symm iD)).trans hD'
      let Φ1 : Fx := { Φ0 with pin := [(it, o4), (D, { cls := .type "list", dict := none, data := .seq items k })] }
      have ok1 : FxOk w names' Φ1 := ⟨ok0.wd, ok0.handled, ok0.depth, ok0.units, ok0.hL, ok0.hB, ok0.locals, ok0.globals, ok0.builtins, ok0.kind, ok0.kinds, ok0.nodebug⟩
      have pins' : ∀ p ∈ Φ1.pin, s4.heap.get? p.1 = some p.2 ∧ muC p.1 ∧ p.1 ≠ C ∧ ∀ q ∈ g, q.1 ≠ p.1 := by
        intro p hp
        rcases List.mem_cons.mp hp with rfl | hp
        · exact ⟨ho4, .inl (.inr rfl), iC, fun q hq => (sgOld q hq).1⟩
        · obtain rfl := List.mem_singleton.mp hp
          exact ⟨hD4, .inr (.inl rfl), hDC, fun q hq => (sgOld q hq).2.1⟩
      have hs4' : SatS Φ1 ⟨muC, [], g⟩ s4 := ⟨{ hs4.sat with pins := pins' }, hs4.gens, hs4.os⟩
      refine wpAny_mono (wpAny_assign_Name (store_ok (Q := fun _ s5 => SatS Φ1 ⟨muC, [(x, d)], g⟩ s5 ∧ Stp muC muC s4.heap s5.heap) ok1 hs4' rv (fun s5 hs5 st5 => ⟨hs5, st5⟩) hx)) (fun _ s5 => ?_) fun _ _ x => x.elim
      rintro ⟨hs5, st5⟩
      refine wpAny_mono (body Φ1 ok1 rfl rfl rfl rfl d (hsub d (.head _)) muC s5 hs5) (fun okb s6 => ?_) fun _ _ x => x.elim
      rintro ⟨hs6, st6, hq⟩
      have nextIt : ∀ s7, SatS Φ1 ⟨muC, [(x, d)], g⟩ s7 → Stp muC muC s4.heap s7.heap → ∀ h', Heap.ExtBut D s7.heap h' → It muC h' r := fun s7 hs7 st7 h' e =>
        P.frame _ _ _ _ _ hIt4 (fun b o e' n => ⟨e b o (fun c => n (.inr (.inl c))) (st7 b o e' n).1, n⟩) fun o e' => by
          rw [ho4] at e'; cases e'
          exact e _ _ iD (hs7.sat.pins (it, o4) (.head _)).1
      have back : ∀ s7, SatS Φ1 ⟨muC, [(x, d)], g⟩ s7 → SatS Φ0 ⟨muC, [], g⟩ s7 := fun s7 hs7 =>
        SatS.weaken (ρ := [(x, d)]) ⟨{ hs7.sat with pins := fun p hp => nomatch hp }, hs7.gens, hs7.os⟩ trivial
      cases okb with
      | false =>
        simp only [Bool.false_eq_true, if_false] at hq ⊢
        rw [List.flatMap_cons, hq] at htot
        exact ⟨r.length, by simp, r, acc, items, k, rfl, fun d hd => hsub d (.tail _ hd), htot, back _ hs6, nextIt s6 hs6 (st5.trans st6) _ fun b o _ e => e, (hs6.sat.pins _ (.tail _ (.head _))).1, hacc'.mono (st4.trans (st5.trans st6))⟩
      | true =>
        simp only [if_true] at hq ⊢
        refine wpAny_mono hq (fun y s7 => ?_) fun _ _ x => x.elim
        rintro ⟨dy, ry, hs7, st7, hT⟩
        rw [List.flatMap_cons, hT] at htot
        have hD7 := (hs7.sat.pins _ (.tail _ (.head _))).1
        have stA := st4.trans (st5.trans (st6.trans st7))
        have hacc7 := hacc'.mono stA
        have hsz : items.size ≤ sizeLine := by
          have e1 := hacc7.length
          have e2 : acc.length ≤ (l.flatMap T).length := by rw [← htot, List.length_append]; omega
          rw [Array.length_toList] at e1
          rw [sizeLine_eq]; omega
        refine wpAny_list_append_plain (hsz := hsz) ⟨k, hD7⟩ fun h' hpl sb7 => ?_
        obtain ⟨k', hpl⟩ := hpl
        have st8 : Stp muC muC s7.heap h' := fun b o e n => ⟨(sb7.2 b (fun c => n (.inr (.inl c)))).trans e, n⟩
        have hs8 : SatS Φ0 ⟨muC, [], g⟩ { s7 with heap := h' } := ⟨(back _ hs7).sat.poke sb7.extBut (.inr (.inl rfl)) (Ne.symm hDC) (fun p hp => (sgOld p hp).2.1) (.inr fD) (fun p hp => nomatch hp) ⟨_, hpl⟩, hs7.gens, hs7.os⟩
        refine ⟨r.length, by simp, r, acc ++ [dy], items.push y, k', rfl, fun d hd => hsub d (.tail _ hd), by rw [List.append_assoc]; exact htot, hs8, nextIt s7 hs7 (st5.trans (st6.trans st7)) _ sb7.extBut, hpl, ?_⟩
        rw [Array.toList_push]
        exact (hacc7.mono st8).append (RepL.cons' (ry.mono st8) RepL.nil')
  exact codeAny_compStart_list (loop _ rfl) (hself _ _ _ _ _ _ hIt0 (loop _ rfl))
end comp

section comp
variable {w : World} {Φ : Fx} {names : List (Str × NameKind)} {mu : Addr → Prop} {ρ : List (Str × V)} {g : List (Addr × List V)}

theorem Sat.callG {S : AS} {h h' : Heap} {C : Addr} {g' : List (Addr × List V)} (x : Sat Φ S h) (hf : h.get? C = none) (lv : ∃ o, h'.get? C = some o) (hst : Stor (fun b => S.mu b ∨ b = C) h' g') (hk : g'.map (·.1) = S.sig.map (·.1)) (k : ∀ b o, h.get? b = some o → b ∉ S.sig.map (·.1) → h'.get? b = some o) : Sat Φ ⟨fun b => S.mu b ∨ b = C, S.rho, g'⟩ h' := by
  have off : ∀ b, ¬ S.mu b → b ∉ S.sig.map (·.1) := fun b n hb => by
    obtain ⟨p, hp, rfl⟩ := List.mem_map.mp hb; exact n (x.store.mu p hp)
  have old : ∀ p ∈ g', ∃ q ∈ S.sig, q.1 = p.1 := fun p hp => by
    have : p.1 ∈ S.sig.map (·.1) := hk ▸ List.mem_map_of_mem hp
    obtain ⟨q, hq, e⟩ := List.mem_map.mp this; exact ⟨q, hq, e⟩
  have nC : ∀ b o, h.get? b = some o → b ≠ C := fun b o e c => by rw [c, hf] at e; cases e
  exact
  { keepB := fun b o e => k b o (x.keepB b o e) (off b (x.muB b o e))
    keepIn := fun b o e n => k b o (x.keepIn b o e n) fun hb => by
      obtain ⟨p, hp, rfl⟩ := List.mem_map.mp hb
      rcases x.may p hp with q | q
      · exact n q
      · rw [q] at e; cases e
    muB := fun b o e c => c.elim (x.muB b o e) (nC b o (x.keepB b o e))
    muLive := fun b hb => by
      rcases hb with hb | hb
      · by_cases c : b ∈ S.sig.map (·.1)
        · rw [← hk] at c
          obtain ⟨p, hp, rfl⟩ := List.mem_map.mp c
          exact hst.live p hp
        · obtain ⟨o, e⟩ := x.muLive b hb; exact ⟨o, k b o e c⟩
      · rw [hb]; exact lv
    sup := fun b c => .inl (x.sup b c)
    muL := .inl x.muL
    locals := by
      obtain ⟨m, ⟨o, es, ep, ho, r⟩, hm⟩ := x.locals
      refine ⟨m, ⟨o, es, ep, k _ _ ho (fun hb => ?_), r⟩, fun y d e => ?_⟩
      · obtain ⟨p, hp, e⟩ := List.mem_map.mp hb; exact x.offL p hp e
      · obtain ⟨v, hv, rv⟩ := hm y d e
        exact ⟨v, hv, rv.mono fun b o e n => ⟨k b o e (off b n), fun c => c.elim n (nC b o e)⟩⟩
    store := hst
    offL := fun p hp => by obtain ⟨q, hq, e⟩ := old p hp; rw [← e]; exact x.offL q hq
    may := fun p hp => by obtain ⟨q, hq, e⟩ := old p hp; rw [← e]; exact x.may q hq
    pins := fun p hp => by
      obtain ⟨a, b, c, d⟩ := x.pins p hp
      refine ⟨k _ _ a fun hb => ?_, .inl b, c, fun q hq => ?_⟩
      · obtain ⟨q, hq, e⟩ := List.mem_map.mp hb; exact d q hq e
      · obtain ⟨r, hr, e⟩ := old q hq; rw [← e]; exact d r hr }

theorem Sat.drop {h0 h h' : Heap} {a : Addr} {ρ0 : List (Str × V)} {g0 : List (Addr × List V)} (x : Sat Φ ⟨fun b => mu b ∨ b = a, ρ, g⟩ h) (ext : Heap.ExtBut a h h') (x0 : Sat Φ ⟨mu, ρ0, g0⟩ h0) (hf : h0.get? a = none) (hg : ∀ q ∈ g, q.1 ≠ a) : Sat Φ ⟨mu, ρ, g⟩ h' := by
  have mold : ∀ b, mu b → b ≠ a := fun b hb c => by obtain ⟨o, e⟩ := x0.muLive b hb; rw [c, hf] at e; cases e
  have st : Stp (fun b => mu b ∨ b = a) mu h h' := fun b o e n => ⟨ext b o (fun c => n (.inr c)) e, fun c => n (.inl c)⟩
  have ha : Φ.B.get? a = none := by
    cases e : Φ.B.get? a with
    | none => rfl
    | some o => exact absurd (.inr rfl) (x.muB a o e)
  exact
  { keepB := fun b o e => ext b o (fun c => by rw [c, ha] at e; cases e) (x.keepB b o e)
    keepIn := fun b o e n => ext b o (fun c => by
      have e2 := x0.keepIn b o e n
      rw [c, hf] at e2; cases e2) (x.keepIn b o e n)
    muB := fun b o e c => x.muB b o e (.inl c)
    muLive := fun b c => let ⟨o, e⟩ := x.muLive b (.inl c); ⟨o, ext b o (mold b c) e⟩
    sup := x0.sup
    muL := x0.muL
    locals := by
      obtain ⟨m, ⟨o, es, ep, ho, r⟩, hm⟩ := x.locals
      refine ⟨m, ⟨o, es, ep, ext _ _ (mold _ x0.muL) ho, r⟩, fun y d e => ?_⟩
      obtain ⟨v, hv, rv⟩ := hm y d e
      exact ⟨v, hv, rv.mono st⟩
    store := x.store.step st (fun p hp o e => ext _ _ (hg p hp) e) fun p hp => (x.store.mu p hp).resolve_right (hg p hp)
    offL := x.offL
    may := x.may
    pins := fun p hp => by
      obtain ⟨a1, b, c, d⟩ := x.pins p hp
      have hm := (x0.pins p hp).2.1
      exact ⟨ext _ _ (mold _ hm) a1, hm, c, d⟩ }
/-- at the end of a comprehension -/
theorem comp_end {s1 s' : Shared} {it D C : Addr} {m : Str → Option Value} {items : Array Value} {tot : List V} (hs1 : SatS Φ ⟨mu, ρ, g⟩ s1) (hf : s1.heap.get? it = none)
    (fD : s1.heap.get? D = none) (fC : s1.heap.get? C = none) (hDC : D ≠ C) (hn : s'.heap.Ns C m) (hl : s'.heap.IsList D items)
    (hmu : ∃ muC : Addr → Prop, (∀ b, muC b ↔ (mu b ∨ b = it) ∨ b = D ∨ b = C) ∧ RepL muC s'.heap tot items.toList ∧ Stor muC s'.heap g) (hk : ∀ b o, s1.heap.get? b = some o → b ∉ g.map (·.1) → s'.heap.get? b = some o) :
    Sat Φ ⟨fun b => mu b ∨ b = C, ρ, g⟩ s'.heap ∧ Rep (fun b => mu b ∨ b = C) s'.heap (.lst tot) (.ref D) ∧ Stp mu (fun b => mu b ∨ b = C) s1.heap s'.heap ∧ ∀ p ∈ g, p.1 ≠ C := by
  obtain ⟨muC, hmuC, hr, hst⟩ := hmu
  have gOld : ∀ p ∈ g, p.1 ≠ D ∧ p.1 ≠ C ∧ p.1 ≠ it := fun p hp => by
    obtain ⟨o, e⟩ := hs1.sat.store.live p hp
    exact ⟨fun c => (by rw [c, fD] at e; cases e), fun c => (by rw [c, fC] at e; cases e), fun c => (by rw [c, hf] at e; cases e)⟩
  have st : Stp muC (fun b => mu b ∨ b = C) s'.heap s'.heap := fun b o e n => ⟨e, fun c => n ((hmuC b).mpr (c.elim (fun c => .inl (.inl c)) fun c => .inr (.inr c)))⟩
  obtain ⟨oC, _, _, hC, _⟩ := hn
  have hst' : Stor (fun b => mu b ∨ b = C) s'.heap g := hst.step st (fun _ _ _ e => e) fun p hp => .inl (hs1.sat.store.mu p hp)
  refine ⟨Sat.callG (S := ⟨mu, ρ, g⟩) hs1.sat fC ⟨oC, hC⟩ hst' rfl hk, ?_, fun b o e n => ⟨hk b o e fun hb => ?_, fun c => c.elim n fun c => (by rw [c, fC] at e; cases e)⟩, fun p hp => (gOld p hp).2.1⟩
  · refine Rep.lst' (vs := items.toList) (fun c => c.elim (fun c => ?_) hDC) (by simpa using hl) (hr.mono st)
    obtain ⟨o, e⟩ := hs1.sat.muLive _ c; rw [fD] at e; cases e
  · obtain ⟨p, hp, rfl⟩ := List.mem_map.mp hb
    exact n (hs1.sat.store.mu p hp)

theorem EX_lcomp {elt iter : PySem.Expr} {x : Str} {px : Pos} {ifs : List PySem.Expr} {scope : Scope} {pos : Pos} {names' : List (Str × NameKind)} {Q : V → List (Addr × List V) → Prop} (cl : List (Str × Addr)) (T : V → List V)
    (ok : FxOk w names Φ) (hclos : closureFor scope Φ.env = pure cl) (hcell : ∀ y ∈ scope.names, y.2 ≠ .cell) (hkind : scope.kind = .function) (hloc : ∀ z ∈ scope.names, z.2 = .local → scope.names.lookup z.1 = some .local)
    (hnames : (relabel scope (envN names)).names = names') (hx : names'.lookup x = some .local) (hdbg : names'.lookup (Str.ofString "__debug__") = none)
    (h : EX w Φ iter ⟨mu, ρ, g⟩ fun d g1 => g1 = g ∧ ∃ l, ItOfS w d l ∧ (l.flatMap T).length ≤ 100000 ∧ Body w Φ names' cl x ifs elt g T l ∧ Q (.lst (l.flatMap T)) g)
    (hs : ∀ x, foldedSetIterable iter Φ.env x = pure x) : EX w Φ (.ListComp elt [⟨.Name x px, iter, ifs, 0⟩] scope pos) ⟨mu, ρ, g⟩ Q := by
  intro s hs0
  rw [eval_ListComp]
  refine wpAny_comprehension_free (use := none) rfl hs hclos hkind hloc (wpAny_mono (h s hs0) (fun xv s1 => ?_) fun _ _ x => x)
  rintro ⟨d, g', rd, hs1, st1, rfl, l, hit, hlen, body, hq⟩
  refine wpAny_mono (hit Φ.A mu s1 xv ok.handled hs1.sat.muLive rd) (fun x s2 => ?_) fun _ _ x => x
  rintro ⟨it, It, rfl, gr, hf, P, hIt, hself⟩
  refine comp_core (RR := fun acc C => compPost (Mod w) Φ.A noE none _ acc C) ok hs1 gr hf P hself hIt hlen hcell hkind hx hnames hdbg body ?_
  intro D C s' m items fD fC hDC hg hos hn hl hmu hk
  refine ⟨m, hn, fun h' sb => ?_⟩
  obtain ⟨sat, rp, st, gC⟩ := comp_end hs1 hf fD fC hDC hn hl hmu hk
  have stE : Stp (fun b => mu b ∨ b = C) mu s'.heap h' := fun b o e n => ⟨sb.extBut b o (fun c => n (.inr c)) e, fun c => n (.inl c)⟩
  have sat2 := sat.drop sb.extBut hs1.sat fC gC
  exact ⟨_, g', rp.mono stE, ⟨sat2, hg.trans hs1.gens, hos.trans hs1.os⟩, st1.trans (st.trans stE), hq⟩

/-- y = [.. for ..] -/
theorem SX_setlcomp {elt iter : PySem.Expr} {x y : Str} {px py : Pos} {ifs : List PySem.Expr} {scope : Scope} {pos spos : Pos} {names' : List (Str × NameKind)} {Q : Fl → AS → Prop} (cl : List (Str × Addr)) (T : V → List V)
    (ok : FxOk w names Φ) (hline : (py.line == pos.line) = true) (hnot : (scope.names.any fun (n, k) => n == y && (k == .local || k == .cell)) = false)
    (hclos : closureFor scope Φ.env = pure cl) (hcell : ∀ y ∈ scope.names, y.2 ≠ .cell) (hkind : scope.kind = .function) (hloc : ∀ z ∈ scope.names, z.2 = .local → scope.names.lookup z.1 = some .local)
    (hnames : (relabel scope (envN names)).names = names') (hx : names'.lookup x = some .local) (hdbg : names'.lookup (Str.ofString "__debug__") = none) (hy : names.lookup y = some .local)
    (h : EX w Φ iter ⟨mu, ρ, g⟩ fun d g1 => g1 = g ∧ ∃ l, ItOfS w d l ∧ (l.flatMap T).length ≤ 100000 ∧ Body w Φ names' cl x ifs elt g T l ∧ Q .next ⟨mu, (y, .lst (l.flatMap T)) :: ρ, g⟩)
    (hs : ∀ x, foldedSetIterable iter Φ.env x = pure x) : SX w Φ (.Assign [.Name y py] (.ListComp elt [⟨.Name x px, iter, ifs, 0⟩] scope pos) spos) ⟨mu, ρ, g⟩ Q := by
  intro s hs0
  have hsw : swapsWith (.ListComp elt [⟨.Name x px, iter, ifs, 0⟩] scope pos) (some (.Name y py)) spos.line Φ.env = pure true := by
    show (pure (Φ.env.blockKind == .function && Φ.env.kindOf y == some .local && py.line == pos.line && !(scope.names.any fun (n, k) => n == y && (k == .local || k == .cell))) : Sem Bool) = pure true
    have hb : (Φ.env.blockKind == .function) = true := by
      simp [Env.blockKind, ok.kind, ScopeKind.isAnnotationScope]
    rw [hline, hnot, hb, ok.kinds, hy]
    rfl
  rw [exec_Assign_Name_used _ _ _ _ hsw]
  refine wpAny_bind (wpAny_standAt (wpAny_bind ?_))
  show wpAny _ Φ.A (do let _ ← comprehension (.ListComp elt [⟨.Name x px, iter, ifs, 0⟩] scope pos) scope Φ.env _ (newList []) false (eval iter Φ.env) (some (assign (.Name y py) Φ.env))) _ _ s
  refine wpAny_bind (wpAny_mono (wpAny_comprehension_free (use := some (assign (.Name y py) Φ.env)) (Q := fun _ s' => ∃ fd S', FlRep S'.mu s'.heap fd .next ∧ SatS Φ S' s' ∧ Stp mu S'.mu s.heap s'.heap ∧ Q fd S') rfl hs hclos hkind hloc
    (wpAny_mono (h s hs0) (fun xv s1 => ?_) fun _ _ e => e)) (fun _ s' hq => wpAny_pure (wpAny_pure hq)) fun _ _ e => e)
  rintro ⟨d, g', rd, hs1, st1, rfl, l, hit, hlen, body, hq⟩
  refine wpAny_mono (hit Φ.A mu s1 xv ok.handled hs1.sat.muLive rd) (fun x s2 => ?_) fun _ _ x => x
  rintro ⟨it, It, rfl, gr, hf, P, hIt, hself⟩
  refine comp_core (RR := fun acc C => compPost (Mod w) Φ.A noE (some (assign (.Name y py) Φ.env)) _ acc C) ok hs1 gr hf P hself hIt hlen hcell hkind hx hnames hdbg body ?_
  intro D C s' m items fD fC hDC hg hos hn hl hmu hk
  obtain ⟨sat, rp, st, gC⟩ := comp_end hs1 hf fD fC hDC hn hl hmu hk
  have hLC : Φ.L ≠ C := by
    rintro rfl
    obtain ⟨o, e⟩ := hs1.sat.muLive _ hs1.sat.muL; rw [fC] at e; cases e
  show wpAny _ Φ.A (assign (.Name y py) Φ.env (.ref D)) _ _ _
  obtain ⟨mm, hnL, hm⟩ := sat.locals
  refine wpAny_assign_Name (wpAny_storeName_local ((ok.kinds y).trans hy) (m := mm) (ok.locals ▸ hnL) (fun h2 hn2 sb2 => ?_) (by rw [ok.kind]; rfl))
  rw [ok.locals] at hn2 sb2
  have sat2 := sat.store' (S := ⟨fun b => mu b ∨ b = C, ρ, g'⟩) hm hn2 sb2 ok.hL ok.hB rp
  refine ⟨m, hn.sameBut sb2 (Ne.symm hLC), fun h3 sb3 => ?_⟩
  have st2 : Stp (fun b => mu b ∨ b = C) (fun b => mu b ∨ b = C) s'.heap h2 := fun b o e n => ⟨(sb2.2 b (by rintro rfl; exact n (.inl hs1.sat.muL))).trans e, n⟩
  have st3 : Stp (fun b => mu b ∨ b = C) mu h2 h3 := fun b o e n => ⟨sb3.extBut b o (fun c => n (.inr c)) e, fun c => n (.inl c)⟩
  exact ⟨.next, ⟨mu, (y, .lst (l.flatMap T)) :: ρ, g'⟩, by simp only [FlRep], ⟨sat2.drop sb3.extBut hs1.sat fC gC, hg.trans hs1.gens, hos.trans hs1.os⟩, st1.trans (st.trans (st2.trans st3)), hq⟩

theorem Body0 {names' : List (Str × NameKind)} {cl : List (Str × Addr)} {x : Str} {elt : PySem.Expr} {T : V → List V} {l : List V}
    (h : ∀ Φ', FxOk w names' Φ' → Φ'.A = Φ.A → Φ'.env.cells = cl → Φ'.B = Φ.B → Φ'.n = Φ.n → ∀ d ∈ l, ∀ mu', EX w Φ' elt ⟨mu', [(x, d)], g⟩ fun dy g2 => g2 = g ∧ T d = [dy]) : Body w Φ names' cl x [] elt g T l := by
  intro Φ' ok' hA hc hB hn d hd mu' s hs
  refine wpAny_tests_nil ⟨hs, Stp.rfl', ?_⟩
  simp only [if_true]
  refine wpAny_mono (h Φ' ok' hA hc hB hn d hd mu' s hs) (fun y s4 => ?_) fun _ _ x => x
  rintro ⟨dy, g2, ry, hs4, st4, rfl, hT⟩
  exact ⟨dy, ry, hs4, st4, hT⟩
theorem Body1 {names' : List (Str × NameKind)} {cl : List (Str × Addr)} {x : Str} {c elt : PySem.Expr} {T : V → List V} {l : List V}
    (h : ∀ Φ', FxOk w names' Φ' → Φ'.A = Φ.A → Φ'.env.cells = cl → Φ'.B = Φ.B → Φ'.n = Φ.n → ∀ d ∈ l, ∀ mu', IT w Φ' c ⟨mu', [(x, d)], g⟩ fun b g2 => g2 = g ∧ if b = true then EX w Φ' elt ⟨mu', [(x, d)], g⟩ (fun dy g3 => g3 = g ∧ T d = [dy]) else T d = []) : Body w Φ names' cl x [c] elt g T l := by
  intro Φ' ok' hA hc hB hn d hd mu' s hs
  refine wpAny_tests_one (wpAny_mono (h Φ' ok' hA hc hB hn d hd mu' s hs) (fun b s3 => ?_) fun _ _ x => x)
  rintro ⟨g2, hs3, st3, rfl, hq⟩
  refine ⟨hs3, st3, ?_⟩
  cases b
  · simpa using hq
  · simp only [if_true] at hq ⊢
    refine wpAny_mono (hq s3 hs3) (fun y s4 => ?_) fun _ _ x => x
    rintro ⟨dy, g3, ry, hs4, st4, rfl, hT⟩
    exact ⟨dy, ry, hs4, st4, hT⟩
end comp

/-- a def of two names and two cells, and a cell of its own -/
theorem fn_introC {w : World} {B : Heap} {f : Addr} {n : Nat} {d1 d2 d3 d4 : V} {Q : V → List (Addr × List V) → Prop} {fd : FuncData} {body : List Stmt} {oc : Value} {od : Option Addr} {osl : Array (Option Value)} (names : List (Str × NameKind)) (p1 p2 p3 p4 p5 : Str)
    (wd : Wd w B) (ho : (hd.heap_1 w.params).lookup f = some ⟨oc, od, .func fd, osl⟩) (hb : fd.body = .stmts body) (hcd : codeIn (hd.heap_1 w.params) fd.code fd.qualname = true)
    (hnames : fd.scope.names = names) (hglob : fd.globals = mainGlobals) (hbu : fd.builtins = builtinsNs) (hclo : fd.closure = [])
    (hbind : ∀ v1 v2 v3 v4, bindArgs fd ⟨[v1, v2, v3, v4], []⟩ = pure [(p1, v1), (p2, v2), (p3, v3), (p4, v4)])
    (hcs : ∀ L, cellsFrom (L + 1) names [] = [(p5, L + 3), (p4, L + 2), (p3, L + 1)])
    (k1 : names.lookup p1 = some .local) (k2 : names.lookup p2 = some .local) (k3 : names.lookup p3 = some .cell) (k4 : names.lookup p4 = some .cell)
    (hnd : [p1, p2, p3, p4, p5].Nodup) (hdbg : names.lookup (Str.ofString "__debug__") = none)
    (hco : fd.scope.isCoroutine = false) (hgen : fd.scope.isGenerator = false) (hk : fd.scope.kind = .function)
    (h : ∀ Φ mu c3 c4 c5, FxOk w names Φ → Φ.B = B → Φ.n = n → Φ.env.cells = [(p5, c5), (p4, c4), (p3, c3)] → SS w Φ body ⟨mu, [(p1, d1), (p2, d2)], [(c5, []), (c4, [d4]), (c3, [d3])]⟩ fun fl S' => ∃ d, fl = .ret d ∧ Q d []) : Fn w B f (n + 1) [d1, d2, d3, d4] [] Q := by
  intro A mu s vals hh hd hu hB hmB hmL hr _
  obtain ⟨v1, r, rfl, rv1, hr⟩ := hr.consE
  obtain ⟨v2, r, rfl, rv2, hr⟩ := hr.consE
  obtain ⟨v3, r, rfl, rv3, hr⟩ := hr.consE
  obtain ⟨v4, r, rfl, rv4, hr⟩ := hr.consE
  obtain rfl := hr.nilE
  simp only [List.nodup_cons, List.mem_cons, List.not_mem_nil, or_false, not_or, List.nodup_nil, and_true, not_false_eq_true] at hnd
  obtain ⟨⟨n12, n13, n14, n15⟩, ⟨n23, n24, n25⟩, ⟨n34, n35⟩, n45⟩ := hnd
  have b : ∀ {x y : Str}, ¬ x = y → (x == y) = false := fun h => beq_eq_false_iff_ne.mpr h
  refine codeAny_call_cells (fd := fd) (body := body) (by omega) (hB _ _ (wd.X _ _ ho)) rfl ?_ ?_ hb (hbind v1 v2 v3 v4) hclo ?_ (fun s₁ X => ?_) hco hgen hk
  · obtain ⟨mean, mg, mb, T⟩ := wd.T; exact T.nolimit.keeps hB
  · exact (codeRec_of wd.X hcd).keeps hB
  · intro x hx
    rw [hnames, hcs]
    simp only [List.mem_cons, List.not_mem_nil, or_false] at hx
    rcases hx with rfl | rfl | rfl | rfl
    · exact .inl k1
    · exact .inl k2
    · exact .inr ⟨k3, by simp [List.lookup_cons, b n35, b n34]⟩
    · exact .inr ⟨k4, by simp [List.lookup_cons, b n45]⟩
  have hLs : (callEnvC fd s.heap.objs.size f).locals = s.heap.objs.size := rfl
  have hcells : (callEnvC fd s.heap.objs.size f).cells = [(p5, s.heap.objs.size + 3), (p4, s.heap.objs.size + 2), (p3, s.heap.objs.size + 1)] := by
    show cellsFrom (s.heap.objs.size + 1) fd.scope.names [] = _
    rw [hnames, hcs]
  have hkd : ∀ x, (callEnvC fd s.heap.objs.size f).kindOf x = names.lookup x := fun x => by rw [← hnames]; rfl
  rw [hLs, hcells] at X
  clear hLs
  obtain ⟨L, hL⟩ : ∃ L : Nat, L = s.heap.objs.size := ⟨_, rfl⟩
  rw [← hL] at X hcells hkd ⊢
  let env := callEnvC fd L f
  let Φ : Fx := ⟨A.deeper env, env, L, B, s.heap, [], s, n, mu, []⟩
  have hfresh : ∀ a, L ≤ a → s.heap.get? a = none := fun a ha => by
    cases e : s.heap.get? a with
    | none => rfl
    | some o => exact absurd (Heap.lt_size e) (Nat.not_lt.mpr (hL ▸ ha))
  have ok : FxOk w names Φ := ⟨wd, hh, by show A.depth + 1 + n < _; omega, by show A.units + 3 + 8 * n + 80 < cLine; omega, hfresh L (Nat.le_refl _), hB, rfl, hglob, hbu, hk, hkd, hdbg⟩
  have nL : ∀ (b : Nat) o, s.heap.get? b = some o → b < L := fun b o e => hL ▸ Heap.lt_size e
  let mu' : Addr → Prop := fun (b : Nat) => mu b ∨ L ≤ b ∧ b ≤ L + 3
  have st : Stp mu mu' s.heap s₁.heap := fun b o e n => ⟨X.toInCall.keep b o e, fun c => c.elim n fun c => by have := nL b o e; omega⟩
  have c3 := X.cell p3 (L + 1) (by simp [List.lookup_cons, b n35, b n34])
  have c4 := X.cell p4 (L + 2) (by simp [List.lookup_cons, b n45])
  have c5 := X.cell p5 (L + 3) (by simp [List.lookup_cons])
  have hns := X.toInCall.ns
  have e3 : bindC (callEnvC fd L f).kindOf [(p1, v1), (p2, v2), (p3, v3), (p4, v4)] (fun _ => none) p3 = some v3 := by
    simp [bindC, hkd, k1, k2, k3, k4, n34]
  have e4 : bindC (callEnvC fd L f).kindOf [(p1, v1), (p2, v2), (p3, v3), (p4, v4)] (fun _ => none) p4 = some v4 := by
    simp [bindC, hkd, k1, k2, k3, k4]
  have e5 : bindC (callEnvC fd L f).kindOf [(p1, v1), (p2, v2), (p3, v3), (p4, v4)] (fun _ => none) p5 = none := by
    simp [bindC, hkd, k1, k2, k3, k4, Ne.symm n35, Ne.symm n45]
  have l1 : bindL (callEnvC fd L f).kindOf [(p1, v1), (p2, v2), (p3, v3), (p4, v4)] (fun _ => none) p1 = some v1 := by
    simp [bindL, hkd, k1, k2, k3, k4, n12]
  have l2 : bindL (callEnvC fd L f).kindOf [(p1, v1), (p2, v2), (p3, v3), (p4, v4)] (fun _ => none) p2 = some v2 := by
    simp [bindL, hkd, k1, k2, k3, k4]
  rw [e3] at c3; rw [e4] at c4; rw [e5] at c5
  obtain ⟨o3, ho3, hd3⟩ := c3
  obtain ⟨o4, ho4, hd4⟩ := c4
  obtain ⟨o5, ho5, hd5⟩ := c5
  have sat : Sat Φ ⟨mu', [(p1, d1), (p2, d2)], [(L + 3, []), (L + 2, [d4]), (L + 1, [d3])]⟩ s₁.heap :=
    { keepB := fun b o e => X.toInCall.keep b o (hB b o e)
      keepIn := fun b o e _ => X.toInCall.keep b o e
      muB := fun b o e c => c.elim (hmB b o e) fun c => by have := nL b o (hB b o e); omega
      muLive := fun b c => c.elim (fun c => let ⟨o, e⟩ := hmL b c; ⟨o, X.toInCall.keep b o e⟩) fun c => by
        have hb4 : ∀ b : Nat, L ≤ b ∧ b ≤ L + 3 → b = L ∨ b = L + 1 ∨ b = L + 2 ∨ b = L + 3 := by intro b h; omega
        replace hb4 := hb4 b c
        rcases hb4 with rfl | rfl | rfl | rfl
        · obtain ⟨o, _, _, e, _⟩ := hns; exact ⟨o, e⟩
        · exact ⟨_, ho3⟩
        · exact ⟨_, ho4⟩
        · exact ⟨_, ho5⟩
      sup := fun b c => .inl c
      muL := .inr ⟨Nat.le_refl _, Nat.le_add_right L 3⟩
      locals := ⟨_, hns, fun x d e => by
        simp only [List.lookup_cons, List.lookup_nil] at e
        cases q : x == p1 with
        | true =>
          simp only [q, Option.some.injEq] at e
          subst e
          exact ⟨v1, by rw [eq_of_beq q]; exact l1, rv1.mono st⟩
        | false =>
          simp only [q] at e
          cases q2 : x == p2 with
          | true =>
            simp only [q2, Option.some.injEq] at e
            subst e
            exact ⟨v2, by rw [eq_of_beq q2]; exact l2, rv2.mono st⟩
          | false => simp [q2] at e⟩
      store := ⟨.inr (by constructor <;> omega), by simp, ⟨#[], ⟨o5, ho5, .inr (.inr ⟨rfl, hd5⟩)⟩, RepL.nil'⟩, .inr (by constructor <;> omega), by simp, ⟨#[v4], ⟨o4, ho4, .inr (.inl ⟨v4, rfl, hd4⟩)⟩, RepL.cons' (rv4.mono st) RepL.nil'⟩,
        .inr (by constructor <;> omega), by simp, ⟨#[v3], ⟨o3, ho3, .inr (.inl ⟨v3, rfl, hd3⟩)⟩, RepL.cons' (rv3.mono st) RepL.nil'⟩, trivial⟩
      offL := fun p hp => by
        simp only [List.mem_cons, List.not_mem_nil, or_false] at hp
        rcases hp with rfl | rfl | rfl <;> (show _ ≠ L; simp)
      may := fun p hp => by
        simp only [List.mem_cons, List.not_mem_nil, or_false] at hp
        refine .inr ?_
        rcases hp with rfl | rfl | rfl <;> exact hfresh _ (by show L ≤ _; omega)
      pins := fun p hp => nomatch hp }
  have hsat : SatS Φ ⟨mu', [(p1, d1), (p2, d2)], [(L + 3, []), (L + 2, [d4]), (L + 1, [d3])]⟩ s₁ := by
    obtain ⟨h', tk, e⟩ := X.toInCall.same
    exact ⟨sat, by rw [e], by rw [e]⟩
  refine wpAny_mono (h Φ _ _ _ _ ok rfl rfl hcells _ hsat) (fun fl s' => ?_) fun _ _ x => x.elim
  rintro ⟨fd', S', rf, hs', -, d, rfl, hq⟩
  simp only [FlRep] at rf
  obtain ⟨v, rfl, rv⟩ := rf
  exact ⟨v, d, [], rfl, hs'.gens, hs'.os, rv.mono (fun b o e n => ⟨e, fun c => n (hs'.sat.sup b c)⟩), trivial, rfl, fun b o e _ => hs'.sat.keepIn b o e (fun hm => nomatch hm), hq⟩

/-- a contract of a def that hands back a new list of two -/
def FnN (w : World) (B : Heap) (f : Addr) (n : Nat) (args : List V) (Q : V → V → Prop) : Prop :=
  ∀ (A : Around) (mu : Addr → Prop) (s : Shared) (vals : List Value), A.handled = none → A.depth + n < recursionLimit → A.units + 8 * n + 80 < cLine →
    B.StaysIn s.heap → (∀ b o, B.get? b = some o → ¬ mu b) → (∀ b, mu b → ∃ o, s.heap.get? b = some o) → RepL mu s.heap args vals →
    codeAny (Mod w) A (.call (.ref f) ⟨vals, []⟩) (fun r s' => ∃ a d e, r = .ok (.ret (.ref a)) ∧ s'.gens = s.gens ∧ s'.os = s.os ∧ s.heap.get? a = none ∧ (∃ items, IsSt s'.heap a items ∧ RepL (fun b => mu b ∨ b = a) s'.heap [d, e] items.toList) ∧
      (∀ b o, s.heap.get? b = some o → s'.heap.get? b = some o) ∧ Q d e) s

section rules
variable {w : World} {Φ : Fx} {names : List (Str × NameKind)} {mu : Addr → Prop} {ρ : List (Str × V)} {g : List (Addr × List V)} {pos p p' : Pos}

theorem Sat.addsig {h : Heap} {a : Addr} {l : List V} (x : Sat Φ ⟨mu, ρ, g⟩ h) (hm : mu a) (hg : ∀ q ∈ g, q.1 ≠ a) (it : ∃ items, IsSt h a items ∧ RepL mu h l items.toList) (hL : a ≠ Φ.L) (hi : a ∈ Φ.nu ∨ Φ.hin.get? a = none) (hp : ∀ q ∈ Φ.pin, q.1 ≠ a) : Sat Φ ⟨mu, ρ, (a, l) :: g⟩ h :=
  { x with
    store := ⟨hm, hg, it, x.store⟩
    offL := fun q hq => by
      rcases List.mem_cons.mp hq with rfl | hq
      · exact hL
      · exact x.offL q hq
    may := fun q hq => by
      rcases List.mem_cons.mp hq with rfl | hq
      · exact hi
      · exact x.may q hq
    pins := fun q hq => by
      obtain ⟨a1, b, c, d⟩ := x.pins q hq
      refine ⟨a1, b, c, fun r hr => ?_⟩
      rcases List.mem_cons.mp hr with rfl | hr
      · exact fun e => hp q hq e.symm
      · exact d r hr }
theorem Sat.nosig {h : Heap} (x : Sat Φ ⟨mu, ρ, g⟩ h) : Sat Φ ⟨mu, ρ, []⟩ h :=
  { x with
    store := trivial
    offL := fun q hq => nomatch hq
    may := fun q hq => nomatch hq
    pins := fun q hq => let ⟨a, b, c, d⟩ := x.pins q hq; ⟨a, b, c, fun r hr => nomatch hr⟩ }
theorem fresh_hin {h : Heap} {a : Addr} (x : Sat Φ ⟨mu, ρ, g⟩ h) (hf : h.get? a = none) : a ∈ Φ.nu ∨ Φ.hin.get? a = none := by
  by_cases c : a ∈ Φ.nu
  · exact .inl c
  · cases e : Φ.hin.get? a with
    | none => exact .inr rfl
    | some o' =>
      have e2 := x.keepIn _ _ e c
      rw [hf] at e2; cases e2
theorem fresh_ne {h : Heap} {a b : Addr} (x : Sat Φ ⟨mu, ρ, g⟩ h) (hf : h.get? a = none) (hb : mu b) : b ≠ a := by
  rintro rfl
  obtain ⟨o, e⟩ := x.muLive _ hb
  rw [hf] at e; cases e

theorem SX_retnew {es : List PySem.Expr} {Q : Fl → AS → Prop}
    (h : SP w Φ p es ⟨mu, ρ, g⟩ fun l g1 => ∃ d e, l = [d, e] ∧ ∀ a, a ∈ Φ.nu ∨ Φ.hin.get? a = none → Q (.ret (.loc a)) ⟨fun b => mu b ∨ b = a, ρ, (a, [d, e]) :: g1⟩) : SX w Φ (.Return (some (.List es p)) pos) ⟨mu, ρ, g⟩ Q := by
  intro s hs
  refine wpAny_Return_some (wpAny_List (wpAny_mono (h s hs) (fun vs s1 => ?_) fun _ _ x => x))
  rintro ⟨l, g1, hl, hs1, st1, d, e, rfl, hq⟩
  have hlen : vs.length = 2 := hl.length
  have fr : s1.heap.get? s1.heap.objs.size = none := get_size
  have st0 : Stp mu (fun b => mu b ∨ b = s1.heap.objs.size) s1.heap (s1.heap.push { cls := .type "list", data := .seq vs.toArray }) := fun b o e n => ⟨Heap.get?_push_of_some _ e, fun c => c.elim n (Nat.ne_of_lt (Heap.lt_size e))⟩
  have x := hs1.sat.grow (a := s1.heap.objs.size) (h := s1.heap.push { cls := .type "list", data := .seq vs.toArray }) fr (fun b o' e => Heap.get?_push_of_some _ e) ⟨_, Heap.get?_push_size _ rfl⟩
  have hi := fresh_hin hs1.sat fr
  have y := x.addsig (l := [d, e]) (.inr rfl) (fun q hq => fresh_ne hs1.sat fr (hs1.sat.store.mu q hq)) ⟨vs.toArray, ⟨_, Heap.get?_push_size _ rfl, .inl ⟨by simpa using hlen, rfl, 0, rfl⟩⟩, by simpa using hl.mono st0⟩
    (Ne.symm (fresh_ne hs1.sat fr hs1.sat.muL)) hi (fun q hq => fresh_ne hs1.sat fr (hs1.sat.pins q hq).2.1)
  refine ⟨by rw [hlen, sizeLine_eq]; omega, .ret (.loc s1.heap.objs.size), _, ?_, ⟨y, hs1.gens, hs1.os⟩, st1.trans st0, hq _ hi⟩
  simp only [FlRep, Rep]
  exact ⟨_, rfl, rfl⟩

theorem fn_introN {w : World} {B : Heap} {f : Addr} {n : Nat} {args : List V} {Q : V → V → Prop} {fd : FuncData} {body : List Stmt} {oc : Value} {od : Option Addr} {osl : Array (Option Value)} (names : List (Str × NameKind)) (ps : List Str)
    (wd : Wd w B) (ho : (hd.heap_1 w.params).lookup f = some ⟨oc, od, .func fd, osl⟩) (hb : fd.body = .stmts body) (hcd : codeIn (hd.heap_1 w.params) fd.code fd.qualname = true)
    (hnames : fd.scope.names = names) (hglob : fd.globals = mainGlobals) (hbu : fd.builtins = builtinsNs) (hclo : fd.closure = [])
    (hbind : ∀ (s : Shared) (vals : List Value), B.StaysIn s.heap → vals.length = args.length → BindsTo s fd ⟨vals, []⟩ (ps.zip vals)) (hlen : ps.length = args.length) (hnd : ps.Nodup)
    (hloc : ∀ x ∈ ps, names.lookup x = some .local) (hcell : ∀ x ∈ names, x.2 ≠ .cell) (hdbg : names.lookup (Str.ofString "__debug__") = none)
    (hco : fd.scope.isCoroutine = false) (hgen : fd.scope.isGenerator = false) (hk : fd.scope.kind = .function)
    (h : ∀ Φ mu, FxOk w names Φ → Φ.B = B → Φ.n = n → Φ.nu = [] → SS w Φ body ⟨mu, ps.zip args, []⟩ fun fl S' => ∃ a d e, fl = .ret (.loc a) ∧ Φ.hin.get? a = none ∧ S'.sig = [(a, [d, e])] ∧ (∃ i j, d = .int i ∧ e = .int j) ∧ Q d e) : FnN w B f (n + 1) args Q := by
  intro A mu s vals hh hd hu hB hmB hmL hr
  refine codeAny_call_def (fd := fd) (body := body) (binds := ps.zip vals) (by omega) (hB _ _ (wd.X _ _ ho)) rfl ?_ ?_ hb (hbind s vals hB hr.length) (by rw [hnames]; exact hcell) ?_ (fun h₀ hns hkeep => ?_) hco hgen hk
  · obtain ⟨mean, mg, mb, T⟩ := wd.T; exact T.nolimit.keeps hB
  · exact (codeRec_of wd.X hcd).keeps hB
  · intro x hx'
    rw [hnames]
    exact hloc _ (List.of_mem_zip hx').1
  have hlenV : vals.length = ps.length := by rw [hr.length, hlen]
  let L := s.heap.objs.size
  let env := callEnv fd L f
  let Φ : Fx := ⟨A.deeper env, env, L, B, s.heap, [], s, n, fun b => mu b ∨ b = L, []⟩
  have hfresh : s.heap.get? L = none := get_size
  have ok : FxOk w names Φ := ⟨wd, hh, by show A.depth + 1 + n < _; omega, by show A.units + 3 + 8 * n + 80 < cLine; omega, hfresh, hB, rfl, hglob, hbu, hk, fun x => by
    show fd.scope.names.lookup x = _; rw [hnames], hdbg⟩
  have nL : ∀ b o, s.heap.get? b = some o → b ≠ L := fun b o e => Nat.ne_of_lt (Heap.lt_size e)
  have st : Stp mu (fun b => mu b ∨ b = L) s.heap h₀ := fun b o e n => ⟨hkeep b o e, fun c => c.elim n (nL b o e)⟩
  have sat : Sat Φ ⟨fun b => mu b ∨ b = L, ps.zip args, []⟩ h₀ :=
    { keepB := fun b o e => hkeep b o (hB b o e)
      keepIn := fun b o e _ => hkeep b o e
      muB := fun b o e c => c.elim (hmB b o e) (nL b o (hB b o e))
      muLive := fun b c => c.elim (fun c => let ⟨o, e⟩ := hmL b c; ⟨o, hkeep b o e⟩) fun c => by
        obtain ⟨o, _, _, e, _⟩ := hns; exact ⟨o, by rw [c]; exact e⟩
      sup := fun b c => c
      muL := .inr rfl
      locals := ⟨_, hns, fun x d e => by
        obtain ⟨v, hv, rv⟩ := lookup_zip hr e
        exact ⟨v, lookup_reverse (by rw [List.map_fst_zip (by omega)]; exact hnd) hv, rv.mono st⟩⟩
      store := trivial
      offL := fun p hp => nomatch hp
      may := fun p hp => nomatch hp
      pins := fun p hp => nomatch hp }
  refine wpAny_mono (h Φ _ ok rfl rfl rfl _ ⟨sat, rfl, rfl⟩) (fun fl s' => ?_) fun _ _ x => x.elim
  rintro ⟨fd', S', rf, hs', -, a, d, e, rfl, hf, hsig, ⟨i, j, rfl, rfl⟩, hq⟩
  simp only [FlRep] at rf
  obtain ⟨v, rfl, rv⟩ := rf
  obtain rfl := rv.locE
  have hst := hs'.sat.store
  rw [hsig] at hst
  obtain ⟨_, _, ⟨items, hi, hri⟩, _⟩ := hst
  obtain ⟨v1, v2, rfl, rv1, rv2⟩ : ∃ a b, items = #[a, b] ∧ Rep S'.mu s'.heap (.int i) a ∧ Rep S'.mu s'.heap (.int j) b := src_items hri
  obtain ⟨t1, rfl⟩ := rv1.intE
  obtain ⟨t2, rfl⟩ := rv2.intE
  exact ⟨a, _, _, rfl, hs'.gens, hs'.os, hf, ⟨_, hi, RepL.cons' Rep.int' (RepL.cons' Rep.int' RepL.nil')⟩, fun b o e => hs'.sat.keepIn b o e (fun hm => nomatch hm), hq⟩

/-- x = f(..): a new list of two, marked; the old marked places are left -/
theorem SX_setnew {f x : Str} {p q : Pos} {fa : Addr} {n : Nat} {e : PySem.Expr} {es : List PySem.Expr} {Q : Fl → AS → Prop} {oc : Value} {od : Option Addr} {osl : Array (Option Value)} {fd : FuncData} (ok : FxOk w names Φ)
    (h : SP w Φ pos (e :: es) ⟨mu, ρ, g⟩ fun l g1 => FnN w Φ.B fa n l fun d1 d2 => ∀ a, Q .next ⟨fun b => mu b ∨ b = a, (x, .loc a) :: ρ, [(a, [d1, d2])]⟩) (hn : n ≤ Φ.n)
    (he : nsIn (hd.heap_1 w.params) mainGlobals f = some (some (.ref fa))) (ho : (hd.heap_1 w.params).lookup fa = some ⟨oc, od, .func fd, osl⟩)
    (hl : names.lookup f = some .globalImplicit) (hx : names.lookup x = some .local)
    (hs' : starEach (e :: es) Φ.env = (false, eval e Φ.env) :: starEach es Φ.env) (hw : swapsWith (.Call (.Name f p) (e :: es) [] pos) (some (.Name x q)) p'.line Φ.env = pure false) :
    SX w Φ (.Assign [.Name x q] (.Call (.Name f p) (e :: es) [] pos) p') ⟨mu, ρ, g⟩ Q := by
  intro s hs
  refine wpAny_Assign_Name ?_ hw
  refine wpAny_Call_NameR (name_def ok hs he (Calls.callWith_function (o := ⟨oc, od, .func fd, osl⟩) (fd := fd) (args_ok h hs (fun vs l g1 s1 hl hs1 st1 hq => ⟨⟨hs1.sat.keepB _ _ (ok.wd.X _ _ ho), rfl⟩, ?_⟩) hs')) hl)
  refine wpAny_call (codeAny_mono (hq Φ.A mu s1 vs ok.handled (by have := ok.depth; omega) (by have := ok.units; omega) hs1.sat.keepB hs1.sat.muB hs1.sat.muLive hl) fun r s2 => ?_)
  rintro ⟨a, d1, d2, rfl, hg, hos, hf, it, hk, hQ⟩
  have lv : ∃ o, s2.heap.get? a = some o := by obtain ⟨items, ⟨o, ho, _⟩, _⟩ := it; exact ⟨o, ho⟩
  have x1 := (hs1.sat.grow hf hk lv).nosig
  have x2 := x1.addsig (l := [d1, d2]) (.inr rfl) (fun q hq => nomatch hq) it (Ne.symm (fresh_ne hs1.sat hf hs1.sat.muL)) (fresh_hin hs1.sat hf) (fun q hq => fresh_ne hs1.sat hf (hs1.sat.pins q hq).2.1)
  have st2 : Stp mu (fun b => mu b ∨ b = a) s1.heap s2.heap := fun b o e n => ⟨hk b o e, fun c => c.elim n fun c => by rw [c, hf] at e; cases e⟩
  exact store_ok (d := .loc a) ok ⟨x2, hg.trans hs1.gens, hos.trans hs1.os⟩ (by simp only [Rep]) (fun s3 hs3 st3 => ⟨.next, _, by simp only [FlRep], hs3, st1.trans (st2.trans st3), hQ a⟩) hx
end rules

local macro_rules | `(tactic| walk_at "W") => `(tactic| (first
  | with_reducible refine Sub_lstD ?_ ?_ ?_ (fun _ _ => ?_)
  ))
local macro_rules | `(tactic| walk_at "W") => `(tactic| (first
  | (with_reducible first | refine SS_cons ?_ | refine SX_if ?_ | refine SX_ret ?_)
  | ((with_reducible refine IT_cmp ?h1 ?h2); (case h2 => with_unfolding_all rfl))
  | (with_reducible first | refine IT_not ?_ | refine IT_bool ?_ | refine AT_and1 ?_ | refine AT_or1 ?_)
  | ((with_reducible refine AT_andj_g ?_); with_reducible apply AT_andj)
  | ((with_reducible refine AT_orj_g ?_); with_reducible apply AT_orj)
  | (with_reducible first | refine EX_int ?_ | refine EX_str0 ?_ | refine EX_str ?_ | refine EX_bool ?_)
  | ((with_reducible refine EX_loc (d := ?d) (by assumption) ?h1 ?h2 ?h3); (case h3 => rfl); (case h1 => rfl))
  | ((with_reducible refine EX_NAN (by assumption) ?h1 ?h2); (case h2 => rfl))
  | ((with_reducible refine EX_ZERO (by assumption) ?h1 ?h2); (case h2 => rfl))
  | (with_reducible first | refine EX_bin ?_)
  | ((with_reducible refine EX_cmp ?h1 ?h2); (case h2 => with_unfolding_all rfl))
  | (with_reducible first | refine EX_if10 ?_ | refine EX_if ?_ | refine EX_neg ?_ | refine EX_not ?_)
  | ((with_reducible refine EX_and2j_g ?_); with_reducible apply EX_and2j)
  | ((with_reducible refine EX_or2j_g ?_); with_reducible apply EX_or2j)
  | ((with_reducible refine EX_and3j_g ?_); with_reducible apply EX_and3j)
  | (with_reducible first | refine EX_tup ?_ | refine EX_lst ?_)
  | ((with_reducible refine EX_sub ?h1 ?h2); (case h2 => (intro _ _; rfl)))
  | (with_reducible first | refine SP_nil ?_)
  | ((with_reducible refine SP_cons ?h1 ?h2); (case h2 => rfl))
  | (with_reducible first | refine Lim_i ?_ (Nat.le_of_ble_eq_true rfl) | refine Cmp_lt ?_ | refine Cmp_gt ?_ | refine Cmp_le ?_ | refine Cmp_ge ?_ | refine Cmp_eq ?_ | refine Cmp_ne ?_ | refine Cmp_eq_str ?_ | refine Cmp_ne_str ?_ | refine Cmp_ne_bool ?_ | refine Cmp_in_S ?_ | refine Bin_add ?_ | refine Bin_sub ?_ | refine Bin_fdiv ?_ ?_ ?_ | refine Bin_mod ?_ ?_ | refine Bin_mul ?_ ?_ | refine Bin_pow ?_ ?_ ?_ ?_)
  | ((with_reducible refine Sub_tup (d := ?d) ?h1 ?h2 ?h3 ?h4); (case h1 => rfl); (case h3 => decide); (case h4 => decide))
  | ((with_reducible refine Sub_lst (d := ?d) ?h1 ?h2 ?h3 ?h4); (case h1 => rfl); (case h3 => decide); (case h4 => decide))
  | (with_reducible first | refine branch (fun _ => ?_) (fun _ => ?_))
  | ((with_reducible refine EX_abs (by assumption) ?h1 ?h3 ?h6 ?h7); (case h3 => rfl); (case h6 => rfl); (case h7 => rfl))
  | ((with_reducible refine EX_len (by assumption) ?h1 ?h3 ?h6 ?h7); (case h3 => rfl); (case h6 => rfl); (case h7 => rfl))
  | ((with_reducible refine EX_strc (by assumption) ?h1 ?h3 ?h6 ?h7); (case h3 => rfl); (case h6 => rfl); (case h7 => rfl))
  | (with_reducible first | refine Call_abs ?_ | refine Call_len_S ?_ ?_ | refine Call_str_nat ?_ ?_ | refine EX_slice_ss ?_ | refine EX_slice_ns ?_ | refine EX_slice_sn ?_ | refine Sub_strD ?_ ?_ ?_ ?_ | refine Cmp_in_S ?_ | refine Bin_catS ?_ ?_)
  | ((with_reducible refine EX_call (fa := ?fa) (n := ?n) (oc := ?oc) (od := ?od) (osl := ?osl) (fd := ?fd) (by assumption) ?h1 ?h2 ?h3 ?h4 ?h5 ?h7); (case h3 => walk_at "NS"); (case h4 => rfl); (case h5 => rfl); (case h7 => rfl))
  | walk_at "CALL"
  | ((with_reducible show (_ : Nat) ≤ Fx.n _); omega)
  | ((with_reducible refine SX_swap2 (by assumption) ?h1 ?h2 ?h3 ?h4); (case h2 => rfl); (case h3 => rfl); (case h4 => rfl))
  | ((with_reducible refine SX_swap3 (by assumption) ?h1 ?h2 ?h3 ?h4 ?h5); (case h2 => rfl); (case h3 => rfl); (case h4 => rfl); (case h5 => rfl))
  | ((with_reducible refine SX_iadd (i := ?i) (by assumption) ?h1 ?h2 ?h3); (case h3 => rfl); (case h1 => rfl))
  | ((with_reducible refine SX_isub (i := ?i) (by assumption) ?h1 ?h2 ?h3); (case h3 => rfl); (case h1 => rfl))
  | ((with_reducible refine SX_set (by assumption) ?h1 ?h2 ?h3); (case h2 => rfl); (case h3 => rfl))
  | (with_reducible first | exact ⟨rfl, rfl⟩ | refine And.intro (fun _ => ?_) ?_ | refine ⟨_, rfl, fun _ => ?_, ?_⟩ | refine ⟨_, _, rfl, ?_⟩ | refine ⟨_, _, _, rfl, ?_⟩ | refine ⟨_, rfl, ?_⟩ | refine SS_nil ?_)
  | ((with_reducible refine IT_val ?h1 ?h2); (case h2 => rfl))
  ))
local macro_rules | `(tactic| walk_at "NS") => `(tactic| (with_reducible first | exact ns_common_divisor _ | exact ns_sign_of _ | exact ns_number_of _ | exact ns_is_nan _ | exact ns_negated _ | exact ns_plus _ | exact ns_minus _ | exact ns_times _ | exact ns_divided _ | exact ns_cut_whole _ | exact ns_modulo _ | exact ns_order_of _ | exact ns_compared_numbers _ | exact ns_floor_of _ | exact ns_ceiling_of _ | exact ns_rounded _ | exact ns_digits_end _ | exact ns_trimmed _ | exact ns_whole_of _ | exact ns_read_number _ | exact ns_write_number _ | exact ns_law_pool _ | exact ns_law_take _ | exact ns_law_one _ | exact ns_law_number _ | exact ns_law_kind _ | exact ns_law_sign _ | exact ns_law_same _ | exact ns_law_sum _ | exact ns_law_product _ | exact ns_law_quotient _ | exact ns_law_rest _ | exact ns_law_less _ | exact ns_law_compared_right _ | exact ns_law_whole_right _ | exact ns_law_written_right _ | exact ns_law_read_right _ | exact ns_law _))
local macro_rules | `(tactic| walk_at "B1") => `(tactic| (intro s vals _ hv; revert hv; revert vals; exact all1 fun _ => BindsTo.of_eq rfl))
local macro_rules | `(tactic| walk_at "B2") => `(tactic| (intro s vals _ hv; revert hv; revert vals; exact all2 fun _ _ => BindsTo.of_eq rfl))
local macro_rules | `(tactic| walk_at "B3") => `(tactic| (intro s vals _ hv; revert hv; revert vals; exact all3 fun _ _ _ => BindsTo.of_eq rfl))
local macro_rules | `(tactic| walk_at "O") => `(tactic| (first | omega | (simp only [decide_eq_true_eq, decide_eq_false_iff_not, Bool.and_eq_true, Bool.and_eq_false_iff, Bool.or_eq_true, Bool.or_eq_false_iff] at *; omega)))

abbrev pr (a : Int × Int) : V := .tup [.int a.1, .int a.2]
def sgn (i : Int) : Int := if 0 < i then 1 else if i < 0 then -1 else 0

theorem sign_of_ok {w : World} {B : Heap} (wd : Wd w B) (i : Int) : Fn w B 30 1 [.int i] [] fun d _ => d = .int (sgn i) := by
  refine fn_intro (f := 30) _ [Str.ofString "number"] wd rfl rfl rfl rfl rfl rfl rfl (by walk_at "B1") rfl (by decide) (by decide) (by decide) rfl rfl rfl rfl ?_
  intro Φ mu ok hB hn
  subst hB
  dsimp only [List.zip_cons_cons, List.zip_nil_left] at ok ⊢
  repeat' (first | walk_at "W")
  all_goals (refine ⟨rfl, ?_⟩; simp only [decide_eq_true_eq, decide_eq_false_iff_not] at *; simp only [sgn]; congr 1; (repeat' split) <;> omega)


theorem gcd_step {a b : Int} (hb : 0 < b) : Int.gcd b (a.fmod b) = Int.gcd a b := by
  rw [Int.fmod_eq_emod_of_nonneg _ (by omega)]
  have h := Int.gcd_add_mul_left_right b (a % b) (a / b)
  rw [Int.emod_add_mul_ediv] at h
  rw [← h, Int.gcd_comm]
theorem common_divisor_ok {w : World} {B : Heap} (wd : Wd w B) (a b : Int) (hb : 0 ≤ b) : Fn w B 23 1 [.int a, .int b] [] fun d _ => d = .int (Int.gcd a b) := by
  refine fn_intro (f := 23) _ [Str.ofString "one", Str.ofString "other"] wd rfl rfl rfl rfl rfl rfl rfl (by walk_at "B2") rfl (by decide) (by decide) (by decide) rfl rfl rfl rfl ?_
  intro Φ mu ok hB hn
  subst hB
  dsimp only [List.zip_cons_cons, List.zip_nil_left] at ok ⊢
  repeat' (first | walk_at "W")
  refine SX_while (fun n ρ g => ∃ x y : Int, ρ = [(Str.ofString "first", .int x), (Str.ofString "second", .int y)] ∧ g = [] ∧ 0 ≤ x ∧ 0 ≤ y ∧ Int.gcd x y = Int.gcd a b ∧ n = y.toNat) b.toNat [(Str.ofString "first", .int a.natAbs), (Str.ofString "second", .int b)] ⟨rfl, rfl, trivial⟩
    ⟨a.natAbs, b, rfl, rfl, by omega, hb, by simp [Int.gcd], rfl⟩ ?_
  rintro n mu ρ g ⟨x, y, rfl, rfl, hx, hy, hg, rfl⟩
  repeat' (first | walk_at "W")
  · rename_i hc
    simp only [decide_eq_true_eq] at hc
    omega
  · rename_i hc
    simp only [decide_eq_true_eq] at hc
    repeat' (first | walk_at "W")
    have h1 := Int.fmod_nonneg_of_pos x hc
    have h2 := Int.fmod_lt_of_pos x hc
    exact ⟨(x.fmod y).toNat, [(Str.ofString "first", .int y), (Str.ofString "second", .int (x.fmod y))], by omega, ⟨rfl, rfl, trivial⟩, y, x.fmod y, rfl, rfl, by omega, by omega, by rw [gcd_step hc, hg], rfl⟩
  · rename_i hc
    simp only [decide_eq_false_iff_not] at hc
    obtain rfl : y = 0 := by omega
    refine ⟨rfl, ?_⟩
    rw [← hg]
    congr 1
    simp [Int.gcd]; omega

/-- lowest terms -/
def mk (t b : Int) : Int × Int :=
  if b = 0 then (sgn t, 0) else if b < 0 then ((-t) / (Int.gcd t b : Int), (-b) / (Int.gcd t b : Int)) else (t / (Int.gcd t b : Int), b / (Int.gcd t b : Int))
theorem gcd_pos' {t b : Int} (hb : b ≠ 0) : 0 < (Int.gcd t b : Int) := by
  have := Int.gcd_pos_of_ne_zero_right t hb
  omega
theorem fdiv_pos_eq {a b : Int} (hb : 0 < b) : a.fdiv b = a / b := Int.fdiv_eq_ediv_of_nonneg _ (by omega)
theorem Bd_gcd {k : Nat} {t b : Int} (hb : b ≠ 0) (h : Bd k b) : Bd k (Int.gcd t b : Int) := by
  refine h.le ?_
  show Nat.gcd t.natAbs b.natAbs ≤ _
  exact Nat.gcd_le_right _ (Int.natAbs_pos.mpr hb)
theorem number_of_ok {w : World} {B : Heap} (wd : Wd w B) (t b : Int) (hb : Bd 9000 b) : Fn w B 38 2 [.int t, .int b] [] fun d _ => d = pr (mk t b) := by
  refine fn_intro (f := 38) _ [Str.ofString "top", Str.ofString "bottom"] wd rfl rfl rfl rfl rfl rfl rfl ?_ rfl (by decide) (by decide) (by decide) rfl rfl rfl rfl ?_
  · intro s vals hB hv
    revert hv; revert vals
    exact all2 fun _ _ => binds_K (wd.X.keeps hB) rfl rfl rfl rfl rfl
  intro Φ mu ok hB hn
  subst hB
  dsimp only [List.zip_cons_cons, List.zip_nil_left] at ok ⊢
  have e1 : ∀ x y : Int, y ≠ 0 → x.fdiv (Int.gcd t y : Int) = x / (Int.gcd t y : Int) := fun x y h => fdiv_pos_eq (gcd_pos' h)
  have e2 : Int.gcd (-t) (-b) = Int.gcd t b := by simp
  repeat' (first | walk_at "W" | (with_reducible first | refine (common_divisor_ok (FxOk.wd (by assumption)) _ _ ?_).eqk fun _ => ?_ | refine (sign_of_ok (FxOk.wd (by assumption)) _).eqk fun _ => ?_))
  all_goals simp only [decide_eq_true_eq, decide_eq_false_iff_not] at *
  all_goals (try simp only [e2] at *)
  all_goals (first
    | omega
    | exact Bd_gcd (by omega) hb
    | (have := gcd_pos' (t := t) (b := b) (by assumption); omega)
    | (refine ⟨trivial, ?_⟩; simp only [pr, mk]; (repeat' split) <;> first | rfl | omega | (rw [e1 _ _ (by assumption), e1 _ _ (by assumption)])))

def isNan (a : Int × Int) : Bool := decide (a.2 = 0) && decide (a.1 = 0)
def neg (a : Int × Int) : Int × Int := (-a.1, a.2)

theorem is_nan_ok {w : World} {B : Heap} (wd : Wd w B) (x y : Int) : Fn w B 45 1 [.tup [.int x, .int y]] [] fun d _ => d = .bool (isNan (x, y)) := by
  refine fn_intro (f := 45) _ [Str.ofString "a"] wd rfl rfl rfl rfl rfl rfl rfl (by walk_at "B1") rfl (by decide) (by decide) (by decide) rfl rfl rfl rfl ?_
  (intro Φ mu ok hB hn; subst hB; dsimp only [List.zip_cons_cons, List.zip_nil_left] at ok ⊢)
  repeat' (first | walk_at "W")
  all_goals (refine ⟨rfl, ?_⟩; simp_all [isNan])
theorem negated_ok {w : World} {B : Heap} (wd : Wd w B) (x y : Int) : Fn w B 52 1 [.tup [.int x, .int y]] [] fun d _ => d = pr (neg (x, y)) := by
  refine fn_intro (f := 52) _ [Str.ofString "a"] wd rfl rfl rfl rfl rfl rfl rfl (by walk_at "B1") rfl (by decide) (by decide) (by decide) rfl rfl rfl rfl ?_
  (intro Φ mu ok hB hn; subst hB; dsimp only [List.zip_cons_cons, List.zip_nil_left] at ok ⊢)
  repeat' (first | walk_at "W")
  all_goals (refine ⟨rfl, ?_⟩; simp_all [neg])

def plus (a b : Int × Int) : Int × Int :=
  if (isNan a || isNan b) = true then (0, 0)
  else if (decide (a.2 = 0) && decide (b.2 = 0)) = true then (if decide (a.1 = b.1) = true then a else (0, 0))
  else if decide (a.2 = 0) = true then a else if decide (b.2 = 0) = true then b
  else mk (a.1 * b.2 + b.1 * a.2) (a.2 * b.2)
theorem plus_ok {w : World} {B : Heap} (wd : Wd w B) (x y u v : Int) (hx : Bd 4000 x) (hy : Bd 4000 y) (hu : Bd 4000 u) (hv : Bd 4000 v) : Fn w B 59 3 [.tup [.int x, .int y], .tup [.int u, .int v]] [] fun d _ => d = pr (plus (x, y) (u, v)) := by
  refine fn_intro (f := 59) _ [Str.ofString "a", Str.ofString "b"] wd rfl rfl rfl rfl rfl rfl rfl (by walk_at "B2") rfl (by decide) (by decide) (by decide) rfl rfl rfl rfl ?_
  (intro Φ mu ok hB hn; subst hB; dsimp only [List.zip_cons_cons, List.zip_nil_left] at ok ⊢)
  repeat' (first | walk_at "W" | (with_reducible first | refine (is_nan_ok (FxOk.wd (by assumption)) _ _).eqk fun _ => ?_ | refine (number_of_ok (FxOk.wd (by assumption)) _ _ ?_).eqk fun _ => ?_))
  all_goals (first
    | exact mulOk_of (by assumption) (by assumption) (by decide)
    | exact (hy.mul hv).mono (by decide)
    | (refine ⟨rfl, ?_⟩; (clear ok hn wd); simp only [plus]; (repeat' split) <;> first | rfl | (exfalso; simp_all; done)))

def minus (a b : Int × Int) : Int × Int := plus a (neg b)
theorem minus_ok {w : World} {B : Heap} (wd : Wd w B) (x y u v : Int) (hx : Bd 4000 x) (hy : Bd 4000 y) (hu : Bd 4000 u) (hv : Bd 4000 v) : Fn w B 66 4 [.tup [.int x, .int y], .tup [.int u, .int v]] [] fun d _ => d = pr (minus (x, y) (u, v)) := by
  refine fn_intro (f := 66) _ [Str.ofString "a", Str.ofString "b"] wd rfl rfl rfl rfl rfl rfl rfl (by walk_at "B2") rfl (by decide) (by decide) (by decide) rfl rfl rfl rfl ?_
  (intro Φ mu ok hB hn; subst hB; dsimp only [List.zip_cons_cons, List.zip_nil_left] at ok ⊢)
  repeat' (first | walk_at "W" | (with_reducible first | refine (plus_ok (FxOk.wd (by assumption)) _ _ _ _ ?_ ?_ ?_ ?_).eqk fun _ => ?_ | refine (negated_ok (FxOk.wd (by assumption)) _ _).eqk fun _ => ?_))
  all_goals (first | assumption | exact hu.neg | exact ⟨rfl, rfl⟩)

def times (a b : Int × Int) : Int × Int :=
  if (isNan a || isNan b) = true then (0, 0)
  else if (decide (a.2 = 0) || decide (b.2 = 0)) = true then (sgn a.1 * sgn b.1, 0)
  else mk (a.1 * b.1) (a.2 * b.2)
theorem Bd_sgn {i : Int} : Bd 4000 (sgn i) := by
  refine Bd.mono (k := 1) ?_ (by decide)
  unfold sgn Bd
  split
  · decide
  · split <;> decide
theorem times_ok {w : World} {B : Heap} (wd : Wd w B) (x y u v : Int) (hx : Bd 4000 x) (hy : Bd 4000 y) (hu : Bd 4000 u) (hv : Bd 4000 v) : Fn w B 73 3 [.tup [.int x, .int y], .tup [.int u, .int v]] [] fun d _ => d = pr (times (x, y) (u, v)) := by
  refine fn_intro (f := 73) _ [Str.ofString "a", Str.ofString "b"] wd rfl rfl rfl rfl rfl rfl rfl (by walk_at "B2") rfl (by decide) (by decide) (by decide) rfl rfl rfl rfl ?_
  (intro Φ mu ok hB hn; subst hB; dsimp only [List.zip_cons_cons, List.zip_nil_left] at ok ⊢)
  repeat' (first | walk_at "W" | (with_reducible first | refine (is_nan_ok (FxOk.wd (by assumption)) _ _).eqk fun _ => ?_ | refine (number_of_ok (FxOk.wd (by assumption)) _ _ ?_).eqk fun _ => ?_ | refine (sign_of_ok (FxOk.wd (by assumption)) _).eqk fun _ => ?_))
  all_goals (first
    | exact mulOk_of (by assumption) (by assumption) (by decide)
    | exact mulOk_of Bd_sgn Bd_sgn (by decide)
    | exact (hy.mul hv).mono (by decide)
    | (refine ⟨rfl, ?_⟩; (clear ok hn wd); simp only [times]; (repeat' split) <;> first | rfl | (exfalso; simp_all; done)))

def divided (a b : Int × Int) : Int × Int :=
  if (isNan a || isNan b) = true then (0, 0)
  else if decide (b.2 = 0) = true then (if decide (a.2 = 0) = true then (0, 0) else (0, 1))
  else if decide (a.2 = 0) = true then (if decide (0 ≤ b.1) = true then a else neg a)
  else if decide (b.1 = 0) = true then (sgn a.1, 0)
  else mk (a.1 * b.2) (a.2 * b.1)
theorem divided_ok {w : World} {B : Heap} (wd : Wd w B) (x y u v : Int) (hx : Bd 4000 x) (hy : Bd 4000 y) (hu : Bd 4000 u) (hv : Bd 4000 v) : Fn w B 80 3 [.tup [.int x, .int y], .tup [.int u, .int v]] [] fun d _ => d = pr (divided (x, y) (u, v)) := by
  refine fn_intro (f := 80) _ [Str.ofString "a", Str.ofString "b"] wd rfl rfl rfl rfl rfl rfl rfl (by walk_at "B2") rfl (by decide) (by decide) (by decide) rfl rfl rfl rfl ?_
  (intro Φ mu ok hB hn; subst hB; dsimp only [List.zip_cons_cons, List.zip_nil_left] at ok ⊢)
  repeat' (first | walk_at "W" | (with_reducible first | refine (negated_ok (FxOk.wd (by assumption)) _ _).eqk fun _ => ?_ | refine (is_nan_ok (FxOk.wd (by assumption)) _ _).eqk fun _ => ?_ | refine (number_of_ok (FxOk.wd (by assumption)) _ _ ?_).eqk fun _ => ?_ | refine (sign_of_ok (FxOk.wd (by assumption)) _).eqk fun _ => ?_))
  all_goals (first
    | exact mulOk_of (by assumption) (by assumption) (by decide)
    | exact (hy.mul hu).mono (by decide)
    | (refine ⟨rfl, ?_⟩; (clear ok hn wd); simp only [divided]; (repeat' split) <;> first | rfl | (exfalso; simp_all; done)))

/-- towards nought -/
def cut (a : Int × Int) : Int := if 0 ≤ a.1 then (a.1.natAbs : Int).fdiv a.2 else -((a.1.natAbs : Int).fdiv a.2)
theorem cut_whole_ok {w : World} {B : Heap} (wd : Wd w B) (x y : Int) (h0 : y ≠ 0) (hy : Bd 9000 y) : Fn w B 87 1 [.tup [.int x, .int y]] [] fun d _ => d = .int (cut (x, y)) := by
  refine fn_intro (f := 87) _ [Str.ofString "a"] wd rfl rfl rfl rfl rfl rfl rfl (by walk_at "B1") rfl (by decide) (by decide) (by decide) rfl rfl rfl rfl ?_
  (intro Φ mu ok hB hn; subst hB; dsimp only [List.zip_cons_cons, List.zip_nil_left] at ok ⊢)
  repeat' (first | walk_at "W")
  all_goals (first
    | assumption
    | (refine ⟨rfl, ?_⟩; simp only [cut, decide_eq_true_eq, decide_eq_false_iff_not] at *; split <;> first | rfl | omega))

theorem mk_zero (t : Int) : mk t 0 = (sgn t, 0) := by simp [mk]
theorem mk_pos {t b : Int} (hb : 0 < b) : mk t b = (t / (Int.gcd t b : Int), b / (Int.gcd t b : Int)) := by
  unfold mk; rw [if_neg (by omega), if_neg (by omega)]
theorem mk_neg {t b : Int} (hb : b < 0) : mk t b = ((-t) / (Int.gcd t b : Int), (-b) / (Int.gcd t b : Int)) := by
  unfold mk; rw [if_neg (by omega), if_pos hb]
theorem mk_flip {t b : Int} (hb : b ≠ 0) : mk t b = mk (-t) (-b) := by
  rcases Int.lt_or_lt_of_ne hb with h | h
  · rw [mk_neg h, mk_pos (by omega)]; simp
  · rw [mk_pos h, mk_neg (by omega)]; simp
theorem mk_parts {t b : Int} (hb : 0 < b) : ∃ G : Int, 0 < G ∧ t = G * (mk t b).1 ∧ b = G * (mk t b).2 ∧ Int.gcd (mk t b).1 (mk t b).2 = 1 := by
  have hg := gcd_pos' (t := t) (b := b) (by omega)
  refine ⟨Int.gcd t b, hg, ?_, ?_, ?_⟩
  · rw [mk_pos hb]; exact (Int.mul_ediv_cancel' (Int.gcd_dvd_left ..)).symm
  · rw [mk_pos hb]; exact (Int.mul_ediv_cancel' (Int.gcd_dvd_right ..)).symm
  · rw [mk_pos hb]
    exact Int.gcd_ediv_gcd_ediv_gcd_of_ne_zero_right (by omega)
theorem mk_facts {t b : Int} (hb : b ≠ 0) : 0 < (mk t b).2 ∧ (mk t b).1 * b = t * (mk t b).2 ∧ Int.gcd (mk t b).1 (mk t b).2 = 1 := by
  have pos : ∀ t b : Int, 0 < b → 0 < (mk t b).2 ∧ (mk t b).1 * b = t * (mk t b).2 ∧ Int.gcd (mk t b).1 (mk t b).2 = 1 := by
    intro t b hb
    obtain ⟨G, hG, h1, h2, h3⟩ := mk_parts (t := t) hb
    refine ⟨?_, ?_, h3⟩
    · rcases Int.lt_or_le 0 (mk t b).2 with h | h
      · exact h
      · exfalso
        have := Int.mul_nonpos_of_nonneg_of_nonpos (Int.le_of_lt hG) h
        omega
    · generalize mk t b = m at *
      subst h1; subst h2
      rw [Int.mul_assoc, Int.mul_left_comm]
  rcases Int.lt_or_lt_of_ne hb with h | h
  · rw [mk_flip hb]
    obtain ⟨a, b', c⟩ := pos (-t) (-b) (by omega)
    refine ⟨a, ?_, c⟩
    rw [Int.mul_neg, Int.neg_mul] at b'
    omega
  · exact pos t b h
theorem dvd_cop {d a b : Int} (h : Int.gcd d a = 1) (hd : d ∣ a * b) : d ∣ b := by
  rw [← Int.natAbs_dvd_natAbs] at *
  rw [Int.natAbs_mul] at hd
  exact Nat.Coprime.dvd_of_dvd_mul_left (show Nat.gcd d.natAbs a.natAbs = 1 from h) hd
theorem low_eq {n d N D : Int} (hd : 0 < d) (hD : 0 < D) (h : Int.gcd n d = 1) (H : Int.gcd N D = 1) (e : n * D = N * d) : n = N ∧ d = D := by
  have h1 : d ∣ D := by
    have : d ∣ n * D := ⟨N, by rw [e, Int.mul_comm]⟩
    exact dvd_cop (by rw [Int.gcd_comm]; exact h) this
  have h2 : D ∣ d := by
    have : D ∣ N * d := ⟨n, by rw [← e, Int.mul_comm]⟩
    exact dvd_cop (by rw [Int.gcd_comm]; exact H) this
  have hdD : d = D := Int.dvd_antisymm (by omega) (by omega) h1 h2
  subst hdD
  exact ⟨Int.eq_of_mul_eq_mul_right (by omega) e, rfl⟩
theorem mk_uniq {t b n d : Int} (hb : b ≠ 0) (hd : 0 < d) (h : Int.gcd n d = 1) (e : n * b = t * d) : mk t b = (n, d) := by
  obtain ⟨h1, h2, h3⟩ := mk_facts (t := t) hb
  have e2 : (mk t b).1 * d = n * (mk t b).2 := by
    refine Int.eq_of_mul_eq_mul_right hb ?_
    rw [Int.mul_right_comm, h2, Int.mul_right_comm n, e, Int.mul_right_comm]
  obtain ⟨a, b'⟩ := low_eq h1 hd h3 h e2
  exact Prod.ext a b'
theorem mk_cross {t b t' b' : Int} (hb : b ≠ 0) (hb' : b' ≠ 0) (e : t * b' = t' * b) : mk t b = mk t' b' := by
  obtain ⟨h1, h2, h3⟩ := mk_facts (t := t') hb'
  have := mk_uniq (t := t) (b := b) hb h1 h3 (by
    refine Int.eq_of_mul_eq_mul_right hb' ?_
    rw [Int.mul_right_comm, h2, Int.mul_right_comm t, e, Int.mul_right_comm])
  rw [this]
theorem mk_low {n d : Int} (hd : 0 < d) (h : Int.gcd n d = 1) : mk n d = (n, d) := mk_uniq (by omega) hd h rfl
theorem mk_one (n : Int) : mk n 1 = (n, 1) := mk_low (by decide) (by simp)
theorem mk_bd {k : Nat} {t b : Int} (hk : 0 < k) (ht : Bd k t) : Bd k (mk t b).1 := by
  by_cases hb : b = 0
  · subst hb; rw [mk_zero]
    refine Bd.mono (k := 1) ?_ hk
    unfold sgn Bd
    split
    · decide
    · split <;> decide
  · have hb' : 0 < b ∨ b < 0 := by omega
    have key : ∀ t b : Int, 0 < b → (mk t b).1.natAbs ≤ t.natAbs := by
      intro t b hb
      obtain ⟨G, hG, h1, _, _⟩ := mk_parts (t := t) hb
      generalize (mk t b).1 = m at *
      subst h1
      rw [Int.natAbs_mul]
      exact Nat.le_mul_of_pos_left _ (by omega)
    rcases hb' with h | h
    · exact ht.le (key t b h)
    · rw [mk_flip hb]
      exact ht.neg.le (key (-t) (-b) (by omega))
theorem mk_bd2 {k : Nat} {t b : Int} (ht : Bd k b) : Bd k (mk t b).2 := by
  by_cases hb : b = 0
  · subst hb; rw [mk_zero]; exact ht
  · have key : ∀ t b : Int, 0 < b → (mk t b).2.natAbs ≤ b.natAbs := by
      intro t b hb
      obtain ⟨G, hG, _, h1, _⟩ := mk_parts (t := t) hb
      generalize (mk t b).2 = m at *
      subst h1
      rw [Int.natAbs_mul]
      exact Nat.le_mul_of_pos_left _ (by omega)
    rcases Int.lt_or_lt_of_ne hb with h | h
    · rw [mk_flip hb]
      exact ht.neg.le (key (-t) (-b) (by omega))
    · exact ht.le (key t b h)

theorem number_of1_ok {w : World} {B : Heap} (wd : Wd w B) (t : Int) : Fn w B 38 2 [.int t] [] fun d _ => d = pr (mk t 1) := by
  refine fn_introD (f := 38) _ [Str.ofString "top", Str.ofString "bottom"] [.int 1] [.int 1 216] (fun _ _ => RepL.cons' Rep.int' RepL.nil') wd rfl rfl rfl rfl rfl rfl rfl ?_ rfl (by decide) (by decide) (by decide) rfl rfl rfl rfl ?_
  · intro s vals hB hv
    revert hv; revert vals
    exact all1 fun _ => binds_K (wd.X.keeps hB) rfl rfl rfl rfl rfl
  (intro Φ mu ok hB hn; subst hB; dsimp only [List.zip_cons_cons, List.zip_nil_left, List.cons_append, List.nil_append] at ok ⊢)
  have e1 : ∀ x y : Int, y ≠ 0 → x.fdiv (Int.gcd t y : Int) = x / (Int.gcd t y : Int) := fun x y h => fdiv_pos_eq (gcd_pos' h)
  repeat' (first | walk_at "W" | (with_reducible first | refine (common_divisor_ok (FxOk.wd (by assumption)) _ _ ?_).eqk fun _ => ?_ | refine (sign_of_ok (FxOk.wd (by assumption)) _).eqk fun _ => ?_))
  all_goals simp only [decide_eq_true_eq, decide_eq_false_iff_not] at *
  all_goals (first
    | omega
    | (have := gcd_pos' (t := t) (b := 1) (by decide); omega)
    | exact Bd_gcd (by decide) (by unfold Bd; exact Nat.one_lt_two_pow (by decide))
    | (refine ⟨trivial, ?_⟩; simp only [pr, mk]; (repeat' split) <;> first | rfl | omega | (rw [e1 _ _ (by decide), e1 _ _ (by decide)])))

def modulo (a b : Int × Int) : Int × Int :=
  if (isNan a || (isNan b || (decide (a.2 = 0) || decide (b.1 = 0)))) = true then (0, 0)
  else if decide (b.2 = 0) = true then a
  else minus a (times (mk (cut (divided a b)) 1) b)
theorem cut_bd {k : Nat} {a : Int × Int} (h : Bd k a.1) (hd : 0 < a.2) : Bd k (cut a) := by
  have h1 : ((a.1.natAbs : Int).fdiv a.2).natAbs ≤ a.1.natAbs := by
    rw [fdiv_pos_eq hd]
    have h2 := Int.ediv_nonneg (a := (a.1.natAbs : Int)) (b := a.2) (by omega) (by omega)
    have h3 := Int.ediv_le_self (a := (a.1.natAbs : Int)) a.2 (by omega)
    omega
  unfold cut
  split
  · exact h.le h1
  · exact (h.le h1).neg
theorem divided_fin {x y u v : Int} (hy : y ≠ 0) (hu : u ≠ 0) (hv : v ≠ 0) : divided (x, y) (u, v) = mk (x * v) (y * u) := by
  simp [divided, isNan, hy, hu, hv]
theorem times_bd {k : Nat} {x y u v : Int} (hk : 0 < k) (hx : Bd k x) (hy : Bd k y) (hu : Bd k u) (hv : Bd k v) : Bd (k + k) (times (x, y) (u, v)).1 ∧ Bd (k + k) (times (x, y) (u, v)).2 := by
  have h0 : Bd (k + k) 0 := by unfold Bd; exact Nat.pow_pos (by decide)
  have hs : ∀ i j, Bd (k + k) (sgn i * sgn j) := fun i j => by
    refine Bd.mono (k := 1 + 1) (Bd.mul ?_ ?_) (by omega) <;>
    · unfold sgn Bd
      split
      · decide
      · split <;> decide
  unfold times
  split
  · exact ⟨h0, h0⟩
  · split
    · exact ⟨hs _ _, h0⟩
    · exact ⟨mk_bd (by omega) (hx.mul hu), mk_bd2 (hy.mul hv)⟩
theorem modulo_ok {w : World} {B : Heap} (wd : Wd w B) (x y u v : Int) (hx : Bd 900 x) (hy : Bd 900 y) (hu : Bd 900 u) (hv : Bd 900 v) : Fn w B 94 5 [.tup [.int x, .int y], .tup [.int u, .int v]] [] fun d _ => d = pr (modulo (x, y) (u, v)) := by
  refine fn_intro (f := 94) _ [Str.ofString "a", Str.ofString "b"] wd rfl rfl rfl rfl rfl rfl rfl (by walk_at "B2") rfl (by decide) (by decide) (by decide) rfl rfl rfl rfl ?_
  (intro Φ mu ok hB hn; subst hB; dsimp only [List.zip_cons_cons, List.zip_nil_left] at ok ⊢)
  have m1 : ∀ {i}, Bd 900 i → Bd 4000 i := fun h => h.mono (by decide)
  have key : y ≠ 0 ∧ u ≠ 0 ∧ v ≠ 0 → (divided (x, y) (u, v)).2 ≠ 0 ∧ Bd 9000 (divided (x, y) (u, v)).2 ∧ Bd 4000 (mk (cut (divided (x, y) (u, v))) 1).1 ∧ Bd 4000 (mk (cut (divided (x, y) (u, v))) 1).2 ∧
      Bd 4000 (times (mk (cut (divided (x, y) (u, v))) 1) (u, v)).1 ∧ Bd 4000 (times (mk (cut (divided (x, y) (u, v))) 1) (u, v)).2 := by
    intro f
    have e := divided_fin (x := x) f.1 f.2.1 f.2.2
    have p := (mk_facts (t := x * v) (b := y * u) (Int.mul_ne_zero f.1 f.2.1)).1
    have b1 := mk_bd (b := y * u) (by decide) (hx.mul hv)
    have b2 := mk_bd2 (t := x * v) (hy.mul hu)
    rw [← e] at p b1 b2
    have b3 := cut_bd b1 p
    have b4 : Bd 1800 (mk (cut (divided (x, y) (u, v))) 1).1 := mk_bd (by decide) b3
    have b5 : Bd 1800 (mk (cut (divided (x, y) (u, v))) 1).2 := by rw [mk_one]; unfold Bd; exact Nat.one_lt_two_pow (by decide)
    have b6 := times_bd (by decide) b4 b5 (hu.mono (m := 1800) (by decide)) (hv.mono (m := 1800) (by decide))
    exact ⟨by omega, b2.mono (by decide), b4.mono (by decide), b5.mono (by decide), b6.1.mono (by decide), b6.2.mono (by decide)⟩
  repeat' (first | walk_at "W" | (with_reducible first | refine (number_of1_ok (FxOk.wd (by assumption)) _).eqk fun _ => ?_ | refine (cut_whole_ok (FxOk.wd (by assumption)) _ _ ?_ ?_).eqk fun _ => ?_ | refine (divided_ok (FxOk.wd (by assumption)) _ _ _ _ ?_ ?_ ?_ ?_).eqk fun _ => ?_ | refine (times_ok (FxOk.wd (by assumption)) _ _ _ _ ?_ ?_ ?_ ?_).eqk fun _ => ?_ | refine (minus_ok (FxOk.wd (by assumption)) _ _ _ _ ?_ ?_ ?_ ?_).eqk fun _ => ?_ | refine (is_nan_ok (FxOk.wd (by assumption)) _ _).eqk fun _ => ?_ | refine (number_of_ok (FxOk.wd (by assumption)) _ _ ?_).eqk fun _ => ?_))
  all_goals (first
    | (refine ⟨rfl, ?_⟩; simp only [modulo]; (repeat' split) <;> first | rfl | (exfalso; simp_all; done))
    | exact m1 (by assumption)
    | (obtain ⟨k1, k2, k3, k4, k5, k6⟩ := key (by refine ⟨?_, ?_, ?_⟩ <;> (intro hz; subst hz; simp_all; done)); first | assumption))

def order (a b : Int × Int) : Int :=
  if (decide (a.2 = 0) || decide (b.2 = 0)) = true then sgn ((if decide (a.2 = 0) = true then a.1 else 0) - (if decide (b.2 = 0) = true then b.1 else 0))
  else sgn (a.1 * b.2 - b.1 * a.2)
theorem order_of_ok {w : World} {B : Heap} (wd : Wd w B) (x y u v : Int) (hx : Bd 4000 x) (hy : Bd 4000 y) (hu : Bd 4000 u) (hv : Bd 4000 v) : Fn w B 101 2 [.tup [.int x, .int y], .tup [.int u, .int v]] [] fun d _ => d = .int (order (x, y) (u, v)) := by
  refine fn_intro (f := 101) _ [Str.ofString "a", Str.ofString "b"] wd rfl rfl rfl rfl rfl rfl rfl (by walk_at "B2") rfl (by decide) (by decide) (by decide) rfl rfl rfl rfl ?_
  (intro Φ mu ok hB hn; subst hB; dsimp only [List.zip_cons_cons, List.zip_nil_left] at ok ⊢)
  repeat' (first | walk_at "W" | (with_reducible first | refine (sign_of_ok (FxOk.wd (by assumption)) _).eqk fun _ => ?_))
  all_goals (first
    | exact mulOk_of (by assumption) (by assumption) (by decide)
    | (refine ⟨rfl, ?_⟩; clear ok hn wd; simp only [order]; (repeat' split) <;> first | rfl | (exfalso; simp_all; done) | (simp_all; done)))

def cmpN (op : Str) (a b : Int × Int) : Bool :=
  if (isNan a || isNan b) = true then op == Str.ofString "!="
  else if (op == Str.ofString "=") = true then decide (order a b = 0)
  else if (op == Str.ofString "!=") = true then !decide (order a b = 0)
  else if (op == Str.ofString "<") = true then decide (order a b < 0)
  else if (op == Str.ofString "<=") = true then decide (order a b ≤ 0)
  else if (op == Str.ofString ">") = true then decide (0 < order a b)
  else decide (0 ≤ order a b)
theorem compared_numbers_ok {w : World} {B : Heap} (wd : Wd w B) (op : Str) (x y u v : Int) (hx : Bd 4000 x) (hy : Bd 4000 y) (hu : Bd 4000 u) (hv : Bd 4000 v) : Fn w B 108 3 [.str op, .tup [.int x, .int y], .tup [.int u, .int v]] [] fun d _ => d = .bool (cmpN op (x, y) (u, v)) := by
  refine fn_intro (f := 108) _ [Str.ofString "op", Str.ofString "a", Str.ofString "b"] wd rfl rfl rfl rfl rfl rfl rfl (by walk_at "B3") rfl (by decide) (by decide) (by decide) rfl rfl rfl rfl ?_
  (intro Φ mu ok hB hn; subst hB; dsimp only [List.zip_cons_cons, List.zip_nil_left] at ok ⊢)
  repeat' (first | walk_at "W" | (with_reducible first | refine (order_of_ok (FxOk.wd (by assumption)) _ _ _ _ ?_ ?_ ?_ ?_).eqk fun _ => ?_ | refine (is_nan_ok (FxOk.wd (by assumption)) _ _).eqk fun _ => ?_))
  all_goals (first
    | assumption
    | (refine ⟨rfl, ?_⟩; clear ok hn wd; simp only [cmpN, *, if_true, if_false, Bool.false_eq_true]))

def flo (a : Int × Int) : Int × Int := if decide (a.2 = 0) = true then a else (a.1.fdiv a.2, 1)
theorem floor_of_ok {w : World} {B : Heap} (wd : Wd w B) (x y : Int) (hy : Bd 9000 y) : Fn w B 115 1 [.tup [.int x, .int y]] [] fun d _ => d = pr (flo (x, y)) := by
  refine fn_intro (f := 115) _ [Str.ofString "a"] wd rfl rfl rfl rfl rfl rfl rfl (by walk_at "B1") rfl (by decide) (by decide) (by decide) rfl rfl rfl rfl ?_
  (intro Φ mu ok hB hn; subst hB; dsimp only [List.zip_cons_cons, List.zip_nil_left] at ok ⊢)
  repeat' (first | walk_at "W")
  all_goals (first
    | assumption
    | (simp only [decide_eq_false_iff_not] at *; assumption)
    | (refine ⟨rfl, ?_⟩; clear ok hn wd; simp only [flo, *, if_true, if_false, Bool.false_eq_true]))
def cei (a : Int × Int) : Int × Int := neg (flo (neg a))
theorem ceiling_of_ok {w : World} {B : Heap} (wd : Wd w B) (x y : Int) (hy : Bd 9000 y) : Fn w B 122 2 [.tup [.int x, .int y]] [] fun d _ => d = pr (cei (x, y)) := by
  refine fn_intro (f := 122) _ [Str.ofString "a"] wd rfl rfl rfl rfl rfl rfl rfl (by walk_at "B1") rfl (by decide) (by decide) (by decide) rfl rfl rfl rfl ?_
  (intro Φ mu ok hB hn; subst hB; dsimp only [List.zip_cons_cons, List.zip_nil_left] at ok ⊢)
  repeat' (first | walk_at "W" | (with_reducible first | refine (floor_of_ok (FxOk.wd (by assumption)) _ _ ?_).eqk fun _ => ?_ | refine (negated_ok (FxOk.wd (by assumption)) _ _).eqk fun _ => ?_))
  all_goals (first | assumption | exact ⟨rfl, rfl⟩)
def rou (a : Int × Int) : Int × Int := flo (plus a (1, 2))
theorem plus_bd {k : Nat} {x y u v : Int} (hk : 0 < k) (hx : Bd k x) (hy : Bd k y) (hu : Bd k u) (hv : Bd k v) : Bd (k + k + 1) (plus (x, y) (u, v)).1 ∧ Bd (k + k + 1) (plus (x, y) (u, v)).2 := by
  have h0 : Bd (k + k + 1) 0 := by unfold Bd; exact Nat.pow_pos (by decide)
  have up : ∀ {i}, Bd k i → Bd (k + k + 1) i := fun h => h.mono (by omega)
  unfold plus
  split
  · exact ⟨h0, h0⟩
  · split
    · split
      · exact ⟨up hx, up hy⟩
      · exact ⟨h0, h0⟩
    · split
      · exact ⟨up hx, up hy⟩
      · split
        · exact ⟨up hu, up hv⟩
        · exact ⟨mk_bd (by omega) ((hx.mul hv).add (hu.mul hy)), mk_bd2 ((hy.mul hv).mono (by omega))⟩
theorem rounded_ok {w : World} {B : Heap} (wd : Wd w B) (x y : Int) (hx : Bd 4000 x) (hy : Bd 4000 y) : Fn w B 129 4 [.tup [.int x, .int y]] [] fun d _ => d = pr (rou (x, y)) := by
  refine fn_intro (f := 129) _ [Str.ofString "a"] wd rfl rfl rfl rfl rfl rfl rfl (by walk_at "B1") rfl (by decide) (by decide) (by decide) rfl rfl rfl rfl ?_
  (intro Φ mu ok hB hn; subst hB; dsimp only [List.zip_cons_cons, List.zip_nil_left] at ok ⊢)
  have b1 : Bd 4000 1 := by unfold Bd; exact Nat.one_lt_two_pow (by decide)
  have b2 : Bd 4000 2 := Bd.mono (k := 2) (by unfold Bd; decide) (by decide)
  repeat' (first | walk_at "W" | (with_reducible first | refine (floor_of_ok (FxOk.wd (by assumption)) _ _ ?_).eqk fun _ => ?_ | refine (plus_ok (FxOk.wd (by assumption)) _ _ _ _ ?_ ?_ ?_ ?_).eqk fun _ => ?_))
  all_goals (first | assumption | exact ⟨rfl, rfl⟩ | exact (plus_bd (by decide) hx hy b1 b2).2.mono (by decide))

abbrev digs : List Nat := [48, 49, 50, 51, 52, 53, 54, 55, 56, 57]
abbrev spcs : List Nat := [32, 9, 10, 13]
theorem lit_digits : Str.ofString "0123456789" = S digs := by decide +kernel
theorem lit_spaces : Str.ofString " \t\n\r" = S spcs := by decide +kernel
def isDig (c : Nat) : Bool := decide (c ∈ digs)
def isSp (c : Nat) : Bool := decide (c ∈ spcs)
theorem EX_DIGITS' {w : World} {Φ : Fx} {names : List (Str × NameKind)} {mu : Addr → Prop} {ρ : List (Str × V)} {g : List (Addr × List V)} {pos : Pos} {Q : V → List (Addr × List V) → Prop} (ok : FxOk w names Φ) (h : Q (.str (S digs)) g) (hl : names.lookup (Str.ofString "DIGITS") = some .globalImplicit) : EX w Φ (.Name (Str.ofString "DIGITS") pos) ⟨mu, ρ, g⟩ Q :=
  EX_DIGITS ok (by rw [lit_digits]; exact h) hl
theorem EX_SPACES' {w : World} {Φ : Fx} {names : List (Str × NameKind)} {mu : Addr → Prop} {ρ : List (Str × V)} {g : List (Addr × List V)} {pos : Pos} {Q : V → List (Addr × List V) → Prop} (ok : FxOk w names Φ) (h : Q (.str (S spcs)) g) (hl : names.lookup (Str.ofString "SPACES") = some .globalImplicit) : EX w Φ (.Name (Str.ofString "SPACES") pos) ⟨mu, ρ, g⟩ Q :=
  EX_SPACES ok (by rw [lit_spaces]; exact h) hl
local macro_rules | `(tactic| walk_at "CALL") => `(tactic| ((with_reducible refine EX_DIGITS' (by assumption) ?h1 ?h2); (case h2 => rfl)))
local macro_rules | `(tactic| walk_at "CALL") => `(tactic| ((with_reducible refine EX_SPACES' (by assumption) ?h1 ?h2); (case h2 => rfl)))

theorem digits_end_ok {w : World} {B : Heap} (wd : Wd w B) (l : List Nat) (a : Nat) (ha : a ≤ l.length) (hl : l.length ≤ 100000) : Fn w B 136 1 [.str (S l), .int (a : Int)] [] fun d _ => d = .int ((a + ((l.drop a).takeWhile isDig).length : Nat) : Int) := by
  refine fn_intro (f := 136) _ [Str.ofString "text", Str.ofString "at"] wd rfl rfl rfl rfl rfl rfl rfl (by walk_at "B2") rfl (by decide) (by decide) (by decide) rfl rfl rfl rfl ?_
  (intro Φ mu ok hB hn; subst hB; dsimp only [List.zip_cons_cons, List.zip_nil_left] at ok ⊢)
  repeat' (first | walk_at "W")
  refine SX_while (fun n ρ g => ∃ k : Nat, ρ = [(Str.ofString "text", .str (S l)), (Str.ofString "at", .int (k : Int))] ∧ g = [] ∧ k ≤ l.length ∧ k + ((l.drop k).takeWhile isDig).length = a + ((l.drop a).takeWhile isDig).length ∧ n = l.length - k) (l.length - a)
    [(Str.ofString "text", .str (S l)), (Str.ofString "at", .int (a : Int))] ⟨rfl, rfl, trivial⟩ ⟨a, rfl, rfl, ha, rfl, rfl⟩ ?_
  rintro n mu ρ g ⟨k, rfl, rfl, hk, he, rfl⟩
  have hd : ∀ (h : k < l.length), l.drop k = l.getD k 0 :: l.drop (k + 1) := fun h => by
    rw [List.drop_eq_getElem_cons h, List.getD_eq_getElem?_getD, List.getElem?_eq_getElem h]; rfl
  repeat' (first | walk_at "W")
  all_goals (try walk_at "O")
  · rename_i hc
    simp only [Bool.and_eq_true, decide_eq_true_eq, Int.toNat_natCast] at hc
    refine ⟨l.length - (k + 1), [(Str.ofString "text", .str (S l)), (Str.ofString "at", .int ((k + 1 : Nat) : Int))], by omega, ⟨rfl, rfl, trivial⟩, k + 1, rfl, rfl, by omega, ?_, rfl⟩
    rw [← he, hd (by omega), List.takeWhile_cons, if_pos (by simpa [isDig] using hc.2)]
    simp; omega
  · rename_i hc
    refine ⟨rfl, ?_⟩
    rw [← he]
    congr 2
    simp only [Bool.and_eq_false_iff, decide_eq_false_iff_not, Int.toNat_natCast] at hc
    by_cases h : k < l.length
    · rw [hd h, List.takeWhile_cons, if_neg (by rcases hc with hc | hc; · omega
                                                simpa [isDig] using hc)]
      simp
    · rw [List.drop_eq_nil_of_le (by omega)]; simp

/-- blanks at the ends -/
def strip (l : List Nat) : List Nat := ((l.dropWhile isSp).reverse.dropWhile isSp).reverse
def rstrip (l : List Nat) : List Nat := (l.reverse.dropWhile isSp).reverse
theorem rstrip_snoc {l : List Nat} {c : Nat} (h : isSp c = true) : rstrip (l ++ [c]) = rstrip l := by
  simp [rstrip, h]
theorem rstrip_stop {l : List Nat} {c : Nat} (h : isSp c = false) : rstrip (l ++ [c]) = l ++ [c] := by
  simp [rstrip, h]

theorem trimmed_ok {w : World} {B : Heap} (wd : Wd w B) (l : List Nat) (hl : l.length ≤ 100000) : Fn w B 143 1 [.str (S l)] [] fun d _ => d = .str (S (strip l)) := by
  refine fn_intro (f := 143) _ [Str.ofString "text"] wd rfl rfl rfl rfl rfl rfl rfl (by walk_at "B1") rfl (by decide) (by decide) (by decide) rfl rfl rfl rfl ?_
  (intro Φ mu ok hB hn; subst hB; dsimp only [List.zip_cons_cons, List.zip_nil_left] at ok ⊢)
  repeat' (first | walk_at "W")
  all_goals (try walk_at "O")
  refine SX_while (fun n ρ g => ∃ k : Nat, ρ = [(Str.ofString "text", .str (S l)), (Str.ofString "begin", .int (k : Int)), (Str.ofString "end", .int (l.length : Int))] ∧ g = [] ∧ k ≤ l.length ∧ (l.drop k).dropWhile isSp = l.dropWhile isSp ∧ n = l.length - k) l.length
    [(Str.ofString "text", .str (S l)), (Str.ofString "begin", .int ((0 : Nat) : Int)), (Str.ofString "end", .int (l.length : Int))] ⟨rfl, rfl, rfl, trivial⟩ ⟨0, rfl, rfl, by omega, rfl, rfl⟩ ?_
  rintro n mu ρ g ⟨k, rfl, rfl, hk, he, rfl⟩
  have hd : ∀ (h : k < l.length), l.drop k = l.getD k 0 :: l.drop (k + 1) := fun h => by
    rw [List.drop_eq_getElem_cons h, List.getD_eq_getElem?_getD, List.getElem?_eq_getElem h]; rfl
  repeat' (first | walk_at "W")
  all_goals (try walk_at "O")
  · rename_i hc
    simp only [Bool.and_eq_true, decide_eq_true_eq, Int.toNat_natCast] at hc
    refine ⟨l.length - (k + 1), [(Str.ofString "text", .str (S l)), (Str.ofString "begin", .int ((k + 1 : Nat) : Int)), (Str.ofString "end", .int (l.length : Int))], by omega, ⟨rfl, rfl, rfl, trivial⟩, k + 1, rfl, rfl, by omega, ?_, rfl⟩
    rw [← he, hd (by omega), List.dropWhile_cons, if_pos (by simpa [isSp] using hc.2)]
  · rename_i hc
    have hb : l.dropWhile isSp = l.drop k := by
      rw [← he]
      simp only [Bool.and_eq_false_iff, decide_eq_false_iff_not, Int.toNat_natCast] at hc
      by_cases h : k < l.length
      · rw [hd h, List.dropWhile_cons, if_neg (by rcases hc with hc | hc; · omega
                                                  simpa [isSp] using hc)]
      · rw [List.drop_eq_nil_of_le (by omega)]; simp
    clear hc
    refine SX_while (fun n ρ g => ∃ m : Nat, ρ = [(Str.ofString "text", .str (S l)), (Str.ofString "begin", .int (k : Int)), (Str.ofString "end", .int (m : Int))] ∧ g = [] ∧ k ≤ m ∧ m ≤ l.length ∧ rstrip ((l.take m).drop k) = rstrip (l.drop k) ∧ n = m) l.length
      [(Str.ofString "text", .str (S l)), (Str.ofString "begin", .int (k : Int)), (Str.ofString "end", .int (l.length : Int))] ⟨rfl, rfl, rfl, trivial⟩ ⟨l.length, rfl, rfl, hk, by omega, by rw [List.take_length], rfl⟩ ?_
    rintro m mu ρ g ⟨_, rfl, rfl, hkm, hm, he2, rfl⟩
    have hs : ∀ h : k < m, (l.take m).drop k = (l.take (m - 1)).drop k ++ [l.getD (m - 1) 0] := fun h => by
      obtain ⟨q, rfl⟩ : ∃ q, m = q + 1 := ⟨m - 1, by omega⟩
      have h1 : l.take (q + 1) = l.take q ++ [l.getD q 0] := by
        rw [List.take_add_one, List.getD_eq_getElem?_getD, List.getElem?_eq_getElem (by omega)]; rfl
      rw [h1, List.drop_append_of_le_length (by rw [List.length_take]; omega)]
      simp
    have hz : ∀ h : 0 < m, ((m : Int) - 1).toNat = m - 1 := fun h => by omega
    repeat' (first | walk_at "W")
    all_goals (try walk_at "O")
    · rename_i hc
      simp only [Bool.and_eq_true, decide_eq_true_eq] at hc
      have hlt : k < m := by omega
      refine ⟨m - 1, [(Str.ofString "text", .str (S l)), (Str.ofString "begin", .int (k : Int)), (Str.ofString "end", .int ((m - 1 : Nat) : Int))], by omega, ⟨rfl, rfl, ?_, trivial⟩, m - 1, rfl, rfl, by omega, by omega, ?_, rfl⟩
      · rw [show ((m - 1 : Nat) : Int) = (m : Int) - 1 by omega]; rfl
      · rw [← he2, hs hlt, rstrip_snoc]
        rw [hz (by omega)] at hc
        simpa [isSp] using hc.2
    · rename_i hc
      refine ⟨l, k, m, rfl, rfl, rfl, by omega, _, rfl, rfl, ?_⟩
      show V.str (S ((l.take m).drop k)) = V.str (S (rstrip (l.dropWhile isSp)))
      rw [hb, ← he2]
      congr 2
      simp only [Bool.and_eq_false_iff, decide_eq_false_iff_not] at hc
      by_cases h : k < m
      · rw [hs h, rstrip_stop]
        rw [hz (by omega)] at hc
        rcases hc with hc | hc
        · omega
        · simpa [isSp] using hc
      · have : k = m := by omega
        subst this
        rw [List.drop_eq_nil_of_le (by rw [List.length_take]; omega)]; rfl

theorem find_split {a b : List Nat} {c : Nat} (h : c ∉ a) : Txt.find (S (a ++ c :: b)) (S [c]) = a.length ∧ Txt.contains (S (a ++ c :: b)) (S [c]) = true := by
  have hc : Txt.contains (S (a ++ c :: b)) (S [c]) = true := by rw [S_contains]; simp
  refine ⟨?_, hc⟩
  have at_iff : ∀ i, StrLaws.At (S (a ++ c :: b)) (S [c]) (S (a ++ c :: b)).length i ↔ (a ++ c :: b)[i]? = some c := fun i => by
    show StrLaws.At _ _ _ _ ↔ (S (a ++ c :: b)).cps.toList[i]? = some c
    exact StrLaws.subAt_one (S (a ++ c :: b)) c i
  rcases StrLaws.occ_head (S (a ++ c :: b)) (S [c]) 1 (Nat.le_refl 1) with ⟨e, hn⟩ | ⟨i, r, e, hi, hn⟩
  · exfalso
    exact hn a.length ((at_iff _).mpr (by simp))
  · unfold Txt.find
    rw [e]
    show (i : Int) = a.length
    have h1 := (at_iff i).mp hi
    have h2 : ¬ a.length < i := fun hlt => hn _ hlt ((at_iff _).mpr (by simp))
    have h3 : ¬ i < a.length := fun hlt => by
      rw [List.getElem?_append_left hlt] at h1
      exact h (List.mem_of_getElem? h1)
    omega

section rules
variable {w : World} {Φ : Fx} {names : List (Str × NameKind)} {mu : Addr → Prop} {ρ : List (Str × V)} {g : List (Addr × List V)} {pos apos p : Pos}
theorem EX_index {o a : PySem.Expr} {Q : V → List (Addr × List V) → Prop}
    (h : EX w Φ o ⟨mu, ρ, g⟩ fun d g1 => ∃ x, d = .str x ∧ EX w Φ a ⟨mu, ρ, g1⟩ fun d2 g2 => ∃ y, d2 = .str y ∧ Txt.contains x y = true ∧ Q (.int (Txt.find x y)) g2)
    (hb : attributeBase o (Str.ofString "index") Φ.env (eval o Φ.env) = eval o Φ.env)
    (hs : backTo pos (starEach [a] Φ.env) = [(false, eval a Φ.env)]) (hline : (apos.endLine == pos.line) = true) :
    EX w Φ (.Call (.Attribute o (Str.ofString "index") apos) [a] [] pos) ⟨mu, ρ, g⟩ Q := by
  intro s hs0
  refine wpAny_Call_method_lateS hb ?_ hline (wpAny_mono (h s hs0) (fun v s1 => ?_) fun _ _ x => x)
  · rw [hs]; rfl
  rintro ⟨d, g1, rd, hs1, st1, x, rfl, h1⟩
  rw [hs]
  obtain ⟨t, rfl⟩ := rd.strE
  refine SB.indexFound (wpAny_mono (h1 s1 hs1) (fun v2 s2 => ?_) fun _ _ x => x)
  rintro ⟨d2, g2, rd2, hs2, st2, y, rfl, hc, hq⟩
  obtain ⟨u, rfl⟩ := rd2.strE
  exact ⟨y, u, rfl, hc, _, g2, Rep.int', hs2.gr .tok, st1.trans (st2.trans (Gr.tok.stp _)), hq⟩
end rules

/-- the number that signs tell -/
theorem dig_index {c : Nat} (h : isDig c = true) : Txt.contains (S digs) (S [c]) = true ∧ Txt.find (S digs) (S [c]) = ((c - 48 : Nat) : Int) ∧ 48 ≤ c ∧ c ≤ 57 := by
  unfold isDig at h
  rw [decide_eq_true_eq] at h
  simp only [digs, List.mem_cons, List.not_mem_nil, or_false] at h
  rcases h with rfl | rfl | rfl | rfl | rfl | rfl | rfl | rfl | rfl | rfl <;> decide +kernel

def val (l : List Nat) : Nat := NumText.digitsVal l
theorem val_snoc (l : List Nat) (c : Nat) : val (l ++ [c]) = val l * 10 + (c - 48) := by
  unfold val NumText.digitsVal; simp
local macro_rules | `(tactic| walk_at "CALL") => `(tactic| ((with_reducible refine EX_index ?h1 ?h2 ?h3 ?h4); (case h2 => rfl); (case h3 => rfl); (case h4 => rfl)))

theorem whole_of_ok {w : World} {B : Heap} (wd : Wd w B) (l : List Nat) (hd : ∀ c ∈ l, isDig c = true) (hl : l.length ≤ 2000) : Fn w B 150 1 [.str (S l)] [] fun d _ => d = .int (val l : Int) := by
  refine fn_intro (f := 150) _ [Str.ofString "digits"] wd rfl rfl rfl rfl rfl rfl rfl (by walk_at "B1") rfl (by decide) (by decide) (by decide) rfl rfl rfl rfl ?_
  (intro Φ mu ok hB hn; subst hB; dsimp only [List.zip_cons_cons, List.zip_nil_left] at ok ⊢)
  repeat' (first | walk_at "W")
  refine SX_for (fun r ρ g => ∃ a b : List Nat, a ++ b = l ∧ r = b.map (fun c => .str (S [c])) ∧ ρ = [(Str.ofString "number", .int (val a : Int))] ∧ g = []) [(Str.ofString "number", .int ((0 : Nat) : Int))] ok ⟨rfl, trivial⟩ ?_ ?_ ?_ (.inl ⟨_, _, rfl⟩)
  · repeat' (first | walk_at "W")
    exact ⟨_, ItOf.str, [], l, rfl, by simp [signs], rfl, rfl⟩
  · rintro Φ' ok' hB' hn' d r mu ρ g ⟨a, b, hab, hr, rfl, rfl⟩
    cases b with
    | nil => simp at hr
    | cons c b =>
      simp only [List.map_cons, List.cons.injEq] at hr
      obtain ⟨rfl, rfl⟩ := hr
      have hc : isDig c = true := hd c (by rw [← hab]; simp)
      obtain ⟨h1, h2, h3, h4⟩ := dig_index hc
      refine TG_name ok' ?_ rfl
      repeat' (first | walk_at "W")
      · exact IntMulOk.of_right (intBits_le_64 (by decide) (by decide))
      · refine ⟨h1, ?_⟩
        rw [h2]
        repeat' (first | walk_at "W")
        refine ⟨[(Str.ofString "number", .int (val (a ++ [c]) : Int))], ⟨?_, trivial⟩, a ++ [c], b, by simp [hab], rfl, rfl, rfl⟩
        rw [val_snoc]
        rfl
  · rintro ρ g ⟨a, b, hab, hr, rfl, rfl⟩ mu'
    have : b = [] := by simpa using hr.symm
    subst this
    rw [List.append_nil] at hab
    subst hab
    repeat' (first | walk_at "W")

theorem lit_minus : Str.ofString "-" = S [45] := by decide +kernel
theorem lit_dot : Str.ofString "." = S [46] := by decide +kernel

theorem strip_len (l : List Nat) : (strip l).length ≤ l.length := by
  unfold strip
  rw [List.length_reverse]
  have h : ∀ l : List Nat, (l.dropWhile isSp).length ≤ l.length := fun l => (List.dropWhile_sublist _).length_le
  exact Nat.le_trans (h _) (by rw [List.length_reverse]; exact h _)
/-- where the digits from a on end -/
def digEnd (l : List Nat) (a : Nat) : Nat := a + ((l.drop a).takeWhile isDig).length
theorem digEnd_facts {l : List Nat} {a : Nat} (ha : a ≤ l.length) : a ≤ digEnd l a ∧ digEnd l a ≤ l.length ∧ ∀ c ∈ (l.take (digEnd l a)).drop a, isDig c = true := by
  have h1 : ((l.drop a).takeWhile isDig).length ≤ (l.drop a).length := (List.takeWhile_sublist _).length_le
  rw [List.length_drop] at h1
  refine ⟨by unfold digEnd; omega, by unfold digEnd; omega, ?_⟩
  have h2 : (l.take (digEnd l a)).drop a = (l.drop a).takeWhile isDig := by
    unfold digEnd
    rw [List.drop_take, Nat.add_sub_cancel_left]
    exact (List.prefix_iff_eq_take.mp (List.takeWhile_prefix isDig)).symm
  rw [h2]
  intro c hc
  have := List.all_takeWhile (p := isDig) (l := l.drop a)
  exact List.all_eq_true.mp this c hc
theorem trimmed_k {w : World} {B : Heap} {l : List Nat} {Q : V → List (Addr × List V) → Prop} (wd : Wd w B) (hl : l.length ≤ 100000) (k : ∀ t, t = strip l → t.length ≤ l.length → ∀ g, Q (.str (S t)) g) : Fn w B 143 1 [.str (S l)] [] Q :=
  (trimmed_ok wd l hl).eqk fun g => k _ rfl (strip_len l) g
theorem digits_end_k {w : World} {B : Heap} {l : List Nat} {a : Nat} {Q : V → List (Addr × List V) → Prop} (wd : Wd w B) (ha : a ≤ l.length) (hl : l.length ≤ 100000) (k : ∀ e : Nat, e = digEnd l a → a ≤ e → e ≤ l.length → (∀ c ∈ (l.take e).drop a, isDig c = true) → ∀ g, Q (.int (e : Int)) g) : Fn w B 136 1 [.str (S l), .int (a : Int)] [] Q :=
  (digits_end_ok wd l a ha hl).eqk fun g => k _ rfl (digEnd_facts ha).1 (digEnd_facts ha).2.1 (digEnd_facts ha).2.2 g
theorem digits_end_k1 {w : World} {B : Heap} {l : List Nat} {a : Nat} {Q : V → List (Addr × List V) → Prop} (wd : Wd w B) (ha : a + 1 ≤ l.length) (hl : l.length ≤ 100000) (k : ∀ e : Nat, e = digEnd l (a + 1) → a + 1 ≤ e → e ≤ l.length → (∀ c ∈ (l.take e).drop (a + 1), isDig c = true) → ∀ g, Q (.int (e : Int)) g) : Fn w B 136 1 [.str (S l), .int ((a : Int) + 1)] [] Q :=
  digits_end_k wd ha hl k
local macro_rules | `(tactic| walk_at "CALL") => `(tactic| first | with_reducible refine trimmed_k (FxOk.wd (by assumption)) ?_ ?_ | with_reducible refine digits_end_k (FxOk.wd (by assumption)) ?_ ?_ ?_ | with_reducible refine digits_end_k1 (FxOk.wd (by assumption)) ?_ ?_ ?_)
def readEnd (b : Nat) (l : List Nat) (e : Nat) (ds : List Nat) (k : Nat) : Int × Int :=
  if (decide ((e : Int) < (l.length : Int)) || S ds == S []) = true then (0, 0) else if decide ((b : Int) = 1) = true then neg (mk (val ds) (10 ^ k)) else mk (val ds) (10 ^ k)
def readAt (l : List Nat) (b e : Nat) : Int × Int :=
  if (S ((l.take (e + 1)).drop e) == Str.ofString ".") = true then
    readEnd b l (digEnd l (e + 1)) ((l.take e).drop b ++ (l.take (digEnd l (e + 1))).drop (e + 1)) ((l.take (digEnd l (e + 1))).drop (e + 1)).length
  else readEnd b l e ((l.take e).drop b ++ []) ([] : List Nat).length
/-- the number that a text tells -/
def readB (l : List Nat) (b : Nat) : Int × Int := readAt l b (digEnd l b)
def readN (l0 : List Nat) : Int × Int := readB (strip l0) (if (S ((strip l0).take 1) == Str.ofString "-") = true then 1 else 0)
theorem Bd_pow10 (k : Nat) : Bd (4 * k + 1) ((10 : Int) ^ k) := by
  unfold Bd
  rw [Int.natAbs_pow]
  show 10 ^ k < _
  have h1 : (10 : Nat) ^ k ≤ 16 ^ k := Nat.pow_le_pow_left (by decide) k
  have h2 : (16 : Nat) ^ k = 2 ^ (4 * k) := by rw [Nat.pow_mul]
  have h3 : 2 ^ (4 * k) < 2 ^ (4 * k + 1) := Nat.pow_lt_pow_right (by decide) (by omega)
  omega
theorem S_eq_str {x y : List Nat} {z : Str} (hz : z = S y) (h : (S x == z) = true) : x = y := by
  rw [hz, S_inj] at h; simpa using h

theorem readN_eq {l t : List Nat} {b e : Nat} (ht : t = strip l) (hb : b = if (S (t.take 1) == Str.ofString "-") = true then 1 else 0) (he : e = digEnd t b) : readN l = readAt t b e := by
  subst ht hb he; rfl
theorem readAt_dot {t : List Nat} {b e f : Nat} (h : (S ((t.take (e + 1)).drop e) == Str.ofString ".") = true) (hf : f = digEnd t (e + 1)) : readAt t b e = readEnd b t f ((t.take e).drop b ++ (t.take f).drop (e + 1)) ((t.take f).drop (e + 1)).length := by
  subst hf; unfold readAt; rw [if_pos h]
theorem readAt_no {t : List Nat} {b e : Nat} (h : (S ((t.take (e + 1)).drop e) == Str.ofString ".") = false) : readAt t b e = readEnd b t e ((t.take e).drop b ++ []) ([] : List Nat).length := by
  unfold readAt; rw [if_neg (by rw [h]; decide)]
theorem app_dig {a b : List Nat} (ha : ∀ c ∈ a, isDig c = true) (hb : ∀ c ∈ b, isDig c = true) : ∀ c ∈ a ++ b, isDig c = true := fun c hc => (List.mem_append.mp hc).elim (ha c) (hb c)
theorem ne_tt {b : Bool} (h : b = false) : ¬ b = true := by rw [h]; decide
theorem readEnd_bad {b : Nat} {l : List Nat} {e : Nat} {ds : List Nat} {k : Nat} (h : (decide ((e : Int) < (l.length : Int)) || S ds == S []) = true) : readEnd b l e ds k = (0, 0) := by
  unfold readEnd; rw [if_pos h]
theorem readEnd_neg {b : Nat} {l : List Nat} {e : Nat} {ds : List Nat} {k : Nat} (h : (decide ((e : Int) < (l.length : Int)) || S ds == S []) = false) (h' : decide ((b : Int) = 1) = true) : readEnd b l e ds k = neg (mk (val ds) (10 ^ k)) := by
  unfold readEnd; rw [if_neg (ne_tt h), if_pos h']
theorem readEnd_pos {b : Nat} {l : List Nat} {e : Nat} {ds : List Nat} {k : Nat} (h : (decide ((e : Int) < (l.length : Int)) || S ds == S []) = false) (h' : decide ((b : Int) = 1) = false) : readEnd b l e ds k = mk (val ds) (10 ^ k) := by
  unfold readEnd; rw [if_neg (ne_tt h), if_neg (ne_tt h')]
theorem beg_le (t : List Nat) : (if (S (t.take 1) == Str.ofString "-") = true then 1 else 0) ≤ t.length := by
  split
  · rename_i h
    have := S_eq_str lit_minus h
    have := congrArg List.length this
    simp at this
    omega
  · omega
theorem dot_lt {t : List Nat} {e : Nat} (h : (S ((t.take (e + 1)).drop e) == Str.ofString ".") = true) : e + 1 ≤ t.length := by
  have := S_eq_str lit_dot h
  have := congrArg List.length this
  simp at this
  omega
set_option maxHeartbeats 4000000 in
theorem read_number_ok {w : World} {B : Heap} (wd : Wd w B) (l : List Nat) (hl : l.length ≤ 1000) : Fn w B 157 3 [.str (S l)] [] fun d _ => d = pr (readN l) := by
  refine fn_intro (f := 157) _ [Str.ofString "text"] wd rfl rfl rfl rfl rfl rfl rfl (by walk_at "B1") rfl (by decide) (by decide) (by decide) rfl rfl rfl rfl ?_
  (intro Φ mu ok hB hn; subst hB; dsimp only [List.zip_cons_cons, List.zip_nil_left] at ok ⊢)
  repeat' (first | walk_at "W" | (with_reducible first | refine (whole_of_ok (FxOk.wd (by assumption)) _ ?_ ?_).eqk fun _ => ?_ | refine (trimmed_ok (FxOk.wd (by assumption)) _ ?_).eqk fun _ => ?_ | refine (digits_end_ok (FxOk.wd (by assumption)) _ _ ?_ ?_).eqk fun _ => ?_ | refine (number_of1_ok (FxOk.wd (by assumption)) _).eqk fun _ => ?_ | refine (negated_ok (FxOk.wd (by assumption)) _ _).eqk fun _ => ?_ | refine (number_of_ok (FxOk.wd (by assumption)) _ _ ?_).eqk fun _ => ?_) | (with_reducible refine ⟨_, _, rfl, rfl, ?_, ?_⟩) | (with_reducible refine ⟨_, _, _, rfl, rfl, rfl, ?_, ?_⟩) | (with_reducible intro _))
  all_goals (clear ok hn wd)
  all_goals (try omega)
  all_goals (try (simp only [List.length_append, List.length_drop, List.length_take, List.length_nil]; omega))
  all_goals (first
    | (subst_vars; exact beg_le _)
    | exact dot_lt (by assumption)
    | (rename_i c hc; first | exact app_dig (by assumption) (by assumption) c hc | exact app_dig (by assumption) (by simp) c hc)
    | (unfold Bd; decide)
    | (simp only [Int.toNat_natCast, Int.toNat_zero]; exact (Bd_pow10 _).mono (by simp only [List.length_drop, List.length_take, List.length_nil]; omega))
    | (refine ⟨rfl, ?_⟩
       rw [readN_eq (by assumption) (by assumption) (by assumption)]
       (first | rw [readAt_dot (by assumption) (by assumption)] | rw [readAt_no (by assumption)])
       (try simp only [Int.toNat_natCast])
       (first | exact congrArg pr (readEnd_bad (by assumption)).symm | exact congrArg pr (readEnd_neg (by assumption) (by assumption)).symm | exact congrArg pr (readEnd_pos (by assumption) (by assumption)).symm))
    | trace_state)

section ops
variable {w : World} {Φ : Fx} {names : List (Str × NameKind)} {mu : Addr → Prop} {ρ : List (Str × V)} {g : List (Addr × List V)} {pos : Pos} {A : Around} {i j p : Nat} {P : V → Prop}
theorem Bd2 : Bd 64 2 := by unfold Bd; decide
theorem NB_mul2 (hi : Bd 9000 (i : Int)) (h : P (.int ((2 * i : Nat) : Int))) : BinOk w A .Mult (.int 2) (.int (i : Int)) P :=
  Bin_mul (mulOk_of Bd2 hi (by decide)) h
theorem NB_mul (hi : Bd 9000 (i : Int)) (hj : Bd 9000 (j : Int)) (h : P (.int ((i * j : Nat) : Int))) : BinOk w A .Mult (.int (i : Int)) (.int (j : Int)) P :=
  Bin_mul (mulOk_of hi hj (by decide)) h
theorem NB_add (h : P (.int ((i + j : Nat) : Int))) : BinOk w A .Add (.int (i : Int)) (.int (j : Int)) P := Bin_add h
theorem NB_div (hj : 0 < j) (hb : Bd 9000 (j : Int)) (h : P (.int ((i / j : Nat) : Int))) : BinOk w A .FloorDiv (.int (i : Int)) (.int (j : Int)) P := by
  refine Bin_fdiv (by omega) hb ?_
  rw [fdiv_pos_eq (by omega)]; exact h
theorem NB_mod (hj : 0 < j) (h : P (.int ((i % j : Nat) : Int))) : BinOk w A .Mod (.int (i : Int)) (.int (j : Int)) P := by
  refine Bin_mod (by omega) ?_
  rw [Int.fmod_eq_emod_of_nonneg _ (by omega)]; exact h
theorem NB_pow (hp : p ≤ 1000) (h : P (.int ((10 ^ p : Nat) : Int))) : BinOk w A .Pow (.int 10) (.int (p : Int)) P := by
  refine Bin_pow (by omega) (by unfold Bd; decide) (by omega) ?_
  simpa using h
theorem NX_dash {k : Nat} {Q : V → List (Addr × List V) → Prop} (h : Q (.str (S [45])) g) : EX w Φ (.Constant (.str (Str.ofString "-")) k pos) ⟨mu, ρ, g⟩ Q := EX_str (by rw [lit_minus]; exact h)
theorem NX_dot {k : Nat} {Q : V → List (Addr × List V) → Prop} (h : Q (.str (S [46])) g) : EX w Φ (.Constant (.str (Str.ofString ".")) k pos) ⟨mu, ρ, g⟩ Q := EX_str (by rw [lit_dot]; exact h)
end ops
local macro_rules | `(tactic| walk_at "NAT") => `(tactic| first
  | with_reducible refine NX_dash ?_ | with_reducible refine NX_dot ?_
  | with_reducible refine NB_mul2 ?_ ?_ | with_reducible refine NB_mul ?_ ?_ ?_ | with_reducible refine NB_add ?_ | with_reducible refine NB_div ?_ ?_ ?_ | with_reducible refine NB_mod ?_ ?_ | with_reducible refine NB_pow ?_ ?_)

def trimZ (l : List Nat) : List Nat := (l.reverse.dropWhile (· == 48)).reverse
def scaledN (x : Int) (y p : Nat) : Nat := (2 * x.natAbs * 10 ^ p + y) / (2 * y)
def fracT (p r : Nat) : List Nat := trimZ ((dec (10 ^ p + r)).drop 1)
def numT (N p : Nat) : List Nat := if 0 < N % 10 ^ p then dec (N / 10 ^ p) ++ [46] ++ fracT p (N % 10 ^ p) else dec (N / 10 ^ p)
def writeF (x : Int) (y p : Nat) : List Nat := if x < 0 ∧ 0 < scaledN x y p then [45] ++ numT (scaledN x y p) p else numT (scaledN x y p) p
def writeN (x : Int) (y p : Nat) : Str :=
  if y = 0 then (if x = 0 then Str.ofString "NaN" else if 0 < x then Str.ofString "Infinity" else Str.ofString "-Infinity") else S (writeF x y p)

/-- the signs of a whole number, from the last on -/
theorem dec_lt {n : Nat} (h : n < 10) : dec n = [48 + n] := by
  unfold dec
  rw [Nat.toDigits_of_lt_base h]
  have : ∀ d : Nat, d < 10 → (Nat.digitChar d).toNat = 48 + d := by decide
  simp [this n h]
theorem dec_ge {n : Nat} (h : 10 ≤ n) : dec n = dec (n / 10) ++ [48 + n % 10] := by
  unfold dec
  have h1 : Nat.toDigits 10 n = Nat.toDigits 10 (n / 10) ++ Nat.toDigits 10 (n % 10) := by
    have := Nat.toDigits_append_toDigits (b := 10) (n := n / 10) (d := n % 10) (by decide) (by omega) (by omega)
    rw [this]; congr 1; omega
  have : ∀ d : Nat, d < 10 → (Nat.digitChar d).toNat = 48 + d := by decide
  rw [h1, List.map_append, Nat.toDigits_of_lt_base (by omega : n % 10 < 10)]
  simp [this (n % 10) (by omega)]
/-- r by p signs -/
def padT : Nat → Nat → List Nat
  | 0, _ => []
  | p + 1, r => padT p (r / 10) ++ [48 + r % 10]
theorem dec_pad : ∀ (p r : Nat), r < 10 ^ p → dec (10 ^ p + r) = 49 :: padT p r
  | 0, r, h => by
    have : r = 0 := by simpa using h
    subst this; decide
  | p + 1, r, h => by
    have hp : 0 < 10 ^ p := Nat.pow_pos (by decide)
    have e : 10 ^ (p + 1) = 10 * 10 ^ p := by rw [Nat.pow_succ]; omega
    rw [dec_ge (by omega)]
    have e1 : (10 ^ (p + 1) + r) / 10 = 10 ^ p + r / 10 := by omega
    have e2 : (10 ^ (p + 1) + r) % 10 = r % 10 := by omega
    rw [e1, e2, dec_pad p (r / 10) (by omega)]
    rfl
theorem padT_len : ∀ (p r : Nat), (padT p r).length = p
  | 0, _ => rfl
  | p + 1, r => by simp [padT, padT_len p]
theorem padT_zero : ∀ (p r : Nat), r < 10 ^ p → (∀ c ∈ padT p r, c = 48) → r = 0
  | 0, r, h, _ => by simpa using h
  | p + 1, r, h, hz => by
    have e : 10 ^ (p + 1) = 10 * 10 ^ p := by rw [Nat.pow_succ]; omega
    have h1 := padT_zero p (r / 10) (by omega) fun c hc => hz c (by simp [padT, hc])
    have h2 := hz (48 + r % 10) (by simp [padT])
    omega
theorem fracT_eq {p r : Nat} (h : r < 10 ^ p) : fracT p r = trimZ (padT p r) := by
  unfold fracT; rw [dec_pad p r h]; rfl
theorem trimZ_snoc {l : List Nat} : trimZ (l ++ [48]) = trimZ l := by simp [trimZ]
theorem trimZ_stop {l : List Nat} {c : Nat} (h : c ≠ 48) : trimZ (l ++ [c]) = l ++ [c] := by
  have : (c == 48) = false := by simpa using h
  simp [trimZ, this]
theorem dec_len (n : Nat) {k : Nat} (h : n < 10 ^ k) (hk : 0 < k) : (dec n).length ≤ k := by
  unfold dec
  rw [List.length_map]
  exact (Nat.length_toDigits_le_iff (by decide) hk).mpr h

theorem dec_len2 {n k : Nat} (h : n < 2 ^ k) (hk : 0 < k) : (dec n).length ≤ k :=
  dec_len n (Nat.lt_of_lt_of_le h (Nat.pow_le_pow_left (by decide) k)) hk
theorem scaled_lt {x : Int} {y p : Nat} (hx : Bd 300 x) (hy : Bd 300 (y : Int)) (hp : p ≤ 15) (h0 : 0 < y) : scaledN x y p < 2 ^ 400 ∧ 2 * x.natAbs * 10 ^ p < 2 ^ 399 := by
  unfold Bd at hx hy
  have h1 : (10 : Nat) ^ p ≤ 10 ^ 15 := Nat.pow_le_pow_right (by decide) hp
  have hy' : y < 2 ^ 300 := by simpa using hy
  have h2 : 2 * x.natAbs * 10 ^ p ≤ 2 * 2 ^ 300 * 10 ^ 15 := Nat.mul_le_mul (by omega) h1
  have h3 : (2 * 2 ^ 300 * 10 ^ 15 : Nat) < 2 ^ 399 := by decide +kernel
  have h4 : (2 * 2 ^ 300 * 10 ^ 15 + 2 ^ 300 : Nat) < 2 ^ 400 := by decide +kernel
  refine ⟨?_, Nat.lt_of_le_of_lt h2 h3⟩
  have h5 : scaledN x y p ≤ 2 * x.natAbs * 10 ^ p + y := Nat.div_le_self _ _
  exact Nat.lt_of_le_of_lt h5 (Nat.lt_of_le_of_lt (Nat.add_le_add h2 (Nat.le_of_lt hy')) h4)

set_option maxHeartbeats 4000000 in
theorem write_number_ok {w : World} {B : Heap} (wd : Wd w B) (x : Int) (y p : Nat) (hx : Bd 300 x) (hy : Bd 300 (y : Int)) (hp : p ≤ 15) : Fn w B 165 2 [.tup [.int x, .int (y : Int)], .int (p : Int)] [] (fun d _ => d = .str (writeN x y p)) ∧ (p = 15 → Fn w B 165 2 [.tup [.int x, .int (y : Int)]] [] fun d _ => d = .str (writeN x y p)) := by
  refine fn_introE (f := 165) (args := [.tup [.int x, .int (y : Int)]]) _ [Str.ofString "n", Str.ofString "places"] [.int (p : Int)] [.int 15 368] (p = 15) (fun hp _ _ => by subst hp; exact RepL.cons' Rep.int' RepL.nil') wd rfl rfl rfl rfl rfl rfl rfl ?_ rfl ?_ (by decide) (by decide) (by decide) rfl rfl rfl rfl ?_
  · intro s vals hB hv
    revert hv; revert vals
    exact all1 fun _ => binds_K (wd.X.keeps hB) rfl rfl rfl rfl rfl
  · intro s vals hB hv
    revert hv; revert vals
    exact all2 fun _ _ => binds_K (wd.X.keeps hB) rfl rfl rfl rfl rfl
  (intro Φ mu ok hB hn; subst hB; dsimp only [List.zip_cons_cons, List.zip_nil_left, List.cons_append, List.nil_append] at ok ⊢)
  have nb : ∀ {n k : Nat}, n < 2 ^ k → Bd k (n : Int) := fun h => by unfold Bd; simpa using h
  have hxx : x.natAbs < 2 ^ 300 := hx
  have hyy : y < 2 ^ 300 := by simpa [Bd] using hy
  have hpp : (10 : Nat) ^ p ≤ 10 ^ 15 := Nat.pow_le_pow_right (by decide) hp
  have hp0 : (0 : Nat) < 10 ^ p := Nat.pow_pos (by decide)
  have hp1 : (10 : Nat) ^ p < 2 ^ 60 := Nat.lt_of_le_of_lt hpp (by decide +kernel)
  have up : ∀ {n k m : Nat}, n < 2 ^ k → k ≤ m → Bd m (n : Int) := fun h h' => (nb h).mono h'
  have b1 : Bd 9000 (x.natAbs : Int) := up hxx (by decide)
  have b2 : Bd 9000 ((2 * x.natAbs : Nat) : Int) := up (k := 301) (by rw [Nat.pow_succ]; omega) (by decide)
  have b3 : Bd 9000 ((10 ^ p : Nat) : Int) := up hp1 (by decide)
  have b4 : Bd 9000 (y : Int) := up hyy (by decide)
  have b5 : Bd 9000 ((2 * y : Nat) : Int) := up (k := 301) (by rw [Nat.pow_succ]; omega) (by decide)
  have hN : 0 < y → (2 * x.natAbs * 10 ^ p + y) / (2 * y) < 2 ^ 400 := fun h => (scaled_lt hx hy hp h).1
  have b6 : 0 < y → Bd 1900 (((2 * x.natAbs * 10 ^ p + y) / (2 * y) / 10 ^ p : Nat) : Int) := fun h => up (k := 400) (Nat.lt_of_le_of_lt (Nat.div_le_self _ _) (hN h)) (by decide)
  have b7 : ∀ n : Nat, 10 ^ p + n % 10 ^ p < 2 ^ 61 := fun n => by
    have := Nat.mod_lt n hp0
    omega
  have b8 : ∀ n : Nat, (dec (10 ^ p + n % 10 ^ p)).length = p + 1 := fun n => by
    rw [dec_pad p _ (Nat.mod_lt n hp0)]; simp [padT_len]
  repeat' (first | walk_at "NAT" | walk_at "W" | (with_reducible first | refine (is_nan_ok (FxOk.wd (by assumption)) _ _).eqk fun _ => ?_) | (refine ⟨_, 1, rfl, rfl, ?_, ?_, ?_⟩) | (with_reducible refine ⟨_, _, rfl, rfl, ?_, ?_⟩) | fail "no step")
  all_goals (generalize hNe : (2 * x.natAbs * 10 ^ p + y) / (2 * y) = N at *)
  all_goals (try (first
    | assumption
    | omega
    | (rename_i h; simp only [decide_eq_false_iff_not] at h; omega)
    | (rename_i h; simp only [decide_eq_false_iff_not] at h; exact b6 (by omega))
    | (rename_i h h'; simp only [decide_eq_false_iff_not] at h; exact b6 (by omega))
    | exact up (b7 _) (by decide)
    | (rw [b8]; omega)
    | (rw [List.length_drop, b8]; omega)
    | (rename_i h; refine ⟨rfl, ?_⟩; clear ok; simp_all [writeN, isNan]; done)
    | (rename_i h h'; refine ⟨rfl, ?_⟩; clear ok; simp only [writeN, isNan, decide_eq_true_eq, decide_eq_false_iff_not, Bool.and_eq_true, Bool.and_eq_false_iff] at *; (repeat' split) <;> first | rfl | omega)))
  all_goals (
    have hy0 : 0 < y := by
      have : decide ((y : Int) = 0) = false := by assumption
      simp only [decide_eq_false_iff_not] at this; omega
    have hN4 := hN hy0
    have hsc : scaledN x y p = N := hNe
    have hD : (dec (N / 10 ^ p)).length ≤ 400 := dec_len2 (Nat.lt_of_le_of_lt (Nat.div_le_self _ _) hN4) (by decide)
    have wr : ∀ T, numT N p = T → ∀ c : Bool, (decide (x < 0) && decide (0 < (N : Int))) = c → writeN x y p = if c = true then S ([45] ++ T) else S T := by
      intro T hT c hc
      unfold writeN writeF
      rw [if_neg (by omega), hsc, hT]
      subst hc
      simp only [Bool.and_eq_true, decide_eq_true_eq, Int.natCast_pos]
      split <;> rfl)
  · -- the noughts at the end
    have hr : 0 < N % 10 ^ p := by
      have : decide (0 < ((N % 10 ^ p : Nat) : Int)) = true := by assumption
      exact Int.natCast_pos.mp (of_decide_eq_true this)
    have hL : List.drop 1 (dec (10 ^ p + N % 10 ^ p)) = padT p (N % 10 ^ p) := by rw [dec_pad p _ (Nat.mod_lt N hp0)]; rfl
    have hnum : numT N p = dec (N / 10 ^ p) ++ [46] ++ trimZ (padT p (N % 10 ^ p)) := by
      unfold numT; rw [if_pos hr, fracT_eq (Nat.mod_lt N hp0)]
    rw [hL]
    have hlen := padT_len p (N % 10 ^ p)
    have hnz : ∃ c ∈ padT p (N % 10 ^ p), c ≠ 48 := Classical.byContradiction fun hc => by
      have := padT_zero p (N % 10 ^ p) (Nat.mod_lt N hp0) fun c hm => Classical.byContradiction fun h => hc ⟨c, hm, h⟩
      omega
    generalize padT p (N % 10 ^ p) = L at *
    have hp' : 0 < L.length := by
      obtain ⟨c, hm, _⟩ := hnz
      exact List.length_pos_of_mem hm
    refine SX_while (fun n ρ g => ∃ k : Nat, ρ = [(Str.ofString "end", .int (k : Int)), (Str.ofString "parts", .str (S L)), (Str.ofString "told", .str (S (dec (N / 10 ^ p)))), (Str.ofString "scaled", .int (N : Int)), (Str.ofString "n", .tup [.int x, .int (y : Int)])] ∧ g = [] ∧ 0 < k ∧ k ≤ L.length ∧ trimZ (L.take k) = trimZ L ∧ (∃ c ∈ L.take k, c ≠ 48) ∧ n = k) L.length
      [(Str.ofString "end", .int (L.length : Int)), (Str.ofString "parts", .str (S L)), (Str.ofString "told", .str (S (dec (N / 10 ^ p)))), (Str.ofString "scaled", .int (N : Int)), (Str.ofString "n", .tup [.int x, .int (y : Int)])] ⟨rfl, rfl, rfl, rfl, rfl, trivial⟩
      ⟨L.length, rfl, rfl, hp', Nat.le_refl _, by rw [List.take_length], by rw [List.take_length]; exact hnz, rfl⟩ ?_
    rintro k mu ρ g ⟨_, rfl, rfl, hk0, hkl, htr, hnz', rfl⟩
    have hs : L.take k = L.take (k - 1) ++ [L.getD (k - 1) 0] := by
      obtain ⟨q, rfl⟩ : ∃ q, k = q + 1 := ⟨k - 1, by omega⟩
      rw [Nat.add_sub_cancel, List.take_add_one, List.getD_eq_getElem?_getD, List.getElem?_eq_getElem (by omega)]; rfl
    have hz : ((k : Int) - 1).toNat = k - 1 := by omega
    repeat' (first | walk_at "NAT" | walk_at "W" | (with_reducible first | refine (is_nan_ok (FxOk.wd (by assumption)) _ _).eqk fun _ => ?_) | (with_reducible refine ⟨_, _, rfl, rfl, ?_, ?_⟩) | fail "no step")
    all_goals (try omega)
    · rename_i hc
      rw [hz] at hc
      have h48 : L.getD (k - 1) 0 = 48 := by
        have := S_eq_str (y := [48]) (by decide +kernel) hc
        simpa using this
      rw [h48] at hs
      have hnz2 : ∃ c ∈ L.take (k - 1), c ≠ 48 := by
        obtain ⟨c, hm, hne⟩ := hnz'
        rw [hs] at hm
        rcases List.mem_append.mp hm with h | h
        · exact ⟨c, h, hne⟩
        · exact absurd (by simpa using h) hne
      have hk1 : 0 < k - 1 := by
        obtain ⟨c, hm, _⟩ := hnz2
        have := List.length_pos_of_mem hm
        rw [List.length_take] at this; omega
      refine ⟨k - 1, [(Str.ofString "end", .int ((k - 1 : Nat) : Int)), (Str.ofString "parts", .str (S L)), (Str.ofString "told", .str (S (dec (N / 10 ^ p)))), (Str.ofString "scaled", .int (N : Int)), (Str.ofString "n", .tup [.int x, .int (y : Int)])], by omega, ⟨?_, rfl, rfl, rfl, rfl, trivial⟩, k - 1, rfl, rfl, hk1, by omega, ?_, hnz2, rfl⟩
      · rw [show ((k - 1 : Nat) : Int) = (k : Int) - 1 by omega]; rfl
      · rw [← htr, hs, trimZ_snoc]
    all_goals (try simp only [List.length_append, List.length_take, List.length_cons, List.length_nil])
    all_goals (try omega)
    all_goals (
      have hstop : L.take k = trimZ L := by
        have hc : (S [L.getD ((k : Int) - 1).toNat 0] == Str.ofString "0") = false := by assumption
        rw [hz] at hc
        rw [← htr, hs, trimZ_stop]
        intro h48
        rw [h48] at hc
        exact absurd hc (by decide +kernel)
      first | refine ⟨rfl, ?_⟩ | refine ⟨trivial, ?_⟩
      rw [wr _ hnum _ (by assumption), hstop]
      rfl)
  all_goals (try (simp only [List.length_cons, List.length_nil]; omega))
  all_goals (
    refine ⟨rfl, ?_⟩
    rw [wr (dec (N / 10 ^ p)) ?_ _ (by assumption)]
    · rfl
    · have : decide (0 < ((N % 10 ^ p : Nat) : Int)) = false := by assumption
      unfold numT
      rw [if_neg fun h => absurd (Int.natCast_pos.mpr h) (of_decide_eq_false this)])

local macro_rules | `(tactic| walk_at "W") => `(tactic| (first
  | ((with_reducible refine EX_src0 (by assumption) ?h1 ?h2 ?h3); (case h3 => rfl); (case h1 => rfl))
  | ((with_reducible refine EX_src1 (by assumption) ?h1 ?h2 ?h3); (case h3 => rfl); (case h1 => rfl))
  | ((with_reducible refine SX_src0 (a := ?a) (by assumption) ?h1 ?h2 ?h3 ?h4); (case h3 => rfl); (case h1 => rfl); (case h4 => rfl))
  | ((with_reducible refine SX_src1 (a := ?a) (by assumption) ?h1 ?h2 ?h3 ?h4); (case h3 => rfl); (case h1 => rfl); (case h4 => rfl))
  | (with_reducible first | refine ⟨_, _, _, _, rfl, rfl, ?_⟩)
  | ((with_reducible refine EX_callS (fa := ?fa) (n := ?n) (oc := ?oc) (od := ?od) (osl := ?osl) (fd := ?fd) (by assumption) ?h1 ?h2 ?h3 ?h4 ?h5 ?h7); (case h3 => with_reducible first | exact ns_law_take _ | exact ns_law_one _ | exact ns_law_number _ | exact ns_law_written_right _ | exact ns_law_read_right _); (case h4 => rfl); (case h5 => rfl); (case h7 => rfl))
  | ((with_reducible refine EX_cell (c := ?c) (d := ?d) (by assumption) ?h1 ?h2 ?h3 ?h4); (case h1 => rfl); (case h2 => assumption); (case h3 => first | exact .head _ | (apply List.Mem.tail; exact .head _) | (apply List.Mem.tail; apply List.Mem.tail; exact .head _)))
  | (with_reducible first | refine PP_cons ?_ | refine PP_nil ?_)
  | ((with_reducible refine EX_dict (by assumption) ?h1 ?h2 ?h3 ?h4); (case h2 => rfl); (case h3 => exact List.cons_ne_nil _ _); (case h4 => exact Nat.le_of_ble_eq_true rfl))
  | (with_reducible first | refine Call_len_lst ?_ ?_ | refine Bin_addL ?_ ?_ | refine Cmp_eq_pr (FxOk.u64 (by assumption)) ?_ | refine Cmp_ne_pr (FxOk.u64 (by assumption)) ?_ | refine Cmp_eq_strs2 (FxOk.u64 (by assumption)) ?_ | refine Cmp_eq_nil (FxOk.u64 (by assumption)) ?_ | refine Cmp_in_strs2 ?_ | refine Cmp_notin_strs2 ?_)
  ))

/-- the law's source of draws -/
def Src (x y : Int) : Prop := 0 ≤ x ∧ 0 ≤ y ∧ y < 2147483647
abbrev sg (a : Addr) (x y : Int) : List (Addr × List V) := [(a, [.int x, .int y])]
theorem Bd_of {k : Nat} {i : Int} (j : Int) (h0 : 0 ≤ i) (h1 : i < j) (hj : j.toNat ≤ 2 ^ k) : Bd k i := by unfold Bd; omega
theorem fmod_pos {x t : Int} (ht : 0 < t) : 0 ≤ x.fmod t ∧ x.fmod t < t := ⟨Int.fmod_nonneg_of_pos _ ht, Int.fmod_lt_of_pos _ ht⟩
theorem fdiv_nn {x t : Int} (hx : 0 ≤ x) (ht : 0 < t) : 0 ≤ x.fdiv t := Int.fdiv_nonneg hx (by omega)
theorem law_take_ok {w : World} {B : Heap} (wd : Wd w B) (S : Addr) (x y top : Int) (hs : Src x y) (ht : 0 < top) (hb : Bd 9000 top) : Fn w B 179 1 [.loc S, .int top] (sg S x y) fun d g => ∃ t x' y', d = .int t ∧ g = sg S x' y' ∧ Src x' y' ∧ 0 ≤ t ∧ t < top := by
  refine fn_intro (f := 179) _ [Str.ofString "source", Str.ofString "top"] wd rfl rfl rfl rfl rfl rfl rfl (by walk_at "B2") rfl (by decide) (by decide) (by decide) rfl rfl rfl rfl ?_
  (intro Φ mu ok hB hn; subst hB; dsimp only [List.zip_cons_cons, List.zip_nil_left] at ok ⊢)
  obtain ⟨hx, hy, hy'⟩ := hs
  have hyb : Bd 40 y := Bd_of 2147483647 hy hy' (by decide)
  have hm := fmod_pos (x := y * 39373 + 7) (t := 2147483647) (by decide)
  have hmb : Bd 40 ((y * 39373 + 7).fmod 2147483647) := Bd_of 2147483647 hm.1 hm.2 (by decide)
  repeat' (first | walk_at "W")
  all_goals (first
    | omega
    | assumption
    | exact Bd.mono (k := 40) (by unfold Bd; decide) (by decide)
    | exact mulOk_of (m := 40) hyb (by unfold Bd; decide) (by decide)
    | exact mulOk_of hmb hmb (by decide)
    | exact ⟨rfl, _, _, _, rfl, rfl, ⟨hx, hm.1, hm.2⟩, (fmod_pos ht).1, (fmod_pos ht).2⟩
    | exact ⟨rfl, _, _, _, rfl, rfl, ⟨fdiv_nn hx ht, hy, hy'⟩, (fmod_pos ht).1, (fmod_pos ht).2⟩)
theorem law_take_k {w : World} {B : Heap} (wd : Wd w B) {S : Addr} {x y top : Int} {Q : V → List (Addr × List V) → Prop} (hs : Src x y) (ht : 0 < top) (hb : Bd 9000 top) (k : ∀ t x' y', Src x' y' → 0 ≤ t → t < top → Q (.int t) (sg S x' y')) : Fn w B 179 1 [.loc S, .int top] (sg S x y) Q :=
  (law_take_ok wd S x y top hs ht hb).mono fun d g ⟨t, x', y', e, e', h1, h2, h3⟩ => by subst e; subst e'; exact k t x' y' h1 h2 h3

theorem law_one_ok {w : World} {B : Heap} (wd : Wd w B) (S : Addr) (x y : Int) (l : List V) (hs : Src x y) (hne : l ≠ []) (hl : l.length ≤ 1000) : Fn w B 186 2 [.loc S, .lst l] (sg S x y) fun d g => d ∈ l ∧ ∃ x' y', g = sg S x' y' ∧ Src x' y' := by
  refine fn_intro (f := 186) _ [Str.ofString "source", Str.ofString "things"] wd rfl rfl rfl rfl rfl rfl rfl (by walk_at "B2") rfl (by decide) (by decide) (by decide) rfl rfl rfl rfl ?_
  (intro Φ mu ok hB hn; subst hB; dsimp only [List.zip_cons_cons, List.zip_nil_left] at ok ⊢)
  have hpos := List.length_pos_iff.mpr hne
  have hb : Bd 9000 (l.length : Int) := by
    refine Bd.mono (k := 10) ?_ (by decide)
    unfold Bd; omega
  repeat' (first | walk_at "W" | (with_reducible first | refine law_take_k (FxOk.wd (by assumption)) (by assumption) ?_ ?_ (fun _ _ _ _ _ _ => ?_)))
  all_goals (first
    | omega
    | assumption
    | exact ⟨rfl, List.mem_of_getElem? (by assumption), _, _, rfl, by assumption⟩)
theorem law_one_k {w : World} {B : Heap} (wd : Wd w B) {S : Addr} {x y : Int} {l : List V} {Q : V → List (Addr × List V) → Prop} (hs : Src x y) (hne : l ≠ []) (hl : l.length ≤ 1000) (k : ∀ d, d ∈ l → ∀ x' y', Src x' y' → Q d (sg S x' y')) : Fn w B 186 2 [.loc S, .lst l] (sg S x y) Q :=
  (law_one_ok wd S x y l hs hne hl).mono fun d g ⟨h, x', y', e', h1⟩ => by subst e'; exact k d h x' y' h1
def All (P : V → Prop) : List V → Prop
  | [] => True
  | d :: l => P d ∧ All P l
theorem All.of {P : V → Prop} : ∀ {l : List V}, All P l → ∀ d ∈ l, P d
  | _ :: _, h, d, hd => by
    rcases List.mem_cons.mp hd with rfl | hd
    · exact h.1
    · exact All.of h.2 d hd
/-- one of some things: each way -/
theorem law_one_a {w : World} {B : Heap} (wd : Wd w B) {S : Addr} {x y : Int} {d0 : V} {l : List V} {Q : V → List (Addr × List V) → Prop} (hs : Src x y) (hl : (d0 :: l).length ≤ 1000) (k : ∀ x' y', Src x' y' → All (fun d => Q d (sg S x' y')) (d0 :: l)) : Fn w B 186 2 [.loc S, .lst (d0 :: l)] (sg S x y) Q :=
  law_one_k wd hs (by simp) hl fun d hd x' y' h => (k x' y' h).of d hd
/-- one of some ints -/
def IntIn (P : Int → Prop) (l : List V) : Prop := ∀ d ∈ l, ∃ i, d = .int i ∧ P i
theorem IntIn.nil {P : Int → Prop} : IntIn P [] := fun _ h => nomatch h
theorem IntIn.cons {P : Int → Prop} {i : Int} {l : List V} (h : P i) (r : IntIn P l) : IntIn P (.int i :: l) := fun d hd => by
  rcases List.mem_cons.mp hd with rfl | hd
  · exact ⟨i, rfl, h⟩
  · exact r d hd
theorem law_one_i {w : World} {B : Heap} (wd : Wd w B) {S : Addr} {x y : Int} {d0 : V} {l : List V} {Q : V → List (Addr × List V) → Prop} (P : Int → Prop) (hs : Src x y) (hl : (d0 :: l).length ≤ 1000) (hP : IntIn P (d0 :: l)) (k : ∀ x' y' i, Src x' y' → P i → Q (.int i) (sg S x' y')) : Fn w B 186 2 [.loc S, .lst (d0 :: l)] (sg S x y) Q :=
  law_one_k wd hs (by simp) hl fun d hd x' y' h => by obtain ⟨i, rfl, hi⟩ := hP d hd; exact k x' y' i h hi

set_option maxHeartbeats 4000000 in
theorem law_number_ok {w : World} {B : Heap} (wd : Wd w B) (S : Addr) (x y : Int) (hs : Src x y) : Fn w B 193 3 [.loc S] (sg S x y) fun d g => ∃ t b x' y', d = pr (t, b) ∧ g = sg S x' y' ∧ Src x' y' ∧ Bd 100 t ∧ Bd 100 b := by
  refine fn_intro (f := 193) _ [Str.ofString "source"] wd rfl rfl rfl rfl rfl rfl rfl (by walk_at "B1") rfl (by decide) (by decide) (by decide) rfl rfl rfl rfl ?_
  (intro Φ mu ok hB hn; subst hB; dsimp only [List.zip_cons_cons, List.zip_nil_left] at ok ⊢)
  have sm : ∀ {i : Int}, i.natAbs < 2 ^ 32 → Bd 100 i := fun h => Bd.mono (k := 32) h (by decide)
  have up : ∀ {i : Int}, i.natAbs < 2 ^ 32 → Bd 9000 i := fun h => Bd.mono (k := 32) h (by decide)
  have mu1 : ∀ {i j : Int}, i.natAbs < 2 ^ 60 → j.natAbs < 2 ^ 60 → IntMulOk i j := fun h h' => mulOk_of (k := 60) (m := 60) h h' (by decide)
  have p7 : (10 : Int) ^ (7 : Int).toNat = 10000000 := by decide
  have p13 : (10 : Int) ^ (13 : Int).toNat = 10000000000000 := by decide
  have p6 : (10 : Int) ^ (6 : Int).toNat = 1000000 := by decide
  have b10 : Bd 64 10 := by unfold Bd; decide
  have big : ∀ {i : Int}, i.natAbs < 1000000000000000000000000000 → Bd 100 i := fun h => Nat.lt_of_lt_of_le h (by decide)
  repeat' (first
    | rw [p7] | rw [p13] | rw [p6]
    | with_reducible refine law_one_i (FxOk.wd (by assumption)) (Bd 100) (by assumption) ?_ ?_ (fun x y i hs hi => ?_)
    | with_reducible refine IntIn.cons ?_ ?_ | with_reducible exact IntIn.nil
    | walk_at "W" | (with_reducible first | refine law_take_k (FxOk.wd (by assumption)) (by assumption) ?_ ?_ (fun _ _ _ _ _ _ => ?_)))
  all_goals (first
    | with_reducible assumption
    | omega
    | exact Nat.le_of_ble_eq_true rfl
    | exact up (by omega)
    | exact mu1 (by omega) (by omega)
    | exact big (by omega)
    | exact ⟨rfl, _, _, _, _, rfl, rfl, by assumption, big (by omega), big (by omega)⟩
    | exact ⟨rfl, _, _, _, _, rfl, rfl, by assumption, by assumption, by assumption⟩
    | exact ⟨rfl, _, _, _, _, rfl, rfl, by assumption, by assumption, big (by omega)⟩
    | exact ⟨rfl, _, _, _, _, rfl, rfl, by assumption, big (by omega), by assumption⟩)
theorem law_number_k {w : World} {B : Heap} (wd : Wd w B) {S : Addr} {x y : Int} {Q : V → List (Addr × List V) → Prop} (hs : Src x y) (k : ∀ t b x' y', Src x' y' → Bd 100 t → Bd 100 b → Q (.tup [.int t, .int b]) (sg S x' y')) : Fn w B 193 3 [.loc S] (sg S x y) Q :=
  (law_number_ok wd S x y hs).mono fun d g ⟨t, b, x', y', e, e', h1, h2, h3⟩ => by subst e; subst e'; exact k t b x' y' h1 h2 h3

abbrev kN : Str := Str.ofString "number"
abbrev k0 : Str := Str.ofString "none"
abbrev kU : Str := Str.ofString "up"
abbrev kD : Str := Str.ofString "down"
def knd (a : Int × Int) : Str := if (!decide (a.2 = 0)) = true then kN else if decide (a.1 = 0) = true then k0 else if decide (0 < a.1) = true then kU else kD
theorem law_kind_ok {w : World} {B : Heap} (wd : Wd w B) (x y : Int) : Fn w B 200 1 [.tup [.int x, .int y]] [] fun d _ => d = .str (knd (x, y)) := by
  refine fn_intro (f := 200) _ [Str.ofString "a"] wd rfl rfl rfl rfl rfl rfl rfl (by walk_at "B1") rfl (by decide) (by decide) (by decide) rfl rfl rfl rfl ?_
  (intro Φ mu ok hB hn; subst hB; dsimp only [List.zip_cons_cons, List.zip_nil_left] at ok ⊢)
  repeat' (first | walk_at "W")
  all_goals (refine ⟨rfl, ?_⟩; clear ok hn wd; simp only [knd, *, if_true, if_false, Bool.false_eq_true])

def lsg (a : Int × Int) : Int := sgn (if 0 ≤ a.2 then a.1 else -a.1)
theorem law_sign_ok {w : World} {B : Heap} (wd : Wd w B) (x y : Int) : Fn w B 207 1 [.tup [.int x, .int y]] [] fun d _ => d = .int (lsg (x, y)) := by
  refine fn_intro (f := 207) _ [Str.ofString "a"] wd rfl rfl rfl rfl rfl rfl rfl (by walk_at "B1") rfl (by decide) (by decide) (by decide) rfl rfl rfl rfl ?_
  (intro Φ mu ok hB hn; subst hB; dsimp only [List.zip_cons_cons, List.zip_nil_left] at ok ⊢)
  repeat' (first | walk_at "W")
  all_goals (refine ⟨rfl, ?_⟩; clear ok hn wd; simp only [decide_eq_true_eq, decide_eq_false_iff_not] at *; simp only [lsg, sgn]; congr 1; (repeat' split) <;> omega)
theorem lsg_bd {k : Nat} (a : Int × Int) : Bd (k + 1) (lsg a) := by
  refine Bd.mono (k := 1) ?_ (by omega)
  unfold lsg
  generalize (if 0 ≤ a.2 then a.1 else -a.1) = i
  unfold sgn Bd
  split
  · decide
  · split <;> decide

def sameB (t a : Int × Int) : Bool :=
  if a.2 = 0 then decide (t = (lsg a, 0)) else if (decide (t.2 < 1) || !decide (t.1 * a.2 = t.2 * a.1)) = true then false else decide (Int.gcd t.1 t.2 = 1)
theorem law_same_ok {w : World} {B : Heap} (wd : Wd w B) (x y u v : Int) (hx : Bd 4000 x) (hy : Bd 4000 y) (hu : Bd 4000 u) (hv : Bd 4000 v) : Fn w B 214 2 [.tup [.int x, .int y], .tup [.int u, .int v]] [] fun d _ => d = .bool (sameB (x, y) (u, v)) := by
  refine fn_intro (f := 214) _ [Str.ofString "told", Str.ofString "a"] wd rfl rfl rfl rfl rfl rfl rfl (by walk_at "B2") rfl (by decide) (by decide) (by decide) rfl rfl rfl rfl ?_
  (intro Φ mu ok hB hn; subst hB; dsimp only [List.zip_cons_cons, List.zip_nil_left] at ok ⊢)
  repeat' (first | walk_at "W" | (with_reducible first | refine (law_sign_ok (FxOk.wd (by assumption)) _ _).eqk fun _ => ?_))
  all_goals (try (first
    | exact mulOk_of (by assumption) (by assumption) (by decide)
    | (refine ⟨rfl, ?_⟩; clear ok hn wd; simp only [decide_eq_true_eq, decide_eq_false_iff_not] at *; simp only [sameB, *, if_true, if_false, Bool.false_eq_true]; done)))
  rename_i hv0 hc
  have hy0 : 0 < y ∧ x * v = y * u ∧ v ≠ 0 := by
    simp only [Bool.or_eq_false_iff, decide_eq_false_iff_not, Bool.not_eq_false', decide_eq_true_eq] at hc hv0
    exact ⟨by omega, hc.2, hv0⟩
  refine SX_while (fun n ρ g => ∃ p q : Int, ρ = [(Str.ofString "one", .int p), (Str.ofString "other", .int q)] ∧ g = [] ∧ 0 ≤ p ∧ 0 ≤ q ∧ Int.gcd p q = Int.gcd x y ∧ n = q.toNat) y.toNat [(Str.ofString "one", .int x.natAbs), (Str.ofString "other", .int y)] ⟨rfl, rfl, trivial⟩
    ⟨x.natAbs, y, rfl, rfl, by omega, by omega, by simp [Int.gcd], rfl⟩ ?_
  rintro n mu ρ g ⟨p, q, rfl, rfl, hp, hq, hg, rfl⟩
  repeat' (first | walk_at "W" | (with_reducible first | refine (law_sign_ok (FxOk.wd (by assumption)) _ _).eqk fun _ => ?_))
  · rename_i h
    simp only [decide_eq_true_eq] at h
    omega
  · rename_i h
    simp only [decide_eq_true_eq] at h
    have h1 := Int.fmod_nonneg_of_pos p h
    have h2 := Int.fmod_lt_of_pos p h
    exact ⟨(p.fmod q).toNat, [(Str.ofString "one", .int q), (Str.ofString "other", .int (p.fmod q))], by omega, ⟨rfl, rfl, trivial⟩, q, p.fmod q, rfl, rfl, by omega, by omega, by rw [gcd_step h, hg], rfl⟩
  · rename_i h
    simp only [decide_eq_false_iff_not] at h
    obtain rfl : q = 0 := by omega
    refine ⟨rfl, ?_⟩
    have hg' : Int.gcd x y = p.natAbs := by rw [← hg]; simp [Int.gcd]
    unfold sameB
    rw [if_neg hy0.2.2]
    dsimp only
    rw [hc, if_neg (by decide), hg']
    congr 1
    by_cases h1 : p = 1
    · subst h1; rfl
    · rw [decide_eq_false h1, decide_eq_false (by omega)]

def sumF (a b : Int × Int) : Int × Int :=
  if (knd a == kN && knd b == kN) = true then (a.1 * b.2 + b.1 * a.2, a.2 * b.2)
  else if ((knd a == k0 || knd b == k0) || ((knd a == kU || knd b == kU) && (knd a == kD || knd b == kD))) = true then (0, 0)
  else if (knd a == kU || knd b == kU) = true then (1, 0) else (-1, 0)
theorem law_sum_ok {w : World} {B : Heap} (wd : Wd w B) (x y u v : Int) (hx : Bd 4000 x) (hy : Bd 4000 y) (hu : Bd 4000 u) (hv : Bd 4000 v) : Fn w B 221 2 [.tup [.int x, .int y], .tup [.int u, .int v]] [] fun d _ => d = pr (sumF (x, y) (u, v)) := by
  refine fn_intro (f := 221) _ [Str.ofString "a", Str.ofString "b"] wd rfl rfl rfl rfl rfl rfl rfl (by walk_at "B2") rfl (by decide) (by decide) (by decide) rfl rfl rfl rfl ?_
  (intro Φ mu ok hB hn; subst hB; dsimp only [List.zip_cons_cons, List.zip_nil_left] at ok ⊢)
  repeat' (first | walk_at "W" | (with_reducible first | refine (law_kind_ok (FxOk.wd (by assumption)) _ _).eqk fun _ => ?_))
  all_goals (first
    | exact mulOk_of (by assumption) (by assumption) (by decide)
    | (refine ⟨rfl, ?_⟩; clear ok hn wd hx hy hu hv; simp only [sumF]; (repeat' split) <;> first | rfl | (exfalso; simp_all; done)))

def prodF (a b : Int × Int) : Int × Int :=
  if (knd a == k0 || knd b == k0) = true then (0, 0) else if (knd a == kN && knd b == kN) = true then (a.1 * b.1, a.2 * b.2) else (lsg a * lsg b, 0)
theorem law_product_ok {w : World} {B : Heap} (wd : Wd w B) (x y u v : Int) (hx : Bd 4000 x) (hy : Bd 4000 y) (hu : Bd 4000 u) (hv : Bd 4000 v) : Fn w B 228 2 [.tup [.int x, .int y], .tup [.int u, .int v]] [] fun d _ => d = pr (prodF (x, y) (u, v)) := by
  refine fn_intro (f := 228) _ [Str.ofString "a", Str.ofString "b"] wd rfl rfl rfl rfl rfl rfl rfl (by walk_at "B2") rfl (by decide) (by decide) (by decide) rfl rfl rfl rfl ?_
  (intro Φ mu ok hB hn; subst hB; dsimp only [List.zip_cons_cons, List.zip_nil_left] at ok ⊢)
  repeat' (first | walk_at "W" | (with_reducible first | refine (law_sign_ok (FxOk.wd (by assumption)) _ _).eqk fun _ => ?_ | refine (law_kind_ok (FxOk.wd (by assumption)) _ _).eqk fun _ => ?_))
  all_goals (first
    | exact mulOk_of (by assumption) (by assumption) (by decide)
    | exact mulOk_of (k := 1) (m := 1) (lsg_bd _) (lsg_bd _) (by decide)
    | (refine ⟨rfl, ?_⟩; clear ok hn wd hx hy hu hv; simp only [prodF]; (repeat' split) <;> first | rfl | (exfalso; simp_all; done)))

def quoF (a b : Int × Int) : Int × Int :=
  if ((knd a == k0 || knd b == k0) || ((knd a != kN) && (knd b != kN))) = true then (0, 0) else if (knd b != kN) = true then (0, 1)
  else if (knd a != kN) = true then (lsg a * (if decide (lsg b < 0) = true then -1 else 1), 0)
  else if decide (b.1 = 0) = true then (lsg a, 0) else (a.1 * b.2, a.2 * b.1)
theorem law_quotient_ok {w : World} {B : Heap} (wd : Wd w B) (x y u v : Int) (hx : Bd 4000 x) (hy : Bd 4000 y) (hu : Bd 4000 u) (hv : Bd 4000 v) : Fn w B 235 2 [.tup [.int x, .int y], .tup [.int u, .int v]] [] fun d _ => d = pr (quoF (x, y) (u, v)) := by
  refine fn_intro (f := 235) _ [Str.ofString "a", Str.ofString "b"] wd rfl rfl rfl rfl rfl rfl rfl (by walk_at "B2") rfl (by decide) (by decide) (by decide) rfl rfl rfl rfl ?_
  (intro Φ mu ok hB hn; subst hB; dsimp only [List.zip_cons_cons, List.zip_nil_left] at ok ⊢)
  repeat' (first | walk_at "W" | (with_reducible first | refine (law_sign_ok (FxOk.wd (by assumption)) _ _).eqk fun _ => ?_ | refine (law_kind_ok (FxOk.wd (by assumption)) _ _).eqk fun _ => ?_))
  all_goals (first
    | exact mulOk_of (by assumption) (by assumption) (by decide)
    | exact mulOk_of (k := 1) (m := 1) (lsg_bd _) (by unfold Bd; decide) (by decide)
    | (refine ⟨rfl, ?_⟩; clear ok hn wd hx hy hu hv; simp only [quoF]; (repeat' split) <;> first | rfl | (exfalso; simp_all; done)))

def restF (a b : Int × Int) : Int × Int :=
  if ((knd a == k0 || knd b == k0) || ((knd a != kN) || ((knd b == kN) && decide (b.1 = 0)))) = true then (0, 0) else if (knd b != kN) = true then a
  else (if decide (0 ≤ (a.1 * ((a.2 * b.2).natAbs : Int)).fdiv a.2) = true then ((a.1 * ((a.2 * b.2).natAbs : Int)).fdiv a.2).fmod (((b.1 * ((a.2 * b.2).natAbs : Int)).fdiv b.2).natAbs : Int)
    else -(-(a.1 * ((a.2 * b.2).natAbs : Int)).fdiv a.2).fmod (((b.1 * ((a.2 * b.2).natAbs : Int)).fdiv b.2).natAbs : Int), ((a.2 * b.2).natAbs : Int))
theorem knd_num {a : Int × Int} (h : (knd a == kN) = true) : a.2 ≠ 0 := by
  intro h0
  unfold knd at h
  rw [h0] at h
  simp only [decide_true, Bool.not_true, Bool.false_eq_true, if_false] at h
  revert h
  split
  · decide
  · split <;> decide
theorem fd_abs2 {y v u : Int} (hv : v ≠ 0) : (u * ((y * v).natAbs : Int)).fdiv v = u * (y.natAbs : Int) * v.sign := by
  have : u * ((y * v).natAbs : Int) = u * (y.natAbs : Int) * v.sign * v := by
    rw [Int.natAbs_mul, Int.natCast_mul, ← Int.mul_sign_self v]
    simp only [Int.mul_assoc, Int.mul_comm, Int.mul_left_comm]
  rw [this, Int.mul_fdiv_cancel _ hv]
theorem fd_abs1 {y v u : Int} (hy : y ≠ 0) : (u * ((y * v).natAbs : Int)).fdiv y = u * (v.natAbs : Int) * y.sign := by
  rw [Int.mul_comm y v]; exact fd_abs2 hy
theorem abs_sign_ne {y v u : Int} (hy : y ≠ 0) (hv : v ≠ 0) (hu : u ≠ 0) : ((u * (y.natAbs : Int) * v.sign).natAbs : Int) ≠ 0 := by
  have h1 : u * (y.natAbs : Int) * v.sign ≠ 0 := Int.mul_ne_zero (Int.mul_ne_zero hu (by omega)) (by rw [Ne, Int.sign_eq_zero_iff_zero]; exact hv)
  omega
theorem law_rest_ok {w : World} {B : Heap} (wd : Wd w B) (x y u v : Int) (hx : Bd 4000 x) (hy : Bd 4000 y) (hu : Bd 4000 u) (hv : Bd 4000 v) : Fn w B 242 2 [.tup [.int x, .int y], .tup [.int u, .int v]] [] fun d _ => d = pr (restF (x, y) (u, v)) := by
  refine fn_intro (f := 242) _ [Str.ofString "a", Str.ofString "b"] wd rfl rfl rfl rfl rfl rfl rfl (by walk_at "B2") rfl (by decide) (by decide) (by decide) rfl rfl rfl rfl ?_
  (intro Φ mu ok hB hn; subst hB; dsimp only [List.zip_cons_cons, List.zip_nil_left] at ok ⊢)
  have b1 : Bd 9000 ((y * v).natAbs : Int) := Bd.mono (k := 8000) (Bd.le (hy.mul hv) (by omega)) (by decide)
  have up : ∀ {i}, Bd 4000 i → Bd 9000 i := fun h => h.mono (by decide)
  repeat' (first | walk_at "W" | (with_reducible first | refine (law_kind_ok (FxOk.wd (by assumption)) _ _).eqk fun _ => ?_))
  all_goals (try (first
    | assumption
    | exact up (by assumption)
    | exact mulOk_of (by assumption) (by assumption) (by decide)
    | (refine ⟨rfl, ?_⟩; clear ok hn wd hx hy hu hv; simp only [restF]; (repeat' split) <;> first | rfl | (exfalso; simp_all; done))))
  all_goals (
    have key : y ≠ 0 ∧ v ≠ 0 ∧ u ≠ 0 := by
      have e1 : (knd (u, v) != Str.ofString "number") = false := by assumption
      have e2 : (knd (x, y) == Str.ofString "none" || knd (u, v) == Str.ofString "none" || (knd (x, y) != Str.ofString "number" || knd (u, v) == Str.ofString "number" && decide (u = 0))) = false := by assumption
      simp only [Bool.or_eq_false_iff, bne, Bool.not_eq_false', Bool.and_eq_false_iff, decide_eq_false_iff_not] at e1 e2
      refine ⟨knd_num e2.2.1, knd_num e1, fun h0 => ?_⟩
      rcases e2.2.2 with h | h
      · rw [e1] at h; cases h
      · exact h h0
    first
      | exact key.1
      | exact key.2.1
      | (rw [fd_abs2 key.2.1]; exact abs_sign_ne key.1 key.2.1 key.2.2))

def rk (a : Int × Int) : Int := if decide (a.2 = 0) = true then lsg a else 0
def rkT : V → List V
  | .tup [.int i, .int j] => [.int (rk (i, j))]
  | _ => []
def lessF (a b : Int × Int) : Bool :=
  if (decide (a.2 = 0) || decide (b.2 = 0)) = true then decide (rk a < rk b)
  else decide (a.1 * b.2 * (if 0 < a.2 * b.2 then 1 else -1) < b.1 * a.2 * (if 0 < a.2 * b.2 then 1 else -1))
theorem law_less_ok {w : World} {B : Heap} (wd : Wd w B) (x y u v : Int) (hx : Bd 4000 x) (hy : Bd 4000 y) (hu : Bd 4000 u) (hv : Bd 4000 v) : Fn w B 247 2 [.tup [.int x, .int y], .tup [.int u, .int v]] [] fun d _ => d = .bool (lessF (x, y) (u, v)) := by
  refine fn_intro (f := 247) _ [Str.ofString "a", Str.ofString "b"] wd rfl rfl rfl rfl rfl rfl rfl (by walk_at "B2") rfl (by decide) (by decide) (by decide) rfl rfl rfl rfl ?_
  (intro Φ mu ok hB hn; subst hB; dsimp only [List.zip_cons_cons, List.zip_nil_left] at ok ⊢)
  repeat' (first | walk_at "W" | (with_reducible first | refine (law_sign_ok (FxOk.wd (by assumption)) _ _).eqk fun _ => ?_))
  · refine SX_setlcomp [] rkT ok rfl (by decide) (closureFor_none (by decide)) (by decide) rfl (by decide) rfl rfl rfl rfl ?_ (fun _ => rfl)
    repeat' (first | walk_at "W" | (with_reducible first | refine (law_sign_ok (FxOk.wd (by assumption)) _ _).eqk fun _ => ?_))
    refine ⟨rfl, _, ItOfS.lst, Nat.le_of_ble_eq_true rfl, Body0 fun Φ' ok' hA hc hB' hn' d hd mu' => ?_, ?_⟩
    · simp only [List.mem_cons, List.not_mem_nil, or_false] at hd
      rcases hd with rfl | rfl
      all_goals (repeat' (first | walk_at "W" | (with_reducible first | refine (law_sign_ok (FxOk.wd (by assumption)) _ _).eqk fun _ => ?_)))
      all_goals (refine ⟨rfl, ?_⟩; simp only [rkT, rk, *, if_true, if_false, Bool.false_eq_true])
    · have e : ([V.tup [.int x, .int y], V.tup [.int u, .int v]].flatMap rkT) = [.int (rk (x, y)), .int (rk (u, v))] := rfl
      rw [e]
      repeat' (first | walk_at "W" | (with_reducible first | refine (law_sign_ok (FxOk.wd (by assumption)) _ _).eqk fun _ => ?_))
      refine ⟨rfl, ?_⟩
      simp only [lessF, *, if_true]
  all_goals (first
    | exact mulOk_of (by assumption) (by assumption) (by decide)
    | exact mulOk_of (k := 8000) (m := 1) (Bd.mul (k := 4000) (m := 4000) (by assumption) (by assumption)) (by unfold Bd; decide) (by decide)
    | (refine ⟨rfl, ?_⟩; clear ok hn wd hx hy hu hv; simp only [decide_eq_true_eq, decide_eq_false_iff_not] at *; simp only [lessF, *, if_true, if_false, Bool.false_eq_true]; done)
    | (refine ⟨rfl, ?_⟩; clear ok hn wd hx hy hu hv; simp_all [lessF]; done))

theorem sgn_zero : sgn 0 = 0 := rfl
theorem sgn_pos {i : Int} (h : 0 < i) : sgn i = 1 := by unfold sgn; rw [if_pos h]
theorem sgn_neg {i : Int} (h : i < 0) : sgn i = -1 := by unfold sgn; rw [if_neg (by omega), if_pos h]
theorem sgn_neg' (i : Int) : sgn (-i) = -sgn i := by
  unfold sgn
  (repeat' split) <;> omega
theorem sgn_sgn (i : Int) : sgn (sgn i) = sgn i := by
  unfold sgn
  (repeat' split) <;> first | rfl | omega
theorem same_mk (p q : Int) : sameB (mk p q) (p, q) = true := by
  unfold sameB
  by_cases hq : q = 0
  · subst hq
    rw [if_pos rfl, mk_zero]
    simp [lsg]
  · rw [if_neg hq]
    obtain ⟨h1, h2, h3⟩ := mk_facts (t := p) hq
    have e1 : decide ((mk p q).2 < 1) = false := decide_eq_false (by omega)
    have e2 : decide ((mk p q).1 * q = (mk p q).2 * p) = true := decide_eq_true (by rw [h2, Int.mul_comm])
    simp only [e1, e2, Bool.not_true, Bool.or_false, Bool.false_eq_true, if_false]
    exact decide_eq_true h3
theorem neg_mk (p q : Int) : neg (mk p q) = mk (-p) q := by
  by_cases hq : q = 0
  · subst hq
    simp [mk_zero, neg, sgn_neg']
  · obtain ⟨h1, h2, h3⟩ := mk_facts (t := p) hq
    refine (mk_uniq hq h1 (by simpa using h3) ?_).symm
    show -(mk p q).1 * q = _
    rw [Int.neg_mul, h2, Int.neg_mul]
/-- a fraction's kinds -/
theorem kinds3 (x : Int) : (x = 0 ∧ sgn x = 0 ∧ knd (x, 0) = k0) ∨ (0 < x ∧ sgn x = 1 ∧ knd (x, 0) = kU) ∨ (x < 0 ∧ sgn x = -1 ∧ knd (x, 0) = kD) := by
  rcases Int.lt_trichotomy x 0 with h | h | h
  · exact .inr (.inr ⟨h, sgn_neg h, by simp [knd, show ¬ x = 0 by omega, show ¬ 0 < x by omega]⟩)
  · exact .inl ⟨h, by rw [h]; rfl, by simp [knd, h]⟩
  · exact .inr (.inl ⟨h, sgn_pos h, by simp [knd, show ¬ x = 0 by omega, h]⟩)
theorem knd_fin {x y : Int} (h : y ≠ 0) : knd (x, y) = kN := by simp [knd, h]
theorem kk1 : kU ≠ k0 := by decide
theorem kk2 : kD ≠ k0 := by decide
theorem kk3 : kN ≠ k0 := by decide
theorem kk4 : kU ≠ kN := by decide
theorem kk5 : kD ≠ kN := by decide
theorem kk6 : k0 ≠ kN := by decide
theorem kk7 : kU ≠ kD := by decide
theorem sgn_one : sgn 1 = 1 := rfl
theorem sgn_mone : sgn (-1) = -1 := rfl
theorem mk_01 : mk 0 1 = (0, 1) := mk_one 0
theorem mk_inf (x : Int) : mk x 0 = (sgn x, 0) := mk_zero x
theorem mk_nn (p : Int) {q : Int} (hq : q ≠ 0) : (mk p q).2 ≠ 0 := by have := (mk_facts (t := p) hq).1; omega
theorem isNan_fin {a : Int × Int} (h : a.2 ≠ 0) : isNan a = false := by simp [isNan, h]
theorem plus_mk (x y u v : Int) : plus (mk x y) (mk u v) = mk (sumF (x, y) (u, v)).1 (sumF (x, y) (u, v)).2 := by
  by_cases hy : y = 0 <;> by_cases hv : v = 0
  · subst hy; subst hv
    rw [mk_inf, mk_inf]
    rcases kinds3 x with ⟨a, b, c⟩ | ⟨a, b, c⟩ | ⟨a, b, c⟩ <;> rcases kinds3 u with ⟨a', b', c'⟩ | ⟨a', b', c'⟩ | ⟨a', b', c'⟩ <;>
    · rw [b, b']; unfold sumF; rw [c, c']; rfl
  · subst hy
    rw [mk_inf]
    have hn := mk_nn u hv
    have hk := knd_fin (x := u) hv
    rcases kinds3 x with ⟨a, b, c⟩ | ⟨a, b, c⟩ | ⟨a, b, c⟩ <;>
    · rw [b]; unfold sumF plus; rw [c, hk, isNan_fin hn]
      simp [isNan, hn]
      try rfl
  · subst hv
    rw [mk_inf]
    have hn := mk_nn x hy
    have hk := knd_fin (x := x) hy
    rcases kinds3 u with ⟨a, b, c⟩ | ⟨a, b, c⟩ | ⟨a, b, c⟩ <;>
    · rw [b]; unfold sumF plus; rw [c, hk, isNan_fin hn]
      simp [isNan, hn]
      try rfl
  · have hn := mk_nn x hy
    have hn' := mk_nn u hv
    obtain ⟨_, e1, _⟩ := mk_facts (t := x) hy
    obtain ⟨_, e2, _⟩ := mk_facts (t := u) hv
    have es : sumF (x, y) (u, v) = (x * v + u * y, y * v) := by unfold sumF; rw [knd_fin hy, knd_fin hv]; rfl
    rw [es]
    unfold plus
    rw [isNan_fin hn, isNan_fin hn']
    simp only [Bool.or_self, Bool.false_eq_true, if_false, decide_eq_false hn, decide_eq_false hn', Bool.and_self]
    exact mk_cross (Int.mul_ne_zero hn hn') (Int.mul_ne_zero hy hv) (by grind)
theorem sgn_sign (i : Int) : sgn i = i.sign := by
  unfold sgn
  split
  · exact (Int.sign_eq_one_of_pos (by assumption)).symm
  · split
    · exact (Int.sign_eq_neg_one_of_neg (by assumption)).symm
    · have : i = 0 := by omega
      subst this; rfl
theorem sgn_mul (a b : Int) : sgn (a * b) = sgn a * sgn b := by simp only [sgn_sign, Int.sign_mul]
theorem lsg_inf (x : Int) : lsg (x, 0) = sgn x := by simp [lsg]
theorem lsg_fin {x y : Int} (h : y ≠ 0) : lsg (x, y) = sgn x * sgn y := by
  unfold lsg
  dsimp only
  split
  · rw [sgn_pos (i := y) (by omega), Int.mul_one]
  · rw [sgn_neg (i := y) (by omega), sgn_neg', Int.mul_neg, Int.mul_one]
theorem sgn_mk1 (x : Int) {y : Int} (h : y ≠ 0) : sgn (mk x y).1 = lsg (x, y) := by
  obtain ⟨h1, h2, _⟩ := mk_facts (t := x) h
  rw [lsg_fin h]
  have e := congrArg sgn h2
  rw [sgn_mul, sgn_mul, sgn_pos h1, Int.mul_one] at e
  rw [← e]
  rcases Int.lt_or_lt_of_ne h with h | h
  · rw [sgn_neg h]; grind
  · rw [sgn_pos h]; grind
theorem sgn_lsg (a : Int × Int) : sgn (lsg a) = lsg a := sgn_sgn _
theorem times_mk (x y u v : Int) : times (mk x y) (mk u v) = mk (prodF (x, y) (u, v)).1 (prodF (x, y) (u, v)).2 := by
  by_cases hy : y = 0 <;> by_cases hv : v = 0
  · subst hy; subst hv
    rw [mk_inf, mk_inf]
    rcases kinds3 x with ⟨a, b, c⟩ | ⟨a, b, c⟩ | ⟨a, b, c⟩ <;> rcases kinds3 u with ⟨a', b', c'⟩ | ⟨a', b', c'⟩ | ⟨a', b', c'⟩ <;>
    · rw [b, b']; unfold prodF; rw [c, c']; simp [lsg, b, b']; rfl
  · subst hy
    rw [mk_inf]
    have hn := mk_nn u hv
    have hk := knd_fin (x := u) hv
    have hs := sgn_mk1 u hv
    rcases kinds3 x with ⟨a, b, c⟩ | ⟨a, b, c⟩ | ⟨a, b, c⟩ <;>
    · rw [b]; unfold prodF times; rw [c, hk, isNan_fin hn]
      simp [isNan, hn, hs, lsg_inf, b, mk_inf, sgn_mul, sgn_lsg, kk1, kk2, kk3, kk4, kk5, kk6, sgn_one, sgn_mone, sgn_neg']
      try rfl
  · subst hv
    rw [mk_inf]
    have hn := mk_nn x hy
    have hk := knd_fin (x := x) hy
    have hs := sgn_mk1 x hy
    rcases kinds3 u with ⟨a, b, c⟩ | ⟨a, b, c⟩ | ⟨a, b, c⟩ <;>
    · rw [b]; unfold prodF times; rw [c, hk, isNan_fin hn]
      simp [isNan, hn, hs, lsg_inf, b, mk_inf, sgn_mul, sgn_lsg, kk1, kk2, kk3, kk4, kk5, kk6, sgn_one, sgn_mone, sgn_neg']
      try rfl
  · have hn := mk_nn x hy
    have hn' := mk_nn u hv
    obtain ⟨_, e1, _⟩ := mk_facts (t := x) hy
    obtain ⟨_, e2, _⟩ := mk_facts (t := u) hv
    have es : prodF (x, y) (u, v) = (x * u, y * v) := by unfold prodF; rw [knd_fin hy, knd_fin hv]; rfl
    rw [es]
    unfold times
    rw [isNan_fin hn, isNan_fin hn']
    simp only [Bool.or_self, Bool.false_eq_true, if_false, decide_eq_false hn, decide_eq_false hn']
    exact mk_cross (Int.mul_ne_zero hn hn') (Int.mul_ne_zero hy hv) (by grind)
theorem mk1_nonneg (u : Int) {v : Int} (h : v ≠ 0) : 0 ≤ (mk u v).1 ↔ ¬ lsg (u, v) < 0 := by
  rw [← sgn_mk1 u h]
  unfold sgn
  (repeat' split) <;> constructor <;> intro <;> omega
theorem mk1_zero (u : Int) {v : Int} (h : v ≠ 0) : (mk u v).1 = 0 ↔ u = 0 := by
  obtain ⟨h1, h2, _⟩ := mk_facts (t := u) h
  constructor
  · intro e
    rw [e, Int.zero_mul] at h2
    rcases Int.mul_eq_zero.mp h2.symm with q | q
    · exact q
    · omega
  · intro e
    subst e
    rw [Int.zero_mul] at h2
    rcases Int.mul_eq_zero.mp h2 with q | q
    · exact q
    · exact absurd q h
theorem divided_mk (x y u v : Int) : divided (mk x y) (mk u v) = mk (quoF (x, y) (u, v)).1 (quoF (x, y) (u, v)).2 := by
  by_cases hy : y = 0 <;> by_cases hv : v = 0
  · subst hy; subst hv
    rw [mk_inf, mk_inf]
    rcases kinds3 x with ⟨a, b, c⟩ | ⟨a, b, c⟩ | ⟨a, b, c⟩ <;> rcases kinds3 u with ⟨a', b', c'⟩ | ⟨a', b', c'⟩ | ⟨a', b', c'⟩ <;>
    · rw [b, b']; unfold quoF; rw [c, c']; rfl
  · subst hy
    rw [mk_inf]
    have hn := mk_nn u hv
    have hk := knd_fin (x := u) hv
    have hs := mk1_nonneg u hv
    have e3 : (kN == k0) = false := by decide
    have e4 : (kN != kN) = false := by decide
    rcases kinds3 x with ⟨a, b, c⟩ | ⟨a, b, c⟩ | ⟨a, b, c⟩
    · rw [b]; unfold quoF divided; rw [c, hk]; rfl
    all_goals (
      have q1 : (knd (x, 0) == k0) = false := by rw [c]; decide
      have q2 : (knd (x, 0) != kN) = true := by rw [c]; decide
      rw [b]; unfold quoF divided; rw [hk, isNan_fin hn, q1, q2, e3, e4]
      simp only [isNan, hn, hs, lsg_inf, b, neg, decide_false, decide_true, Bool.false_eq_true, if_false, if_true, Bool.or_self, Bool.and_false, Bool.or_false, decide_eq_true_eq, Bool.false_and, Bool.true_and, Int.reduceNeg, Int.reduceEq]
      by_cases hl : lsg (u, v) < 0
      · rw [if_neg (by simpa using hl), if_pos hl]; rfl
      · rw [if_pos hl, if_neg hl]; rfl)
  · subst hv
    rw [mk_inf]
    have hn := mk_nn x hy
    have hk := knd_fin (x := x) hy
    rcases kinds3 u with ⟨a, b, c⟩ | ⟨a, b, c⟩ | ⟨a, b, c⟩ <;>
    · rw [b]; unfold quoF divided; rw [c, hk, isNan_fin hn]
      simp [isNan, hn, kk1, kk2, kk3, kk4, kk5, kk6, mk_01]
      try rfl
  · have hn := mk_nn x hy
    have hn' := mk_nn u hv
    obtain ⟨_, e1, _⟩ := mk_facts (t := x) hy
    obtain ⟨_, e2, _⟩ := mk_facts (t := u) hv
    have hz := mk1_zero u hv
    unfold divided
    rw [isNan_fin hn, isNan_fin hn']
    simp only [Bool.or_self, Bool.false_eq_true, if_false, decide_eq_false hn, decide_eq_false hn']
    unfold quoF
    rw [knd_fin hy, knd_fin hv]
    by_cases hu : u = 0
    · have : (mk u v).1 = 0 := hz.mpr hu
      rw [this]
      subst hu
      simp only [decide_true, if_true, sgn_mk1 x hy]
      show (lsg (x, y), 0) = mk (lsg (x, y)) 0
      rw [mk_inf, sgn_lsg]
    · have hu' : (mk u v).1 ≠ 0 := fun e => hu (hz.mp e)
      have es : ∀ c : Int × Int, (if ((kN == k0 || kN == k0) || ((kN != kN) && (kN != kN))) = true then (0, 0) else if (kN != kN) = true then (0, 1) else if (kN != kN) = true then c else if decide (u = 0) = true then (lsg (x, y), 0) else (x * v, y * u)) = (x * v, y * u) := fun c => by rw [decide_eq_false hu]; rfl
      rw [es, decide_eq_false hu']
      simp only [Bool.false_eq_true, if_false]
      exact mk_cross (Int.mul_ne_zero hn hu') (Int.mul_ne_zero hy hu) (by grind)

theorem tdiv_mul (a b : Int) {d : Int} (h : d ≠ 0) : (a * d).tdiv (b * d) = a.tdiv b := by
  rcases Int.lt_or_lt_of_ne h with h | h
  · have e := @Int.mul_tdiv_mul_of_pos_left a (-d) b (by omega)
    rw [Int.mul_neg, Int.mul_neg, Int.tdiv_neg, Int.neg_tdiv, Int.neg_neg] at e
    exact e
  · exact @Int.mul_tdiv_mul_of_pos_left a d b h
theorem tdiv_cross {a b c d : Int} (hb : b ≠ 0) (hd : d ≠ 0) (e : a * d = c * b) : a.tdiv b = c.tdiv d := by
  rw [← tdiv_mul a b hd, e, Int.mul_comm b d, tdiv_mul c d hb]
theorem fdiv_mul (a b : Int) {d : Int} (h : d ≠ 0) : (a * d).fdiv (b * d) = a.fdiv b := by
  rcases Int.lt_or_lt_of_ne h with h | h
  · have e := @Int.mul_fdiv_mul_of_pos_left a (-d) b (by omega)
    rw [Int.mul_neg, Int.mul_neg, Int.neg_fdiv_neg] at e
    exact e
  · exact @Int.mul_fdiv_mul_of_pos_left a d b h
theorem fdiv_cross {a b c d : Int} (hb : b ≠ 0) (hd : d ≠ 0) (e : a * d = c * b) : a.fdiv b = c.fdiv d := by
  rw [← fdiv_mul a b hd, e, Int.mul_comm b d, fdiv_mul c d hb]
theorem cut_tdiv {a : Int × Int} (h : 0 < a.2) : cut a = a.1.tdiv a.2 := by
  unfold cut
  split
  · rw [Int.fdiv_eq_tdiv_of_nonneg (by omega) (by omega)]
    congr 1; omega
  · rw [Int.fdiv_eq_tdiv_of_nonneg (by omega) (by omega), show ((a.1.natAbs : Nat) : Int) = -a.1 by omega, Int.neg_tdiv, Int.neg_neg]
theorem rest_tmod {A D : Int} (hD : 0 < D) : (if decide (0 ≤ A) = true then A.fmod D else -(-A).fmod D) = A.tmod D := by
  by_cases h : 0 ≤ A
  · rw [decide_eq_true h, if_pos rfl, Int.fmod_eq_tmod_of_nonneg h (by omega)]
  · rw [decide_eq_false h, if_neg (by decide), Int.fmod_eq_tmod_of_nonneg (by omega) (by omega), Int.neg_tmod, Int.neg_neg]
theorem modulo_mk (x y u v : Int) : modulo (mk x y) (mk u v) = mk (restF (x, y) (u, v)).1 (restF (x, y) (u, v)).2 := by
  by_cases hy : y = 0
  · subst hy
    rw [mk_inf]
    have e1 : modulo (sgn x, 0) (mk u v) = (0, 0) := by
      unfold modulo
      rw [if_pos]
      simp
    have e2 : restF (x, 0) (u, v) = (0, 0) := by
      unfold restF
      rw [if_pos]
      rcases kinds3 x with ⟨a, b, c⟩ | ⟨a, b, c⟩ | ⟨a, b, c⟩ <;> rw [c] <;> simp [kk1, kk2, kk3, kk4, kk5, kk6]
    rw [e1, e2]; rfl
  have hn := mk_nn x hy
  have hk := knd_fin (x := x) hy
  by_cases hv : v = 0
  · subst hv
    rw [mk_inf]
    rcases kinds3 u with ⟨a, b, c⟩ | ⟨a, b, c⟩ | ⟨a, b, c⟩ <;>
    · rw [b]; unfold restF modulo; rw [c, hk, isNan_fin hn]
      simp [isNan, hn, kk1, kk2, kk3, kk4, kk5, kk6]
      try rfl
  have hn' := mk_nn u hv
  have hk' := knd_fin (x := u) hv
  have hz := mk1_zero u hv
  by_cases hu : u = 0
  · have : (mk u v).1 = 0 := hz.mpr hu
    subst hu
    unfold restF modulo
    rw [hk, hk', isNan_fin hn, isNan_fin hn', this]
    simp [kk3]
    rfl
  have hu' : (mk u v).1 ≠ 0 := fun e => hu (hz.mp e)
  obtain ⟨p1, e1, _⟩ := mk_facts (t := x) hy
  obtain ⟨p2, e2, _⟩ := mk_facts (t := u) hv
  have hD : 0 < ((u * (y.natAbs : Int) * v.sign).natAbs : Int) := by
    have := abs_sign_ne hy hv hu
    generalize (u * (y.natAbs : Int) * v.sign) = q at *
    omega
  have es : restF (x, y) (u, v) = ((x * (v.natAbs : Int) * y.sign).tmod ((u * (y.natAbs : Int) * v.sign).natAbs : Int), ((y * v).natAbs : Int)) := by
    unfold restF
    rw [hk, hk', fd_abs1 hy, fd_abs2 hv, rest_tmod hD, decide_eq_false hu]
    rfl
  have em : modulo (mk x y) (mk u v) = minus (mk x y) (times (mk (cut (divided (mk x y) (mk u v))) 1) (mk u v)) := by
    unfold modulo
    rw [isNan_fin hn, isNan_fin hn', decide_eq_false hn, decide_eq_false hn', decide_eq_false hu']
    rfl
  have hq := mk_facts (t := (mk x y).1 * (mk u v).2) (Int.mul_ne_zero hn hu')
  have hc : cut (divided (mk x y) (mk u v)) = ((mk x y).1 * (mk u v).2).tdiv ((mk x y).2 * (mk u v).1) := by
    have : divided (mk x y) (mk u v) = mk ((mk x y).1 * (mk u v).2) ((mk x y).2 * (mk u v).1) := by
      unfold divided
      rw [isNan_fin hn, isNan_fin hn', decide_eq_false hn, decide_eq_false hn', decide_eq_false hu']
      rfl
    rw [this, cut_tdiv hq.1]
    exact tdiv_cross (by omega) (Int.mul_ne_zero hn hu') hq.2.1
  have ht : times (mk (cut (divided (mk x y) (mk u v))) 1) (mk u v) = mk (cut (divided (mk x y) (mk u v)) * (mk u v).1) (mk u v).2 := by
    rw [mk_one]
    unfold times
    rw [isNan_fin (a := (_, 1)) (Int.one_ne_zero), isNan_fin hn', decide_eq_false hn']
    show mk _ (1 * _) = _
    rw [Int.one_mul]
  rw [es, em, ht]
  unfold minus
  rw [neg_mk]
  have e3 := plus_mk (mk x y).1 (mk x y).2 (-(cut (divided (mk x y) (mk u v)) * (mk u v).1)) (mk u v).2
  rw [show mk (mk x y).1 (mk x y).2 = mk x y from mk_low p1 (mk_facts (t := x) hy).2.2] at e3
  rw [e3]
  have es2 : ∀ p q r t : Int, q ≠ 0 → t ≠ 0 → sumF (p, q) (r, t) = (p * t + r * q, q * t) := fun p q r t h h' => by unfold sumF; rw [knd_fin h, knd_fin h']; rfl
  rw [es2 _ _ _ _ hn hn']
  dsimp only
  refine mk_cross (Int.mul_ne_zero hn hn') (by have := Int.mul_ne_zero hy hv; omega) ?_
  rw [hc]
  have hA : (x * (v.natAbs : Int) * y.sign) * ((mk x y).2 * (mk u v).2) = ((mk x y).1 * (mk u v).2) * ((y * v).natAbs : Int) := by
    rw [Int.natAbs_mul, Int.natCast_mul, ← Int.mul_sign_self y]
    grind
  have hD2 : ((u * (y.natAbs : Int) * v.sign).natAbs : Int) * ((mk x y).2 * (mk u v).2) = (((mk x y).2 * (mk u v).1)).sign * ((mk x y).2 * (mk u v).1) * ((y * v).natAbs : Int) := by
    have a1 : (u.natAbs : Int) * (mk u v).2 = ((mk u v).1.natAbs : Int) * (v.natAbs : Int) := by
      have := congrArg (fun i : Int => (i.natAbs : Int)) e2
      simp only [Int.natAbs_mul, Int.natCast_mul] at this
      rw [this]; congr 1; omega
    have a2 : ((u * (y.natAbs : Int) * v.sign).natAbs : Int) = (u.natAbs : Int) * (y.natAbs : Int) := by
      rw [Int.natAbs_mul, Int.natAbs_mul, Int.natAbs_sign_of_ne_zero hv]; simp
    have a3 : (((mk x y).2 * (mk u v).1)).sign * ((mk x y).2 * (mk u v).1) = (mk x y).2 * ((mk u v).1.natAbs : Int) := by
      rw [Int.mul_comm, Int.mul_sign_self, Int.natAbs_mul, Int.natCast_mul]; congr 1; omega
    rw [a2, a3, Int.natAbs_mul, Int.natCast_mul]
    grind
  have hT : ((mk x y).1 * (mk u v).2).tdiv ((mk x y).2 * (mk u v).1) = (((mk x y).2 * (mk u v).1)).sign * (x * (v.natAbs : Int) * y.sign).tdiv ((u * (y.natAbs : Int) * v.sign).natAbs : Int) := by
    have hb : ((y * v).natAbs : Int) ≠ 0 := by have := Int.mul_ne_zero hy hv; omega
    have hk0 : (mk x y).2 * (mk u v).1 ≠ 0 := Int.mul_ne_zero hn hu'
    have hs1 : (((mk x y).2 * (mk u v).1)).sign = 1 ∨ (((mk x y).2 * (mk u v).1)).sign = -1 := by
      rcases Int.lt_or_lt_of_ne hk0 with h | h
      · exact .inr (Int.sign_eq_neg_one_of_neg h)
      · exact .inl (Int.sign_eq_one_of_pos h)
    have hsk : (((mk x y).2 * (mk u v).1)).sign * ((mk x y).2 * (mk u v).1) ≠ 0 := by
      refine Int.mul_ne_zero ?_ hk0
      rcases hs1 with h | h <;> rw [h] <;> decide
    have hc2 := tdiv_cross (a := x * (v.natAbs : Int) * y.sign) (b := ((u * (y.natAbs : Int) * v.sign).natAbs : Int)) (c := (mk x y).1 * (mk u v).2) (d := (((mk x y).2 * (mk u v).1)).sign * ((mk x y).2 * (mk u v).1)) (by omega) hsk (by
      refine Int.eq_of_mul_eq_mul_right (Int.mul_ne_zero hb (Int.mul_ne_zero hn hn')) ?_
      generalize ((u * (y.natAbs : Int) * v.sign).natAbs : Int) = D at *
      generalize (x * (v.natAbs : Int) * y.sign) = A at *
      generalize ((y * v).natAbs : Int) = b at *
      generalize (((mk x y).2 * (mk u v).1)).sign = s at *
      grind)
    rw [hc2]
    rcases hs1 with h | h <;> rw [h]
    · rw [Int.one_mul, Int.one_mul]
    · rw [Int.neg_one_mul, Int.neg_one_mul, Int.tdiv_neg, Int.neg_neg]
  rw [hT]
  have hm := Int.tmod_add_mul_tdiv (x * (v.natAbs : Int) * y.sign) ((u * (y.natAbs : Int) * v.sign).natAbs : Int)
  generalize (x * (v.natAbs : Int) * y.sign).tdiv ((u * (y.natAbs : Int) * v.sign).natAbs : Int) = t at *
  generalize (x * (v.natAbs : Int) * y.sign).tmod ((u * (y.natAbs : Int) * v.sign).natAbs : Int) = r at *
  generalize ((u * (y.natAbs : Int) * v.sign).natAbs : Int) = D at *
  generalize (x * (v.natAbs : Int) * y.sign) = A at *
  generalize ((y * v).natAbs : Int) = b at *
  generalize (((mk x y).2 * (mk u v).1)).sign = s at *
  generalize (mk x y).1 = m1 at *
  generalize (mk x y).2 = m2 at *
  generalize (mk u v).1 = n1 at *
  generalize (mk u v).2 = n2 at *
  have hr : r = A - D * t := by omega
  rw [hr]
  grind

theorem mk2_zero (x y : Int) : (mk x y).2 = 0 ↔ y = 0 := by
  constructor
  · intro h
    exact Classical.byContradiction fun hy => mk_nn x hy h
  · intro h; subst h; rw [mk_inf]
theorem rk_fin {x y : Int} (h : y ≠ 0) : rk (x, y) = 0 := by simp [rk, h]
theorem rk_inf (x : Int) : rk (x, 0) = sgn x := by simp [rk, lsg_inf]
theorem ord_inf {x y u v : Int} (h : y = 0 ∨ v = 0) : order (mk x y) (mk u v) = sgn (rk (x, y) - rk (u, v)) := by
  unfold order
  rw [if_pos (by simpa [mk2_zero] using h)]
  congr 2
  · by_cases hy : y = 0
    · subst hy; rw [mk_inf, rk_inf]; simp
    · rw [rk_fin hy, decide_eq_false (mk_nn x hy)]; rfl
  · by_cases hv : v = 0
    · subst hv; rw [mk_inf, rk_inf]; simp
    · rw [rk_fin hv, decide_eq_false (mk_nn u hv)]; rfl
theorem ord_fin {x y u v : Int} (hy : y ≠ 0) (hv : v ≠ 0) : order (mk x y) (mk u v) = sgn ((x * v - u * y) * (y * v)) := by
  have hn := mk_nn x hy
  have hn' := mk_nn u hv
  obtain ⟨p1, e1, _⟩ := mk_facts (t := x) hy
  obtain ⟨p2, e2, _⟩ := mk_facts (t := u) hv
  unfold order
  rw [decide_eq_false hn, decide_eq_false hn', if_neg (by decide)]
  have hp : 0 < (mk x y).2 * (mk u v).2 := Int.mul_pos p1 p2
  have hq : 0 < (y * v) * (y * v) := by
    have h0 := Int.mul_ne_zero hy hv
    rcases Int.lt_or_lt_of_ne h0 with h | h
    · exact Int.mul_pos_of_neg_of_neg h h
    · exact Int.mul_pos h h
  have key : ((mk x y).1 * (mk u v).2 - (mk u v).1 * (mk x y).2) * ((y * v) * (y * v)) = ((x * v - u * y) * (y * v)) * ((mk x y).2 * (mk u v).2) := by grind
  have := congrArg sgn key
  rw [sgn_mul, sgn_pos hq, Int.mul_one, sgn_mul ((x * v - u * y) * (y * v)), sgn_pos hp, Int.mul_one] at this
  exact this
theorem sgn_lt (i : Int) : sgn i < 0 ↔ i < 0 := by
  unfold sgn
  (repeat' split) <;> constructor <;> intro <;> omega
theorem sgn_gt (i : Int) : 0 < sgn i ↔ 0 < i := by
  unfold sgn
  (repeat' split) <;> constructor <;> intro <;> omega
theorem less_inf {x y u v : Int} (h : y = 0 ∨ v = 0) : lessF (x, y) (u, v) = decide (rk (x, y) < rk (u, v)) := by
  unfold lessF
  rw [if_pos (by simpa using h)]
theorem less_fin {x y u v : Int} (hy : y ≠ 0) (hv : v ≠ 0) : lessF (x, y) (u, v) = decide ((x * v - u * y) * (y * v) < 0) := by
  unfold lessF
  rw [if_neg (by simp [hy, hv])]
  have h0 := Int.mul_ne_zero hy hv
  have e : (x * v - u * y) * (y * v) < 0 ↔ sgn (x * v - u * y) * sgn (y * v) < 0 := by rw [← sgn_mul, sgn_lt]
  rw [decide_eq_decide, e]
  dsimp only
  split
  · rename_i h
    simp only [sgn_pos h, Int.mul_one, sgn_lt]; omega
  · rename_i h
    have hneg : y * v < 0 := by omega
    simp only [sgn_neg hneg, Int.mul_neg, Int.mul_one]
    have := sgn_gt (x * v - u * y)
    omega
theorem less_ord (x y u v : Int) : lessF (x, y) (u, v) = decide (order (mk x y) (mk u v) < 0) ∧ lessF (u, v) (x, y) = decide (0 < order (mk x y) (mk u v)) := by
  by_cases h : y = 0 ∨ v = 0
  · rw [less_inf h, less_inf h.symm, ord_inf h, decide_eq_decide, decide_eq_decide, sgn_lt, sgn_gt]
    constructor <;> constructor <;> intro <;> omega
  · have hy : y ≠ 0 := fun e => h (.inl e)
    have hv : v ≠ 0 := fun e => h (.inr e)
    rw [less_fin hy hv, less_fin hv hy, ord_fin hy hv, decide_eq_decide, decide_eq_decide, sgn_lt, sgn_gt]
    refine ⟨Iff.rfl, ?_⟩
    have : (u * y - x * v) * (v * y) = -((x * v - u * y) * (y * v)) := by grind
    rw [this]; omega
theorem isNan_mk (x y : Int) : isNan (mk x y) = (knd (x, y) == k0) := by
  by_cases hy : y = 0
  · subst hy
    rw [mk_inf]
    rcases kinds3 x with ⟨a, b, c⟩ | ⟨a, b, c⟩ | ⟨a, b, c⟩ <;> rw [b, c] <;> decide
  · rw [isNan_fin (mk_nn x hy), knd_fin hy]; decide

def ops : List Str := [Str.ofString "=", Str.ofString "!=", Str.ofString "<", Str.ofString "<=", Str.ofString ">", Str.ofString ">="]
def opT (vals : List Bool) (ta tb : Int × Int) : V → List V
  | .str k => if (cmpN k ta tb != ((ops.zip vals).lookup k).getD false) = true then [.str k] else []
  | _ => []
def letsV (a b : Int × Int) : List Bool :=
  if (!(knd a == k0 || knd b == k0)) = true then [!lessF a b && !lessF b a, lessF a b || lessF b a, lessF a b, !lessF b a, lessF b a, !lessF a b] else [false, true, false, false, false, false]
def compR (a b ta tb : Int × Int) : Bool := ((ops.map V.str).flatMap (opT (letsV a b) ta tb)).isEmpty
theorem opT_0 {b0 b1 b2 b3 b4 b5 : Bool} {ta tb : Int × Int} : opT [b0, b1, b2, b3, b4, b5] ta tb (.str (Str.ofString "=")) = if (cmpN (Str.ofString "=") ta tb != b0) = true then [.str (Str.ofString "=")] else [] := by
  have : ((ops.zip [b0, b1, b2, b3, b4, b5]).lookup (Str.ofString "=")).getD false = b0 := rfl
  simp only [opT, this]
theorem opT_1 {b0 b1 b2 b3 b4 b5 : Bool} {ta tb : Int × Int} : opT [b0, b1, b2, b3, b4, b5] ta tb (.str (Str.ofString "!=")) = if (cmpN (Str.ofString "!=") ta tb != b1) = true then [.str (Str.ofString "!=")] else [] := by
  have : ((ops.zip [b0, b1, b2, b3, b4, b5]).lookup (Str.ofString "!=")).getD false = b1 := rfl
  simp only [opT, this]
theorem opT_2 {b0 b1 b2 b3 b4 b5 : Bool} {ta tb : Int × Int} : opT [b0, b1, b2, b3, b4, b5] ta tb (.str (Str.ofString "<")) = if (cmpN (Str.ofString "<") ta tb != b2) = true then [.str (Str.ofString "<")] else [] := by
  have : ((ops.zip [b0, b1, b2, b3, b4, b5]).lookup (Str.ofString "<")).getD false = b2 := rfl
  simp only [opT, this]
theorem opT_3 {b0 b1 b2 b3 b4 b5 : Bool} {ta tb : Int × Int} : opT [b0, b1, b2, b3, b4, b5] ta tb (.str (Str.ofString "<=")) = if (cmpN (Str.ofString "<=") ta tb != b3) = true then [.str (Str.ofString "<=")] else [] := by
  have : ((ops.zip [b0, b1, b2, b3, b4, b5]).lookup (Str.ofString "<=")).getD false = b3 := rfl
  simp only [opT, this]
theorem opT_4 {b0 b1 b2 b3 b4 b5 : Bool} {ta tb : Int × Int} : opT [b0, b1, b2, b3, b4, b5] ta tb (.str (Str.ofString ">")) = if (cmpN (Str.ofString ">") ta tb != b4) = true then [.str (Str.ofString ">")] else [] := by
  have : ((ops.zip [b0, b1, b2, b3, b4, b5]).lookup (Str.ofString ">")).getD false = b4 := rfl
  simp only [opT, this]
theorem opT_5 {b0 b1 b2 b3 b4 b5 : Bool} {ta tb : Int × Int} : opT [b0, b1, b2, b3, b4, b5] ta tb (.str (Str.ofString ">=")) = if (cmpN (Str.ofString ">=") ta tb != b5) = true then [.str (Str.ofString ">=")] else [] := by
  have : ((ops.zip [b0, b1, b2, b3, b4, b5]).lookup (Str.ofString ">=")).getD false = b5 := rfl
  simp only [opT, this]


theorem opT_len (vals : List Bool) (ta tb : Int × Int) (d : V) : (opT vals ta tb d).length ≤ 1 := by
  cases d with
  | str k =>
    simp only [opT]
    split <;> simp
  | _ => simp [opT]
theorem flat_len' (vals : List Bool) (ta tb : Int × Int) : ∀ l : List V, (l.flatMap (opT vals ta tb)).length ≤ l.length
  | [] => by simp
  | d :: l => by
    have h1 := opT_len vals ta tb d
    have h2 := flat_len' vals ta tb l
    rw [List.flatMap_cons, List.length_append, List.length_cons]
    omega
theorem flat_len {vals : List Bool} {ta tb : Int × Int} (l : List V) (n : Nat) (h : l.length ≤ n) : (l.flatMap (opT vals ta tb)).length ≤ n := Nat.le_trans (flat_len' vals ta tb l) h
theorem compR_true (x y u v : Int) : compR (x, y) (u, v) (mk x y) (mk u v) = true := by
  have hnan : (isNan (mk x y) || isNan (mk u v)) = (knd (x, y) == k0 || knd (u, v) == k0) := by rw [isNan_mk, isNan_mk]
  have ho : ops.map V.str = [.str (Str.ofString "="), .str (Str.ofString "!="), .str (Str.ofString "<"), .str (Str.ofString "<="), .str (Str.ofString ">"), .str (Str.ofString ">=")] := rfl
  unfold compR letsV
  rw [ho]
  have n1 : (Str.ofString "!=" == Str.ofString "=") = false := by decide
  have n2 : (Str.ofString "<" == Str.ofString "=") = false := by decide
  have n3 : (Str.ofString "<" == Str.ofString "!=") = false := by decide
  have n4 : (Str.ofString "<=" == Str.ofString "=") = false := by decide
  have n5 : (Str.ofString "<=" == Str.ofString "!=") = false := by decide
  have n6 : (Str.ofString "<=" == Str.ofString "<") = false := by decide
  have n7 : (Str.ofString ">" == Str.ofString "=") = false := by decide
  have n8 : (Str.ofString ">" == Str.ofString "!=") = false := by decide
  have n9 : (Str.ofString ">" == Str.ofString "<") = false := by decide
  have n10 : (Str.ofString ">" == Str.ofString "<=") = false := by decide
  have n11 : (Str.ofString ">=" == Str.ofString "=") = false := by decide
  have n12 : (Str.ofString ">=" == Str.ofString "!=") = false := by decide
  have n13 : (Str.ofString ">=" == Str.ofString "<") = false := by decide
  have n14 : (Str.ofString ">=" == Str.ofString "<=") = false := by decide
  have n15 : (Str.ofString ">=" == Str.ofString ">") = false := by decide
  have n16 : (Str.ofString "=" == Str.ofString "!=") = false := by decide
  cases hk : (knd (x, y) == k0 || knd (u, v) == k0) with
  | true =>
    rw [hk] at hnan
    have hc : ∀ op, cmpN op (mk x y) (mk u v) = (op == Str.ofString "!=") := fun op => by unfold cmpN; rw [hnan]; rfl
    simp only [Bool.not_true, Bool.false_eq_true, if_false, List.flatMap_cons, List.flatMap_nil, opT_0, opT_1, opT_2, opT_3, opT_4, opT_5, hc, n3, n5, n8, n12, n16, beq_self_eq_true, bne_self_eq_false, List.append_nil, List.isEmpty_nil]
  | false =>
    rw [hk] at hnan
    obtain ⟨l1, l2⟩ := less_ord x y u v
    have hc : ∀ op, cmpN op (mk x y) (mk u v) = if (op == Str.ofString "=") = true then decide (order (mk x y) (mk u v) = 0)
        else if (op == Str.ofString "!=") = true then !decide (order (mk x y) (mk u v) = 0)
        else if (op == Str.ofString "<") = true then decide (order (mk x y) (mk u v) < 0)
        else if (op == Str.ofString "<=") = true then decide (order (mk x y) (mk u v) ≤ 0)
        else if (op == Str.ofString ">") = true then decide (0 < order (mk x y) (mk u v))
        else decide (0 ≤ order (mk x y) (mk u v)) := fun op => by
      unfold cmpN
      rw [hnan]
      rfl
    rw [l1, l2]
    simp only [Bool.not_false, if_true, List.flatMap_cons, List.flatMap_nil, opT_0, opT_1, opT_2, opT_3, opT_4, opT_5, hc, n1, n2, n3, n4, n5, n6, n7, n8, n9, n10, n11, n12, n13, n14, n15, beq_self_eq_true, Bool.false_eq_true, if_false]
    generalize order (mk x y) (mk u v) = o
    rcases Int.lt_trichotomy o 0 with h | h | h
    · have h1 : ¬ o = 0 := by omega
      have h2 : ¬ 0 < o := by omega
      have h3 : o ≤ 0 := by omega
      have h4 : ¬ 0 ≤ o := by omega
      simp [h, h1, h2, h3, h4]
    · subst h; rfl
    · have h1 : ¬ o = 0 := by omega
      have h2 : ¬ o < 0 := by omega
      have h3 : ¬ o ≤ 0 := by omega
      have h4 : 0 ≤ o := by omega
      simp [h, h1, h2, h3, h4]

def wholeB (a t : Int × Int) : Bool :=
  if a.2 = 0 then decide (flo t = t) && (decide (cei t = t) && decide (rou t = t))
  else if (!decide (flo t = (a.1.fdiv a.2, 1)) || !decide (cei t = (-((-a.1).fdiv a.2), 1))) = true then false
  else decide (rou t = ((2 * a.1 + a.2).fdiv (2 * a.2), 1))
theorem whole_true (x y : Int) : wholeB (x, y) (mk x y) = true := by
  unfold wholeB
  by_cases hy : y = 0
  · subst hy
    rw [if_pos rfl, mk_inf]
    have h1 : flo (sgn x, 0) = (sgn x, 0) := by simp [flo]
    have h2 : cei (sgn x, 0) = (sgn x, 0) := by simp [cei, flo, neg]
    have h3 : rou (sgn x, 0) = (sgn x, 0) := by
      unfold rou
      have : plus (sgn x, 0) (1, 2) = (sgn x, 0) := by
        rcases kinds3 x with ⟨a, b, c⟩ | ⟨a, b, c⟩ | ⟨a, b, c⟩ <;> rw [b] <;> rfl
      rw [this]; exact h1
    rw [h1, h2, h3]; simp
  · rw [if_neg hy]
    have hn := mk_nn x hy
    obtain ⟨p1, e1, _⟩ := mk_facts (t := x) hy
    have h1 : ∀ p q : Int, q ≠ 0 → flo (p, q) = (p.fdiv q, 1) := fun p q h => by simp [flo, h]
    have hm : mk x y = ((mk x y).1, (mk x y).2) := rfl
    have f1 : flo (mk x y) = (x.fdiv y, 1) := by rw [hm, h1 _ _ hn, fdiv_cross hn hy e1]
    have f2 : cei (mk x y) = (-((-x).fdiv y), 1) := by
      unfold cei
      have : neg (mk x y) = (-(mk x y).1, (mk x y).2) := rfl
      rw [this, h1 _ _ hn, fdiv_cross hn hy (c := -x) (by rw [Int.neg_mul, e1, Int.neg_mul])]
      rfl
    have f3 : rou (mk x y) = ((2 * x + y).fdiv (2 * y), 1) := by
      unfold rou
      have : plus (mk x y) (1, 2) = mk ((mk x y).1 * 2 + 1 * (mk x y).2) ((mk x y).2 * 2) := by
        unfold plus
        rw [isNan_fin hn, isNan_fin (a := (1, 2)) (by show (2 : Int) ≠ 0; decide), decide_eq_false hn]
        rfl
      have hn2 : (mk x y).2 * 2 ≠ 0 := by omega
      obtain ⟨p2, e2, _⟩ := mk_facts (t := (mk x y).1 * 2 + 1 * (mk x y).2) hn2
      have hq : (mk ((mk x y).1 * 2 + 1 * (mk x y).2) ((mk x y).2 * 2)).2 ≠ 0 := by omega
      rw [this]
      have hm2 : ∀ z : Int × Int, z = (z.1, z.2) := fun _ => rfl
      rw [hm2 (mk ((mk x y).1 * 2 + 1 * (mk x y).2) ((mk x y).2 * 2)), h1 _ _ hq, fdiv_cross hq hn2 e2, fdiv_cross hn2 (d := 2 * y) (c := 2 * x + y) (by omega) (by grind)]
    rw [f1, f2, f3]; simp

theorem strip_of {A C t : List Nat} {c d : Nat} (hA : ∀ x ∈ A, isSp x = true) (hC : ∀ x ∈ C, isSp x = true) (h1 : t.head? = some c) (hc : isSp c = false) (h2 : t.getLast? = some d) (hd : isSp d = false) : strip (A ++ t ++ C) = t := by
  unfold strip
  have e1 : (A ++ t ++ C).dropWhile isSp = t ++ C := by
    rw [List.append_assoc, List.dropWhile_append_of_pos hA]
    cases t with
    | nil => simp at h1
    | cons x r =>
      simp at h1; subst h1
      rw [List.cons_append, List.dropWhile_cons_of_neg (by rw [hc]; decide)]
  rw [e1, List.reverse_append, List.dropWhile_append_of_pos (fun x hx => hC x (List.mem_reverse.mp hx))]
  have e2 : t.reverse.dropWhile isSp = t.reverse := by
    have hr : t.reverse.head? = some d := by rw [List.head?_reverse]; exact h2
    cases hq : t.reverse with
    | nil => rw [hq] at hr; simp at hr
    | cons x r =>
      rw [hq] at hr; simp at hr; subst hr
      rw [List.dropWhile_cons_of_neg (by rw [hd]; decide)]
  rw [e2, List.reverse_reverse]
theorem dig_not_sp {c : Nat} (h : isDig c = true) : isSp c = false := by
  unfold isDig at h
  rw [decide_eq_true_eq] at h
  simp only [digs, List.mem_cons, List.not_mem_nil, or_false] at h
  rcases h with rfl | rfl | rfl | rfl | rfl | rfl | rfl | rfl | rfl | rfl <;> decide
theorem dig_ne {c : Nat} (h : isDig c = true) : c ≠ 45 ∧ c ≠ 46 := by
  unfold isDig at h
  rw [decide_eq_true_eq] at h
  simp only [digs, List.mem_cons, List.not_mem_nil, or_false] at h
  omega
theorem tw_all {p : Nat → Bool} : ∀ {l r : List Nat}, (∀ c ∈ l, p c = true) → (∀ c, r.head? = some c → p c = false) → (l ++ r).takeWhile p = l
  | [], r, _, h => by
    cases r with
    | nil => rfl
    | cons c r => rw [List.nil_append, List.takeWhile_cons_of_neg (by rw [h c rfl]; decide)]
  | a :: l, r, hl, h => by
    rw [List.cons_append, List.takeWhile_cons_of_pos (hl a (.head _)), tw_all (fun c hc => hl c (.tail _ hc)) h]
/-- the reading of a text without spaces -/
def sgnT (b : Bool) : List Nat := if b = true then [45] else []
def sgnV (b : Bool) (a : Int × Int) : Int × Int := if b = true then neg a else a
theorem readB_whole {b : Bool} {W : List Nat} (hW : ∀ c ∈ W, isDig c = true) (h0 : W ≠ []) : readB (sgnT b ++ W) (sgnT b).length = sgnV b (mk (val W) 1) := by
  have hd : digEnd (sgnT b ++ W) (sgnT b).length = (sgnT b ++ W).length := by
    unfold digEnd
    rw [List.drop_left, ← List.append_nil W, tw_all hW (fun c h => by simp at h)]
    simp
  unfold readB readAt
  rw [hd, List.drop_of_length_le (i := (sgnT b ++ W).length) (by rw [List.length_take]; omega), if_neg (by decide +kernel), List.take_length, List.drop_left, List.append_nil]
  unfold readEnd
  rw [if_neg (by rw [S_inj]; simp [h0])]
  cases b
  · rw [if_neg (by decide)]; rfl
  · rw [if_pos (by decide)]; rfl
theorem readB_frac {b : Bool} {W F : List Nat} (hW : ∀ c ∈ W, isDig c = true) (hF : ∀ c ∈ F, isDig c = true) (h0 : W ++ F ≠ []) : readB (sgnT b ++ W ++ [46] ++ F) (sgnT b).length = sgnV b (mk (val (W ++ F)) (10 ^ F.length)) := by
  have hd : digEnd (sgnT b ++ W ++ [46] ++ F) (sgnT b).length = (sgnT b ++ W).length := by
    unfold digEnd
    rw [List.append_assoc, List.append_assoc, List.drop_left, tw_all hW (fun c h => by simp at h; subst h; decide)]
    simp
  have hd2 : digEnd (sgnT b ++ W ++ [46] ++ F) ((sgnT b ++ W).length + 1) = (sgnT b ++ W ++ [46] ++ F).length := by
    unfold digEnd
    have : (sgnT b ++ W).length + 1 = (sgnT b ++ W ++ [46]).length := by simp only [List.length_append, List.length_cons, List.length_nil]
    rw [this, List.drop_left, ← List.append_nil F, tw_all hF (fun c h => by simp at h)]
    simp only [List.length_append, List.length_cons, List.length_nil, List.append_nil]
  have e1 : ((sgnT b ++ W ++ [46] ++ F).take ((sgnT b ++ W).length + 1)).drop (sgnT b ++ W).length = [46] := by
    have : (sgnT b ++ W).length + 1 = (sgnT b ++ W ++ [46]).length := by simp only [List.length_append, List.length_cons, List.length_nil]
    rw [this, List.take_left, List.drop_left]
  have e2 : ((sgnT b ++ W ++ [46] ++ F).take (sgnT b ++ W).length).drop (sgnT b).length = W := by
    rw [List.append_assoc, List.take_left, List.drop_left]
  have e3 : ((sgnT b ++ W ++ [46] ++ F).take (sgnT b ++ W ++ [46] ++ F).length).drop ((sgnT b ++ W).length + 1) = F := by
    have : (sgnT b ++ W).length + 1 = (sgnT b ++ W ++ [46]).length := by simp only [List.length_append, List.length_cons, List.length_nil]
    rw [List.take_length, this, List.drop_left]
  unfold readB readAt
  rw [hd, e1, hd2, e2, e3, if_pos (by decide +kernel)]
  unfold readEnd
  rw [if_neg (by rw [S_inj]; simpa using h0)]
  cases b
  · rw [if_neg (by decide)]; rfl
  · rw [if_pos (by decide)]; rfl

theorem readN_strip {l t : List Nat} {b : Bool} {r : Int × Int} (hs : strip l = t) (hb : (S (t.take 1) == Str.ofString "-") = b) (hr : readB t (sgnT b).length = r) : readN l = r := by
  unfold readN
  rw [hs, hb, ← hr]
  cases b <;> rfl
theorem head_sgn {b : Bool} {c : Nat} {r : List Nat} (hc : c ≠ 45) : (S ((sgnT b ++ c :: r).take 1) == Str.ofString "-") = b := by
  rw [lit_minus, S_inj]
  cases b
  · simp [sgnT, hc]
  · simp [sgnT]
theorem sgn_head_sp {b : Bool} {c : Nat} {r : List Nat} (hc : isSp c = false) : ∃ d, (sgnT b ++ c :: r).head? = some d ∧ isSp d = false := by
  cases b
  · exact ⟨c, rfl, hc⟩
  · exact ⟨45, rfl, by decide⟩
theorem last_sp {b : Bool} {l : List Nat} (h : ∀ c ∈ l, isSp c = false) (h0 : l ≠ []) : ∃ d, (sgnT b ++ l).getLast? = some d ∧ isSp d = false := by
  refine ⟨l.getLast h0, ?_, h _ (List.getLast_mem h0)⟩
  rw [List.getLast?_append, List.getLast?_eq_some_getLast h0]; rfl
theorem readN_whole {A C W : List Nat} {b : Bool} (hA : ∀ x ∈ A, isSp x = true) (hC : ∀ x ∈ C, isSp x = true) (hW : ∀ c ∈ W, isDig c = true) (h0 : W ≠ []) : readN (A ++ (sgnT b ++ W) ++ C) = sgnV b (mk (val W) 1) := by
  obtain ⟨c, r, rfl⟩ := List.exists_cons_of_ne_nil h0
  have hc := hW c (.head _)
  obtain ⟨d, e1, e2⟩ := sgn_head_sp (b := b) (r := r) (dig_not_sp hc)
  obtain ⟨d', e3, e4⟩ := last_sp (b := b) (fun c h => dig_not_sp (hW c h)) h0
  exact readN_strip (strip_of hA hC e1 e2 e3 e4) (head_sgn (dig_ne hc).1) (readB_whole hW h0)
theorem readN_frac {A C W F : List Nat} {b : Bool} (hA : ∀ x ∈ A, isSp x = true) (hC : ∀ x ∈ C, isSp x = true) (hW : ∀ c ∈ W, isDig c = true) (hF : ∀ c ∈ F, isDig c = true) (h0 : W ++ F ≠ []) :
    readN (A ++ (sgnT b ++ (W ++ [46] ++ F)) ++ C) = sgnV b (mk (val (W ++ F)) (10 ^ F.length)) := by
  have hne : W ++ [46] ++ F ≠ [] := by simp
  have hsp : ∀ c ∈ W ++ [46] ++ F, isSp c = false := fun c h => by
    simp only [List.mem_append, List.mem_cons, List.not_mem_nil, or_false] at h
    rcases h with (h | h) | h
    · exact dig_not_sp (hW c h)
    · subst h; decide
    · exact dig_not_sp (hF c h)
  have hnm : ∀ c ∈ W ++ [46] ++ F, c ≠ 45 := fun c h => by
    simp only [List.mem_append, List.mem_cons, List.not_mem_nil, or_false] at h
    rcases h with (h | h) | h
    · exact (dig_ne (hW c h)).1
    · subst h; decide
    · exact (dig_ne (hF c h)).1
  have hr := readB_frac (b := b) hW hF h0
  rw [show sgnT b ++ W ++ [46] ++ F = sgnT b ++ (W ++ [46] ++ F) by simp only [List.append_assoc]] at hr
  obtain ⟨c, r, e⟩ := List.exists_cons_of_ne_nil hne
  obtain ⟨d', e3, e4⟩ := last_sp (b := b) hsp hne
  rw [e] at hsp hnm hr e3 ⊢
  obtain ⟨d, e1, e2⟩ := sgn_head_sp (b := b) (r := r) (hsp c (.head _))
  exact readN_strip (strip_of hA hC e1 e2 e3 e4) (head_sgn (hnm c (.head _))) hr

theorem isDig_48 {n : Nat} (h : n < 10) : isDig (48 + n) = true := by
  have : ∀ n : Nat, n < 10 → isDig (48 + n) = true := by decide
  exact this n h
theorem dec_dig : ∀ n : Nat, ∀ c ∈ dec n, isDig c = true := by
  intro n
  induction n using Nat.strongRecOn with
  | _ n ih =>
    intro c hc
    by_cases h : n < 10
    · rw [dec_lt h] at hc
      obtain rfl := List.mem_singleton.mp hc
      exact isDig_48 h
    · rw [dec_ge (by omega)] at hc
      rcases List.mem_append.mp hc with hc | hc
      · exact ih (n / 10) (by omega) c hc
      · obtain rfl := List.mem_singleton.mp hc
        exact isDig_48 (by omega)
theorem dec_ne (n : Nat) : dec n ≠ [] := by
  by_cases h : n < 10
  · rw [dec_lt h]; simp
  · rw [dec_ge (by omega)]; simp
theorem val_nil : val [] = 0 := rfl
theorem val_dec : ∀ n : Nat, val (dec n) = n := by
  intro n
  induction n using Nat.strongRecOn with
  | _ n ih =>
    by_cases h : n < 10
    · rw [dec_lt h, ← List.nil_append [48 + n], val_snoc, val_nil]; omega
    · rw [dec_ge (by omega), val_snoc, ih (n / 10) (by omega)]; omega
theorem padT_dig : ∀ (p r : Nat), ∀ c ∈ padT p r, isDig c = true
  | 0, _, c, hc => by simp [padT] at hc
  | p + 1, r, c, hc => by
    rw [padT] at hc
    rcases List.mem_append.mp hc with hc | hc
    · exact padT_dig p _ c hc
    · obtain rfl := List.mem_singleton.mp hc
      exact isDig_48 (by omega)
theorem val_pad (l : List Nat) : ∀ (p r : Nat), r < 10 ^ p → val (l ++ padT p r) = val l * 10 ^ p + r
  | 0, r, h => by
    have : r = 0 := by simpa using h
    subst this
    simp [padT]
  | p + 1, r, h => by
    have e : 10 ^ (p + 1) = 10 * 10 ^ p := by rw [Nat.pow_succ]; omega
    rw [padT, ← List.append_assoc, val_snoc, val_pad l p (r / 10) (by omega), e]
    have : val l * (10 * 10 ^ p) = 10 * (val l * 10 ^ p) := by rw [Nat.mul_left_comm]
    omega

theorem trimZ_parts (l : List Nat) : ∃ Z, l = trimZ l ++ Z ∧ ∀ c ∈ Z, c = 48 := by
  refine ⟨(l.reverse.takeWhile (· == 48)).reverse, ?_, fun c hc => ?_⟩
  · unfold trimZ
    rw [← List.reverse_append, List.takeWhile_append_dropWhile, List.reverse_reverse]
  · have := List.all_eq_true.mp (List.all_takeWhile (p := (· == 48)) (l := l.reverse)) c (List.mem_reverse.mp hc)
    simpa using this
theorem trimZ_last (l : List Nat) (h : trimZ l ≠ []) : ∃ G c, trimZ l = G ++ [c] ∧ c ≠ 48 := by
  have hd := List.head?_dropWhile_not (· == 48) l.reverse
  cases hq : l.reverse.dropWhile (· == 48) with
  | nil => exact absurd (by unfold trimZ; rw [hq]; rfl) h
  | cons c r =>
    rw [hq] at hd
    refine ⟨r.reverse, c, ?_, by simpa using hd⟩
    unfold trimZ; rw [hq, List.reverse_cons]
theorem val_noughts : ∀ (l Z : List Nat), (∀ c ∈ Z, c = 48) → val (l ++ Z) = val l * 10 ^ Z.length
  | l, [], _ => by simp
  | l, c :: Z, h => by
    obtain rfl := h c (.head _)
    rw [show l ++ 48 :: Z = (l ++ [48]) ++ Z by simp, val_noughts (l ++ [48]) Z (fun c hc => h c (.tail _ hc)), val_snoc, List.length_cons, Nat.pow_succ]
    rw [show val l * 10 + (48 - 48) = val l * 10 from rfl, Nat.mul_assoc, Nat.mul_comm 10]
theorem frac_parts {p r : Nat} (h : r < 10 ^ p) (h0 : 0 < r) : ∃ G c Z, fracT p r = G ++ [c] ∧ padT p r = (G ++ [c]) ++ Z ∧ (∀ c ∈ Z, c = 48) ∧ c ≠ 48 ∧ G.length + 1 + Z.length = p ∧ ∀ d ∈ G ++ [c], isDig d = true := by
  obtain ⟨Z, e, hZ⟩ := trimZ_parts (padT p r)
  have hne : trimZ (padT p r) ≠ [] := fun hn => by
    rw [hn, List.nil_append] at e
    have := padT_zero p r h (by rw [e]; exact hZ)
    omega
  obtain ⟨G, c, eg, hc⟩ := trimZ_last _ hne
  rw [eg] at e
  refine ⟨G, c, Z, by rw [fracT_eq h, eg], e, hZ, hc, ?_, fun d hd => padT_dig p r d (by rw [e]; exact List.mem_append_left _ hd)⟩
  have := padT_len p r
  rw [e, List.length_append, List.length_append, List.length_singleton] at this
  exact this
theorem writeF_eq (x : Int) (y p : Nat) : writeF x y p = sgnT (decide (x < 0 ∧ 0 < scaledN x y p)) ++ numT (scaledN x y p) p := by
  unfold writeF sgnT
  by_cases h : x < 0 ∧ 0 < scaledN x y p
  · rw [if_pos h, if_pos (by simpa using h)]
  · rw [if_neg h, if_neg (by simpa using h)]; rfl
/-- what is written, whole -/
theorem written_whole (x : Int) (y p : Nat) (h : scaledN x y p % 10 ^ p = 0) : ∃ (b : Bool) (q : Nat), writeF x y p = sgnT b ++ dec q ∧ readN (writeF x y p) = sgnV b ((q : Int), 1) ∧ scaledN x y p = q * 10 ^ p ∧ (b = true → x < 0 ∧ 0 < q) ∧ (b = false → 0 ≤ x ∨ q = 0) := by
  have hT : 0 < 10 ^ p := Nat.pow_pos (by decide)
  have hN : scaledN x y p = scaledN x y p / 10 ^ p * 10 ^ p := by
    have := Nat.div_add_mod (scaledN x y p) (10 ^ p)
    rw [h, Nat.add_zero] at this
    rw [Nat.mul_comm]; exact this.symm
  have hw : writeF x y p = sgnT (decide (x < 0 ∧ 0 < scaledN x y p)) ++ dec (scaledN x y p / 10 ^ p) := by
    rw [writeF_eq]; unfold numT; rw [if_neg (by omega)]
  have hq : 0 < scaledN x y p ↔ 0 < scaledN x y p / 10 ^ p := by
    constructor
    · intro h1
      exact Nat.pos_of_ne_zero fun h2 => by rw [h2] at hN; omega
    · intro h1
      exact Nat.pos_of_ne_zero fun h2 => by rw [h2] at h1; simp at h1
  refine ⟨_, _, hw, ?_, hN, fun hb => ?_, fun hb => ?_⟩
  · have := readN_whole (A := []) (C := []) (W := dec (scaledN x y p / 10 ^ p)) (b := decide (x < 0 ∧ 0 < scaledN x y p)) (by simp) (by simp) (dec_dig _) (dec_ne _)
    rw [List.nil_append, List.append_nil] at this
    rw [hw, this, val_dec, mk_one]
  · rw [decide_eq_true_eq] at hb
    exact ⟨hb.1, hq.mp hb.2⟩
  · rw [decide_eq_false_iff_not] at hb
    by_cases h1 : x < 0
    · exact .inr (Nat.eq_zero_of_not_pos fun h2 => hb ⟨h1, hq.mpr h2⟩)
    · exact .inl (by omega)
theorem written_frac (x : Int) (y p : Nat) (h : 0 < scaledN x y p % 10 ^ p) : ∃ (b : Bool) (q c : Nat) (G : List Nat) (k M : Nat), writeF x y p = (sgnT b ++ dec q) ++ 46 :: (G ++ [c]) ∧ c ≠ 48 ∧ isDig c = true ∧ G.length + 1 + k = p ∧ readN (writeF x y p) = sgnV b (mk (M : Int) ((10 : Int) ^ (G.length + 1))) ∧ scaledN x y p = M * 10 ^ k ∧ M % 10 ≠ 0 ∧ (b = true → x < 0) ∧ (b = false → 0 ≤ x) ∧ q ≤ scaledN x y p := by
  have hT : 0 < 10 ^ p := Nat.pow_pos (by decide)
  obtain ⟨G, c, Z, e1, e2, hZ, hc, hlen, hdig⟩ := frac_parts (Nat.mod_lt (scaledN x y p) hT) h
  have hNp : 0 < scaledN x y p := Nat.pos_of_ne_zero fun h2 => by rw [h2] at h; simp at h
  have hw : writeF x y p = (sgnT (decide (x < 0 ∧ 0 < scaledN x y p)) ++ dec (scaledN x y p / 10 ^ p)) ++ 46 :: (G ++ [c]) := by
    rw [writeF_eq]; unfold numT; rw [if_pos h, e1]; simp
  have hM : val (dec (scaledN x y p / 10 ^ p) ++ (G ++ [c])) * 10 ^ Z.length = scaledN x y p := by
    rw [← val_noughts _ _ hZ, List.append_assoc, ← e2, val_pad _ _ _ (Nat.mod_lt _ hT), val_dec, Nat.mul_comm]
    exact Nat.div_add_mod _ _
  refine ⟨_, _, c, G, Z.length, val (dec (scaledN x y p / 10 ^ p) ++ (G ++ [c])), hw, hc, hdig c (by simp), hlen, ?_, hM.symm, ?_, fun hb => ?_, fun hb => ?_, Nat.div_le_self _ _⟩
  · have := readN_frac (A := []) (C := []) (W := dec (scaledN x y p / 10 ^ p)) (F := G ++ [c]) (b := decide (x < 0 ∧ 0 < scaledN x y p)) (by simp) (by simp) (dec_dig _) hdig (by simp)
    rw [List.nil_append, List.append_nil] at this
    rw [hw, show (sgnT (decide (x < 0 ∧ 0 < scaledN x y p)) ++ dec (scaledN x y p / 10 ^ p)) ++ 46 :: (G ++ [c]) = sgnT (decide (x < 0 ∧ 0 < scaledN x y p)) ++ (dec (scaledN x y p / 10 ^ p) ++ [46] ++ (G ++ [c])) by simp, this]
    rw [List.length_append]; rfl
  · rw [← List.append_assoc, val_snoc]
    have h1 := hdig c (by simp)
    obtain ⟨_, _, h3, h4⟩ := dig_index h1
    omega
  · rw [decide_eq_true_eq] at hb
    exact hb.1
  · rw [decide_eq_false_iff_not] at hb
    exact Int.not_lt.mp fun h1 => hb ⟨h1, hNp⟩
/-- the nearest -/
theorem near_of {x n u v a1 a2 : Int} {y T : Nat} (hy : 0 < y) (hv : 0 < v) (hu : u * (T : Int) = n * v) (ha : a1 * (y : Int) = x * a2) (hr : (2 * (y : Int) * n - 2 * (T : Int) * x).natAbs ≤ y) :
    2 * ((u * a2 - a1 * v).natAbs : Int) * (T : Int) ≤ (a2.natAbs : Int) * v := by
  have key : (u * a2 - a1 * v) * (2 * (T : Int) * (y : Int)) = (a2 * v) * (2 * (y : Int) * n - 2 * (T : Int) * x) := by grind
  have k2 := congrArg Int.natAbs key
  rw [Int.natAbs_mul, Int.natAbs_mul (a2 * v), Int.natAbs_mul a2] at k2
  have e1 : (2 * (T : Int) * (y : Int)).natAbs = 2 * T * y := by
    rw [show 2 * (T : Int) * (y : Int) = ((2 * T * y : Nat) : Int) by simp]; exact Int.natAbs_natCast _
  rw [e1] at k2
  obtain ⟨V, rfl⟩ : ∃ V : Nat, v = V := ⟨v.toNat, by omega⟩
  rw [Int.natAbs_natCast] at k2
  have k3 : (u * a2 - a1 * (V : Int)).natAbs * (2 * T * y) ≤ a2.natAbs * V * y := by rw [k2]; exact Nat.mul_le_mul_left _ hr
  have k4 : 2 * (u * a2 - a1 * (V : Int)).natAbs * T ≤ a2.natAbs * V := by
    refine Nat.le_of_mul_le_mul_right ?_ hy
    rw [show 2 * (u * a2 - a1 * (V : Int)).natAbs * T * y = (u * a2 - a1 * (V : Int)).natAbs * (2 * T * y) by
      generalize (u * a2 - a1 * (V : Int)).natAbs = e
      grind]
    exact k3
  have k5 : ((2 * (u * a2 - a1 * (V : Int)).natAbs * T : Nat) : Int) ≤ ((a2.natAbs * V : Nat) : Int) := Int.ofNat_le.mpr k4
  simpa using k5
theorem round_of {x : Int} {y p N : Nat} (hy : 0 < y) (hN : scaledN x y p = N) {n : Int} (h1 : x < 0 → n = -(N : Int)) (h2 : 0 ≤ x → n = N) : (2 * (y : Int) * n - 2 * ((10 ^ p : Nat) : Int) * x).natAbs ≤ y := by
  unfold scaledN at hN
  have d1 := Nat.div_add_mod (2 * x.natAbs * 10 ^ p + y) (2 * y)
  have d2 := Nat.mod_lt (2 * x.natAbs * 10 ^ p + y) (show 0 < 2 * y by omega)
  rw [hN] at d1
  generalize (2 * x.natAbs * 10 ^ p + y) % (2 * y) = r at *
  generalize 10 ^ p = T at *
  have d3 : (2 * (y : Int) * N - 2 * (T : Int) * x.natAbs).natAbs ≤ y := by
    have e : 2 * (y : Int) * N - 2 * (T : Int) * x.natAbs = (y : Int) - r := by
      have : ((2 * y * N + r : Nat) : Int) = ((2 * x.natAbs * T + y : Nat) : Int) := congrArg _ d1
      simp only [Int.natCast_add, Int.natCast_mul] at this
      generalize (x.natAbs : Int) = X at *
      grind
    rw [e]; omega
  by_cases h : x < 0
  · rw [h1 h]
    have e : (2 * (y : Int) * -(N : Int) - 2 * (T : Int) * x) = -(2 * (y : Int) * N - 2 * (T : Int) * x.natAbs) := by
      have : (x.natAbs : Int) = -x := by omega
      rw [this]; grind
    rw [e, Int.natAbs_neg]; exact d3
  · rw [h2 (by omega)]
    have : (x.natAbs : Int) = x := by omega
    rw [this] at d3; exact d3

theorem neg_str {q : Nat} (h : 0 < q) : Str.ofString (toString (-(q : Int))) = S (45 :: dec q) := by
  obtain ⟨m, rfl⟩ : ∃ m, q = m + 1 := ⟨q - 1, by omega⟩
  have e : toString (-((m + 1 : Nat) : Int)) = "-" ++ Nat.repr (m + 1) := rfl
  rw [← S_eta (Str.ofString _), signs_ofString, e, String.toList_append, List.map_append, Nat.toList_repr]
  rfl
theorem lit_m0 : Str.ofString "-0" = S [45, 48] := by decide +kernel
theorem lit_0 : Str.ofString "0" = S [48] := by decide +kernel
theorem lit_p : Str.ofString "." = S [46] := by decide +kernel
theorem dec_no {c : Nat} (hc : isDig c = false) (n : Nat) : c ∉ dec n := fun h => by rw [dec_dig n c h] at hc; cases hc
theorem dec_0 {n : Nat} (h : dec n = [48]) : n = 0 := by
  have := val_dec n
  rw [h] at this
  exact this.symm
theorem text_whole {x x0 y0 : Int} {y p : Nat} (hx : Bd 300 x) (hy : Bd 300 (y : Int)) (hp : p ≤ 15) (h0 : 0 < y) (hc : x0 * (y : Int) = x * y0) (hr : scaledN x y p % 10 ^ p = 0) :
    ∃ T u, writeF x y p = T ∧ readN T = (u, 1) ∧ T.length ≤ 900 ∧ Bd 500 u ∧ decide (46 ∈ T) = false ∧ (S T == Str.ofString "-0") = false ∧ (S T == Str.ofString (toString u)) = true ∧ 2 * ((u * y0 - x0 * 1).natAbs : Int) * ((10 ^ p : Nat) : Int) ≤ (y0.natAbs : Int) * 1 := by
  obtain ⟨b, q, e1, e2, e3, e4, e5⟩ := written_whole x y p hr
  have hN := (scaled_lt hx hy hp h0).1
  have hT : 0 < 10 ^ p := Nat.pow_pos (by decide)
  have hq : q < 2 ^ 400 := Nat.lt_of_le_of_lt (by rw [e3]; exact Nat.le_mul_of_pos_right _ hT) hN
  have hl : (dec q).length ≤ 400 := dec_len2 hq (by decide)
  have hbq : Bd 500 (q : Int) := by
    refine Bd.mono (k := 400) ?_ (by decide)
    unfold Bd; rw [Int.natAbs_natCast]; exact hq
  rw [e1] at e2
  cases b
  · have e6 : sgnT false ++ dec q = dec q := rfl
    rw [e6] at e1 e2
    refine ⟨dec q, q, e1, e2, by omega, hbq, decide_eq_false (dec_no (by decide) q), ?_, ?_, ?_⟩
    · rw [lit_m0, S_inj, decide_eq_false_iff_not]
      intro h
      exact absurd (show (45 : Nat) ∈ dec q by rw [h]; simp) (dec_no (by decide) q)
    · rw [dec_str, S_inj]; simp
    · refine near_of (n := scaledN x y p) (x := x) (y := y) h0 (by decide) ?_ hc (round_of h0 rfl (fun h => ?_) fun h => rfl)
      · rw [e3]; simp
      · rcases e5 rfl with h' | h'
        · omega
        · rw [e3, h']; simp
  · have e6 : sgnT true ++ dec q = 45 :: dec q := rfl
    rw [e6] at e1 e2
    obtain ⟨hx0, hq0⟩ := e4 rfl
    refine ⟨45 :: dec q, -(q : Int), e1, e2, by rw [List.length_cons]; omega, ?_, ?_, ?_, ?_, ?_⟩
    · unfold Bd at hbq ⊢; rw [Int.natAbs_neg]; exact hbq
    · rw [decide_eq_false_iff_not, List.mem_cons]
      rintro (h | h)
      · cases h
      · exact dec_no (by decide) q h
    · rw [lit_m0, S_inj, decide_eq_false_iff_not]
      intro h
      have := dec_0 (List.cons.inj h).2
      omega
    · rw [neg_str hq0, S_inj]; simp
    · refine near_of (n := -(scaledN x y p : Int)) (x := x) (y := y) h0 (by decide) ?_ hc (round_of h0 rfl (fun h => rfl) fun h => by omega)
      rw [e3]; simp [Int.neg_mul]
theorem frac_v {M k : Nat} (hM : M % 10 ≠ 0) : (mk (M : Int) ((10 : Int) ^ (k + 1))).2 ≠ 1 := by
  have hT : (0 : Int) < (10 : Int) ^ (k + 1) := Int.pow_pos (by decide)
  obtain ⟨h1, h2, h3⟩ := mk_facts (t := (M : Int)) (b := (10 : Int) ^ (k + 1)) (by omega)
  intro h
  rw [h, Int.mul_one] at h2
  rw [Int.pow_succ, ← Int.mul_assoc] at h2
  generalize (mk (M : Int) ((10 : Int) ^ (k + 1))).1 * 10 ^ k = z at h2
  omega
theorem text_frac {x x0 y0 : Int} {y p : Nat} (hx : Bd 300 x) (hy : Bd 300 (y : Int)) (hp : p ≤ 15) (h0 : 0 < y) (hc : x0 * (y : Int) = x * y0) (hr : 0 < scaledN x y p % 10 ^ p) :
    ∃ T u v c, writeF x y p = T ∧ readN T = (u, v) ∧ T.length ≤ 900 ∧ Bd 500 u ∧ Bd 500 v ∧ decide (46 ∈ T) = true ∧ T.getLast? = some c ∧ (S [c] == Str.ofString "0") = false ∧ (S [c] == Str.ofString ".") = false ∧ Txt.contains (S T) (S [46]) = true ∧ decide ((T.length : Int) - Txt.find (S T) (S [46]) > (p : Int) + 1) = false ∧
      (S T == Str.ofString "-0") = false ∧ v ≠ 1 ∧ 2 * ((u * y0 - x0 * v).natAbs : Int) * ((10 ^ p : Nat) : Int) ≤ (y0.natAbs : Int) * v := by
  obtain ⟨b, q, c, G, k, M, e1, hc48, hcd, hlen, e2, e3, hM, e4, e5, hqN⟩ := written_frac x y p hr
  have hN := (scaled_lt hx hy hp h0).1
  have hT : 0 < 10 ^ p := Nat.pow_pos (by decide)
  have hMb : M < 2 ^ 400 := Nat.lt_of_le_of_lt (by rw [e3]; exact Nat.le_mul_of_pos_right _ (Nat.pow_pos (by decide))) hN
  have hbM : Bd 500 (M : Int) := by
    refine Bd.mono (k := 400) ?_ (by decide)
    unfold Bd; rw [Int.natAbs_natCast]; exact hMb
  have hbT : Bd 500 ((10 : Int) ^ (G.length + 1)) := (Bd_pow10 (G.length + 1)).mono (by omega)
  have hl : (dec q).length ≤ 400 := dec_len2 (Nat.lt_of_le_of_lt hqN hN) (by decide)
  have hb1 : Bd 500 (mk (M : Int) ((10 : Int) ^ (G.length + 1))).1 := mk_bd (by decide) hbM
  have hb2 : Bd 500 (mk (M : Int) ((10 : Int) ^ (G.length + 1))).2 := mk_bd2 hbT
  have hv1 := frac_v (k := G.length) hM
  have hpos : (0 : Int) < (10 : Int) ^ (G.length + 1) := Int.pow_pos (by decide)
  obtain ⟨m0, m1, _⟩ := mk_facts (t := (M : Int)) (b := (10 : Int) ^ (G.length + 1)) (by omega)
  have hu : (mk (M : Int) ((10 : Int) ^ (G.length + 1))).1 * ((10 ^ p : Nat) : Int) = (scaledN x y p : Int) * (mk (M : Int) ((10 : Int) ^ (G.length + 1))).2 := by
    have e : ((10 ^ p : Nat) : Int) = (10 : Int) ^ (G.length + 1) * (10 : Int) ^ k := by rw [← Int.pow_add, hlen]; simp
    have e' : (scaledN x y p : Int) = (M : Int) * (10 : Int) ^ k := by rw [e3]; simp
    rw [e, e', ← Int.mul_assoc, m1]
    grind
  have hno : 46 ∉ sgnT b ++ dec q := by
    intro h
    rcases List.mem_append.mp h with h | h
    · unfold sgnT at h; split at h <;> simp at h
    · exact dec_no (by decide) q h
  have hsl : (sgnT b).length ≤ 1 := by unfold sgnT; split <;> simp
  obtain ⟨f1, f2⟩ := find_split (b := G ++ [c]) hno
  have hc46 := (dig_ne hcd).2
  rw [e1] at e2
  generalize mk (M : Int) ((10 : Int) ^ (G.length + 1)) = m at *
  have go : ∀ (u : Int) (n : Int), sgnV b m = (u, m.2) → Bd 500 u → u * ((10 ^ p : Nat) : Int) = n * m.2 → (x < 0 → n = -(scaledN x y p : Int)) → (0 ≤ x → n = scaledN x y p) →
      ∃ T u v c, writeF x y p = T ∧ readN T = (u, v) ∧ T.length ≤ 900 ∧ Bd 500 u ∧ Bd 500 v ∧ decide (46 ∈ T) = true ∧ T.getLast? = some c ∧ (S [c] == Str.ofString "0") = false ∧ (S [c] == Str.ofString ".") = false ∧ Txt.contains (S T) (S [46]) = true ∧ decide ((T.length : Int) - Txt.find (S T) (S [46]) > (p : Int) + 1) = false ∧
      (S T == Str.ofString "-0") = false ∧ v ≠ 1 ∧ 2 * ((u * y0 - x0 * v).natAbs : Int) * ((10 ^ p : Nat) : Int) ≤ (y0.natAbs : Int) * v := by
    intro u n hs hbu hun hn1 hn2
    refine ⟨_, u, m.2, c, e1, by rw [e2, hs], ?_, hbu, hb2, decide_eq_true (by simp), by rw [show sgnT b ++ dec q ++ 46 :: (G ++ [c]) = (sgnT b ++ dec q ++ 46 :: G) ++ [c] by simp, List.getLast?_append]; rfl, ?_, ?_, f2, ?_, ?_, hv1, near_of (n := n) h0 m0 hun hc (round_of h0 rfl hn1 hn2)⟩
    · simp only [List.length_append, List.length_cons, List.length_nil]; omega
    · rw [lit_0, S_inj, decide_eq_false_iff_not]; intro h; exact hc48 (List.cons.inj h).1
    · rw [lit_p, S_inj, decide_eq_false_iff_not]; intro h; exact hc46 (List.cons.inj h).1
    · rw [f1, decide_eq_false_iff_not]
      simp only [List.length_append, List.length_cons, List.length_nil]; omega
    · rw [lit_m0, S_inj, decide_eq_false_iff_not]
      intro h
      have hm : (46 : Nat) ∈ sgnT b ++ dec q ++ 46 :: (G ++ [c]) := by simp
      rw [h] at hm
      exact absurd hm (by decide)
  cases b
  · exact go m.1 (scaledN x y p) rfl hb1 hu (fun h => by have := e5 rfl; omega) fun _ => rfl
  · refine go (-m.1) (-(scaledN x y p : Int)) rfl ?_ (by rw [Int.neg_mul, hu, Int.neg_mul]) (fun _ => rfl) fun h => by have := e4 rfl; omega
    unfold Bd at hb1 ⊢; rw [Int.natAbs_neg]; exact hb1

theorem sgnV_mk (b : Bool) (t d : Int) : sgnV b (mk t d) = mk ((if b = true then -1 else 1) * t) d := by
  cases b
  · show mk t d = mk (1 * t) d
    rw [Int.one_mul]
  · show neg (mk t d) = mk (-1 * t) d
    rw [neg_mk, Int.neg_one_mul]
def Row (A C : List Nat) (b : Bool) (d : V) : Prop := ∃ (t : List Nat) (top bot : Int), d = .tup [.str (S t), .int top, .int bot] ∧ t.length ≤ 50 ∧ Bd 50 top ∧ Bd 50 bot ∧ readN (A ++ sgnT b ++ t ++ C) = mk ((if b = true then -1 else 1) * top) bot
theorem BdN {n k : Nat} (h : n < 2 ^ k) : Bd k (n : Int) := by unfold Bd; rw [Int.natAbs_natCast]; exact h
theorem row_1 {A C : List Nat} {b : Bool} (hA : ∀ c ∈ A, isSp c = true) (hC : ∀ c ∈ C, isSp c = true) {n : Nat} (hn : n < 1200) : Row A C b (.tup [.str (S (dec n)), .int (val (dec n) : Int), .int 1]) := by
  refine ⟨_, _, _, rfl, Nat.le_trans (dec_len n (k := 4) (by omega) (by decide)) (by decide), by rw [val_dec]; exact BdN (by omega), by unfold Bd; decide, ?_⟩
  rw [List.append_assoc A, readN_whole hA hC (dec_dig n) (dec_ne n), sgnV_mk]
theorem row_2 {A C : List Nat} {b : Bool} (hA : ∀ c ∈ A, isSp c = true) (hC : ∀ c ∈ C, isSp c = true) {n : Nat} (hn : n < 1200) : Row A C b (.tup [.str (S (dec n ++ [46])), .int (val (dec n) : Int), .int 1]) := by
  refine ⟨_, _, _, rfl, ?_, by rw [val_dec]; exact BdN (by omega), by unfold Bd; decide, ?_⟩
  · have := dec_len n (k := 4) (by omega) (by decide)
    rw [List.length_append, List.length_singleton]; omega
  · have := readN_frac (A := A) (C := C) (W := dec n) (F := []) (b := b) hA hC (dec_dig n) (by simp) (by rw [List.append_nil]; exact dec_ne n)
    rw [List.append_nil, List.append_nil, List.length_nil, Int.pow_zero, sgnV_mk] at this
    rw [List.append_assoc A, this]
theorem row_3 {A C : List Nat} {b : Bool} (hA : ∀ c ∈ A, isSp c = true) (hC : ∀ c ∈ C, isSp c = true) {n r : Nat} (hn : n < 1200) (hr : r < 300) : Row A C b (.tup [.str (S (dec n ++ [46] ++ padT 3 r)), .int (val (dec n ++ padT 3 r) : Int), .int 1000]) := by
  refine ⟨_, _, _, rfl, ?_, by rw [val_pad _ 3 r (by omega), val_dec]; exact BdN (by omega), by unfold Bd; decide, ?_⟩
  · have := dec_len n (k := 4) (by omega) (by decide)
    rw [List.length_append, List.length_append, List.length_singleton, padT_len]; omega
  · have := readN_frac (A := A) (C := C) (W := dec n) (F := padT 3 r) (b := b) hA hC (dec_dig n) (padT_dig 3 r) (by simp [padT])
    rw [padT_len, sgnV_mk] at this
    rw [List.append_assoc A, this]; rfl
theorem row_4 {A C : List Nat} {b : Bool} (hA : ∀ c ∈ A, isSp c = true) (hC : ∀ c ∈ C, isSp c = true) {r : Nat} (hr : r < 300) : Row A C b (.tup [.str (S ([46] ++ padT 3 r)), .int (val (padT 3 r) : Int), .int 1000]) := by
  have hv := val_pad [] 3 r (by omega)
  rw [List.nil_append, val_nil, Nat.zero_mul, Nat.zero_add] at hv
  refine ⟨_, _, _, rfl, ?_, by rw [hv]; exact BdN (by omega), by unfold Bd; decide, ?_⟩
  · rw [List.length_append, List.length_singleton, padT_len]; omega
  · have := readN_frac (A := A) (C := C) (W := []) (F := padT 3 r) (b := b) hA hC (by simp) (padT_dig 3 r) (by simp [padT])
    rw [padT_len, sgnV_mk] at this
    rw [List.append_assoc A]
    simpa using this
/-- texts that tell no number -/
def Wrong (d : V) : Prop := ∃ l : List Nat, d = .str (S l) ∧ l.length ≤ 50 ∧ readN l = (0, 0)
theorem wrong_of {x : Str} (l : List Nat) (h : x = S l) (hl : l.length ≤ 50) (hr : readN l = (0, 0)) : Wrong (.str x) := by subst h; exact ⟨l, rfl, hl, hr⟩
theorem wrong_0 : Wrong (.str (S [])) := wrong_of [] rfl (by decide) (by decide +kernel)
theorem wrong_1 : Wrong (.str (Str.ofString " ")) := wrong_of [32] (by decide +kernel) (by decide) (by decide +kernel)
theorem wrong_2 : Wrong (.str (S [45])) := wrong_of [45] rfl (by decide) (by decide +kernel)
theorem wrong_3 : Wrong (.str (S [46])) := wrong_of [46] rfl (by decide) (by decide +kernel)
theorem wrong_4 : Wrong (.str (Str.ofString "+1")) := wrong_of [43, 49] (by decide +kernel) (by decide) (by decide +kernel)
theorem wrong_5 : Wrong (.str (Str.ofString "1e3")) := wrong_of [49, 101, 51] (by decide +kernel) (by decide) (by decide +kernel)
theorem wrong_6 : Wrong (.str (Str.ofString "1 2")) := wrong_of [49, 32, 50] (by decide +kernel) (by decide) (by decide +kernel)
theorem wrong_7 : Wrong (.str (Str.ofString "- 1")) := wrong_of [45, 32, 49] (by decide +kernel) (by decide) (by decide +kernel)
theorem wrong_8 : Wrong (.str (Str.ofString "--1")) := wrong_of [45, 45, 49] (by decide +kernel) (by decide) (by decide +kernel)
theorem wrong_9 : Wrong (.str (Str.ofString "1.2.3")) := wrong_of [49, 46, 50, 46, 51] (by decide +kernel) (by decide) (by decide +kernel)
theorem wrong_10 : Wrong (.str (Str.ofString "a")) := wrong_of [97] (by decide +kernel) (by decide) (by decide +kernel)
theorem wrong_11 : Wrong (.str (Str.ofString "0x1")) := wrong_of [48, 120, 49] (by decide +kernel) (by decide) (by decide +kernel)
theorem wrong_12 : Wrong (.str (Str.ofString "Infinity")) := wrong_of [73, 110, 102, 105, 110, 105, 116, 121] (by decide +kernel) (by decide) (by decide +kernel)
def Blank (d : V) : Prop := ∃ l : List Nat, d = .str (S l) ∧ l.length ≤ 10 ∧ ∀ c ∈ l, isSp c = true
theorem blank_of {x : Str} (l : List Nat) (h : x = S l) (hl : l.length ≤ 10) (hr : ∀ c ∈ l, isSp c = true) : Blank (.str x) := by subst h; exact ⟨l, rfl, hl, hr⟩
theorem blank_0 : Blank (.str (S [])) := blank_of [] rfl (by decide) (by simp)
theorem blank_1 : Blank (.str (Str.ofString " ")) := blank_of [32] (by decide +kernel) (by decide) (by decide)
theorem blank_2 : Blank (.str (Str.ofString "  ")) := blank_of [32, 32] (by decide +kernel) (by decide) (by decide)
theorem blank_3 : Blank (.str (Str.ofString "\n\t\r")) := blank_of [10, 9, 13] (by decide +kernel) (by decide) (by decide)

theorem opT_at {b0 b1 b2 b3 b4 b5 : Bool} {ta tb : Int × Int} {i : Nat} {k : Str} (h : ops[i]? = some k) :
    ∃ b, ([.bool b0, .bool b1, .bool b2, .bool b3, .bool b4, .bool b5] : List V)[i]? = some (.bool b) ∧ opT [b0, b1, b2, b3, b4, b5] ta tb (.str k) = if (cmpN k ta tb != b) = true then [.str k] else [] := by
  match i, h with
  | 0, h => cases h; exact ⟨_, rfl, opT_0⟩
  | 1, h => cases h; exact ⟨_, rfl, opT_1⟩
  | 2, h => cases h; exact ⟨_, rfl, opT_2⟩
  | 3, h => cases h; exact ⟨_, rfl, opT_3⟩
  | 4, h => cases h; exact ⟨_, rfl, opT_4⟩
  | 5, h => cases h; exact ⟨_, rfl, opT_5⟩
  | i + 6, h => cases h
theorem ops_mem {d : V} (hd : d ∈ ops.map V.str) : ∃ (i : Nat) (k : Str), ops[i]? = some k ∧ d = .str k := by
  obtain ⟨k, hk, rfl⟩ := List.mem_map.mp hd
  obtain ⟨i, hi⟩ := List.mem_iff_getElem?.mp hk
  exact ⟨i, k, hi, rfl⟩
set_option maxHeartbeats 4000000 in
theorem law_compared_right_ok {w : World} {B : Heap} (wd : Wd w B) (x y u v x' y' u' v' : Int) (hx : Bd 4000 x) (hy : Bd 4000 y) (hu : Bd 4000 u) (hv : Bd 4000 v) (hx' : Bd 4000 x') (hy' : Bd 4000 y') (hu' : Bd 4000 u') (hv' : Bd 4000 v') :
    Fn w B 252 4 [.tup [.int x, .int y], .tup [.int u, .int v], .tup [.int x', .int y'], .tup [.int u', .int v']] [] fun d _ => d = .bool (compR (x, y) (u, v) (x', y') (u', v')) := by
  refine fn_introC (f := 252) _ (Str.ofString "a") (Str.ofString "b") (Str.ofString "told_a") (Str.ofString "told_b") (Str.ofString "lets") wd rfl rfl rfl rfl rfl rfl rfl (fun _ _ _ _ => rfl) (fun _ => rfl) rfl rfl rfl rfl (by decide +kernel) rfl rfl rfl rfl ?_
  intro Φ mu c3 c4 c5 ok hB hn hcells
  subst hB
  dsimp only at ok ⊢
  have e5 : Φ.env.cells.lookup (Str.ofString "lets") = some c5 := by rw [hcells]; rfl
  with_reducible refine SS_cons ?_
  with_reducible refine SX_setcell (c := c5) (l := []) ok ?_ e5 ?_ ?_ ?_
  · rfl
  · exact Nat.zero_le 1
  rotate_left
  · rfl
  with_reducible refine EX_dict ok (fun Φ' ok' hA hE hB' hn' mu' => ?_) ?_ ?_ ?_
  rotate_left
  · rfl
  · exact List.cons_ne_nil _ _
  · exact Nat.le_of_ble_eq_true rfl
  repeat' (first | walk_at "W" | (with_reducible first | refine (law_less_ok (FxOk.wd (by assumption)) _ _ _ _ ?_ ?_ ?_ ?_).eqk fun _ => ?_ | refine (law_kind_ok (FxOk.wd (by assumption)) _ _).eqk fun _ => ?_ | refine (compared_numbers_ok (FxOk.wd (by assumption)) _ _ _ _ _ ?_ ?_ ?_ ?_).eqk fun _ => ?_))
  refine ⟨by decide, _, rfl, ?_⟩
  clear ok' hA hE hB' hn'
  repeat' (first | walk_at "W" | (with_reducible first | refine (law_less_ok (FxOk.wd (by assumption)) _ _ _ _ ?_ ?_ ?_ ?_).eqk fun _ => ?_ | refine (law_kind_ok (FxOk.wd (by assumption)) _ _).eqk fun _ => ?_ | refine (compared_numbers_ok (FxOk.wd (by assumption)) _ _ _ _ _ ?_ ?_ ?_ ?_).eqk fun _ => ?_))
  all_goals (try (with_reducible show Bd _ _; assumption))
  · refine SX_setcell (c := c5) (l := [.dict w ops [.bool false, .bool true, .bool false, .bool false, .bool false, .bool false]]) ok rfl e5 (Nat.le_refl 1) ?_ rfl
    refine EX_dict ok (fun Φ' ok' hA hE hB' hn' mu' => ?_) rfl (List.cons_ne_nil _ _) (Nat.le_of_ble_eq_true rfl)
    repeat' (first | walk_at "W" | (with_reducible first | refine (law_less_ok (FxOk.wd (by assumption)) _ _ _ _ ?_ ?_ ?_ ?_).eqk fun _ => ?_ | refine (law_kind_ok (FxOk.wd (by assumption)) _ _).eqk fun _ => ?_ | refine (compared_numbers_ok (FxOk.wd (by assumption)) _ _ _ _ _ ?_ ?_ ?_ ?_).eqk fun _ => ?_))
    refine ⟨by decide, _, rfl, ?_⟩
    clear ok' hA hE hB' hn'
    repeat' (first | walk_at "W" | (with_reducible first | refine (law_less_ok (FxOk.wd (by assumption)) _ _ _ _ ?_ ?_ ?_ ?_).eqk fun _ => ?_ | refine (law_kind_ok (FxOk.wd (by assumption)) _ _).eqk fun _ => ?_ | refine (compared_numbers_ok (FxOk.wd (by assumption)) _ _ _ _ _ ?_ ?_ ?_ ?_).eqk fun _ => ?_))
    all_goals (try (with_reducible show Bd _ _; assumption))
    refine EX_lcomp [(Str.ofString "told_b", c4), (Str.ofString "told_a", c3), (Str.ofString "lets", c5)] (opT [!lessF (x, y) (u, v) && !lessF (u, v) (x, y), lessF (x, y) (u, v) || lessF (u, v) (x, y), lessF (x, y) (u, v), !lessF (u, v) (x, y), lessF (u, v) (x, y), !lessF (x, y) (u, v)] (x', y') (u', v')) ok (by unfold closureFor cellOf; rw [hcells]; rfl) (by decide) rfl (by decide) rfl rfl rfl ?_ (fun _ => rfl)
    repeat' (first | walk_at "W" | (with_reducible first | refine (law_less_ok (FxOk.wd (by assumption)) _ _ _ _ ?_ ?_ ?_ ?_).eqk fun _ => ?_ | refine (law_kind_ok (FxOk.wd (by assumption)) _ _).eqk fun _ => ?_ | refine (compared_numbers_ok (FxOk.wd (by assumption)) _ _ _ _ _ ?_ ?_ ?_ ?_).eqk fun _ => ?_))
    refine ⟨rfl, _, ItOfS.dict, ?_, Body1 fun Φ' ok' hA hc hB' hn' d hd mu' => ?_, ?_⟩
    · exact flat_len _ _ (Nat.le_of_ble_eq_true rfl)
    · have f5 : Φ'.env.cells.lookup (Str.ofString "lets") = some c5 := by rw [hc]; rfl
      have f4 : Φ'.env.cells.lookup (Str.ofString "told_b") = some c4 := by rw [hc]; rfl
      have f3 : Φ'.env.cells.lookup (Str.ofString "told_a") = some c3 := by rw [hc]; rfl
      clear ok
      obtain ⟨i, k, hi, rfl⟩ := ops_mem hd
      have hi' : ([Str.ofString "=", Str.ofString "!=", Str.ofString "<", Str.ofString "<=", Str.ofString ">", Str.ofString ">="] : List Str)[i]? = some k := hi
      obtain ⟨b, hb, hT⟩ := opT_at (b0 := !lessF (x, y) (u, v) && !lessF (u, v) (x, y)) (b1 := lessF (x, y) (u, v) || lessF (u, v) (x, y)) (b2 := lessF (x, y) (u, v)) (b3 := !lessF (u, v) (x, y)) (b4 := lessF (u, v) (x, y)) (b5 := !lessF (x, y) (u, v)) (ta := (x', y')) (tb := (u', v')) hi
      rw [hT]
      (repeat' (first | with_reducible refine Sub_dict (d := _) i hi' hb ?_ | walk_at "W" | (with_reducible first | refine (law_less_ok (FxOk.wd (by assumption)) _ _ _ _ ?_ ?_ ?_ ?_).eqk fun _ => ?_ | refine (law_kind_ok (FxOk.wd (by assumption)) _ _).eqk fun _ => ?_ | refine (compared_numbers_ok (FxOk.wd (by assumption)) _ _ _ _ _ ?_ ?_ ?_ ?_).eqk fun _ => ?_)))
      all_goals (try (with_reducible show Bd _ _; assumption))
      refine ⟨rfl, branch (fun h => ?_) (fun h => ?_)⟩
      · repeat' (first | walk_at "W" | (with_reducible first | refine (law_less_ok (FxOk.wd (by assumption)) _ _ _ _ ?_ ?_ ?_ ?_).eqk fun _ => ?_ | refine (law_kind_ok (FxOk.wd (by assumption)) _ _).eqk fun _ => ?_ | refine (compared_numbers_ok (FxOk.wd (by assumption)) _ _ _ _ _ ?_ ?_ ?_ ?_).eqk fun _ => ?_))
        rw [if_pos h]; exact ⟨rfl, rfl⟩
      · rw [if_neg (by rw [h]; decide)]
    · repeat' (first | walk_at "W" | (with_reducible first | refine (law_less_ok (FxOk.wd (by assumption)) _ _ _ _ ?_ ?_ ?_ ?_).eqk fun _ => ?_ | refine (law_kind_ok (FxOk.wd (by assumption)) _ _).eqk fun _ => ?_ | refine (compared_numbers_ok (FxOk.wd (by assumption)) _ _ _ _ _ ?_ ?_ ?_ ?_).eqk fun _ => ?_))
      have hk : (!(knd (x, y) == k0 || knd (u, v) == k0)) = true := by assumption
      unfold compR letsV
      rw [if_pos hk]
      rfl
  all_goals (try (with_reducible show Bd _ _; assumption))
  refine EX_lcomp [(Str.ofString "told_b", c4), (Str.ofString "told_a", c3), (Str.ofString "lets", c5)] (opT [false, true, false, false, false, false] (x', y') (u', v')) ok (by unfold closureFor cellOf; rw [hcells]; rfl) (by decide) rfl (by decide) rfl rfl rfl ?_ (fun _ => rfl)
  repeat' (first | walk_at "W" | (with_reducible first | refine (law_less_ok (FxOk.wd (by assumption)) _ _ _ _ ?_ ?_ ?_ ?_).eqk fun _ => ?_ | refine (law_kind_ok (FxOk.wd (by assumption)) _ _).eqk fun _ => ?_ | refine (compared_numbers_ok (FxOk.wd (by assumption)) _ _ _ _ _ ?_ ?_ ?_ ?_).eqk fun _ => ?_))
  refine ⟨rfl, _, ItOfS.dict, ?_, Body1 fun Φ' ok' hA hc hB' hn' d hd mu' => ?_, ?_⟩
  · exact flat_len _ _ (Nat.le_of_ble_eq_true rfl)
  · have f5 : Φ'.env.cells.lookup (Str.ofString "lets") = some c5 := by rw [hc]; rfl
    have f4 : Φ'.env.cells.lookup (Str.ofString "told_b") = some c4 := by rw [hc]; rfl
    have f3 : Φ'.env.cells.lookup (Str.ofString "told_a") = some c3 := by rw [hc]; rfl
    clear ok
    obtain ⟨i, k, hi, rfl⟩ := ops_mem hd
    have hi' : ([Str.ofString "=", Str.ofString "!=", Str.ofString "<", Str.ofString "<=", Str.ofString ">", Str.ofString ">="] : List Str)[i]? = some k := hi
    obtain ⟨b, hb, hT⟩ := opT_at (b0 := false) (b1 := true) (b2 := false) (b3 := false) (b4 := false) (b5 := false) (ta := (x', y')) (tb := (u', v')) hi
    rw [hT]
    (repeat' (first | with_reducible refine Sub_dict (d := _) i hi' hb ?_ | walk_at "W" | (with_reducible first | refine (law_less_ok (FxOk.wd (by assumption)) _ _ _ _ ?_ ?_ ?_ ?_).eqk fun _ => ?_ | refine (law_kind_ok (FxOk.wd (by assumption)) _ _).eqk fun _ => ?_ | refine (compared_numbers_ok (FxOk.wd (by assumption)) _ _ _ _ _ ?_ ?_ ?_ ?_).eqk fun _ => ?_)))
    all_goals (try (with_reducible show Bd _ _; assumption))
    refine ⟨rfl, branch (fun h => ?_) (fun h => ?_)⟩
    · repeat' (first | walk_at "W" | (with_reducible first | refine (law_less_ok (FxOk.wd (by assumption)) _ _ _ _ ?_ ?_ ?_ ?_).eqk fun _ => ?_ | refine (law_kind_ok (FxOk.wd (by assumption)) _ _).eqk fun _ => ?_ | refine (compared_numbers_ok (FxOk.wd (by assumption)) _ _ _ _ _ ?_ ?_ ?_ ?_).eqk fun _ => ?_))
      rw [if_pos h]; exact ⟨rfl, rfl⟩
    · rw [if_neg (by rw [h]; decide)]
  · repeat' (first | walk_at "W" | (with_reducible first | refine (law_less_ok (FxOk.wd (by assumption)) _ _ _ _ ?_ ?_ ?_ ?_).eqk fun _ => ?_ | refine (law_kind_ok (FxOk.wd (by assumption)) _ _).eqk fun _ => ?_ | refine (compared_numbers_ok (FxOk.wd (by assumption)) _ _ _ _ _ ?_ ?_ ?_ ?_).eqk fun _ => ?_))
    have hk : (!(knd (x, y) == k0 || knd (u, v) == k0)) = false := by assumption
    unfold compR letsV
    rw [if_neg (by rw [hk]; decide)]
    rfl

theorem law_whole_right_ok {w : World} {B : Heap} (wd : Wd w B) (x y u v : Int) (hx : Bd 900 x) (hy : Bd 900 y) (hu : Bd 900 u) (hv : Bd 900 v) : Fn w B 259 5 [.tup [.int x, .int y], .tup [.int u, .int v]] [] fun d _ => d = .bool (wholeB (x, y) (u, v)) := by
  refine fn_intro (f := 259) _ [Str.ofString "a", Str.ofString "told"] wd rfl rfl rfl rfl rfl rfl rfl (by walk_at "B2") rfl (by decide) (by decide) (by decide) rfl rfl rfl rfl ?_
  (intro Φ mu ok hB hn; subst hB; dsimp only [List.zip_cons_cons, List.zip_nil_left] at ok ⊢)
  have up : ∀ {i : Int}, Bd 900 i → Bd 9000 i := fun h => h.mono (by decide)
  have up4 : ∀ {i : Int}, Bd 900 i → Bd 4000 i := fun h => h.mono (by decide)
  repeat' (first | walk_at "W" | (with_reducible first | refine (rounded_ok (FxOk.wd (by assumption)) _ _ ?_ ?_).eqk fun _ => ?_ | refine (ceiling_of_ok (FxOk.wd (by assumption)) _ _ ?_).eqk fun _ => ?_ | refine (floor_of_ok (FxOk.wd (by assumption)) _ _ ?_).eqk fun _ => ?_))
  all_goals (try (first
    | assumption
    | exact up (by assumption)
    | exact up4 (by assumption)
    | exact mulOk_of (k := 2) (by unfold Bd; decide) (by assumption) (by decide)
    | exact Bd.mono (k := 902) (Bd.mul (k := 2) (by unfold Bd; decide) (by assumption)) (by decide)
    | (refine ⟨rfl, ?_⟩; clear ok hn wd hx hy hu hv; simp only [decide_eq_true_eq, decide_eq_false_iff_not] at *; simp only [wholeB, *, if_true, if_false, Bool.false_eq_true]; done)))
  all_goals (
    have hy0 : decide (y = 0) = false := by assumption
    simp only [decide_eq_false_iff_not] at hy0
    first
      | exact hy0
      | omega
      | exact Bd.mono (k := 902) (Bd.mul (k := 2) (m := 900) (by unfold Bd; decide) (by assumption)) (by decide))

theorem Sub_ints {w : World} {A : Around} {ns : List Int} {k : Int} {P : V → Prop} (h0 : 0 ≤ k) (h1 : k < ns.length) (hl : ns.length ≤ 1000) (h : P (.int (ns.getD k.toNat 0))) : SubOk w A (.lst (ns.map V.int)) (.int k) P := by
  have hlt : k.toNat < ns.length := by omega
  refine Sub_lst (d := .int (ns.getD k.toNat 0)) ?_ h h0 (by omega)
  rw [List.getElem?_map, List.getD_eq_getElem?_getD, List.getElem?_eq_getElem hlt]; rfl
theorem Call_len_ints {w : World} {A : Around} {ns : List Int} {P : V → Prop} (hl : ns.length ≤ 1000) (h : P (.int (ns.length : Int))) : CallOk w A (.builtin "len") [.lst (ns.map V.int)] P :=
  Call_len_lst (by rw [List.length_map]; omega) (by rw [List.length_map]; exact h)
local macro_rules | `(tactic| walk_at "W") => `(tactic| (first
  | with_reducible refine Sub_ints ?_ ?_ ?_ ?_
  | with_reducible refine Call_len_ints ?_ ?_
  | ((with_reducible refine EX_max (by assumption) ?h1 ?h3 ?h6 ?h7); (case h3 => rfl); (case h6 => rfl); (case h7 => rfl))
  | with_reducible refine Call_max (FxOk.handled (by assumption)) ?_
  | with_reducible refine SX_retnew ?_
  ))
set_option maxHeartbeats 4000000 in
theorem law_pool_ok {w : World} {B : Heap} (wd : Wd w B) (ns : List Int) (k : Nat) (hn : ns.length ≤ 1000) (hk : k ≤ 10) : FnN w B 172 1 [.lst (ns.map V.int), .int (k : Int)] fun d e => ∃ x y, d = .int x ∧ e = .int y ∧ Src x y := by
  refine fn_introN (f := 172) _ [Str.ofString "script", Str.ofString "k"] wd rfl rfl rfl rfl rfl rfl rfl (by walk_at "B2") rfl (by decide) (by decide) (by decide) rfl rfl rfl rfl ?_
  (intro Φ mu ok hB hn' hnu; subst hB; dsimp only [List.zip_cons_cons, List.zip_nil_left] at ok ⊢)
  have p18 : (10 : Int) ^ (18 : Int).toNat = 1000000000000000000 := by decide
  have fm : ∀ b : Int, 0 ≤ b.fmod 2147483629 ∧ b.fmod 2147483629 < 2147483629 := fun b => fmod_pos (by decide)
  have hkk : (0 : Int) ≤ (k : Int) ∧ (k : Int) ≤ 10 := by omega
  have b4 : Bd 4 (k : Int) := by unfold Bd; omega
  have hq : 0 ≤ 7919 * (k : Int) * (k : Int) ∧ 7919 * (k : Int) * (k : Int) ≤ 791900 := by
    have h1 := Nat.mul_le_mul hk hk
    rw [Int.mul_assoc, ← Int.natCast_mul]
    omega
  have sum : ∀ b : Int, Bd 40 (b.fmod 2147483629 + 7919 * (k : Int) * (k : Int) + 31 * (k : Int) + 17) := fun b => by
    have := fm b
    unfold Bd
    generalize b.fmod 2147483629 = q at *
    generalize 7919 * (k : Int) * (k : Int) = r at *
    omega
  have fin : ∀ z : Int, 0 ≤ z.fmod 2147483647 ∧ z.fmod 2147483647 < 2147483647 := fun z => fmod_pos (by decide)
  repeat' (first | rw [p18] | walk_at "W")
  all_goals (try (first
    | omega
    | (simp only [decide_eq_true_eq] at *; omega)
    | (unfold Bd; decide)))
  all_goals (first
    | exact mulOk_of (k := 13) (m := 4) (by unfold Bd; decide) b4 (by decide)
    | exact mulOk_of (k := 17) (m := 4) (Bd.mul (k := 13) (m := 4) (by unfold Bd; decide) b4) b4 (by decide)
    | exact mulOk_of (k := 40) (m := 16) (sum _) (by unfold Bd; decide) (by decide)
    | (intro a hi; exact ⟨a, _, _, rfl, hi.resolve_left (by rw [hnu]; exact List.not_mem_nil), rfl, ⟨_, _, rfl, rfl⟩, _, _, rfl, rfl, Int.le_refl 0, fin _⟩)
    | (intro a hi; exact ⟨a, _, _, rfl, hi.resolve_left (by rw [hnu]; exact List.not_mem_nil), rfl, ⟨_, _, rfl, rfl⟩, _, _, rfl, rfl, by (simp only [decide_eq_true_eq] at *; omega), fin _⟩))

/-- a branch, left standing -/
def BR (c : Bool) (P Q : Prop) : Prop := if c = true then P else Q
theorem BR.st {c : Bool} {P Q : Prop} (h : BR c P Q) : if c = true then P else Q := h
theorem BR.t {c : Bool} {P Q : Prop} (hc : c = true) (h : P) : BR c P Q := by subst hc; exact h
theorem BR.f {c : Bool} {P Q : Prop} (hc : c = false) (h : Q) : BR c P Q := by subst hc; exact (if_neg (by decide)).mpr h
theorem if_tt {P Q : Prop} (h : P) : if true = true then P else Q := h
theorem if_ff {P Q : Prop} (h : Q) : if false = true then P else Q := (if_neg (by decide)).mpr h
theorem if_t {c : Bool} {P Q : Prop} (hc : c = true) (h : P) : if c = true then P else Q := (if_pos hc).mpr h
theorem if_f {c : Bool} {P Q : Prop} (hc : c = false) (h : Q) : if c = true then P else Q := by subst hc; exact if_ff h
theorem write_k1 {w : World} {B : Heap} (wd : Wd w B) {x : Int} {y : Nat} {Q : V → List (Addr × List V) → Prop} (hx : Bd 300 x) (hy : Bd 300 (y : Int)) (h0 : 0 < y) (k : ∀ g, Q (.str (S (writeF x y 15))) g) : Fn w B 165 2 [.tup [.int x, .int (y : Int)]] [] Q :=
  ((write_number_ok wd x y 15 hx hy (by decide)).2 rfl).eqk fun g => by rw [show writeN x y 15 = S (writeF x y 15) from if_neg (by omega)]; exact k g
theorem write_k {w : World} {B : Heap} (wd : Wd w B) {x : Int} {y p : Nat} {Q : V → List (Addr × List V) → Prop} (hx : Bd 300 x) (hy : Bd 300 (y : Int)) (h0 : 0 < y) (hp : p ≤ 15) (k : ∀ g, Q (.str (S (writeF x y p))) g) : Fn w B 165 2 [.tup [.int x, .int (y : Int)], .int (p : Int)] [] Q :=
  (write_number_ok wd x y p hx hy hp).1.eqk fun g => by rw [show writeN x y p = S (writeF x y p) from if_neg (by omega)]; exact k g
theorem and_nodup {l : List Str} {P : Prop} (h1 : l.Nodup) (h2 : P) : l.Nodup ∧ P := ⟨h1, h2⟩
theorem write_k15 {w : World} {B : Heap} (wd : Wd w B) {x : Int} {y : Nat} {Q : V → List (Addr × List V) → Prop} (hx : Bd 300 x) (hy : Bd 300 (y : Int)) (h0 : 0 < y) (k : ∀ g, Q (.str (S (writeF x y 15))) g) : Fn w B 165 2 [.tup [.int x, .int (y : Int)], .int 15] [] Q :=
  write_k (p := 15) wd hx hy h0 (by decide) k
theorem write_kn {w : World} {B : Heap} (wd : Wd w B) {x : Int} {X : Str} {Q : V → List (Addr × List V) → Prop} (hx : Bd 300 x) (hX : writeN x 0 15 = X) (k : ∀ g, Q (.str X) g) : Fn w B 165 2 [.tup [.int x, .int 0]] [] Q :=
  ((write_number_ok wd x 0 15 hx (by unfold Bd; decide) (by decide)).2 rfl).eqk fun g => by rw [hX]; exact k g
theorem kind_k {w : World} {B : Heap} (wd : Wd w B) {x y : Int} {X : Str} {Q : V → List (Addr × List V) → Prop} (hX : knd (x, y) = X) (k : ∀ g, Q (.str X) g) : Fn w B 200 1 [.tup [.int x, .int y]] [] Q :=
  (law_kind_ok wd x y).eqk fun g => by rw [hX]; exact k g
theorem law_one_p {w : World} {B : Heap} (wd : Wd w B) {S : Addr} {x y : Int} {Q : V → List (Addr × List V) → Prop} (hs : Src x y) (k : ∀ x' y' (p : Nat), Src x' y' → p ≤ 15 → Q (.int (p : Int)) (sg S x' y')) : Fn w B 186 2 [.loc S, .lst [.int 0, .int 1, .int 3, .int 15]] (sg S x y) Q :=
  law_one_a wd hs (by simp) fun x' y' h => ⟨k x' y' 0 h (by decide), k x' y' 1 h (by decide), k x' y' 3 h (by decide), k x' y' 15 h (by decide), trivial⟩

set_option maxHeartbeats 4000000 in
theorem law_written_inf {w : World} {B : Heap} (wd : Wd w B) (S : Addr) (x p q : Int) (hs : Src p q) : Fn w B 266 4 [.loc S, .tup [.int x, .int 0], .tup [.int (sgn x), .int 0]] (sg S p q) fun d g => d = .bool true ∧ g = sg S p q := by
  refine fn_intro (f := 266) _ [Str.ofString "source", Str.ofString "a", Str.ofString "told"] wd rfl rfl rfl rfl rfl rfl rfl (by walk_at "B3") rfl (by decide) (by decide) (by decide) rfl rfl rfl rfl ?_
  (intro Φ mu ok hB hn; subst hB; dsimp only [List.zip_cons_cons, List.zip_nil_left] at ok ⊢)
  have hb : Bd 300 (sgn x) := by
    rcases kinds3 x with ⟨a, b, c⟩ | ⟨a, b, c⟩ | ⟨a, b, c⟩ <;> rw [b] <;> unfold Bd <;> decide
  obtain ⟨i, X, W, hi, hk, hw, hd⟩ : ∃ (i : Nat) (X W : Str), i < 3 ∧ knd (x, 0) = X ∧ writeN (sgn x) 0 15 = W ∧ (([k0, kU, kD] : List Str)[i]? = some X ∧ ([V.str (Str.ofString "NaN"), .str (Str.ofString "Infinity"), .str (Str.ofString "-Infinity")] : List V)[i]? = some (.str W)) := by
    rcases kinds3 x with ⟨a, b, c⟩ | ⟨a, b, c⟩ | ⟨a, b, c⟩
    · exact ⟨0, _, _, by decide, c, rfl, rfl, by rw [b]; rfl⟩
    · exact ⟨1, _, _, by decide, c, rfl, rfl, by rw [b]; rfl⟩
    · exact ⟨2, _, _, by decide, c, rfl, rfl, by rw [b]; rfl⟩
  have h00 : decide ((0 : Int) = 0) = true := rfl
  repeat' (first
    | exact ⟨rfl, congrArg V.bool (by simp), rfl⟩
    | with_reducible refine write_kn (FxOk.wd (by assumption)) hb hw (fun _ => ?_) | with_reducible refine kind_k (FxOk.wd (by assumption)) hk (fun _ => ?_) | with_reducible refine Sub_dict (d := _) i hd.1 hd.2 ?_
    | ((with_reducible refine EX_dict (by assumption) (fun Φ' ok' hA hE hB' hn' mu' => ?_) ?h2 ?h3 ?h4); (case h2 => rfl); (case h3 => exact List.cons_ne_nil _ _); (case h4 => exact Nat.le_of_ble_eq_true rfl); (refine PP_cons ?_))
    | ((with_reducible refine and_nodup ?h1 ?_); (case h1 => decide); (clear ok' hA hE hB' hn'))
    | with_reducible refine if_ff ?_ | with_reducible refine if_tt ?_ | with_reducible refine if_f (by assumption) ?_ | with_reducible refine if_t (by assumption) ?_ | walk_at "W" | (with_reducible first | refine (law_kind_ok (FxOk.wd (by assumption)) _ _).eqk fun _ => ?_ | refine ((write_number_ok (FxOk.wd (by assumption)) _ _ 15 ?_ ?_ ?_).2 rfl).eqk fun _ => ?_ | refine (write_number_ok (FxOk.wd (by assumption)) _ _ _ ?_ ?_ ?_).1.eqk fun _ => ?_ | refine (read_number_ok (FxOk.wd (by assumption)) _ ?_).eqk fun _ => ?_))

theorem write_kT {w : World} {B : Heap} (wd : Wd w B) {x : Int} {y p : Nat} {T : List Nat} {Q : V → List (Addr × List V) → Prop} (hT : writeF x y p = T) (hx : Bd 300 x) (hy : Bd 300 (y : Int)) (h0 : 0 < y) (hp : p ≤ 15) (k : ∀ g, Q (.str (S T)) g) : Fn w B 165 2 [.tup [.int x, .int (y : Int)], .int (p : Int)] [] Q :=
  write_k wd hx hy h0 hp fun g => by rw [hT]; exact k g
theorem read_kT {w : World} {B : Heap} (wd : Wd w B) {l : List Nat} {u v : Int} {Q : V → List (Addr × List V) → Prop} (hr : readN l = (u, v)) (hl : l.length ≤ 1000) (k : ∀ g, Q (.tup [.int u, .int v]) g) : Fn w B 157 3 [.str (S l)] [] Q :=
  (read_number_ok wd l hl).eqk fun g => by rw [hr]; exact k g
theorem NX_dot' {w : World} {Φ : Fx} {mu : Addr → Prop} {ρ : List (Str × V)} {g : List (Addr × List V)} {pos : Pos} {k : Nat} {Q : V → List (Addr × List V) → Prop} (h : Q (.str (S [46])) g) : EX w Φ (.Constant (.str (Str.ofString ".")) k pos) ⟨mu, ρ, g⟩ Q := EX_str (by rw [lit_dot]; exact h)
theorem Cmp_ne_self {w : World} {A : Around} {x : Str} {P : Bool → Prop} (h : P false) : CmpOk w A .NotEq (.str x) (.str x) P := Cmp_ne_str (by simpa using h)
theorem Cmp_in_K {w : World} {A : Around} {c : Nat} {T : List Nat} {b : Bool} {P : Bool → Prop} (hb : decide (c ∈ T) = b) (h : P b) : CmpOk w A .In (.str (S [c])) (.str (S T)) P := Cmp_in_S (by rw [hb]; exact h)
theorem Cmp_eq_K {w : World} {A : Around} {x y : Str} {b : Bool} {P : Bool → Prop} (hb : (x == y) = b) (h : P b) : CmpOk w A .Eq (.str x) (.str y) P := Cmp_eq_str (by rw [hb]; exact h)
theorem Bin_pow10 {w : World} {A : Around} {p : Nat} {P : V → Prop} (hp : p ≤ 15) (h : P (.int ((10 ^ p : Nat) : Int))) : BinOk w A .Pow (.int 10) (.int (p : Int)) P := NB_pow (by omega) h

theorem Call_str_I {w : World} {A : Around} {i : Int} {P : V → Prop} (hi : Bd 500 i) (h : P (.str (Str.ofString (toString i)))) : CallOk w A (.type "str") [.int i] P := Call_str_int ((hi.mono (m := 1920) (by decide)).log (by decide)) h
theorem and_cont {a b : Str} {P : Prop} (h1 : Txt.contains a b = true) (h2 : P) : Txt.contains a b = true ∧ P := ⟨h1, h2⟩
theorem text_ways {x x0 y0 : Int} {y p : Nat} (hx : Bd 300 x) (hy : Bd 300 (y : Int)) (hp : p ≤ 15) (h0 : 0 < y) (hc : x0 * (y : Int) = x * y0) :
    (∃ T u, writeF x y p = T ∧ readN T = (u, 1) ∧ T.length ≤ 900 ∧ Bd 500 u ∧ decide (46 ∈ T) = false ∧ (S T == Str.ofString "-0") = false ∧ (S T == Str.ofString (toString u)) = true ∧ decide ((y0.natAbs : Int) * 1 < 2 * ((u * y0 - x0 * 1).natAbs : Int) * ((10 ^ p : Nat) : Int)) = false) ∨
    (∃ T u v c, writeF x y p = T ∧ readN T = (u, v) ∧ T.length ≤ 900 ∧ Bd 500 u ∧ Bd 500 v ∧ decide (46 ∈ T) = true ∧ T.getLast? = some c ∧ (S [c] == Str.ofString "0") = false ∧ (S [c] == S [46]) = false ∧ Txt.contains (S T) (S [46]) = true ∧ decide ((p : Int) + 1 < (T.length : Int) - Txt.find (S T) (S [46])) = false ∧
      (S T == Str.ofString "-0") = false ∧ (!decide (v = 1)) = true ∧ decide ((y0.natAbs : Int) * v < 2 * ((u * y0 - x0 * v).natAbs : Int) * ((10 ^ p : Nat) : Int)) = false) := by
  rcases Nat.eq_zero_or_pos (scaledN x y p % 10 ^ p) with hr | hr
  · obtain ⟨T, u, f1, f2, f3, f4, f5, f6, f7, f8⟩ := text_whole hx hy hp h0 hc hr
    exact .inl ⟨T, u, f1, f2, f3, f4, f5, f6, f7, decide_eq_false (Int.not_lt.mpr f8)⟩
  · obtain ⟨T, u, v, c, f1, f2, f3, f4, f5, f6, f7, f8, f9, f10, f11, f12, f13, f14⟩ := text_frac hx hy hp h0 hc hr
    exact .inr ⟨T, u, v, c, f1, f2, f3, f4, f5, f6, f7, f8, by rw [lit_p] at f9; exact f9, f10, f11, f12, by rw [decide_eq_false f13]; rfl, decide_eq_false (Int.not_lt.mpr f14)⟩
set_option maxHeartbeats 4000000 in
theorem law_written_fin {w : World} {B : Heap} (wd : Wd w B) (S : Addr) (x0 y0 x : Int) (y : Nat) (p q : Int) (hs : Src p q) (h0 : y0 ≠ 0) (hx0 : Bd 300 x0) (hy0 : Bd 300 y0) (hx : Bd 300 x) (hy : Bd 300 (y : Int)) (hp : 0 < y) (hc : x0 * (y : Int) = x * y0) :
    Fn w B 266 4 [.loc S, .tup [.int x0, .int y0], .tup [.int x, .int (y : Int)]] (sg S p q) fun d g => d = .bool true ∧ ∃ p' q', g = sg S p' q' ∧ Src p' q' := by
  refine fn_intro (f := 266) _ [Str.ofString "source", Str.ofString "a", Str.ofString "told"] wd rfl rfl rfl rfl rfl rfl rfl (by walk_at "B3") rfl (by decide) (by decide) (by decide) rfl rfl rfl rfl ?_
  (intro Φ mu ok hB hn; subst hB; dsimp only [List.zip_cons_cons, List.zip_nil_left] at ok ⊢)
  have hd0 : decide (y0 = 0) = false := by simpa using h0
  have h11 : (!decide ((1 : Int) = 1)) = false := rfl
  have hTT : ∀ pl : Nat, pl ≤ 15 → Bd 500 ((10 ^ pl : Nat) : Int) := fun pl hpl => by
    have := Bd_pow10 pl
    rw [show ((10 ^ pl : Nat) : Int) = (10 : Int) ^ pl by simp]
    exact this.mono (by omega)
  have bap : ∀ {u v : Int}, Bd 500 u → Bd 500 v → Bd 900 ((u * y0 - x0 * v).natAbs : Int) := fun {u v} hu hv => by
    have h := Bd.mono (Bd.sub (k := 800) (Bd.mul hu hy0) (Bd.mul hx0 hv)) (show 801 ≤ 900 by decide)
    unfold Bd at h ⊢
    rw [Int.natAbs_natCast]; exact h
  have b1 : Bd 500 1 := by unfold Bd; exact Nat.one_lt_two_pow (by decide)
  have b2 : Bd 3 2 := by unfold Bd; decide
  repeat' (first
    | with_reducible refine write_k1 (FxOk.wd (by assumption)) hx hy hp (fun _ => ?_)
    | with_reducible refine write_k15 (FxOk.wd (by assumption)) hx hy hp (fun _ => ?_)
    | with_reducible refine Cmp_ne_self ?_
    | ((with_reducible refine law_one_p (FxOk.wd (by assumption)) hs (fun x' y' pl hs' hpl => ?_)); (rcases text_ways hx hy hpl hp hc with ⟨T, u, f1, f2, f3, f4, f5, f6, f7, f8⟩ | ⟨T, u, v, c, f1, f2, f3, f4, f5, f6, f7, f8, f9, f10, f11, f12, f13, f14⟩))
    | with_reducible refine write_kT (FxOk.wd (by assumption)) (by assumption) hx hy hp (by assumption) (fun _ => ?_)
    | with_reducible refine read_kT (FxOk.wd (by assumption)) (by assumption) (Nat.le_trans (by assumption) (by decide)) (fun _ => ?_)
    | with_reducible refine NX_dot' ?_
    | with_reducible refine Cmp_in_K (by assumption) ?_
    | with_reducible refine Cmp_eq_K (by assumption) ?_
    | with_reducible refine Sub_strLast (by assumption) ?_ (Nat.lt_of_le_of_lt (by assumption) (by decide))
    | with_reducible refine AT_and1 ?_ | with_reducible refine AT_or1 ?_ | with_reducible refine AT_and ?_ | with_reducible refine AT_or ?_ | with_reducible refine and_cont (by assumption) ?_ | with_reducible refine Bin_pow10 (by assumption) ?_
    | with_reducible refine EX_or2 ?_
    | with_reducible refine Call_str_I (by assumption) ?_
    | with_reducible refine if_ff ?_ | with_reducible refine if_tt ?_ | with_reducible refine if_f (by assumption) ?_ | with_reducible refine if_t (by assumption) ?_ | walk_at "W" | (with_reducible first | refine (law_kind_ok (FxOk.wd (by assumption)) _ _).eqk fun _ => ?_ | refine ((write_number_ok (FxOk.wd (by assumption)) _ _ 15 ?_ ?_ ?_).2 rfl).eqk fun _ => ?_ | refine (write_number_ok (FxOk.wd (by assumption)) _ _ _ ?_ ?_ ?_).1.eqk fun _ => ?_ | refine (read_number_ok (FxOk.wd (by assumption)) _ ?_).eqk fun _ => ?_))
  all_goals (first
    | exact mulOk_of (k := 500) (m := 300) (by assumption) hy0 (by decide)
    | exact mulOk_of (k := 300) (m := 500) hx0 (by assumption) (by decide)
    | exact mulOk_of (k := 3) (m := 900) b2 (bap (by assumption) (by assumption)) (by decide)
    | exact mulOk_of (k := 903) (m := 500) (Bd.mul (k := 3) (m := 900) b2 (bap (by assumption) (by assumption))) (hTT _ (by assumption)) (by decide)
    | exact mulOk_of (k := 300) (m := 500) (by unfold Bd at hy0 ⊢; rw [Int.natAbs_natCast]; exact hy0) (by assumption) (by decide)
    | omega
    | exact ⟨rfl, rfl, _, _, rfl, by assumption⟩
    | trace_state)

theorem law_take_n {w : World} {B : Heap} (wd : Wd w B) {S : Addr} {x y top : Int} {Q : V → List (Addr × List V) → Prop} (hs : Src x y) (ht : 0 < top) (hb : Bd 9000 top) (k : ∀ (t : Nat) x' y', Src x' y' → (t : Int) < top → Q (.int (t : Int)) (sg S x' y')) : Fn w B 179 1 [.loc S, .int top] (sg S x y) Q :=
  law_take_k wd hs ht hb fun t x' y' h h0 h1 => by
    obtain ⟨n, rfl⟩ : ∃ n : Nat, t = n := ⟨t.toNat, by omega⟩
    exact k n x' y' h h1
theorem Call_str_dec {w : World} {A : Around} {n : Nat} {P : V → Prop} (hn : (n : Int) < 1200) (h : P (.str (S (dec n)))) : CallOk w A (.type "str") [.int (n : Int)] P := Call_str_nat (Bd.mono (k := 20) (BdN (by omega)) (by decide)) h
theorem Call_str_1000 {w : World} {A : Around} {r : Nat} {P : V → Prop} (hr : (r : Int) < 300) (h : P (.str (S (49 :: padT 3 r)))) : CallOk w A (.type "str") [.int ((r : Int) + 1000)] P := by
  have e : (r : Int) + 1000 = ((10 ^ 3 + r : Nat) : Int) := by omega
  rw [e]
  exact Call_str_nat (Bd.mono (k := 20) (BdN (by omega)) (by decide)) (by rw [dec_pad 3 r (by omega)]; exact h)
section rules
variable {w : World} {Φ : Fx} {names : List (Str × NameKind)} {mu : Addr → Prop} {ρ : List (Str × V)} {g : List (Addr × List V)} {pos p p' : Pos}
theorem EX_slice_1 {v : PySem.Expr} {k : Nat} {Q : V → List (Addr × List V) → Prop} (h : EX w Φ v ⟨mu, ρ, g⟩ fun d g1 => ∃ (c : Nat) (l : List Nat), d = .str (S (c :: l)) ∧ l.length ≤ 1000 ∧ Q (.str (S l)) g1) :
    EX w Φ (.Subscript v (.Slice (some (.Constant (.int 1) k p')) none none p) pos) ⟨mu, ρ, g⟩ Q :=
  EX_slice_sn (h.mono fun d g1 ⟨c, l, e, hl, hq⟩ => EX_int ⟨c :: l, 1, e, rfl, by rw [List.length_cons]; omega, by rw [List.length_cons]; omega, hq⟩)
theorem NX_dash' {k : Nat} {Q : V → List (Addr × List V) → Prop} (h : Q (.str (S [45])) g) : EX w Φ (.Constant (.str (Str.ofString "-")) k pos) ⟨mu, ρ, g⟩ Q := EX_str (by rw [lit_minus]; exact h)
theorem NX_dotc {k : Nat} {Q : V → List (Addr × List V) → Prop} (h : Q (.str (S [46])) g) : EX w Φ (.Constant (.str (Str.ofString ".")) k pos) ⟨mu, ρ, g⟩ Q := EX_str (by rw [lit_dot]; exact h)
end rules
theorem law_one_sgn {w : World} {B : Heap} (wd : Wd w B) {A : Addr} {x y : Int} {Q : V → List (Addr × List V) → Prop} (hs : Src x y) (k : ∀ x' y' b, Src x' y' → Q (.str (S (sgnT b))) (sg A x' y')) : Fn w B 186 2 [.loc A, .lst [.str (S []), .str (S [45])]] (sg A x y) Q :=
  law_one_a wd hs (by simp) fun x' y' h => ⟨k x' y' false h, k x' y' true h, trivial⟩
theorem law_one_bl {w : World} {B : Heap} (wd : Wd w B) {A : Addr} {x y : Int} {d0 : V} {l : List V} {Q : V → List (Addr × List V) → Prop} (hs : Src x y) (hP : All Blank (d0 :: l)) (hl : (d0 :: l).length ≤ 1000) (k : ∀ x' y' t, Src x' y' → t.length ≤ 10 → (∀ c ∈ t, isSp c = true) → Q (.str (S t)) (sg A x' y')) : Fn w B 186 2 [.loc A, .lst (d0 :: l)] (sg A x y) Q :=
  law_one_k wd hs (by simp) hl fun d hd x' y' h => by obtain ⟨t, rfl, h1, h2⟩ := hP.of d hd; exact k x' y' t h h1 h2
theorem law_one_w {w : World} {B : Heap} (wd : Wd w B) {A : Addr} {x y : Int} {d0 : V} {l : List V} {Q : V → List (Addr × List V) → Prop} (hs : Src x y) (hP : All Wrong (d0 :: l)) (hl : (d0 :: l).length ≤ 1000) (k : ∀ x' y' t, Src x' y' → t.length ≤ 50 → readN t = (0, 0) → Q (.str (S t)) (sg A x' y')) : Fn w B 186 2 [.loc A, .lst (d0 :: l)] (sg A x y) Q :=
  law_one_k wd hs (by simp) hl fun d hd x' y' h => by obtain ⟨t, rfl, h1, h2⟩ := hP.of d hd; exact k x' y' t h h1 h2
theorem Cmp_sgn {w : World} {A : Around} {b : Bool} {P : Bool → Prop} (h : P b) : CmpOk w A .Eq (.str (S (sgnT b))) (.str (S [45])) P := Cmp_eq_str (by
  have : (S (sgnT b) == S [45]) = b := by rw [S_inj]; cases b <;> rfl
  rw [this]; exact h)
theorem Call_int_dig {w : World} {A : Around} {l : List Nat} {P : V → Prop} (hd : ∀ c ∈ l, isDig c = true) (hn : l ≠ []) (hl : l.length ≤ 600) (h : P (.int (val l : Int))) : CallOk w A (.type "int") [.str (S l)] P :=
  Call_int_str (fun c hc => (dig_index (hd c hc)).2.2) hn hl h
theorem sgnT_le (b : Bool) : (sgnT b).length ≤ 1 := by cases b <;> decide


def HOLD (P : Prop) : Prop := P
section setapp
variable {w : World} {Φ : Fx} {names : List (Str × NameKind)} {mu : Addr → Prop} {ρ : List (Str × V)} {g : List (Addr × List V)}
theorem SS_setappH {x : Str} {es : List PySem.Expr} {e : PySem.Expr} {p1 p2 p3 p4 p5 p6 p7 : Pos} {rest : List Stmt} {Q : Fl → AS → Prop} (ok : FxOk w names Φ)
    (h : SP w Φ p2 es ⟨mu, ρ, g⟩ fun l g1 => Lim l (∀ Φ', FxOk w names Φ' → Φ'.A = Φ.A → Φ'.env = Φ.env → Φ'.B = Φ.B → Φ'.n = Φ.n → ∀ mu' a, EX w Φ' e ⟨mu', (x, .loc a) :: ρ, g1⟩ fun d g2 => HOLD (SS w Φ rest ⟨mu, (x, .lst (l ++ [d])) :: ρ, g2⟩ Q)))
    (hl : names.lookup x = some .local) (hw : swapsWith (.List es p2) (some (.Name x p1)) p3.line Φ.env = pure false)
    (hbase : ∀ env, attributeBase (.Name x p4) "append" env (eval (.Name x p4) env) = eval (.Name x p4) env)
    (hfew : ((backTo p6 (starEach [e] Φ.env)).all (fun x => !x.1) && (backToKw p6 (keywordEach [] Φ.env)).all (fun x => x.1.isSome)
      && decide (([e] : List PySem.Expr).length + ([] : List Keyword).length + (if ([] : List Keyword).isEmpty then 0 else 1) < 30)) = true)
    (hline : (p5.endLine == p6.line) = true) (htrees : backTo p6 (starEach [e] Φ.env) = [(false, eval e Φ.env)]) :
    SS w Φ (.Assign [.Name x p1] (.List es p2) p3 :: .Expr (.Call (.Attribute (.Name x p4) "append" p5) [e] [] p6) p7 :: rest) ⟨mu, ρ, g⟩ Q :=
  SS_setapp ok h hl hw hbase hfew hline htrees
end setapp
theorem read_kW {w : World} {B : Heap} (wd : Wd w B) {l : List Nat} {u v : Int} {Q : V → List (Addr × List V) → Prop} (hr : readN l = (u, v)) (hl : l.length ≤ 1000) (k : ∀ g, Q (.tup [.int u, .int v]) g) : Fn w B 157 3 [.str (S l)] [] Q :=
  (read_number_ok wd l hl).eqk fun g => by rw [hr]; exact k g
theorem read_kX {w : World} {B : Heap} (wd : Wd w B) {l l' : List Nat} {m : Int × Int} {Q : V → List (Addr × List V) → Prop} (hr : readN l' = m) (he : l = l') (hl : l.length ≤ 1000) (k : ∀ g, Q (.tup [.int m.1, .int m.2]) g) : Fn w B 157 3 [.str (S l)] [] Q :=
  (read_number_ok wd l hl).eqk fun g => by rw [he, hr]; exact k g
theorem number_kT {w : World} {B : Heap} (wd : Wd w B) {t b : Int} {Q : V → List (Addr × List V) → Prop} (hb : Bd 9000 b) (k : ∀ g, Q (.tup [.int (mk t b).1, .int (mk t b).2]) g) : Fn w B 38 2 [.int t, .int b] [] Q :=
  (number_of_ok wd t b hb).eqk fun g => k g
theorem Cmp_ne_prF {w : World} {A : Around} {i j : Int} (hu : A.units + 64 < cLine) {P : Bool → Prop} (h : P false) : CmpOk w A .NotEq (.tup [.int i, .int j]) (.tup [.int i, .int j]) P := Cmp_ne_pr hu (by simpa using h)
set_option maxHeartbeats 4000000 in
theorem law_read_right_ok {w : World} {B : Heap} (wd : Wd w B) (A0 : Addr) (p q : Int) (hs : Src p q) :
    Fn w B 273 4 [.loc A0] (sg A0 p q) fun d g => d = .bool true ∧ ∃ p' q', g = sg A0 p' q' ∧ Src p' q' := by
  refine fn_intro (f := 273) _ [Str.ofString "source"] wd rfl rfl rfl rfl rfl rfl rfl (by walk_at "B1") rfl (by decide) (by decide) (by decide) rfl rfl rfl rfl ?_
  (intro Φ mu ok hB hn; subst hB; dsimp only [List.zip_cons_cons, List.zip_nil_left] at ok ⊢)
  have b9 : ∀ {i : Int}, i.natAbs < 2 ^ 32 → Bd 9000 i := fun h => Bd.mono (k := 32) h (by decide)
  repeat' (first
    | with_reducible refine law_take_n (top := 1200) (FxOk.wd (by assumption)) (by assumption) (by decide) (b9 (by decide)) (fun n x1 y1 hs1 hn1 => ?_)
    | with_reducible refine law_take_n (top := 300) (FxOk.wd (by assumption)) (by assumption) (by decide) (b9 (by decide)) (fun r x2 y2 hs2 hr2 => ?_)
    | with_reducible refine law_one_sgn (FxOk.wd (by assumption)) (by assumption) (fun x3 y3 b hs3 => ?_)
    | ((with_reducible refine law_one_bl (FxOk.wd (by assumption)) (by assumption) ?h1 ?h2 (fun x4 y4 A hs4 hlA hspA => ?_)); (case h1 => exact ⟨blank_0, blank_1, blank_3, trivial⟩); (case h2 => exact Nat.le_of_ble_eq_true rfl))
    | ((with_reducible refine law_one_bl (FxOk.wd (by assumption)) (by assumption) ?h1 ?h2 (fun x5 y5 C hs5 hlC hspC => ?_)); (case h1 => exact ⟨blank_0, blank_2, trivial⟩); (case h2 => exact Nat.le_of_ble_eq_true rfl))
    | ((with_reducible refine SS_setappH (by assumption) ?_ ?h2 ?h3 ?h4 ?h5 ?h6 ?h7); (case h2 => rfl); (case h3 => rfl); (case h4 => exact fun _ => rfl); (case h5 => rfl); (case h6 => rfl); (case h7 => rfl))
    | with_reducible refine Call_str_dec (by assumption) ?_
    | with_reducible refine Call_str_1000 (by assumption) ?_
    | with_reducible refine EX_slice_1 ?_
    | ((with_reducible refine EX_intc (by assumption) ?_ ?h3 ?h6 ?h7); (case h3 => rfl); (case h6 => rfl); (case h7 => rfl))
    | with_reducible refine Call_int_dig ?_ ?_ ?_ ?_
    | with_reducible refine ⟨_, _, rfl, ?_, ?_⟩
    | with_reducible refine NX_dash' ?_ | with_reducible refine NX_dotc ?_
    | with_reducible refine Cmp_sgn ?_
    | with_reducible refine EX_ifj (i := -1) (j := 1) ?_
    | with_reducible refine ⟨fun _ => ?_, fun _ => ?_, ?_⟩
    | with_reducible refine fun Φ' ok' hA' hE' hB' hn' mu' a' => ?_
    | with_reducible refine if_ff ?_ | with_reducible refine if_tt ?_ | with_reducible refine if_f (by assumption) ?_ | with_reducible refine if_t (by assumption) ?_ | walk_at "W" | (with_reducible first | refine law_take_k (FxOk.wd (by assumption)) (by assumption) ?_ ?_ (fun _ _ _ _ _ _ => ?_) | refine (read_number_ok (FxOk.wd (by assumption)) _ ?_).eqk fun _ => ?_ | refine (number_of1_ok (FxOk.wd (by assumption)) _).eqk fun _ => ?_ | refine (number_of_ok (FxOk.wd (by assumption)) _ _ ?_).eqk fun _ => ?_))
  all_goals (try (first
    | exact dec_dig _
    | exact dec_ne _
    | exact padT_dig 3 _
    | exact app_dig (dec_dig _) (padT_dig 3 _)
    | exact List.cons_ne_nil _ _
    | exact List.append_ne_nil_of_left_ne_nil (dec_ne _) _
    | (intro h; have := padT_len 3 r; rw [h] at this; cases this)
    | (have h1 := dec_len n (k := 4) (by omega) (by decide); have h2 := padT_len 3 r; (try simp only [List.length_append, List.length_singleton]); omega)))
  clear ok' hA' hE' hB' hn'
  unfold HOLD
  refine SS_cons ?_
  refine SX_for (fun l ρ g => ρ = [(Str.ofString "spaces", .lst [.str (S A), .str (S C)]), (Str.ofString "factor", .int (if b = true then -1 else 1)), (Str.ofString "sign", .str (S (sgnT b))), (Str.ofString "source", .loc A0)] ∧ (∃ p' q', g = sg A0 p' q' ∧ Src p' q') ∧ All (Row A C b) l)
    [(Str.ofString "spaces", .lst [.str (S A), .str (S C)]), (Str.ofString "factor", .int (if b = true then -1 else 1)), (Str.ofString "sign", .str (S (sgnT b))), (Str.ofString "source", .loc A0)] ok ⟨rfl, rfl, rfl, rfl, trivial⟩ ?_ ?_ ?_ (.inr ⟨_, _, _, rfl⟩)
  · refine EX_loc ok rfl ⟨_, ItOf.lst, rfl, ⟨_, _, rfl, by assumption⟩, ?_⟩
    exact ⟨row_1 hspA hspC (by omega), row_2 hspA hspC (by omega), row_3 hspA hspC (by omega) (by omega), row_4 hspA hspC (by omega), trivial⟩
  · rintro Φ' ok' hB' hn' d l mu' ρ g ⟨rfl, ⟨p', q', rfl, hs'⟩, ⟨t, top, bot, rfl, ht, htop, hbot, hr⟩, hall⟩
    refine TG_tup3 ok' ?_
    repeat' (first
      | with_reducible refine read_kX (FxOk.wd (by assumption)) hr ?_ ?_ (fun _ => ?_)
      | with_reducible refine number_kT (FxOk.wd (by assumption)) ?_ (fun _ => ?_)
      | with_reducible refine Cmp_ne_prF (FxOk.u64 (by assumption)) ?_
      | with_reducible refine if_ff ?_ | with_reducible refine if_tt ?_ | with_reducible refine if_f (by assumption) ?_ | with_reducible refine if_t (by assumption) ?_ | walk_at "W" | (with_reducible first | refine law_take_k (FxOk.wd (by assumption)) (by assumption) ?_ ?_ (fun _ _ _ _ _ _ => ?_) | refine (read_number_ok (FxOk.wd (by assumption)) _ ?_).eqk fun _ => ?_ | refine (number_of1_ok (FxOk.wd (by assumption)) _).eqk fun _ => ?_ | refine (number_of_ok (FxOk.wd (by assumption)) _ _ ?_).eqk fun _ => ?_))
    all_goals (try (first
      | (have h1 := sgnT_le b; simp only [List.length_append]; omega)
      | (have h1 := sgnT_le b; omega)
      | rfl
      | exact hbot.mono (by decide)
      | exact mulOk_of (k := 1) (m := 50) (by unfold Bd; cases b <;> decide) htop (by decide)))
    exact ⟨[(Str.ofString "spaces", .lst [.str (S A), .str (S C)]), (Str.ofString "factor", .int (if b = true then -1 else 1)), (Str.ofString "sign", .str (S (sgnT b))), (Str.ofString "source", .loc A0)], ⟨rfl, rfl, rfl, rfl, trivial⟩, rfl, ⟨_, _, rfl, hs'⟩, hall⟩
  · rintro ρ g ⟨rfl, ⟨p', q', rfl, hs'⟩, -⟩ mu'
    dsimp only
    repeat' (first
      | ((with_reducible refine law_one_w (FxOk.wd (by assumption)) (by assumption) ?h1 ?h2 (fun x6 y6 T hs6 hlT hT => ?_)); (case h1 => exact ⟨wrong_0, wrong_1, wrong_2, wrong_3, wrong_4, wrong_5, wrong_6, wrong_7, wrong_8, wrong_9, wrong_10, wrong_11, wrong_12, trivial⟩); (case h2 => exact Nat.le_of_ble_eq_true rfl))
      | with_reducible refine NX_dash' ?_ | with_reducible refine NX_dotc ?_
      | with_reducible refine read_kW (FxOk.wd (by assumption)) (by assumption) (Nat.le_trans (by assumption) (by decide)) (fun _ => ?_)
      | with_reducible refine if_ff ?_ | with_reducible refine if_tt ?_ | with_reducible refine if_f (by assumption) ?_ | with_reducible refine if_t (by assumption) ?_ | walk_at "W" | (with_reducible first | refine law_take_k (FxOk.wd (by assumption)) (by assumption) ?_ ?_ (fun _ _ _ _ _ _ => ?_) | refine (read_number_ok (FxOk.wd (by assumption)) _ ?_).eqk fun _ => ?_ | refine (number_of1_ok (FxOk.wd (by assumption)) _).eqk fun _ => ?_ | refine (number_of_ok (FxOk.wd (by assumption)) _ _ ?_).eqk fun _ => ?_))
    exact ⟨rfl, rfl, _, _, rfl, hs6⟩

theorem Bd0 {k : Nat} : Bd k 0 := by unfold Bd; exact Nat.pow_pos (by decide)
theorem Bd1 {k : Nat} : Bd (k + 1) 1 := by unfold Bd; exact Nat.one_lt_two_pow (by omega)
theorem Bdm1 {k : Nat} : Bd (k + 1) (-1) := Bd1.neg
theorem lsg_bd1 (a : Int × Int) : Bd 2 (lsg a) := lsg_bd (k := 1) a
theorem fmod_bd {k : Nat} {x D : Int} (hD : 0 < D) (h : Bd k D) : Bd k (x.fmod D) := by
  have h1 := Int.fmod_nonneg_of_pos x hD
  have h2 := Int.fmod_lt_of_pos x hD
  unfold Bd at h ⊢
  omega
section bounds
variable {x y u v : Int} (hx : Bd 100 x) (hy : Bd 100 y) (hu : Bd 100 u) (hv : Bd 100 v)
include hx hy hu hv
theorem sum_bd : Bd 900 (sumF (x, y) (u, v)).1 ∧ Bd 900 (sumF (x, y) (u, v)).2 := by
  unfold sumF
  split
  · exact ⟨Bd.mono (k := 201) ((hx.mul hv).add (hu.mul hy)) (by decide), Bd.mono (k := 200) (hy.mul hv) (by decide)⟩
  · split
    · exact ⟨Bd0, Bd0⟩
    · split
      · exact ⟨Bd1, Bd0⟩
      · exact ⟨Bdm1, Bd0⟩
theorem prod_bd : Bd 900 (prodF (x, y) (u, v)).1 ∧ Bd 900 (prodF (x, y) (u, v)).2 := by
  unfold prodF
  split
  · exact ⟨Bd0, Bd0⟩
  · split
    · exact ⟨Bd.mono (k := 200) (hx.mul hu) (by decide), Bd.mono (k := 200) (hy.mul hv) (by decide)⟩
    · exact ⟨Bd.mono (k := 4) (Bd.mul (lsg_bd1 _) (lsg_bd1 _)) (by decide), Bd0⟩
theorem quo_bd : Bd 900 (quoF (x, y) (u, v)).1 ∧ Bd 900 (quoF (x, y) (u, v)).2 := by
  unfold quoF
  split
  · exact ⟨Bd0, Bd0⟩
  · split
    · exact ⟨Bd0, Bd1⟩
    · split
      · refine ⟨Bd.mono (k := 4) (Bd.mul (lsg_bd1 _) (m := 2) ?_) (by decide), Bd0⟩
        split
        · exact Bdm1
        · exact Bd1
      · split
        · exact ⟨Bd.mono (lsg_bd1 _) (by decide), Bd0⟩
        · exact ⟨Bd.mono (k := 200) (hx.mul hv) (by decide), Bd.mono (k := 200) (hy.mul hu) (by decide)⟩
theorem rest_bd : Bd 900 (restF (x, y) (u, v)).1 ∧ Bd 900 (restF (x, y) (u, v)).2 := by
  unfold restF
  split
  · exact ⟨Bd0, Bd0⟩
  · rename_i h1
    split
    · exact ⟨hx.mono (by decide), hy.mono (by decide)⟩
    · rename_i h2
      have key : y ≠ 0 ∧ v ≠ 0 ∧ u ≠ 0 := by
        simp only [Bool.not_eq_true] at h1 h2
        simp only [Bool.or_eq_false_iff, bne, Bool.not_eq_false', Bool.and_eq_false_iff, decide_eq_false_iff_not] at h1 h2
        refine ⟨knd_num h1.2.1, knd_num h2, fun h0 => ?_⟩
        rcases h1.2.2 with h | h
        · rw [h2] at h; cases h
        · exact h h0
      have hab : Bd 900 (((y * v).natAbs : Nat) : Int) := Bd.mono (k := 200) (Bd.le (hy.mul hv) (by omega)) (by decide)
      have hs : Bd 2 v.sign := by rw [← sgn_sign]; unfold sgn; split; exact Bd1; split; exact Bdm1; exact Bd0
      have hD : Bd 900 (((u * (y.natAbs : Int) * v.sign).natAbs : Nat) : Int) := by
        refine Bd.mono (k := 202) (Bd.le ((hu.mul (m := 100) (j := (y.natAbs : Int)) ?_).mul hs) (by omega)) (by decide)
        unfold Bd at hy ⊢; rw [Int.natAbs_natCast]; exact hy
      have hp : 0 < (((u * (y.natAbs : Int) * v.sign).natAbs : Nat) : Int) := by
        have := abs_sign_ne key.1 key.2.1 key.2.2
        omega
      dsimp only
      rw [fd_abs2 key.2.1]
      refine ⟨?_, hab⟩
      split
      · exact fmod_bd hp hD
      · exact (fmod_bd hp hD).neg
end bounds

section krules
variable {w : World} {B : Heap} {x y u v : Int} {Q : V → List (Addr × List V) → Prop}
theorem up4 {i : Int} (h : Bd 900 i) : Bd 4000 i := h.mono (by decide)
theorem up14 {i : Int} (h : Bd 100 i) : Bd 4000 i := h.mono (by decide)
theorem up19 {i : Int} (h : Bd 100 i) : Bd 900 i := h.mono (by decide)
theorem up13 {i : Int} (h : Bd 100 i) : Bd 300 i := h.mono (by decide)
theorem up90 {i : Int} (h : Bd 100 i) : Bd 9000 i := h.mono (by decide)
theorem m1 {k : Nat} (h : Bd (k + 1) x) : Bd (k + 1) (mk x y).1 := mk_bd (by omega) h
theorem m2 {k : Nat} (h : Bd k y) : Bd k (mk x y).2 := mk_bd2 h
theorem same_k (wd : Wd w B) (hx : Bd 900 x) (hy : Bd 900 y) (k : ∀ g, Q (.bool true) g) : Fn w B 214 2 [.tup [.int (mk x y).1, .int (mk x y).2], .tup [.int x, .int y]] [] Q :=
  (law_same_ok wd _ _ _ _ (up4 (m1 hx)) (up4 (m2 hy)) (up4 hx) (up4 hy)).eqk fun g => by
    rw [show sameB ((mk x y).1, (mk x y).2) (x, y) = true from same_mk x y]; exact k g
theorem negated_k (wd : Wd w B) (k : ∀ g, Q (.tup [.int (mk (-x) y).1, .int (mk (-x) y).2]) g) : Fn w B 52 1 [.tup [.int (mk x y).1, .int (mk x y).2]] [] Q :=
  (negated_ok wd _ _).eqk fun g => by
    rw [show neg ((mk x y).1, (mk x y).2) = mk (-x) y from neg_mk x y]; exact k g
section two
variable (hx : Bd 100 x) (hy : Bd 100 y) (hu : Bd 100 u) (hv : Bd 100 v)
include hx hy hu hv
theorem plus_k (wd : Wd w B) (k : ∀ g, Q (.tup [.int (mk (sumF (x, y) (u, v)).1 (sumF (x, y) (u, v)).2).1, .int (mk (sumF (x, y) (u, v)).1 (sumF (x, y) (u, v)).2).2]) g) : Fn w B 59 3 [.tup [.int (mk x y).1, .int (mk x y).2], .tup [.int (mk u v).1, .int (mk u v).2]] [] Q :=
  (plus_ok wd _ _ _ _ (up14 (m1 hx)) (up14 (m2 hy)) (up14 (m1 hu)) (up14 (m2 hv))).eqk fun g => by
    rw [show plus ((mk x y).1, (mk x y).2) ((mk u v).1, (mk u v).2) = _ from plus_mk x y u v]; exact k g
theorem minus_k (wd : Wd w B) (k : ∀ g, Q (.tup [.int (mk (sumF (x, y) (-u, v)).1 (sumF (x, y) (-u, v)).2).1, .int (mk (sumF (x, y) (-u, v)).1 (sumF (x, y) (-u, v)).2).2]) g) : Fn w B 66 4 [.tup [.int (mk x y).1, .int (mk x y).2], .tup [.int (mk u v).1, .int (mk u v).2]] [] Q :=
  (minus_ok wd _ _ _ _ (up14 (m1 hx)) (up14 (m2 hy)) (up14 (m1 hu)) (up14 (m2 hv))).eqk fun g => by
    have e : minus ((mk x y).1, (mk x y).2) ((mk u v).1, (mk u v).2) = mk (sumF (x, y) (-u, v)).1 (sumF (x, y) (-u, v)).2 := by
      rw [← plus_mk x y (-u) v, ← neg_mk u v]; rfl
    rw [e]; exact k g
theorem times_k (wd : Wd w B) (k : ∀ g, Q (.tup [.int (mk (prodF (x, y) (u, v)).1 (prodF (x, y) (u, v)).2).1, .int (mk (prodF (x, y) (u, v)).1 (prodF (x, y) (u, v)).2).2]) g) : Fn w B 73 3 [.tup [.int (mk x y).1, .int (mk x y).2], .tup [.int (mk u v).1, .int (mk u v).2]] [] Q :=
  (times_ok wd _ _ _ _ (up14 (m1 hx)) (up14 (m2 hy)) (up14 (m1 hu)) (up14 (m2 hv))).eqk fun g => by
    rw [show times ((mk x y).1, (mk x y).2) ((mk u v).1, (mk u v).2) = _ from times_mk x y u v]; exact k g
theorem divided_k (wd : Wd w B) (k : ∀ g, Q (.tup [.int (mk (quoF (x, y) (u, v)).1 (quoF (x, y) (u, v)).2).1, .int (mk (quoF (x, y) (u, v)).1 (quoF (x, y) (u, v)).2).2]) g) : Fn w B 80 3 [.tup [.int (mk x y).1, .int (mk x y).2], .tup [.int (mk u v).1, .int (mk u v).2]] [] Q :=
  (divided_ok wd _ _ _ _ (up14 (m1 hx)) (up14 (m2 hy)) (up14 (m1 hu)) (up14 (m2 hv))).eqk fun g => by
    rw [show divided ((mk x y).1, (mk x y).2) ((mk u v).1, (mk u v).2) = _ from divided_mk x y u v]; exact k g
theorem modulo_k (wd : Wd w B) (k : ∀ g, Q (.tup [.int (mk (restF (x, y) (u, v)).1 (restF (x, y) (u, v)).2).1, .int (mk (restF (x, y) (u, v)).1 (restF (x, y) (u, v)).2).2]) g) : Fn w B 94 5 [.tup [.int (mk x y).1, .int (mk x y).2], .tup [.int (mk u v).1, .int (mk u v).2]] [] Q :=
  (modulo_ok wd _ _ _ _ (up19 (m1 hx)) (up19 (m2 hy)) (up19 (m1 hu)) (up19 (m2 hv))).eqk fun g => by
    rw [show modulo ((mk x y).1, (mk x y).2) ((mk u v).1, (mk u v).2) = _ from modulo_mk x y u v]; exact k g
theorem lsum_k (wd : Wd w B) (k : ∀ g, Q (.tup [.int (sumF (x, y) (u, v)).1, .int (sumF (x, y) (u, v)).2]) g) : Fn w B 221 2 [.tup [.int x, .int y], .tup [.int u, .int v]] [] Q :=
  (law_sum_ok wd _ _ _ _ (up14 hx) (up14 hy) (up14 hu) (up14 hv)).eqk k
theorem lprod_k (wd : Wd w B) (k : ∀ g, Q (.tup [.int (prodF (x, y) (u, v)).1, .int (prodF (x, y) (u, v)).2]) g) : Fn w B 228 2 [.tup [.int x, .int y], .tup [.int u, .int v]] [] Q :=
  (law_product_ok wd _ _ _ _ (up14 hx) (up14 hy) (up14 hu) (up14 hv)).eqk k
theorem lquo_k (wd : Wd w B) (k : ∀ g, Q (.tup [.int (quoF (x, y) (u, v)).1, .int (quoF (x, y) (u, v)).2]) g) : Fn w B 235 2 [.tup [.int x, .int y], .tup [.int u, .int v]] [] Q :=
  (law_quotient_ok wd _ _ _ _ (up14 hx) (up14 hy) (up14 hu) (up14 hv)).eqk k
theorem lrest_k (wd : Wd w B) (k : ∀ g, Q (.tup [.int (restF (x, y) (u, v)).1, .int (restF (x, y) (u, v)).2]) g) : Fn w B 242 2 [.tup [.int x, .int y], .tup [.int u, .int v]] [] Q :=
  (law_rest_ok wd _ _ _ _ (up14 hx) (up14 hy) (up14 hu) (up14 hv)).eqk k
theorem compared_k (wd : Wd w B) (k : ∀ g, Q (.bool true) g) : Fn w B 252 4 [.tup [.int x, .int y], .tup [.int u, .int v], .tup [.int (mk x y).1, .int (mk x y).2], .tup [.int (mk u v).1, .int (mk u v).2]] [] Q :=
  (law_compared_right_ok wd _ _ _ _ _ _ _ _ (up14 hx) (up14 hy) (up14 hu) (up14 hv) (up14 (m1 hx)) (up14 (m2 hy)) (up14 (m1 hu)) (up14 (m2 hv))).eqk fun g => by
    rw [show compR (x, y) (u, v) ((mk x y).1, (mk x y).2) ((mk u v).1, (mk u v).2) = true from compR_true x y u v]; exact k g
end two
theorem whole_k (wd : Wd w B) (hx : Bd 100 x) (hy : Bd 100 y) (k : ∀ g, Q (.bool true) g) : Fn w B 259 5 [.tup [.int x, .int y], .tup [.int (mk x y).1, .int (mk x y).2]] [] Q :=
  (law_whole_right_ok wd _ _ _ _ (up19 hx) (up19 hy) (up19 (m1 hx)) (up19 (m2 hy))).eqk fun g => by
    rw [show wholeB (x, y) ((mk x y).1, (mk x y).2) = true from whole_true x y]; exact k g
theorem written_k (wd : Wd w B) {S : Addr} {p q : Int} (hs : Src p q) (hx : Bd 100 x) (hy : Bd 100 y) (k : ∀ p' q', Src p' q' → Q (.bool true) (sg S p' q')) : Fn w B 266 4 [.loc S, .tup [.int x, .int y], .tup [.int (mk x y).1, .int (mk x y).2]] (sg S p q) Q := by
  by_cases h : y = 0
  · subst h
    rw [mk_inf]
    refine (law_written_inf wd S x p q hs).mono fun d g hd => ?_
    obtain ⟨rfl, rfl⟩ := hd
    exact k p q hs
  · obtain ⟨h1, h2, -⟩ := mk_facts (t := x) h
    obtain ⟨n, hn⟩ : ∃ n : Nat, (mk x y).2 = n := ⟨(mk x y).2.toNat, by omega⟩
    have b2 : Bd 100 (mk x y).2 := m2 hy
    rw [hn] at b2 h1 h2 ⊢
    refine (law_written_fin wd S x y (mk x y).1 n p q hs h (up13 hx) (up13 hy) (up13 (m1 hx)) (up13 b2) (by omega) h2.symm).mono fun d g hd => ?_
    obtain ⟨rfl, p', q', rfl, hs'⟩ := hd
    exact k p' q' hs'
theorem readr_k (wd : Wd w B) {S : Addr} {p q : Int} (hs : Src p q) (k : ∀ p' q', Src p' q' → Q (.bool true) (sg S p' q')) : Fn w B 273 4 [.loc S] (sg S p q) Q :=
  (law_read_right_ok wd S p q hs).mono fun d g hd => by
    obtain ⟨rfl, p', q', rfl, hs'⟩ := hd
    exact k p' q' hs'
theorem pool_k (wd : Wd w B) {ns : List Int} {k : Nat} (hn : ns.length ≤ 1000) (hk : k ≤ 10) {Q : V → V → Prop} (h : ∀ x y, Src x y → Q (.int x) (.int y)) : FnN w B 172 1 [.lst (ns.map V.int), .int (k : Int)] Q := by
  intro A mu s vals a b c d e f g
  refine codeAny_mono (law_pool_ok wd ns k hn hk A mu s vals a b c d e f g) fun r s' => ?_
  rintro ⟨a, d, e, h1, h2, h3, h4, h5, h6, x, y, rfl, rfl, hs⟩
  exact ⟨a, _, _, h1, h2, h3, h4, h5, h6, h x y hs⟩
end krules
section rules
variable {w : World} {Φ : Fx} {names : List (Str × NameKind)} {mu : Addr → Prop} {ρ : List (Str × V)} {g : List (Addr × List V)} {pos p : Pos}
theorem EX_range {e : PySem.Expr} {es : List PySem.Expr} {Q : V → List (Addr × List V) → Prop} (ok : FxOk w names Φ) (h : SP w Φ pos (e :: es) ⟨mu, ρ, g⟩ fun l g1 => CallOk w Φ.A (.type "range") l fun d => Q d g1) (hl : names.lookup (Str.ofString "range") = some .globalImplicit)
    (hs' : starEach (e :: es) Φ.env = (false, eval e Φ.env) :: starEach es Φ.env) (hp : (backTo pos (starEach (e :: es) Φ.env)).any (·.1) = false) : EX w Φ (.Call (.Name (Str.ofString "range") p) (e :: es) [] pos) ⟨mu, ρ, g⟩ Q :=
  EX_bootT ok (T := "range") (by decide +kernel) h (nb_range w) hl (by decide) hs' hp
theorem Call_range3 {A : Around} {i : Int} {P : V → Prop} (h0 : 0 ≤ i) (h1 : i ≤ 3) (h : ∀ n : Nat, n ≤ 3 → P (.rng n)) : CallOk w A (.type "range") [.int i] P := by
  obtain ⟨n, rfl⟩ : ∃ n : Nat, i = n := ⟨i.toNat, by omega⟩
  exact Call_range (by omega) (h n (by omega))
theorem SS_nosig {b : List Stmt} {Q : Fl → AS → Prop} (h : SS w Φ b ⟨mu, ρ, []⟩ Q) : SS w Φ b ⟨mu, ρ, g⟩ Q :=
  fun s hs => h s ⟨hs.sat.nosig, hs.gens, hs.os⟩
theorem IT_nt {P Q : Prop} (h : Q) : if (!true) = true then P else Q := (if_neg (by decide)).mpr h
end rules
def Told (d : V) : Prop := ∃ p q : Int, d = .tup [.tup [.int (mk p q).1, .int (mk p q).2], .tup [.int p, .int q]] ∧ Bd 900 p ∧ Bd 900 q
theorem told_of {p q : Int} (h : Bd 900 p ∧ Bd 900 q) : Told (.tup [.tup [.int (mk p q).1, .int (mk p q).2], .tup [.int p, .int q]]) := ⟨p, q, rfl, h.1, h.2⟩
theorem all_mem {P : V → Prop} : ∀ {l : List V}, (∀ d ∈ l, P d) → All P l
  | [], _ => trivial
  | d :: l, h => ⟨h d (.head _), all_mem fun e he => h e (.tail _ he)⟩
theorem all_range (n : Nat) (h : ∀ k, k < n → k ≤ 10) : All (fun d => ∃ k : Nat, d = V.int k ∧ k ≤ 10) ((List.range n).map fun (k : Nat) => V.int (k : Int)) :=
  all_mem fun d hd => by
    obtain ⟨k, hk, rfl⟩ := List.mem_map.mp hd
    exact ⟨k, rfl, h k (List.mem_range.mp hk)⟩
theorem number_s {w : World} {B : Heap} (wd : Wd w B) {S : Addr} {x y : Int} {Q : V → List (Addr × List V) → Prop} (hs : Src x y) (k : ∀ t b x' y', Src x' y' → Bd 100 t → Bd 100 b → Q (.tup [.int t, .int b]) (sg S x' y')) : Fn w B 193 3 [.loc S] (sg S x y) Q := law_number_k wd hs k
theorem numk {w : World} {B : Heap} (wd : Wd w B) {t b : Int} {Q : V → List (Addr × List V) → Prop} (hb : Bd 100 b) (k : ∀ g, Q (.tup [.int (mk t b).1, .int (mk t b).2]) g) : Fn w B 38 2 [.int t, .int b] [] Q := number_kT wd (up90 hb) k
set_option maxHeartbeats 8000000 in
theorem law_ok {w : World} {B : Heap} (wd : Wd w B) (ns : List Int) (hn : ns.length ≤ 1000) : Fn w B 280 6 [.lst (ns.map V.int)] [] fun d _ => d = .bool true := by
  refine fn_intro (f := 280) _ [Str.ofString "script"] wd rfl rfl rfl rfl rfl rfl rfl (by walk_at "B1") rfl (by decide) (by decide) (by decide) rfl rfl rfl rfl ?_
  (intro Φ mu ok hB hn'; subst hB; dsimp only [List.zip_cons_cons, List.zip_nil_left] at ok ⊢)
  refine SS_cons ?_
  refine SX_for (fun l ρ g => ρ = [(Str.ofString "script", .lst (ns.map V.int))] ∧ All (fun d => ∃ k : Nat, d = .int k ∧ k ≤ 10) l) [(Str.ofString "script", .lst (ns.map V.int))] ok ⟨rfl, trivial⟩ ?_ ?_ ?_ (.inl ⟨_, _, rfl⟩)
  · repeat' (first
      | ((with_reducible refine EX_range (by assumption) ?_ ?h3 ?h6 ?h7); (case h3 => rfl); (case h6 => rfl); (case h7 => rfl))
      | ((with_reducible refine EX_min (by assumption) ?_ ?h3 ?h6 ?h7); (case h3 => rfl); (case h6 => rfl); (case h7 => rfl))
      | ((with_reducible refine EX_max (by assumption) ?_ ?h3 ?h6 ?h7); (case h3 => rfl); (case h6 => rfl); (case h7 => rfl))
      | with_reducible refine Call_min (FxOk.handled (by assumption)) ?_
      | with_reducible refine Call_max (FxOk.handled (by assumption)) ?_
      | with_reducible refine Call_range3 ?_ ?_ (fun n hn3 => ?_)
      | with_reducible refine Call_len_ints hn ?_
      | with_reducible refine IT_nt ?_ | with_reducible refine if_ff ?_ | with_reducible refine if_tt ?_ | walk_at "W" | (with_reducible first | refine (law_whole_right_ok (FxOk.wd (by assumption)) _ _ _ _ ?_ ?_ ?_ ?_).eqk fun _ => ?_ | refine (law_compared_right_ok (FxOk.wd (by assumption)) _ _ _ _ _ _ _ _ ?_ ?_ ?_ ?_ ?_ ?_ ?_ ?_).eqk fun _ => ?_ | refine (law_rest_ok (FxOk.wd (by assumption)) _ _ _ _ ?_ ?_ ?_ ?_).eqk fun _ => ?_ | refine (law_quotient_ok (FxOk.wd (by assumption)) _ _ _ _ ?_ ?_ ?_ ?_).eqk fun _ => ?_ | refine (law_product_ok (FxOk.wd (by assumption)) _ _ _ _ ?_ ?_ ?_ ?_).eqk fun _ => ?_ | refine (law_sum_ok (FxOk.wd (by assumption)) _ _ _ _ ?_ ?_ ?_ ?_).eqk fun _ => ?_ | refine (law_same_ok (FxOk.wd (by assumption)) _ _ _ _ ?_ ?_ ?_ ?_).eqk fun _ => ?_ | refine law_number_k (FxOk.wd (by assumption)) (by assumption) (fun _ _ _ _ _ _ _ => ?_) | refine (modulo_ok (FxOk.wd (by assumption)) _ _ _ _ ?_ ?_ ?_ ?_).eqk fun _ => ?_ | refine (number_of1_ok (FxOk.wd (by assumption)) _).eqk fun _ => ?_ | refine (divided_ok (FxOk.wd (by assumption)) _ _ _ _ ?_ ?_ ?_ ?_).eqk fun _ => ?_ | refine (times_ok (FxOk.wd (by assumption)) _ _ _ _ ?_ ?_ ?_ ?_).eqk fun _ => ?_ | refine (minus_ok (FxOk.wd (by assumption)) _ _ _ _ ?_ ?_ ?_ ?_).eqk fun _ => ?_ | refine (plus_ok (FxOk.wd (by assumption)) _ _ _ _ ?_ ?_ ?_ ?_).eqk fun _ => ?_ | refine (negated_ok (FxOk.wd (by assumption)) _ _).eqk fun _ => ?_ | refine (number_of_ok (FxOk.wd (by assumption)) _ _ ?_).eqk fun _ => ?_))
    · split <;> (split <;> omega)
    · split <;> (split <;> omega)
    · refine ⟨_, ItOf.rng (by omega), rfl, all_range n (fun k hk => by omega)⟩
  · rintro Φ' ok' hB' hn' d l mu' ρ g ⟨rfl, ⟨k, rfl, hk⟩, hall⟩
    refine TG_name ok' ?_
    repeat' (first
      | with_reducible refine pool_k (FxOk.wd (by assumption)) hn hk (fun x0 y0 hs0 a0 => ?_)
      | ((with_reducible refine SX_setnew (fa := 172) (n := 1) (oc := ?oc) (od := ?od) (osl := ?osl) (fd := ?fd) (by assumption) ?_ ?_ (ns_law_pool w) ?h4 ?h5 ?h6 ?h7 ?h8); (case h4 => rfl); (case h5 => rfl); (case h6 => rfl); (case h7 => rfl); (case h8 => rfl))
      | with_reducible refine number_s (FxOk.wd (by assumption)) (by assumption) ?_
      | with_reducible refine numk (FxOk.wd (by assumption)) (by assumption) (fun _ => ?_)
      | with_reducible refine same_k (FxOk.wd (by assumption)) ?_ ?_ (fun _ => ?_)
      | with_reducible refine negated_k (FxOk.wd (by assumption)) (fun _ => ?_)
      | with_reducible refine plus_k ht hb hu hv (FxOk.wd (by assumption)) (fun _ => ?_)
      | with_reducible refine minus_k ht hb hu hv (FxOk.wd (by assumption)) (fun _ => ?_)
      | with_reducible refine times_k ht hb hu hv (FxOk.wd (by assumption)) (fun _ => ?_)
      | with_reducible refine divided_k ht hb hu hv (FxOk.wd (by assumption)) (fun _ => ?_)
      | with_reducible refine modulo_k ht hb hu hv (FxOk.wd (by assumption)) (fun _ => ?_)
      | with_reducible refine lsum_k ht hb hu hv (FxOk.wd (by assumption)) (fun _ => ?_)
      | with_reducible refine lsum_k ht hb hu.neg hv (FxOk.wd (by assumption)) (fun _ => ?_)
      | with_reducible refine lprod_k ht hb hu hv (FxOk.wd (by assumption)) (fun _ => ?_)
      | with_reducible refine lquo_k ht hb hu hv (FxOk.wd (by assumption)) (fun _ => ?_)
      | with_reducible refine lrest_k ht hb hu hv (FxOk.wd (by assumption)) (fun _ => ?_)
      | with_reducible refine compared_k ht hb hu hv (FxOk.wd (by assumption)) (fun _ => ?_)
      | with_reducible refine whole_k (FxOk.wd (by assumption)) ht hb (fun _ => ?_)
      | with_reducible refine whole_k (FxOk.wd (by assumption)) hu hv (fun _ => ?_)
      | with_reducible refine written_k (FxOk.wd (by assumption)) (by assumption) ht hb (fun _ _ _ => ?_)
      | with_reducible refine readr_k (FxOk.wd (by assumption)) (by assumption) (fun _ _ _ => ?_)
      | with_reducible refine AT_or1 ?_ | with_reducible refine AT_or ?_
      | with_reducible refine IT_nt ?_ | with_reducible refine if_ff ?_ | with_reducible refine if_tt ?_ | walk_at "W" | (with_reducible first | refine (law_whole_right_ok (FxOk.wd (by assumption)) _ _ _ _ ?_ ?_ ?_ ?_).eqk fun _ => ?_ | refine (law_compared_right_ok (FxOk.wd (by assumption)) _ _ _ _ _ _ _ _ ?_ ?_ ?_ ?_ ?_ ?_ ?_ ?_).eqk fun _ => ?_ | refine (law_rest_ok (FxOk.wd (by assumption)) _ _ _ _ ?_ ?_ ?_ ?_).eqk fun _ => ?_ | refine (law_quotient_ok (FxOk.wd (by assumption)) _ _ _ _ ?_ ?_ ?_ ?_).eqk fun _ => ?_ | refine (law_product_ok (FxOk.wd (by assumption)) _ _ _ _ ?_ ?_ ?_ ?_).eqk fun _ => ?_ | refine (law_sum_ok (FxOk.wd (by assumption)) _ _ _ _ ?_ ?_ ?_ ?_).eqk fun _ => ?_ | refine (law_same_ok (FxOk.wd (by assumption)) _ _ _ _ ?_ ?_ ?_ ?_).eqk fun _ => ?_ | refine law_number_k (FxOk.wd (by assumption)) (by assumption) (fun _ _ _ _ _ _ _ => ?_) | refine (modulo_ok (FxOk.wd (by assumption)) _ _ _ _ ?_ ?_ ?_ ?_).eqk fun _ => ?_ | refine (number_of1_ok (FxOk.wd (by assumption)) _).eqk fun _ => ?_ | refine (divided_ok (FxOk.wd (by assumption)) _ _ _ _ ?_ ?_ ?_ ?_).eqk fun _ => ?_ | refine (times_ok (FxOk.wd (by assumption)) _ _ _ _ ?_ ?_ ?_ ?_).eqk fun _ => ?_ | refine (minus_ok (FxOk.wd (by assumption)) _ _ _ _ ?_ ?_ ?_ ?_).eqk fun _ => ?_ | refine (plus_ok (FxOk.wd (by assumption)) _ _ _ _ ?_ ?_ ?_ ?_).eqk fun _ => ?_ | refine (negated_ok (FxOk.wd (by assumption)) _ _).eqk fun _ => ?_ | refine (number_of_ok (FxOk.wd (by assumption)) _ _ ?_).eqk fun _ => ?_))
    intro t b x1 y1 hs1 ht hb
    repeat' (first
      | with_reducible refine pool_k (FxOk.wd (by assumption)) hn hk (fun x0 y0 hs0 a0 => ?_)
      | ((with_reducible refine SX_setnew (fa := 172) (n := 1) (oc := ?oc) (od := ?od) (osl := ?osl) (fd := ?fd) (by assumption) ?_ ?_ (ns_law_pool w) ?h4 ?h5 ?h6 ?h7 ?h8); (case h4 => rfl); (case h5 => rfl); (case h6 => rfl); (case h7 => rfl); (case h8 => rfl))
      | with_reducible refine number_s (FxOk.wd (by assumption)) (by assumption) ?_
      | with_reducible refine numk (FxOk.wd (by assumption)) (by assumption) (fun _ => ?_)
      | with_reducible refine same_k (FxOk.wd (by assumption)) ?_ ?_ (fun _ => ?_)
      | with_reducible refine negated_k (FxOk.wd (by assumption)) (fun _ => ?_)
      | with_reducible refine plus_k ht hb hu hv (FxOk.wd (by assumption)) (fun _ => ?_)
      | with_reducible refine minus_k ht hb hu hv (FxOk.wd (by assumption)) (fun _ => ?_)
      | with_reducible refine times_k ht hb hu hv (FxOk.wd (by assumption)) (fun _ => ?_)
      | with_reducible refine divided_k ht hb hu hv (FxOk.wd (by assumption)) (fun _ => ?_)
      | with_reducible refine modulo_k ht hb hu hv (FxOk.wd (by assumption)) (fun _ => ?_)
      | with_reducible refine lsum_k ht hb hu hv (FxOk.wd (by assumption)) (fun _ => ?_)
      | with_reducible refine lsum_k ht hb hu.neg hv (FxOk.wd (by assumption)) (fun _ => ?_)
      | with_reducible refine lprod_k ht hb hu hv (FxOk.wd (by assumption)) (fun _ => ?_)
      | with_reducible refine lquo_k ht hb hu hv (FxOk.wd (by assumption)) (fun _ => ?_)
      | with_reducible refine lrest_k ht hb hu hv (FxOk.wd (by assumption)) (fun _ => ?_)
      | with_reducible refine compared_k ht hb hu hv (FxOk.wd (by assumption)) (fun _ => ?_)
      | with_reducible refine whole_k (FxOk.wd (by assumption)) ht hb (fun _ => ?_)
      | with_reducible refine whole_k (FxOk.wd (by assumption)) hu hv (fun _ => ?_)
      | with_reducible refine written_k (FxOk.wd (by assumption)) (by assumption) ht hb (fun _ _ _ => ?_)
      | with_reducible refine readr_k (FxOk.wd (by assumption)) (by assumption) (fun _ _ _ => ?_)
      | with_reducible refine AT_or1 ?_ | with_reducible refine AT_or ?_
      | with_reducible refine IT_nt ?_ | with_reducible refine if_ff ?_ | with_reducible refine if_tt ?_ | walk_at "W" | (with_reducible first | refine (law_whole_right_ok (FxOk.wd (by assumption)) _ _ _ _ ?_ ?_ ?_ ?_).eqk fun _ => ?_ | refine (law_compared_right_ok (FxOk.wd (by assumption)) _ _ _ _ _ _ _ _ ?_ ?_ ?_ ?_ ?_ ?_ ?_ ?_).eqk fun _ => ?_ | refine (law_rest_ok (FxOk.wd (by assumption)) _ _ _ _ ?_ ?_ ?_ ?_).eqk fun _ => ?_ | refine (law_quotient_ok (FxOk.wd (by assumption)) _ _ _ _ ?_ ?_ ?_ ?_).eqk fun _ => ?_ | refine (law_product_ok (FxOk.wd (by assumption)) _ _ _ _ ?_ ?_ ?_ ?_).eqk fun _ => ?_ | refine (law_sum_ok (FxOk.wd (by assumption)) _ _ _ _ ?_ ?_ ?_ ?_).eqk fun _ => ?_ | refine (law_same_ok (FxOk.wd (by assumption)) _ _ _ _ ?_ ?_ ?_ ?_).eqk fun _ => ?_ | refine law_number_k (FxOk.wd (by assumption)) (by assumption) (fun _ _ _ _ _ _ _ => ?_) | refine (modulo_ok (FxOk.wd (by assumption)) _ _ _ _ ?_ ?_ ?_ ?_).eqk fun _ => ?_ | refine (number_of1_ok (FxOk.wd (by assumption)) _).eqk fun _ => ?_ | refine (divided_ok (FxOk.wd (by assumption)) _ _ _ _ ?_ ?_ ?_ ?_).eqk fun _ => ?_ | refine (times_ok (FxOk.wd (by assumption)) _ _ _ _ ?_ ?_ ?_ ?_).eqk fun _ => ?_ | refine (minus_ok (FxOk.wd (by assumption)) _ _ _ _ ?_ ?_ ?_ ?_).eqk fun _ => ?_ | refine (plus_ok (FxOk.wd (by assumption)) _ _ _ _ ?_ ?_ ?_ ?_).eqk fun _ => ?_ | refine (negated_ok (FxOk.wd (by assumption)) _ _).eqk fun _ => ?_ | refine (number_of_ok (FxOk.wd (by assumption)) _ _ ?_).eqk fun _ => ?_))
    intro u v x2 y2 hs2 hu hv
    repeat' (first
      | with_reducible refine pool_k (FxOk.wd (by assumption)) hn hk (fun x0 y0 hs0 a0 => ?_)
      | ((with_reducible refine SX_setnew (fa := 172) (n := 1) (oc := ?oc) (od := ?od) (osl := ?osl) (fd := ?fd) (by assumption) ?_ ?_ (ns_law_pool w) ?h4 ?h5 ?h6 ?h7 ?h8); (case h4 => rfl); (case h5 => rfl); (case h6 => rfl); (case h7 => rfl); (case h8 => rfl))
      | with_reducible refine number_s (FxOk.wd (by assumption)) (by assumption) ?_
      | with_reducible refine numk (FxOk.wd (by assumption)) (by assumption) (fun _ => ?_)
      | with_reducible refine same_k (FxOk.wd (by assumption)) ?_ ?_ (fun _ => ?_)
      | with_reducible refine negated_k (FxOk.wd (by assumption)) (fun _ => ?_)
      | with_reducible refine plus_k ht hb hu hv (FxOk.wd (by assumption)) (fun _ => ?_)
      | with_reducible refine minus_k ht hb hu hv (FxOk.wd (by assumption)) (fun _ => ?_)
      | with_reducible refine times_k ht hb hu hv (FxOk.wd (by assumption)) (fun _ => ?_)
      | with_reducible refine divided_k ht hb hu hv (FxOk.wd (by assumption)) (fun _ => ?_)
      | with_reducible refine modulo_k ht hb hu hv (FxOk.wd (by assumption)) (fun _ => ?_)
      | with_reducible refine lsum_k ht hb hu hv (FxOk.wd (by assumption)) (fun _ => ?_)
      | with_reducible refine lsum_k ht hb hu.neg hv (FxOk.wd (by assumption)) (fun _ => ?_)
      | with_reducible refine lprod_k ht hb hu hv (FxOk.wd (by assumption)) (fun _ => ?_)
      | with_reducible refine lquo_k ht hb hu hv (FxOk.wd (by assumption)) (fun _ => ?_)
      | with_reducible refine lrest_k ht hb hu hv (FxOk.wd (by assumption)) (fun _ => ?_)
      | with_reducible refine compared_k ht hb hu hv (FxOk.wd (by assumption)) (fun _ => ?_)
      | with_reducible refine whole_k (FxOk.wd (by assumption)) ht hb (fun _ => ?_)
      | with_reducible refine whole_k (FxOk.wd (by assumption)) hu hv (fun _ => ?_)
      | with_reducible refine written_k (FxOk.wd (by assumption)) (by assumption) ht hb (fun _ _ _ => ?_)
      | with_reducible refine readr_k (FxOk.wd (by assumption)) (by assumption) (fun _ _ _ => ?_)
      | with_reducible refine AT_or1 ?_ | with_reducible refine AT_or ?_
      | with_reducible refine IT_nt ?_ | with_reducible refine if_ff ?_ | with_reducible refine if_tt ?_ | walk_at "W" | (with_reducible first | refine (law_whole_right_ok (FxOk.wd (by assumption)) _ _ _ _ ?_ ?_ ?_ ?_).eqk fun _ => ?_ | refine (law_compared_right_ok (FxOk.wd (by assumption)) _ _ _ _ _ _ _ _ ?_ ?_ ?_ ?_ ?_ ?_ ?_ ?_).eqk fun _ => ?_ | refine (law_rest_ok (FxOk.wd (by assumption)) _ _ _ _ ?_ ?_ ?_ ?_).eqk fun _ => ?_ | refine (law_quotient_ok (FxOk.wd (by assumption)) _ _ _ _ ?_ ?_ ?_ ?_).eqk fun _ => ?_ | refine (law_product_ok (FxOk.wd (by assumption)) _ _ _ _ ?_ ?_ ?_ ?_).eqk fun _ => ?_ | refine (law_sum_ok (FxOk.wd (by assumption)) _ _ _ _ ?_ ?_ ?_ ?_).eqk fun _ => ?_ | refine (law_same_ok (FxOk.wd (by assumption)) _ _ _ _ ?_ ?_ ?_ ?_).eqk fun _ => ?_ | refine law_number_k (FxOk.wd (by assumption)) (by assumption) (fun _ _ _ _ _ _ _ => ?_) | refine (modulo_ok (FxOk.wd (by assumption)) _ _ _ _ ?_ ?_ ?_ ?_).eqk fun _ => ?_ | refine (number_of1_ok (FxOk.wd (by assumption)) _).eqk fun _ => ?_ | refine (divided_ok (FxOk.wd (by assumption)) _ _ _ _ ?_ ?_ ?_ ?_).eqk fun _ => ?_ | refine (times_ok (FxOk.wd (by assumption)) _ _ _ _ ?_ ?_ ?_ ?_).eqk fun _ => ?_ | refine (minus_ok (FxOk.wd (by assumption)) _ _ _ _ ?_ ?_ ?_ ?_).eqk fun _ => ?_ | refine (plus_ok (FxOk.wd (by assumption)) _ _ _ _ ?_ ?_ ?_ ?_).eqk fun _ => ?_ | refine (negated_ok (FxOk.wd (by assumption)) _ _).eqk fun _ => ?_ | refine (number_of_ok (FxOk.wd (by assumption)) _ _ ?_).eqk fun _ => ?_))
    all_goals (try (first
      | exact up90 (by assumption)
      | exact up19 (by assumption)
      | exact up19 ht.neg
      | exact Nat.le_of_ble_eq_true rfl))
    refine SX_for (fun l ρ g => ρ = [(Str.ofString "one", .tup [.int (mk t b).1, .int (mk t b).2]), (Str.ofString "other", .tup [.int (mk u v).1, .int (mk u v).2]), (Str.ofString "a", .tup [.int t, .int b]), (Str.ofString "b", .tup [.int u, .int v]), (Str.ofString "source", .loc a0), (Str.ofString "script", .lst (ns.map V.int))] ∧ g = sg a0 x2 y2 ∧ All Told l) [(Str.ofString "one", .tup [.int (mk t b).1, .int (mk t b).2]), (Str.ofString "other", .tup [.int (mk u v).1, .int (mk u v).2]), (Str.ofString "a", .tup [.int t, .int b]), (Str.ofString "b", .tup [.int u, .int v]), (Str.ofString "source", .loc a0), (Str.ofString "script", .lst (ns.map V.int))] ok' ⟨rfl, rfl, rfl, rfl, rfl, rfl, trivial⟩ ?_ ?_ ?_ (.inr ⟨_, _, _, rfl⟩)
    · repeat' (first
        | with_reducible refine pool_k (FxOk.wd (by assumption)) hn hk (fun x0 y0 hs0 a0 => ?_)
        | ((with_reducible refine SX_setnew (fa := 172) (n := 1) (oc := ?oc) (od := ?od) (osl := ?osl) (fd := ?fd) (by assumption) ?_ ?_ (ns_law_pool w) ?h4 ?h5 ?h6 ?h7 ?h8); (case h4 => rfl); (case h5 => rfl); (case h6 => rfl); (case h7 => rfl); (case h8 => rfl))
        | with_reducible refine number_s (FxOk.wd (by assumption)) (by assumption) ?_
        | with_reducible refine numk (FxOk.wd (by assumption)) (by assumption) (fun _ => ?_)
        | with_reducible refine same_k (FxOk.wd (by assumption)) ?_ ?_ (fun _ => ?_)
        | with_reducible refine negated_k (FxOk.wd (by assumption)) (fun _ => ?_)
        | with_reducible refine plus_k ht hb hu hv (FxOk.wd (by assumption)) (fun _ => ?_)
        | with_reducible refine minus_k ht hb hu hv (FxOk.wd (by assumption)) (fun _ => ?_)
        | with_reducible refine times_k ht hb hu hv (FxOk.wd (by assumption)) (fun _ => ?_)
        | with_reducible refine divided_k ht hb hu hv (FxOk.wd (by assumption)) (fun _ => ?_)
        | with_reducible refine modulo_k ht hb hu hv (FxOk.wd (by assumption)) (fun _ => ?_)
        | with_reducible refine lsum_k ht hb hu hv (FxOk.wd (by assumption)) (fun _ => ?_)
        | with_reducible refine lsum_k ht hb hu.neg hv (FxOk.wd (by assumption)) (fun _ => ?_)
        | with_reducible refine lprod_k ht hb hu hv (FxOk.wd (by assumption)) (fun _ => ?_)
        | with_reducible refine lquo_k ht hb hu hv (FxOk.wd (by assumption)) (fun _ => ?_)
        | with_reducible refine lrest_k ht hb hu hv (FxOk.wd (by assumption)) (fun _ => ?_)
        | with_reducible refine compared_k ht hb hu hv (FxOk.wd (by assumption)) (fun _ => ?_)
        | with_reducible refine whole_k (FxOk.wd (by assumption)) ht hb (fun _ => ?_)
        | with_reducible refine whole_k (FxOk.wd (by assumption)) hu hv (fun _ => ?_)
        | with_reducible refine written_k (FxOk.wd (by assumption)) (by assumption) ht hb (fun _ _ _ => ?_)
        | with_reducible refine readr_k (FxOk.wd (by assumption)) (by assumption) (fun _ _ _ => ?_)
        | with_reducible refine AT_or1 ?_ | with_reducible refine AT_or ?_
        | with_reducible refine IT_nt ?_ | with_reducible refine if_ff ?_ | with_reducible refine if_tt ?_ | walk_at "W" | (with_reducible first | refine (law_whole_right_ok (FxOk.wd (by assumption)) _ _ _ _ ?_ ?_ ?_ ?_).eqk fun _ => ?_ | refine (law_compared_right_ok (FxOk.wd (by assumption)) _ _ _ _ _ _ _ _ ?_ ?_ ?_ ?_ ?_ ?_ ?_ ?_).eqk fun _ => ?_ | refine (law_rest_ok (FxOk.wd (by assumption)) _ _ _ _ ?_ ?_ ?_ ?_).eqk fun _ => ?_ | refine (law_quotient_ok (FxOk.wd (by assumption)) _ _ _ _ ?_ ?_ ?_ ?_).eqk fun _ => ?_ | refine (law_product_ok (FxOk.wd (by assumption)) _ _ _ _ ?_ ?_ ?_ ?_).eqk fun _ => ?_ | refine (law_sum_ok (FxOk.wd (by assumption)) _ _ _ _ ?_ ?_ ?_ ?_).eqk fun _ => ?_ | refine (law_same_ok (FxOk.wd (by assumption)) _ _ _ _ ?_ ?_ ?_ ?_).eqk fun _ => ?_ | refine law_number_k (FxOk.wd (by assumption)) (by assumption) (fun _ _ _ _ _ _ _ => ?_) | refine (modulo_ok (FxOk.wd (by assumption)) _ _ _ _ ?_ ?_ ?_ ?_).eqk fun _ => ?_ | refine (number_of1_ok (FxOk.wd (by assumption)) _).eqk fun _ => ?_ | refine (divided_ok (FxOk.wd (by assumption)) _ _ _ _ ?_ ?_ ?_ ?_).eqk fun _ => ?_ | refine (times_ok (FxOk.wd (by assumption)) _ _ _ _ ?_ ?_ ?_ ?_).eqk fun _ => ?_ | refine (minus_ok (FxOk.wd (by assumption)) _ _ _ _ ?_ ?_ ?_ ?_).eqk fun _ => ?_ | refine (plus_ok (FxOk.wd (by assumption)) _ _ _ _ ?_ ?_ ?_ ?_).eqk fun _ => ?_ | refine (negated_ok (FxOk.wd (by assumption)) _ _).eqk fun _ => ?_ | refine (number_of_ok (FxOk.wd (by assumption)) _ _ ?_).eqk fun _ => ?_))
      all_goals (try (first
      | exact up90 (by assumption)
      | exact up19 (by assumption)
      | exact up19 ht.neg
      | exact Nat.le_of_ble_eq_true rfl))
      exact ⟨_, ItOf.lst, rfl, rfl, told_of (sum_bd ht hb hu hv), told_of (sum_bd ht hb hu.neg hv), told_of (prod_bd ht hb hu hv), told_of (quo_bd ht hb hu hv), told_of (rest_bd ht hb hu hv), trivial⟩
    · clear ok'
      rintro Φ' ok' hB' hn' d l mu' ρ g ⟨rfl, rfl, ⟨p, q, rfl, hp, hq⟩, hall⟩
      refine TG_tup2 ok' ?_
      repeat' (first
        | with_reducible refine pool_k (FxOk.wd (by assumption)) hn hk (fun x0 y0 hs0 a0 => ?_)
        | ((with_reducible refine SX_setnew (fa := 172) (n := 1) (oc := ?oc) (od := ?od) (osl := ?osl) (fd := ?fd) (by assumption) ?_ ?_ (ns_law_pool w) ?h4 ?h5 ?h6 ?h7 ?h8); (case h4 => rfl); (case h5 => rfl); (case h6 => rfl); (case h7 => rfl); (case h8 => rfl))
        | with_reducible refine number_s (FxOk.wd (by assumption)) (by assumption) ?_
        | with_reducible refine numk (FxOk.wd (by assumption)) (by assumption) (fun _ => ?_)
        | with_reducible refine same_k (FxOk.wd (by assumption)) ?_ ?_ (fun _ => ?_)
        | with_reducible refine negated_k (FxOk.wd (by assumption)) (fun _ => ?_)
        | with_reducible refine plus_k ht hb hu hv (FxOk.wd (by assumption)) (fun _ => ?_)
        | with_reducible refine minus_k ht hb hu hv (FxOk.wd (by assumption)) (fun _ => ?_)
        | with_reducible refine times_k ht hb hu hv (FxOk.wd (by assumption)) (fun _ => ?_)
        | with_reducible refine divided_k ht hb hu hv (FxOk.wd (by assumption)) (fun _ => ?_)
        | with_reducible refine modulo_k ht hb hu hv (FxOk.wd (by assumption)) (fun _ => ?_)
        | with_reducible refine lsum_k ht hb hu hv (FxOk.wd (by assumption)) (fun _ => ?_)
        | with_reducible refine lsum_k ht hb hu.neg hv (FxOk.wd (by assumption)) (fun _ => ?_)
        | with_reducible refine lprod_k ht hb hu hv (FxOk.wd (by assumption)) (fun _ => ?_)
        | with_reducible refine lquo_k ht hb hu hv (FxOk.wd (by assumption)) (fun _ => ?_)
        | with_reducible refine lrest_k ht hb hu hv (FxOk.wd (by assumption)) (fun _ => ?_)
        | with_reducible refine compared_k ht hb hu hv (FxOk.wd (by assumption)) (fun _ => ?_)
        | with_reducible refine whole_k (FxOk.wd (by assumption)) ht hb (fun _ => ?_)
        | with_reducible refine whole_k (FxOk.wd (by assumption)) hu hv (fun _ => ?_)
        | with_reducible refine written_k (FxOk.wd (by assumption)) (by assumption) ht hb (fun _ _ _ => ?_)
        | with_reducible refine readr_k (FxOk.wd (by assumption)) (by assumption) (fun _ _ _ => ?_)
        | with_reducible refine AT_or1 ?_ | with_reducible refine AT_or ?_
        | with_reducible refine IT_nt ?_ | with_reducible refine if_ff ?_ | with_reducible refine if_tt ?_ | walk_at "W" | (with_reducible first | refine (law_whole_right_ok (FxOk.wd (by assumption)) _ _ _ _ ?_ ?_ ?_ ?_).eqk fun _ => ?_ | refine (law_compared_right_ok (FxOk.wd (by assumption)) _ _ _ _ _ _ _ _ ?_ ?_ ?_ ?_ ?_ ?_ ?_ ?_).eqk fun _ => ?_ | refine (law_rest_ok (FxOk.wd (by assumption)) _ _ _ _ ?_ ?_ ?_ ?_).eqk fun _ => ?_ | refine (law_quotient_ok (FxOk.wd (by assumption)) _ _ _ _ ?_ ?_ ?_ ?_).eqk fun _ => ?_ | refine (law_product_ok (FxOk.wd (by assumption)) _ _ _ _ ?_ ?_ ?_ ?_).eqk fun _ => ?_ | refine (law_sum_ok (FxOk.wd (by assumption)) _ _ _ _ ?_ ?_ ?_ ?_).eqk fun _ => ?_ | refine (law_same_ok (FxOk.wd (by assumption)) _ _ _ _ ?_ ?_ ?_ ?_).eqk fun _ => ?_ | refine law_number_k (FxOk.wd (by assumption)) (by assumption) (fun _ _ _ _ _ _ _ => ?_) | refine (modulo_ok (FxOk.wd (by assumption)) _ _ _ _ ?_ ?_ ?_ ?_).eqk fun _ => ?_ | refine (number_of1_ok (FxOk.wd (by assumption)) _).eqk fun _ => ?_ | refine (divided_ok (FxOk.wd (by assumption)) _ _ _ _ ?_ ?_ ?_ ?_).eqk fun _ => ?_ | refine (times_ok (FxOk.wd (by assumption)) _ _ _ _ ?_ ?_ ?_ ?_).eqk fun _ => ?_ | refine (minus_ok (FxOk.wd (by assumption)) _ _ _ _ ?_ ?_ ?_ ?_).eqk fun _ => ?_ | refine (plus_ok (FxOk.wd (by assumption)) _ _ _ _ ?_ ?_ ?_ ?_).eqk fun _ => ?_ | refine (negated_ok (FxOk.wd (by assumption)) _ _).eqk fun _ => ?_ | refine (number_of_ok (FxOk.wd (by assumption)) _ _ ?_).eqk fun _ => ?_))
      all_goals (try (first
      | exact up90 (by assumption)
      | exact up19 (by assumption)
      | exact up19 ht.neg
      | exact Nat.le_of_ble_eq_true rfl))
      all_goals (first | assumption | exact ⟨[(Str.ofString "one", .tup [.int (mk t b).1, .int (mk t b).2]), (Str.ofString "other", .tup [.int (mk u v).1, .int (mk u v).2]), (Str.ofString "a", .tup [.int t, .int b]), (Str.ofString "b", .tup [.int u, .int v]), (Str.ofString "source", .loc a0), (Str.ofString "script", .lst (ns.map V.int))], ⟨rfl, rfl, rfl, rfl, rfl, rfl, trivial⟩, rfl, rfl, hall⟩)
    · rintro ρ g ⟨rfl, rfl, -⟩ mu'
      dsimp only
      repeat' (first
        | with_reducible refine pool_k (FxOk.wd (by assumption)) hn hk (fun x0 y0 hs0 a0 => ?_)
        | ((with_reducible refine SX_setnew (fa := 172) (n := 1) (oc := ?oc) (od := ?od) (osl := ?osl) (fd := ?fd) (by assumption) ?_ ?_ (ns_law_pool w) ?h4 ?h5 ?h6 ?h7 ?h8); (case h4 => rfl); (case h5 => rfl); (case h6 => rfl); (case h7 => rfl); (case h8 => rfl))
        | with_reducible refine number_s (FxOk.wd (by assumption)) (by assumption) ?_
        | with_reducible refine numk (FxOk.wd (by assumption)) (by assumption) (fun _ => ?_)
        | with_reducible refine same_k (FxOk.wd (by assumption)) ?_ ?_ (fun _ => ?_)
        | with_reducible refine negated_k (FxOk.wd (by assumption)) (fun _ => ?_)
        | with_reducible refine plus_k ht hb hu hv (FxOk.wd (by assumption)) (fun _ => ?_)
        | with_reducible refine minus_k ht hb hu hv (FxOk.wd (by assumption)) (fun _ => ?_)
        | with_reducible refine times_k ht hb hu hv (FxOk.wd (by assumption)) (fun _ => ?_)
        | with_reducible refine divided_k ht hb hu hv (FxOk.wd (by assumption)) (fun _ => ?_)
        | with_reducible refine modulo_k ht hb hu hv (FxOk.wd (by assumption)) (fun _ => ?_)
        | with_reducible refine lsum_k ht hb hu hv (FxOk.wd (by assumption)) (fun _ => ?_)
        | with_reducible refine lsum_k ht hb hu.neg hv (FxOk.wd (by assumption)) (fun _ => ?_)
        | with_reducible refine lprod_k ht hb hu hv (FxOk.wd (by assumption)) (fun _ => ?_)
        | with_reducible refine lquo_k ht hb hu hv (FxOk.wd (by assumption)) (fun _ => ?_)
        | with_reducible refine lrest_k ht hb hu hv (FxOk.wd (by assumption)) (fun _ => ?_)
        | with_reducible refine compared_k ht hb hu hv (FxOk.wd (by assumption)) (fun _ => ?_)
        | with_reducible refine whole_k (FxOk.wd (by assumption)) ht hb (fun _ => ?_)
        | with_reducible refine whole_k (FxOk.wd (by assumption)) hu hv (fun _ => ?_)
        | with_reducible refine written_k (FxOk.wd (by assumption)) (by assumption) ht hb (fun _ _ _ => ?_)
        | with_reducible refine readr_k (FxOk.wd (by assumption)) (by assumption) (fun _ _ _ => ?_)
        | with_reducible refine AT_or1 ?_ | with_reducible refine AT_or ?_
        | with_reducible refine IT_nt ?_ | with_reducible refine if_ff ?_ | with_reducible refine if_tt ?_ | walk_at "W" | (with_reducible first | refine (law_whole_right_ok (FxOk.wd (by assumption)) _ _ _ _ ?_ ?_ ?_ ?_).eqk fun _ => ?_ | refine (law_compared_right_ok (FxOk.wd (by assumption)) _ _ _ _ _ _ _ _ ?_ ?_ ?_ ?_ ?_ ?_ ?_ ?_).eqk fun _ => ?_ | refine (law_rest_ok (FxOk.wd (by assumption)) _ _ _ _ ?_ ?_ ?_ ?_).eqk fun _ => ?_ | refine (law_quotient_ok (FxOk.wd (by assumption)) _ _ _ _ ?_ ?_ ?_ ?_).eqk fun _ => ?_ | refine (law_product_ok (FxOk.wd (by assumption)) _ _ _ _ ?_ ?_ ?_ ?_).eqk fun _ => ?_ | refine (law_sum_ok (FxOk.wd (by assumption)) _ _ _ _ ?_ ?_ ?_ ?_).eqk fun _ => ?_ | refine (law_same_ok (FxOk.wd (by assumption)) _ _ _ _ ?_ ?_ ?_ ?_).eqk fun _ => ?_ | refine law_number_k (FxOk.wd (by assumption)) (by assumption) (fun _ _ _ _ _ _ _ => ?_) | refine (modulo_ok (FxOk.wd (by assumption)) _ _ _ _ ?_ ?_ ?_ ?_).eqk fun _ => ?_ | refine (number_of1_ok (FxOk.wd (by assumption)) _).eqk fun _ => ?_ | refine (divided_ok (FxOk.wd (by assumption)) _ _ _ _ ?_ ?_ ?_ ?_).eqk fun _ => ?_ | refine (times_ok (FxOk.wd (by assumption)) _ _ _ _ ?_ ?_ ?_ ?_).eqk fun _ => ?_ | refine (minus_ok (FxOk.wd (by assumption)) _ _ _ _ ?_ ?_ ?_ ?_).eqk fun _ => ?_ | refine (plus_ok (FxOk.wd (by assumption)) _ _ _ _ ?_ ?_ ?_ ?_).eqk fun _ => ?_ | refine (negated_ok (FxOk.wd (by assumption)) _ _).eqk fun _ => ?_ | refine (number_of_ok (FxOk.wd (by assumption)) _ _ ?_).eqk fun _ => ?_))
      all_goals (try (first
      | exact up90 (by assumption)
      | exact up19 (by assumption)
      | exact up19 ht.neg
      | exact Nat.le_of_ble_eq_true rfl))
      exact ⟨[(Str.ofString "script", .lst (ns.map V.int))], ⟨rfl, trivial⟩, rfl, hall⟩
  · rintro ρ g ⟨rfl, -⟩ mu'
    refine SS_nosig ?_
    repeat' (first | with_reducible refine IT_nt ?_ | with_reducible refine if_ff ?_ | with_reducible refine if_tt ?_ | walk_at "W" | (with_reducible first | refine (law_whole_right_ok (FxOk.wd (by assumption)) _ _ _ _ ?_ ?_ ?_ ?_).eqk fun _ => ?_ | refine (law_compared_right_ok (FxOk.wd (by assumption)) _ _ _ _ _ _ _ _ ?_ ?_ ?_ ?_ ?_ ?_ ?_ ?_).eqk fun _ => ?_ | refine (law_rest_ok (FxOk.wd (by assumption)) _ _ _ _ ?_ ?_ ?_ ?_).eqk fun _ => ?_ | refine (law_quotient_ok (FxOk.wd (by assumption)) _ _ _ _ ?_ ?_ ?_ ?_).eqk fun _ => ?_ | refine (law_product_ok (FxOk.wd (by assumption)) _ _ _ _ ?_ ?_ ?_ ?_).eqk fun _ => ?_ | refine (law_sum_ok (FxOk.wd (by assumption)) _ _ _ _ ?_ ?_ ?_ ?_).eqk fun _ => ?_ | refine (law_same_ok (FxOk.wd (by assumption)) _ _ _ _ ?_ ?_ ?_ ?_).eqk fun _ => ?_ | refine law_number_k (FxOk.wd (by assumption)) (by assumption) (fun _ _ _ _ _ _ _ => ?_) | refine (modulo_ok (FxOk.wd (by assumption)) _ _ _ _ ?_ ?_ ?_ ?_).eqk fun _ => ?_ | refine (number_of1_ok (FxOk.wd (by assumption)) _).eqk fun _ => ?_ | refine (divided_ok (FxOk.wd (by assumption)) _ _ _ _ ?_ ?_ ?_ ?_).eqk fun _ => ?_ | refine (times_ok (FxOk.wd (by assumption)) _ _ _ _ ?_ ?_ ?_ ?_).eqk fun _ => ?_ | refine (minus_ok (FxOk.wd (by assumption)) _ _ _ _ ?_ ?_ ?_ ?_).eqk fun _ => ?_ | refine (plus_ok (FxOk.wd (by assumption)) _ _ _ _ ?_ ?_ ?_ ?_).eqk fun _ => ?_ | refine (negated_ok (FxOk.wd (by assumption)) _ _).eqk fun _ => ?_ | refine (number_of_ok (FxOk.wd (by assumption)) _ _ ?_).eqk fun _ => ?_))

theorem repl_ints {mu : Addr → Prop} {h : Heap} : ∀ {vs : List Value} {ns : List Int}, IntsAre vs ns → RepL mu h (ns.map V.int) vs
  | _, _, .nil => RepL.nil'
  | _, _, .cons n t r => RepL.cons' Rep.int' (repl_ints r)
theorem law_call {w : World} {mean : ExcName → Option Value} {mg mb : Str → Option Value} {s : Shared} {fa a : Addr} {vs : List Value} {ns : List Int}
    (X : (hd.heap_1 w.params).In s.heap) (T : Top viewB (looseW viewB looseB) mean mg mb s.heap) (hmg : mg (Str.ofString "law") = some (.ref fa)) (hl : s.heap.IsList a vs.toArray) (hI : IntsAre vs ns) (hn : ns.length ≤ 1000) :
    codeAny (Mod w) callerA (.call (.ref fa) ⟨[.ref a], []⟩) (fun r s' => r = .ok (.ret (.bool true)) ∧ (∀ b o, s.heap.get? b = some o → s'.heap.get? b = some o) ∧ s'.os = s.os ∧ s'.gens = s.gens) s := by
  have wd : Wd w s.heap := ⟨X, mean, mg, mb, T⟩
  have e := mg_of X T.g (ns_law w)
  rw [hmg] at e
  cases e
  refine codeAny_mono (law_ok wd ns hn callerA (fun _ => False) s [.ref a] rfl (by decide) (by decide) (fun _ _ e => e) (fun _ _ _ c => c) (fun _ c => c.elim) (RepL.cons' (Rep.lst' (vs := vs) (fun c => c) hl (repl_ints hI)) RepL.nil') trivial) fun r s' => ?_
  rintro ⟨v, d, g, rfl, h1, h2, hr, -, -, hk, rfl⟩
  rw [hr.boolE]
  exact ⟨rfl, fun b o e => hk b o e (by simp), h2, h1⟩
set_option maxHeartbeats 4000000 in
theorem fin_ok : PySem.Challenge.rw_nu0057_01.Holds := by
  refine hd ?_
  intro w s₀ s₁ mg mb G Y fa o pm cd doc dV kV ho hod hcd hD hmg hg args vals as hpre hlay hrd hwl hlo
  have X := kIn_of Y
  wrow_args hpre hlay hrd hwl hlo
  rename_i ns _ _ _ _ _ _ _ a vs _ hL ra _ _ hI _ hc _
  refine enter_call (codeAny_mono (law_call (ns := ns) X G.T hmg hL hI (by omega)) fun r s' => ?_)
  rintro ⟨rfl, hk, hos, hgens⟩
  refine GoodW.toG ⟨.inl ⟨.bool true, .bool true, [], rfl, fun _ => rfl, .bool _, ?_, fun _ => ⟨List.nodup_nil, fun _ h => nomatch h⟩⟩, hk, hos, hgens.trans hg⟩
  wrow_post
end Mine

theorem PySem.Challenge.cw_nu0057_01_holds : PySem.Challenge.rw_nu0057_01.Holds := by
  exact Mine.fin_ok
