import PyProof.Rows.All
import Wide.All
import OpenK.AllK
import Wide.FinOn
import KE.KStateDown
import HandS.ForMost
import HandS.ForExc
import HandS.Defaults
import HandS.Head0
import HandS.Head1
import HandS.Head2
import HandS.HeadEnd
import HandS.HeadHook1
import HandS.HeadHook2
import HandS.ExcInit
import HandS.ExcField
import HandS.ExcIs
import HandS.IsInst
import HandS.Evl
import HandS.Wide
import HandS.Walk
import HandS.Deep
import KE.KExcIs
import HandS.More
import PySem.Challenge.RW_latechecks_k44_tests_and_cases
set_option Elab.async false
set_option linter.all false
set_option maxRecDepth 100000
set_option maxHeartbeats 8000000
namespace LW
open PySem PySem.Spec PyProof.Rows L2
/-! ### the head's Hook: facts, defs, one more Bool -/
abbrev AlM : Type := He.AlD × Bool
def obsM (n : Nat) (fa : List He.Fa) (fn : List He.DefD) (ex : PySem.W.Frag → Bool) (g : Addr → Option Obj) : AlM := (He.obsD fa fn (He.frG g (He.asD g n)), ex (He.frG g (He.asD g n)))
structure SaysM (fa : List He.Fa) (fn : List He.DefD) (ex : PySem.W.Frag → Bool) (K : PySem.W.Frag) : Prop where
  d : He.SaysD fa fn K
  more : ex K = true
def hookM (n : Nat) (fa : List He.Fa) (fn : List He.DefD) (ex : PySem.W.Frag → Bool) : PySem.W.Hook where
  α := AlM
  obs := fun s => obsM n fa fn ex s.heap.get?
  val := fun _ => (He.valD fn, true)
  says := fun _ h => ∃ K : PySem.W.Frag, K.In h ∧ SaysM fa fn ex K
  of := fun _ _ e => ⟨_, He.frG_in, ⟨congrArg (fun z : AlM => z.1) e, congrArg (fun z : AlM => z.2) e⟩⟩
  keeps := fun _ _ _ ⟨K, hK, c⟩ k => ⟨K, PySem.W.Frag.In.keeps hK k, c⟩
theorem obsM_eq {n : Nat} {fa : List He.Fa} {fn : List He.DefD} {ex : PySem.W.Frag → Bool} {g : Addr → Option Obj} {s : Shared} (h : ∀ a, g a = s.heap.get? a) : obsM n fa fn ex g = (hookM n fa fn ex).obs s := by
  have e : g = s.heap.get? := funext h
  rw [e] <;> rfl
theorem SaysM.fact {fa : List He.Fa} {fn : List He.DefD} {ex : PySem.W.Frag → Bool} {K : PySem.W.Frag} (c : SaysM fa fn ex K) {f : He.Fa} (h : f ∈ fa) : f.ok K = true := by
  have c1 := (He.ba (show ((fa.all fun f => f.ok K) && fn.all fun d => d.ok K) = true from congrArg (fun z : He.AlD => z.1) c.d)).1
  exact List.all_eq_true.mp c1 f h
end LW

namespace LW
open PySem PySem.Spec PyProof.Rows L2
open Evl (Ex)
/-! ### heaps that grow -/
theorem new_ {H : Hp} {o : HO} {Q : VK} (k : ∀ p H1, H p = none → Ex H H1 → H1 p = some o → Q (.ref p) H1) : ∀ p, H p = none → Q (.ref p) (upd H p o) := fun p h => k p _ h (Ex.new h) upd_same
theorem newH {H : Hp} {p : Addr} (o : HO) (np : H p = none) : ∃ H1, upd H p o = H1 ∧ Ex H H1 ∧ H1 p = some o := ⟨_, rfl, Ex.new np, upd_same⟩
theorem ex_free {H H' : Hp} {p : Addr} (e : Ex H H') (h : H' p = none) : H p = none := Evl.fresh_back e h
theorem upd_back {H : Hp} {p : Addr} {o x : HO} (h : H p = some o) : upd (upd H p x) p o = H := by
  funext b
  by_cases hb : b = p
  · rw [hb, upd_same, h]
  · rw [upd_ne hb, upd_ne hb]
/-- small sizes -/
theorem szl {n : Nat} (h : n ≤ 100000) : n ≤ sizeLine := Nat.le_trans h (by decide)
theorem szlt {n : Nat} (h : n < 100000) : n < sizeLine := Nat.lt_of_lt_of_le h (by decide)

/-! ### a heap without one address -/
theorem ex_del {H : Hp} {p : Addr} : Ex (del H p) H := fun a o h => by
  by_cases e : a = p
  · rw [e, del_same] at h
    cases h
  · rw [del_ne e] at h
    exact h
theorem ex_of_del {H H' : Hp} {p : Addr} (e : Ex H H') (h : H p = none) : Ex H (del H' p) := fun a o q => by
  rw [del_ne (ne_of_none q h)]
  exact e a o q
theorem del_grow {H H1 : Hp} {p : Addr} {o : HO} (e : Ex H H1) : Ex (del H p) (del (upd H1 p o) p) := fun a u q => by
  by_cases ea : a = p
  · rw [ea, del_same] at q
    cases q
  · rw [del_ne ea] at q ⊢
    rw [upd_ne ea]
    exact e a u q
theorem del_grow' {H H1 : Hp} {p : Addr} (e : Ex H H1) : Ex (del H p) (del H1 p) := fun a u q => by
  by_cases ea : a = p
  · rw [ea, del_same] at q
    cases q
  · rw [del_ne ea] at q ⊢
    exact e a u q
theorem del_get {H : Hp} {p a : Addr} {o : HO} (h : H a = some o) (ne : a ≠ p) : del H p a = some o := by
  rw [del_ne ne]
  exact h
theorem up_ne {H : Hp} {p a : Addr} {o x : HO} (h : H a = some o) (ne : a ≠ p) : upd H p x a = some o := by
  rw [upd_ne ne]
  exact h
/-- the heap behind a change of an object that the entry does not know -/
theorem ex_mut {H H' : Hp} {p : Addr} {o : HO} (e : Ex H H') (h : H p = none) : Ex H (upd H' p o) := Ex.mut e h

/-! ### what is new since a heap -/
def fr (H H' : Hp) : Hp := fun b => match H b with
  | none => H' b
  | some _ => none
/-- what is tracked stays tracked -/
def Dm (H H' : Hp) : Prop := ∀ b, H' b = none → H b = none
theorem Dm.refl (H : Hp) : Dm H H := fun _ h => h
theorem Dm.trans {H H1 H2 : Hp} (a : Dm H H1) (b : Dm H1 H2) : Dm H H2 := fun c h => a c (b c h)
theorem dm_ex {H H' : Hp} (e : Ex H H') : Dm H H' := fun _ h => ex_free e h
theorem dm_upd {H H' : Hp} {p : Addr} {o : HO} (d : Dm H H') : Dm H (upd H' p o) := fun b h => by
  by_cases e : b = p
  · rw [e, upd_same] at h
    cases h
  · rw [upd_ne e] at h
    exact d b h
theorem fr_get {H H' : Hp} {a : Addr} {o : HO} (n : H a = none) (h : H' a = some o) : fr H H' a = some o := by
  unfold fr
  rw [n]
  exact h
theorem fr_some {H H' : Hp} {a : Addr} {o : HO} (h : fr H H' a = some o) : H a = none ∧ H' a = some o := by
  unfold fr at h
  cases e : H a with
  | none =>
    rw [e] at h
    exact ⟨rfl, h⟩
  | some u =>
    rw [e] at h
    cases h
theorem fr_sub {H H' : Hp} : Ex (fr H H') H' := fun _ _ h => (fr_some h).2
theorem fr_mono {H H' H'' : Hp} (e : Ex H' H'') : Ex (fr H H') (fr H H'') := fun _ _ h => fr_get (fr_some h).1 (e _ _ (fr_some h).2)
theorem fr_base {H0 H H' : Hp} (d : Dm H0 H) : Ex (fr H H') (fr H0 H') := fun _ _ h => fr_get (d _ (fr_some h).1) (fr_some h).2
theorem fr_upd {H H' : Hp} {p : Addr} {o u : HO} (h : H p = some u) : Ex (fr H H') (fr H (upd H' p o)) := fun a v q => by
  obtain ⟨n, q⟩ := fr_some q
  refine fr_get n ?_
  rw [upd_ne (fun e => by rw [e, h] at n; cases n)]
  exact q
theorem fr_all {H H' : Hp} (e : Ex H H') {a : Addr} {o : HO} (h : H' a = some o) (ne : H a = none) : fr H H' a = some o := fr_get ne h
theorem fr_del {H H' : Hp} {p : Addr} {u : HO} (h : H p = some u) : Ex (fr H H') (del H' p) := fun a v q => by
  obtain ⟨n, q⟩ := fr_some q
  exact del_get q (fun e => by rw [e, h] at n; cases n)

/-! ### what an object is told to be may change while it stands -/
section
variable {X : Cx} {pins : List (Addr × Obj)} {σ : L2.St} {H : Hp} {s : Shared} {p : Addr} {o : HO}
theorem inv_recast (I : L2.Inv X pins σ H s) (mu : Mut (H p)) (ob : ObjOk X.prog X.w (upd H p o) s.heap p o) : L2.Inv X pins σ (upd H p o) s := by
  have hex : ∃ u, s.heap.get? p = some u := by
    cases e : H p with
    | none => rw [e] at mu; exact mu.elim
    | some u =>
      have x := I.hok p u e
      cases u with
      | lst xs => obtain ⟨_, _, _, _, e⟩ := x; exact ⟨_, e⟩
      | dK kvs => obtain ⟨_, _, _, _, o, _, _, e, _⟩ := x; exact ⟨_, e⟩
      | dT kvs => obtain ⟨_, _, _, _, o, _, _, e, _⟩ := x; exact ⟨_, e⟩
      | set S n => obtain ⟨o, _, _, _, e, _⟩ := x; exact ⟨_, e⟩
      | ins C dx fs => obtain ⟨_, _, _, e, _⟩ := x; exact ⟨_, e⟩
      | ext φ => obtain ⟨_, ⟨o, e⟩, _⟩ := x; exact ⟨_, e⟩
      | _ => rw [e] at mu; exact mu.elim
  exact I.write (t' := s.toks) (x := p) (e := p) (o := o) mu (.inl rfl) (fun b u _ h => h) hex ob
end

/-! ### the pool of draws: a list of two ints, told by its bounds alone -/
def poolO (p : Addr) : HO := .ext fun h => ∃ (a b : Int) (ta tb : Tok) (n : Nat), 0 ≤ a ∧ 0 ≤ b ∧ b < 2147483647 ∧ h.get? p = some { cls := .type "list", data := .seq #[.int a ta, .int b tb] n }
def Pool (H : Hp) (p : Addr) : Prop := H p = some (poolO p)
theorem Pool.ex {H H' : Hp} {p : Addr} (h : Pool H p) (e : Ex H H') : Pool H' p := e _ _ h
section
variable {P : Program} {w : World} {H H' : Hp} {h : Heap} {p : Addr}
theorem pool_open (x : HOk P w H h) (hp : Pool H p) : ∃ a b : Int, 0 ≤ a ∧ 0 ≤ b ∧ b < 2147483647 ∧ ObjOk P w H' h p (.lst [.int a, .int b]) := by
  have q : ObjOk P w H h p (.ext fun h => ∃ (a b : Int) (ta tb : Tok) (n : Nat), 0 ≤ a ∧ 0 ≤ b ∧ b < 2147483647 ∧ h.get? p = some { cls := .type "list", data := .seq #[.int a ta, .int b tb] n }) := x p _ hp
  obtain ⟨⟨a, b, ta, tb, n, h0, h1, h2, e⟩, _, _⟩ := q
  exact ⟨a, b, h0, h1, h2, szl (by show 2 ≤ 100000; decide), [.int a ta, .int b tb], n, .cons ⟨ta, rfl⟩ (.cons ⟨tb, rfl⟩ .nil), e⟩
theorem pool_shut {a b : Int} (x : ObjOk P w H h p (.lst [.int a, .int b])) (h0 : 0 ≤ a) (h1 : 0 ≤ b) (h2 : b < 2147483647) : ObjOk P w H' h p (poolO p) := by
  obtain ⟨_, its, n, r, e⟩ := x
  cases r with
  | cons r1 r =>
    cases r with
    | cons r2 r =>
      cases r
      obtain ⟨ta, rfl⟩ := r1
      obtain ⟨tb, rfl⟩ := r2
      exact ⟨⟨a, b, ta, tb, n, h0, h1, h2, e⟩, ⟨_, e⟩, fun g1 g2 z k => by
        obtain ⟨a, b, ta, tb, n, q0, q1, q2, q⟩ := z
        exact ⟨a, b, ta, tb, n, q0, q1, q2, k _ q⟩⟩
end
/-- a body in which the pool is looked into and put back at a return -/
def tFocus (t : TS) : TS := fun D σ H => ∃ p, Pool H p ∧ ∀ a b : Int, 0 ≤ a → 0 ≤ b → b < 2147483647 →
  t { nx := fun _ _ => False, rt := fun v H' => ∃ a' b' : Int, H' p = some (.lst [.int a', .int b']) ∧ 0 ≤ a' ∧ 0 ≤ b' ∧ b' < 2147483647 ∧ D.rt v (upd H' p (poolO p)) } σ (upd H p (.lst [.int a, .int b]))
/-- return of a new pool -/
def tRetPool (te : TE) : TS := fun D σ H => te σ H fun v H' => ∃ (p : Addr) (a b : Int), v = .ref p ∧ H' p = some (.lst [.int a, .int b]) ∧ 0 ≤ a ∧ 0 ≤ b ∧ b < 2147483647 ∧ D.rt v (upd H' p (poolO p))
section
variable {X : Cx}
theorem pss_focus {body : List Stmt} {t : TS} (h : PSs X body t) : PSs X body (tFocus t) := by
  refine ⟨fun pins s σ H D I ht => ?_⟩
  obtain ⟨p, hp, k⟩ := ht
  obtain ⟨a, b, h0, h1, h2, ob⟩ : ∃ a b : Int, 0 ≤ a ∧ 0 ≤ b ∧ b < 2147483647 ∧ ObjOk X.prog X.w (upd H p (.lst [.int a, .int b])) s.heap p (.lst [.int a, .int b]) := by
    obtain ⟨a, b, h0, h1, h2, ob⟩ := pool_open (H' := H) I.hok hp
    exact ⟨a, b, h0, h1, h2, ob⟩
  have mu : Mut (H p) := by
    rw [show H p = some (poolO p) from hp]
    exact True.intro
  have J := inv_recast I mu ob
  refine thn (h.run pins s σ _ _ J (k a b h0 h1 h2)) fun f s' q => ?_
  cases f with
  | ret u =>
    obtain ⟨v, σ', H', I', r, a', b', e, g0, g1, g2, hD⟩ := q
    have mu' : Mut (H' p) := by
      rw [e]
      exact True.intro
    exact ⟨v, σ', _, inv_recast I' mu' (pool_shut (I'.hok p _ e) g0 g1 g2), r, hD⟩
  | next =>
    obtain ⟨_, _, _, q⟩ := q
    exact q.elim
  | brk =>
    obtain ⟨_, _, _, q⟩ := q
    exact q.elim
  | cont =>
    obtain ⟨_, _, _, q⟩ := q
    exact q.elim
theorem ps_retPool {e : Expr} {te : TE} {pos : Pos} (he : PE X e te) : PS X (.Return (some e) pos) (tRetPool te) := by
  refine ⟨fun pins s σ H D I h => ?_⟩
  refine wpAny_Return_some (thn (he.run pins s σ H _ I h) fun v s1 ⟨x, H1, I1, r1, p, a, b, ev, e, g0, g1, g2, hD⟩ => ?_)
  have mu' : Mut (H1 p) := by
    rw [e]
    exact True.intro
  exact ⟨x, σ, _, inv_recast I1 mu' (pool_shut (I1.hok p _ e) g0 g1 g2), r1, hD⟩
end

/-! ### the rules that speak of the written part, K told (for comprehensions) -/
section
variable {X : Cx}
theorem ixl (K : PySem.W.Frag) (h : X.K = K := by rfl) : IxR X (rIxL K) := by
  subst h
  exact ix_list
theorem ixt (K : PySem.W.Frag) (h : X.K = K := by rfl) : IxR X (rIxT K) := by
  subst h
  exact ix_tup
theorem inq (K : PySem.W.Frag) (h : X.K = K := by rfl) : OpR X (compareOp .In) (rIn K false) := by
  subst h
  exact op_in_seq
theorem ninq (K : PySem.W.Frag) (h : X.K = K := by rfl) : OpR X (compareOp .NotIn) (rIn K true) := by
  subst h
  exact op_notIn_seq
def rLn (K : PySem.W.Frag) : List V → Hp → VK → Prop := fun xs H Q => ∃ x n, xs = [x] ∧ LenV K x H n ∧ Q (.int n) H
theorem lnK (K : PySem.W.Frag) (h : X.K = K := by rfl) : CallR X (.builtin "len") (rLn K) := by
  subst h
  exact call_len
theorem isiK (K : PySem.W.Frag) (h : X.K = K := by rfl) : CallR X (.builtin "isinstance") (rIsi K) := by
  subst h
  exact call_isi
theorem isiTK (K : PySem.W.Frag) (h : X.K = K := by rfl) : CallR X (.builtin "isinstance") (rIsiT K) := by
  subst h
  exact call_isiT
def rLof (K : PySem.W.Frag) : List V → Hp → VK → Prop := fun xs H Q => ∃ p ys, xs = [.ref p] ∧ (SqL K H p ys ∨ SqT K H p ys) ∧ ∀ l, H l = none → Q (.ref l) (upd H l (.lst ys))
theorem lofK (K : PySem.W.Frag) (h : X.K = K := by rfl) : CallR X (.type "list") (rLof K) := by
  subst h
  exact call_list_of
theorem allK (K : PySem.W.Frag) (hc : X.calm = true) (h : X.K = K := by rfl) : CallR X (.builtin "all") (rAll K) := by
  subst h
  exact cr_all hc
theorem pgt {pos : Pos} {es : List Expr} {k : Nat} {t : TGs} {n : Nat} (K : PySem.W.Frag) (hc : X.calm = true) (h : PGs X es t) (e : X.K = K := by rfl)
    (hn : (assignEach es X.env).length = n := by rfl) (hst : (assignEach es X.env).findIdx? (·.1) = none := by rfl) : PG X (.Tuple es k pos) (gTup K n t) := by
  subst e
  exact pg_tup hc h hn hst
theorem pfl {e : Expr} {ta : TE} {f : Str} {pos : Pos} (K : PySem.W.Frag) (he : PE X e ta) (hb : attributeBase e f X.env (eval e X.env) = eval e X.env) (h : X.K = K := by rfl) : PE X (.Attribute e f pos) (tFld K ta f) := by
  subst h
  exact pe_fld he hb
theorem pil {tg l : Expr} {tl : TE} (K : PySem.W.Frag) (hl : PE X l tl) (h : X.K = K := by rfl) : PI X tg l (iList K tl) := by
  subst h
  exact pi_list hl
theorem pit {tg l : Expr} {tl : TE} (K : PySem.W.Frag) (hl : PE X l tl) (h : X.K = K := by rfl) : PI X tg l (iTup K tl) := by
  subst h
  exact pi_tup hl
theorem eqDK (K : PySem.W.Frag) (hu : X.A.units + 64 < cLine) (h : X.K = K := by rfl) : OpR X (compareOp .Eq) (rEqD K) := by
  subst h
  exact op_eqD hu
theorem neDK (K : PySem.W.Frag) (hu : X.A.units + 64 < cLine) (h : X.K = K := by rfl) : OpR X (compareOp .NotEq) (rNeD K) := by
  subst h
  exact op_neD hu
theorem slK (K : PySem.W.Frag) (h : X.K = K := by rfl) : SlR X (rSlL K) := by
  subst h
  exact sl_list
theorem units65 {A : Around} {k : Nat} (hr : Room k A) : A.units + 65 < cLine := by
  have := hr.un
  omega
end
/-! ### defs by name -/
structure Cal (P : Program) (w : World) (K : PySem.W.Frag) (mg : Str → Option Value) (base : Heap) (CX : CXT) (k : Nat) (x : Str) (sp : Sp) : Prop where
  ex : ∃ (f : Addr) (fd : FuncData) (ps : List Str), FnOk P w K mg base CX k f fd ps sp ∧ mg x = some (.ref f) ∧ PySem.W.keepIn K (.ref f) = true ∧ Binds K fd ps []
abbrev FnP (K : PySem.W.Frag) (x : Str) (st : Stmt) (f : Addr) (fd : FuncData) : Prop := FunD K x x (defArgs st) (defBody st) (defScope st) [] [] f fd
/-- a def of the module -/
structure Df (K : PySem.W.Frag) (mg : Str → Option Value) (x : Str) (st : Stmt) : Prop where
  ex : ∃ (f : Addr) (fd : FuncData), FnP K x st f fd ∧ mg x = some (.ref f)
def BindsEq (x : Str) (st : Stmt) (ps : List Str) : Prop := ∀ (kV doc pm : Value) (an : Option Addr) (cdv ct : Value) (us : List Value), us.length = ps.length →
  bindArgs (PySem.W.fnOf x x (defArgs st) (defBody st) (defScope st) .none kV doc pm an cdv ct) ⟨us, []⟩ = pure (ps.zip us)
section
variable {P : Program} {w : World} {K : PySem.W.Frag} {mg : Str → Option Value} {base : Heap}
theorem cal0 {x : Str} {st : Stmt} {N ps : List Str} {k : Nat} {sp : Sp} (F : Df K mg x st) (S : FnScope N ps (defScope st)) (hb : BindsEq x st ps) (len : ∀ vs H Q E, sp vs H Q E → vs.length = ps.length)
    (hbody : ∀ (f : Addr) (cdv : Value) (A : Around) (outer : List Env) (s : Shared) (H : Hp) (vs : List V) (Q : VK) (E : XK), Room k (A.deeper (envOfC x (defScope st) s.heap.objs.size f cdv)) → sp vs H Q E →
      ∃ t, PSs (cxOf CX0 P w K mg base N x (defScope st) f cdv A outer s H E).nox (defBody st) t ∧ t { nx := fun _ H' => Q .non H', rt := Q } (start N vs) H) : Cal P w K mg base CX0 (k + 1) x sp := by
  obtain ⟨f, fd, F, hm⟩ := F.ex
  exact ⟨f, fd, ps, F.ok S len (fun cdv A outer s H vs Q E hr h => by
    obtain ⟨t, h1, h2⟩ := hbody f cdv A outer s H vs Q E hr h
    exact ⟨t, h1.nox, h2⟩), hm, F.kp, F.bindsN hb⟩
theorem calX {x : Str} {st : Stmt} {N ps : List Str} {k : Nat} {sp : Sp} (F : Df K mg x st) (S : FnScope N ps (defScope st)) (hb : BindsEq x st ps) (len : ∀ vs H Q E, sp vs H Q E → vs.length = ps.length)
    (hbody : ∀ (f : Addr) (cdv : Value) (A : Around) (outer : List Env) (s : Shared) (H : Hp) (vs : List V) (Q : VK) (E : XK), Room k (A.deeper (envOfC x (defScope st) s.heap.objs.size f cdv)) → sp vs H Q E →
      ∃ t, PSs (cxOf (L2.CX P w) P w K mg base N x (defScope st) f cdv A outer s H E) (defBody st) t ∧ t { nx := fun _ H' => Q .non H', rt := Q } (start N vs) H) : Cal P w K mg base (L2.CX P w) (k + 1) x sp := by
  obtain ⟨f, fd, F, hm⟩ := F.ex
  exact ⟨f, fd, ps, F.ok S len (fun cdv A outer s H vs Q E hr h => hbody f cdv A outer s H vs Q E hr h), hm, F.kp, F.bindsN hb⟩
end
section
variable {X : Cx} {k j : Nat} {x : Str} {sp : Sp} {p pos : Pos} {e : Expr} {es : List Expr} {t : TA}
theorem pe_k (c : Cal X.prog X.w X.K X.mg X.base CX0 k x sp) (hr : Room j X.A) (hk : k ≤ j) (hg : Gl X x) (ha : PA X (e :: es) t)
    (hdb : (x == ("__debug__" : Str)) = false := by decide) (he : starEach (e :: es) X.env = (false, eval e X.env) :: starEach es X.env := by rfl) (hpl : (backTo pos (starEach es X.env)).any (·.1) = false := by rfl) :
    PE X (.Call (.Name x p) (e :: es) [] pos) (tCall sp [] E0 t) := by
  obtain ⟨f, fd, ps, F, hm, kp, b⟩ := c.ex
  exact pe_call F (hr.mono hk) hg hm kp b .nil pass0 ha hdb he hpl
end
end LW

namespace LW
open PySem PySem.Spec L2
open Evl (Ex)
/-! ### small words -/
theorem if_t {c : Bool} {A B : Prop} (hc : c = true) (h : A) : if c = true then A else B := by
  rw [if_pos hc]
  exact h
theorem if_f {c : Bool} {A B : Prop} (hc : c = false) (h : B) : if c = true then A else B := by
  rw [hc, if_neg Bool.false_ne_true]
  exact h
theorem if_b {c : Bool} {A B : Prop} (h1 : c = true → A) (h2 : c = false → B) : if c = true then A else B := by
  cases c with
  | true => exact if_t rfl (h1 rfl)
  | false => exact if_f rfl (h2 rfl)
theorem at_some {α : Type} {xs : List α} {v : Int} (h0 : 0 ≤ v) (h1 : v < xs.length) : ∃ x, atI xs v = some x ∧ x ∈ xs ∧ xs[v.toNat]? = some x := by
  have hj : v.toNat < xs.length := by omega
  refine ⟨xs[v.toNat], ?_, List.getElem_mem hj, by simp [hj]⟩
  have e : ((v.toNat : Nat) : Int) = v := by omega
  have q : atI xs ((v.toNat : Nat) : Int) = some xs[v.toNat] := atI_nat (by simp [hj])
  rw [e] at q
  exact q
abbrev SqLo {K : PySem.W.Frag} {H : Hp} {a : Addr} {xs : List V} (h : H a = some (.lst xs)) : SqL K H a xs := Evl.sq_of h
abbrev SqTo {K : PySem.W.Frag} {H : Hp} {a : Addr} {xs : List V} (h : H a = some (.tup xs)) : SqT K H a xs := Evl.st_of h
/-! ### pairs of lists -/
section
variable {α β : Type} {R S : α → β → Prop}
theorem Paired.imp (f : ∀ a b, R a b → S a b) : ∀ {l : List α} {m : List β}, Paired R l m → Paired S l m
  | _, _, .nil => .nil
  | _, _, .cons r t => .cons (f _ _ r) (Paired.imp f t)
theorem Paired.app : ∀ {l l' : List α} {m m' : List β}, Paired R l m → Paired R l' m' → Paired R (l ++ l') (m ++ m')
  | _, _, _, _, .nil, s => s
  | _, _, _, _, .cons r t, s => .cons r (Paired.app t s)
theorem Paired.get : ∀ {l : List α} {m : List β} {i : Nat} {a : α}, Paired R l m → l[i]? = some a → ∃ b, m[i]? = some b ∧ R a b
  | _, _, _, _, .nil, e => by simp at e
  | _, _, 0, _, .cons r _, e => by
    simp at e
    subst e
    exact ⟨_, rfl, r⟩
  | _, _, i + 1, a, .cons _ t, e => by
    obtain ⟨b, h1, h2⟩ := Paired.get (i := i) (a := a) t (by simpa using e)
    exact ⟨b, by simpa using h1, h2⟩
theorem Paired.get' : ∀ {l : List α} {m : List β} {i : Nat} {b : β}, Paired R l m → m[i]? = some b → ∃ a, l[i]? = some a ∧ R a b
  | _, _, _, _, .nil, e => by simp at e
  | _, _, 0, _, .cons r _, e => by
    simp at e
    subst e
    exact ⟨_, rfl, r⟩
  | _, _, i + 1, a, .cons _ t, e => by
    obtain ⟨b, h1, h2⟩ := Paired.get' (i := i) (b := a) t (by simpa using e)
    exact ⟨b, by simpa using h1, h2⟩
theorem Paired.len : ∀ {l : List α} {m : List β}, Paired R l m → l.length = m.length
  | _, _, .nil => rfl
  | _, _, .cons _ t => by simp [Paired.len t]
theorem Paired.of_get : ∀ {l : List α} {m : List β}, l.length = m.length → (∀ (i : Nat) (a : α) (b : β), l[i]? = some a → m[i]? = some b → R a b) → Paired R l m
  | [], [], _, _ => .nil
  | a :: l, b :: m, h, f => .cons (f 0 a b rfl rfl) (Paired.of_get (by simpa using h) fun i x y h1 h2 => f (i + 1) x y (by simpa using h1) (by simpa using h2))
end
end LW
namespace K44
open PySem PySem.Spec L2 LW
open Evl (Ex)
/-! ### the data -/
inductive Test where
  | any | num (lo hi : Option Int) | text | isI (i : Int) | isS (s : Str) | rcd (fs : List Str) | list (lo : Int) (hi : Option Int)
inductive Head where
  | num (i : Int) | text (s : Str) | rcd (fs : List Str) | list (n : Int)
inductive Kid where
  | field (s : Str) | item (i : Int) | fields | items
  deriving DecidableEq
abbrev Visit := Kid × Str
structure Case where
  t : Test
  w : Option Str
  vs : List Visit
abbrev Row := Str × List Case
def oi : Option Int → V
  | none => .non
  | some i => .int i
def os : Option Str → V
  | none => .non
  | some s => .str s
/-- what stands in the tuple of a test -/
inductive RT (H : Hp) : V → Test → Prop where
  | any {a : Addr} : H a = some (.tup [.str "any"]) → RT H (.ref a) .any
  | num {a : Addr} {lo hi : Option Int} : H a = some (.tup [.str "number", oi lo, oi hi]) → RT H (.ref a) (.num lo hi)
  | text {a : Addr} : H a = some (.tup [.str "text"]) → RT H (.ref a) .text
  | isI {a : Addr} {i : Int} : H a = some (.tup [.str "is", .int i]) → RT H (.ref a) (.isI i)
  | isS {a : Addr} {s : Str} : H a = some (.tup [.str "is", .str s]) → RT H (.ref a) (.isS s)
  | rcd {a b : Addr} {fs : List Str} : H a = some (.tup [.str "record", .ref b]) → H b = some (.tup (fs.map V.str)) → RT H (.ref a) (.rcd fs)
  | list {a : Addr} {lo : Int} {hi : Option Int} : H a = some (.tup [.str "list", .int lo, oi hi]) → RT H (.ref a) (.list lo hi)
inductive RH (H : Hp) : V → Head → Prop where
  | num {a : Addr} {i : Int} : H a = some (.tup [.str "number", .int i]) → RH H (.ref a) (.num i)
  | text {a : Addr} {s : Str} : H a = some (.tup [.str "text", .str s]) → RH H (.ref a) (.text s)
  | rcd {a b : Addr} {fs : List Str} : H a = some (.tup [.str "record", .ref b]) → H b = some (.tup (fs.map V.str)) → RH H (.ref a) (.rcd fs)
  | list {a : Addr} {n : Int} : H a = some (.tup [.str "list", .int n]) → RH H (.ref a) (.list n)
def kidV : Kid → List V
  | .field s => [.str "field", .str s]
  | .item i => [.str "item", .int i]
  | .fields => [.str "fields"]
  | .items => [.str "items"]
def RKid (H : Hp) (v : V) (k : Kid) : Prop := ∃ a, v = .ref a ∧ H a = some (.tup (kidV k))
def RVis (H : Hp) (v : V) (x : Visit) : Prop := ∃ a c, v = .ref a ∧ H a = some (.tup [c, .str x.2]) ∧ RKid H c x.1
def RVisL (H : Hp) (v : V) (l : List Visit) : Prop := ∃ a xs, v = .ref a ∧ H a = some (.lst xs) ∧ Paired (RVis H) xs l
def RCase (H : Hp) (v : V) (c : Case) : Prop := ∃ a t l, v = .ref a ∧ H a = some (.tup [t, os c.w, l]) ∧ RT H t c.t ∧ RVisL H l c.vs
def RCaseL (H : Hp) (v : V) (cs : List Case) : Prop := ∃ a xs, v = .ref a ∧ H a = some (.lst xs) ∧ Paired (RCase H) xs cs
def RRow (H : Hp) (v : V) (r : Row) : Prop := ∃ a l, v = .ref a ∧ H a = some (.tup [.str r.1, l]) ∧ RCaseL H l r.2
def RProg (H : Hp) (v : V) (rs : List Row) : Prop := ∃ a xs, v = .ref a ∧ H a = some (.lst xs) ∧ Paired (RRow H) xs rs
section
variable {H H' : Hp} {v : V}
theorem RT.ex {t : Test} (e : Ex H H') (h : RT H v t) : RT H' v t := by
  cases h with
  | any h => exact .any (e _ _ h)
  | num h => exact .num (e _ _ h)
  | text h => exact .text (e _ _ h)
  | isI h => exact .isI (e _ _ h)
  | isS h => exact .isS (e _ _ h)
  | rcd h g => exact .rcd (e _ _ h) (e _ _ g)
  | list h => exact .list (e _ _ h)
theorem RH.ex {t : Head} (e : Ex H H') (h : RH H v t) : RH H' v t := by
  cases h with
  | num h => exact .num (e _ _ h)
  | text h => exact .text (e _ _ h)
  | rcd h g => exact .rcd (e _ _ h) (e _ _ g)
  | list h => exact .list (e _ _ h)
theorem RKid.ex {k : Kid} (e : Ex H H') (h : RKid H v k) : RKid H' v k := by
  obtain ⟨a, rfl, h⟩ := h
  exact ⟨a, rfl, e _ _ h⟩
theorem RVis.ex {x : Visit} (e : Ex H H') (h : RVis H v x) : RVis H' v x := by
  obtain ⟨a, c, rfl, h, g⟩ := h
  exact ⟨a, c, rfl, e _ _ h, g.ex e⟩
theorem RVisL.ex {l : List Visit} (e : Ex H H') (h : RVisL H v l) : RVisL H' v l := by
  obtain ⟨a, xs, rfl, h, g⟩ := h
  exact ⟨a, xs, rfl, e _ _ h, Paired.imp (fun _ _ q => RVis.ex e q) g⟩
theorem RCase.ex {c : Case} (e : Ex H H') (h : RCase H v c) : RCase H' v c := by
  obtain ⟨a, t, l, rfl, h, g1, g2⟩ := h
  exact ⟨a, t, l, rfl, e _ _ h, g1.ex e, g2.ex e⟩
theorem RCaseL.ex {l : List Case} (e : Ex H H') (h : RCaseL H v l) : RCaseL H' v l := by
  obtain ⟨a, xs, rfl, h, g⟩ := h
  exact ⟨a, xs, rfl, e _ _ h, Paired.imp (fun _ _ q => RCase.ex e q) g⟩
theorem RRow.ex {r : Row} (e : Ex H H') (h : RRow H v r) : RRow H' v r := by
  obtain ⟨a, l, rfl, h, g⟩ := h
  exact ⟨a, l, rfl, e _ _ h, g.ex e⟩
theorem RProg.ex {l : List Row} (e : Ex H H') (h : RProg H v l) : RProg H' v l := by
  obtain ⟨a, xs, rfl, h, g⟩ := h
  exact ⟨a, xs, rfl, e _ _ h, Paired.imp (fun _ _ q => RRow.ex e q) g⟩
end
/-! ### the same as data -/
def oiD : Option Int → PyData
  | none => .none
  | some i => .int i
def osD : Option Str → PyData
  | none => .none
  | some s => .str s
def Test.d : Test → PyData
  | .any => .tuple [.str "any"]
  | .num lo hi => .tuple [.str "number", oiD lo, oiD hi]
  | .text => .tuple [.str "text"]
  | .isI i => .tuple [.str "is", .int i]
  | .isS s => .tuple [.str "is", .str s]
  | .rcd fs => .tuple [.str "record", .tuple (fs.map PyData.str)]
  | .list lo hi => .tuple [.str "list", .int lo, oiD hi]
def Kid.d : Kid → PyData
  | .field s => .tuple [.str "field", .str s]
  | .item i => .tuple [.str "item", .int i]
  | .fields => .tuple [.str "fields"]
  | .items => .tuple [.str "items"]
def visD (x : Visit) : PyData := .tuple [x.1.d, .str x.2]
def visLD (l : List Visit) : PyData := .list (l.map visD)
def Case.d (c : Case) : PyData := .tuple [c.t.d, osD c.w, visLD c.vs]
def caseLD (l : List Case) : PyData := .list (l.map Case.d)
section
variable {K : PySem.W.Frag} {H : Hp} {v : V}
theorem dp_oi (o : Option Int) : Dp K H (oi o) (oiD o) := by
  cases o with
  | none => exact .non
  | some i => exact .int i
theorem dp_os (o : Option Str) : Dp K H (os o) (osD o) := by
  cases o with
  | none => exact .non
  | some i => exact .str i
theorem dp_strs : ∀ fs : List Str, DpAll K H (fs.map V.str) (fs.map PyData.str)
  | [] => .nil
  | f :: fs => .cons (.str f) (dp_strs fs)
theorem RT.dp {t : Test} (h : RT H v t) : Dp K H v t.d := by
  cases h with
  | any h => exact .tup (SqTo h) (.cons (.str _) .nil)
  | num h => exact .tup (SqTo h) (.cons (.str _) (.cons (dp_oi _) (.cons (dp_oi _) .nil)))
  | text h => exact .tup (SqTo h) (.cons (.str _) .nil)
  | isI h => exact .tup (SqTo h) (.cons (.str _) (.cons (.int _) .nil))
  | isS h => exact .tup (SqTo h) (.cons (.str _) (.cons (.str _) .nil))
  | rcd h g => exact .tup (SqTo h) (.cons (.str _) (.cons (.tup (SqTo g) (dp_strs _)) .nil))
  | list h => exact .tup (SqTo h) (.cons (.str _) (.cons (.int _) (.cons (dp_oi _) .nil)))
theorem RKid.dp {k : Kid} (h : RKid H v k) : Dp K H v k.d := by
  obtain ⟨a, rfl, h⟩ := h
  cases k with
  | field s => exact .tup (SqTo h) (.cons (.str _) (.cons (.str _) .nil))
  | item i => exact .tup (SqTo h) (.cons (.str _) (.cons (.int _) .nil))
  | fields => exact .tup (SqTo h) (.cons (.str _) .nil)
  | items => exact .tup (SqTo h) (.cons (.str _) .nil)
theorem RVis.dp {x : Visit} (h : RVis H v x) : Dp K H v (visD x) := by
  obtain ⟨a, c, rfl, h, g⟩ := h
  exact .tup (SqTo h) (.cons g.dp (.cons (.str _) .nil))
theorem dpAll {β : Type} {R : V → β → Prop} {f : β → PyData} (k : ∀ v x, R v x → Dp K H v (f x)) : ∀ {xs : List V} {l : List β}, Paired R xs l → DpAll K H xs (l.map f)
  | _, _, .nil => .nil
  | _, _, .cons r t => .cons (k _ _ r) (dpAll k t)
theorem RVisL.dp {l : List Visit} (h : RVisL H v l) : Dp K H v (visLD l) := by
  obtain ⟨a, xs, rfl, h, g⟩ := h
  exact .lst (SqLo h) (dpAll (fun _ _ q => RVis.dp q) g)
theorem RCase.dp {c : Case} (h : RCase H v c) : Dp K H v c.d := by
  obtain ⟨a, t, l, rfl, h, g1, g2⟩ := h
  exact .tup (SqTo h) (.cons g1.dp (.cons (dp_os _) (.cons g2.dp .nil)))
theorem RCaseL.dp {l : List Case} (h : RCaseL H v l) : Dp K H v (caseLD l) := by
  obtain ⟨a, xs, rfl, h, g⟩ := h
  exact .lst (SqLo h) (dpAll (fun _ _ q => RCase.dp q) g)
end
/-! ### texts that Python's own can be -/
abbrev SOk (s : Str) : Prop := PyData.strOk s = true
def Test.Ok : Test → Prop
  | .isS s => SOk s
  | .rcd fs => (∀ f ∈ fs, SOk f) ∧ fs.length ≤ 100
  | _ => True
def Kid.Ok : Kid → Prop
  | .field s => SOk s
  | _ => True
def Case.Ok (c : Case) : Prop := c.t.Ok ∧ (∀ s, c.w = some s → SOk s) ∧ ∀ x ∈ c.vs, x.1.Ok ∧ SOk x.2
end K44

namespace K44
open PySem PySem.Spec L2 LW
open Evl (Ex)
def top (i : Nat) : Stmt := PySem.Challenge.pw_latechecks_k44_tests_and_cases.main.body.getD i (.Pass ⟨0, 0, 0, 0⟩)
abbrev s__wall : Stmt := top 0
abbrev s_InvalidValue___init__ : Stmt := inClass (top 3) 0
abbrev s_DuplicatePoint___init__ : Stmt := inClass (top 4) 0
abbrev s_UnknownPoint___init__ : Stmt := inClass (top 5) 0
abbrev s_RepeatedChild___init__ : Stmt := inClass (top 6) 0
abbrev s_is_integer : Stmt := top 14
abbrev s_is_letters : Stmt := top 15
abbrev s_is_field : Stmt := top 16
abbrev s_is_leaf : Stmt := top 17
abbrev s_is_part : Stmt := top 18
abbrev s_children : Stmt := top 19
abbrev s_is_value : Stmt := top 20
abbrev s_check_value : Stmt := top 21
abbrev s_head_of : Stmt := top 22
abbrev s_takes_leaf : Stmt := top 24
abbrev s_matches : Stmt := top 26
abbrev s_has_repeats : Stmt := top 27
abbrev s_visited : Stmt := top 28
abbrev s_chosen : Stmt := top 29
abbrev s_taken : Stmt := top 30
abbrev s_Looker___init__ : Stmt := inClass (top 32) 0
abbrev s_Looker_check_visits : Stmt := inClass (top 32) 1
abbrev s_Looker_whole : Stmt := inClass (top 32) 2
abbrev s_Looker_start : Stmt := inClass (top 32) 3
abbrev s_Looker_points : Stmt := inClass (top 32) 4
abbrev s_Looker_cases : Stmt := inClass (top 32) 5
abbrev s_Looker___len__ : Stmt := inClass (top 32) 6
abbrev s_Looker___iter__ : Stmt := inClass (top 32) 7
abbrev s_Looker___contains__ : Stmt := inClass (top 32) 8
abbrev s_Looker___eq__ : Stmt := inClass (top 32) 9
abbrev s_Looker___call__ : Stmt := inClass (top 32) 10
abbrev s__law_hand : Stmt := top 34
abbrev s__law_draw : Stmt := top 35
abbrev s__law_leaf : Stmt := top 36
abbrev s__law_test : Stmt := top 37
abbrev s__law_visits : Stmt := top 38
abbrev s__law_program : Stmt := top 39
abbrev s__law_program_copy : Stmt := top 40
abbrev s__law_leaf_fits : Stmt := top 41
abbrev s__law_head : Stmt := top 42
abbrev s__law_test_fits : Stmt := top 43
abbrev s__law_bad_point : Stmt := top 44
abbrev s_law : Stmt := top 45
structure Txt (K : PySem.W.Frag) (mg : Str → Option Value) : Prop where
  b_len : mg "len" = none
  b_range : mg "range" = none
  b_isinstance : mg "isinstance" = none
  b_int : mg "int" = none
  b_str : mg "str" = none
  b_bool : mg "bool" = none
  b_list : mg "list" = none
  b_all : mg "all" = none
  b_enumerate : mg "enumerate" = none
  b_max : mg "max" = none
  b_min : mg "min" = none
section
variable {P : Program} {w : World} {K : PySem.W.Frag} {mg : Str → Option Value} {base : Heap}
/-! ### _law_draw -/
def spDraw : Sp := fun vs H Q _ => ∃ (p : Addr) (n : Int), vs = [.ref p, .int n] ∧ Pool H p ∧ 0 < n ∧ n ≤ 10000000000000000000000000000000 ∧ ∀ v : Int, 0 ≤ v → v < n → Q (.int v) H
theorem sc__law_draw : FnScope ["_law_pool", "_law_many", "_law_found"] ["_law_pool", "_law_many"] (defScope s__law_draw) := ⟨rfl, rfl, rfl, by decide +kernel, rfl, by decide +kernel, by decide +kernel⟩
theorem bi__law_draw : BindsEq "_law_draw" s__law_draw ["_law_pool", "_law_many"] := fun _ _ _ _ _ _ us hl => match us, hl with | [_, _], _ => rfl
theorem ok_draw (F : Df K mg "_law_draw" s__law_draw) (T : Txt K mg) : Cal P w K mg base CX0 1 "_law_draw" spDraw := by
  refine cal0 F sc__law_draw bi__law_draw (fun vs H Q E h => ?_) (fun f cdv A outer s H vs Q E hr h => ?_)
  · obtain ⟨p, n, rfl, _⟩ := h
    rfl
  · obtain ⟨p, n, rfl, hp, n0, n1, k⟩ := h
    refine ⟨_, pss_focus (pss_cons (ps_if (pt_cmpR op_gt (pe_ix (ixl K) (pv 0) pe_int (fun _ _ => rfl)) pe_int (nomark _)) (pss_cons (ps_set (i := 2) sc__law_draw.nd rfl (Or.inl rfl) (pe_op op_mod (pe_callTy call_int1 rfl T.b_int (by decide +kernel) (pa_cons (pe_ix (ixl K) (pv 0) pe_int (fun _ _ => rfl)) pa_nil)) (pv 1)))
 (pss_cons (ps_asg (pe_op op_fdivW (pe_ix (ixl K) (pv 0) pe_int (fun _ _ => rfl)) (pv 1)) (pg_sub (pv 0) pe_int set_list))
 (pss_one (ps_ret (pv 2))))) pss_nil)
 (pss_cons (ps_asg (pe_op op_mod (pe_callTy call_int1 rfl T.b_int (by decide +kernel) (pa_cons (pe_op op_add (pe_op op_mul (pe_ix (ixl K) (pv 0) pe_int (fun _ _ => rfl)) pe_int) pe_int) pa_nil)) pe_int) (pg_sub (pv 0) pe_int set_list))
 (pss_one (ps_ret (pe_op op_mod (pe_op op_fdivW (pe_op op_mod (pe_callTy call_int1 rfl T.b_int (by decide +kernel) (pa_cons (pe_op op_mul (pe_ix (ixl K) (pv 0) pe_int (fun _ _ => rfl)) (pe_ix (ixl K) (pv 0) pe_int (fun _ _ => rfl))) pa_nil)) pe_int) pe_int) (pv 1)))))), ?_⟩
    refine ⟨p, hp, fun a b a0 b0 b1 => ?_⟩
    have hd : CDivW a n := wide_div (b := 110) n0 (by omega) (by decide) (by decide)
    have sq : ∀ x y : Int, SqL K (upd H p (.lst [.int x, .int y])) p [.int x, .int y] := fun x y => Evl.sq_of upd_same
    have a0' : ∀ x y : V, atI [x, y] 0 = some x := fun _ _ => rfl
    have a1' : ∀ x y : V, atI [x, y] 1 = some y := fun _ _ => rfl
    refine ⟨_, rfl, p, _, _, _, rfl, rfl, sq a b, a0' _ _, _, _, rfl, rfl, _, rfl, ?_⟩
    refine ite2 (fun h => ?_) (fun h => ?_)
    · have h : 0 < a := of_decide_eq_true h
      refine ⟨_, rfl, p, _, _, _, rfl, rfl, sq a b, a0' _ _, .inl ⟨_, rfl, _, rfl, _, _, rfl, rfl, n0, ?_⟩⟩
      refine ⟨_, rfl, p, _, _, _, rfl, rfl, sq a b, a0' _ _, _, rfl, _, _, rfl, rfl, hd, _, rfl, p, _, _, 0, rfl, rfl, upd_same, rfl, ?_⟩
      refine ⟨_, rfl, a / n, b, upd_same, ?_, b0, b1, ?_⟩
      · exact Int.ediv_nonneg a0 (by omega)
      · rw [upd_upd, upd_back hp]
        exact k _ (Int.emod_nonneg _ (by omega)) (Int.emod_lt_of_pos _ n0)
    · refine ⟨_, rfl, p, _, _, _, rfl, rfl, sq a b, a1' _ _, _, _, rfl, rfl, .inl ⟨by omega, by omega⟩, _, _, rfl, rfl, .inl ⟨_, rfl, _, _, rfl, rfl, (by show (0 : Int) < 2147483647; decide), ?_⟩⟩
      have c0 : 0 ≤ (b * 48271 + 11) % 2147483647 := Int.emod_nonneg _ (by decide)
      have c1 : (b * 48271 + 11) % 2147483647 < 2147483647 := Int.emod_lt_of_pos _ (by decide)
      refine ⟨_, rfl, p, _, _, 1, rfl, rfl, upd_same, rfl, ?_⟩
      rw [upd_upd]
      refine ⟨_, rfl, p, _, _, _, rfl, rfl, sq a ((b * 48271 + 11) % 2147483647), a1' _ _, _, rfl, p, _, _, _, rfl, rfl, sq a ((b * 48271 + 11) % 2147483647), a1' _ _, _, _, rfl, rfl, .inl ⟨by omega, by omega⟩, .inl ⟨_, rfl, _, _, rfl, rfl, (by show (0 : Int) < 2147483629; decide), _, _, rfl, rfl, ⟨by decide, by decide⟩, _, rfl, _, _, rfl, rfl, n0, ?_⟩⟩
      refine ⟨a, _, upd_same, a0, c0, c1, ?_⟩
      rw [upd_back hp]
      exact k _ (Int.emod_nonneg _ (by omega)) (Int.emod_lt_of_pos _ n0)
/-! ### _law_hand -/
theorem cut_mem {xs : List V} {lo hi : Option Int} {v : V} (h : v ∈ cutV xs lo hi) : v ∈ xs := List.mem_of_mem_drop (List.mem_of_mem_take h)
def spHand (K : PySem.W.Frag) : Sp := fun vs H Q _ => ∃ (a : Addr) (ns : List Int) (k : Int), vs = [.ref a, .int k] ∧ SqL K H a (ns.map V.int) ∧ ns.length ≤ 63 ∧ 0 ≤ k ∧ k ≤ 63 ∧ ∀ p H', H p = none → Ex H H' → Pool H' p → Q (.ref p) H'
theorem sc__law_hand : FnScope ["_law_script", "_law_k", "_law_cell", "_law_seed"] ["_law_script", "_law_k"] (defScope s__law_hand) := ⟨rfl, rfl, rfl, by decide +kernel, rfl, by decide +kernel, by decide +kernel⟩
theorem bi__law_hand : BindsEq "_law_hand" s__law_hand ["_law_script", "_law_k"] := fun _ _ _ _ _ _ us hl => match us, hl with | [_, _], _ => rfl
theorem ok_hand (F : Df K mg "_law_hand" s__law_hand) (T : Txt K mg) : Cal P w K mg base CX0 1 "_law_hand" (spHand K) := by
  refine cal0 F sc__law_hand bi__law_hand (fun vs H Q E h => ?_) (fun f cdv A outer s H vs Q E hr h => ?_)
  · obtain ⟨a, ns, j, rfl, _⟩ := h
    rfl
  · obtain ⟨a, ns, j, rfl, hS, hl, j0, j1, k⟩ := h
    refine ⟨_, (pss_cons (ps_set (i := 2) sc__law_hand.nd rfl (Or.inl rfl) (pe_ix (ixl K) (pe_op op_cat (pe_slice (slK K) (pv 0) (po_some (pv 1)) (po_some (pe_op op_add (pv 1) pe_int))) (pe_lst (pa_cons pe_int pa_nil))) pe_int (fun _ _ => rfl)))
 (pss_cons (ps_set (i := 3) sc__law_hand.nd rfl (Or.inl rfl) (pe_op op_mod (pe_op op_mul (pe_op op_add (pe_op op_add (pe_op op_mod (pe_callTy call_int1 rfl T.b_int (by decide +kernel) (pa_cons (pv 2) pa_nil)) pe_int) (pe_op op_mul pe_int (pv 1))) pe_int) pe_int) pe_int))
 (pss_one (ps_retPool (pe_lst (pa_cons (pe_op op_mul (pe_callTy call_int1 rfl T.b_int (by decide +kernel) (pa_cons (pe_cmpR op_ge (pv 2) (pe_op op_pow pe_int pe_int) (nomark _)) pa_nil)) (pv 2)) (pa_cons (pv 3) pa_nil))))))), ?_⟩
    refine ⟨_, rfl, _, rfl, _, rfl, _, rfl, _, _, rfl, rfl, _, rfl, a, _, rfl, hS, fun p1 np1 => ?_⟩
    obtain ⟨H1, hH1, x0_1, h1⟩ := newH _ np1
    rw [hH1]
    clear hH1
    have f1 := np1
    refine ⟨szl (by show 1 ≤ 100000; decide), fun p2 np2 => ?_⟩
    obtain ⟨H2, hH2, x1_2, h2⟩ := newH _ np2
    rw [hH2]
    clear hH2
    have x0_2 := x0_1.trans x1_2
    have f2 := ex_free x0_1 np2
    have hlen := cutV_length (ns.map V.int) (some j) (some (j + 1))
    rw [List.length_map] at hlen
    refine ⟨p1, p2, _, _, rfl, rfl, x1_2 _ _ h1, h2, szl (by show _ + 1 ≤ 100000; omega), fun p3 np3 => ?_⟩
    obtain ⟨H3, hH3, x2_3, h3⟩ := newH _ np3
    rw [hH3]
    clear hH3
    have x0_3 := x0_2.trans x2_3
    have x1_3 := x1_2.trans x2_3
    have f3 := ex_free x0_2 np3
    obtain ⟨c, hc⟩ : ∃ c : Int, atI (cutV (ns.map V.int) (some j) (some (j + 1)) ++ [V.int 0]) 0 = some (V.int c) := by
      obtain ⟨x, hx, hm, _⟩ := at_some (xs := cutV (ns.map V.int) (some j) (some (j + 1)) ++ [V.int 0]) (v := 0) (by decide) (by rw [List.length_append]; show (0 : Int) < ((_ + 1 : Nat) : Int); omega)
      rcases List.mem_append.mp hm with q | q
      · obtain ⟨c, _, e⟩ := List.mem_map.mp (cut_mem q)
        exact ⟨c, by rw [hx, e]⟩
      · have e : x = V.int 0 := by simpa using q
        exact ⟨0, by rw [hx, e]⟩
    refine ⟨p3, _, _, _, rfl, rfl, SqLo h3, hc, ?_⟩
    -- _law_seed
    refine ⟨_, rfl, .inl ⟨_, rfl, _, _, rfl, rfl, (by show (0 : Int) < 2147483647; decide), ?_⟩⟩
    have m0 : 0 ≤ c % 2147483647 := Int.emod_nonneg _ (by decide)
    have m1 : c % 2147483647 < 2147483647 := Int.emod_lt_of_pos _ (by decide)
    refine ⟨_, rfl, _, _, rfl, rfl, .inl ⟨by decide, by decide⟩, _, _, rfl, rfl, _, _, rfl, rfl, _, _, rfl, rfl, .inr ⟨by decide, by decide⟩, _, _, rfl, rfl, (by show (0 : Int) < 2147483629; decide), ?_⟩
    -- return
    refine ⟨_, rfl, _, _, rfl, rfl, ⟨by decide, by decide, by decide⟩, _, _, rfl, rfl, .inr ⟨_, rfl, _, rfl, _, _, rfl, rfl, .inl ?_, ?_⟩⟩
    · split <;> exact ⟨by decide, by decide⟩
    refine ⟨_, rfl, szl (by show 2 ≤ 100000; decide), fun p4 np4 => ?_⟩
    obtain ⟨H4, hH4, x3_4, h4⟩ := newH _ np4
    rw [hH4]
    clear hH4
    have x0_4 := x0_3.trans x3_4
    have x1_4 := x1_3.trans x3_4
    have x2_4 := x2_3.trans x3_4
    have f4 := ex_free x0_3 np4
    have np : H p4 = none := ex_free x0_3 np4
    refine ⟨p4, _, _, rfl, h4, ?_, ?_, ?_, k p4 _ np ?_ upd_same⟩
    · by_cases hb : (10 : Int) ^ (18 : Int).toNat ≤ c
      · rw [decide_eq_true hb]
        show 0 ≤ 1 * c
        have : (0 : Int) ≤ 10 ^ (18 : Int).toNat := by decide
        omega
      · rw [decide_eq_false hb]
        show 0 ≤ 0 * c
        omega
    · exact Int.emod_nonneg _ (by decide)
    · exact Int.lt_trans (Int.emod_lt_of_pos _ (by decide)) (by decide)
    · exact Ex.mut x0_4 np
/-! ### _law_leaf -/
def LeafV (v : V) : Prop := (∃ i : Int, v = .int i) ∨ ∃ z : Str, v = .str z ∧ SOk z
def spLeaf : Sp := fun vs H Q _ => ∃ (p : Addr), vs = [.ref p] ∧ Pool H p ∧ ∀ v H', Ex H H' → LeafV v → Q v H'
theorem sc__law_leaf : FnScope ["_law_pool", "_law_way"] ["_law_pool"] (defScope s__law_leaf) := ⟨rfl, rfl, rfl, by decide +kernel, rfl, by decide +kernel, by decide +kernel⟩
theorem bi__law_leaf : BindsEq "_law_leaf" s__law_leaf ["_law_pool"] := fun _ _ _ _ _ _ us hl => match us, hl with | [_], _ => rfl
theorem cp30 : CPow 10 30 := ⟨by decide, by decide, by decide⟩
theorem cp29 : CPow 10 29 := ⟨by decide, by decide, by decide⟩
theorem ok_leaf (F : Df K mg "_law_leaf" s__law_leaf) (T : Txt K mg) (C__law_draw : Cal P w K mg base CX0 1 "_law_draw" spDraw) : Cal P w K mg base CX0 2 "_law_leaf" spLeaf := by
  refine cal0 F sc__law_leaf bi__law_leaf (fun vs H Q E h => ?_) (fun f cdv A outer s H vs Q E hr h => ?_)
  · obtain ⟨p, rfl, _⟩ := h
    rfl
  · obtain ⟨p, rfl, hp, k⟩ := h
    refine ⟨_, (pss_cons (ps_set (i := 1) sc__law_leaf.nd rfl (Or.inl rfl) (pe_k C__law_draw hr (by decide) rfl (pa_cons (pv 0) (pa_cons pe_int pa_nil))))
 (pss_cons (ps_if (pt_cmpR op_lt (pv 1) pe_int (nomark _)) (pss_one (ps_ret (pe_op op_sub (pe_k C__law_draw hr (by decide) rfl (pa_cons (pv 0) (pa_cons pe_int pa_nil))) pe_int))) pss_nil)
 (pss_cons (ps_if (pt_cmpR op_eq (pv 1) pe_int (nomark _)) (pss_one (ps_ret (pe_ix (ixl K) (pe_lst (pa_cons (pe_op op_sub (pe_op op_pow pe_int pe_int) pe_int) (pa_cons (pe_op op_sub pe_int (pe_op op_pow pe_int pe_int)) (pa_cons (pe_op op_sub (pe_op op_pow pe_int pe_int) pe_int) pa_nil)))) (pe_k C__law_draw hr (by decide) rfl (pa_cons (pv 0) (pa_cons pe_int pa_nil))) (fun _ _ => rfl)))) pss_nil)
 (pss_one (ps_ret (pe_ix (ixl K) (pe_lst (pa_cons pe_str (pa_cons pe_str (pa_cons pe_str (pa_cons pe_str pa_nil))))) (pe_k C__law_draw hr (by decide) rfl (pa_cons (pv 0) (pa_cons pe_int pa_nil))) (fun _ _ => rfl))))))), ?_⟩
    refine ⟨_, rfl, p, 9, rfl, hp, by decide, by decide, fun v v0 v1 => ?_⟩
    refine ⟨_, rfl, _, _, rfl, rfl, _, rfl, if_b (fun _ => ?_) (fun _ => ?_)⟩
    · exact ⟨_, rfl, p, 7, rfl, hp, by decide, by decide, fun u u0 u1 => ⟨_, _, rfl, rfl, k _ _ (Ex.refl _) (.inl ⟨_, rfl⟩)⟩⟩
    refine ⟨_, rfl, rfl, _, rfl, if_b (fun _ => ?_) (fun _ => ?_)⟩
    · refine ⟨_, _, rfl, rfl, cp30, _, _, rfl, rfl, _, _, rfl, rfl, cp30, _, _, rfl, rfl, _, _, rfl, rfl, cp29, _, _, rfl, rfl, szl (by show 3 ≤ 100000; decide), fun p1 np1 => ?_⟩
      obtain ⟨H1, hH1, x0_1, h1⟩ := newH _ np1
      rw [hH1]
      clear hH1
      have f1 := np1
      refine ⟨_, rfl, p, 3, rfl, hp.ex x0_1, by decide, by decide, fun u u0 u1 => ?_⟩
      obtain ⟨x, hx, hm, _⟩ := at_some (xs := [V.int (10 ^ (30 : Int).toNat - 1), V.int (1 - 10 ^ (30 : Int).toNat), V.int (10 ^ (29 : Int).toNat - 2)]) u0 u1
      refine ⟨p1, _, _, _, rfl, rfl, SqLo h1, hx, k _ _ x0_1 (.inl ?_)⟩
      simp only [List.mem_cons, List.not_mem_nil, or_false] at hm
      rcases hm with rfl | rfl | rfl <;> exact ⟨_, rfl⟩
    · refine ⟨szl (by show 4 ≤ 100000; decide), fun p1 np1 => ?_⟩
      obtain ⟨H1, hH1, x0_1, h1⟩ := newH _ np1
      rw [hH1]
      clear hH1
      have f1 := np1
      refine ⟨_, rfl, p, 4, rfl, hp.ex x0_1, by decide, by decide, fun u u0 u1 => ?_⟩
      obtain ⟨x, hx, hm, _⟩ := at_some (xs := [V.str "", V.str "x", V.str "ab", V.str "abcdefghijklmnopqrst"]) u0 u1
      refine ⟨p1, _, _, _, rfl, rfl, SqLo h1, hx, k _ _ x0_1 (.inr ?_)⟩
      simp only [List.mem_cons, List.not_mem_nil, or_false] at hm
      rcases hm with rfl | rfl | rfl | rfl <;> exact ⟨_, rfl, by decide +kernel⟩
/-! ### _law_test -/
def spTest : Sp := fun vs H Q _ => ∃ (p : Addr), vs = [.ref p] ∧ Pool H p ∧ ∀ v H' t, Ex H H' → RT (fr H H') v t → t.Ok → Q v H'
theorem sc__law_test : FnScope ["_law_pool", "_law_way", "_law_low", "_law_ends", "_law_shapes"] ["_law_pool"] (defScope s__law_test) := ⟨rfl, rfl, rfl, by decide +kernel, rfl, by decide +kernel, by decide +kernel⟩
theorem bi__law_test : BindsEq "_law_test" s__law_test ["_law_pool"] := fun _ _ _ _ _ _ us hl => match us, hl with | [_], _ => rfl
theorem ok_test (F : Df K mg "_law_test" s__law_test) (T : Txt K mg) (C__law_draw : Cal P w K mg base CX0 1 "_law_draw" spDraw) : Cal P w K mg base CX0 2 "_law_test" spTest := by
  refine cal0 F sc__law_test bi__law_test (fun vs H Q E h => ?_) (fun f cdv A outer s H vs Q E hr h => ?_)
  · obtain ⟨p, rfl, _⟩ := h
    rfl
  · obtain ⟨p, rfl, hp, k⟩ := h
    refine ⟨_, (pss_cons (ps_set (i := 1) sc__law_test.nd rfl (Or.inl rfl) (pe_k C__law_draw hr (by decide) rfl (pa_cons (pv 0) (pa_cons pe_int pa_nil))))
 (pss_cons (ps_set (i := 2) sc__law_test.nd rfl (Or.inl rfl) (pe_k C__law_draw hr (by decide) rfl (pa_cons (pv 0) (pa_cons pe_int pa_nil))))
 (pss_cons (ps_if (pt_cmpR op_lt (pv 1) pe_int (nomark _)) (pss_one (ps_ret (pe_tup (pa_cons pe_str pa_nil)))) pss_nil)
 (pss_cons (ps_if (pt_cmpR op_eq (pv 1) pe_int (nomark _)) (pss_cons (ps_set (i := 3) sc__law_test.nd rfl (Or.inl rfl) (pe_lst (pa_cons pe_non (pa_cons (pe_op op_sub (pv 2) pe_int) (pa_cons pe_non (pa_cons (pv 2) pa_nil))))))
 (pss_one (ps_ret (pe_tup (pa_cons pe_str (pa_cons (pe_ix (ixl K) (pv 3) (pe_k C__law_draw hr (by decide) rfl (pa_cons (pv 0) (pa_cons pe_int pa_nil))) (fun _ _ => rfl)) (pa_cons (pe_ix (ixl K) (pv 3) (pe_op op_add pe_int (pe_k C__law_draw hr (by decide) rfl (pa_cons (pv 0) (pa_cons pe_int pa_nil)))) (fun _ _ => rfl)) pa_nil))))))) pss_nil)
 (pss_cons (ps_if (pt_cmpR op_eq (pv 1) pe_int (nomark _)) (pss_one (ps_ret (pe_ix (ixl K) (pe_lst (pa_cons (pe_tup (pa_cons pe_str pa_nil)) (pa_cons (pe_tup (pa_cons pe_str (pa_cons pe_str pa_nil))) (pa_cons (pe_tup (pa_cons pe_str (pa_cons (pe_op op_sub (pv 2) pe_int) pa_nil))) (pa_cons (pe_tup (pa_cons pe_str (pa_cons (pe_op op_sub (pe_op op_pow pe_int pe_int) pe_int) pa_nil))) pa_nil))))) (pv 2) (fun _ _ => rfl)))) pss_nil)
 (pss_cons (ps_if (pt_cmpR op_lt (pv 1) pe_int (nomark _)) (pss_cons (ps_set (i := 4) sc__law_test.nd rfl (Or.inl rfl) (pe_lst (pa_cons (pe_tup pa_nil) (pa_cons (pe_tup (pa_cons pe_str pa_nil)) (pa_cons (pe_tup (pa_cons pe_str pa_nil)) (pa_cons (pe_tup (pa_cons pe_str (pa_cons pe_str pa_nil))) (pa_cons (pe_tup (pa_cons pe_str pa_nil)) pa_nil)))))))
 (pss_one (ps_ret (pe_tup (pa_cons pe_str (pa_cons (pe_ix (ixl K) (pv 4) (pe_k C__law_draw hr (by decide) rfl (pa_cons (pv 0) (pa_cons pe_int pa_nil))) (fun _ _ => rfl)) pa_nil)))))) pss_nil)
 (pss_one (ps_ret (pe_tup (pa_cons pe_str (pa_cons (pv 2) (pa_cons (pe_ix (ixl K) (pe_lst (pa_cons pe_non (pa_cons (pv 2) (pa_cons pe_int pa_nil)))) (pe_k C__law_draw hr (by decide) rfl (pa_cons (pv 0) (pa_cons pe_int pa_nil))) (fun _ _ => rfl)) pa_nil)))))))))))), ?_⟩
    refine ⟨_, rfl, p, 8, rfl, hp, by decide, by decide, fun v v0 v1 => ?_⟩
    refine ⟨_, rfl, p, 4, rfl, hp, by decide, by decide, fun lo l0 l1 => ?_⟩
    refine ⟨_, rfl, _, _, rfl, rfl, _, rfl, if_b (fun _ => ?_) (fun _ => ?_)⟩
    · refine ⟨szl (by show 1 ≤ 100000; decide), fun p1 np1 => ?_⟩
      obtain ⟨H1, hH1, x0_1, h1⟩ := newH _ np1
      rw [hH1]
      clear hH1
      have f1 := np1
      exact k _ _ _ x0_1 (.any (fr_get f1 h1)) trivial
    refine ⟨_, rfl, rfl, _, rfl, if_b (fun _ => ?_) (fun _ => ?_)⟩
    · refine ⟨_, rfl, _, _, rfl, rfl, _, rfl, szl (by show 4 ≤ 100000; decide), fun p1 np1 => ?_⟩
      obtain ⟨H1, hH1, x0_1, h1⟩ := newH _ np1
      rw [hH1]
      clear hH1
      have f1 := np1
      refine ⟨_, rfl, _, rfl, p, 2, rfl, hp.ex x0_1, by decide, by decide, fun u u0 u1 => ?_⟩
      have hat : ∀ u : Int, 0 ≤ u → u < 4 → ∃ o : Option Int, atI [V.non, V.int (lo - 2), V.non, V.int lo] u = some (oi o) := fun u u0 u1 => by
        obtain ⟨x, hx, hm, _⟩ := at_some (xs := [V.non, V.int (lo - 2), V.non, V.int lo]) u0 u1
        simp only [List.mem_cons, List.not_mem_nil, or_false] at hm
        rcases hm with rfl | rfl | rfl | rfl
        · exact ⟨none, hx⟩
        · exact ⟨some _, hx⟩
        · exact ⟨none, hx⟩
        · exact ⟨some _, hx⟩
      obtain ⟨o1, ho1⟩ := hat u u0 (by omega)
      refine ⟨p1, _, _, _, rfl, rfl, SqLo h1, ho1, _, rfl, _, rfl, p, 2, rfl, hp.ex x0_1, by decide, by decide, fun y y0 y1 => ?_⟩
      obtain ⟨o2, ho2⟩ := hat (2 + y) (by omega) (by omega)
      refine ⟨_, _, rfl, rfl, p1, _, _, _, rfl, rfl, SqLo h1, ho2, szl (by show 3 ≤ 100000; decide), fun p2 np2 => ?_⟩
      obtain ⟨H2, hH2, x1_2, h2⟩ := newH _ np2
      rw [hH2]
      clear hH2
      have x0_2 := x0_1.trans x1_2
      have f2 := ex_free x0_1 np2
      exact k _ _ _ x0_2 (.num (fr_get f2 h2)) trivial
    refine ⟨_, rfl, rfl, _, rfl, if_b (fun _ => ?_) (fun _ => ?_)⟩
    · refine ⟨szl (by show 1 ≤ 100000; decide), fun p1 np1 => ?_⟩
      obtain ⟨H1, hH1, x0_1, h1⟩ := newH _ np1
      rw [hH1]
      clear hH1
      have f1 := np1
      refine ⟨szl (by show 2 ≤ 100000; decide), fun p2 np2 => ?_⟩
      obtain ⟨H2, hH2, x1_2, h2⟩ := newH _ np2
      rw [hH2]
      clear hH2
      have x0_2 := x0_1.trans x1_2
      have f2 := ex_free x0_1 np2
      refine ⟨_, rfl, _, _, rfl, rfl, szl (by show 2 ≤ 100000; decide), fun p3 np3 => ?_⟩
      obtain ⟨H3, hH3, x2_3, h3⟩ := newH _ np3
      rw [hH3]
      clear hH3
      have x0_3 := x0_2.trans x2_3
      have x1_3 := x1_2.trans x2_3
      have f3 := ex_free x0_2 np3
      refine ⟨_, _, rfl, rfl, cp30, _, _, rfl, rfl, szl (by show 2 ≤ 100000; decide), fun p4 np4 => ?_⟩
      obtain ⟨H4, hH4, x3_4, h4⟩ := newH _ np4
      rw [hH4]
      clear hH4
      have x0_4 := x0_3.trans x3_4
      have x1_4 := x1_3.trans x3_4
      have x2_4 := x2_3.trans x3_4
      have f4 := ex_free x0_3 np4
      refine ⟨szl (by show 4 ≤ 100000; decide), fun p5 np5 => ?_⟩
      obtain ⟨H5, hH5, x4_5, h5⟩ := newH _ np5
      rw [hH5]
      clear hH5
      have x0_5 := x0_4.trans x4_5
      have x1_5 := x1_4.trans x4_5
      have x2_5 := x2_4.trans x4_5
      have x3_5 := x3_4.trans x4_5
      have f5 := ex_free x0_4 np5
      obtain ⟨x, hx, hm, _⟩ := at_some (xs := [V.ref p1, V.ref p2, V.ref p3, V.ref p4]) l0 l1
      refine ⟨_, rfl, p5, _, _, _, rfl, rfl, SqLo h5, hx, ?_⟩
      simp only [List.mem_cons, List.not_mem_nil, or_false] at hm
      rcases hm with rfl | rfl | rfl | rfl
      · exact k _ _ _ x0_5 (.text (fr_get f1 (x1_5 _ _ h1))) trivial
      · exact k _ _ _ x0_5 (.isS (fr_get f2 (x2_5 _ _ h2))) (show SOk _ by decide +kernel)
      · exact k _ _ _ x0_5 (.isI (fr_get f3 (x3_5 _ _ h3))) trivial
      · exact k _ _ _ x0_5 (.isI (fr_get f4 (x4_5 _ _ h4))) trivial
    refine ⟨_, rfl, _, _, rfl, rfl, _, rfl, if_b (fun _ => ?_) (fun _ => ?_)⟩
    · refine ⟨szl (by show 0 ≤ 100000; decide), fun p1 np1 => ?_⟩
      obtain ⟨H1, hH1, x0_1, h1⟩ := newH _ np1
      rw [hH1]
      clear hH1
      have f1 := np1
      refine ⟨szl (by show 1 ≤ 100000; decide), fun p2 np2 => ?_⟩
      obtain ⟨H2, hH2, x1_2, h2⟩ := newH _ np2
      rw [hH2]
      clear hH2
      have x0_2 := x0_1.trans x1_2
      have f2 := ex_free x0_1 np2
      refine ⟨szl (by show 1 ≤ 100000; decide), fun p3 np3 => ?_⟩
      obtain ⟨H3, hH3, x2_3, h3⟩ := newH _ np3
      rw [hH3]
      clear hH3
      have x0_3 := x0_2.trans x2_3
      have x1_3 := x1_2.trans x2_3
      have f3 := ex_free x0_2 np3
      refine ⟨szl (by show 2 ≤ 100000; decide), fun p4 np4 => ?_⟩
      obtain ⟨H4, hH4, x3_4, h4⟩ := newH _ np4
      rw [hH4]
      clear hH4
      have x0_4 := x0_3.trans x3_4
      have x1_4 := x1_3.trans x3_4
      have x2_4 := x2_3.trans x3_4
      have f4 := ex_free x0_3 np4
      refine ⟨szl (by show 1 ≤ 100000; decide), fun p5 np5 => ?_⟩
      obtain ⟨H5, hH5, x4_5, h5⟩ := newH _ np5
      rw [hH5]
      clear hH5
      have x0_5 := x0_4.trans x4_5
      have x1_5 := x1_4.trans x4_5
      have x2_5 := x2_4.trans x4_5
      have x3_5 := x3_4.trans x4_5
      have f5 := ex_free x0_4 np5
      refine ⟨szl (by show 5 ≤ 100000; decide), fun p6 np6 => ?_⟩
      obtain ⟨H6, hH6, x5_6, h6⟩ := newH _ np6
      rw [hH6]
      clear hH6
      have x0_6 := x0_5.trans x5_6
      have x1_6 := x1_5.trans x5_6
      have x2_6 := x2_5.trans x5_6
      have x3_6 := x3_5.trans x5_6
      have x4_6 := x4_5.trans x5_6
      have f6 := ex_free x0_5 np6
      refine ⟨_, rfl, _, rfl, p, 5, rfl, hp.ex x0_6, by decide, by decide, fun u u0 u1 => ?_⟩
      obtain ⟨x, hx, hm, _⟩ := at_some (xs := [V.ref p1, V.ref p2, V.ref p3, V.ref p4, V.ref p5]) u0 u1
      refine ⟨p6, _, _, _, rfl, rfl, SqLo h6, hx, szl (by show 2 ≤ 100000; decide), fun p7 np7 => ?_⟩
      obtain ⟨H7, hH7, x6_7, h7⟩ := newH _ np7
      rw [hH7]
      clear hH7
      have x0_7 := x0_6.trans x6_7
      have x1_7 := x1_6.trans x6_7
      have x2_7 := x2_6.trans x6_7
      have x3_7 := x3_6.trans x6_7
      have x4_7 := x4_6.trans x6_7
      have x5_7 := x5_6.trans x6_7
      have f7 := ex_free x0_6 np7
      simp only [List.mem_cons, List.not_mem_nil, or_false] at hm
      rcases hm with rfl | rfl | rfl | rfl | rfl
      · exact k _ _ _ x0_7 (.rcd (fs := []) (fr_get f7 h7) (fr_get f1 (x1_7 _ _ h1))) (show (∀ f ∈ _, SOk f) ∧ _ ≤ 100 by decide +kernel)
      · exact k _ _ _ x0_7 (.rcd (fs := ["a"]) (fr_get f7 h7) (fr_get f2 (x2_7 _ _ h2))) (show (∀ f ∈ _, SOk f) ∧ _ ≤ 100 by decide +kernel)
      · exact k _ _ _ x0_7 (.rcd (fs := ["b"]) (fr_get f7 h7) (fr_get f3 (x3_7 _ _ h3))) (show (∀ f ∈ _, SOk f) ∧ _ ≤ 100 by decide +kernel)
      · exact k _ _ _ x0_7 (.rcd (fs := ["a", "b"]) (fr_get f7 h7) (fr_get f4 (x4_7 _ _ h4))) (show (∀ f ∈ _, SOk f) ∧ _ ≤ 100 by decide +kernel)
      · exact k _ _ _ x0_7 (.rcd (fs := ["ab"]) (fr_get f7 h7) (fr_get f5 (x5_7 _ _ h5))) (show (∀ f ∈ _, SOk f) ∧ _ ≤ 100 by decide +kernel)
    · refine ⟨_, rfl, _, rfl, szl (by show 3 ≤ 100000; decide), fun p1 np1 => ?_⟩
      obtain ⟨H1, hH1, x0_1, h1⟩ := newH _ np1
      rw [hH1]
      clear hH1
      have f1 := np1
      refine ⟨_, rfl, p, 3, rfl, hp.ex x0_1, by decide, by decide, fun u u0 u1 => ?_⟩
      obtain ⟨x, hx, hm, _⟩ := at_some (xs := [V.non, V.int lo, V.int 3]) u0 u1
      refine ⟨p1, _, _, _, rfl, rfl, SqLo h1, hx, szl (by show 3 ≤ 100000; decide), fun p2 np2 => ?_⟩
      obtain ⟨H2, hH2, x1_2, h2⟩ := newH _ np2
      rw [hH2]
      clear hH2
      have x0_2 := x0_1.trans x1_2
      have f2 := ex_free x0_1 np2
      simp only [List.mem_cons, List.not_mem_nil, or_false] at hm
      rcases hm with rfl | rfl | rfl
      · exact k _ _ _ x0_2 (.list (hi := none) (fr_get f2 h2)) trivial
      · exact k _ _ _ x0_2 (.list (hi := some _) (fr_get f2 h2)) trivial
      · exact k _ _ _ x0_2 (.list (hi := some _) (fr_get f2 h2)) trivial
end
end K44

namespace K44
open PySem PySem.Spec L2 LW
open Evl (Ex)
/-! ### the kids of a case: none twice, no all beside one -/
structure NoRep (l : List Kid) : Prop where
  nd : l.Nodup
  f : ∀ s, Kid.fields ∈ l → Kid.field s ∈ l → False
  i : ∀ j, Kid.items ∈ l → Kid.item j ∈ l → False
  ok : ∀ k ∈ l, k.Ok
theorem NoRep.sub {l m : List Kid} (h : NoRep l) (nd : m.Nodup) (s : ∀ k ∈ m, k ∈ l) : NoRep m := ⟨nd, fun z a b => h.f z (s _ a) (s _ b), fun z a b => h.i z (s _ a) (s _ b), fun k a => h.ok k (s _ a)⟩
theorem NoRep.rot {l : List Kid} (h : NoRep l) (n : Nat) : NoRep (l.drop n ++ l.take n) := by
  refine h.sub ?_ fun k hk => ?_
  · have q : (l.take n ++ l.drop n).Nodup := by rw [List.take_append_drop]; exact h.nd
    exact (List.perm_append_comm.nodup_iff).mp q
  · rcases List.mem_append.mp hk with q | q
    · exact List.mem_of_mem_drop q
    · exact List.mem_of_mem_take q
def kids0 : List Kid := [.fields, .items]
def kids1 : List Kid := [.item 2, .fields, .item 0]
def kids2 : List Kid := [.field "b", .items, .field "a"]
def kids3 : List Kid := [.field "a", .item 1, .field "b", .item 0, .field "ab", .item 3]
theorem nr_of {l : List Kid} (nd : l.Nodup) (f : Kid.fields ∈ l → ∀ s, Kid.field s ∉ l) (i : Kid.items ∈ l → ∀ s, Kid.item s ∉ l) (ok : ∀ k ∈ l, k.Ok) : NoRep l := ⟨nd, fun s a b => f a s b, fun s a b => i a s b, ok⟩
theorem kid_ok {l : List Kid} (h : ∀ k ∈ l, (match k with | .field s => PyData.strOk s | _ => true) = true) : ∀ k ∈ l, k.Ok := fun k hk => by
  have q := h k hk
  cases k with
  | field s => exact q
  | _ => trivial
theorem nr0 : NoRep kids0 := nr_of (by decide +kernel) (fun _ s h => by simp [kids0] at h) (fun _ s h => by simp [kids0] at h) (kid_ok (by decide +kernel))
theorem nr1 : NoRep kids1 := nr_of (by decide +kernel) (fun _ s h => by simp [kids1] at h) (fun h => by simp [kids1] at h) (kid_ok (by decide +kernel))
theorem nr2 : NoRep kids2 := nr_of (by decide +kernel) (fun h => by simp [kids2] at h) (fun _ s h => by simp [kids2] at h) (kid_ok (by decide +kernel))
theorem nr3 : NoRep kids3 := nr_of (by decide +kernel) (fun h => by simp [kids3] at h) (fun h => by simp [kids3] at h) (kid_ok (by decide +kernel))
theorem cut_lo {xs : List V} {t : Int} (h0 : 0 ≤ t) (h1 : t ≤ xs.length) : cutV xs (some t) none = xs.drop t.toNat := by
  obtain ⟨n, rfl⟩ : ∃ n : Nat, t = (n : Int) := ⟨t.toNat, by omega⟩
  unfold cutV
  rw [HT.sIx_nat, HT.sIx_none, Nat.min_eq_left (by omega), Int.toNat_natCast]
  exact List.take_of_length_le (by rw [List.length_drop]; omega)
theorem cut_hi {xs : List V} {t : Int} (h0 : 0 ≤ t) (h1 : t ≤ xs.length) : cutV xs none (some t) = xs.take t.toNat := by
  obtain ⟨n, rfl⟩ : ∃ n : Nat, t = (n : Int) := ⟨t.toNat, by omega⟩
  unfold cutV
  rw [HT.sIx_nat, HT.sIx_none, Nat.min_eq_left (by omega), Int.toNat_natCast]
  simp
theorem Paired.drop {α β : Type} {R : α → β → Prop} : ∀ {l : List α} {m : List β} (n : Nat), Paired R l m → Paired R (l.drop n) (m.drop n)
  | _, _, 0, r => r
  | _, _, _ + 1, .nil => .nil
  | _, _, n + 1, .cons _ t => Paired.drop n t
theorem Paired.take {α β : Type} {R : α → β → Prop} : ∀ {l : List α} {m : List β} (n : Nat), Paired R l m → Paired R (l.take n) (m.take n)
  | _, _, 0, _ => .nil
  | _, _, _ + 1, .nil => .nil
  | _, _, n + 1, .cons r t => .cons r (Paired.take n t)
theorem del_grow_fr {H H' H1 : Hp} {p : Addr} {o : HO} (n : H p = none) (e : Ex H' H1) : Ex (del (fr H H') p) (del (fr H (upd H1 p o)) p) := fun a u q => by
  by_cases ea : a = p
  · rw [ea, del_same] at q
    cases q
  · rw [del_ne ea] at q ⊢
    obtain ⟨m, q⟩ := fr_some q
    exact fr_get m (by rw [upd_ne ea]; exact e a u q)
theorem kid_keep {H H1 H6 : Hp} {p : Addr} {o : HO} (n : H p = none) (n1 : H1 p = none) (e : Ex H1 H6) : Ex (fr H H1) (del (fr H (upd H6 p o)) p) := fun a u q => by
  obtain ⟨m, q⟩ := fr_some q
  have ea : a ≠ p := ne_of_none q n1
  rw [del_ne ea]
  exact fr_get m (by rw [upd_ne ea]; exact e a u q)
section
variable {P : Program} {w : World} {K : PySem.W.Frag} {mg : Str → Option Value} {base : Heap}
/-! ### _law_visits -/
structure VisOk (pts : List Str) (l : List Visit) : Prop where
  nr : NoRep (l.map (·.1))
  pt : ∀ x ∈ l, x.2 ∈ pts
  le : l.length ≤ 20
def spVisits : Sp := fun vs H Q _ => ∃ (p q : Addr) (pts : List Str), vs = [.ref p, .ref q] ∧ Pool H p ∧ H q = some (.lst (pts.map V.str)) ∧ 0 < pts.length ∧ pts.length ≤ 1000 ∧
  ∀ v H' l, Ex H H' → RVisL (fr H H') v l → VisOk pts l → Q v H'
theorem sc__law_visits : FnScope ["_law_pool", "_law_points", "_law_kids", "_law_some", "_law_turn", "_law_found", "_law_kid"] ["_law_pool", "_law_points"] (defScope s__law_visits) := ⟨rfl, rfl, rfl, by decide +kernel, rfl, by decide +kernel, by decide +kernel⟩
theorem bi__law_visits : BindsEq "_law_visits" s__law_visits ["_law_pool", "_law_points"] := fun _ _ _ _ _ _ us hl => match us, hl with | [_, _], _ => rfl
theorem ok_visits (F : Df K mg "_law_visits" s__law_visits) (T : Txt K mg) (C__law_draw : Cal P w K mg base CX0 1 "_law_draw" spDraw) : Cal P w K mg base CX0 2 "_law_visits" spVisits := by
  refine cal0 F sc__law_visits bi__law_visits (fun vs H Q E h => ?_) (fun f cdv A outer s H vs Q E hr h => ?_)
  · obtain ⟨p, q, pts, rfl, _⟩ := h
    rfl
  · obtain ⟨p, q, pts, rfl, hp, hq, l0, l1, k⟩ := h
    refine ⟨_, (pss_cons (ps_set (i := 2) sc__law_visits.nd rfl (Or.inl rfl) (pe_lst (pa_cons (pe_tup (pa_cons pe_str (pa_cons pe_str pa_nil))) (pa_cons (pe_tup (pa_cons pe_str (pa_cons pe_int pa_nil))) (pa_cons (pe_tup (pa_cons pe_str (pa_cons pe_str pa_nil))) (pa_cons (pe_tup (pa_cons pe_str (pa_cons pe_int pa_nil))) (pa_cons (pe_tup (pa_cons pe_str (pa_cons pe_str pa_nil))) (pa_cons (pe_tup (pa_cons pe_str (pa_cons pe_int pa_nil))) pa_nil))))))))
 (pss_cons (ps_set (i := 3) sc__law_visits.nd rfl (Or.inl rfl) (pe_lst (pa_cons (pe_lst (pa_cons (pe_tup (pa_cons pe_str pa_nil)) (pa_cons (pe_tup (pa_cons pe_str pa_nil)) pa_nil))) (pa_cons (pe_lst (pa_cons (pe_tup (pa_cons pe_str (pa_cons pe_int pa_nil))) (pa_cons (pe_tup (pa_cons pe_str pa_nil)) (pa_cons (pe_tup (pa_cons pe_str (pa_cons pe_int pa_nil))) pa_nil)))) pa_nil))))
 (pss_cons (ps_expr (pe_bm PySem.F.plainAttrs_list PySem.F.slot_list_append PySem.F.type_list_append mt_append (pv 3) (pa_cons (pe_lst (pa_cons (pe_tup (pa_cons pe_str (pa_cons pe_str pa_nil))) (pa_cons (pe_tup (pa_cons pe_str pa_nil)) (pa_cons (pe_tup (pa_cons pe_str (pa_cons pe_str pa_nil))) pa_nil)))) pa_nil)))
 (Evl.pss_cut (ps_set (i := 2) sc__law_visits.nd rfl (Or.inl rfl) (pe_ix (ixl K) (pe_op op_cat (pv 3) (pe_lst (pa_cons (pv 2) (pa_cons (pv 2) pa_nil)))) (pe_k C__law_draw hr (by decide) rfl (pa_cons (pv 0) (pa_cons pe_int pa_nil))) (fun _ _ => rfl)))
 (pss_cons (ps_set (i := 4) sc__law_visits.nd rfl (Or.inl rfl) (pe_k C__law_draw hr (by decide) rfl (pa_cons (pv 0) (pa_cons (pe_callB (lnK K) rfl T.b_len (by decide +kernel) (pa_cons (pv 2) pa_nil)) pa_nil))))
 (pss_cons (ps_set (i := 5) sc__law_visits.nd rfl (Or.inl rfl) (pe_lst pa_nil))
 (pss_cons (ps_for PassesOwn.never rfl (pil K (pe_op op_cat (pe_slice (slK K) (pv 2) (po_some (pv 4)) po_none) (pe_slice (slK K) (pv 2) po_none (po_some (pv 4))))) (pg_name (i := 6) sc__law_visits.nd rfl (Or.inl rfl)) (pss_one (ps_if (pt_cmpR op_gt (pe_k C__law_draw hr (by decide) rfl (pa_cons (pv 0) (pa_cons pe_int pa_nil))) pe_int (nomark _)) (pss_one (ps_expr (pe_bm PySem.F.plainAttrs_list PySem.F.slot_list_append PySem.F.type_list_append mt_append (pv 5) (pa_cons (pe_tup (pa_cons (pv 6) (pa_cons (pe_ix (ixl K) (pv 1) (pe_k C__law_draw hr (by decide) rfl (pa_cons (pv 0) (pa_cons (pe_callB (lnK K) rfl T.b_len (by decide +kernel) (pa_cons (pv 1) pa_nil)) pa_nil))) (fun _ _ => rfl)) pa_nil))) pa_nil)))) pss_nil)))
 (pss_one (ps_ret (pv 5)))))))))), ?_⟩
    have two : ∀ {x y : V}, [x, y].length ≤ sizeLine := szl (by show 2 ≤ 100000; decide)
    have one : ∀ {x : V}, [x].length ≤ sizeLine := szl (by show 1 ≤ 100000; decide)
    refine ⟨two, fun p1 np1 => ?_⟩
    obtain ⟨H1, hH1, x0_1, h1⟩ := newH _ np1
    rw [hH1]
    clear hH1
    have f1 := np1
    refine ⟨two, fun p2 np2 => ?_⟩
    obtain ⟨H2, hH2, x1_2, h2⟩ := newH _ np2
    rw [hH2]
    clear hH2
    have x0_2 := x0_1.trans x1_2
    have f2 := ex_free x0_1 np2
    refine ⟨two, fun p3 np3 => ?_⟩
    obtain ⟨H3, hH3, x2_3, h3⟩ := newH _ np3
    rw [hH3]
    clear hH3
    have x0_3 := x0_2.trans x2_3
    have x1_3 := x1_2.trans x2_3
    have f3 := ex_free x0_2 np3
    refine ⟨two, fun p4 np4 => ?_⟩
    obtain ⟨H4, hH4, x3_4, h4⟩ := newH _ np4
    rw [hH4]
    clear hH4
    have x0_4 := x0_3.trans x3_4
    have x1_4 := x1_3.trans x3_4
    have x2_4 := x2_3.trans x3_4
    have f4 := ex_free x0_3 np4
    refine ⟨two, fun p5 np5 => ?_⟩
    obtain ⟨H5, hH5, x4_5, h5⟩ := newH _ np5
    rw [hH5]
    clear hH5
    have x0_5 := x0_4.trans x4_5
    have x1_5 := x1_4.trans x4_5
    have x2_5 := x2_4.trans x4_5
    have x3_5 := x3_4.trans x4_5
    have f5 := ex_free x0_4 np5
    refine ⟨two, fun p6 np6 => ?_⟩
    obtain ⟨H6, hH6, x5_6, h6⟩ := newH _ np6
    rw [hH6]
    clear hH6
    have x0_6 := x0_5.trans x5_6
    have x1_6 := x1_5.trans x5_6
    have x2_6 := x2_5.trans x5_6
    have x3_6 := x3_5.trans x5_6
    have x4_6 := x4_5.trans x5_6
    have f6 := ex_free x0_5 np6
    refine ⟨szl (by show 6 ≤ 100000; decide), fun p7 np7 => ?_⟩
    obtain ⟨H7, hH7, x6_7, h7⟩ := newH _ np7
    rw [hH7]
    clear hH7
    have x0_7 := x0_6.trans x6_7
    have x1_7 := x1_6.trans x6_7
    have x2_7 := x2_6.trans x6_7
    have x3_7 := x3_6.trans x6_7
    have x4_7 := x4_6.trans x6_7
    have x5_7 := x5_6.trans x6_7
    have f7 := ex_free x0_6 np7
    refine ⟨one, fun p8 np8 => ?_⟩
    obtain ⟨H8, hH8, x7_8, h8⟩ := newH _ np8
    rw [hH8]
    clear hH8
    have x0_8 := x0_7.trans x7_8
    have x1_8 := x1_7.trans x7_8
    have x2_8 := x2_7.trans x7_8
    have x3_8 := x3_7.trans x7_8
    have x4_8 := x4_7.trans x7_8
    have x5_8 := x5_7.trans x7_8
    have x6_8 := x6_7.trans x7_8
    have f8 := ex_free x0_7 np8
    refine ⟨one, fun p9 np9 => ?_⟩
    obtain ⟨H9, hH9, x8_9, h9⟩ := newH _ np9
    rw [hH9]
    clear hH9
    have x0_9 := x0_8.trans x8_9
    have x1_9 := x1_8.trans x8_9
    have x2_9 := x2_8.trans x8_9
    have x3_9 := x3_8.trans x8_9
    have x4_9 := x4_8.trans x8_9
    have x5_9 := x5_8.trans x8_9
    have x6_9 := x6_8.trans x8_9
    have x7_9 := x7_8.trans x8_9
    have f9 := ex_free x0_8 np9
    refine ⟨two, fun p10 np10 => ?_⟩
    obtain ⟨H10, hH10, x9_10, h10⟩ := newH _ np10
    rw [hH10]
    clear hH10
    have x0_10 := x0_9.trans x9_10
    have x1_10 := x1_9.trans x9_10
    have x2_10 := x2_9.trans x9_10
    have x3_10 := x3_9.trans x9_10
    have x4_10 := x4_9.trans x9_10
    have x5_10 := x5_9.trans x9_10
    have x6_10 := x6_9.trans x9_10
    have x7_10 := x7_9.trans x9_10
    have x8_10 := x8_9.trans x9_10
    have f10 := ex_free x0_9 np10
    refine ⟨two, fun p11 np11 => ?_⟩
    obtain ⟨H11, hH11, x10_11, h11⟩ := newH _ np11
    rw [hH11]
    clear hH11
    have x0_11 := x0_10.trans x10_11
    have x1_11 := x1_10.trans x10_11
    have x2_11 := x2_10.trans x10_11
    have x3_11 := x3_10.trans x10_11
    have x4_11 := x4_10.trans x10_11
    have x5_11 := x5_10.trans x10_11
    have x6_11 := x6_10.trans x10_11
    have x7_11 := x7_10.trans x10_11
    have x8_11 := x8_10.trans x10_11
    have x9_11 := x9_10.trans x10_11
    have f11 := ex_free x0_10 np11
    refine ⟨one, fun p12 np12 => ?_⟩
    obtain ⟨H12, hH12, x11_12, h12⟩ := newH _ np12
    rw [hH12]
    clear hH12
    have x0_12 := x0_11.trans x11_12
    have x1_12 := x1_11.trans x11_12
    have x2_12 := x2_11.trans x11_12
    have x3_12 := x3_11.trans x11_12
    have x4_12 := x4_11.trans x11_12
    have x5_12 := x5_11.trans x11_12
    have x6_12 := x6_11.trans x11_12
    have x7_12 := x7_11.trans x11_12
    have x8_12 := x8_11.trans x11_12
    have x9_12 := x9_11.trans x11_12
    have x10_12 := x10_11.trans x11_12
    have f12 := ex_free x0_11 np12
    refine ⟨two, fun p13 np13 => ?_⟩
    obtain ⟨H13, hH13, x12_13, h13⟩ := newH _ np13
    rw [hH13]
    clear hH13
    have x0_13 := x0_12.trans x12_13
    have x1_13 := x1_12.trans x12_13
    have x2_13 := x2_12.trans x12_13
    have x3_13 := x3_12.trans x12_13
    have x4_13 := x4_12.trans x12_13
    have x5_13 := x5_12.trans x12_13
    have x6_13 := x6_12.trans x12_13
    have x7_13 := x7_12.trans x12_13
    have x8_13 := x8_12.trans x12_13
    have x9_13 := x9_12.trans x12_13
    have x10_13 := x10_12.trans x12_13
    have x11_13 := x11_12.trans x12_13
    have f13 := ex_free x0_12 np13
    refine ⟨szl (by show 3 ≤ 100000; decide), fun p14 np14 => ?_⟩
    obtain ⟨H14, hH14, x13_14, h14⟩ := newH _ np14
    rw [hH14]
    clear hH14
    have x0_14 := x0_13.trans x13_14
    have x1_14 := x1_13.trans x13_14
    have x2_14 := x2_13.trans x13_14
    have x3_14 := x3_13.trans x13_14
    have x4_14 := x4_13.trans x13_14
    have x5_14 := x5_13.trans x13_14
    have x6_14 := x6_13.trans x13_14
    have x7_14 := x7_13.trans x13_14
    have x8_14 := x8_13.trans x13_14
    have x9_14 := x9_13.trans x13_14
    have x10_14 := x10_13.trans x13_14
    have x11_14 := x11_13.trans x13_14
    have x12_14 := x12_13.trans x13_14
    have f14 := ex_free x0_13 np14
    refine ⟨two, fun p15 np15 => ?_⟩
    obtain ⟨H15, hH15, x14_15, h15⟩ := newH _ np15
    rw [hH15]
    clear hH15
    have x0_15 := x0_14.trans x14_15
    have x1_15 := x1_14.trans x14_15
    have x2_15 := x2_14.trans x14_15
    have x3_15 := x3_14.trans x14_15
    have x4_15 := x4_14.trans x14_15
    have x5_15 := x5_14.trans x14_15
    have x6_15 := x6_14.trans x14_15
    have x7_15 := x7_14.trans x14_15
    have x8_15 := x8_14.trans x14_15
    have x9_15 := x9_14.trans x14_15
    have x10_15 := x10_14.trans x14_15
    have x11_15 := x11_14.trans x14_15
    have x12_15 := x12_14.trans x14_15
    have x13_15 := x13_14.trans x14_15
    have f15 := ex_free x0_14 np15
    refine ⟨_, rfl, .inl ⟨rfl, _, SqLo h15⟩, two, fun p16 np16 => ?_⟩
    obtain ⟨H16, hH16, x15_16, h16⟩ := newH _ np16
    rw [hH16]
    clear hH16
    have x0_16 := x0_15.trans x15_16
    have x1_16 := x1_15.trans x15_16
    have x2_16 := x2_15.trans x15_16
    have x3_16 := x3_15.trans x15_16
    have x4_16 := x4_15.trans x15_16
    have x5_16 := x5_15.trans x15_16
    have x6_16 := x6_15.trans x15_16
    have x7_16 := x7_15.trans x15_16
    have x8_16 := x8_15.trans x15_16
    have x9_16 := x9_15.trans x15_16
    have x10_16 := x10_15.trans x15_16
    have x11_16 := x11_15.trans x15_16
    have x12_16 := x12_15.trans x15_16
    have x13_16 := x13_15.trans x15_16
    have x14_16 := x14_15.trans x15_16
    have f16 := ex_free x0_15 np16
    refine ⟨one, fun p17 np17 => ?_⟩
    obtain ⟨H17, hH17, x16_17, h17⟩ := newH _ np17
    rw [hH17]
    clear hH17
    have x0_17 := x0_16.trans x16_17
    have x1_17 := x1_16.trans x16_17
    have x2_17 := x2_16.trans x16_17
    have x3_17 := x3_16.trans x16_17
    have x4_17 := x4_16.trans x16_17
    have x5_17 := x5_16.trans x16_17
    have x6_17 := x6_16.trans x16_17
    have x7_17 := x7_16.trans x16_17
    have x8_17 := x8_16.trans x16_17
    have x9_17 := x9_16.trans x16_17
    have x10_17 := x10_16.trans x16_17
    have x11_17 := x11_16.trans x16_17
    have x12_17 := x12_16.trans x16_17
    have x13_17 := x13_16.trans x16_17
    have x14_17 := x14_16.trans x16_17
    have x15_17 := x15_16.trans x16_17
    have f17 := ex_free x0_16 np17
    refine ⟨two, fun p18 np18 => ?_⟩
    obtain ⟨H18, hH18, x17_18, h18⟩ := newH _ np18
    rw [hH18]
    clear hH18
    have x0_18 := x0_17.trans x17_18
    have x1_18 := x1_17.trans x17_18
    have x2_18 := x2_17.trans x17_18
    have x3_18 := x3_17.trans x17_18
    have x4_18 := x4_17.trans x17_18
    have x5_18 := x5_17.trans x17_18
    have x6_18 := x6_17.trans x17_18
    have x7_18 := x7_17.trans x17_18
    have x8_18 := x8_17.trans x17_18
    have x9_18 := x9_17.trans x17_18
    have x10_18 := x10_17.trans x17_18
    have x11_18 := x11_17.trans x17_18
    have x12_18 := x12_17.trans x17_18
    have x13_18 := x13_17.trans x17_18
    have x14_18 := x14_17.trans x17_18
    have x15_18 := x15_17.trans x17_18
    have x16_18 := x16_17.trans x17_18
    have f18 := ex_free x0_17 np18
    refine ⟨szl (by show 3 ≤ 100000; decide), fun p19 np19 => ?_⟩
    obtain ⟨H19, hH19, x18_19, h19⟩ := newH _ np19
    rw [hH19]
    clear hH19
    have x0_19 := x0_18.trans x18_19
    have x1_19 := x1_18.trans x18_19
    have x2_19 := x2_18.trans x18_19
    have x3_19 := x3_18.trans x18_19
    have x4_19 := x4_18.trans x18_19
    have x5_19 := x5_18.trans x18_19
    have x6_19 := x6_18.trans x18_19
    have x7_19 := x7_18.trans x18_19
    have x8_19 := x8_18.trans x18_19
    have x9_19 := x9_18.trans x18_19
    have x10_19 := x10_18.trans x18_19
    have x11_19 := x11_18.trans x18_19
    have x12_19 := x12_18.trans x18_19
    have x13_19 := x13_18.trans x18_19
    have x14_19 := x14_18.trans x18_19
    have x15_19 := x15_18.trans x18_19
    have x16_19 := x16_18.trans x18_19
    have x17_19 := x17_18.trans x18_19
    have f19 := ex_free x0_18 np19
    refine ⟨p15, _, _, rfl, rfl, x15_19 _ _ h15, szlt (by show 2 < 100000; decide), ?_⟩
    have n15 : ∀ {a : Addr} {o : HO}, H14 a = some o → a ≠ p15 := fun h => ne_of_none h np15
    have m15 : ∀ {a : Addr}, H19 a ≠ none → H15 a = none → a ≠ p15 := fun h g e => by rw [e, h15] at g; cases g
    obtain ⟨H20, hH20, x14_20, h20, k20⟩ : ∃ H20, upd H19 p15 (.lst ([V.ref p10, V.ref p14] ++ [V.ref p19])) = H20 ∧ Ex H14 H20 ∧ H20 p15 = some (.lst [V.ref p10, V.ref p14, V.ref p19]) ∧ ∀ a o, a ≠ p15 → H19 a = some o → H20 a = some o :=
      ⟨_, rfl, Ex.mut x14_19 np15, upd_same, fun a o ne h => by rw [upd_ne ne]; exact h⟩
    rw [hH20]
    clear hH20
    have x0_20 := x0_14.trans x14_20
    have ne16 : p16 ≠ p15 := fun e => by rw [e, h15] at np16; cases np16
    have ne17 : p17 ≠ p15 := fun e => by rw [e, x15_16 _ _ h15] at np17; cases np17
    have ne18 : p18 ≠ p15 := fun e => by rw [e, x15_17 _ _ h15] at np18; cases np18
    have ne19 : p19 ≠ p15 := fun e => by rw [e, x15_18 _ _ h15] at np19; cases np19
    -- _law_kids = (_law_some + [_law_kids, _law_kids])[..]
    refine Evl.q_cut (M := fun σ' H' => ∃ (kp : Addr) (xs : List V) (kl : List Kid) (sp : V), σ' = [some (.ref p), some (.ref q), some (.ref kp), some sp, none, none, none] ∧ Ex H H' ∧ H' kp = some (.lst xs) ∧ Paired (RKid (fr H H')) xs kl ∧ NoRep kl ∧ 0 < kl.length ∧ kl.length ≤ 10) ?_ ?_
    · refine ⟨_, rfl, _, rfl, _, rfl, two, fun p21 np21 => ?_⟩
      obtain ⟨H21, hH21, x20_21, h21⟩ := newH _ np21
      rw [hH21]
      clear hH21
      refine ⟨p15, p21, _, _, rfl, rfl, x20_21 _ _ h20, h21, szl (by show 5 ≤ 100000; decide), fun p22 np22 => ?_⟩
      obtain ⟨H22, hH22, x21_22, h22⟩ := newH _ np22
      rw [hH22]
      clear hH22
      have x20_22 := x20_21.trans x21_22
      have x14_22 := x14_20.trans x20_22
      have x0_22 := x0_20.trans x20_22
      refine ⟨_, rfl, p, 5, rfl, hp.ex x0_22, by decide, by decide, fun u u0 u1 => ?_⟩
      obtain ⟨x, hx, hm, _⟩ := at_some (xs := [V.ref p10, V.ref p14, V.ref p19] ++ [V.ref p7, V.ref p7]) u0 u1
      refine ⟨p22, _, _, _, rfl, rfl, SqLo h22, hx, ?_⟩
      have kk : ∀ {a : Addr} {kd : Kid}, H a = none → H14 a = some (.tup (kidV kd)) → RKid (fr H H22) (.ref a) kd := fun n h => ⟨_, rfl, fr_get n (x14_22 _ _ h)⟩
      have kn : ∀ {a : Addr} {kd : Kid}, H a = none → H19 a = some (.tup (kidV kd)) → a ≠ p15 → RKid (fr H H22) (.ref a) kd := fun n h ne => ⟨_, rfl, fr_get n (x20_22 _ _ (k20 _ _ ne h))⟩
      have r3 : Paired (RKid (fr H H22)) [V.ref p1, V.ref p2, V.ref p3, V.ref p4, V.ref p5, V.ref p6] kids3 :=
        .cons (kk f1 (x1_14 _ _ h1)) (.cons (kk f2 (x2_14 _ _ h2)) (.cons (kk f3 (x3_14 _ _ h3)) (.cons (kk f4 (x4_14 _ _ h4)) (.cons (kk f5 (x5_14 _ _ h5)) (.cons (kk f6 (x6_14 _ _ h6)) .nil)))))
      simp only [List.mem_append, List.mem_cons, List.not_mem_nil, or_false, or_self] at hm
      rcases hm with (rfl | rfl | rfl) | rfl
      · exact ⟨p10, _, kids0, _, rfl, x0_22, x14_22 _ _ (x10_14 _ _ h10), .cons (kk f8 (x8_14 _ _ h8)) (.cons (kk f9 (x9_14 _ _ h9)) .nil), nr0, by decide, by decide⟩
      · exact ⟨p14, _, kids1, _, rfl, x0_22, x14_22 _ _ h14, .cons (kk f11 (x11_14 _ _ h11)) (.cons (kk f12 (x12_14 _ _ h12)) (.cons (kk f13 (x13_14 _ _ h13)) .nil)), nr1, by decide, by decide⟩
      · exact ⟨p19, _, kids2, _, rfl, x0_22, x20_22 _ _ (k20 _ _ ne19 h19), .cons (kn f16 (x16_19 _ _ h16) ne16) (.cons (kn f17 (x17_19 _ _ h17) ne17) (.cons (kn f18 (x18_19 _ _ h18) ne18) .nil)), nr2, by decide, by decide⟩
      · exact ⟨p7, _, kids3, _, rfl, x0_22, x14_22 _ _ (x7_14 _ _ h7), r3, nr3, by decide, by decide⟩
    · clear x0_20 h20 k20
      rintro σ' H1 ⟨kp, xs, kl, sv, rfl, x0_1, hk, rk, nr, kl0, kl1⟩
      have lx := Paired.len rk
      -- _law_turn, _law_found
      refine ⟨_, rfl, _, rfl, _, _, rfl, .inl ⟨_, SqLo hk, rfl⟩, p, _, rfl, hp.ex x0_1, by omega, by omega, fun t t0 t1 => ?_⟩
      refine ⟨szl (by show 0 ≤ 100000; decide), fun p2 np2 => ?_⟩
      obtain ⟨H2, hH2, x1_2, h2⟩ := newH _ np2
      rw [hH2]
      clear hH2
      have nf : H p2 = none := ex_free x0_1 np2
      -- the loop
      refine ⟨_, rfl, _, rfl, _, rfl, kp, xs, rfl, SqLo (x1_2 _ _ hk), fun p3 np3 => ?_⟩
      obtain ⟨H3, hH3, x2_3, h3⟩ := newH _ np3
      rw [hH3]
      clear hH3
      refine ⟨_, rfl, _, rfl, _, rfl, kp, xs, rfl, SqLo (x2_3 _ _ (x1_2 _ _ hk)), fun p4 np4 => ?_⟩
      obtain ⟨H4, hH4, x3_4, h4⟩ := newH _ np4
      rw [hH4]
      clear hH4
      have c1 := cutV_length xs (some t) none
      have c2 := cutV_length xs none (some t)
      refine ⟨p3, p4, _, _, rfl, rfl, x3_4 _ _ h3, h4, szl (by omega), fun p5 np5 => ?_⟩
      obtain ⟨H5, hH5, x4_5, h5⟩ := newH _ np5
      rw [hH5]
      clear hH5
      have x2_5 := (x2_3.trans x3_4).trans x4_5
      have x1_5 := x1_2.trans x2_5
      have x0_5 := x0_1.trans x1_5
      have n5 : p5 ≠ p2 := fun e => by rw [e, (x2_3.trans x3_4) _ _ h2] at np5; cases np5
      rw [cut_lo t0 (by omega), cut_hi t0 (by omega)] at h5
      generalize hrot : kl.drop t.toNat ++ kl.take t.toNat = rot
      have nrr : NoRep rot := by rw [← hrot]; exact nr.rot _
      have rr : Paired (RKid (fr H H1)) (xs.drop t.toNat ++ xs.take t.toNat) rot := by
        rw [← hrot]
        exact Paired.app (Paired.drop _ rk) (Paired.take _ rk)
      generalize hys : xs.drop t.toNat ++ xs.take t.toNat = ys at h5 rr
      have ly := Paired.len rr
      have lr : rot.length ≤ 20 := by rw [← hrot, List.length_append, List.length_drop, List.length_take]; omega
      refine ⟨p5, rfl, ⟨_, SqLo h5⟩, for_list (K := K) (a := p5) (xs := ys) (fun i σ' H' => ∃ (sel : List Visit) (zs : List V) (v6 : Option V), σ' = [some (.ref p), some (.ref q), some (.ref kp), some sv, some (.int t), some (.ref p2), v6] ∧
          Ex H1 H' ∧ H' p5 = some (.lst ys) ∧ H' p2 = some (.lst zs) ∧ Paired (RVis (del (fr H H') p2)) zs sel ∧ (sel.map (·.1)).Sublist (rot.take i) ∧ ∀ x ∈ sel, x.2 ∈ pts) ?_ ?_ ?_ ?_⟩
      · exact ⟨[], [], none, rfl, x1_5, h5, x2_5 _ _ h2, .nil, by simp, fun x h => by cases h⟩
      · rintro i σ' H' _ ⟨sel, zs, v6, _, _, h, _⟩
        exact SqLo h
      · rintro i y σ' H' hi ⟨sel, zs, v6, rfl, e1, g5, g2, rv, sl, hpt⟩
        obtain ⟨kd, hkd, rkd⟩ := Paired.get rr hi
        have hil : i < rot.length := (List.getElem?_eq_some_iff.mp hkd).1
        have hzl : zs.length ≤ 20 := by
          have a1 := Paired.len rv
          have a2 := sl.length_le
          rw [List.length_map, List.length_take] at a2
          omega
        have tk : rot.take (i + 1) = rot.take i ++ [kd] := by
          rw [List.take_add_one, hkd]
          rfl
        refine ⟨_, rfl, p, 4, rfl, (hp.ex x0_1).ex e1, by decide, by decide, fun u u0 u1 => ⟨_, _, rfl, rfl, _, rfl, if_b (fun _ => ?_) (fun _ => ?_)⟩⟩
        · -- append
          refine ⟨_, rfl, .inl ⟨rfl, _, SqLo g2⟩, _, rfl, _, rfl, _, rfl, _, rfl, _, _, rfl, .inl ⟨_, SqLo (e1 _ _ (x0_1 _ _ hq)), rfl⟩, p, _, rfl, (hp.ex x0_1).ex e1, by rw [List.length_map]; omega, by rw [List.length_map]; omega, fun j j0 j1 => ?_⟩
          obtain ⟨x, hx, hm, _⟩ := at_some (xs := pts.map V.str) j0 j1
          obtain ⟨pt, hpm, rfl⟩ := List.mem_map.mp hm
          refine ⟨q, _, _, _, rfl, rfl, SqLo (e1 _ _ (x0_1 _ _ hq)), hx, two, fun p6 np6 => ?_⟩
          obtain ⟨H6, hH6, e6, h6⟩ := newH _ np6
          rw [hH6]
          clear hH6
          have n6 : p6 ≠ p2 := fun e => by rw [e, g2] at np6; cases np6
          refine ⟨p2, zs, _, rfl, rfl, e6 _ _ g2, szlt (by omega), ?_⟩
          refine ⟨sel ++ [(kd, pt)], zs ++ [.ref p6], _, rfl, Ex.mut (e1.trans e6) np2, up_ne (e6 _ _ g5) n5, upd_same, ?_, ?_, ?_⟩
          · refine Paired.app (Paired.imp (fun _ _ r => RVis.ex (del_grow_fr nf e6) r) rv) (.cons ⟨p6, y, rfl, ?_, ?_⟩ .nil)
            · exact del_get (fr_get (ex_free (x0_1.trans e1) np6) (up_ne h6 n6)) n6
            · exact RKid.ex (kid_keep nf np2 (e1.trans e6)) rkd
          · rw [List.map_append, tk]
            exact sl.append (List.Sublist.refl _)
          · intro x hx
            rcases List.mem_append.mp hx with z | z
            · exact hpt x z
            · have e : x = (kd, pt) := by simpa using z
              rw [e]
              exact hpm
        · refine ⟨sel, zs, _, rfl, e1, g5, g2, rv, ?_, hpt⟩
          rw [tk]
          exact sl.trans (List.sublist_append_left _ _)
      · rintro σ' H' ⟨sel, zs, v6, rfl, e1, g5, g2, rv, sl, hpt⟩
        refine ⟨_, rfl, k _ _ sel (x0_1.trans e1) ⟨p2, zs, rfl, fr_get nf g2, Paired.imp (fun _ _ r => RVis.ex ex_del r) rv⟩ ⟨nrr.sub ?_ ?_, hpt, ?_⟩⟩
        · exact (sl.trans (List.take_sublist _ _)).nodup nrr.nd
        · intro z hz
          exact (sl.trans (List.take_sublist _ _)).subset hz
        · have q := sl.length_le
          rw [List.length_map, List.length_take] at q
          omega
end
end K44

namespace K44
open PySem PySem.Spec L2 LW
open Evl (Ex)
/-! ### the points' names -/
def words : List Str := ["top", "p", "left", "zz", "abcdefgh", "q", "r", "s", "t", "u", "v", "y", "aa"]
def wd (f s i : Nat) : Str := words.getD ((f + (s + 1) * i) % 13) ""
def ptsOf (f s n : Nat) : List Str := (List.range n).map (wd f s)
theorem words_inj : ∀ a < 13, ∀ b < 13, words.getD a "" = words.getD b "" → a = b := by decide +kernel
theorem words_ok : ∀ a < 13, SOk (words.getD a "") ∧ words.getD a "" ≠ "nobody" := by decide +kernel
theorem nd_all : ∀ f < 13, ∀ s < 12, ((List.range 12).map fun j => (f + (s + 1) * j) % 13).Nodup := by decide +kernel
theorem wd_at (f s i : Nat) : atI (words.map V.str) (((f : Int) + ((1 : Int) + (s : Int)) * ((0 : Int) + (i : Int))) % 13) = some (V.str (wd f s i)) := by
  have e : ((f : Int) + ((1 : Int) + (s : Int)) * ((0 : Int) + (i : Int))) % 13 = (((f + (s + 1) * i) % 13 : Nat) : Int) := by
    rw [Int.zero_add, Int.add_comm 1]
    exact_mod_cast rfl
  rw [e]
  refine atI_nat ?_
  have h : (f + (s + 1) * i) % 13 < 13 := Nat.mod_lt _ (by decide)
  unfold wd
  generalize (f + (s + 1) * i) % 13 = j at h
  rw [List.getElem?_map, List.getD_eq_getElem?_getD]
  have hl : words.length = 13 := rfl
  rw [List.getElem?_eq_getElem (by omega)]
  rfl
theorem pts_nd {f s n : Nat} (hf : f < 13) (hs : s < 12) (hn : n ≤ 12) : (ptsOf f s n).Nodup := by
  have h := nd_all f hf s hs
  have e : ptsOf f s n = (((List.range 12).map fun j => (f + (s + 1) * j) % 13).take n).map fun j => words.getD j "" := by
    unfold ptsOf
    rw [← List.map_take, List.take_range, Nat.min_eq_left hn, List.map_map]
    rfl
  rw [e]
  have h2 : (((List.range 12).map fun j => (f + (s + 1) * j) % 13).take n).Nodup := h.sublist (List.take_sublist _ _)
  have h3 : ∀ x ∈ (((List.range 12).map fun j => (f + (s + 1) * j) % 13).take n), x < 13 := fun x hx => by
    obtain ⟨j, _, rfl⟩ := List.mem_map.mp (List.mem_of_mem_take hx)
    exact Nat.mod_lt _ (by decide)
  generalize (((List.range 12).map fun j => (f + (s + 1) * j) % 13).take n) = l at h2 h3
  clear h e
  induction l with
  | nil => exact List.nodup_nil
  | cons a l ih =>
    rw [List.map_cons, List.nodup_cons]
    rw [List.nodup_cons] at h2
    refine ⟨fun hm => ?_, ih h2.2 fun x hx => h3 x (List.mem_cons_of_mem _ hx)⟩
    obtain ⟨b, hb, eb⟩ := List.mem_map.mp hm
    have := words_inj b (h3 b (List.mem_cons_of_mem _ hb)) a (h3 a List.mem_cons_self) eb
    subst this
    exact h2.1 hb
theorem pts_ok {f s n : Nat} : ∀ x ∈ ptsOf f s n, SOk x ∧ x ≠ "nobody" := fun x hx => by
  obtain ⟨j, _, rfl⟩ := List.mem_map.mp hx
  exact words_ok _ (Nat.mod_lt _ (by decide))
/-! ### programs -/
def CaseOk (pts : List Str) (c : Case) : Prop := c.t.Ok ∧ (∀ s, c.w = some s → SOk s) ∧ VisOk pts c.vs
structure ProgOk (rows : List Row) : Prop where
  nd : (rows.map (·.1)).Nodup
  ne : 0 < rows.length
  le : rows.length ≤ 12
  pt : ∀ x ∈ rows.map (·.1), SOk x ∧ x ≠ "nobody"
  cs : ∀ r ∈ rows, r.2.length ≤ 6 ∧ ∀ c ∈ r.2, CaseOk (rows.map (·.1)) c
section
variable {P : Program} {w : World} {K : PySem.W.Frag} {mg : Str → Option Value} {base : Heap}
def spProgram : Sp := fun vs H Q _ => ∃ (p : Addr) (m : Int), vs = [.ref p, .int m] ∧ Pool H p ∧ 0 < m ∧ m ≤ 12 ∧ ∀ v H' rows, Ex H H' → RProg (fr H H') v rows → ProgOk rows → Q v H'
theorem sc__law_program : FnScope ["_law_pool", "_law_most", "_law_words", "_law_many", "_law_first", "_law_step", "_law_k", "_law_points", "_law_found", "_law_point", "_law_cases", "_law_word"] ["_law_pool", "_law_most"] (defScope s__law_program) := ⟨rfl, rfl, rfl, by decide +kernel, rfl, by decide +kernel, by decide +kernel⟩
theorem bi__law_program : BindsEq "_law_program" s__law_program ["_law_pool", "_law_most"] := fun _ _ _ _ _ _ us hl => match us, hl with | [_, _], _ => rfl
theorem ok_program (F : Df K mg "_law_program" s__law_program) (T : Txt K mg) (C__law_draw : Cal P w K mg base CX0 1 "_law_draw" spDraw) (C__law_test : Cal P w K mg base CX0 2 "_law_test" spTest)
    (C__law_visits : Cal P w K mg base CX0 2 "_law_visits" spVisits) : Cal P w K mg base CX0 3 "_law_program" spProgram := by
  refine cal0 F sc__law_program bi__law_program (fun vs H Q E h => ?_) (fun f cdv A outer s H vs Q E hr h => ?_)
  · obtain ⟨p, m, rfl, _⟩ := h
    rfl
  · obtain ⟨p, m, rfl, hp, m0, m1, k⟩ := h
    refine ⟨_, (pss_cons (ps_set (i := 2) sc__law_program.nd rfl (Or.inr rfl) (pe_lst (pa_cons pe_str (pa_cons pe_str (pa_cons pe_str (pa_cons pe_str (pa_cons pe_str (pa_cons pe_str (pa_cons pe_str (pa_cons pe_str (pa_cons pe_str (pa_cons pe_str (pa_cons pe_str (pa_cons pe_str (pa_cons pe_str pa_nil)))))))))))))))
 (pss_cons (ps_set (i := 3) sc__law_program.nd rfl (Or.inl rfl) (pe_op op_add pe_int (pe_k C__law_draw hr (by decide) rfl (pa_cons (pv 0) (pa_cons (pv 1) pa_nil)))))
 (pss_cons (ps_set (i := 4) sc__law_program.nd rfl (Or.inr rfl) (pe_k C__law_draw hr (by decide) rfl (pa_cons (pv 0) (pa_cons pe_int pa_nil))))
 (pss_cons (ps_set (i := 5) sc__law_program.nd rfl (Or.inr rfl) (pe_op op_add pe_int (pe_k C__law_draw hr (by decide) rfl (pa_cons (pv 0) (pa_cons pe_int pa_nil)))))
 (pss_cons (ps_setLc (i := 7) (own := [("_law_k", 6)]) (by rfl) sc__law_program.nd rfl rfl (sw_true rfl rfl rfl (by decide +kernel)) (pi_range1 rfl T.b_range (pa_cons (pv 3) pa_nil)) (blkOk_by (own := [("_law_k", 6)]) (N := ["_law_pool", "_law_most", "_law_words", "_law_many", "_law_first", "_law_step", "_law_k", "_law_points", "_law_found", "_law_point", "_law_cases", "_law_word"]) (sc := defScope s__law_program) (by decide +kernel)) (fun _ _ _ _ _ => (pg_name (i := 6) sc__law_program.nd rfl (Or.inl rfl))) (fun _ _ _ _ _ => pts_nil) (fun _ _ _ _ _ => (pe_ix (ixl K) (pv 2) (pe_op op_mod (pe_op op_add (pv 4) (pe_op op_mul (pv 5) (pv 6))) pe_int) (fun _ _ => rfl))))
 (pss_cons (ps_set (i := 8) sc__law_program.nd rfl (Or.inl rfl) (pe_lst pa_nil))
 (pss_cons (ps_for PassesOwn.never rfl (pil K (pv 7)) (pg_name (i := 9) sc__law_program.nd rfl (Or.inl rfl)) (pss_cons (ps_set (i := 10) sc__law_program.nd rfl (Or.inl rfl) (pe_lst pa_nil))
 (pss_cons (ps_for PassesOwn.never rfl (pi_range1 rfl T.b_range (pa_cons (pe_k C__law_draw hr (by decide) rfl (pa_cons (pv 0) (pa_cons pe_int pa_nil))) pa_nil)) (pg_name (i := 6) sc__law_program.nd rfl (Or.inl rfl)) (pss_cons (ps_set (i := 11) sc__law_program.nd rfl (Or.inl rfl) (pe_ix (ixl K) (pe_lst (pa_cons pe_non (pa_cons pe_str (pa_cons pe_str (pa_cons pe_str pa_nil))))) (pe_k C__law_draw hr (by decide) rfl (pa_cons (pv 0) (pa_cons pe_int pa_nil))) (fun _ _ => rfl)))
 (pss_one (ps_expr (pe_bm PySem.F.plainAttrs_list PySem.F.slot_list_append PySem.F.type_list_append mt_append (pv 10) (pa_cons (pe_tup (pa_cons (pe_k C__law_test hr (by decide) rfl (pa_cons (pv 0) pa_nil)) (pa_cons (pv 11) (pa_cons (pe_k C__law_visits hr (by decide) rfl (pa_cons (pv 0) (pa_cons (pv 7) pa_nil))) pa_nil)))) pa_nil))))))
 (pss_one (ps_expr (pe_bm PySem.F.plainAttrs_list PySem.F.slot_list_append PySem.F.type_list_append mt_append (pv 8) (pa_cons (pe_tup (pa_cons (pv 9) (pa_cons (pv 10) pa_nil))) pa_nil)))))))
 (pss_one (ps_ret (pv 8)))))))))), ?_⟩
    refine ⟨szl (by show 13 ≤ 100000; decide), fun p1 np1 => ?_⟩
    obtain ⟨H1, hH1, x0_1, h1⟩ := newH _ np1
    rw [hH1]
    clear hH1
    have f1 := np1
    refine ⟨_, rfl, _, rfl, p, m, rfl, hp.ex x0_1, m0, by omega, fun n n0 n1 => ⟨_, _, rfl, rfl, ?_⟩⟩
    refine ⟨_, rfl, p, 13, rfl, hp.ex x0_1, by decide, by decide, fun fi f0 f1' => ?_⟩
    refine ⟨_, rfl, p, 12, rfl, hp.ex x0_1, by decide, by decide, fun st s0 s1 => ⟨_, _, rfl, rfl, ?_⟩⟩
    obtain ⟨fN, rfl⟩ : ∃ x : Nat, fi = (x : Int) := ⟨fi.toNat, by omega⟩
    obtain ⟨sN, rfl⟩ : ∃ x : Nat, st = (x : Int) := ⟨st.toNat, by omega⟩
    obtain ⟨nN, rfl⟩ : ∃ x : Nat, n = (x : Int) := ⟨n.toNat, by omega⟩
    -- _law_points
    have e1 : ((1 : Int) + (nN : Int)).toNat = nN + 1 := by omega
    refine ⟨_, rfl, _, rfl, by omega, by omega, fun p2 np2 => lc_range (lo := 0) (n := ((1 : Int) + (nN : Int)).toNat) (fun i H' => Ex H1 H' ∧ H' p2 = some (.lst ((ptsOf fN sN i).map V.str))) ?_ ?_ ?_⟩
    · exact ⟨Ex.new np2, upd_same⟩
    · rintro i H' hi ⟨ex, hD⟩
      refine ⟨rfl, _, rfl, _, rfl, _, rfl, _, rfl, _, _, rfl, rfl, .inl ⟨by omega, by omega⟩, _, _, rfl, rfl, _, _, rfl, rfl, (by show (0 : Int) < 13; decide), p1, _, _, _, rfl, rfl, SqLo (ex _ _ h1), wd_at fN sN i, _, hD, ?_, Ex.mut ex np2, ?_⟩
      · unfold ptsOf
        rw [List.length_map, List.length_map, List.length_range]
        exact szlt (by omega)
      · rw [upd_same]
        unfold ptsOf
        rw [List.range_succ, List.map_append, List.map_append]
        rfl
    · rintro H2 ⟨x1_2, h2⟩
      rw [e1] at h2
      have x0_2 := x0_1.trans x1_2
      generalize hpts : ptsOf fN sN (nN + 1) = pts at h2
      have pl : pts.length = nN + 1 := by rw [← hpts]; unfold ptsOf; rw [List.length_map, List.length_range]
      have pnd : pts.Nodup := by rw [← hpts]; exact pts_nd (by omega) (by omega) (by omega)
      have pok : ∀ x ∈ pts, SOk x ∧ x ≠ "nobody" := by rw [← hpts]; exact pts_ok
      -- _law_found
      refine ⟨szl (by show 0 ≤ 100000; decide), fun p3 np3 => ?_⟩
      obtain ⟨H3, hH3, x2_3, h3⟩ := newH _ np3
      rw [hH3]
      clear hH3
      have x0_3 := x0_2.trans x2_3
      refine ⟨_, rfl, p2, rfl, ⟨_, SqLo (x2_3 _ _ h2)⟩, for_list (K := K) (a := p2) (xs := pts.map V.str) (fun i σ' H' => ∃ (rows : List Row) (zs : List V) (v6 v9 v10 v11 : Option V), σ' = [some (.ref p), some (.int m), some (.ref p1), some (.int ((1 : Int) + (nN : Int))), some (.int (fN : Int)), some (.int ((1 : Int) + (sN : Int))), v6, some (.ref p2), some (.ref p3), v9, v10, v11] ∧
          Ex H2 H' ∧ Dm H3 H' ∧ H' p3 = some (.lst zs) ∧ Paired (RRow (fr H3 H')) zs rows ∧ rows.map (·.1) = pts.take i ∧ ∀ r ∈ rows, r.2.length ≤ 6 ∧ ∀ c ∈ r.2, CaseOk pts c) ?_ ?_ ?_ ?_⟩
      · exact ⟨[], [], none, none, none, none, rfl, x2_3, Dm.refl _, h3, .nil, by simp, fun r h => by cases h⟩
      · rintro i σ' H' _ ⟨rows, zs, v6, v9, v10, v11, _, ex, _⟩
        exact SqLo (ex _ _ h2)
      · rintro i y σ' H4 hi ⟨rows, zs, v6, v9, v10, v11, rfl, x2_4, dm4, g3, rr, em, hc⟩
        obtain ⟨pt, hpt, rfl⟩ : ∃ pt, pts[i]? = some pt ∧ y = V.str pt := by
          rw [List.getElem?_map] at hi
          cases e : pts[i]? with
          | none => rw [e] at hi; cases hi
          | some z => rw [e] at hi; exact ⟨z, rfl, (Option.some.inj hi).symm⟩
        have tk : pts.take (i + 1) = pts.take i ++ [pt] := by rw [List.take_add_one, hpt]; rfl
        have hzl : zs.length ≤ 12 := by
          have a1 := Paired.len rr
          have a2 : rows.length = (pts.take i).length := by rw [← em, List.length_map]
          rw [List.length_take] at a2
          omega
        have x0_4 := x0_2.trans x2_4
        refine ⟨szl (by show 0 ≤ 100000; decide), fun p5 np5 => ?_⟩
        obtain ⟨H5, hH5, x4_5, h5⟩ := newH _ np5
        rw [hH5]
        clear hH5
        have n35 : p3 ≠ p5 := fun e => by rw [← e, g3] at np5; cases np5
        refine ⟨_, rfl, p, 7, rfl, (hp.ex x0_4).ex x4_5, by decide, by decide, fun mc c0 c1 => ⟨mc, rfl, by omega, by omega, for_range (lo := 0) (n := mc.toNat) (fun j σ' H' => ∃ (cs : List Case) (ys : List V) (v6 v11 : Option V), σ' = [some (.ref p), some (.int m), some (.ref p1), some (.int ((1 : Int) + (nN : Int))), some (.int (fN : Int)), some (.int ((1 : Int) + (sN : Int))), v6, some (.ref p2), some (.ref p3), some (.str pt), some (.ref p5), v11] ∧
            Ex H4 H' ∧ Dm H5 H' ∧ H' p5 = some (.lst ys) ∧ Paired (RCase (fr H5 H')) ys cs ∧ cs.length = j ∧ ∀ c ∈ cs, CaseOk pts c) ?_ ?_ ?_⟩⟩
        · exact ⟨[], [], v6, v11, rfl, x4_5, Dm.refl _, h5, .nil, rfl, fun c h => by cases h⟩
        · rintro j σ' H6 hj ⟨cs, ys, v6, v11, rfl, x4_6, dm6, g5, rc, ej, hcs⟩
          have x0_6 := x0_4.trans x4_6
          refine ⟨szl (by show 4 ≤ 100000; decide), fun p7 np7 => ?_⟩
          obtain ⟨H7, hH7, x6_7, h7⟩ := newH _ np7
          rw [hH7]
          clear hH7
          have x0_7 := x0_6.trans x6_7
          refine ⟨_, rfl, p, 4, rfl, hp.ex x0_7, by decide, by decide, fun u u0 u1 => ?_⟩
          obtain ⟨x, hx, hm, _⟩ := at_some (xs := [V.non, V.str "w", V.str "x", V.str "abcdefgh"]) u0 u1
          obtain ⟨wo, rfl, hwo⟩ : ∃ wo : Option Str, x = os wo ∧ ∀ s, wo = some s → SOk s := by
            simp only [List.mem_cons, List.not_mem_nil, or_false] at hm
            rcases hm with rfl | rfl | rfl | rfl
            · exact ⟨none, rfl, fun s e => by cases e⟩
            · exact ⟨some "w", rfl, fun s e => by cases e; decide +kernel⟩
            · exact ⟨some "x", rfl, fun s e => by cases e; decide +kernel⟩
            · exact ⟨some "abcdefgh", rfl, fun s e => by cases e; decide +kernel⟩
          refine ⟨p7, _, _, _, rfl, rfl, SqLo h7, hx, ?_⟩
          refine ⟨_, rfl, .inl ⟨rfl, _, SqLo (x6_7 _ _ g5)⟩, _, rfl, p, rfl, hp.ex x0_7, fun tv H8 t x7_8 rt tok => ?_⟩
          have x0_8 := x0_7.trans x7_8
          refine ⟨_, rfl, _, rfl, _, rfl, p, p2, pts, rfl, hp.ex x0_8, (x2_4.trans (x4_6.trans (x6_7.trans x7_8))) _ _ h2, by omega, by omega, fun lv H9 l x8_9 rl vok => ?_⟩
          refine ⟨szl (by show 3 ≤ 100000; decide), fun p10 np10 => ?_⟩
          obtain ⟨H10, hH10, x9_10, h10⟩ := newH _ np10
          rw [hH10]
          clear hH10
          have x6_9 := (x6_7.trans x7_8).trans x8_9
          have x6_10 := x6_9.trans x9_10
          have dm9 : Dm H5 H9 := dm6.trans (dm_ex x6_9)
          have hyl : ys.length ≤ 10 := by have := Paired.len rc; omega
          refine ⟨p5, ys, _, rfl, rfl, x6_10 _ _ g5, szlt (by omega), ?_⟩
          have n10 : H5 p10 = none := dm9 _ np10
          refine ⟨cs ++ [⟨t, wo, l⟩], ys ++ [.ref p10], _, _, rfl, Ex.mut (x4_6.trans x6_10) np5, dm_upd (dm9.trans (dm_ex x9_10)), upd_same, ?_, by rw [List.length_append, ej]; rfl, ?_⟩
          · refine Paired.app (Paired.imp (fun _ _ r => RCase.ex ((fr_mono x6_10).trans (fr_upd h5)) r) rc) (.cons ⟨p10, tv, lv, rfl, ?_, ?_, ?_⟩ .nil)
            · exact fr_get n10 (up_ne h10 (fun e => by rw [e, h5] at n10; cases n10))
            · exact RT.ex (((fr_base (dm6.trans (dm_ex x6_7))).trans (fr_mono (x8_9.trans x9_10))).trans (fr_upd h5)) rt
            · exact RVisL.ex (((fr_base (dm6.trans (dm_ex (x6_7.trans x7_8)))).trans (fr_mono x9_10)).trans (fr_upd h5)) rl
          · intro c hc
            rcases List.mem_append.mp hc with z | z
            · exact hcs c z
            · have e : c = ⟨t, wo, l⟩ := by simpa using z
              rw [e]
              exact ⟨tok, hwo, vok⟩
        · rintro σ' H6 ⟨cs, ys, v6, v11, rfl, x4_6, dm6, g5, rc, ej, hcs⟩
          -- _law_found.append((_law_point, _law_cases))
          refine ⟨_, rfl, .inl ⟨rfl, _, SqLo (x4_6 _ _ g3)⟩, _, rfl, _, rfl, szl (by show 2 ≤ 100000; decide), fun p7 np7 => ?_⟩
          obtain ⟨H7, hH7, x6_7, h7⟩ := newH _ np7
          rw [hH7]
          clear hH7
          have x4_7 := x4_6.trans x6_7
          refine ⟨p3, zs, _, rfl, rfl, x4_7 _ _ g3, szlt (by omega), ?_⟩
          have d36 : Dm H3 H6 := dm4.trans (dm_ex x4_6)
          have n7 : H3 p7 = none := d36 _ np7
          have n5 : H3 p5 = none := dm4 _ np5
          refine ⟨rows ++ [(pt, cs)], zs ++ [.ref p7], _, _, _, _, rfl, Ex.mut (x2_4.trans x4_7) np3, dm_upd (d36.trans (dm_ex x6_7)), upd_same, ?_, ?_, ?_⟩
          · refine Paired.app (Paired.imp (fun _ _ r => RRow.ex ((fr_mono x4_7).trans (fr_upd h3)) r) rr) (.cons ⟨p7, .ref p5, rfl, ?_, p5, ys, rfl, ?_, ?_⟩ .nil)
            · exact fr_get n7 (up_ne h7 (fun e => by rw [e, h3] at n7; cases n7))
            · exact fr_get n5 (up_ne (x6_7 _ _ g5) (Ne.symm n35))
            · exact Paired.imp (fun _ _ r => RCase.ex (((fr_base (dm4.trans (dm_ex x4_5))).trans (fr_mono x6_7)).trans (fr_upd h3)) r) rc
          · rw [List.map_append, em, tk]
            rfl
          · intro r hr'
            rcases List.mem_append.mp hr' with z | z
            · exact hc r z
            · have e : r = (pt, cs) := by simpa using z
              rw [e]
              exact ⟨by show cs.length ≤ 6; omega, hcs⟩
      · rintro σ' H4 ⟨rows, zs, v6, v9, v10, v11, rfl, x2_4, dm4, g3, rr, em, hc⟩
        rw [List.length_map, List.take_length] at em
        have rl : rows.length = nN + 1 := by rw [← pl, ← em, List.length_map]
        refine ⟨_, rfl, k _ _ rows (x0_2.trans x2_4) ⟨p3, zs, rfl, fr_get (ex_free x0_2 np3) g3, Paired.imp (fun _ _ r => RRow.ex (fr_base (dm_ex x0_3)) r) rr⟩ ⟨by rw [em]; exact pnd, by omega, by omega, by rw [em]; exact pok, by rw [em]; exact hc⟩⟩
end
end K44

namespace K44
open PySem PySem.Spec L2 LW
open Evl (Ex)
theorem del_get2 {H : Hp} {p q a : Addr} {o : HO} (h : H a = some o) (n1 : a ≠ p) (n2 : a ≠ q) : del (del H p) q a = some o := del_get (del_get h n1) n2
section
variable {P : Program} {w : World} {K : PySem.W.Frag} {mg : Str → Option Value} {base : Heap}
/-! ### _law_program_copy -/
def spCopy : Sp := fun vs H Q _ => ∃ (v : V) (rows : List Row), vs = [v] ∧ RProg H v rows ∧ rows.length ≤ 12 ∧ (∀ r ∈ rows, r.2.length ≤ 6) ∧ ∀ u H', Ex H H' → RProg H' u rows → Q u H'
theorem sc__law_program_copy : FnScope ["_law_program_here", "_law_found", "_law_row", "_law_one"] ["_law_program_here"] (defScope s__law_program_copy) := ⟨rfl, rfl, rfl, by decide +kernel, rfl, by decide +kernel, by decide +kernel⟩
theorem bi__law_program_copy : BindsEq "_law_program_copy" s__law_program_copy ["_law_program_here"] := fun _ _ _ _ _ _ us hl => match us, hl with | [_], _ => rfl
theorem ok_copy (F : Df K mg "_law_program_copy" s__law_program_copy) (T : Txt K mg) : Cal P w K mg base CX0 1 "_law_program_copy" spCopy := by
  refine cal0 F sc__law_program_copy bi__law_program_copy (fun vs H Q E h => ?_) (fun f cdv A outer s H vs Q E hr h => ?_)
  · obtain ⟨v, rows, rfl, _⟩ := h
    rfl
  · obtain ⟨v, rows, rfl, hR, hl, hcl, k⟩ := h
    obtain ⟨a, xs, rfl, ha, rr⟩ := hR
    refine ⟨_, (pss_cons (ps_set (i := 1) sc__law_program_copy.nd rfl (Or.inl rfl) (pe_lst pa_nil))
 (pss_cons (ps_for PassesOwn.never rfl (pil K (pv 0)) (pg_name (i := 2) sc__law_program_copy.nd rfl (Or.inl rfl)) (pss_one (ps_expr (pe_bm PySem.F.plainAttrs_list PySem.F.slot_list_append PySem.F.type_list_append mt_append (pv 1) (pa_cons (pe_tup (pa_cons (pe_ix (ixt K) (pv 2) pe_int (fun _ _ => rfl)) (pa_cons (pe_lc (own := [("_law_one", 3)]) (by rfl) sc__law_program_copy.nd (pil K (pe_ix (ixt K) (pv 2) pe_int (fun _ _ => rfl))) (blkOk_by (own := [("_law_one", 3)]) (N := ["_law_program_here", "_law_found", "_law_row", "_law_one"]) (sc := defScope s__law_program_copy) (by decide +kernel)) (fun _ _ _ _ _ => (pg_name (i := 3) sc__law_program_copy.nd rfl (Or.inl rfl))) (fun _ _ _ _ _ => pts_nil) (fun _ _ _ _ _ => (pe_tup (pa_cons (pe_ix (ixt K) (pv 3) pe_int (fun _ _ => rfl)) (pa_cons (pe_ix (ixt K) (pv 3) pe_int (fun _ _ => rfl)) (pa_cons (pe_callTy (lofK K) rfl T.b_list (by decide +kernel) (pa_cons (pe_ix (ixt K) (pv 3) pe_int (fun _ _ => rfl)) pa_nil)) pa_nil)))))) pa_nil))) pa_nil)))))
 (pss_one (ps_ret (pv 1))))), ?_⟩
    refine ⟨szl (by show 0 ≤ 100000; decide), fun p1 np1 => ?_⟩
    obtain ⟨H1, hH1, x0_1, h1⟩ := newH _ np1
    rw [hH1]
    clear hH1
    have f1 := np1
    have lx := Paired.len rr
    refine ⟨_, rfl, a, rfl, ⟨_, SqLo (x0_1 _ _ ha)⟩, for_list (K := K) (a := a) (xs := xs) (fun i σ' H' => ∃ (zs : List V) (v2 v3 : Option V), σ' = [some (.ref a), some (.ref p1), v2, v3] ∧ Ex H H' ∧ H' p1 = some (.lst zs) ∧ Paired (RRow (del H' p1)) zs (rows.take i)) ?_ ?_ ?_ ?_⟩
    · exact ⟨[], none, none, rfl, x0_1, h1, by rw [List.take_zero]; exact .nil⟩
    · rintro i σ' H' _ ⟨zs, v2, v3, _, ex, _⟩
      exact SqLo (ex _ _ ha)
    · rintro i y σ' H2 hi ⟨zs, v2, v3, rfl, x0_2, g1, rz⟩
      obtain ⟨⟨pt, cs⟩, hrow, a2, l, rfl, h2, a3, ys, rfl, h3, rc⟩ := Paired.get rr hi
      have hcs : cs.length ≤ 6 := hcl (pt, cs) (List.mem_of_getElem? hrow)
      have ly := Paired.len rc
      have tk : rows.take (i + 1) = rows.take i ++ [(pt, cs)] := by rw [List.take_add_one, hrow]; rfl
      have hzl : zs.length ≤ 12 := by
        have q := Paired.len rz
        rw [List.length_take] at q
        omega
      -- _law_found.append((_law_row[0], [..]))
      refine ⟨_, rfl, .inl ⟨rfl, _, SqLo g1⟩, _, rfl, a2, _, _, _, rfl, rfl, SqTo (x0_2 _ _ h2), rfl, _, rfl, a2, _, _, _, rfl, rfl, SqTo (x0_2 _ _ h2), rfl, a3, rfl, ⟨_, SqLo (x0_2 _ _ h3)⟩, fun p3 np3 =>
        lc_list (K := K) (a := a3) (xs := ys) (fun j H' => Ex H2 H' ∧ ∃ us, H' p3 = some (.lst us) ∧ Paired (RCase (del (del H' p1) p3)) us (cs.take j)) ?_ ?_ ?_ ?_⟩
      · exact ⟨Ex.new np3, [], upd_same, by rw [List.take_zero]; exact .nil⟩
      · rintro j H' _ ⟨ex, _⟩
        exact SqLo (ex _ _ (x0_2 _ _ h3))
      · rintro j y H4 hj ⟨x2_4, us, g3, ru⟩
        obtain ⟨c, hc, a4, tv, lv, rfl, h4, rt, a5, vl, rfl, h5, rvl⟩ := Paired.get rc hj
        have x0_4 := x0_2.trans x2_4
        have tkc : cs.take (j + 1) = cs.take j ++ [c] := by rw [List.take_add_one, hc]; rfl
        have hul : us.length ≤ 6 := by
          have q := Paired.len ru
          rw [List.length_take] at q
          omega
        refine ⟨rfl, _, rfl, a4, _, _, _, rfl, rfl, SqTo (x0_4 _ _ h4), rfl, _, rfl, a4, _, _, _, rfl, rfl, SqTo (x0_4 _ _ h4), rfl, _, rfl, a4, _, _, _, rfl, rfl, SqTo (x0_4 _ _ h4), rfl, a5, vl, rfl, .inl (SqLo (x0_4 _ _ h5)), fun p6 np6 => ?_⟩
        obtain ⟨H6, hH6, x4_6, h6⟩ := newH _ np6
        rw [hH6]
        clear hH6
        refine ⟨szl (by show 3 ≤ 100000; decide), fun p7 np7 => ?_⟩
        obtain ⟨H7, hH7, x6_7, h7⟩ := newH _ np7
        rw [hH7]
        clear hH7
        have x4_7 := x4_6.trans x6_7
        have x2_7 := x2_4.trans x4_7
        have g1' := x2_4 _ _ g1
        have n61 : p6 ≠ p1 := fun e => by rw [e, g1'] at np6; cases np6
        have n63 : p6 ≠ p3 := fun e => by rw [e, g3] at np6; cases np6
        have n71 : p7 ≠ p1 := fun e => by rw [e, x4_6 _ _ g1'] at np7; cases np7
        have n73 : p7 ≠ p3 := fun e => by rw [e, x4_6 _ _ g3] at np7; cases np7
        refine ⟨us, x4_7 _ _ g3, szlt (by omega), Ex.mut x2_7 np3, us ++ [.ref p7], upd_same, ?_⟩
        rw [tkc]
        have eH : Ex H (del (del (upd H7 p3 (.lst (us ++ [.ref p7]))) p1) p3) := ex_of_del (ex_of_del (Ex.mut (x0_2.trans x2_7) (ex_free x0_2 np3)) np1) (ex_free x0_2 np3)
        refine Paired.app (Paired.imp (fun _ _ r => RCase.ex ?_ r) ru) (.cons ⟨p7, tv, .ref p6, rfl, ?_, rt.ex eH, p6, vl, rfl, ?_, Paired.imp (fun _ _ r => RVis.ex eH r) rvl⟩ .nil)
        · intro b o q
          by_cases e3 : b = p3
          · rw [e3, del_same] at q
            cases q
          · rw [del_ne e3] at q ⊢
            by_cases e1 : b = p1
            · rw [e1, del_same] at q
              cases q
            · rw [del_ne e1] at q ⊢
              rw [upd_ne e3]
              exact x4_7 _ _ q
        · exact del_get2 (up_ne h7 n73) n71 n73
        · exact del_get2 (up_ne (x6_7 _ _ h6) n63) n61 n63
      · rintro H4 ⟨x2_4, us, g3, ru⟩
        have lq : cs.take ys.length = cs := by rw [ly, List.take_length]
        rw [lq] at ru
        refine ⟨szl (by show 2 ≤ 100000; decide), fun p5 np5 => ?_⟩
        obtain ⟨H5, hH5, x4_5, h5⟩ := newH _ np5
        rw [hH5]
        clear hH5
        have x2_5 := x2_4.trans x4_5
        have n31 : p3 ≠ p1 := fun e => by rw [e, g1] at np3; cases np3
        have n51 : p5 ≠ p1 := fun e => by rw [e, x2_4 _ _ g1] at np5; cases np5
        refine ⟨p1, zs, _, rfl, rfl, x2_5 _ _ g1, szlt (by omega), zs ++ [.ref p5], _, _, rfl, Ex.mut (x0_2.trans x2_5) np1, upd_same, ?_⟩
        rw [tk]
        refine Paired.app (Paired.imp (fun _ _ r => RRow.ex (del_grow x2_5) r) rz) (.cons ⟨p5, .ref p3, rfl, del_get (up_ne h5 n51) n51, p3, us, rfl, del_get (up_ne (x4_5 _ _ g3) n31) n31, Paired.imp (fun _ _ r => RCase.ex ?_ r) ru⟩ .nil)
        exact ex_del.trans (del_grow x4_5)
    · rintro σ' H2 ⟨zs, v2, v3, rfl, x0_2, g1, rz⟩
      rw [lx, List.take_length] at rz
      exact ⟨_, rfl, k _ _ x0_2 ⟨p1, zs, rfl, g1, Paired.imp (fun _ _ r => RRow.ex ex_del r) rz⟩⟩
/-! ### takes_leaf, matches -/
def leB (o : Option Int) (i : Int) : Bool := match o with
  | none => true
  | some l => decide (l ≤ i)
def geB (o : Option Int) (i : Int) : Bool := match o with
  | none => true
  | some l => decide (i ≤ l)
def matchB : Test → Head → Bool
  | .any, _ => true
  | .rcd fs, .rcd gs => fs.all fun x => gs.contains x
  | .list lo hi, .list n => decide (lo ≤ n) && geB hi n
  | .num lo hi, .num n => leB lo n && geB hi n
  | .text, .text _ => true
  | .isI i, .num n => decide (i = n)
  | .isS s, .text z => decide (s = z)
  | _, _ => false
theorem ret_b {b c : Bool} {H : Hp} {Q : VK} (e : b = c) (h : Q (.bl c) H) : Q (.bl b) H := by
  rw [e]
  exact h
theorem is_ss : PySem.W.kitOne K (.type "str") (.type "str") = some true := kit_ty (by decide +kernel)
theorem is_is : PySem.W.kitOne K (.type "int") (.type "str") = some false := kit_ty (by decide +kernel)
theorem is_ii : PySem.W.kitOne K (.type "int") (.type "int") = some true := kit_ty (by decide +kernel)
theorem is_ib : PySem.W.kitOne K (.type "int") (.type "bool") = some false := kit_ty (by decide +kernel)
theorem is_bb : PySem.W.kitOne K (.type "bool") (.type "bool") = some true := kit_ty (by decide +kernel)
inductive LeafOf : V → Head → Prop where
  | num (i : Int) : LeafOf (.int i) (.num i)
  | text (s : Str) : LeafOf (.str s) (.text s)
def Leafy : Test → Prop
  | .num _ _ => True
  | .text => True
  | .isI _ => True
  | .isS _ => True
  | _ => False
def spTakes : Sp := fun vs H Q _ => ∃ (v x : V) (t : Test) (h : Head), vs = [v, x] ∧ RT H v t ∧ Leafy t ∧ LeafOf x h ∧ Q (.bl (matchB t h)) H
/-- isinstance(x, str), by the kind of the leaf -/
theorem leaf_is {x : V} {h : Head} (l : LeafOf x h) (H : Hp) : ∃ (t : Value) (b : Bool), TyX K H x t ∧ PySem.W.kitOne K t (.type "str") = some b ∧ ((b = true ∧ ∃ s, x = .str s ∧ h = .text s) ∨ (b = false ∧ ∃ i, x = .int i ∧ h = .num i)) := by
  cases l with
  | num i => exact ⟨_, _, .base (.int i), is_is, .inr ⟨rfl, _, rfl, rfl⟩⟩
  | text s => exact ⟨_, _, .base (.str s), is_ss, .inl ⟨rfl, _, rfl, rfl⟩⟩
/-- the bounds of a range, as both sides ask them -/
theorem oi_le {o : Option Int} {i : Int} {H : Hp} {Q : VK} (h : Q (.bl (leB o i)) H) : ∃ c : Bool, V.bl (decide (oi o = V.non)) = V.bl c ∧ if c = true then Q (.bl true) H else ∃ a b : Int, oi o = V.int a ∧ V.int i = V.int b ∧ Q (.bl (decide (a ≤ b))) H := by
  cases o with
  | none => exact ⟨_, rfl, h⟩
  | some l => exact ⟨_, rfl, l, i, rfl, rfl, h⟩
theorem oi_ge {o : Option Int} {i : Int} {H : Hp} {Q : VK} (h : Q (.bl (geB o i)) H) : ∃ c : Bool, V.bl (decide (oi o = V.non)) = V.bl c ∧ if c = true then Q (.bl true) H else ∃ a b : Int, V.int i = V.int a ∧ oi o = V.int b ∧ Q (.bl (decide (a ≤ b))) H := by
  cases o with
  | none => exact ⟨_, rfl, h⟩
  | some l => exact ⟨_, rfl, i, l, rfl, rfl, h⟩
theorem sc_takes_leaf : FnScope ["alternative", "leaf", "word", "low", "high"] ["alternative", "leaf"] (defScope s_takes_leaf) := ⟨rfl, rfl, rfl, by decide +kernel, rfl, by decide +kernel, by decide +kernel⟩
theorem bi_takes_leaf : BindsEq "takes_leaf" s_takes_leaf ["alternative", "leaf"] := fun _ _ _ _ _ _ us hl => match us, hl with | [_, _], _ => rfl
theorem ok_takes (F : Df K mg "takes_leaf" s_takes_leaf) (T : Txt K mg) : Cal P w K mg base CX0 1 "takes_leaf" spTakes := by
  refine cal0 F sc_takes_leaf bi_takes_leaf (fun vs H Q E h => ?_) (fun f cdv A outer s H vs Q E hr h => ?_)
  · obtain ⟨v, x, t, h, rfl, _⟩ := h
    rfl
  · obtain ⟨v, x, t, h, rfl, rt, lf, lo, k⟩ := h
    refine ⟨_, (pss_cons (ps_set (i := 2) sc_takes_leaf.nd rfl (Or.inl rfl) (pe_ix (ixt K) (pv 0) pe_int (fun _ _ => rfl)))
 (pss_cons (ps_if (pt_cmpR op_eq (pv 2) pe_str (nomark _)) (pss_one (ps_ret (pe_and (pe_cmpR op_eq (pe_callB (isiK K) rfl T.b_isinstance (by decide +kernel) (pa_cons (pe_ix (ixt K) (pv 0) pe_int (fun _ _ => rfl)) (pa_cons (pe_bltn (v := .ty "str") rfl T.b_str (by decide +kernel) rfl) pa_nil))) (pe_callB (isiK K) rfl T.b_isinstance (by decide +kernel) (pa_cons (pv 1) (pa_cons (pe_bltn (v := .ty "str") rfl T.b_str (by decide +kernel) rfl) pa_nil))) (nomark _)) (pe_one (pe_cmpR op_eq (pe_ix (ixt K) (pv 0) pe_int (fun _ _ => rfl)) (pv 1) (nomark _)))))) pss_nil)
 (pss_cons (ps_if (pt_val (pe_callB (isiK K) rfl T.b_isinstance (by decide +kernel) (pa_cons (pv 1) (pa_cons (pe_bltn (v := .ty "str") rfl T.b_str (by decide +kernel) rfl) pa_nil)))) (pss_one (ps_ret (pe_cmpR op_eq (pv 2) pe_str (nomark _)))) pss_nil)
 (pss_cons (ps_if (pt_cmpR op_ne (pv 2) pe_str (nomark _)) (pss_one (ps_ret pe_bl)) pss_nil)
 (pss_cons (ps_par (i := 3) (j := 4) (by rfl) sc_takes_leaf.nd rfl rfl (by decide) rfl rfl (pa_cons (pe_ix (ixt K) (pv 0) pe_int (fun _ _ => rfl)) (pa_cons (pe_ix (ixt K) (pv 0) pe_int (fun _ _ => rfl)) pa_nil)) (by rfl))
 (pss_one (ps_ret (pe_and (pe_or (pe_cmpR op_isN (pv 3) pe_non (nomark _)) (pe_one (pe_cmpR op_le (pv 3) (pv 1) (nomark _)))) (pe_one (pe_or (pe_cmpR op_isN (pv 4) pe_non (nomark _)) (pe_one (pe_cmpR op_le (pv 1) (pv 4) (nomark _))))))))))))), ?_⟩
    cases rt with
    | any _ => exact lf.elim
    | rcd _ _ => exact lf.elim
    | list _ => exact lf.elim
    | @num a l u h1 =>
      refine ⟨_, rfl, a, _, _, _, rfl, rfl, SqTo h1, rfl, ?_⟩
      refine ⟨_, rfl, rfl, _, rfl, if_f (by decide +kernel) ?_⟩
      cases lo with
      | text z => exact ⟨_, rfl, _, _, _, _, _, rfl, .ty "str", .base (.str z), is_ss, _, rfl, _, rfl, rfl, ret_b (c := false) (by decide +kernel) k⟩
      | num i =>
        refine ⟨_, rfl, _, _, _, _, _, rfl, .ty "str", .base (.int i), is_is, _, rfl, ?_⟩
        refine ⟨_, rfl, rfl, _, rfl, if_f (by decide +kernel) ?_⟩
        refine ⟨_, rfl, a, _, _, _, rfl, rfl, SqTo h1, rfl, _, rfl, a, _, _, _, rfl, rfl, SqTo h1, rfl, _, _, rfl, ?_⟩
        refine ⟨_, rfl, rfl, ?_⟩
        have step : ∀ b : Bool, Q (.bl (b && geB u i)) H → ∃ c : Bool, V.bl b = V.bl c ∧ if c = true then tOrV (tOp (fun x y H Q => y = .non ∧ Q (.bl (decide (x = .non))) H) (tVar 4) (tC .non)) (tOp (rI0 fun i j => .bl (decide (i ≤ j))) (tVar 1) (tVar 4)) [some (.ref a), some (.int i), some (.str "number"), some (oi l), some (oi u)] H Q else Q (.bl false) H := by
          intro b hb
          refine ⟨b, rfl, ?_⟩
          cases b with
          | false => exact hb
          | true =>
            cases u with
            | none => exact ⟨_, rfl, rfl, _, rfl, hb⟩
            | some y => exact ⟨_, rfl, rfl, _, rfl, _, rfl, _, rfl, _, _, rfl, rfl, hb⟩
        cases l with
        | none => exact ⟨_, rfl, step true k⟩
        | some y => exact ⟨_, rfl, _, rfl, _, rfl, _, _, rfl, rfl, step _ k⟩
    | @text a h1 =>
      refine ⟨_, rfl, a, _, _, _, rfl, rfl, SqTo h1, rfl, ?_⟩
      refine ⟨_, rfl, rfl, _, rfl, if_f (by decide +kernel) ?_⟩
      cases lo with
      | text z => exact ⟨_, rfl, _, _, _, _, _, rfl, .ty "str", .base (.str z), is_ss, _, rfl, _, rfl, rfl, ret_b (c := true) (by decide +kernel) k⟩
      | num i => exact ⟨_, rfl, _, _, _, _, _, rfl, .ty "str", .base (.int i), is_is, _, rfl, _, rfl, rfl, _, rfl, if_t (by decide +kernel) k⟩
    | @isI a j h1 =>
      refine ⟨_, rfl, a, _, _, _, rfl, rfl, SqTo h1, rfl, ?_⟩
      refine ⟨_, rfl, rfl, _, rfl, if_t (by decide +kernel) ?_⟩
      refine ⟨_, rfl, a, _, _, _, rfl, rfl, SqTo h1, rfl, _, _, _, _, _, rfl, .ty "str", .base (.int j), is_is, ?_⟩
      cases lo with
      | text z => exact ⟨_, rfl, _, _, _, _, _, rfl, .ty "str", .base (.str z), is_ss, rfl, _, rfl, k⟩
      | num i => exact ⟨_, rfl, _, _, _, _, _, rfl, .ty "str", .base (.int i), is_is, rfl, _, rfl, _, rfl, a, _, _, _, rfl, rfl, SqTo h1, rfl, _, rfl, rfl, ret_b (by simp [matchB]) k⟩
    | @isS a j h1 =>
      refine ⟨_, rfl, a, _, _, _, rfl, rfl, SqTo h1, rfl, ?_⟩
      refine ⟨_, rfl, rfl, _, rfl, if_t (by decide +kernel) ?_⟩
      refine ⟨_, rfl, a, _, _, _, rfl, rfl, SqTo h1, rfl, _, _, _, _, _, rfl, .ty "str", .base (.str j), is_ss, ?_⟩
      cases lo with
      | text z => exact ⟨_, rfl, _, _, _, _, _, rfl, .ty "str", .base (.str z), is_ss, rfl, _, rfl, _, rfl, a, _, _, _, rfl, rfl, SqTo h1, rfl, _, rfl, rfl, ret_b (by simp [matchB]) k⟩
      | num i => exact ⟨_, rfl, _, _, _, _, _, rfl, .ty "str", .base (.int i), is_is, rfl, _, rfl, k⟩
/-! ### matches -/
def spMatches : Sp := fun vs H Q _ => ∃ (v x : V) (t : Test) (h : Head), vs = [v, x] ∧ RT H v t ∧ RH H x h ∧ (∀ fs, t = .rcd fs → fs.length ≤ 100) ∧ ∀ H', Ex H H' → Q (.bl (matchB t h)) H'
theorem inV_strs (z : Str) : ∀ l : List Str, inV (.str z) (l.map V.str) = l.contains z
  | [] => rfl
  | a :: l => by
    have ih := inV_strs z l
    unfold inV at ih ⊢
    rw [List.map_cons, List.any_cons, List.contains_cons, ih]
    congr 1
    exact BEq.comm
theorem flat_strs : ∀ l : List Str, (l.map V.str).all flatV = true
  | [] => rfl
  | a :: l => by rw [List.map_cons, List.all_cons, flat_strs l]; rfl
theorem at_zero {x : V} {l : List V} : atI (x :: l) 0 = some x := atI_nat (j := 0) rfl
theorem RT.split {H : Hp} {v : V} {t : Test} (r : RT H v t) : ∃ (a : Addr) (wd : Str) (rest : List V), v = .ref a ∧ H a = some (.tup (.str wd :: rest)) ∧
    ((wd = "any" ∧ t = .any) ∨ (wd = "record" ∧ ∃ (b : Addr) (fs : List Str), rest = [.ref b] ∧ t = .rcd fs ∧ H b = some (.tup (fs.map V.str))) ∨ (wd = "list" ∧ ∃ lo hi, rest = [.int lo, oi hi] ∧ t = .list lo hi) ∨ (Leafy t ∧ wd ≠ "any" ∧ wd ≠ "record" ∧ wd ≠ "list")) := by
  cases r with
  | any h => exact ⟨_, _, _, rfl, h, .inl ⟨rfl, rfl⟩⟩
  | rcd h g => exact ⟨_, _, _, rfl, h, .inr (.inl ⟨rfl, _, _, rfl, rfl, g⟩)⟩
  | list h => exact ⟨_, _, _, rfl, h, .inr (.inr (.inl ⟨rfl, _, _, rfl, rfl⟩))⟩
  | num h => exact ⟨_, _, _, rfl, h, .inr (.inr (.inr ⟨trivial, by decide +kernel, by decide +kernel, by decide +kernel⟩))⟩
  | text h => exact ⟨_, _, _, rfl, h, .inr (.inr (.inr ⟨trivial, by decide +kernel, by decide +kernel, by decide +kernel⟩))⟩
  | isI h => exact ⟨_, _, _, rfl, h, .inr (.inr (.inr ⟨trivial, by decide +kernel, by decide +kernel, by decide +kernel⟩))⟩
  | isS h => exact ⟨_, _, _, rfl, h, .inr (.inr (.inr ⟨trivial, by decide +kernel, by decide +kernel, by decide +kernel⟩))⟩
theorem RH.split {H : Hp} {x : V} {h : Head} (r : RH H x h) : ∃ (b : Addr) (kd : Str) (sh : V), x = .ref b ∧ H b = some (.tup [.str kd, sh]) ∧
    ((kd = "record" ∧ ∃ (c : Addr) (gs : List Str), sh = .ref c ∧ h = .rcd gs ∧ H c = some (.tup (gs.map V.str))) ∨ (kd = "list" ∧ ∃ n, sh = .int n ∧ h = .list n) ∨ ((kd = "number" ∨ kd = "text") ∧ LeafOf sh h)) := by
  cases r with
  | rcd h g => exact ⟨_, _, _, rfl, h, .inl ⟨rfl, _, _, rfl, rfl, g⟩⟩
  | list h => exact ⟨_, _, _, rfl, h, .inr (.inl ⟨rfl, _, rfl, rfl⟩)⟩
  | num h => exact ⟨_, _, _, rfl, h, .inr (.inr ⟨.inl rfl, .num _⟩)⟩
  | text h => exact ⟨_, _, _, rfl, h, .inr (.inr ⟨.inr rfl, .text _⟩)⟩
theorem str_ne {a b : Str} (h : a ≠ b) : decide (V.str a = V.str b) = false := decide_eq_false fun e => h (V.str.inj e)
theorem leafy_rcd {t : Test} {gs : List Str} (h : Leafy t) : matchB t (.rcd gs) = false := by cases t <;> first | rfl | exact h.elim
theorem leafy_list {t : Test} {n : Int} (h : Leafy t) : matchB t (.list n) = false := by cases t <;> first | rfl | exact h.elim
theorem rcd_no {fs : List Str} {h : Head} {sh : V} (l : LeafOf sh h) : matchB (.rcd fs) h = false := by cases l <;> rfl
theorem list_no {lo : Int} {hi : Option Int} {h : Head} {sh : V} (l : LeafOf sh h) : matchB (.list lo hi) h = false := by cases l <;> rfl
/-- the list of truths that a comprehension over a record's fields makes -/
def inAll (fs gs : List Str) : List V := fs.map fun x => V.bl (gs.contains x)
theorem inAll_bl (fs gs : List Str) : inAll fs gs = (fs.map fun x => gs.contains x).map V.bl := by
  unfold inAll
  rw [List.map_map]
  rfl
theorem inAll_more {fs gs : List Str} {j : Nat} {z : Str} (h : fs[j]? = some z) : inAll (fs.take (j + 1)) gs = inAll (fs.take j) gs ++ [V.bl (gs.contains z)] := by
  unfold inAll
  rw [List.take_add_one, h, List.map_append]
  rfl
theorem str_at {l : List Str} {i : Nat} {y : V} (h : (l.map V.str)[i]? = some y) : ∃ z, l[i]? = some z ∧ y = V.str z := by
  rw [List.getElem?_map] at h
  cases e : l[i]? with
  | none => rw [e] at h; cases h
  | some z => rw [e] at h; exact ⟨z, rfl, (Option.some.inj h).symm⟩
theorem sc_matches : FnScope ["test", "head", "word", "kind", "shown", "field"] ["test", "head"] (defScope s_matches) := ⟨rfl, rfl, rfl, by decide +kernel, rfl, by decide +kernel, by decide +kernel⟩
theorem bi_matches : BindsEq "matches" s_matches ["test", "head"] := fun _ _ _ _ _ _ us hl => match us, hl with | [_, _], _ => rfl
theorem ok_matches (F : Df K mg "matches" s_matches) (T : Txt K mg) (C_takes_leaf : Cal P w K mg base CX0 1 "takes_leaf" spTakes) : Cal P w K mg base CX0 2 "matches" spMatches := by
  refine cal0 F sc_matches bi_matches (fun vs H Q E h => ?_) (fun f cdv A outer s H vs Q E hr h => ?_)
  · obtain ⟨v, x, t, h, rfl, _⟩ := h
    rfl
  · obtain ⟨v, x, t, h, rfl, rt, rh, fl, k⟩ := h
    have rt0 := rt
    obtain ⟨a, wd, rest, rfl, ha, ct⟩ := rt.split
    obtain ⟨b, kd, sh, rfl, hb, ch⟩ := rh.split
    refine ⟨_, (pss_cons (ps_set (i := 2) sc_matches.nd rfl (Or.inl rfl) (pe_ix (ixt K) (pv 0) pe_int (fun _ _ => rfl)))
 (pss_cons (ps_asg (pv 1) (pgt (n := 2) K rfl (pgs_cons (pg_name (i := 3) sc_matches.nd rfl (Or.inl rfl)) (pgs_cons (pg_name (i := 4) sc_matches.nd rfl (Or.inr rfl)) pgs_nil))))
 (pss_cons (ps_if (pt_cmpR op_eq (pv 2) pe_str (nomark _)) (pss_one (ps_ret pe_bl)) pss_nil)
 (pss_cons (ps_if (pt_cmpR op_eq (pv 2) pe_str (nomark _)) (pss_one (ps_ret (pe_and (pe_cmpR op_eq (pv 3) pe_str (nomark _)) (pe_one (pe_callB (allK K rfl) rfl T.b_all (by decide +kernel) (pa_cons (pe_lc (own := [("field", 5)]) (by rfl) sc_matches.nd (pit K (pe_ix (ixt K) (pv 0) pe_int (fun _ _ => rfl))) (blkOk_by (own := [("field", 5)]) (N := ["test", "head", "word", "kind", "shown", "field"]) (sc := defScope s_matches) (by decide +kernel)) (fun _ _ _ _ _ => (pg_name (i := 5) sc_matches.nd rfl (Or.inl rfl))) (fun _ _ _ _ _ => pts_nil) (fun _ _ _ _ _ => (pe_cmpR (inq K) (pv 5) (pv 4) (by rfl)))) pa_nil)))))) pss_nil)
 (pss_cons (ps_if (pt_cmpR op_eq (pv 2) pe_str (nomark _)) (pss_one (ps_ret (pe_and (pe_cmpR op_eq (pv 3) pe_str (nomark _)) (pe_and (pe_cmpR op_le (pe_ix (ixt K) (pv 0) pe_int (fun _ _ => rfl)) (pv 4) (nomark _)) (pe_one (pe_or (pe_cmpR op_isN (pe_ix (ixt K) (pv 0) pe_int (fun _ _ => rfl)) pe_non (nomark _)) (pe_one (pe_cmpR op_le (pv 4) (pe_ix (ixt K) (pv 0) pe_int (fun _ _ => rfl)) (nomark _))))))))) pss_nil)
 (pss_one (ps_ret (pe_and (pe_cmpR (inq K) (pv 3) (pe_tup (pa_cons pe_str (pa_cons pe_str pa_nil))) (by rfl)) (pe_one (pe_k C_takes_leaf hr (by decide) rfl (pa_cons (pv 0) (pa_cons (pv 4) pa_nil)))))))))))), ?_⟩
    refine ⟨_, rfl, a, _, _, _, rfl, rfl, SqTo ha, at_zero, ?_⟩
    refine ⟨_, rfl, b, _, rfl, SqTo hb, rfl, _, _, rfl, _, _, rfl, rfl, ?_⟩
    rcases ct with ⟨rfl, rfl⟩ | ⟨rfl, b', fs, rfl, rfl, hfs⟩ | ⟨rfl, lo, hi, rfl, rfl⟩ | ⟨lf, w1, w2, w3⟩
    · exact ⟨_, rfl, rfl, _, rfl, if_t (by decide +kernel) (k H (Ex.refl H))⟩
    · refine ⟨_, rfl, rfl, _, rfl, if_f (by decide +kernel) ?_⟩
      refine ⟨_, rfl, rfl, _, rfl, if_t (by decide +kernel) ?_⟩
      rcases ch with ⟨rfl, c, gs, rfl, rfl, hc⟩ | ⟨rfl, n, rfl, rfl⟩ | ⟨hk, lo⟩
      · refine ⟨_, rfl, rfl, _, rfl, if_t (by decide +kernel) ?_⟩
        refine ⟨_, rfl, a, _, _, _, rfl, rfl, SqTo ha, rfl, b', rfl, ⟨_, SqTo hfs⟩, fun D nD => lc_tup (K := K) (a := b') (xs := fs.map V.str) (fun j H' => Ex H H' ∧ H' D = some (.lst (inAll (fs.take j) gs))) ?_ ?_ ?_ ?_⟩
        · exact ⟨Ex.new nD, upd_same⟩
        · rintro j H' _ ⟨ex, _⟩
          exact SqTo (ex _ _ hfs)
        · rintro j y H' hj ⟨ex, hD⟩
          obtain ⟨z, hz, rfl⟩ := str_at hj
          refine ⟨rfl, _, rfl, _, rfl, c, _, rfl, .inr (SqTo (ex _ _ hc)), rfl, flat_strs gs, _, hD, ?_, Ex.mut ex nD, ?_⟩
          · have l1 := fl fs rfl
            refine szlt ?_
            unfold inAll
            rw [List.length_map, List.length_take]
            omega
          · rw [upd_same, inAll_more hz]
            show some (HO.lst (inAll (fs.take j) gs ++ [V.bl (inV (.str z) (gs.map V.str))])) = _
            rw [inV_strs]
        · rintro H' ⟨ex, hD⟩
          rw [List.length_map, List.take_length, inAll_bl] at hD
          refine ⟨D, _, rfl, SqLo hD, ret_b ?_ (k H' ex)⟩
          show (fs.map fun x => gs.contains x).all id = fs.all fun x => gs.contains x
          rw [List.all_map]
          rfl
      · exact ⟨_, rfl, rfl, _, rfl, if_f (by decide +kernel) (k H (Ex.refl H))⟩
      · refine ⟨_, rfl, rfl, _, rfl, if_f ?_ (ret_b (rcd_no lo).symm (k H (Ex.refl H)))⟩
        rcases hk with rfl | rfl <;> decide +kernel
    · refine ⟨_, rfl, rfl, _, rfl, if_f (by decide +kernel) ?_⟩
      refine ⟨_, rfl, rfl, _, rfl, if_f (by decide +kernel) ?_⟩
      refine ⟨_, rfl, rfl, _, rfl, if_t (by decide +kernel) ?_⟩
      rcases ch with ⟨rfl, c, gs, rfl, rfl, hc⟩ | ⟨rfl, n, rfl, rfl⟩ | ⟨hk, ll⟩
      · exact ⟨_, rfl, rfl, _, rfl, if_f (by decide +kernel) (k H (Ex.refl H))⟩
      · refine ⟨_, rfl, rfl, _, rfl, if_t (by decide +kernel) ?_⟩
        have k := k H (Ex.refl H)
        refine ⟨_, rfl, a, _, _, _, rfl, rfl, SqTo ha, rfl, _, rfl, _, _, rfl, rfl, _, rfl, ?_⟩
        refine if_b (fun e => ?_) (fun e => ret_b ?_ k)
        · refine ⟨_, rfl, a, _, _, _, rfl, rfl, SqTo ha, rfl, rfl, ?_⟩
          have k' : Q (.bl (geB hi n)) H := ret_b (show geB hi n = (decide (lo ≤ n) && geB hi n) by rw [e]; rfl) k
          cases hi with
          | none => exact ⟨_, rfl, k'⟩
          | some y => exact ⟨_, rfl, _, rfl, _, rfl, a, _, _, _, rfl, rfl, SqTo ha, rfl, _, _, rfl, rfl, k'⟩
        · show false = (decide (lo ≤ n) && geB hi n)
          rw [e]
          rfl
      · refine ⟨_, rfl, rfl, _, rfl, if_f ?_ (ret_b (list_no ll).symm (k H (Ex.refl H)))⟩
        rcases hk with rfl | rfl <;> decide +kernel
    · refine ⟨_, rfl, rfl, _, rfl, if_f (str_ne w1) ?_⟩
      refine ⟨_, rfl, rfl, _, rfl, if_f (str_ne w2) ?_⟩
      refine ⟨_, rfl, rfl, _, rfl, if_f (str_ne w3) ?_⟩
      refine ⟨_, rfl, szl (by show 2 ≤ 100000; decide), fun p1 np1 => ?_⟩
      obtain ⟨H1, hH1, x0_1, h1⟩ := newH _ np1
      rw [hH1]
      clear hH1
      have f1 := np1
      refine ⟨p1, _, rfl, .inr (SqTo h1), rfl, rfl, _, rfl, ?_⟩
      rcases ch with ⟨rfl, c, gs, rfl, rfl, hc⟩ | ⟨rfl, n, rfl, rfl⟩ | ⟨hk, ll⟩
      · exact if_f (by decide +kernel) (ret_b (leafy_rcd lf).symm (k H1 x0_1))
      · exact if_f (by decide +kernel) (ret_b (leafy_list lf).symm (k H1 x0_1))
      · refine if_t (by rcases hk with rfl | rfl <;> decide +kernel) ?_
        exact ⟨_, rfl, _, rfl, _, _, t, h, rfl, rt0.ex x0_1, lf, ll, k H1 x0_1⟩
end
end K44

namespace K44
open PySem PySem.Spec L2 LW
open Evl (Ex)
section
variable {P : Program} {w : World} {K : PySem.W.Frag} {mg : Str → Option Value} {base : Heap}
theorem sc__law_leaf_fits : FnScope ["_law_option", "_law_leaf_here", "_law_low", "_law_high"] ["_law_option", "_law_leaf_here"] (defScope s__law_leaf_fits) := ⟨rfl, rfl, rfl, by decide +kernel, rfl, by decide +kernel, by decide +kernel⟩
theorem bi__law_leaf_fits : BindsEq "_law_leaf_fits" s__law_leaf_fits ["_law_option", "_law_leaf_here"] := fun _ _ _ _ _ _ us hl => match us, hl with | [_, _], _ => rfl
theorem ok_leaf_fits (F : Df K mg "_law_leaf_fits" s__law_leaf_fits) (T : Txt K mg) : Cal P w K mg base CX0 1 "_law_leaf_fits" spTakes := by
  refine cal0 F sc__law_leaf_fits bi__law_leaf_fits (fun vs H Q E h => ?_) (fun f cdv A outer s H vs Q E hr h => ?_)
  · obtain ⟨v, x, t, h, rfl, _⟩ := h
    rfl
  · obtain ⟨v, x, t, h, rfl, rt, lf, lo, k⟩ := h
    refine ⟨_, (pss_cons (ps_if (pt_cmpR op_eq (pe_ix (ixt K) (pv 0) pe_int (fun _ _ => rfl)) pe_str (nomark _)) (pss_one (ps_ret pe_bl)) pss_nil)
 (pss_cons (ps_if (pt_cmpR op_eq (pe_ix (ixt K) (pv 0) pe_int (fun _ _ => rfl)) pe_str (nomark _)) (pss_one (ps_ret (pe_and (pe_cmpR op_eq (pe_callB (isiK K) rfl T.b_isinstance (by decide +kernel) (pa_cons (pv 1) (pa_cons (pe_bltn (v := .ty "str") rfl T.b_str (by decide +kernel) rfl) pa_nil))) (pe_callB (isiK K) rfl T.b_isinstance (by decide +kernel) (pa_cons (pe_ix (ixt K) (pv 0) pe_int (fun _ _ => rfl)) (pa_cons (pe_bltn (v := .ty "str") rfl T.b_str (by decide +kernel) rfl) pa_nil))) (nomark _)) (pe_one (pe_cmpR op_eq (pv 1) (pe_ix (ixt K) (pv 0) pe_int (fun _ _ => rfl)) (nomark _)))))) pss_nil)
 (pss_cons (ps_if (PW.pt (pw_or (pt_val (pe_callB (isiK K) rfl T.b_isinstance (by decide +kernel) (pa_cons (pv 1) (pa_cons (pe_bltn (v := .ty "str") rfl T.b_str (by decide +kernel) rfl) pa_nil)))) (pw_or1 (pt_cmpR op_ne (pe_ix (ixt K) (pv 0) pe_int (fun _ _ => rfl)) pe_str (nomark _))))) (pss_one (ps_ret (pe_and (pe_callB (isiK K) rfl T.b_isinstance (by decide +kernel) (pa_cons (pv 1) (pa_cons (pe_bltn (v := .ty "str") rfl T.b_str (by decide +kernel) rfl) pa_nil))) (pe_one (pe_cmpR op_eq (pe_ix (ixt K) (pv 0) pe_int (fun _ _ => rfl)) pe_str (nomark _)))))) pss_nil)
 (pss_cons (ps_set (i := 2) sc__law_leaf_fits.nd rfl (Or.inl rfl) (pe_ix (ixt K) (pv 0) pe_int (fun _ _ => rfl)))
 (pss_cons (ps_set (i := 3) sc__law_leaf_fits.nd rfl (Or.inl rfl) (pe_ix (ixt K) (pv 0) pe_int (fun _ _ => rfl)))
 (pss_one (ps_ret (pe_and (pe_or (pe_cmpR op_isN (pv 2) pe_non (nomark _)) (pe_one (pe_cmpR op_le (pv 2) (pv 1) (nomark _)))) (pe_one (pe_or (pe_cmpR op_isN (pv 3) pe_non (nomark _)) (pe_one (pe_cmpR op_le (pv 1) (pv 3) (nomark _))))))))))))), ?_⟩
    cases rt with
    | any _ => exact lf.elim
    | rcd _ _ => exact lf.elim
    | list _ => exact lf.elim
    | @num a l u h1 =>
      refine ⟨_, rfl, a, _, _, _, rfl, rfl, SqTo h1, rfl, rfl, _, rfl, if_f (by decide +kernel) ?_⟩
      refine ⟨_, rfl, a, _, _, _, rfl, rfl, SqTo h1, rfl, rfl, _, rfl, if_f (by decide +kernel) ?_⟩
      cases lo with
      | text z =>
        refine ⟨_, rfl, _, _, _, _, _, rfl, .ty "str", .base (.str z), is_ss, _, rfl, ?_⟩
        exact ⟨_, rfl, _, _, _, _, _, rfl, .ty "str", .base (.str z), is_ss, _, rfl, _, rfl, a, _, _, _, rfl, rfl, SqTo h1, rfl, rfl, ret_b (c := false) (by decide +kernel) k⟩
      | num i =>
        refine ⟨_, rfl, _, _, _, _, _, rfl, .ty "str", .base (.int i), is_is, _, rfl, ?_⟩
        refine ⟨_, rfl, a, _, _, _, rfl, rfl, SqTo h1, rfl, rfl, _, rfl, if_f (by decide +kernel) ?_⟩
        refine ⟨_, rfl, a, _, _, _, rfl, rfl, SqTo h1, rfl, _, rfl, a, _, _, _, rfl, rfl, SqTo h1, rfl, ?_⟩
        refine ⟨_, rfl, rfl, ?_⟩
        have step : ∀ b : Bool, Q (.bl (b && geB u i)) H → ∃ c : Bool, V.bl b = V.bl c ∧ if c = true then tOrV (tOp (fun x y H Q => y = .non ∧ Q (.bl (decide (x = .non))) H) (tVar 3) (tC .non)) (tOp (rI0 fun i j => .bl (decide (i ≤ j))) (tVar 1) (tVar 3)) [some (.ref a), some (.int i), some (oi l), some (oi u)] H Q else Q (.bl false) H := by
          intro b hb
          refine ⟨b, rfl, ?_⟩
          cases b with
          | false => exact hb
          | true =>
            cases u with
            | none => exact ⟨_, rfl, rfl, _, rfl, hb⟩
            | some y => exact ⟨_, rfl, rfl, _, rfl, _, rfl, _, rfl, _, _, rfl, rfl, hb⟩
        cases l with
        | none => exact ⟨_, rfl, step true k⟩
        | some y => exact ⟨_, rfl, _, rfl, _, rfl, _, _, rfl, rfl, step _ k⟩
    | @text a h1 =>
      refine ⟨_, rfl, a, _, _, _, rfl, rfl, SqTo h1, rfl, rfl, _, rfl, if_f (by decide +kernel) ?_⟩
      refine ⟨_, rfl, a, _, _, _, rfl, rfl, SqTo h1, rfl, rfl, _, rfl, if_f (by decide +kernel) ?_⟩
      cases lo with
      | text z =>
        refine ⟨_, rfl, _, _, _, _, _, rfl, .ty "str", .base (.str z), is_ss, _, rfl, ?_⟩
        exact ⟨_, rfl, _, _, _, _, _, rfl, .ty "str", .base (.str z), is_ss, _, rfl, _, rfl, a, _, _, _, rfl, rfl, SqTo h1, rfl, rfl, ret_b (c := true) (by decide +kernel) k⟩
      | num i =>
        refine ⟨_, rfl, _, _, _, _, _, rfl, .ty "str", .base (.int i), is_is, _, rfl, ?_⟩
        refine ⟨_, rfl, a, _, _, _, rfl, rfl, SqTo h1, rfl, rfl, _, rfl, if_t (by decide +kernel) ?_⟩
        exact ⟨_, rfl, _, _, _, _, _, rfl, .ty "str", .base (.int i), is_is, _, rfl, k⟩
    | @isI a j h1 =>
      refine ⟨_, rfl, a, _, _, _, rfl, rfl, SqTo h1, rfl, rfl, _, rfl, if_f (by decide +kernel) ?_⟩
      refine ⟨_, rfl, a, _, _, _, rfl, rfl, SqTo h1, rfl, rfl, _, rfl, if_t (by decide +kernel) ?_⟩
      cases lo with
      | text z => exact ⟨_, rfl, _, _, _, _, _, rfl, .ty "str", .base (.str z), is_ss, _, rfl, a, _, _, _, rfl, rfl, SqTo h1, rfl, _, _, _, _, _, rfl, .ty "str", .base (.int j), is_is, rfl, _, rfl, k⟩
      | num i => exact ⟨_, rfl, _, _, _, _, _, rfl, .ty "str", .base (.int i), is_is, _, rfl, a, _, _, _, rfl, rfl, SqTo h1, rfl, _, _, _, _, _, rfl, .ty "str", .base (.int j), is_is, rfl, _, rfl, _, rfl, _, rfl, a, _, _, _, rfl, rfl, SqTo h1, rfl, rfl, ret_b (by simp [matchB]; exact eq_comm) k⟩
    | @isS a j h1 =>
      refine ⟨_, rfl, a, _, _, _, rfl, rfl, SqTo h1, rfl, rfl, _, rfl, if_f (by decide +kernel) ?_⟩
      refine ⟨_, rfl, a, _, _, _, rfl, rfl, SqTo h1, rfl, rfl, _, rfl, if_t (by decide +kernel) ?_⟩
      cases lo with
      | text z => exact ⟨_, rfl, _, _, _, _, _, rfl, .ty "str", .base (.str z), is_ss, _, rfl, a, _, _, _, rfl, rfl, SqTo h1, rfl, _, _, _, _, _, rfl, .ty "str", .base (.str j), is_ss, rfl, _, rfl, _, rfl, _, rfl, a, _, _, _, rfl, rfl, SqTo h1, rfl, rfl, ret_b (by simp [matchB]; exact eq_comm) k⟩
      | num i => exact ⟨_, rfl, _, _, _, _, _, rfl, .ty "str", .base (.int i), is_is, _, rfl, a, _, _, _, rfl, rfl, SqTo h1, rfl, _, _, _, _, _, rfl, .ty "str", .base (.str j), is_ss, rfl, _, rfl, k⟩
theorem sc__law_test_fits : FnScope ["_law_test_here", "_law_top", "_law_one"] ["_law_test_here", "_law_top"] (defScope s__law_test_fits) := ⟨rfl, rfl, rfl, by decide +kernel, rfl, by decide +kernel, by decide +kernel⟩
theorem bi__law_test_fits : BindsEq "_law_test_fits" s__law_test_fits ["_law_test_here", "_law_top"] := fun _ _ _ _ _ _ us hl => match us, hl with | [_, _], _ => rfl
theorem ok_test_fits (F : Df K mg "_law_test_fits" s__law_test_fits) (T : Txt K mg) (C__law_leaf_fits : Cal P w K mg base CX0 1 "_law_leaf_fits" spTakes) : Cal P w K mg base CX0 2 "_law_test_fits" spMatches := by
  refine cal0 F sc__law_test_fits bi__law_test_fits (fun vs H Q E h => ?_) (fun f cdv A outer s H vs Q E hr h => ?_)
  · obtain ⟨v, x, t, h, rfl, _⟩ := h
    rfl
  · obtain ⟨v, x, t, h, rfl, rt, rh, fl, k⟩ := h
    have rt0 := rt
    obtain ⟨a, wd, rest, rfl, ha, ct⟩ := rt.split
    obtain ⟨b, kd, sh, rfl, hb, ch⟩ := rh.split
    refine ⟨_, (pss_cons (ps_if (pt_cmpR op_eq (pe_ix (ixt K) (pv 0) pe_int (fun _ _ => rfl)) pe_str (nomark _)) (pss_one (ps_ret pe_bl)) pss_nil)
 (pss_cons (ps_if (pt_cmpR op_eq (pe_ix (ixt K) (pv 0) pe_int (fun _ _ => rfl)) pe_str (nomark _)) (pss_one (ps_ret (pe_and (pe_cmpR op_eq (pe_ix (ixt K) (pv 1) pe_int (fun _ _ => rfl)) pe_str (nomark _)) (pe_one (pe_callB (allK K rfl) rfl T.b_all (by decide +kernel) (pa_cons (pe_lc (own := [("_law_one", 2)]) (by rfl) sc__law_test_fits.nd (pit K (pe_ix (ixt K) (pv 0) pe_int (fun _ _ => rfl))) (blkOk_by (own := [("_law_one", 2)]) (N := ["_law_test_here", "_law_top", "_law_one"]) (sc := defScope s__law_test_fits) (by decide +kernel)) (fun _ _ _ _ _ => (pg_name (i := 2) sc__law_test_fits.nd rfl (Or.inl rfl))) (fun _ _ _ _ _ => pts_nil) (fun _ _ _ _ _ => (pe_cmpR (inq K) (pv 2) (pe_ix (ixt K) (pv 1) pe_int (fun _ _ => rfl)) (by rfl)))) pa_nil)))))) pss_nil)
 (pss_cons (ps_if (pt_cmpR op_eq (pe_ix (ixt K) (pv 0) pe_int (fun _ _ => rfl)) pe_str (nomark _)) (pss_one (ps_ret (pe_and (pe_cmpR op_eq (pe_ix (ixt K) (pv 1) pe_int (fun _ _ => rfl)) pe_str (nomark _)) (pe_and (pe_cmpR op_le (pe_ix (ixt K) (pv 0) pe_int (fun _ _ => rfl)) (pe_ix (ixt K) (pv 1) pe_int (fun _ _ => rfl)) (nomark _)) (pe_one (pe_or (pe_cmpR op_isN (pe_ix (ixt K) (pv 0) pe_int (fun _ _ => rfl)) pe_non (nomark _)) (pe_one (pe_cmpR op_le (pe_ix (ixt K) (pv 1) pe_int (fun _ _ => rfl)) (pe_ix (ixt K) (pv 0) pe_int (fun _ _ => rfl)) (nomark _))))))))) pss_nil)
 (pss_one (ps_ret (pe_and (pe_cmpR (inq K) (pe_ix (ixt K) (pv 1) pe_int (fun _ _ => rfl)) (pe_tup (pa_cons pe_str (pa_cons pe_str pa_nil))) (by rfl)) (pe_one (pe_k C__law_leaf_fits hr (by decide) rfl (pa_cons (pv 0) (pa_cons (pe_ix (ixt K) (pv 1) pe_int (fun _ _ => rfl)) pa_nil)))))))))), ?_⟩
    rcases ct with ⟨rfl, rfl⟩ | ⟨rfl, b', fs, rfl, rfl, hfs⟩ | ⟨rfl, lo, hi, rfl, rfl⟩ | ⟨lf, w1, w2, w3⟩
    · exact ⟨_, rfl, a, _, _, _, rfl, rfl, SqTo ha, at_zero, rfl, _, rfl, if_t (by decide +kernel) (k H (Ex.refl H))⟩
    · refine ⟨_, rfl, a, _, _, _, rfl, rfl, SqTo ha, at_zero, rfl, _, rfl, if_f (by decide +kernel) ?_⟩
      refine ⟨_, rfl, a, _, _, _, rfl, rfl, SqTo ha, at_zero, rfl, _, rfl, if_t (by decide +kernel) ?_⟩
      refine ⟨_, rfl, b, _, _, _, rfl, rfl, SqTo hb, at_zero, rfl, _, rfl, ?_⟩
      rcases ch with ⟨rfl, c, gs, rfl, rfl, hc⟩ | ⟨rfl, n, rfl, rfl⟩ | ⟨hk, lo⟩
      · refine if_t (by decide +kernel) ?_
        refine ⟨_, rfl, a, _, _, _, rfl, rfl, SqTo ha, rfl, b', rfl, ⟨_, SqTo hfs⟩, fun D nD => lc_tup (K := K) (a := b') (xs := fs.map V.str) (fun j H' => Ex H H' ∧ H' D = some (.lst (inAll (fs.take j) gs))) ?_ ?_ ?_ ?_⟩
        · exact ⟨Ex.new nD, upd_same⟩
        · rintro j H' _ ⟨ex, _⟩
          exact SqTo (ex _ _ hfs)
        · rintro j y H' hj ⟨ex, hD⟩
          obtain ⟨z, hz, rfl⟩ := str_at hj
          refine ⟨rfl, _, rfl, _, rfl, b, _, _, _, rfl, rfl, SqTo (ex _ _ hb), rfl, c, _, rfl, .inr (SqTo (ex _ _ hc)), rfl, flat_strs gs, _, hD, ?_, Ex.mut ex nD, ?_⟩
          · have l1 := fl fs rfl
            refine szlt ?_
            unfold inAll
            rw [List.length_map, List.length_take]
            omega
          · rw [upd_same, inAll_more hz]
            show some (HO.lst (inAll (fs.take j) gs ++ [V.bl (inV (.str z) (gs.map V.str))])) = _
            rw [inV_strs]
        · rintro H' ⟨ex, hD⟩
          rw [List.length_map, List.take_length, inAll_bl] at hD
          refine ⟨D, _, rfl, SqLo hD, ret_b ?_ (k H' ex)⟩
          show (fs.map fun x => gs.contains x).all id = fs.all fun x => gs.contains x
          rw [List.all_map]
          rfl
      · exact if_f (by decide +kernel) (k H (Ex.refl H))
      · refine if_f ?_ (ret_b (rcd_no lo).symm (k H (Ex.refl H)))
        rcases hk with rfl | rfl <;> decide +kernel
    · refine ⟨_, rfl, a, _, _, _, rfl, rfl, SqTo ha, at_zero, rfl, _, rfl, if_f (by decide +kernel) ?_⟩
      refine ⟨_, rfl, a, _, _, _, rfl, rfl, SqTo ha, at_zero, rfl, _, rfl, if_f (by decide +kernel) ?_⟩
      refine ⟨_, rfl, a, _, _, _, rfl, rfl, SqTo ha, at_zero, rfl, _, rfl, if_t (by decide +kernel) ?_⟩
      refine ⟨_, rfl, b, _, _, _, rfl, rfl, SqTo hb, at_zero, rfl, _, rfl, ?_⟩
      rcases ch with ⟨rfl, c, gs, rfl, rfl, hc⟩ | ⟨rfl, n, rfl, rfl⟩ | ⟨hk, ll⟩
      · exact if_f (by decide +kernel) (k H (Ex.refl H))
      · refine if_t (by decide +kernel) ?_
        have k := k H (Ex.refl H)
        refine ⟨_, rfl, a, _, _, _, rfl, rfl, SqTo ha, rfl, _, rfl, b, _, _, _, rfl, rfl, SqTo hb, rfl, _, _, rfl, rfl, _, rfl, ?_⟩
        refine if_b (fun e => ?_) (fun e => ret_b ?_ k)
        · refine ⟨_, rfl, a, _, _, _, rfl, rfl, SqTo ha, rfl, rfl, ?_⟩
          have k' : Q (.bl (geB hi n)) H := ret_b (show geB hi n = (decide (lo ≤ n) && geB hi n) by rw [e]; rfl) k
          cases hi with
          | none => exact ⟨_, rfl, k'⟩
          | some y => exact ⟨_, rfl, _, rfl, b, _, _, _, rfl, rfl, SqTo hb, rfl, _, rfl, a, _, _, _, rfl, rfl, SqTo ha, rfl, _, _, rfl, rfl, k'⟩
        · show false = (decide (lo ≤ n) && geB hi n)
          rw [e]
          rfl
      · refine if_f ?_ (ret_b (list_no ll).symm (k H (Ex.refl H)))
        rcases hk with rfl | rfl <;> decide +kernel
    · refine ⟨_, rfl, a, _, _, _, rfl, rfl, SqTo ha, at_zero, rfl, _, rfl, if_f (str_ne w1) ?_⟩
      refine ⟨_, rfl, a, _, _, _, rfl, rfl, SqTo ha, at_zero, rfl, _, rfl, if_f (str_ne w2) ?_⟩
      refine ⟨_, rfl, a, _, _, _, rfl, rfl, SqTo ha, at_zero, rfl, _, rfl, if_f (str_ne w3) ?_⟩
      refine ⟨_, rfl, b, _, _, _, rfl, rfl, SqTo hb, at_zero, szl (by show 2 ≤ 100000; decide), fun p1 np1 => ?_⟩
      obtain ⟨H1, hH1, x0_1, h1⟩ := newH _ np1
      rw [hH1]
      clear hH1
      have f1 := np1
      refine ⟨p1, _, rfl, .inr (SqTo h1), rfl, rfl, _, rfl, ?_⟩
      rcases ch with ⟨rfl, c, gs, rfl, rfl, hc⟩ | ⟨rfl, n, rfl, rfl⟩ | ⟨hk, ll⟩
      · exact if_f (by decide +kernel) (ret_b (leafy_rcd lf).symm (k H1 x0_1))
      · exact if_f (by decide +kernel) (ret_b (leafy_list lf).symm (k H1 x0_1))
      · refine if_t (by rcases hk with rfl | rfl <;> decide +kernel) ?_
        exact ⟨_, rfl, _, rfl, b, _, _, _, rfl, rfl, SqTo (x0_1 _ _ hb), rfl, _, _, t, h, rfl, rt0.ex x0_1, lf, ll, k H1 x0_1⟩
/-! ### _law_head -/
theorem RT.ends {H : Hp} {v : V} {t : Test} (r : RT H v t) : ∃ (a : Addr) (wd : Str) (rest : List V), v = .ref a ∧ H a = some (.tup (.str wd :: rest)) ∧
    (((wd = "number" ∨ wd = "list") ∧ ∃ o1 o2 : Option Int, rest = [oi o1, oi o2]) ∨ (wd ≠ "number" ∧ wd ≠ "list" ∧ ((wd = "is" ∧ ∃ x : V, rest = [x] ∧ ((∃ i : Int, x = .int i) ∨ ∃ z : Str, x = .str z)) ∨ wd ≠ "is"))) := by
  cases r with
  | any h => exact ⟨_, _, _, rfl, h, .inr ⟨by decide +kernel, by decide +kernel, .inr (by decide +kernel)⟩⟩
  | rcd h g => exact ⟨_, _, _, rfl, h, .inr ⟨by decide +kernel, by decide +kernel, .inr (by decide +kernel)⟩⟩
  | list h => exact ⟨_, _, _, rfl, h, .inl ⟨.inr rfl, some _, _, rfl⟩⟩
  | num h => exact ⟨_, _, _, rfl, h, .inl ⟨.inl rfl, _, _, rfl⟩⟩
  | text h => exact ⟨_, _, _, rfl, h, .inr ⟨by decide +kernel, by decide +kernel, .inr (by decide +kernel)⟩⟩
  | isI h => exact ⟨_, _, _, rfl, h, .inr ⟨by decide +kernel, by decide +kernel, .inl ⟨rfl, _, rfl, .inl ⟨_, rfl⟩⟩⟩⟩
  | isS h => exact ⟨_, _, _, rfl, h, .inr ⟨by decide +kernel, by decide +kernel, .inl ⟨rfl, _, rfl, .inr ⟨_, rfl⟩⟩⟩⟩
def spHead : Sp := fun vs H Q _ => ∃ (p : Addr) (v : V) (t : Test), vs = [.ref p, v] ∧ Pool H p ∧ RT H v t ∧ ∀ x H' h, Ex H H' → RH H' x h → Q x H'
theorem sc__law_head : FnScope ["_law_pool", "_law_test_here", "_law_way", "_law_ends", "_law_near", "_law_leaf_here", "_law_one"] ["_law_pool", "_law_test_here"] (defScope s__law_head) := ⟨rfl, rfl, rfl, by decide +kernel, rfl, by decide +kernel, by decide +kernel⟩
theorem bi__law_head : BindsEq "_law_head" s__law_head ["_law_pool", "_law_test_here"] := fun _ _ _ _ _ _ us hl => match us, hl with | [_, _], _ => rfl
theorem ok_head (F : Df K mg "_law_head" s__law_head) (T : Txt K mg) (C__law_draw : Cal P w K mg base CX0 1 "_law_draw" spDraw) (C__law_leaf : Cal P w K mg base CX0 2 "_law_leaf" spLeaf) : Cal P w K mg base CX0 3 "_law_head" spHead := by
  refine cal0 F sc__law_head bi__law_head (fun vs H Q E h => ?_) (fun f cdv A outer s H vs Q E hr h => ?_)
  · obtain ⟨p, v, t, rfl, _⟩ := h
    rfl
  · obtain ⟨p, v, t, rfl, hp, rt, k⟩ := h
    obtain ⟨a, wd, rest, rfl, ha, ct⟩ := rt.ends
    refine ⟨_, (pss_cons (ps_set (i := 2) sc__law_head.nd rfl (Or.inl rfl) (pe_k C__law_draw hr (by decide) rfl (pa_cons (pv 0) (pa_cons pe_int pa_nil))))
 (Evl.pss_cut (ps_if (PW.pt (pw_and (pt_cmpR op_eq (pv 2) pe_int (nomark _)) (pw_and1 (pt_cmpR (inq K) (pe_ix (ixt K) (pv 1) pe_int (fun _ _ => rfl)) (pe_tup (pa_cons pe_str (pa_cons pe_str pa_nil))) (by rfl))))) (pss_cons (ps_set (i := 3) sc__law_head.nd rfl (Or.inl rfl) (pe_op op_cat (pe_lc (own := [("_law_one", 6)]) (by rfl) sc__law_head.nd (pit K (pe_slice sl_tup (pv 1) (po_some pe_int) po_none)) (blkOk_by (own := [("_law_one", 6)]) (N := ["_law_pool", "_law_test_here", "_law_way", "_law_ends", "_law_near", "_law_leaf_here", "_law_one"]) (sc := defScope s__law_head) (by decide +kernel)) (fun _ _ _ _ _ => (pg_name (i := 6) sc__law_head.nd rfl (Or.inl rfl))) (fun _ _ _ _ _ => (pts_one (pt_cmpR op_notN (pv 6) pe_non (nomark _)))) (fun _ _ _ _ _ => (pv 6))) (pe_lst (pa_cons pe_int pa_nil))))
 (pss_cons (ps_set (i := 4) sc__law_head.nd rfl (Or.inl rfl) (pe_op op_sub (pe_op op_add (pe_ix (ixl K) (pv 3) (pe_k C__law_draw hr (by decide) rfl (pa_cons (pv 0) (pa_cons (pe_callB (lnK K) rfl T.b_len (by decide +kernel) (pa_cons (pv 3) pa_nil)) pa_nil))) (fun _ _ => rfl)) (pe_k C__law_draw hr (by decide) rfl (pa_cons (pv 0) (pa_cons pe_int pa_nil)))) pe_int))
 (pss_one (ps_ret (pe_tup (pa_cons (pe_ix (ixt K) (pv 1) pe_int (fun _ _ => rfl)) (pa_cons (pe_ifExp (pt_cmpR op_eq (pe_ix (ixt K) (pv 1) pe_int (fun _ _ => rfl)) pe_str (nomark _)) (pe_callB (call_max2 rfl) rfl T.b_max (by decide +kernel) (pa_cons (pv 4) (pa_cons pe_int pa_nil))) (pv 4)) pa_nil))))))) pss_nil)
 (Evl.pss_cut (ps_if (PW.pt (pw_and (pt_cmpR op_eq (pv 2) pe_int (nomark _)) (pw_and1 (pt_cmpR op_eq (pe_ix (ixt K) (pv 1) pe_int (fun _ _ => rfl)) pe_str (nomark _))))) (pss_one (ps_ret (pe_ix (ixl K) (pe_lst (pa_cons (pe_tup (pa_cons pe_str (pa_cons (pe_ix (ixt K) (pv 1) pe_int (fun _ _ => rfl)) pa_nil))) (pa_cons (pe_tup (pa_cons pe_str (pa_cons (pe_ix (ixt K) (pv 1) pe_int (fun _ _ => rfl)) pa_nil))) pa_nil))) (pe_callTy call_int1 rfl T.b_int (by decide +kernel) (pa_cons (pe_callB (isiK K) rfl T.b_isinstance (by decide +kernel) (pa_cons (pe_ix (ixt K) (pv 1) pe_int (fun _ _ => rfl)) (pa_cons (pe_bltn (v := .ty "str") rfl T.b_str (by decide +kernel) rfl) pa_nil))) pa_nil)) (fun _ _ => rfl)))) pss_nil)
 (pss_cons (ps_if (pt_cmpR op_lt (pv 2) pe_int (nomark _)) (pss_one (ps_ret (pe_tup (pa_cons pe_str (pa_cons (pe_ix (ixl K) (pe_lst (pa_cons (pe_tup pa_nil) (pa_cons (pe_tup (pa_cons pe_str pa_nil)) (pa_cons (pe_tup (pa_cons pe_str pa_nil)) (pa_cons (pe_tup (pa_cons pe_str (pa_cons pe_str pa_nil))) (pa_cons (pe_tup (pa_cons pe_str (pa_cons pe_str pa_nil))) (pa_cons (pe_tup (pa_cons pe_str (pa_cons pe_str (pa_cons pe_str (pa_cons pe_str pa_nil))))) pa_nil))))))) (pe_k C__law_draw hr (by decide) rfl (pa_cons (pv 0) (pa_cons pe_int pa_nil))) (fun _ _ => rfl)) pa_nil))))) pss_nil)
 (pss_cons (ps_if (pt_cmpR op_eq (pv 2) pe_int (nomark _)) (pss_one (ps_ret (pe_tup (pa_cons pe_str (pa_cons (pe_ix (ixl K) (pe_lst (pa_cons pe_int (pa_cons pe_int (pa_cons pe_int (pa_cons pe_int (pa_cons pe_int (pa_cons (pe_op op_pow pe_int pe_int) pa_nil))))))) (pe_k C__law_draw hr (by decide) rfl (pa_cons (pv 0) (pa_cons pe_int pa_nil))) (fun _ _ => rfl)) pa_nil))))) pss_nil)
 (pss_cons (ps_set (i := 5) sc__law_head.nd rfl (Or.inl rfl) (pe_k C__law_leaf hr (by decide) rfl (pa_cons (pv 0) pa_nil)))
 (pss_one (ps_ret (pe_ix (ixl K) (pe_lst (pa_cons (pe_tup (pa_cons pe_str (pa_cons (pv 5) pa_nil))) (pa_cons (pe_tup (pa_cons pe_str (pa_cons (pv 5) pa_nil))) pa_nil))) (pe_callTy call_int1 rfl T.b_int (by decide +kernel) (pa_cons (pe_callB (isiK K) rfl T.b_isinstance (by decide +kernel) (pa_cons (pv 5) (pa_cons (pe_bltn (v := .ty "str") rfl T.b_str (by decide +kernel) rfl) pa_nil))) pa_nil)) (fun _ _ => rfl)))))))))), ?_⟩
    refine ⟨_, rfl, p, 6, rfl, hp, by decide, by decide, fun y y0 y1 => ?_⟩
    have two : ∀ {x y : V}, [x, y].length ≤ sizeLine := szl (by show 2 ≤ 100000; decide)
    have one : ∀ {x : V}, [x].length ≤ sizeLine := szl (by show 1 ≤ 100000; decide)
    refine Evl.q_cut (M := fun σ' H' => σ' = [some (.ref p), some (.ref a), some (.int y), none, none, none, none] ∧ Ex H H') ?_ ?_
    · refine ⟨_, rfl, rfl, _, rfl, if_b (fun _ => ?_) (fun _ => ⟨rfl, Ex.refl H⟩)⟩
      refine ⟨_, rfl, a, _, _, _, rfl, rfl, SqTo ha, at_zero, two, fun p1 np1 => ?_⟩
      obtain ⟨H1, hH1, x0_1, h1⟩ := newH _ np1
      rw [hH1]
      clear hH1
      have f1 := np1
      refine ⟨p1, _, rfl, .inr (SqTo h1), rfl, rfl, _, rfl, ?_⟩
      rcases ct with ⟨hw, o1, o2, rfl⟩ | ⟨w1, w2, _⟩
      · refine if_t (by rcases hw with rfl | rfl <;> decide +kernel) ?_
        have hcut : cutV [V.str wd, oi o1, oi o2] (some 1) none = [oi o1, oi o2] := rfl
        refine ⟨_, rfl, 1, rfl, a, _, rfl, SqTo (x0_1 _ _ ha), (by show ¬ (HT.sIx 3 0 (some 1) = 0 ∧ HT.sIx 3 3 none = 3); decide), fun p2 np2 => ?_⟩
        rw [hcut]
        obtain ⟨H2, hH2, x1_2, h2⟩ := newH _ np2
        rw [hH2]
        clear hH2
        have x0_2 := x0_1.trans x1_2
        have f2 := ex_free x0_1 np2
        refine ⟨p2, rfl, ⟨_, SqTo h2⟩, fun D nD => lc_tup (K := K) (a := p2) (xs := [oi o1, oi o2]) (fun j H' => Ex H2 H' ∧ ∃ is : List Int, H' D = some (.lst (is.map V.int)) ∧ is.length ≤ j) ?_ ?_ ?_ ?_⟩
        · exact ⟨Ex.new nD, [], upd_same, Nat.le_refl _⟩
        · rintro j H' _ ⟨ex, _⟩
          exact SqTo (ex _ _ h2)
        · rintro j z H' hj ⟨ex, is, hD, hl⟩
          have hjl : j < 2 := (List.getElem?_eq_some_iff.mp hj).1
          obtain ⟨o, rfl⟩ : ∃ o : Option Int, z = oi o := by
            have hm := List.mem_of_getElem? hj
            simp only [List.mem_cons, List.not_mem_nil, or_false] at hm
            rcases hm with rfl | rfl
            · exact ⟨_, rfl⟩
            · exact ⟨_, rfl⟩
          cases o with
          | none => exact ⟨rfl, _, rfl, rfl, _, rfl, ex, is, hD, by omega⟩
          | some i =>
            refine ⟨rfl, _, rfl, rfl, _, rfl, _, rfl, _, hD, szlt (by rw [List.length_map]; omega), Ex.mut ex nD, is ++ [i], ?_, by rw [List.length_append]; show is.length + 1 ≤ j + 1; omega⟩
            rw [upd_same, List.map_append]
            rfl
        · rintro H3 ⟨x2_3, is, hD, hl⟩
          have x0_3 := x0_2.trans x2_3
          refine ⟨one, fun p4 np4 => ?_⟩
          obtain ⟨H4, hH4, x3_4, h4⟩ := newH _ np4
          rw [hH4]
          clear hH4
          have hl2 : is.length ≤ 2 := hl
          refine ⟨D, p4, _, _, rfl, rfl, x3_4 _ _ hD, h4, szl (by rw [List.length_map]; show is.length + 1 ≤ 100000; omega), fun p5 np5 => ?_⟩
          obtain ⟨H5, hH5, x4_5, h5⟩ := newH _ np5
          rw [hH5]
          clear hH5
          have x0_5 := (x0_3.trans x3_4).trans x4_5
          have e0 : is.map V.int ++ [V.int 0] = (is ++ [0]).map V.int := by rw [List.map_append]; rfl
          rw [e0] at h5
          refine ⟨_, rfl, _, rfl, _, rfl, _, _, rfl, .inl ⟨_, SqLo h5, rfl⟩, p, _, rfl, hp.ex x0_5, by rw [List.length_map, List.length_append]; show (0 : Int) < ((is.length + 1 : Nat) : Int); omega, by rw [List.length_map, List.length_append]; show ((is.length + 1 : Nat) : Int) ≤ _; omega, fun u u0 u1 => ?_⟩
          obtain ⟨x, hx, hm, _⟩ := at_some (xs := (is ++ [0]).map V.int) u0 u1
          obtain ⟨i, _, rfl⟩ := List.mem_map.mp hm
          refine ⟨p5, _, _, _, rfl, rfl, SqLo h5, hx, _, rfl, p, 3, rfl, hp.ex x0_5, by decide, by decide, fun d d0 d1 => ⟨_, _, rfl, rfl, _, _, rfl, rfl, ?_⟩⟩
          refine ⟨_, rfl, a, _, _, _, rfl, rfl, SqTo (x0_5 _ _ ha), at_zero, _, rfl, a, _, _, _, rfl, rfl, SqTo (x0_5 _ _ ha), at_zero, rfl, _, rfl, ?_⟩
          rcases hw with rfl | rfl
          · refine if_f (by decide +kernel) ⟨_, rfl, two, fun p6 np6 => ?_⟩
            obtain ⟨H6, hH6, x5_6, h6⟩ := newH _ np6
            rw [hH6]
            clear hH6
            exact k _ _ _ (x0_5.trans x5_6) (.num h6)
          · refine if_t (by decide +kernel) ⟨_, rfl, _, _, rfl, two, fun p6 np6 => ?_⟩
            obtain ⟨H6, hH6, x5_6, h6⟩ := newH _ np6
            rw [hH6]
            clear hH6
            exact k _ _ _ (x0_5.trans x5_6) (.list h6)
      · refine if_f ?_ ⟨rfl, x0_1⟩
        show inV (.str wd) ((["number", "list"] : List Str).map V.str) = false
        rw [inV_strs]
        simp [w1, w2]
    · rintro σ' H1 ⟨rfl, x0_1⟩
      refine Evl.q_cut (M := fun σ' H' => σ' = [some (.ref p), some (.ref a), some (.int y), none, none, none, none] ∧ Ex H H') ?_ ?_
      · refine ⟨_, rfl, rfl, _, rfl, if_b (fun _ => ?_) (fun _ => ⟨rfl, x0_1⟩)⟩
        refine ⟨_, rfl, a, _, _, _, rfl, rfl, SqTo (x0_1 _ _ ha), at_zero, rfl, _, rfl, ?_⟩
        rcases ct with ⟨hw, _⟩ | ⟨_, _, ⟨rfl, x, rfl, hx⟩ | w3⟩
        · refine if_f ?_ ⟨rfl, x0_1⟩
          rcases hw with rfl | rfl <;> decide +kernel
        · refine if_t (by decide +kernel) ?_
          refine ⟨_, rfl, a, _, _, _, rfl, rfl, SqTo (x0_1 _ _ ha), rfl, two, fun p2 np2 => ?_⟩
          obtain ⟨H2, hH2, x1_2, h2⟩ := newH _ np2
          rw [hH2]
          clear hH2
          have x0_2 := x0_1.trans x1_2
          have f2 := ex_free x0_1 np2
          refine ⟨_, rfl, a, _, _, _, rfl, rfl, SqTo (x0_2 _ _ ha), rfl, two, fun p3 np3 => ?_⟩
          obtain ⟨H3, hH3, x2_3, h3⟩ := newH _ np3
          rw [hH3]
          clear hH3
          have x0_3 := x0_2.trans x2_3
          have x1_3 := x1_2.trans x2_3
          have f3 := ex_free x0_2 np3
          refine ⟨two, fun p4 np4 => ?_⟩
          obtain ⟨H4, hH4, x3_4, h4⟩ := newH _ np4
          rw [hH4]
          clear hH4
          have x0_4 := x0_3.trans x3_4
          have x1_4 := x1_3.trans x3_4
          have x2_4 := x2_3.trans x3_4
          have f4 := ex_free x0_3 np4
          rcases hx with ⟨i, rfl⟩ | ⟨z, rfl⟩
          · exact ⟨_, rfl, a, _, _, _, rfl, rfl, SqTo (x0_4 _ _ ha), rfl, _, _, _, _, _, rfl, .ty "str", .base (.int i), is_is, .inr ⟨_, rfl, p4, _, _, _, rfl, rfl, SqLo h4, rfl, k _ _ _ x0_4 (.num (x2_4 _ _ h2))⟩⟩
          · exact ⟨_, rfl, a, _, _, _, rfl, rfl, SqTo (x0_4 _ _ ha), rfl, _, _, _, _, _, rfl, .ty "str", .base (.str z), is_ss, .inr ⟨_, rfl, p4, _, _, _, rfl, rfl, SqLo h4, rfl, k _ _ _ x0_4 (.text (x3_4 _ _ h3))⟩⟩
        · exact if_f (str_ne w3) ⟨rfl, x0_1⟩
      · rintro σ' H1 ⟨rfl, x0_1⟩
        refine ⟨_, rfl, _, _, rfl, rfl, _, rfl, if_b (fun _ => ?_) (fun _ => ?_)⟩
        · refine ⟨szl (by show 0 ≤ 100000; decide), fun p2 np2 => ?_⟩
          obtain ⟨H2, hH2, x1_2, h2⟩ := newH _ np2
          rw [hH2]
          clear hH2
          have x0_2 := x0_1.trans x1_2
          have f2 := ex_free x0_1 np2
          refine ⟨one, fun p3 np3 => ?_⟩
          obtain ⟨H3, hH3, x2_3, h3⟩ := newH _ np3
          rw [hH3]
          clear hH3
          have x0_3 := x0_2.trans x2_3
          have x1_3 := x1_2.trans x2_3
          have f3 := ex_free x0_2 np3
          refine ⟨one, fun p4 np4 => ?_⟩
          obtain ⟨H4, hH4, x3_4, h4⟩ := newH _ np4
          rw [hH4]
          clear hH4
          have x0_4 := x0_3.trans x3_4
          have x1_4 := x1_3.trans x3_4
          have x2_4 := x2_3.trans x3_4
          have f4 := ex_free x0_3 np4
          refine ⟨two, fun p5 np5 => ?_⟩
          obtain ⟨H5, hH5, x4_5, h5⟩ := newH _ np5
          rw [hH5]
          clear hH5
          have x0_5 := x0_4.trans x4_5
          have x1_5 := x1_4.trans x4_5
          have x2_5 := x2_4.trans x4_5
          have x3_5 := x3_4.trans x4_5
          have f5 := ex_free x0_4 np5
          refine ⟨two, fun p6 np6 => ?_⟩
          obtain ⟨H6, hH6, x5_6, h6⟩ := newH _ np6
          rw [hH6]
          clear hH6
          have x0_6 := x0_5.trans x5_6
          have x1_6 := x1_5.trans x5_6
          have x2_6 := x2_5.trans x5_6
          have x3_6 := x3_5.trans x5_6
          have x4_6 := x4_5.trans x5_6
          have f6 := ex_free x0_5 np6
          refine ⟨szl (by show 4 ≤ 100000; decide), fun p7 np7 => ?_⟩
          obtain ⟨H7, hH7, x6_7, h7⟩ := newH _ np7
          rw [hH7]
          clear hH7
          have x0_7 := x0_6.trans x6_7
          have x1_7 := x1_6.trans x6_7
          have x2_7 := x2_6.trans x6_7
          have x3_7 := x3_6.trans x6_7
          have x4_7 := x4_6.trans x6_7
          have x5_7 := x5_6.trans x6_7
          have f7 := ex_free x0_6 np7
          refine ⟨szl (by show 6 ≤ 100000; decide), fun p8 np8 => ?_⟩
          obtain ⟨H8, hH8, x7_8, h8⟩ := newH _ np8
          rw [hH8]
          clear hH8
          have x0_8 := x0_7.trans x7_8
          have x1_8 := x1_7.trans x7_8
          have x2_8 := x2_7.trans x7_8
          have x3_8 := x3_7.trans x7_8
          have x4_8 := x4_7.trans x7_8
          have x5_8 := x5_7.trans x7_8
          have x6_8 := x6_7.trans x7_8
          have f8 := ex_free x0_7 np8
          refine ⟨_, rfl, p, 6, rfl, hp.ex x0_8, by decide, by decide, fun u u0 u1 => ?_⟩
          obtain ⟨x, hx, hm, _⟩ := at_some (xs := [V.ref p2, V.ref p3, V.ref p4, V.ref p5, V.ref p6, V.ref p7]) u0 u1
          refine ⟨p8, _, _, _, rfl, rfl, SqLo h8, hx, two, fun p9 np9 => ?_⟩
          obtain ⟨H9, hH9, x8_9, h9⟩ := newH _ np9
          rw [hH9]
          clear hH9
          have x0_9 := x0_8.trans x8_9
          have x1_9 := x1_8.trans x8_9
          have x2_9 := x2_8.trans x8_9
          have x3_9 := x3_8.trans x8_9
          have x4_9 := x4_8.trans x8_9
          have x5_9 := x5_8.trans x8_9
          have x6_9 := x6_8.trans x8_9
          have x7_9 := x7_8.trans x8_9
          have f9 := ex_free x0_8 np9
          simp only [List.mem_cons, List.not_mem_nil, or_false] at hm
          rcases hm with rfl | rfl | rfl | rfl | rfl | rfl
          · exact k _ _ _ x0_9 (.rcd (fs := []) h9 (x2_9 _ _ h2))
          · exact k _ _ _ x0_9 (.rcd (fs := ["a"]) h9 (x3_9 _ _ h3))
          · exact k _ _ _ x0_9 (.rcd (fs := ["b"]) h9 (x4_9 _ _ h4))
          · exact k _ _ _ x0_9 (.rcd (fs := ["a", "b"]) h9 (x5_9 _ _ h5))
          · exact k _ _ _ x0_9 (.rcd (fs := ["ab", "b"]) h9 (x6_9 _ _ h6))
          · exact k _ _ _ x0_9 (.rcd (fs := ["a", "ab", "b", "zz"]) h9 (x7_9 _ _ h7))
        refine ⟨_, rfl, rfl, _, rfl, if_b (fun _ => ?_) (fun _ => ?_)⟩
        · refine ⟨_, _, rfl, rfl, cp30, szl (by show 6 ≤ 100000; decide), fun p2 np2 => ?_⟩
          obtain ⟨H2, hH2, x1_2, h2⟩ := newH _ np2
          rw [hH2]
          clear hH2
          have x0_2 := x0_1.trans x1_2
          have f2 := ex_free x0_1 np2
          refine ⟨_, rfl, p, 6, rfl, hp.ex x0_2, by decide, by decide, fun u u0 u1 => ?_⟩
          obtain ⟨x, hx, hm, _⟩ := at_some (xs := ([0, 1, 2, 3, 4, 10 ^ (30 : Int).toNat] : List Int).map V.int) u0 u1
          obtain ⟨i, _, rfl⟩ := List.mem_map.mp hm
          refine ⟨p2, _, _, _, rfl, rfl, SqLo h2, hx, two, fun p3 np3 => ?_⟩
          obtain ⟨H3, hH3, x2_3, h3⟩ := newH _ np3
          rw [hH3]
          clear hH3
          have x0_3 := x0_2.trans x2_3
          have x1_3 := x1_2.trans x2_3
          have f3 := ex_free x0_2 np3
          exact k _ _ _ x0_3 (.list h3)
        · refine ⟨_, rfl, p, rfl, hp.ex x0_1, fun z H2 x1_2 hz => ?_⟩
          have x0_2 := x0_1.trans x1_2
          refine ⟨_, rfl, two, fun p3 np3 => ?_⟩
          obtain ⟨H3, hH3, x2_3, h3⟩ := newH _ np3
          rw [hH3]
          clear hH3
          have x0_3 := x0_2.trans x2_3
          have x1_3 := x1_2.trans x2_3
          have f3 := ex_free x0_2 np3
          refine ⟨_, rfl, two, fun p4 np4 => ?_⟩
          obtain ⟨H4, hH4, x3_4, h4⟩ := newH _ np4
          rw [hH4]
          clear hH4
          have x0_4 := x0_3.trans x3_4
          have x1_4 := x1_3.trans x3_4
          have x2_4 := x2_3.trans x3_4
          have f4 := ex_free x0_3 np4
          refine ⟨two, fun p5 np5 => ?_⟩
          obtain ⟨H5, hH5, x4_5, h5⟩ := newH _ np5
          rw [hH5]
          clear hH5
          have x0_5 := x0_4.trans x4_5
          have x1_5 := x1_4.trans x4_5
          have x2_5 := x2_4.trans x4_5
          have x3_5 := x3_4.trans x4_5
          have f5 := ex_free x0_4 np5
          rcases hz with ⟨i, rfl⟩ | ⟨z, rfl, _⟩
          · exact ⟨_, rfl, _, _, _, _, _, rfl, .ty "str", .base (.int i), is_is, .inr ⟨_, rfl, p5, _, _, _, rfl, rfl, SqLo h5, rfl, k _ _ _ x0_5 (.num (x3_5 _ _ h3))⟩⟩
          · exact ⟨_, rfl, _, _, _, _, _, rfl, .ty "str", .base (.str z), is_ss, .inr ⟨_, rfl, p5, _, _, _, rfl, rfl, SqLo h5, rfl, k _ _ _ x0_5 (.text (x4_5 _ _ h4))⟩⟩
end
end K44

namespace LW
open PySem PySem.Spec L2
open Evl (Ex)
/-! ### exception classes of the program, with an __init__ of their own -/
def oexB (K : PySem.W.Frag) (C : Addr) : Bool := (match K.lookup C with
  | some ⟨.type "type", _, .cls cd, sl⟩ => (match cd.mro, sl.toList with
    | .ref C' :: bm, [_, _, _, _, some (.builtin n), _] => C' == C && n == "ValueError.__new__" && !cd.hasDel && PySem.HandSPX.refsVE bm && cd.hasDict
    | _, _ => false)
  | _ => false) && (He.eqO (PySem.W.findIn K (.ref C) "__setattr__") (some (some (.builtin "object.__setattr__"))) && (decide (PySem.W.subIn K (.ref C) (.type "BaseException") = some true) && (decide (PySem.W.typeIn K (.ref C) = some (.type "type")) && PySem.W.keepIn K (.ref C))))
theorem oexB_ok {K : PySem.W.Frag} {C : Addr} (h : oexB K C = true) : OexC K C := by
  obtain ⟨q, h⟩ := He.ba h
  obtain ⟨h1, h⟩ := He.ba h
  obtain ⟨h2, h⟩ := He.ba h
  obtain ⟨h3, h4⟩ := He.ba h
  refine ⟨?_, He.eqO_ok h1, of_decide_eq_true h2, of_decide_eq_true h3, h4⟩
  split at q
  · rename_i dd cd sl ho
    split at q
    · rename_i C' bm k0 k1 k2 k3 n k5 hm hs
      simp only [Bool.and_eq_true, beq_iff_eq, Bool.not_eq_true'] at q
      obtain ⟨⟨⟨⟨rfl, rfl⟩, hdel⟩, ht⟩, hdd⟩ := q
      obtain ⟨nm, bs, mro, ns, qn, hd, sn, sub, ab, col, del⟩ := cd
      dsimp only at hm hdel hdd
      subst hm hdel hdd
      have hsl : sl = #[k0, k1, k2, k3, some (.builtin "ValueError.__new__"), k5] := by
        obtain ⟨l⟩ := sl
        simp only at hs
        rw [hs]
      subst hsl
      exact ⟨nm, qn, ns, bs, bm, sn, sub, ab, col, dd, k0, k1, k2, k3, k5, ho, ht⟩
    · cases q
  · cases q
def excB (K : PySem.W.Frag) (D : Addr) : Bool := xfB K D && (He.eqO (PySem.W.findIn K (.ref D) "__class__") (some (some (.builtin "object.__class__"))) && (He.eqO (PySem.W.specialIn K (.builtin "object.__class__") "__get__") (some (some (.builtin "getset_descriptor.__get__"))) &&
  (decide (PySem.W.takesIn K (.builtin "object.__class__") = some true) && (decide (PySem.W.mroIn K D (.type "object") = some true) && (PySem.W.clsIn K D).isSome))))
structure ExcD (K : PySem.W.Frag) (D : Addr) : Prop where
  xf : XfC K D
  ha : PySem.W.findIn K (.ref D) "__class__" = some (some (.builtin "object.__class__"))
  hn : PySem.W.specialIn K (.builtin "object.__class__") "__get__" = some (some (.builtin "getset_descriptor.__get__"))
  ht : PySem.W.takesIn K (.builtin "object.__class__") = some true
  hm : PySem.W.mroIn K D (.type "object") = some true
  hc : (PySem.W.clsIn K D).isSome = true
theorem excB_ok {K : PySem.W.Frag} {D : Addr} (h : excB K D = true) : ExcD K D := by
  obtain ⟨h1, h⟩ := He.ba h
  obtain ⟨h2, h⟩ := He.ba h
  obtain ⟨h3, h⟩ := He.ba h
  obtain ⟨h4, h⟩ := He.ba h
  obtain ⟨h5, h6⟩ := He.ba h
  exact ⟨xfB_ok h1, He.eqO_ok h2, He.eqO_ok h3, of_decide_eq_true h4, of_decide_eq_true h5, h6⟩
/-- isinstance(e, c), e the exception that the suite holds (with a dict of its own or without) -/
def rIsX (K : PySem.W.Frag) (cls : Value) (d : Option Addr) (a : Addr) : List V → Hp → VK → Prop := fun xs H Q => ∃ (D : Addr) (c : V) (cv : Value) (b : Bool), xs = [.ref a, c] ∧ cls = .ref D ∧ ExcD K D ∧ (∀ dd, d = some dd → ∃ fs, H dd = some (.xd fs)) ∧ ClsV c cv ∧ PySem.W.kitOne K (.ref D) cv = some b ∧ Q (.bl b) H
theorem call_isX {X : Cx} {a : Addr} {oe : Obj} {cls : Value} {d : Option Addr} {pn : List (Addr × Obj)} (hz : Zc cls d oe) (hf : ∃ vs, oe.data = .fields vs) : CallR (X.suite a ((a, oe) :: pn)) (.builtin "isinstance") (rIsX X.K cls d a) := by
  intro pins s σ H xs us Q I r h
  obtain ⟨D, c, cv, b, rfl, rfl, C, hdd, kc, e, q⟩ := h
  obtain ⟨u1, u2, rfl, r1, r2⟩ := vals2 r
  cases r1
  have ec := kc.eq r2
  subst ec
  obtain ⟨hget, _⟩ := I.pin (a, oe) (List.mem_append.mpr (.inl List.mem_cons_self))
  obtain ⟨vs, hv⟩ := hf
  have J : ∃ od, PySem.W.InstAt s.heap a oe D od := by
    cases d with
    | none => exact ⟨none, hget, hz.1, by unfold PySem.W.notCls; rw [hv] <;> rfl, by rw [hz.2]; trivial⟩
    | some dd =>
      obtain ⟨fs, hfs⟩ := hdd dd rfl
      obtain ⟨mA, hns, _⟩ := (show ObjOk X.prog X.w H s.heap dd (.xd fs) from I.hok dd _ hfs)
      obtain ⟨od, ho, _⟩ := lookIn_ns hns
      exact ⟨some od, hget, hz.1, by unfold PySem.W.notCls; rw [hv] <;> rfl, by rw [hz.2]; exact ho⟩
  obtain ⟨od, J⟩ := J
  exact PySem.W.kia_one (PySem.W.kitx_exc C.hc C.xf.ga C.xf.gg C.xf.exC C.ha C.hn C.ht C.hm) I.kIn J e (fun z => nomatch z) fun tk => ⟨.bl b, H, I.kept (t' := tk) fun _ _ z => z, rfl, q⟩
/-- e.f in the suite, K told, the class found at the reading -/
def tXg (K : PySem.W.Frag) (a : Addr) (cls : Value) (d : Option Addr) (f : Str) (te : TE) : TE := fun σ H Q => te σ H fun x H1 => x = .ref a ∧ ∃ (C dd : Addr) (fs : List (Str × V)) (v : V), cls = .ref C ∧ XfC K C ∧ PySem.W.findIn K (.ref C) f = some none ∧ d = some dd ∧ H1 dd = some (.xd fs) ∧ fs.lookup f = some v ∧ Q v H1
theorem pe_xg {X : Cx} {a : Addr} {oe : Obj} {cls : Value} {d : Option Addr} {pn : List (Addr × Obj)} {e : Expr} {te : TE} {pos : Pos} {n : Str}
    (hz : Zc cls d oe) (hf : ∃ vs, oe.data = .fields vs) (he : PE (X.suite a ((a, oe) :: pn)) e te) (hb : attributeBase e n X.env (eval e X.env) = eval e X.env := by rfl) :
    PE (X.suite a ((a, oe) :: pn)) (.Attribute e n pos) (tXg X.K a cls d n te) := by
  refine ⟨fun pins s σ H Q I h => ?_⟩
  have h' : ∃ C, te σ H fun x H1 => x = .ref a ∧ ∃ (C dd : Addr) (fs : List (Str × V)) (v : V), cls = .ref C ∧ XfC X.K C ∧ PySem.W.findIn X.K (.ref C) n = some none ∧ d = some dd ∧ H1 dd = some (.xd fs) ∧ fs.lookup n = some v ∧ Q v H1 := ⟨a, h⟩
  refine attr_of hb (thn (he.run pins s σ H _ I h) fun u s1 hh => ?_)
  obtain ⟨x, H1, I1, rx, ex, C, dd, fs, v, ec, T, hno, ed, ea, l, q⟩ := hh
  subst ex
  obtain rfl : u = Value.ref a := rx
  subst ec
  subst ed
  obtain ⟨ha, _⟩ := I1.pin (a, oe) (List.mem_append_left _ List.mem_cons_self)
  obtain ⟨vs, hd⟩ := hf
  have hx : ObjOk X.prog X.w H1 s1.heap dd (.xd fs) := I1.hok dd _ ea
  obtain ⟨mA, hns, hr⟩ := hx
  obtain ⟨od, ho, hl⟩ := lookIn_ns hns
  obtain ⟨u, hu, ru⟩ := RelO.some_of (v := v) (o := mA n) (by rw [← l]; exact hr n)
  have J : PySem.W.InstAt s1.heap a oe C (some od) := ⟨ha, hz.1, by unfold PySem.W.notCls; rw [hd] <;> rfl, by rw [hz.2]; exact ho⟩
  exact HandSPX.exc_get I1.kIn J T.ga T.gg T.exC (PySem.W.findObj_own T.hdC hno rfl (by rw [hl, hu])) (handed_of ru) ⟨v, H1, I1.tok _, ru, q⟩
/-! ### __init__ of such a class: self.f = f, one field -/
structure XCl (K : PySem.W.Frag) (mg : Str → Option Value) (x : Str) (C : Addr) : Prop where
  gC : mg x = some (.ref C)
  ox : OexC K C
  xd : ExcD K C
/-- what __init__ promises: the new exception at a gets its dict -/
def spXI (K : PySem.W.Frag) (C : Addr) (f : Str) : Sp := fun vs H Q _ => ∃ (a : Addr) (v : V), vs = [.ref a, v] ∧ H a = some (exo a C none) ∧ ∀ dx, H dx = none → dx ≠ a → Q .non (upd (upd H dx (exd dx [(f, v)])) a (exo a C (some dx)))
/-- the class's maker -/
structure XMk (P : Program) (w : World) (K : PySem.W.Frag) (mg : Str → Option Value) (base : Heap) (k : Nat) (x : Str) (C : Addr) (f : Str) : Prop where
  cl : XCl K mg x C
  ex : ∃ (fI : Addr) (fd : FuncData) (ps : List Str), PySem.W.findIn K (.ref C) "__init__" = some (some (.ref fI)) ∧ PySem.W.typeIn K (.ref fI) = some (.type "function") ∧ FnOk P w K mg base CX0 k fI fd ps (spXI K C f) ∧ Binds K fd ps []
  no : PySem.W.findIn K (.ref C) f = some none
section
variable {X : Cx} {k j : Nat} {C : Addr} {x f : Str} {e : Expr} {ta : TA} {p pos pos2 : Pos}
theorem pmk_x (M : XMk X.prog X.w X.K X.mg X.base k x C f) (hr : Room j X.A) (hj : k + 1 ≤ j) (hg : Gl X x) (ha : PA X [e] ta) (hdb : (x == ("__debug__" : Str)) = false := by decide)
    (he : starEach [e] X.env = (false, eval e X.env) :: starEach [] X.env := by rfl) (hpl : (backTo pos (starEach [] X.env)).any (·.1) = false := by rfl) : PMk X (.Call (.Name x p) [e] [] pos) (tMkO C (spXI X.K C f) [] ta) := by
  obtain ⟨fI, fd, ps, iC, tI, F1, hb⟩ := M.ex
  exact pmk_oex M.cl.ox iC tI F1 (hr.mono hj) hb .nil (pass0) hg M.cl.gC ha hdb he hpl
end
/-- what the making leaves: a new dict with the field -/
theorem xmk_go {K : PySem.W.Frag} {C : Addr} {f : Str} {v : V} {H1 : Hp} {Q : XK} (h : ∀ d H2, H1 d = none → Ex H1 H2 → H2 d = some (.xd [(f, v)]) → Q (.ref C) (some d) H2) :
    [v].length ≤ 1000 ∧ ∀ a, H1 a = none → spXI K C f (.ref a :: ([v] ++ [])) (upd H1 a (exo a C none)) (fun v' H2 => v' = .non ∧ ∃ (d : Addr) (fs : List (Str × V)), H2 a = some (exo a C (some d)) ∧ H2 d = some (exd d fs) ∧ H1 d = none ∧ Q (.ref C) (some d) (upd (del H2 a) d (.xd fs))) (fun _ _ _ => False) := by
  refine ⟨by show 1 ≤ 1000; decide, fun a na => ⟨a, v, rfl, upd_same, fun dx ndx ne => ?_⟩⟩
  rw [upd_ne ne] at ndx
  refine ⟨rfl, dx, [(f, v)], upd_same, by rw [upd_ne ne, upd_same], ndx, h dx _ ndx (fun b o q => ?_) upd_same⟩
  have hb : b ≠ a := ne_of_none q na
  rw [upd_ne (ne_of_none q ndx), del_ne hb, upd_ne hb, upd_ne (ne_of_none q ndx), upd_ne hb]
  exact q
/-! ### methods of a class -/
structure Mt (P : Program) (w : World) (K : PySem.W.Frag) (mg : Str → Option Value) (base : Heap) (CX : CXT) (k : Nat) (C : Addr) (m : Str) (sp : Sp) : Prop where
  ex : ∃ (g : Addr) (fd : FuncData) (ps : List Str), Cls K C ∧ Meth K C m g ∧ FnOk P w K mg base CX k g fd ps sp ∧ Binds K fd ps []
/-- a method as the top leaves it -/
structure Dm_ (K : PySem.W.Frag) (C : Addr) (m qual : Str) (st : Stmt) : Prop where
  ex : ∃ (g : Addr) (fd : FuncData), FunD K m qual (defArgs st) (defBody st) (defScope st) [] [] g fd ∧ Meth K C m g
def BindsM (m qual : Str) (st : Stmt) (ps : List Str) : Prop := ∀ (kV doc pm : Value) (an : Option Addr) (cdv ct : Value) (us : List Value), us.length = ps.length →
  bindArgs (PySem.W.fnOf m qual (defArgs st) (defBody st) (defScope st) .none kV doc pm an cdv ct) ⟨us, []⟩ = pure (ps.zip us)
section
variable {P : Program} {w : World} {K : PySem.W.Frag} {mg : Str → Option Value} {base : Heap} {C : Addr} {m qual : Str} {st : Stmt} {N ps : List Str} {k : Nat} {sp : Sp}
theorem mt0 (c : Cls K C) (F : Dm_ K C m qual st) (S : FnScope N ps (defScope st)) (hb : BindsM m qual st ps) (len : ∀ vs H Q E, sp vs H Q E → vs.length = ps.length)
    (hbody : ∀ (f : Addr) (cdv : Value) (A : Around) (outer : List Env) (s : Shared) (H : Hp) (vs : List V) (Q : VK) (E : XK), Room k (A.deeper (PyProof.Rows.envOfC qual (defScope st) s.heap.objs.size f cdv)) → sp vs H Q E →
      ∃ t, PSs (cxOf CX0 P w K mg base N qual (defScope st) f cdv A outer s H E).nox (defBody st) t ∧ t { nx := fun _ H' => Q .non H', rt := Q } (start N vs) H) : Mt P w K mg base CX0 (k + 1) C m sp := by
  obtain ⟨g, fd, F, hm⟩ := F.ex
  exact ⟨g, fd, ps, c, hm, F.ok S len (fun cdv A outer s H vs Q E hr h => by
    obtain ⟨t, h1, h2⟩ := hbody g cdv A outer s H vs Q E hr h
    exact ⟨t, h1.nox, h2⟩), F.bindsN hb⟩
theorem mtX (c : Cls K C) (F : Dm_ K C m qual st) (S : FnScope N ps (defScope st)) (hb : BindsM m qual st ps) (len : ∀ vs H Q E, sp vs H Q E → vs.length = ps.length)
    (hbody : ∀ (f : Addr) (cdv : Value) (A : Around) (outer : List Env) (s : Shared) (H : Hp) (vs : List V) (Q : VK) (E : XK), Room k (A.deeper (PyProof.Rows.envOfC qual (defScope st) s.heap.objs.size f cdv)) → sp vs H Q E →
      ∃ t, PSs (cxOf (L2.CX P w) P w K mg base N qual (defScope st) f cdv A outer s H E) (defBody st) t ∧ t { nx := fun _ H' => Q .non H', rt := Q } (start N vs) H) : Mt P w K mg base (L2.CX P w) (k + 1) C m sp := by
  obtain ⟨g, fd, F, hm⟩ := F.ex
  exact ⟨g, fd, ps, c, hm, F.ok S len (fun cdv A outer s H vs Q E hr h => hbody g cdv A outer s H vs Q E hr h), F.bindsN hb⟩
/-- X(e): an instance, its __init__ by the promise sp -/
structure Mkr (P : Program) (w : World) (K : PySem.W.Frag) (mg : Str → Option Value) (base : Heap) (CX : CXT) (k : Nat) (x : Str) (C : Addr) (sp : Sp) : Prop where
  ex : ∃ (f : Addr) (fd : FuncData) (ps : List Str), Mk K C f ∧ FnOk P w K mg base CX k f fd ps sp ∧ mg x = some (.ref C) ∧ Binds K fd ps []
end
section
variable {X : Cx} {CX : CXT} {k j : Nat} {C : Addr} {m x : Str} {sp : Sp} {E : XK} {o e : Expr} {es : List Expr} {to : TE} {t : TA} {p apos pos : Pos} {pl : Sem Bool}
/-- o.m(e, ..), what is raised passing as E -/
theorem pe_mx (c : Mt X.prog X.w X.K X.mg X.base CX k C m sp) (hr : Room j X.A) (hk : k ≤ j) (hx : Passes CX X E) (he : PE X o to) (ha : PA X (e :: es) t)
    (hst : starEach (e :: es) X.env = (false, eval e X.env) :: starEach es X.env := by rfl) (hpl : (backTo pos (starEach es X.env)).any (·.1) = false := by rfl)
    (ht : eval (.Call (.Attribute o m apos) (e :: es) [] pos) X.env = (do
      let ov ← eval o X.env
      standAt apos.atName
      let (f, first) ← holding [ov] (getMethod ov m pl)
      callWith pos f first (backTo pos (starEach (e :: es) X.env)) (backToKw pos (keywordEach [] X.env))) := by rfl) :
    PE X (.Call (.Attribute o m apos) (e :: es) [] pos) (tMeth C m sp [] E to t) := by
  obtain ⟨g, fd, ps, cl, hm, F, b⟩ := c.ex
  exact pe_meth (pl := pl) he cl hm F (hr.mono hk) b .nil hx ha hst hpl ht
theorem pe_mkr (c : Mkr X.prog X.w X.K X.mg X.base CX k x C sp) (hr : Room j X.A) (hk : k + 1 ≤ j) (hx : Passes CX X E) (hg : Gl X x) (ha : PA X (e :: es) t)
    (hdb : (x == ("__debug__" : Str)) = false := by decide) (he : starEach (e :: es) X.env = (false, eval e X.env) :: starEach es X.env := by rfl) (hpl : (backTo pos (starEach es X.env)).any (·.1) = false := by rfl) :
    PE X (.Call (.Name x p) (e :: es) [] pos) (tMake C sp [] E t) := by
  obtain ⟨f, fd, ps, M, F, hm, b⟩ := c.ex
  exact pe_make M F (hr.mono hk) hg hm b .nil hx ha hdb he hpl
/-- f(e, ..), what is raised wished for at the slots -/
theorem pe_kS {W : WX} (c : Cal X.prog X.w X.K X.mg X.base (L2.CX X.prog X.w) k x sp) (hr : Room j X.A) (hk : k ≤ j) (tk : Takes X W) (hg : Gl X x) (ha : PA X (e :: es) t)
    (hdb : (x == ("__debug__" : Str)) = false := by decide) (he : starEach (e :: es) X.env = (false, eval e X.env) :: starEach es X.env := by rfl) (hpl : (backTo pos (starEach es X.env)).any (·.1) = false := by rfl) :
    PE X (.Call (.Name x p) (e :: es) [] pos) (tCallS sp (WE W) t) := by
  obtain ⟨f, fd, ps, F, hm, kp, b⟩ := c.ex
  exact pe_callS F (hr.mono hk) hg hm kp b (fun σ => passAt tk σ) ha hdb he hpl
end
end LW

namespace K44
open PySem PySem.Spec L2 LW
open Evl (Ex)
/-! ### kids as data -/
def kidW : Kid → Str
  | .field _ => "field"
  | .item _ => "item"
  | .fields => "fields"
  | .items => "items"
theorem kid_ne {k1 k2 : Kid} (h : k1 ≠ k2) : PyData.eqv k1.d k2.d = false := by
  cases k1 <;> cases k2 <;> first
    | exact absurd rfl h
    | (simp only [Kid.d, PyData.eqv, PyData.eqvAll]; decide +kernel)
    | (simp only [Kid.d, PyData.eqv, PyData.eqvAll]
       simp only [ne_eq, Kid.field.injEq, Kid.item.injEq] at h
       simp [h])
theorem kid_lay {k : Kid} (h : k.Ok) : PyData.canLay0 k.d = true := by
  cases k with
  | field s =>
    have h' : PyData.strOk s = true := h
    simp only [Kid.d, PyData.canLay0, PyData.canLayAll0, h']
    decide +kernel
  | item i => simp only [Kid.d, PyData.canLay0, PyData.canLayAll0]; decide +kernel
  | fields => simp only [Kid.d, PyData.canLay0, PyData.canLayAll0]; decide +kernel
  | items => simp only [Kid.d, PyData.canLay0, PyData.canLayAll0]; decide +kernel
theorem kid_depth (k : Kid) : k.d.depth ≤ 2 := by
  cases k <;> simp [Kid.d, PyData.depth, PyData.depthAll]
theorem lay_all {β : Type} {f : β → PyData} : ∀ {l : List β}, (∀ x ∈ l, PyData.canLay0 (f x) = true) → PyData.canLayAll0 (l.map f) = true
  | [], _ => rfl
  | a :: l, h => by
    rw [List.map_cons, PyData.canLayAll0, h a List.mem_cons_self, lay_all (l := l) fun x hx => h x (List.mem_cons_of_mem _ hx)]
    rfl
theorem depth_all {β : Type} {f : β → PyData} {n : Nat} : ∀ {l : List β}, (∀ x ∈ l, (f x).depth ≤ n) → PyData.depthAll (l.map f) ≤ n
  | [], _ => by simp [PyData.depthAll]
  | a :: l, h => by
    have h1 := h a List.mem_cons_self
    have h2 := depth_all (l := l) fun x hx => h x (List.mem_cons_of_mem _ hx)
    rw [List.map_cons, PyData.depthAll]
    omega
theorem shaped_of {d : PyData} (h : PyData.canLay0 d = true) (hd : d.depth ≤ 64) : SeqAt.shaped d = true := by
  unfold SeqAt.shaped
  rw [h, decide_eq_true hd]
  rfl
theorem kids_dp {K : PySem.W.Frag} {H : Hp} {a : Addr} {ys : List V} {l : List Kid} (h : H a = some (.lst ys)) (r : Paired (RKid H) ys l) : Dp K H (.ref a) (.list (l.map Kid.d)) := .lst (SqLo h) (dpAll (fun _ _ q => RKid.dp q) r)
theorem kids_shaped {l : List Kid} (h : ∀ k ∈ l, k.Ok) : SeqAt.shaped (.list (l.map Kid.d)) = true := by
  refine shaped_of ?_ ?_
  · rw [PyData.canLay0]
    exact lay_all fun k hk => kid_lay (h k hk)
  · have := depth_all (f := Kid.d) (n := 2) (l := l) fun x _ => kid_depth x
    rw [PyData.depth]
    omega
theorem kidW_at {k : Kid} : atI (kidV k) 0 = some (.str (kidW k)) := by cases k <;> rfl
theorem kw_fields {k : Kid} (h : kidW k = "fields") : k = .fields := by
  cases k with
  | fields => rfl
  | field s => exact absurd (show ("field" : Str) = "fields" from h) (by decide +kernel)
  | item s => exact absurd (show ("item" : Str) = "fields" from h) (by decide +kernel)
  | items => exact absurd (show ("items" : Str) = "fields" from h) (by decide +kernel)
theorem kw_field {k : Kid} (h : kidW k = "field") : ∃ s, k = .field s := by
  cases k with
  | fields => exact absurd (show ("fields" : Str) = "field" from h) (by decide +kernel)
  | field s => exact ⟨s, rfl⟩
  | item s => exact absurd (show ("item" : Str) = "field" from h) (by decide +kernel)
  | items => exact absurd (show ("items" : Str) = "field" from h) (by decide +kernel)
theorem kw_items {k : Kid} (h : kidW k = "items") : k = .items := by
  cases k with
  | items => rfl
  | field s => exact absurd (show ("field" : Str) = "items" from h) (by decide +kernel)
  | item s => exact absurd (show ("item" : Str) = "items" from h) (by decide +kernel)
  | fields => exact absurd (show ("fields" : Str) = "items" from h) (by decide +kernel)
theorem kw_item {k : Kid} (h : kidW k = "item") : ∃ s, k = .item s := by
  cases k with
  | fields => exact absurd (show ("fields" : Str) = "item" from h) (by decide +kernel)
  | item s => exact ⟨s, rfl⟩
  | field s => exact absurd (show ("field" : Str) = "item" from h) (by decide +kernel)
  | items => exact absurd (show ("items" : Str) = "item" from h) (by decide +kernel)
theorem nr_f {l : List Kid} (h : NoRep l) (a : (l.map kidW).contains "fields" = true) : (l.map kidW).contains "field" = false := by
  rw [List.contains_iff_mem] at a
  refine Bool.eq_false_iff.mpr fun b => ?_
  rw [List.contains_iff_mem] at b
  obtain ⟨k1, m1, e1⟩ := List.mem_map.mp a
  obtain ⟨k2, m2, e2⟩ := List.mem_map.mp b
  rw [kw_fields e1] at m1
  obtain ⟨s, rfl⟩ := kw_field e2
  exact h.f _ m1 m2
theorem nr_i {l : List Kid} (h : NoRep l) (a : (l.map kidW).contains "items" = true) : (l.map kidW).contains "item" = false := by
  rw [List.contains_iff_mem] at a
  refine Bool.eq_false_iff.mpr fun b => ?_
  rw [List.contains_iff_mem] at b
  obtain ⟨k1, m1, e1⟩ := List.mem_map.mp a
  obtain ⟨k2, m2, e2⟩ := List.mem_map.mp b
  rw [kw_items e1] at m1
  obtain ⟨s, rfl⟩ := kw_item e2
  exact h.i _ m1 m2
section
variable {P : Program} {w : World} {K : PySem.W.Frag} {mg : Str → Option Value} {base : Heap}
/-! ### has_repeats -/
def spReps : Sp := fun vs H Q _ => ∃ (v : V) (l : List Visit), vs = [v] ∧ RVisL H v l ∧ NoRep (l.map (·.1)) ∧ l.length ≤ 20 ∧ ∀ H', Ex H H' → Q (.bl false) H'
theorem sc_has_repeats : FnScope ["visits", "children", "child", "point", "words"] ["visits"] (defScope s_has_repeats) := ⟨rfl, rfl, rfl, by decide +kernel, rfl, by decide +kernel, by decide +kernel⟩
theorem bi_has_repeats : BindsEq "has_repeats" s_has_repeats ["visits"] := fun _ _ _ _ _ _ us hl => match us, hl with | [_], _ => rfl
theorem ok_reps (F : Df K mg "has_repeats" s_has_repeats) (T : Txt K mg) : Cal P w K mg base CX0 1 "has_repeats" spReps := by
  refine cal0 F sc_has_repeats bi_has_repeats (fun vs H Q E h => ?_) (fun f cdv A outer s H vs Q E hr h => ?_)
  · obtain ⟨v, l, rfl, _⟩ := h
    rfl
  · obtain ⟨v, l, rfl, ⟨a, xs, rfl, ha, rv⟩, nr, hl, k⟩ := h
    refine ⟨_, (pss_cons (ps_set (i := 1) sc_has_repeats.nd rfl (Or.inl rfl) (pe_lst pa_nil))
 (pss_cons (ps_for PassesOwn.never rfl (pil K (pv 0)) (pgt (n := 2) K rfl (pgs_cons (pg_name (i := 2) sc_has_repeats.nd rfl (Or.inl rfl)) (pgs_cons (pg_name (i := 3) sc_has_repeats.nd rfl (Or.inl rfl)) pgs_nil))) (pss_cons (ps_if (pt_cmpR (op_inD (units65 hr)) (pv 2) (pv 1) (by rfl)) (pss_one (ps_ret pe_bl)) pss_nil)
 (pss_one (ps_expr (pe_bm PySem.F.plainAttrs_list PySem.F.slot_list_append PySem.F.type_list_append mt_append (pv 1) (pa_cons (pv 2) pa_nil))))))
 (pss_cons (ps_setLc (i := 4) (own := [("child", 2)]) (by rfl) sc_has_repeats.nd rfl rfl (sw_true rfl rfl rfl (by decide +kernel)) (pil K (pv 1)) (blkOk_by (own := [("child", 2)]) (N := ["visits", "children", "child", "point", "words"]) (sc := defScope s_has_repeats) (by decide +kernel)) (fun _ _ _ _ _ => (pg_name (i := 2) sc_has_repeats.nd rfl (Or.inl rfl))) (fun _ _ _ _ _ => pts_nil) (fun _ _ _ _ _ => (pe_ix (ixt K) (pv 2) pe_int (fun _ _ => rfl))))
 (pss_one (ps_ret (pe_or (pe_and (pe_cmpR (inq K) pe_str (pv 4) (by rfl)) (pe_one (pe_cmpR (inq K) pe_str (pv 4) (by rfl)))) (pe_one (pe_and (pe_cmpR (inq K) pe_str (pv 4) (by rfl)) (pe_one (pe_cmpR (inq K) pe_str (pv 4) (by rfl))))))))))), ?_⟩
    refine ⟨szl (by show 0 ≤ 100000; decide), fun p1 np1 => ?_⟩
    obtain ⟨H1, hH1, x0_1, h1⟩ := newH _ np1
    rw [hH1]
    clear hH1
    have f1 := np1
    have lx := Paired.len rv
    refine ⟨_, rfl, a, rfl, ⟨_, SqLo (x0_1 _ _ ha)⟩, for_list (K := K) (a := a) (xs := xs) (fun i σ' H' => ∃ (ys : List V) (v2 v3 : Option V), σ' = [some (.ref a), some (.ref p1), v2, v3, none] ∧ Ex H H' ∧ H' p1 = some (.lst ys) ∧ Paired (RKid H) ys ((l.map (·.1)).take i)) ?_ ?_ ?_ ?_⟩
    · exact ⟨[], none, none, rfl, x0_1, h1, by rw [List.take_zero]; exact .nil⟩
    · rintro i σ' H' _ ⟨ys, v2, v3, _, ex, _⟩
      exact SqLo (ex _ _ ha)
    · rintro i y σ' H2 hi ⟨ys, v2, v3, rfl, x0_2, g1, rk⟩
      obtain ⟨⟨kd, pt⟩, hx, a2, c, rfl, h2, rc⟩ := Paired.get rv hi
      have hx1 : (l.map (·.1))[i]? = some kd := by rw [List.getElem?_map, hx]; rfl
      have tk : (l.map (·.1)).take (i + 1) = (l.map (·.1)).take i ++ [kd] := by rw [List.take_add_one, hx1]; rfl
      have hyl : ys.length ≤ 20 := by
        have q := Paired.len rk
        rw [List.length_take, List.length_map] at q
        omega
      have hok : ∀ k ∈ (l.map (·.1)).take i, k.Ok := fun k hk => nr.ok k (List.mem_of_mem_take hk)
      have hnd : kd ∉ (l.map (·.1)).take i := by
        have q : ((l.map (·.1)).take (i + 1)).Nodup := nr.nd.sublist (List.take_sublist _ _)
        rw [tk] at q
        have := (List.nodup_append.mp q).2.2
        intro hm
        exact this kd hm kd (by simp) rfl
      refine ⟨a2, _, rfl, SqTo (x0_2 _ _ h2), rfl, _, _, rfl, _, _, rfl, rfl, ?_⟩
      refine ⟨_, rfl, _, rfl, kd.d, _, (rc.ex x0_2).dp, kids_dp g1 (Paired.imp (fun _ _ r => RKid.ex x0_2 r) rk), shaped_of (kid_lay (nr.ok kd (List.mem_of_getElem? hx1))) (by have := kid_depth kd; omega), kids_shaped hok, _, rfl, if_f ?_ ?_⟩
      · rw [List.any_map]
        refine List.any_eq_false.mpr fun z hz => ?_
        rw [Function.comp, kid_ne (fun e => hnd (by rw [← e]; exact hz))]
        decide
      · refine ⟨_, rfl, .inl ⟨rfl, _, SqLo g1⟩, _, rfl, p1, ys, _, rfl, rfl, g1, szlt (by omega), ys ++ [c], _, _, rfl, Ex.mut x0_2 np1, upd_same, ?_⟩
        rw [tk]
        exact Paired.app rk (.cons rc .nil)
    · rintro σ' H2 ⟨ys, v2, v3, rfl, x0_2, g1, rk⟩
      have e1 : (l.map (·.1)).take xs.length = l.map (·.1) := by
        refine List.take_of_length_le ?_
        rw [List.length_map]
        omega
      rw [e1] at rk
      have hkl : (l.map (·.1)).length ≤ 20 := by rw [List.length_map]; exact hl
      generalize l.map (·.1) = kl at rk nr hkl
      have ly := Paired.len rk
      refine ⟨_, rfl, p1, rfl, ⟨_, SqLo g1⟩, fun D nD => lc_list (K := K) (a := p1) (xs := ys) (fun j H' => Ex H2 H' ∧ H' D = some (.lst (((kl.take j).map kidW).map V.str))) ?_ ?_ ?_ ?_⟩
      · exact ⟨Ex.new nD, upd_same⟩
      · rintro j H' _ ⟨ex, _⟩
        exact SqLo (ex _ _ g1)
      · rintro j y H' hj ⟨ex, hD⟩
        obtain ⟨kd, hkd, a3, rfl, h3⟩ := Paired.get rk hj
        have tk : kl.take (j + 1) = kl.take j ++ [kd] := by rw [List.take_add_one, hkd]; rfl
        refine ⟨rfl, _, rfl, a3, _, _, _, rfl, rfl, SqTo (ex _ _ (x0_2 _ _ h3)), kidW_at, _, hD, szlt ?_, Ex.mut ex nD, ?_⟩
        · rw [List.length_map, List.length_map, List.length_take]
          omega
        · rw [upd_same, tk, List.map_append, List.map_append]
          rfl
      · rintro H3 ⟨x2_3, hD⟩
        rw [ly, List.take_length] at hD
        have k3 := k H3 (x0_2.trans x2_3)
        have fl := flat_strs (kl.map kidW)
        have iv : ∀ z : Str, inV (.str z) ((kl.map kidW).map V.str) = (kl.map kidW).contains z := fun z => inV_strs z _
        refine ⟨_, rfl, D, _, rfl, .inl (SqLo hD), rfl, fl, ?_⟩
        have second : ∃ c : Bool, V.bl false = V.bl c ∧ if c = true then Q (.bl true) H3 else tAndV (tOp (rIn K false) (tC (.str "items")) (tVar 4)) (tOp (rIn K false) (tC (.str "item")) (tVar 4)) [some (.ref a), some (.ref p1), v2, v3, some (.ref D)] H3 Q := by
          refine ⟨_, rfl, _, rfl, D, _, rfl, .inl (SqLo hD), rfl, fl, _, rfl, if_b (fun e => ?_) (fun _ => k3)⟩
          have e' := (iv "items").symm.trans e
          refine ⟨_, rfl, D, _, rfl, .inl (SqLo hD), rfl, fl, ret_b (c := false) ?_ k3⟩
          show inV (.str "item") _ = false
          rw [iv, nr_i nr e']
        refine ⟨_, rfl, if_b (fun e => ?_) (fun _ => second)⟩
        have e' := (iv "fields").symm.trans e
        refine ⟨_, rfl, D, _, rfl, .inl (SqLo hD), rfl, fl, ?_⟩
        have e2 : inV (.str "field") ((kl.map kidW).map V.str) = false := by rw [iv, nr_f nr e']
        show ∃ c : Bool, V.bl (inV (.str "field") ((kl.map kidW).map V.str)) = V.bl c ∧ _
        rw [e2]
        exact second
end
end K44

namespace K44
open PySem PySem.Spec L2 LW
open Evl (Ex)
/-! ### a looker in the heap -/
theorem oc : ¬ (("order" : Str) = "chart") := by decide +kernel
def lfs (o d : Addr) : List (Str × V) := putF "chart" (.ref d) (putF "order" (.ref o) [])
theorem lfs_order (o d : Addr) : (lfs o d).lookup ("order" : Str) = some (.ref o) := by
  unfold lfs
  rw [lookup_putF, if_neg oc, lookup_putF, if_pos rfl]
theorem lfs_chart (o d : Addr) : (lfs o d).lookup ("chart" : Str) = some (.ref d) := by
  unfold lfs
  rw [lookup_putF, if_pos rfl]
theorem lfs_no (o d : Addr) {m : Str} (h1 : ¬ m = "chart") (h2 : ¬ m = "order") : (lfs o d).lookup m = none := by
  unfold lfs
  rw [lookup_putF, if_neg h1, lookup_putF, if_neg h2]
  all_goals rfl
def RK (H : Hp) (p : Key × V) (r : Row) : Prop := p.1 = Sum.inr r.1 ∧ RCaseL H p.2 r.2
theorem RK.ex {H H' : Hp} {p : Key × V} {r : Row} (e : Ex H H') (h : RK H p r) : RK H' p r := ⟨h.1, h.2.ex e⟩
def LkAt (C : Addr) (H : Hp) (x : Addr) (rows : List Row) : Prop := ∃ (dx o d : Addr) (kvs : List (Key × V)), H x = some (.ins C dx (lfs o d)) ∧ H o = some (.lst (rows.map fun r => V.str r.1)) ∧ H d = some (.dK kvs) ∧ Paired (RK H) kvs rows
theorem LkAt.ex {C : Addr} {H H' : Hp} {x : Addr} {rows : List Row} (e : Ex H H') (h : LkAt C H x rows) : LkAt C H' x rows := by
  obtain ⟨dx, o, d, kvs, h1, h2, h3, h4⟩ := h
  exact ⟨dx, o, d, kvs, e _ _ h1, e _ _ h2, e _ _ h3, Paired.imp (fun _ _ r => RK.ex e r) h4⟩
theorem val_none {H : Hp} {pt : Str} : ∀ {kvs : List (Key × V)} {rows : List Row}, Paired (RK H) kvs rows → pt ∉ rows.map (·.1) → valV kvs (Sum.inr pt : Key) = none
  | _, _, .nil, _ => rfl
  | p :: kvs, r :: rows, .cons h t, hn => by
    rw [List.map_cons, List.mem_cons, not_or] at hn
    rw [valV_neg (p := p) (fun e => hn.1 (by rw [h.1] at e; exact (Sum.inr.inj e).symm))]
    exact val_none t hn.2
theorem val_some {H : Hp} {r : Row} : ∀ {kvs : List (Key × V)} {rows : List Row}, Paired (RK H) kvs rows → (rows.map (·.1)).Nodup → r ∈ rows → ∃ v, valV kvs (Sum.inr r.1 : Key) = some v ∧ RCaseL H v r.2
  | _, _, .nil, _, hm => by cases hm
  | p :: kvs, q :: rows, .cons h t, nd, hm => by
    rw [List.map_cons, List.nodup_cons] at nd
    rcases List.mem_cons.mp hm with e | hm
    · subst e
      exact ⟨p.2, valV_pos (p := p) h.1, h.2⟩
    · have ne : ¬ p.1 = (Sum.inr r.1 : Key) := fun e => nd.1 (by
        rw [h.1] at e
        rw [Sum.inr.inj e]
        exact List.mem_map_of_mem hm)
      rw [valV_neg (p := p) ne]
      exact val_some t nd.2 hm
/-- what the class Looker and the class of its error leave -/
structure TxL (K : PySem.W.Frag) (mg : Str → Option Value) (C : Addr) : Prop where
  cl : Cls K C
  nO : NoAttr K C "order"
  nC : NoAttr K C "chart"
section
variable {P : Program} {w : World} {K : PySem.W.Frag} {mg : Str → Option Value} {base : Heap} {C : Addr}
/-! ### check_visits -/
def spCheck (C : Addr) : Sp := fun vs H Q _ => ∃ (x : Addr) (n m v : V) (rows : List Row) (l : List Visit), vs = [.ref x, n, m, v] ∧ LkAt C H x rows ∧ RVisL H v l ∧ VisOk (rows.map (·.1)) l ∧ (rows.map (·.1)).Nodup ∧ l.length ≤ 20 ∧ ∀ H', Ex H H' → Q .non H'
theorem sc_Looker_check_visits : FnScope ["self", "name", "number", "visits", "child", "point"] ["self", "name", "number", "visits"] (defScope s_Looker_check_visits) := ⟨rfl, rfl, rfl, by decide +kernel, rfl, by decide +kernel, by decide +kernel⟩
theorem bi_Looker_check_visits : BindsM "check_visits" "Looker.check_visits" s_Looker_check_visits ["self", "name", "number", "visits"] := fun _ _ _ _ _ _ us hl => match us, hl with | [_, _, _, _], _ => rfl
theorem ok_check (F : Dm_ K C "check_visits" "Looker.check_visits" s_Looker_check_visits) (T : Txt K mg) (L : TxL K mg C) (C_has_repeats : Cal P w K mg base CX0 1 "has_repeats" spReps) : Mt P w K mg base CX0 2 C "check_visits" (spCheck C) := by
  refine mt0 L.cl F sc_Looker_check_visits bi_Looker_check_visits (fun vs H Q E h => ?_) (fun f cdv A outer s H vs Q E hr h => ?_)
  · obtain ⟨x, n, m, v, rows, l, rfl, _⟩ := h
    rfl
  · obtain ⟨x, n, m, v, rows, l, rfl, lk, rv, vo, nd, hl, k⟩ := h
    have hu := hu_of hr
    refine ⟨_, (pss_cons (ps_if (pt_val (pe_k C_has_repeats hr (by decide) rfl (pa_cons (pv 3) pa_nil))) (pss_one ps_never) pss_nil)
 (pss_one (ps_for PassesOwn.never rfl (pil K (pv 3)) (pgt (n := 2) K rfl (pgs_cons (pg_name (i := 4) sc_Looker_check_visits.nd rfl (Or.inl rfl)) (pgs_cons (pg_name (i := 5) sc_Looker_check_visits.nd rfl (Or.inl rfl)) pgs_nil))) (pss_one (ps_if (pt_cmp (pc_dnotin hu (pv 5) (pfl K (pv 0) rfl))) (pss_one ps_never) pss_nil))))), ?_⟩
    refine ⟨_, rfl, v, l, rfl, rv, vo.nr, hl, fun H1 x0_1 => ⟨_, rfl, ?_⟩⟩
    obtain ⟨a, xs, rfl, ha, rl⟩ := rv
    refine ⟨_, rfl, a, rfl, ⟨_, SqLo (x0_1 _ _ ha)⟩, for_list (K := K) (a := a) (xs := xs) (fun i σ' H' => ∃ (v4 v5 : Option V), σ' = [some (.ref x), some n, some m, some (.ref a), v4, v5] ∧ Ex H H') ?_ ?_ ?_ ?_⟩
    · exact ⟨none, none, rfl, x0_1⟩
    · rintro i σ' H' _ ⟨_, _, _, ex⟩
      exact SqLo (ex _ _ ha)
    · rintro i y σ' H2 hi ⟨v4, v5, rfl, x0_2⟩
      obtain ⟨⟨kd, pt⟩, hx, a2, c, rfl, h2, rc⟩ := Paired.get rl hi
      obtain ⟨dx, o, d, kvs, g1, g2, g3, rk⟩ := lk.ex x0_2
      refine ⟨a2, _, rfl, SqTo (x0_2 _ _ h2), rfl, _, _, rfl, _, _, rfl, rfl, ?_⟩
      refine ⟨_, rfl, _, rfl, x, C, dx, _, _, rfl, g1, L.cl, L.nC, lfs_chart _ _, d, _, rfl, DGet.k (k := Sum.inr pt) g3, _, rfl, ?_⟩
      have hm : pt ∈ rows.map (·.1) := vo.pt (kd, pt) (List.mem_of_getElem? hx)
      obtain ⟨r, hr', er⟩ := List.mem_map.mp hm
      obtain ⟨u, hu', _⟩ := val_some rk nd hr'
      rw [er] at hu'
      rw [hu']
      exact ⟨_, _, rfl, x0_2⟩
    · rintro σ' H2 ⟨v4, v5, rfl, x0_2⟩
      exact k H2 x0_2
end
end K44

namespace K44
open PySem PySem.Spec L2 LW
open Evl (Ex)
/-! ### a heap without three addresses -/
def dl (x y z : Addr) (H : Hp) : Hp := del (del (del H x) y) z
theorem dl_get {x y z a : Addr} {H : Hp} {o : HO} (h : H a = some o) (n1 : a ≠ x) (n2 : a ≠ y) (n3 : a ≠ z) : dl x y z H a = some o := del_get (del_get (del_get h n1) n2) n3
theorem dl_some {x y z a : Addr} {H : Hp} {o : HO} (h : dl x y z H a = some o) : H a = some o ∧ a ≠ x ∧ a ≠ y ∧ a ≠ z := by
  unfold dl at h
  by_cases e3 : a = z
  · rw [e3, del_same] at h
    cases h
  rw [del_ne e3] at h
  by_cases e2 : a = y
  · rw [e2, del_same] at h
    cases h
  rw [del_ne e2] at h
  by_cases e1 : a = x
  · rw [e1, del_same] at h
    cases h
  rw [del_ne e1] at h
  exact ⟨h, e1, e2, e3⟩
theorem dl_mono {x y z : Addr} {H H' : Hp} (k : ∀ b o, b ≠ x → b ≠ y → b ≠ z → H b = some o → H' b = some o) : Ex (dl x y z H) (dl x y z H') := fun a o h => by
  obtain ⟨h, e1, e2, e3⟩ := dl_some h
  exact dl_get (k a o e1 e2 e3 h) e1 e2 e3
theorem dl_sub {x y z : Addr} {H : Hp} : Ex (dl x y z H) H := fun a o h => (dl_some h).1
theorem dl_of {x y z : Addr} {Hs H : Hp} (e : Ex Hs H) (n1 : Hs x = none) (n2 : Hs y = none) (n3 : Hs z = none) : Ex Hs (dl x y z H) := fun a o h => dl_get (e a o h) (ne_of_none h n1) (ne_of_none h n2) (ne_of_none h n3)
section
variable {P : Program} {w : World} {K : PySem.W.Frag} {mg : Str → Option Value} {base : Heap} {C : Addr}
def spLInit (C : Addr) : Sp := fun vs H Q _ => ∃ (x dx : Addr) (v : V) (Hs : Hp) (rows : List Row), vs = [.ref x, v] ∧ H x = some (.ins C dx []) ∧ Hs x = none ∧ Ex Hs H ∧ RProg Hs v rows ∧ ProgOk rows ∧ (∀ r ∈ rows, ∀ c ∈ r.2, c.vs.length ≤ 20) ∧ ∀ H', Ex Hs H' → LkAt C H' x rows → Q .non H'
theorem sc_Looker___init__ : FnScope ["self", "rows", "name", "cases", "number", "case", "test", "word", "visits"] ["self", "rows"] (defScope s_Looker___init__) := ⟨rfl, rfl, rfl, by decide +kernel, rfl, by decide +kernel, by decide +kernel⟩
theorem bi_Looker___init__ : BindsM "__init__" "Looker.__init__" s_Looker___init__ ["self", "rows"] := fun _ _ _ _ _ _ us hl => match us, hl with | [_, _], _ => rfl
theorem ok_linit {f0 : Addr} {fd0 : FuncData} (F : FunD K "__init__" "Looker.__init__" (defArgs s_Looker___init__) (defBody s_Looker___init__) (defScope s_Looker___init__) [] [] f0 fd0) (T : Txt K mg) (L : TxL K mg C) (M_check : Mt P w K mg base CX0 2 C "check_visits" (spCheck C)) :
    FnOk P w K mg base CX0 3 f0 fd0 ["self", "rows"] (spLInit C) := by
  refine F.ok sc_Looker___init__ (fun vs H Q E h => ?_) (fun cdv A outer s H vs Q E hr h => ?_)
  · obtain ⟨x, dx, v, Hs, rows, rfl, _⟩ := h
    rfl
  · obtain ⟨x, dx, v, Hs, rows, rfl, hx, nx, es, hR, po, vl, k⟩ := h
    have hu := hu_of hr
    refine ⟨_, PSs.nox (pss_cons (ps_fld (pv 0) (pe_lst pa_nil) rfl)
 (pss_cons (ps_fld (pv 0) pe_dnewK rfl)
 (pss_cons (ps_for PassesOwn.never rfl (pil K (pv 1)) (pgt (n := 2) K rfl (pgs_cons (pg_name (i := 2) sc_Looker___init__.nd rfl (Or.inl rfl)) (pgs_cons (pg_name (i := 3) sc_Looker___init__.nd rfl (Or.inl rfl)) pgs_nil))) (pss_cons (ps_if (pt_cmp (pc_din hu (pv 2) (pfl K (pv 0) rfl))) (pss_one ps_never) pss_nil)
 (pss_cons (ps_expr (pe_bm PySem.F.plainAttrs_list PySem.F.slot_list_append PySem.F.type_list_append mt_append (pfl K (pv 0) rfl) (pa_cons (pv 2) pa_nil)))
 (pss_one (ps_dput hu (pfl K (pv 0) rfl) (pv 2) (pe_lc (own := [("test", 6), ("word", 7), ("visits", 8)]) (by rfl) sc_Looker___init__.nd (pil K (pv 3)) (blkOk_by (own := [("test", 6), ("word", 7), ("visits", 8)]) (N := ["self", "rows", "name", "cases", "number", "case", "test", "word", "visits"]) (sc := defScope s_Looker___init__) (by decide +kernel)) (fun _ _ _ _ _ => (pgt (n := 3) K rfl (pgs_cons (pg_name (i := 6) sc_Looker___init__.nd rfl (Or.inl rfl)) (pgs_cons (pg_name (i := 7) sc_Looker___init__.nd rfl (Or.inl rfl)) (pgs_cons (pg_name (i := 8) sc_Looker___init__.nd rfl (Or.inl rfl)) pgs_nil))))) (fun _ _ _ _ _ => pts_nil) (fun _ _ _ _ _ => (pe_tup (pa_cons (pv 6) (pa_cons (pv 7) (pa_cons (pe_callTy (lofK K) rfl T.b_list (by decide +kernel) (pa_cons (pv 8) pa_nil)) pa_nil)))))) rfl)))))
 (pss_one (ps_for PassesOwn.never rfl (pil K (pfl K (pv 0) rfl)) (pg_name (i := 2) sc_Looker___init__.nd rfl (Or.inl rfl)) (pss_one (ps_for PassesOwn.never rfl (pi_enum rfl T.b_enumerate (pa_cons (pe_dget hu (pfl K (pv 0) rfl) (pv 2) (fun _ _ => rfl)) pa_nil)) (pgt (n := 2) K rfl (pgs_cons (pg_name (i := 4) sc_Looker___init__.nd rfl (Or.inl rfl)) (pgs_cons (pg_name (i := 5) sc_Looker___init__.nd rfl (Or.inl rfl)) pgs_nil))) (pss_one (ps_expr (pe_mx M_check hr (by decide) pass0 (pv 0) (pa_cons (pv 2) (pa_cons (pv 4) (pa_cons (pe_ix (ixt K) (pv 5) pe_int (fun _ _ => rfl)) pa_nil))))))))))))), ?_⟩
    -- self.order = []; self.chart = {}
    refine ⟨szl (by show 0 ≤ 100000; decide), fun p1 np1 => ?_⟩
    have n1x : p1 ≠ x := fun e => by rw [e, hx] at np1; cases np1
    refine ⟨_, rfl, x, C, dx, _, rfl, (by rw [upd_ne (Ne.symm n1x)]; exact hx), L.cl, L.nO, (by show 0 < 1000; decide), fun p2 np2 => ?_⟩
    have n2x : p2 ≠ x := fun e => by rw [e, upd_same] at np2; cases np2
    rw [upd_ne n2x] at np2
    have n21 : p2 ≠ p1 := fun e => by rw [e, upd_same] at np2; cases np2
    rw [upd_ne n21] at np2
    refine ⟨_, rfl, x, C, dx, _, rfl, (by rw [upd_ne (Ne.symm n2x), upd_same]), L.cl, L.nC, (by show 1 < 1000; decide), ?_⟩
    have s1 : Hs p1 = none := ex_free es np1
    have s2 : Hs p2 = none := ex_free es np2
    obtain ⟨H1, hH1, e1, g0, g1, g2⟩ : ∃ H1, upd (upd (upd (upd H p1 (.lst [])) x (.ins C dx (putF "order" (.ref p1) []))) p2 (.dK [])) x (.ins C dx (putF "chart" (.ref p2) (putF "order" (.ref p1) []))) = H1 ∧ Ex Hs H1 ∧ H1 x = some (.ins C dx (lfs p1 p2)) ∧ H1 p1 = some (.lst []) ∧ H1 p2 = some (.dK []) := by
      refine ⟨_, rfl, Ex.mut (Ex.mut (Ex.mut (Ex.mut es s1) nx) s2) nx, upd_same, ?_, ?_⟩
      · rw [upd_ne n1x, upd_ne (Ne.symm n21), upd_ne n1x, upd_same]
      · rw [upd_ne n2x, upd_same]
    rw [hH1]
    clear hH1
    obtain ⟨a, xs, rfl, ha, rr⟩ := hR
    have lx := Paired.len rr
    -- the first loop
    refine ⟨_, rfl, a, rfl, ⟨_, SqLo (e1 _ _ ha)⟩, for_list (K := K) (a := a) (xs := xs) (fun i σ' H' => ∃ (kvs : List (Key × V)) (v2 v3 v6 v7 v8 : Option V), σ' = [some (.ref x), some (.ref a), v2, v3, none, none, v6, v7, v8] ∧
        Ex Hs H' ∧ H' x = some (.ins C dx (lfs p1 p2)) ∧ H' p1 = some (.lst ((rows.take i).map fun r => V.str r.1)) ∧ H' p2 = some (.dK kvs) ∧ Paired (RK (dl x p1 p2 H')) kvs (rows.take i)) ?_ ?_ ?_ ?_⟩
    · exact ⟨[], none, none, none, none, none, rfl, e1, g0, by rw [List.take_zero]; exact g1, g2, by rw [List.take_zero]; exact .nil⟩
    · rintro i σ' H' _ ⟨_, _, _, _, _, _, _, ex, _⟩
      exact SqLo (ex _ _ ha)
    · clear g0 g1 g2 e1
      rintro i y σ' H2 hi ⟨kvs, v2, v3, v6, v7, v8, rfl, e2, g0, g1, g2, rk⟩
      obtain ⟨⟨pt, cs⟩, hrow, a2, l, rfl, h2, a3, ys, rfl, h3, rc⟩ := Paired.get rr hi
      have tk : rows.take (i + 1) = rows.take i ++ [(pt, cs)] := by rw [List.take_add_one, hrow]; rfl
      have hpn : pt ∉ (rows.take i).map (·.1) := by
        have q : ((rows.take (i + 1)).map (·.1)).Nodup := by
          rw [List.map_take]
          exact po.nd.sublist (List.take_sublist _ _)
        rw [tk, List.map_append] at q
        have := (List.nodup_append.mp q).2.2
        intro hm
        exact this pt hm pt (by simp) rfl
      have hcs : cs.length ≤ 6 := (po.cs (pt, cs) (List.mem_of_getElem? hrow)).1
      have ly := Paired.len rc
      have hkl : kvs.length ≤ 12 := by
        have q := Paired.len rk
        rw [List.length_take] at q
        have := po.le
        omega
      have hvn := val_none rk hpn
      refine ⟨a2, _, rfl, SqTo (e2 _ _ h2), rfl, _, _, rfl, _, _, rfl, rfl, ?_⟩
      -- if name in self.chart
      refine ⟨_, rfl, _, rfl, x, C, dx, _, _, rfl, g0, L.cl, L.nC, lfs_chart _ _, p2, _, rfl, DGet.k (k := Sum.inr pt) g2, _, rfl, ?_⟩
      rw [hvn]
      -- self.order.append(name)
      refine ⟨_, rfl, x, C, dx, _, _, rfl, g0, L.cl, L.nO, lfs_order _ _, .inl ⟨rfl, _, SqLo g1⟩, _, rfl, p1, _, _, rfl, rfl, g1, szlt (by rw [List.length_map, List.length_take]; have := po.le; omega), ?_⟩
      obtain ⟨H3, hH3, e3, k3, h31⟩ : ∃ H3, upd H2 p1 (.lst (((rows.take i).map fun r => V.str r.1) ++ [V.str pt])) = H3 ∧ Ex Hs H3 ∧ (∀ b o, b ≠ p1 → H2 b = some o → H3 b = some o) ∧ H3 p1 = some (.lst ((rows.take (i + 1)).map fun r => V.str r.1)) := by
        refine ⟨_, rfl, Ex.mut e2 s1, fun b o ne h => by rw [upd_ne ne]; exact h, ?_⟩
        rw [upd_same, tk, List.map_append]
        rfl
      rw [hH3]
      clear hH3
      have g0' := k3 _ _ (Ne.symm n1x) g0
      have g2' := k3 _ _ n21 g2
      -- self.chart[name] = [..]
      refine ⟨_, rfl, a3, rfl, ⟨_, SqLo (e3 _ _ h3)⟩, fun p4 np4 => lc_list (K := K) (a := a3) (xs := ys) (fun j H' => Ex H3 H' ∧ ∃ us, H' p4 = some (.lst us) ∧ Paired (RCase (del (dl x p1 p2 H') p4)) us (cs.take j)) ?_ ?_ ?_ ?_⟩
      · exact ⟨Ex.new np4, [], upd_same, by rw [List.take_zero]; exact .nil⟩
      · rintro j H' _ ⟨ex, _⟩
        exact SqLo (ex _ _ (e3 _ _ h3))
      · rintro j y H4 hj ⟨x3_4, us, g4, ru⟩
        obtain ⟨c, hc, a4, tv, lv, rfl, h4, rt, a5, vs, rfl, h5, rvl⟩ := Paired.get rc hj
        have es4 := e3.trans x3_4
        have tkc : cs.take (j + 1) = cs.take j ++ [c] := by rw [List.take_add_one, hc]; rfl
        have hul : us.length ≤ 6 := by
          have q := Paired.len ru
          rw [List.length_take] at q
          omega
        refine ⟨a4, _, rfl, SqTo (es4 _ _ h4), rfl, _, _, rfl, _, _, rfl, _, _, rfl, rfl, rfl, _, rfl, _, rfl, _, rfl, a5, vs, rfl, .inl (SqLo (es4 _ _ h5)), fun p6 np6 => ?_⟩
        obtain ⟨H6, hH6, x4_6, h6⟩ := newH _ np6
        rw [hH6]
        clear hH6
        refine ⟨szl (by show 3 ≤ 100000; decide), fun p7 np7 => ?_⟩
        obtain ⟨H7, hH7, x6_7, h7⟩ := newH _ np7
        rw [hH7]
        clear hH7
        have x4_7 := x4_6.trans x6_7
        have f0 := x3_4 _ _ g0'
        have f1 := x3_4 _ _ h31
        have f2 := x3_4 _ _ g2'
        have ne6 : ∀ {b : Addr} {o : HO}, H4 b = some o → p6 ≠ b := fun h e => by rw [e, h] at np6; cases np6
        have ne7 : ∀ {b : Addr} {o : HO}, H4 b = some o → p7 ≠ b := fun h e => by rw [e, x4_6 _ _ h] at np7; cases np7
        have s4 : Hs p4 = none := ex_free e3 np4
        refine ⟨us, x4_7 _ _ g4, szlt (by omega), Ex.mut (x3_4.trans x4_7) np4, us ++ [.ref p7], upd_same, ?_⟩
        rw [tkc]
        have eH : Ex Hs (del (dl x p1 p2 (upd H7 p4 (.lst (us ++ [.ref p7])))) p4) := ex_of_del (dl_of (Ex.mut (es4.trans x4_7) s4) nx s1 s2) s4
        refine Paired.app (Paired.imp (fun _ _ r => RCase.ex ?_ r) ru) (.cons ⟨p7, tv, .ref p6, rfl, ?_, rt.ex eH, p6, vs, rfl, ?_, Paired.imp (fun _ _ r => RVis.ex eH r) rvl⟩ .nil)
        · intro b o q
          by_cases eb : b = p4
          · rw [eb, del_same] at q
            cases q
          · rw [del_ne eb] at q ⊢
            obtain ⟨q, n1, n2, n3⟩ := dl_some q
            exact dl_get (by rw [upd_ne eb]; exact x4_7 _ _ q) n1 n2 n3
        · exact del_get (dl_get (up_ne h7 (ne7 g4)) (ne7 f0) (ne7 f1) (ne7 f2)) (ne7 g4)
        · exact del_get (dl_get (up_ne (x6_7 _ _ h6) (ne6 g4)) (ne6 f0) (ne6 f1) (ne6 f2)) (ne6 g4)
      · rintro H4 ⟨x3_4, us, g4, ru⟩
        rw [ly, List.take_length] at ru
        have f0 := x3_4 _ _ g0'
        have f2 := x3_4 _ _ g2'
        have n40 : p4 ≠ x := fun e => by rw [e, g0'] at np4; cases np4
        have n41 : p4 ≠ p1 := fun e => by rw [e, h31] at np4; cases np4
        have n42 : p4 ≠ p2 := fun e => by rw [e, g2'] at np4; cases np4
        refine ⟨_, rfl, x, C, dx, _, _, rfl, f0, L.cl, L.nC, lfs_chart _ _, _, rfl, p2, _, rfl, DPut.k (k := Sum.inr pt) f2 (szlt (by omega)), ?_⟩
        refine ⟨kvs ++ [(Sum.inr pt, .ref p4)], _, _, _, _, _, rfl, Ex.mut (e3.trans x3_4) s2, up_ne f0 (Ne.symm n2x), up_ne (x3_4 _ _ h31) (Ne.symm n21), ?_, ?_⟩
        · rw [upd_same, putK_new _ hvn]
        · rw [tk]
          refine Paired.app (Paired.imp (fun _ _ r => RK.ex (dl_mono fun b o n1 n2 n3 h => ?_) r) rk) (.cons ⟨rfl, p4, us, rfl, ?_, Paired.imp (fun _ _ r => RCase.ex ?_ r) ru⟩ .nil)
          · rw [upd_ne n3]
            exact x3_4 _ _ (k3 _ _ n2 h)
          · exact dl_get (up_ne g4 n42) n40 n41 n42
          · refine ex_del.trans (dl_mono fun b o n1 n2 n3 h => ?_)
            rw [upd_ne n3]
            exact h
    · clear g0 g1 g2 e1
      rintro σ' H2 ⟨kvs, v2, v3, v6, v7, v8, rfl, e2, g0, g1, g2, rk⟩
      rw [lx, List.take_length] at g1 rk
      have lk : LkAt C H2 x rows := ⟨dx, p1, p2, kvs, g0, g1, g2, Paired.imp (fun _ _ r => RK.ex dl_sub r) rk⟩
      -- the second loop
      refine ⟨_, rfl, x, C, dx, _, _, rfl, g0, L.cl, L.nO, lfs_order _ _, p1, rfl, ⟨_, SqLo g1⟩, for_list (K := K) (a := p1) (xs := rows.map fun r => V.str r.1) (fun i σ' H' => ∃ (v2 v3 v4 v5 v6 v7 v8 : Option V), σ' = [some (.ref x), some (.ref a), v2, v3, v4, v5, v6, v7, v8] ∧ Ex H2 H') ?_ ?_ ?_ ?_⟩
      · exact ⟨_, _, _, _, _, _, _, rfl, Ex.refl _⟩
      · rintro i σ' H' _ ⟨_, _, _, _, _, _, _, _, ex⟩
        exact SqLo (ex _ _ g1)
      · rintro i y σ' H3 hi ⟨v2, v3, v4, v5, v6, v7, v8, rfl, x2_3⟩
        obtain ⟨r, hr1, rfl⟩ : ∃ r, rows[i]? = some r ∧ y = V.str r.1 := by
          rw [List.getElem?_map] at hi
          cases e : rows[i]? with
          | none => rw [e] at hi; cases hi
          | some z => rw [e] at hi; exact ⟨z, rfl, (Option.some.inj hi).symm⟩
        have hrm := List.mem_of_getElem? hr1
        obtain ⟨u, hu1, a4, ys, rfl, h4, rc⟩ := val_some (Paired.imp (fun _ _ r => RK.ex (dl_sub.trans x2_3) r) rk) po.nd hrm
        refine ⟨_, rfl, x, C, dx, _, _, rfl, x2_3 _ _ g0, L.cl, L.nC, lfs_chart _ _, _, rfl, p2, _, rfl, (by have q := DGet.k (k := Sum.inr r.1) (x2_3 _ _ g2); rw [hu1] at q; exact q), a4, ys, rfl, SqLo h4, for_it (walk_enum (K := K) (a := a4) (xs := ys)) (fun j σ' H' => ∃ (v3 v4 v5 v6 v7 v8 : Option V), σ' = [some (.ref x), some (.ref a), some (.str r.1), v3, v4, v5, v6, v7, v8] ∧ Ex H3 H') ?_ ?_ ?_ ?_⟩
        · exact ⟨_, _, _, _, _, _, rfl, Ex.refl _⟩
        · rintro j σ' H' _ ⟨_, _, _, _, _, _, _, ex⟩
          exact SqLo (ex _ _ h4)
        · rintro j y σ' H4 H5 hj ⟨v3, v4, v5, v6, v7, v8, rfl, x3_4⟩ ⟨T', n', c', rfl, nT, rfl, e1, e2'⟩
          have x4_5 : Ex H4 (upd H4 T' (.tup [n', c'])) := Ex.new nT
          obtain ⟨c, hc, a5, tv, lv, rfl, h5, rt, rvl⟩ := Paired.get rc e2'
          have hcm := List.mem_of_getElem? hc
          have x3_5 := x3_4.trans x4_5
          refine ⟨T', _, rfl, SqTo upd_same, rfl, _, _, rfl, _, _, rfl, rfl, ?_⟩
          refine ⟨_, rfl, x, dx, _, rfl, x3_5 _ _ (x2_3 _ _ g0), lfs_no _ _ (by decide +kernel) (by decide +kernel), _, rfl, _, rfl, _, rfl, a5, _, _, _, rfl, rfl, SqTo (x3_5 _ _ h5), rfl, x, _, _, _, rows, c.vs, rfl, (lk.ex (x2_3.trans x3_5)), rvl.ex x3_5, ((po.cs r hrm).2 c hcm).2.2, po.nd, vl r hrm c hcm, fun H6 x5_6 => ?_⟩
          exact ⟨_, _, _, _, _, _, rfl, x3_5.trans x5_6⟩
        · rintro σ' H4 ⟨v3, v4, v5, v6, v7, v8, rfl, x3_4⟩
          exact ⟨_, _, _, _, _, _, _, rfl, x2_3.trans x3_4⟩
      · rintro σ' H3 ⟨v2, v3, v4, v5, v6, v7, v8, rfl, x2_3⟩
        exact k H3 (e2.trans x2_3) (lk.ex x2_3)
end
end K44

namespace LW
open PySem PySem.Spec L2
section
variable {X : Cx} {k j : Nat} {x : Str} {sp : Sp} {p pos : Pos} {e : Expr} {es : List Expr} {t : TA}
theorem pe_kL (c : Cal X.prog X.w X.K X.mg X.base (L2.CX X.prog X.w) k x sp) (hr : Room j X.A) (hk : k ≤ j) (hg : Gl X x) (ha : PA X (e :: es) t)
    (hdb : (x == ("__debug__" : Str)) = false := by decide) (he : starEach (e :: es) X.env = (false, eval e X.env) :: starEach es X.env := by rfl) (hpl : (backTo pos (starEach es X.env)).any (·.1) = false := by rfl) :
    PE X (.Call (.Name x p) (e :: es) [] pos) (tCall sp [] E0 t) := by
  obtain ⟨f, fd, ps, F, hm, kp, b⟩ := c.ex
  exact pe_call F (hr.mono hk) hg hm kp b .nil passL ha hdb he hpl
end
end LW
namespace K44
open PySem PySem.Spec L2 LW
open Evl (Ex)
section
variable {P : Program} {w : World} {K : PySem.W.Frag} {mg : Str → Option Value} {base : Heap} {C CU CD CR : Addr}
/-! ### UnknownPoint.__init__ -/
theorem sc_UnknownPoint___init__ : FnScope ["self", "point"] ["self", "point"] (defScope s_UnknownPoint___init__) := ⟨rfl, rfl, rfl, by decide +kernel, rfl, by decide +kernel, by decide +kernel⟩
theorem bi_UnknownPoint___init__ : BindsM "__init__" "UnknownPoint.__init__" s_UnknownPoint___init__ ["self", "point"] := fun _ _ _ _ _ _ us hl => match us, hl with | [_, _], _ => rfl
theorem ok_uinit {f0 : Addr} {fd0 : FuncData} (F : FunD K "__init__" "UnknownPoint.__init__" (defArgs s_UnknownPoint___init__) (defBody s_UnknownPoint___init__) (defScope s_UnknownPoint___init__) [] [] f0 fd0) (ox : OexC K CU) (no : PySem.W.findIn K (.ref CU) "point" = some none) :
    FnOk P w K mg base CX0 1 f0 fd0 ["self", "point"] (spXI K CU "point") := by
  refine F.ok sc_UnknownPoint___init__ (fun vs H Q E h => ?_) (fun cdv A outer s H vs Q E hr h => ?_)
  · obtain ⟨a, v, rfl, _⟩ := h
    rfl
  · obtain ⟨a, v, rfl, ha, k⟩ := h
    refine ⟨_, PSs.nox (pss_one (ps_ost (pv 0) (pv 1))), ?_⟩
    exact ⟨_, rfl, _, rfl, a, CU, rfl, ox, no, .inl ⟨ha, fun dx h1 h2 => k dx h1 h2⟩⟩
/-! ### cases -/
def spCases (C CU : Addr) : Sp := fun vs H Q E => ∃ (x : Addr) (pt : Str) (rows : List Row), vs = [.ref x, .str pt] ∧ LkAt C H x rows ∧ (rows.map (·.1)).Nodup ∧
  (∀ cs, (pt, cs) ∈ rows → cs.length ≤ 6 ∧ ∀ v H', Ex H H' → RCaseL H' v cs → Q v H') ∧
  (pt ∉ rows.map (·.1) → ∀ d H', Ex H H' → H' d = some (.xd [("point", .str pt)]) → E (.ref CU) (some d) H')
theorem sc_Looker_cases : FnScope ["self", "point", "test", "word", "visits"] ["self", "point"] (defScope s_Looker_cases) := ⟨rfl, rfl, rfl, by decide +kernel, rfl, by decide +kernel, by decide +kernel⟩
theorem bi_Looker_cases : BindsM "cases" "Looker.cases" s_Looker_cases ["self", "point"] := fun _ _ _ _ _ _ us hl => match us, hl with | [_, _], _ => rfl
theorem ok_cases (F : Dm_ K C "cases" "Looker.cases" s_Looker_cases) (T : Txt K mg) (L : TxL K mg C) (X_UnknownPoint : XMk P w K mg base 1 "UnknownPoint" CU "point") : Mt P w K mg base (L2.CX P w) 3 C "cases" (spCases C CU) := by
  refine mtX L.cl F sc_Looker_cases bi_Looker_cases (fun vs H Q E h => ?_) (fun f cdv A outer s H vs Q E hr h => ?_)
  · obtain ⟨x, pt, rows, rfl, _⟩ := h
    rfl
  · obtain ⟨x, pt, rows, rfl, lk, nd, k1, k2⟩ := h
    have hu := hu_of hr
    refine ⟨_, (pss_cons (ps_if (pt_cmp (pc_dnotin hu (pv 1) (pfl K (pv 0) rfl))) (pss_one (ps_raise rfl (takes_of rfl rfl rfl rfl) (pmk_x X_UnknownPoint hr (by decide) rfl (pa_cons (pv 1) pa_nil)))) pss_nil)
 (pss_one (ps_ret (pe_lc (own := [("test", 2), ("word", 3), ("visits", 4)]) (by rfl) sc_Looker_cases.nd (pil K (pe_dget hu (pfl K (pv 0) rfl) (pv 1) (fun _ _ => rfl))) (blkOk_by (own := [("test", 2), ("word", 3), ("visits", 4)]) (N := ["self", "point", "test", "word", "visits"]) (sc := defScope s_Looker_cases) (by decide +kernel)) (fun _ _ _ _ _ => (pgt (n := 3) K rfl (pgs_cons (pg_name (i := 2) sc_Looker_cases.nd rfl (Or.inl rfl)) (pgs_cons (pg_name (i := 3) sc_Looker_cases.nd rfl (Or.inl rfl)) (pgs_cons (pg_name (i := 4) sc_Looker_cases.nd rfl (Or.inl rfl)) pgs_nil))))) (fun _ _ _ _ _ => pts_nil) (fun _ _ _ _ _ => (pe_tup (pa_cons (pv 2) (pa_cons (pv 3) (pa_cons (pe_callTy (lofK K) rfl T.b_list (by decide +kernel) (pa_cons (pv 4) pa_nil)) pa_nil))))))))), ?_⟩
    obtain ⟨dx, o, d, kvs, g1, g2, g3, rk⟩ := lk
    refine ⟨_, rfl, _, rfl, x, C, dx, _, _, rfl, g1, L.cl, L.nC, lfs_chart _ _, d, _, rfl, DGet.k (k := Sum.inr pt) g3, _, rfl, ?_⟩
    by_cases hm : pt ∈ rows.map (·.1)
    · obtain ⟨⟨pt', cs⟩, hrm, rfl⟩ := List.mem_map.mp hm
      obtain ⟨hl, k1⟩ := k1 cs hrm
      obtain ⟨u, hu1, a4, ys, rfl, h4, rc⟩ := val_some rk nd hrm
      have ly := Paired.len rc
      rw [hu1]
      refine ⟨_, rfl, x, C, dx, _, _, rfl, g1, L.cl, L.nC, lfs_chart _ _, _, rfl, d, _, rfl, (by have q := DGet.k (k := Sum.inr pt') g3; rw [hu1] at q; exact q), a4, rfl, ⟨_, SqLo h4⟩, fun p4 np4 => lc_list (K := K) (a := a4) (xs := ys) (fun j H' => Ex H H' ∧ ∃ us, H' p4 = some (.lst us) ∧ Paired (RCase (del H' p4)) us (cs.take j)) ?_ ?_ ?_ ?_⟩
      · exact ⟨Ex.new np4, [], upd_same, by rw [List.take_zero]; exact .nil⟩
      · rintro j H' _ ⟨ex, _⟩
        exact SqLo (ex _ _ h4)
      · rintro j y H4 hj ⟨x0_4, us, g4, ru⟩
        obtain ⟨c, hc, a5, tv, lv, rfl, h5, rt, a6, vs, rfl, h6, rvl⟩ := Paired.get rc hj
        have tkc : cs.take (j + 1) = cs.take j ++ [c] := by rw [List.take_add_one, hc]; rfl
        have hul : us.length ≤ 6 := by
          have q := Paired.len ru
          rw [List.length_take] at q
          have : cs.length ≤ 6 := hl
          omega
        refine ⟨a5, _, rfl, SqTo (x0_4 _ _ h5), rfl, _, _, rfl, _, _, rfl, _, _, rfl, rfl, rfl, _, rfl, _, rfl, _, rfl, a6, vs, rfl, .inl (SqLo (x0_4 _ _ h6)), fun p6 np6 => ?_⟩
        obtain ⟨H6, hH6, x4_6, h6'⟩ := newH _ np6
        rw [hH6]
        clear hH6
        refine ⟨szl (by show 3 ≤ 100000; decide), fun p7 np7 => ?_⟩
        obtain ⟨H7, hH7, x6_7, h7⟩ := newH _ np7
        rw [hH7]
        clear hH7
        have x4_7 := x4_6.trans x6_7
        have n64 : p6 ≠ p4 := fun e => by rw [e, g4] at np6; cases np6
        have n74 : p7 ≠ p4 := fun e => by rw [e, x4_6 _ _ g4] at np7; cases np7
        refine ⟨us, x4_7 _ _ g4, szlt (by omega), Ex.mut (x0_4.trans x4_7) np4, us ++ [.ref p7], upd_same, ?_⟩
        rw [tkc]
        have eH : Ex H (del (upd H7 p4 (.lst (us ++ [.ref p7]))) p4) := ex_of_del (Ex.mut (x0_4.trans x4_7) np4) np4
        exact Paired.app (Paired.imp (fun _ _ r => RCase.ex (del_grow x4_7) r) ru) (.cons ⟨p7, tv, .ref p6, rfl, del_get (up_ne h7 n74) n74, rt.ex eH, p6, vs, rfl, del_get (up_ne (x6_7 _ _ h6') n64) n64, Paired.imp (fun _ _ r => RVis.ex eH r) rvl⟩ .nil)
      · rintro H4 ⟨x0_4, us, g4, ru⟩
        rw [ly, List.take_length] at ru
        exact k1 _ _ x0_4 ⟨p4, us, rfl, g4, Paired.imp (fun _ _ r => RCase.ex ex_del r) ru⟩
    · rw [val_none rk hm]
      exact ⟨_, rfl, xmk_go fun d H2 _ e2 hd => k2 hm d H2 e2 hd⟩
/-! ### chosen -/
def chosenI (cs : List Case) (h : Head) : Int := match cs.findIdx? fun c => matchB c.t h with
  | some i => (i : Int)
  | none => -1
theorem chosen_at {cs : List Case} {h : Head} {j : Nat} {c : Case} (hc : cs[j]? = some c) (hm : matchB c.t h = true) (hb : ∀ i, i < j → ∀ c', cs[i]? = some c' → matchB c'.t h = false) : chosenI cs h = (j : Int) := by
  have hj := (List.getElem?_eq_some_iff.mp hc)
  have e : cs.findIdx? (fun c => matchB c.t h) = some j := by
    rw [List.findIdx?_eq_some_iff_getElem]
    refine ⟨hj.1, by rw [hj.2]; exact hm, fun i hi => ?_⟩
    rw [hb i hi _ (List.getElem?_eq_getElem (by have := hj.1; omega))]
    decide
  unfold chosenI
  rw [e]
theorem chosen_no {cs : List Case} {h : Head} (hb : ∀ (i : Nat) (c' : Case), cs[i]? = some c' → matchB c'.t h = false) : chosenI cs h = -1 := by
  have e : cs.findIdx? (fun c => matchB c.t h) = none := by
    rw [List.findIdx?_eq_none_iff]
    intro c hc
    obtain ⟨i, hi⟩ := List.mem_iff_getElem?.mp hc
    exact hb i c hi
  unfold chosenI
  rw [e]
def FsOk (t : Test) : Prop := ∀ fs, t = .rcd fs → fs.length ≤ 100
def spChosen (C CU : Addr) : Sp := fun vs H Q E => ∃ (x : Addr) (pt : Str) (hv : V) (h : Head) (rows : List Row), vs = [.ref x, .str pt, hv] ∧ LkAt C H x rows ∧ (rows.map (·.1)).Nodup ∧ RH H hv h ∧
  (∀ cs, (pt, cs) ∈ rows → cs.length ≤ 6 ∧ (∀ c ∈ cs, FsOk c.t) ∧ ∀ H', Ex H H' → Q (.int (chosenI cs h)) H') ∧
  (pt ∉ rows.map (·.1) → ∀ d H', Ex H H' → H' d = some (.xd [("point", .str pt)]) → E (.ref CU) (some d) H')
theorem sc_chosen : FnScope ["looker", "point", "head", "number", "case"] ["looker", "point", "head"] (defScope s_chosen) := ⟨rfl, rfl, rfl, by decide +kernel, rfl, by decide +kernel, by decide +kernel⟩
theorem bi_chosen : BindsEq "chosen" s_chosen ["looker", "point", "head"] := fun _ _ _ _ _ _ us hl => match us, hl with | [_, _, _], _ => rfl
theorem ok_chosen (F : Df K mg "chosen" s_chosen) (T : Txt K mg) (L : TxL K mg C) (M_cases : Mt P w K mg base (L2.CX P w) 3 C "cases" (spCases C CU)) (C_matches : Cal P w K mg base CX0 2 "matches" spMatches) : Cal P w K mg base (L2.CX P w) 4 "chosen" (spChosen C CU) := by
  refine calX F sc_chosen bi_chosen (fun vs H Q E h => ?_) (fun f cdv A outer s H vs Q E hr h => ?_)
  · obtain ⟨x, pt, hv, h, rows, rfl, _⟩ := h
    rfl
  · obtain ⟨x, pt, hv, h, rows, rfl, lk, nd, rh, k1, k2⟩ := h
    refine ⟨_, (pss_cons (ps_for (passes_of rfl) rfl (pi_enum rfl T.b_enumerate (pa_cons (pe_mx M_cases hr (by decide) (passes_call (takes_of rfl rfl rfl rfl) (fun _ _ _ _ h => h)) (pv 0) (pa_cons (pv 1) pa_nil)) pa_nil)) (pgt (n := 2) K rfl (pgs_cons (pg_name (i := 3) sc_chosen.nd rfl (Or.inl rfl)) (pgs_cons (pg_name (i := 4) sc_chosen.nd rfl (Or.inl rfl)) pgs_nil))) (pss_one (ps_if (pt_val (pe_k C_matches hr (by decide) rfl (pa_cons (pe_ix (ixt K) (pv 4) pe_int (fun _ _ => rfl)) (pa_cons (pv 2) pa_nil)))) (pss_one (ps_ret (pv 3))) pss_nil)))
 (pss_one (ps_ret (pe_un un_neg pe_int)))), ?_⟩
    obtain ⟨dx, o, d, kvs, g1, g2, g3, rk⟩ := id lk
    refine ⟨_, rfl, x, dx, _, rfl, g1, lfs_no _ _ (by decide +kernel) (by decide +kernel), _, rfl, x, pt, rows, rfl, lk, nd, fun cs hm => ?_, k2⟩
    obtain ⟨hl, hfs, k1⟩ := k1 cs hm
    refine ⟨hl, fun v H1 x0_1 rc => ?_⟩
    obtain ⟨a, ys, rfl, ha, rc⟩ := rc
    have ly := Paired.len rc
    refine ⟨a, ys, rfl, SqLo ha, for_it (walk_enum (K := K) (a := a) (xs := ys)) (fun j σ' H' => ∃ (v3 v4 : Option V), σ' = [some (.ref x), some (.str pt), some hv, v3, v4] ∧ Ex H1 H' ∧ ∀ i, i < j → ∀ c', cs[i]? = some c' → matchB c'.t h = false) ?_ ?_ ?_ ?_⟩
    · exact ⟨_, _, rfl, Ex.refl _, fun i hi => by omega⟩
    · rintro j σ' H' _ ⟨_, _, _, ex, _⟩
      exact SqLo (ex _ _ ha)
    · rintro j y σ' H2 H3 hj ⟨v3, v4, rfl, x1_2, hb⟩ ⟨T', n', c', rfl, nT, rfl, e1, e2⟩
      cases e1
      have x2_3 : Ex H2 (upd H2 T' (.tup [V.int (j : Nat), c'])) := Ex.new nT
      have x1_3 := x1_2.trans x2_3
      obtain ⟨c, hc, a5, tv, lv, rfl, h5, rt, rvl⟩ := Paired.get rc e2
      refine ⟨T', _, rfl, SqTo upd_same, rfl, _, _, rfl, _, _, rfl, rfl, ?_⟩
      refine ⟨_, rfl, a5, _, _, _, rfl, rfl, SqTo (x1_3 _ _ h5), rfl, _, rfl, _, _, c.t, h, rfl, rt.ex x1_3, rh.ex (x0_1.trans x1_3), hfs c (List.mem_of_getElem? hc), fun H4 x3_4 => ⟨_, rfl, if_b (fun e => ?_) (fun e => ?_)⟩⟩
      · refine ⟨_, rfl, ?_⟩
        have q := k1 H4 (x0_1.trans (x1_3.trans x3_4))
        rw [chosen_at hc e hb] at q
        exact q
      · refine ⟨_, _, rfl, x1_3.trans x3_4, fun i hi c'' hc'' => ?_⟩
        rcases Nat.lt_or_eq_of_le (Nat.lt_succ_iff.mp hi) with z | z
        · exact hb i z c'' hc''
        · subst z
          rw [hc] at hc''
          cases hc''
          exact e
    · rintro σ' H2 ⟨v3, v4, rfl, x1_2, hb⟩
      have q := k1 H2 (x0_1.trans x1_2)
      rw [chosen_no (fun i c' hc' => hb i (by rw [ly]; exact (List.getElem?_eq_some_iff.mp hc').1) c' hc')] at q
      exact ⟨_, rfl, q⟩
/-! ### _law_bad_point -/
def tSuite (K : PySem.W.Frag) (CD CR : Addr) : Addr → Value → Option Addr → TS := fun a cls d =>
  tRet (tAndV (tOp rEq (tXg K a cls d "point" (tVar 2)) (tC (.str "nobody"))) (tAndV (tNotV (tCB (rIsX K cls d a) (tCons (tVar 2) (tCons (tC (.ref CD)) tNil)))) (tNotV (tCB (rIsX K cls d a) (tCons (tVar 2) (tCons (tC (.ref CR)) tNil))))))
def spBad (C : Addr) : Sp := fun vs H Q _ => ∃ (x : Addr) (hv : V) (h : Head) (rows : List Row), vs = [.ref x, hv] ∧ LkAt C H x rows ∧ (rows.map (·.1)).Nodup ∧ RH H hv h ∧ ("nobody" : Str) ∉ rows.map (·.1) ∧ ∀ H', Ex H H' → Q (.bl true) H'
structure TxE (K : PySem.W.Frag) (mg : Str → Option Value) (CU CD CR : Addr) : Prop where
  gU : mg "UnknownPoint" = some (.ref CU)
  gD : mg "DuplicatePoint" = some (.ref CD)
  gR : mg "RepeatedChild" = some (.ref CR)
  xd : ExcD K CU
  no : PySem.W.findIn K (.ref CU) "point" = some none
  ee : PySem.W.exmOne K (.ref CU) (.ref CU) = some true
  kD : PySem.W.kitOne K (.ref CU) (.ref CD) = some false
  kR : PySem.W.kitOne K (.ref CU) (.ref CR) = some false
theorem sc__law_bad_point : FnScope ["_law_looker", "_law_top", "e"] ["_law_looker", "_law_top"] (defScope s__law_bad_point) := ⟨rfl, rfl, rfl, by decide +kernel, rfl, by decide +kernel, by decide +kernel⟩
theorem bi__law_bad_point : BindsEq "_law_bad_point" s__law_bad_point ["_law_looker", "_law_top"] := fun _ _ _ _ _ _ us hl => match us, hl with | [_, _], _ => rfl
theorem ok_bad (F : Df K mg "_law_bad_point" s__law_bad_point) (T : Txt K mg) (Te : TxE K mg CU CD CR) (C_chosen : Cal P w K mg base (L2.CX P w) 4 "chosen" (spChosen C CU)) : Cal P w K mg base CX0 5 "_law_bad_point" (spBad C) := by
  refine cal0 F sc__law_bad_point bi__law_bad_point (fun vs H Q E h => ?_) (fun f cdv A outer s H vs Q E hr h => ?_)
  · obtain ⟨x, hv, h, rows, rfl, _⟩ := h
    rfl
  · obtain ⟨x, hv, h, rows, rfl, lk, nd, rh, nn, k⟩ := h
    refine ⟨_, pss_cons (ps_try_as (i := 2) (tb := fun W => tDrop (tCallS (spChosen C CU) (WE W) (tCons (tVar 0) (tCons (tC (.str "nobody")) (tCons (tVar 1) tNil))))) (ts := tSuite K CD CR) (Wout := fun _ _ _ _ => False) rfl rfl sc__law_bad_point.nd rfl rfl ⟨rfl, by decide, Or.inl Te.gU⟩ takes0
        (fun W pn xe tk _ => pss_one (ps_expr (pe_kS C_chosen hr (by decide) tk rfl (pa_cons (pv 0) (pa_cons pe_str (pa_cons (pv 1) pa_nil))))))
        (fun a oe cls d pn hz hf => pss_one (ps_ret (pe_and (pe_cmpR op_eq (pe_xg hz hf (pv 2)) pe_str (nomark _)) (pe_and (pe_not (pe_callB (call_isX hz hf) rfl T.b_isinstance (by decide +kernel) (pa_cons (pv 2) (pa_cons (pe_glob rfl Te.gD rfl) pa_nil))))
          (pe_one (pe_not (pe_callB (call_isX hz hf) rfl T.b_isinstance (by decide +kernel) (pa_cons (pv 2) (pa_cons (pe_glob rfl Te.gR rfl) pa_nil)))))))))) 
      (pss_one (ps_ret pe_bl)), ?_⟩
    refine ⟨_, rfl, _, rfl, x, "nobody", hv, h, rows, rfl, lk, nd, rh, fun cs hm => absurd (List.mem_map_of_mem hm) nn, fun _ d H1 x0_1 hd => ?_⟩
    refine ⟨true, Te.ee, fun _ a ha => ?_, fun q => Bool.noConfusion q⟩
    have hdd : ∀ dd, some d = some dd → ∃ fs, H1 dd = some (.xd fs) := fun dd e => by cases e; exact ⟨_, hd⟩
    refine ⟨_, rfl, rfl, CU, d, _, _, rfl, Te.xd.xf, Te.no, rfl, hd, rfl, rfl, _, rfl, if_t (by decide +kernel) ?_⟩
    refine ⟨_, rfl, CU, _, _, _, rfl, rfl, Te.xd, hdd, .own CD, Te.kD, _, rfl, _, rfl, ?_⟩
    exact ⟨_, rfl, CU, _, _, _, rfl, rfl, Te.xd, hdd, .own CR, Te.kR, _, rfl, k H1 x0_1⟩
end
end K44

namespace K44
open PySem PySem.Spec L2 LW
open Evl (Ex)
/-! ### the cases as data -/
theorem strs_lay {fs : List Str} (h : ∀ f ∈ fs, SOk f) : PyData.canLayAll0 (fs.map PyData.str) = true := lay_all fun x hx => by
  rw [PyData.canLay0]
  exact h x hx
theorem lit_ok : SOk "any" ∧ SOk "number" ∧ SOk "text" ∧ SOk "is" ∧ SOk "record" ∧ SOk "list" := by decide +kernel
theorem test_lay {t : Test} (h : t.Ok) : PyData.canLay0 t.d = true := by
  obtain ⟨l1, l2, l3, l4, l5, l6⟩ := lit_ok
  have oi' : ∀ o : Option Int, PyData.canLay0 (oiD o) = true := fun o => by cases o <;> rfl
  cases t with
  | any => simp only [Test.d, PyData.canLay0, PyData.canLayAll0, l1]; rfl
  | num lo hi => simp only [Test.d, PyData.canLay0, PyData.canLayAll0, l2, oi']; rfl
  | text => simp only [Test.d, PyData.canLay0, PyData.canLayAll0, l3]; rfl
  | isI i => simp only [Test.d, PyData.canLay0, PyData.canLayAll0, l4]; rfl
  | isS s =>
    have h' : PyData.strOk s = true := h
    simp only [Test.d, PyData.canLay0, PyData.canLayAll0, l4, h']
    rfl
  | rcd fs => simp only [Test.d, PyData.canLay0, PyData.canLayAll0, l5, strs_lay h.1]; rfl
  | list lo hi => simp only [Test.d, PyData.canLay0, PyData.canLayAll0, l6, oi']; rfl
theorem test_depth (t : Test) : t.d.depth ≤ 10 := by
  have oi' : ∀ o : Option Int, (oiD o).depth ≤ 1 := fun o => by cases o <;> simp [oiD, PyData.depth]
  have hs : ∀ fs : List Str, PyData.depthAll (fs.map PyData.str) ≤ 1 := fun fs => depth_all fun x _ => by simp [PyData.depth]
  cases t with
  | num lo hi =>
    have := oi' lo
    have := oi' hi
    simp only [Test.d, PyData.depth, PyData.depthAll]
    omega
  | list lo hi =>
    have := oi' hi
    simp only [Test.d, PyData.depth, PyData.depthAll]
    omega
  | rcd fs =>
    have := hs fs
    simp only [Test.d, PyData.depth, PyData.depthAll]
    omega
  | _ => simp [Test.d, PyData.depth, PyData.depthAll]
theorem case_lay {pts : List Str} {c : Case} (h : CaseOk pts c) (hp : ∀ x ∈ pts, SOk x) : PyData.canLay0 c.d = true := by
  obtain ⟨h1, h2, h3⟩ := h
  have o : PyData.canLay0 (osD c.w) = true := by
    cases e : c.w with
    | none => rfl
    | some s =>
      show PyData.canLay0 (.str s) = true
      rw [PyData.canLay0]
      exact h2 s e
  have v : PyData.canLay0 (visLD c.vs) = true := by
    unfold visLD
    rw [PyData.canLay0]
    refine lay_all fun x hx => ?_
    have hk : x.1.Ok := h3.nr.ok x.1 (List.mem_map_of_mem hx)
    have hs : PyData.strOk x.2 = true := hp x.2 (h3.pt x hx)
    simp only [visD, PyData.canLay0, PyData.canLayAll0, kid_lay hk, hs]
    rfl
  simp only [Case.d, PyData.canLay0, PyData.canLayAll0, test_lay h1, o, v]
  rfl
theorem case_depth (c : Case) : c.d.depth ≤ 20 := by
  have h1 := test_depth c.t
  have h2 : (osD c.w).depth ≤ 1 := by cases c.w <;> simp [osD, PyData.depth]
  have h3 : (visLD c.vs).depth ≤ 10 := by
    have q : PyData.depthAll (c.vs.map visD) ≤ 5 := depth_all fun x _ => by
      have := kid_depth x.1
      simp only [visD, PyData.depth, PyData.depthAll]
      omega
    unfold visLD
    rw [PyData.depth]
    omega
  simp only [Case.d, PyData.depth, PyData.depthAll]
  omega
theorem cases_shaped {pts : List Str} {cs : List Case} (h : ∀ c ∈ cs, CaseOk pts c) (hp : ∀ x ∈ pts, SOk x) : PyData.canLay0 (caseLD cs) = true ∧ SeqAt.shaped (caseLD cs) = true := by
  have l : PyData.canLay0 (caseLD cs) = true := by
    unfold caseLD
    rw [PyData.canLay0]
    exact lay_all fun c hc => case_lay (h c hc) hp
  refine ⟨l, shaped_of l ?_⟩
  have q : PyData.depthAll (cs.map Case.d) ≤ 20 := depth_all fun x _ => case_depth x
  unfold caseLD
  rw [PyData.depth]
  omega
/-! ### the indices that are due -/
def fitAt (cs : List Case) (h : Head) (i : Nat) : Bool := match cs[i]? with
  | some c => matchB c.t h
  | none => false
def dueL (cs : List Case) (h : Head) (n : Nat) : List V := ((List.range n).filter (fitAt cs h)).map fun (i : Nat) => V.int (i : Int)
theorem due_more (cs : List Case) (h : Head) (n : Nat) : dueL cs h (n + 1) = if fitAt cs h n = true then dueL cs h n ++ [V.int (n : Int)] else dueL cs h n := by
  unfold dueL
  rw [List.range_succ, List.filter_append, List.map_append]
  by_cases e : fitAt cs h n = true
  · rw [if_pos e, List.filter_cons, if_pos e]
    rfl
  · rw [if_neg e, List.filter_cons, if_neg e]
    simp
theorem due_len (cs : List Case) (h : Head) (n : Nat) : (dueL cs h n).length ≤ n := by
  unfold dueL
  rw [List.length_map]
  have q := List.length_filter_le (fitAt cs h) (List.range n)
  rw [List.length_range] at q
  exact q
theorem due_head (cs : List Case) (h : Head) : atI (dueL cs h cs.length ++ [V.int (-1)]) 0 = some (V.int (chosenI cs h)) := by
  refine atI_nat (j := 0) ?_
  cases e : (List.range cs.length).filter (fitAt cs h) with
  | nil =>
    have q : chosenI cs h = -1 := chosen_no fun i c' hc' => by
      have hi := (List.getElem?_eq_some_iff.mp hc').1
      have z := List.filter_eq_nil_iff.mp e i (List.mem_range.mpr hi)
      unfold fitAt at z
      rw [hc'] at z
      exact Bool.eq_false_iff.mpr z
    unfold dueL
    rw [e, q]
    rfl
  | cons j rest =>
    have hf : (List.range cs.length).find? (fitAt cs h) = some j := by
      rw [← List.head?_filter, e]
      rfl
    have hj := List.find?_some hf
    obtain ⟨c, hc⟩ : ∃ c, cs[j]? = some c := by
      unfold fitAt at hj
      cases q : cs[j]? with
      | none => rw [q] at hj; cases hj
      | some c => exact ⟨c, rfl⟩
    have hm : matchB c.t h = true := by
      unfold fitAt at hj
      rw [hc] at hj
      exact hj
    have q : chosenI cs h = (j : Int) := chosen_at hc hm fun i hi c' hc' => by
      have z := (List.find?_range_eq_some.mp hf).2.2 i hi
      unfold fitAt at z
      rw [hc'] at z
      simpa using z
    unfold dueL
    rw [e, q]
    rfl
section
variable {P : Program} {w : World} {K : PySem.W.Frag} {mg : Str → Option Value} {base : Heap} {C CU CD CR : Addr}
def spLaw (K : PySem.W.Frag) : Sp := fun vs H Q _ => ∃ (a : Addr) (ns : List Int), vs = [.ref a] ∧ SqL K H a (ns.map V.int) ∧ ns.length ≤ 63 ∧ ∀ H', Q (.bl true) H'
theorem sc_law : FnScope ["_law_script", "_law_k", "_law_pool", "_law_program_here", "_law_test_here", "_law_top", "_law_truth", "_law_looker", "_law_row", "_law_tests", "_law_due", "_law_found", "_law_case", "_law_one"] ["_law_script"] (defScope s_law) := ⟨rfl, rfl, rfl, by decide +kernel, rfl, by decide +kernel, by decide +kernel⟩
theorem bi_law : BindsEq "law" s_law ["_law_script"] := fun _ _ _ _ _ _ us hl => match us, hl with | [_], _ => rfl
theorem ok_law {f : Addr} {fd : FuncData} (F : FnP K "law" s_law f fd) (T : Txt K mg) (L : TxL K mg C) (C__law_hand : Cal P w K mg base CX0 1 "_law_hand" (spHand K)) (C__law_program : Cal P w K mg base CX0 3 "_law_program" spProgram) (C__law_test : Cal P w K mg base CX0 2 "_law_test" spTest)
    (C__law_head : Cal P w K mg base CX0 3 "_law_head" spHead) (C_matches : Cal P w K mg base CX0 2 "matches" spMatches) (C__law_test_fits : Cal P w K mg base CX0 2 "_law_test_fits" spMatches) (C__law_program_copy : Cal P w K mg base CX0 1 "_law_program_copy" spCopy)
    (M_Looker : Mkr P w K mg base CX0 3 "Looker" C (spLInit C)) (C_chosen : Cal P w K mg base (L2.CX P w) 4 "chosen" (spChosen C CU)) (M_cases : Mt P w K mg base (L2.CX P w) 3 C "cases" (spCases C CU)) (C__law_bad_point : Cal P w K mg base CX0 5 "_law_bad_point" (spBad C)) :
    FnOk P w K mg base CX0 6 f fd ["_law_script"] (spLaw K) := by
  refine F.ok sc_law (fun vs H Q E h => ?_) (fun cdv A outer s H vs Q E hr h => ?_)
  · obtain ⟨a, ns, rfl, _⟩ := h
    rfl
  · obtain ⟨a, ns, rfl, hS, hl, k⟩ := h
    refine ⟨_, PSs.nox (pss_cons (ps_for PassesOwn.never rfl (pi_range1 rfl T.b_range (pa_cons (pe_callB (call_max2 rfl) rfl T.b_max (by decide +kernel) (pa_cons pe_int (pa_cons (pe_callB (call_min2 rfl) rfl T.b_min (by decide +kernel) (pa_cons (pe_callB (lnK K) rfl T.b_len (by decide +kernel) (pa_cons (pv 0) pa_nil)) (pa_cons pe_int pa_nil))) pa_nil))) pa_nil)) (pg_name (i := 1) sc_law.nd rfl (Or.inl rfl)) (pss_cons (ps_set (i := 2) sc_law.nd rfl (Or.inl rfl) (pe_k C__law_hand hr (by decide) rfl (pa_cons (pv 0) (pa_cons (pv 1) pa_nil))))
 (pss_cons (ps_set (i := 3) sc_law.nd rfl (Or.inl rfl) (pe_k C__law_program hr (by decide) rfl (pa_cons (pv 2) (pa_cons pe_int pa_nil))))
 (pss_cons (ps_set (i := 4) sc_law.nd rfl (Or.inl rfl) (pe_k C__law_test hr (by decide) rfl (pa_cons (pv 2) pa_nil)))
 (pss_cons (ps_set (i := 5) sc_law.nd rfl (Or.inr rfl) (pe_k C__law_head hr (by decide) rfl (pa_cons (pv 2) (pa_cons (pv 4) pa_nil))))
 (pss_cons (ps_set (i := 6) sc_law.nd rfl (Or.inl rfl) (pe_k C_matches hr (by decide) rfl (pa_cons (pv 4) (pa_cons (pv 5) pa_nil))))
 (pss_cons (ps_if (PW.pt (pw_or (pt_not (pt_val (pe_callB (isiK K) rfl T.b_isinstance (by decide +kernel) (pa_cons (pv 6) (pa_cons (pe_bltn (v := .ty "bool") rfl T.b_bool (by decide +kernel) rfl) pa_nil))))) (pw_or1 (pt_cmpR op_ne (pv 6) (pe_k C__law_test_fits hr (by decide) rfl (pa_cons (pv 4) (pa_cons (pv 5) pa_nil))) (nomark _))))) (pss_one (ps_ret pe_bl)) pss_nil)
 (pss_cons (ps_set (i := 7) sc_law.nd rfl (Or.inl rfl) (pe_mkr M_Looker hr (by decide) pass0 rfl (pa_cons (pe_k C__law_program_copy hr (by decide) rfl (pa_cons (pv 3) pa_nil)) pa_nil)))
 (pss_cons (ps_for PassesOwn.never rfl (pil K (pv 3)) (pg_name (i := 8) sc_law.nd rfl (Or.inl rfl)) (pss_cons (ps_set (i := 9) sc_law.nd rfl (Or.inr rfl) (pe_lc (own := [("_law_case", 12)]) (by rfl) sc_law.nd (pil K (pe_ix (ixt K) (pv 8) pe_int (fun _ _ => rfl))) (blkOk_by (own := [("_law_case", 12)]) (N := ["_law_script", "_law_k", "_law_pool", "_law_program_here", "_law_test_here", "_law_top", "_law_truth", "_law_looker", "_law_row", "_law_tests", "_law_due", "_law_found", "_law_case", "_law_one"]) (sc := defScope s_law) (by decide +kernel)) (fun _ _ _ _ _ => (pg_name (i := 12) sc_law.nd rfl (Or.inl rfl))) (fun _ _ _ _ _ => pts_nil) (fun _ _ _ _ _ => (pe_ix (ixt K) (pv 12) pe_int (fun _ _ => rfl)))))
 (pss_cons (ps_set (i := 10) sc_law.nd rfl (Or.inl rfl) (pe_op op_cat (pe_lc (own := [("_law_one", 13)]) (by rfl) sc_law.nd (pi_range1 rfl T.b_range (pa_cons (pe_callB (lnK K) rfl T.b_len (by decide +kernel) (pa_cons (pv 9) pa_nil)) pa_nil)) (blkOk_by (own := [("_law_one", 13)]) (N := ["_law_script", "_law_k", "_law_pool", "_law_program_here", "_law_test_here", "_law_top", "_law_truth", "_law_looker", "_law_row", "_law_tests", "_law_due", "_law_found", "_law_case", "_law_one"]) (sc := defScope s_law) (by decide +kernel)) (fun _ _ _ _ _ => (pg_name (i := 13) sc_law.nd rfl (Or.inl rfl))) (fun _ _ _ _ _ => (pts_one (pt_val (pe_k C__law_test_fits hr (by decide) rfl (pa_cons (pe_ix (ixl K) (pv 9) (pv 13) (fun _ _ => rfl)) (pa_cons (pv 5) pa_nil)))))) (fun _ _ _ _ _ => (pv 13))) (pe_lst (pa_cons (pe_un un_neg pe_int) pa_nil))))
 (pss_cons (ps_set (i := 11) sc_law.nd rfl (Or.inl rfl) (pe_kL C_chosen hr (by decide) rfl (pa_cons (pv 7) (pa_cons (pe_ix (ixt K) (pv 8) pe_int (fun _ _ => rfl)) (pa_cons (pv 5) pa_nil)))))
 (pss_cons (ps_if (PW.pt (pw_or (pt_not (pt_val (pe_callB (isiK K) rfl T.b_isinstance (by decide +kernel) (pa_cons (pv 11) (pa_cons (pe_bltn (v := .ty "int") rfl T.b_int (by decide +kernel) rfl) pa_nil))))) (pw_or (pt_val (pe_callB (isiK K) rfl T.b_isinstance (by decide +kernel) (pa_cons (pv 11) (pa_cons (pe_bltn (v := .ty "bool") rfl T.b_bool (by decide +kernel) rfl) pa_nil)))) (pw_or1 (pt_cmpR op_ne (pv 11) (pe_ix (ixl K) (pv 10) pe_int (fun _ _ => rfl)) (nomark _)))))) (pss_one (ps_ret pe_bl)) pss_nil)
 (pss_one (ps_if (pt_cmpR (neDK K hr.units) (pe_mx M_cases hr (by decide) passL (pv 7) (pa_cons (pe_ix (ixt K) (pv 8) pe_int (fun _ _ => rfl)) pa_nil)) (pe_ix (ixt K) (pv 8) pe_int (fun _ _ => rfl)) (nomark _)) (pss_one (ps_ret pe_bl)) pss_nil)))))))
 (pss_one (ps_if (pt_not (pt_val (pe_k C__law_bad_point hr (by decide) rfl (pa_cons (pv 7) (pa_cons (pv 5) pa_nil))))) (pss_one (ps_ret pe_bl)) pss_nil)))))))))))
 (pss_one (ps_ret pe_bl))), ?_⟩
    have hlen : (ns.map V.int).length ≤ 63 := by rw [List.length_map]; exact hl
    generalize hn : (ns.map V.int).length = n0 at hlen
    refine ⟨_, rfl, _, n0, rfl, .inl ⟨_, hS, hn.symm⟩, _, _, rfl, _, _, rfl, _, rfl, by split <;> split <;> omega, by split <;> split <;> omega, ?_⟩
    refine for_range (lo := 0) (fun i σ' H' => ∃ v1 v2 v3 v4 v5 v6 v7 v8 v9 v10 v11 v12 v13 : Option V, σ' = [some (.ref a), v1, v2, v3, v4, v5, v6, v7, v8, v9, v10, v11, v12, v13] ∧ Ex H H') ?_ ?_ ?_
    · exact ⟨none, none, none, none, none, none, none, none, none, none, none, none, none, rfl, Ex.refl _⟩
    · rintro i σ' H0 hi ⟨v1, v2, v3, v4, v5, v6, v7, v8, v9, v10, v11, v12, v13, rfl, e0⟩
      have hi63 : i < 63 := by
        have : (if (if (63 : Int) < (n0 : Int) then (63 : Int) else (n0 : Int)) > 1 then (if (63 : Int) < (n0 : Int) then (63 : Int) else (n0 : Int)) else 1).toNat ≤ 63 := by split <;> split <;> omega
        exact Nat.lt_of_lt_of_le hi this
      -- _law_pool
      refine ⟨_, rfl, _, rfl, a, ns, _, rfl, Evl.ex_l e0 hS, hl, by omega, by omega, fun p H1 np x0_1 hp => ?_⟩
      -- _law_program_here
      refine ⟨_, rfl, p, 12, rfl, hp, by decide, by decide, fun pv H2 rows x1_2 rp po => ?_⟩
      -- _law_test_here
      refine ⟨_, rfl, p, rfl, hp.ex x1_2, fun tv H3 t x2_3 rt tok => ?_⟩
      have rt3 := rt.ex fr_sub
      have fso : FsOk t := fun fs e => by
        rw [e] at tok
        exact tok.2
      -- _law_top
      refine ⟨_, rfl, _, rfl, p, tv, t, rfl, (hp.ex x1_2).ex x2_3, rt3, fun hv H4 h x3_4 rh => ?_⟩
      -- _law_truth
      refine ⟨_, rfl, _, rfl, tv, hv, t, h, rfl, rt3.ex x3_4, rh, fso, fun H5 x4_5 => ?_⟩
      refine ⟨_, rfl, _, _, _, _, _, rfl, .ty "bool", .base (.bl _), is_bb, _, rfl, ?_⟩
      refine ⟨_, rfl, _, rfl, _, rfl, tv, hv, t, h, rfl, rt3.ex (x3_4.trans x4_5), rh.ex x4_5, fso, fun H6 x5_6 => ⟨rfl, _, rfl, if_f (by simp) ?_⟩⟩
      have x2_6 := ((x2_3.trans x3_4).trans x4_5).trans x5_6
      have rp2 : RProg H2 pv rows := rp.ex fr_sub
      have rp6 := rp2.ex x2_6
      have rh6 := rh.ex (x4_5.trans x5_6)
      -- _law_looker
      refine ⟨_, rfl, pv, rows, rfl, rp6, po.le, fun r hr' => (po.cs r hr').1, fun cv H7 x6_7 rc => ?_⟩
      intro x dx nx ndx ne
      have s0 : Ex H7 (upd (upd H7 dx (.own x)) x (.ins C dx [])) := Ex.mut (Ex.new ndx) nx
      refine ⟨x, dx, cv, H7, rows, rfl, upd_same, nx, s0, rc, po, fun r hr' c hc => ((po.cs r hr').2 c hc).2.2.le, fun H8 x7_8 lk => ⟨rfl, ?_⟩⟩
      have x6_8 := x6_7.trans x7_8
      have rp8 := rp6.ex x6_8
      have rh8 := rh6.ex x6_8
      have ptok : ∀ x ∈ rows.map (·.1), SOk x := fun x hx => (po.pt x hx).1
      have x0_8 : Ex H H8 := (e0.trans x0_1).trans ((x1_2.trans x2_6).trans x6_8)
      clear rp6 rh6 rp2 rp rh rc x2_6 x0_1 x1_2 x2_3 x3_4 x4_5 x5_6 x6_7 x7_8 x6_8 hp rt rt3 s0 nx ndx ne tok fso e0
      obtain ⟨pa, xs, rfl, hpa, rr⟩ := id rp8
      -- for _law_row in _law_program_here
      refine ⟨_, rfl, pa, rfl, ⟨_, SqLo hpa⟩, for_list (K := K) (a := pa) (xs := xs) (fun i' σ' H' => ∃ v8 v9 v10 v11 v12 v13 : Option V, σ' = [some (.ref a), some (.int (0 + (i : Int))), some (.ref p), some (.ref pa), some tv, some hv, some (.bl (matchB t h)), some (.ref x), v8, v9, v10, v11, v12, v13] ∧ Ex H8 H') ?_ ?_ ?_ ?_⟩
      · exact ⟨_, _, _, _, _, _, rfl, Ex.refl _⟩
      · rintro i' σ' H' _ ⟨_, _, _, _, _, _, _, ex⟩
        exact SqLo (ex _ _ hpa)
      · rintro i' y σ' H9 hi' ⟨v8, v9, v10, v11, v12, v13, rfl, x8_9⟩
        obtain ⟨⟨pt, cs⟩, hrow, a2, l, rfl, h2, a3, ys, rfl, h3, rc⟩ := Paired.get rr hi'
        have hrm := List.mem_of_getElem? hrow
        obtain ⟨hcl, hco⟩ := po.cs (pt, cs) hrm
        have hcl : cs.length ≤ 6 := hcl
        have ly := Paired.len rc
        -- _law_tests
        refine ⟨_, rfl, a2, _, _, _, rfl, rfl, SqTo (x8_9 _ _ h2), rfl, a3, rfl, ⟨_, SqLo (x8_9 _ _ h3)⟩, fun D nD => lc_list (K := K) (a := a3) (xs := ys) (fun j H' => Ex H9 H' ∧ ∃ us, H' D = some (.lst us) ∧ Paired (RT H8) us ((cs.take j).map Case.t)) ?_ ?_ ?_ ?_⟩
        · exact ⟨Ex.new nD, [], upd_same, by rw [List.take_zero]; exact .nil⟩
        · rintro j H' _ ⟨ex, _⟩
          exact SqLo (ex _ _ (x8_9 _ _ h3))
        · rintro j y H10 hj ⟨x9_10, us, g, ru⟩
          obtain ⟨c, hc, a4, tv', lv, rfl, h4, rt, _⟩ := Paired.get rc hj
          have tkc : cs.take (j + 1) = cs.take j ++ [c] := by rw [List.take_add_one, hc]; rfl
          have hul : us.length ≤ 6 := by
            have q := Paired.len ru
            rw [List.length_map, List.length_take] at q
            omega
          refine ⟨rfl, _, rfl, a4, _, _, _, rfl, rfl, SqTo (x9_10 _ _ (x8_9 _ _ h4)), rfl, us, g, szlt (by omega), Ex.mut x9_10 nD, us ++ [tv'], upd_same, ?_⟩
          rw [tkc, List.map_append]
          exact Paired.app ru (.cons rt .nil)
        · rintro H10 ⟨x9_10, us, g, ru⟩
          rw [ly, List.take_length] at ru
          have lu : us.length = cs.length := by rw [Paired.len ru, List.length_map]
          have x8_10 := x8_9.trans x9_10
          -- _law_due
          refine ⟨_, rfl, _, _, rfl, .inl ⟨_, SqLo g, rfl⟩, _, rfl, by omega, by omega, fun D2 nD2 => lc_range (lo := 0) (n := (us.length : Int).toNat) (fun j H' => Ex H10 H' ∧ H' D2 = some (.lst (dueL cs h j))) ?_ ?_ ?_⟩
          · exact ⟨Ex.new nD2, upd_same⟩
          · rintro j H11 hj ⟨x10_11, g2⟩
            have hj' : j < us.length := by omega
            have x8_11 := x8_10.trans x10_11
            obtain ⟨c, hc⟩ : ∃ c, cs[j]? = some c := ⟨cs[j], List.getElem?_eq_getElem (by omega)⟩
            have hcm := List.mem_of_getElem? hc
            obtain ⟨u, hu1, rt⟩ := Paired.get' ru (show (cs.map Case.t)[j]? = some c.t by rw [List.getElem?_map, hc]; rfl)
            have hfit : fitAt cs h j = matchB c.t h := by unfold fitAt; rw [hc]
            have eJ : (0 : Int) + (j : Int) = ((j : Nat) : Int) := by omega
            refine ⟨rfl, _, rfl, _, rfl, D, us, _, u, rfl, rfl, SqLo (x10_11 _ _ g), by rw [eJ]; exact atI_nat hu1, _, rfl, u, hv, c.t, h, rfl, rt.ex x8_11, rh8.ex x8_11, fun fs e => ?_, fun H12 x11_12 => ⟨_, rfl, if_b (fun e => ?_) (fun e => ?_)⟩⟩
            · have tk := (hco c hcm).1
              rw [e] at tk
              exact tk.2
            · refine ⟨_, rfl, _, x11_12 _ _ g2, szlt (by have := due_len cs h j; omega), Ex.mut (x10_11.trans x11_12) nD2, ?_⟩
              rw [upd_same, due_more, hfit, if_pos e, eJ]
            · refine ⟨x10_11.trans x11_12, ?_⟩
              rw [due_more, hfit, if_neg (by rw [e]; decide)]
              exact x11_12 _ _ g2
          · rintro H11 ⟨x10_11, g2⟩
            rw [Int.toNat_natCast, lu] at g2
            refine ⟨_, rfl, szl (by show 1 ≤ 100000; decide), fun p12 np12 => ?_⟩
            obtain ⟨H12, hH12, x11_12, h12⟩ := newH _ np12
            rw [hH12]
            clear hH12
            refine ⟨D2, p12, _, _, rfl, rfl, x11_12 _ _ g2, h12, szl (by have := due_len cs h cs.length; show _ + 1 ≤ 100000; omega), fun p13 np13 => ?_⟩
            obtain ⟨H13, hH13, x12_13, h13⟩ := newH _ np13
            rw [hH13]
            clear hH13
            have x8_13 := x8_10.trans ((x10_11.trans x11_12).trans x12_13)
            -- _law_found
            refine ⟨_, rfl, _, rfl, a2, _, _, _, rfl, rfl, SqTo (x8_13 _ _ h2), rfl, _, rfl, x, pt, hv, h, rows, rfl, lk.ex x8_13, po.nd, rh8.ex x8_13, fun cs' hm' => ?_, fun hn' => absurd (List.mem_map_of_mem hrm) hn'⟩
            have ecs : cs' = cs := by
              obtain ⟨i1, hi1⟩ := List.mem_iff_getElem?.mp hm'
              have q1 : (rows.map (·.1))[i1]? = some pt := by rw [List.getElem?_map, hi1]; rfl
              have q2 : (rows.map (·.1))[i']? = some pt := by rw [List.getElem?_map, hrow]; rfl
              have : i1 = i' := nodup_ix po.nd q1 q2
              rw [this, hrow] at hi1
              exact (congrArg Prod.snd (Option.some.inj hi1)).symm
            subst ecs
            refine ⟨hcl, fun c hc fs e => ?_, fun H14 x13_14 => ?_⟩
            · have tk := (hco c hc).1
              rw [e] at tk
              exact tk.2
            · have x8_14 := x8_13.trans x13_14
              refine ⟨_, rfl, _, _, _, _, _, rfl, .ty "int", .base (.int _), is_ii, _, rfl, ?_⟩
              refine ⟨_, rfl, _, _, _, _, _, rfl, .ty "bool", .base (.int _), is_ib, _, rfl, ?_⟩
              refine ⟨_, rfl, _, rfl, p13, _, _, _, rfl, rfl, SqLo (x13_14 _ _ h13), due_head cs' h, rfl, _, rfl, if_f (by simp) ?_⟩
              -- cases
              obtain ⟨dx', o', d', kvs', q1, q2, q3, q4⟩ := id (lk.ex x8_14)
              refine ⟨_, rfl, x, dx', _, rfl, q1, lfs_no _ _ (by decide +kernel) (by decide +kernel), _, rfl, a2, _, _, _, rfl, rfl, SqTo (x8_14 _ _ h2), rfl, x, pt, rows, rfl, lk.ex x8_14, po.nd, fun cs'' hm'' => ?_, fun hn' => absurd (List.mem_map_of_mem hrm) hn'⟩
              have ecs : cs'' = cs' := by
                obtain ⟨i1, hi1⟩ := List.mem_iff_getElem?.mp hm''
                have q1 : (rows.map (·.1))[i1]? = some pt := by rw [List.getElem?_map, hi1]; rfl
                have q2 : (rows.map (·.1))[i']? = some pt := by rw [List.getElem?_map, hrow]; rfl
                have : i1 = i' := nodup_ix po.nd q1 q2
                rw [this, hrow] at hi1
                exact (congrArg Prod.snd (Option.some.inj hi1)).symm
              subst ecs
              refine ⟨hcl, fun v H15 x14_15 rv => ?_⟩
              have x8_15 := x8_14.trans x14_15
              have rl : RCaseL H15 (.ref a3) cs'' := (show RCaseL H8 (.ref a3) cs'' from ⟨a3, ys, rfl, h3, rc⟩).ex x8_15
              obtain ⟨cl, sh⟩ := cases_shaped hco ptok
              refine ⟨_, rfl, a2, _, _, _, rfl, rfl, SqTo (x8_15 _ _ h2), rfl, _, _, rv.dp, rl.dp, sh, sh, _, rfl, if_f ?_ ?_⟩
              · rw [SeqAt.eqv_refl _ cl]
                rfl
              · exact ⟨_, _, _, _, _, _, rfl, x8_15⟩
      · rintro σ' H9 ⟨v8, v9, v10, v11, v12, v13, rfl, x8_9⟩
        refine ⟨_, rfl, _, rfl, x, hv, h, rows, rfl, lk.ex x8_9, po.nd, rh8.ex x8_9, fun hm => (po.pt _ hm).2 rfl, fun H10 x9_10 => ⟨_, rfl, ?_⟩⟩
        exact ⟨_, _, _, _, _, _, _, _, _, _, _, _, _, rfl, x0_8.trans (x8_9.trans x9_10)⟩
    · rintro σ' H1 ⟨v1, v2, v3, v4, v5, v6, v7, v8, v9, v10, v11, v12, v13, rfl, e0⟩
      exact k H1
end
end K44

namespace K44
open PySem PySem.Spec L2 LW
/-! ### the head: facts by names, the run -/
def d_takes_leaf : He.DefD := ⟨("takes_leaf", none), "takes_leaf", "takes_leaf", defArgs s_takes_leaf, defBody s_takes_leaf, defScope s_takes_leaf, [], []⟩
def d_matches : He.DefD := ⟨("matches", none), "matches", "matches", defArgs s_matches, defBody s_matches, defScope s_matches, [], []⟩
def d_has_repeats : He.DefD := ⟨("has_repeats", none), "has_repeats", "has_repeats", defArgs s_has_repeats, defBody s_has_repeats, defScope s_has_repeats, [], []⟩
def d_chosen : He.DefD := ⟨("chosen", none), "chosen", "chosen", defArgs s_chosen, defBody s_chosen, defScope s_chosen, [], []⟩
def d__law_hand : He.DefD := ⟨("_law_hand", none), "_law_hand", "_law_hand", defArgs s__law_hand, defBody s__law_hand, defScope s__law_hand, [], []⟩
def d__law_draw : He.DefD := ⟨("_law_draw", none), "_law_draw", "_law_draw", defArgs s__law_draw, defBody s__law_draw, defScope s__law_draw, [], []⟩
def d__law_leaf : He.DefD := ⟨("_law_leaf", none), "_law_leaf", "_law_leaf", defArgs s__law_leaf, defBody s__law_leaf, defScope s__law_leaf, [], []⟩
def d__law_test : He.DefD := ⟨("_law_test", none), "_law_test", "_law_test", defArgs s__law_test, defBody s__law_test, defScope s__law_test, [], []⟩
def d__law_visits : He.DefD := ⟨("_law_visits", none), "_law_visits", "_law_visits", defArgs s__law_visits, defBody s__law_visits, defScope s__law_visits, [], []⟩
def d__law_program : He.DefD := ⟨("_law_program", none), "_law_program", "_law_program", defArgs s__law_program, defBody s__law_program, defScope s__law_program, [], []⟩
def d__law_program_copy : He.DefD := ⟨("_law_program_copy", none), "_law_program_copy", "_law_program_copy", defArgs s__law_program_copy, defBody s__law_program_copy, defScope s__law_program_copy, [], []⟩
def d__law_leaf_fits : He.DefD := ⟨("_law_leaf_fits", none), "_law_leaf_fits", "_law_leaf_fits", defArgs s__law_leaf_fits, defBody s__law_leaf_fits, defScope s__law_leaf_fits, [], []⟩
def d__law_head : He.DefD := ⟨("_law_head", none), "_law_head", "_law_head", defArgs s__law_head, defBody s__law_head, defScope s__law_head, [], []⟩
def d__law_test_fits : He.DefD := ⟨("_law_test_fits", none), "_law_test_fits", "_law_test_fits", defArgs s__law_test_fits, defBody s__law_test_fits, defScope s__law_test_fits, [], []⟩
def d__law_bad_point : He.DefD := ⟨("_law_bad_point", none), "_law_bad_point", "_law_bad_point", defArgs s__law_bad_point, defBody s__law_bad_point, defScope s__law_bad_point, [], []⟩
def d_law : He.DefD := ⟨("law", none), "law", "law", defArgs s_law, defBody s_law, defScope s_law, [], []⟩
def d_Looker___init__ : He.DefD := ⟨("Looker", some "__init__"), "__init__", "Looker.__init__", defArgs s_Looker___init__, defBody s_Looker___init__, defScope s_Looker___init__, [], []⟩
def d_Looker_check_visits : He.DefD := ⟨("Looker", some "check_visits"), "check_visits", "Looker.check_visits", defArgs s_Looker_check_visits, defBody s_Looker_check_visits, defScope s_Looker_check_visits, [], []⟩
def d_Looker_cases : He.DefD := ⟨("Looker", some "cases"), "cases", "Looker.cases", defArgs s_Looker_cases, defBody s_Looker_cases, defScope s_Looker_cases, [], []⟩
def d_UnknownPoint___init__ : He.DefD := ⟨("UnknownPoint", some "__init__"), "__init__", "UnknownPoint.__init__", defArgs s_UnknownPoint___init__, defBody s_UnknownPoint___init__, defScope s_UnknownPoint___init__, [], []⟩
def fn : List He.DefD := [d_takes_leaf, d_matches, d_has_repeats, d_chosen, d__law_hand, d__law_draw, d__law_leaf, d__law_test, d__law_visits, d__law_program, d__law_program_copy, d__law_leaf_fits, d__law_head, d__law_test_fits, d__law_bad_point, d_law, d_Looker___init__, d_Looker_check_visits, d_Looker_cases, d_UnknownPoint___init__]
def fa0 : List He.Fa := [.glo "takes_leaf", .glo "matches", .glo "has_repeats", .glo "chosen", .glo "_law_hand", .glo "_law_draw", .glo "_law_leaf", .glo "_law_test", .glo "_law_visits", .glo "_law_program", .glo "_law_program_copy", .glo "_law_leaf_fits", .glo "_law_head", .glo "_law_test_fits", .glo "_law_bad_point", .glo "law", .glo "Looker", .glo "UnknownPoint", .glo "DuplicatePoint", .glo "RepeatedChild"]
def fa1 : List He.Fa := [.free "len", .free "range", .free "isinstance", .free "int", .free "str", .free "bool", .free "list", .free "all", .free "enumerate", .free "max", .free "min", .cls "Looker", .noat "Looker" "order", .noat "Looker" "chart", .meth "Looker" "check_visits", .meth "Looker" "cases", .mkr "Looker", .exm "UnknownPoint" "UnknownPoint" true, .noat "UnknownPoint" "point"]
def fa : List He.Fa := fa0 ++ fa1
def ex (K : PySem.W.Frag) : Bool := oexB K (He.ga K "UnknownPoint") && (excB K (He.ga K "UnknownPoint") && (He.eqO (PySem.W.findIn K (.ref (He.ga K "UnknownPoint")) "__init__") (some (some (.ref (He.ma K (He.ga K "UnknownPoint") "__init__")))) && (decide (PySem.W.typeIn K (.ref (He.ma K (He.ga K "UnknownPoint") "__init__")) = some (.type "function")) && (decide (PySem.W.kitOne K (.ref (He.ga K "UnknownPoint")) (.ref (He.ga K "DuplicatePoint")) = some false) && decide (PySem.W.kitOne K (.ref (He.ga K "UnknownPoint")) (.ref (He.ga K "RepeatedChild")) = some false)))))
def loose0 : List Str := ["_wall", "CheckError", "InvalidValue", "DuplicatePoint", "UnknownPoint", "RepeatedChild", "LETTERS", "GREATEST", "LONGEST_TEXT", "LONGEST_NAME", "MOST_FIELDS", "MOST_PLACES", "is_integer", "is_letters", "is_field", "is_leaf", "is_part", "children", "is_value", "check_value"]
def loose1 : List Str := ["head_of", "takes_leaf", "matches", "has_repeats", "visited", "chosen", "taken", "walk", "Looker", "_law_hand", "_law_draw", "_law_leaf", "_law_test", "_law_visits", "_law_program", "_law_program_copy", "_law_leaf_fits", "_law_head", "_law_test_fits", "_law_bad_point"]
def loose : List Str := loose0 ++ loose1
abbrev R : PySem.W.OpenRow := PySem.W.OpenLaw.row PySem.Challenge.rw_latechecks_k44_tests_and_cases
abbrev hk : PySem.W.Hook := LW.hookM 5 fa fn ex
def ob (s : PySem.W.SharedT) : LW.AlM := LW.obsM 5 fa fn ex (HandSHeadRun.getT s)
theorem ob_eq (s : PySem.W.SharedT) : ob s = hk.obs s.abs := LW.obsM_eq (HandSHeadRun.getT_eq s)
theorem run (w : World) : HandSHeadRun.RunEq R (PySem.W.view R.prog [45]) hk ob 6000 loose w := by
  intro os
  kernel_rfl
section
variable {P : Program} {w : World} {K : PySem.W.Frag} {mg : Str → Option Value} {h : Heap}
theorem hg_takes_leaf (c : SaysM fa fn ex K) : (He.Fa.glo "takes_leaf").ok K = true := c.d.fact 0 (f := .glo "takes_leaf") rfl
theorem hg_matches (c : SaysM fa fn ex K) : (He.Fa.glo "matches").ok K = true := c.d.fact 1 (f := .glo "matches") rfl
theorem hg_has_repeats (c : SaysM fa fn ex K) : (He.Fa.glo "has_repeats").ok K = true := c.d.fact 2 (f := .glo "has_repeats") rfl
theorem hg_chosen (c : SaysM fa fn ex K) : (He.Fa.glo "chosen").ok K = true := c.d.fact 3 (f := .glo "chosen") rfl
theorem hg__law_hand (c : SaysM fa fn ex K) : (He.Fa.glo "_law_hand").ok K = true := c.d.fact 4 (f := .glo "_law_hand") rfl
theorem hg__law_draw (c : SaysM fa fn ex K) : (He.Fa.glo "_law_draw").ok K = true := c.d.fact 5 (f := .glo "_law_draw") rfl
theorem hg__law_leaf (c : SaysM fa fn ex K) : (He.Fa.glo "_law_leaf").ok K = true := c.d.fact 6 (f := .glo "_law_leaf") rfl
theorem hg__law_test (c : SaysM fa fn ex K) : (He.Fa.glo "_law_test").ok K = true := c.d.fact 7 (f := .glo "_law_test") rfl
theorem hg__law_visits (c : SaysM fa fn ex K) : (He.Fa.glo "_law_visits").ok K = true := c.d.fact 8 (f := .glo "_law_visits") rfl
theorem hg__law_program (c : SaysM fa fn ex K) : (He.Fa.glo "_law_program").ok K = true := c.d.fact 9 (f := .glo "_law_program") rfl
theorem hg__law_program_copy (c : SaysM fa fn ex K) : (He.Fa.glo "_law_program_copy").ok K = true := c.d.fact 10 (f := .glo "_law_program_copy") rfl
theorem hg__law_leaf_fits (c : SaysM fa fn ex K) : (He.Fa.glo "_law_leaf_fits").ok K = true := c.d.fact 11 (f := .glo "_law_leaf_fits") rfl
theorem hg__law_head (c : SaysM fa fn ex K) : (He.Fa.glo "_law_head").ok K = true := c.d.fact 12 (f := .glo "_law_head") rfl
theorem hg__law_test_fits (c : SaysM fa fn ex K) : (He.Fa.glo "_law_test_fits").ok K = true := c.d.fact 13 (f := .glo "_law_test_fits") rfl
theorem hg__law_bad_point (c : SaysM fa fn ex K) : (He.Fa.glo "_law_bad_point").ok K = true := c.d.fact 14 (f := .glo "_law_bad_point") rfl
theorem hg_law (c : SaysM fa fn ex K) : (He.Fa.glo "law").ok K = true := c.d.fact 15 (f := .glo "law") rfl
theorem hg_Looker (c : SaysM fa fn ex K) : (He.Fa.glo "Looker").ok K = true := c.d.fact 16 (f := .glo "Looker") rfl
theorem hg_UnknownPoint (c : SaysM fa fn ex K) : (He.Fa.glo "UnknownPoint").ok K = true := c.d.fact 17 (f := .glo "UnknownPoint") rfl
theorem hg_DuplicatePoint (c : SaysM fa fn ex K) : (He.Fa.glo "DuplicatePoint").ok K = true := c.d.fact 18 (f := .glo "DuplicatePoint") rfl
theorem hg_RepeatedChild (c : SaysM fa fn ex K) : (He.Fa.glo "RepeatedChild").ok K = true := c.d.fact 19 (f := .glo "RepeatedChild") rfl
theorem hf_len (c : SaysM fa fn ex K) : (He.Fa.free "len").ok K = true := c.d.fact 20 (f := .free "len") rfl
theorem hf_range (c : SaysM fa fn ex K) : (He.Fa.free "range").ok K = true := c.d.fact 21 (f := .free "range") rfl
theorem hf_isinstance (c : SaysM fa fn ex K) : (He.Fa.free "isinstance").ok K = true := c.d.fact 22 (f := .free "isinstance") rfl
theorem hf_int (c : SaysM fa fn ex K) : (He.Fa.free "int").ok K = true := c.d.fact 23 (f := .free "int") rfl
theorem hf_str (c : SaysM fa fn ex K) : (He.Fa.free "str").ok K = true := c.d.fact 24 (f := .free "str") rfl
theorem hf_bool (c : SaysM fa fn ex K) : (He.Fa.free "bool").ok K = true := c.d.fact 25 (f := .free "bool") rfl
theorem hf_list (c : SaysM fa fn ex K) : (He.Fa.free "list").ok K = true := c.d.fact 26 (f := .free "list") rfl
theorem hf_all (c : SaysM fa fn ex K) : (He.Fa.free "all").ok K = true := c.d.fact 27 (f := .free "all") rfl
theorem hf_enumerate (c : SaysM fa fn ex K) : (He.Fa.free "enumerate").ok K = true := c.d.fact 28 (f := .free "enumerate") rfl
theorem hf_max (c : SaysM fa fn ex K) : (He.Fa.free "max").ok K = true := c.d.fact 29 (f := .free "max") rfl
theorem hf_min (c : SaysM fa fn ex K) : (He.Fa.free "min").ok K = true := c.d.fact 30 (f := .free "min") rfl
theorem hm_0 (c : SaysM fa fn ex K) : (He.Fa.cls "Looker").ok K = true := c.d.fact 31 (f := .cls "Looker") rfl
theorem hm_1 (c : SaysM fa fn ex K) : (He.Fa.noat "Looker" "order").ok K = true := c.d.fact 32 (f := .noat "Looker" "order") rfl
theorem hm_2 (c : SaysM fa fn ex K) : (He.Fa.noat "Looker" "chart").ok K = true := c.d.fact 33 (f := .noat "Looker" "chart") rfl
theorem hm_3 (c : SaysM fa fn ex K) : (He.Fa.meth "Looker" "check_visits").ok K = true := c.d.fact 34 (f := .meth "Looker" "check_visits") rfl
theorem hm_4 (c : SaysM fa fn ex K) : (He.Fa.meth "Looker" "cases").ok K = true := c.d.fact 35 (f := .meth "Looker" "cases") rfl
theorem hm_5 (c : SaysM fa fn ex K) : (He.Fa.mkr "Looker").ok K = true := c.d.fact 36 (f := .mkr "Looker") rfl
theorem hm_6 (c : SaysM fa fn ex K) : (He.Fa.exm "UnknownPoint" "UnknownPoint" true).ok K = true := c.d.fact 37 (f := .exm "UnknownPoint" "UnknownPoint" true) rfl
theorem hm_7 (c : SaysM fa fn ex K) : (He.Fa.noat "UnknownPoint" "point").ok K = true := c.d.fact 38 (f := .noat "UnknownPoint" "point") rfl
theorem df_of (X : K.In h) (G : h.Ns mainGlobals mg) (c : SaysM fa fn ex K) {x : Str} {st : Stmt} (i : Nat) {d : He.DefD} (hd : fn[i]? = some d) (e : d = ⟨(x, none), x, x, defArgs st, defBody st, defScope st, [], []⟩) (hg : (He.Fa.glo x).ok K = true) : Df K mg x st := by
  obtain ⟨fd, F⟩ := c.d.def_ i hd
  subst e
  exact ⟨_, fd, F, He.glo_ok X G hg⟩
theorem D_takes_leaf (X : K.In h) (G : h.Ns mainGlobals mg) (c : SaysM fa fn ex K) : Df K mg "takes_leaf" s_takes_leaf := df_of X G c 0 (d := d_takes_leaf) rfl rfl (hg_takes_leaf c)
theorem D_matches (X : K.In h) (G : h.Ns mainGlobals mg) (c : SaysM fa fn ex K) : Df K mg "matches" s_matches := df_of X G c 1 (d := d_matches) rfl rfl (hg_matches c)
theorem D_has_repeats (X : K.In h) (G : h.Ns mainGlobals mg) (c : SaysM fa fn ex K) : Df K mg "has_repeats" s_has_repeats := df_of X G c 2 (d := d_has_repeats) rfl rfl (hg_has_repeats c)
theorem D_chosen (X : K.In h) (G : h.Ns mainGlobals mg) (c : SaysM fa fn ex K) : Df K mg "chosen" s_chosen := df_of X G c 3 (d := d_chosen) rfl rfl (hg_chosen c)
theorem D__law_hand (X : K.In h) (G : h.Ns mainGlobals mg) (c : SaysM fa fn ex K) : Df K mg "_law_hand" s__law_hand := df_of X G c 4 (d := d__law_hand) rfl rfl (hg__law_hand c)
theorem D__law_draw (X : K.In h) (G : h.Ns mainGlobals mg) (c : SaysM fa fn ex K) : Df K mg "_law_draw" s__law_draw := df_of X G c 5 (d := d__law_draw) rfl rfl (hg__law_draw c)
theorem D__law_leaf (X : K.In h) (G : h.Ns mainGlobals mg) (c : SaysM fa fn ex K) : Df K mg "_law_leaf" s__law_leaf := df_of X G c 6 (d := d__law_leaf) rfl rfl (hg__law_leaf c)
theorem D__law_test (X : K.In h) (G : h.Ns mainGlobals mg) (c : SaysM fa fn ex K) : Df K mg "_law_test" s__law_test := df_of X G c 7 (d := d__law_test) rfl rfl (hg__law_test c)
theorem D__law_visits (X : K.In h) (G : h.Ns mainGlobals mg) (c : SaysM fa fn ex K) : Df K mg "_law_visits" s__law_visits := df_of X G c 8 (d := d__law_visits) rfl rfl (hg__law_visits c)
theorem D__law_program (X : K.In h) (G : h.Ns mainGlobals mg) (c : SaysM fa fn ex K) : Df K mg "_law_program" s__law_program := df_of X G c 9 (d := d__law_program) rfl rfl (hg__law_program c)
theorem D__law_program_copy (X : K.In h) (G : h.Ns mainGlobals mg) (c : SaysM fa fn ex K) : Df K mg "_law_program_copy" s__law_program_copy := df_of X G c 10 (d := d__law_program_copy) rfl rfl (hg__law_program_copy c)
theorem D__law_leaf_fits (X : K.In h) (G : h.Ns mainGlobals mg) (c : SaysM fa fn ex K) : Df K mg "_law_leaf_fits" s__law_leaf_fits := df_of X G c 11 (d := d__law_leaf_fits) rfl rfl (hg__law_leaf_fits c)
theorem D__law_head (X : K.In h) (G : h.Ns mainGlobals mg) (c : SaysM fa fn ex K) : Df K mg "_law_head" s__law_head := df_of X G c 12 (d := d__law_head) rfl rfl (hg__law_head c)
theorem D__law_test_fits (X : K.In h) (G : h.Ns mainGlobals mg) (c : SaysM fa fn ex K) : Df K mg "_law_test_fits" s__law_test_fits := df_of X G c 13 (d := d__law_test_fits) rfl rfl (hg__law_test_fits c)
theorem D__law_bad_point (X : K.In h) (G : h.Ns mainGlobals mg) (c : SaysM fa fn ex K) : Df K mg "_law_bad_point" s__law_bad_point := df_of X G c 14 (d := d__law_bad_point) rfl rfl (hg__law_bad_point c)
theorem D_law (X : K.In h) (G : h.Ns mainGlobals mg) (c : SaysM fa fn ex K) : Df K mg "law" s_law := df_of X G c 15 (d := d_law) rfl rfl (hg_law c)
theorem facts {f : Addr} (X : K.In h) (G : h.Ns mainGlobals mg) (hfa : mg ("law" : Str) = some (.ref f)) (c : SaysM fa fn ex K) :
    ∃ fd : FuncData, (∀ (s : Shared) (v : Value), BindsTo s fd ⟨[v], []⟩ [("_law_script", v)]) ∧ ∀ base : Heap, K.In base → base.Ns mainGlobals mg → FnOk P w K mg base CX0 6 f fd ["_law_script"] (spLaw K) := by
  have T : Txt K mg := ⟨He.free_ok X G (hf_len c), He.free_ok X G (hf_range c), He.free_ok X G (hf_isinstance c), He.free_ok X G (hf_int c), He.free_ok X G (hf_str c), He.free_ok X G (hf_bool c), He.free_ok X G (hf_list c), He.free_ok X G (hf_all c), He.free_ok X G (hf_enumerate c), He.free_ok X G (hf_max c), He.free_ok X G (hf_min c)⟩
  have L : TxL K mg (He.ga K "Looker") := ⟨He.cls_ok (hm_0 c), He.noat_ok (hm_1 c), He.noat_ok (hm_2 c)⟩
  obtain ⟨m1, m⟩ := He.ba c.more
  obtain ⟨m2, m⟩ := He.ba m
  obtain ⟨m3, m⟩ := He.ba m
  obtain ⟨m4, m⟩ := He.ba m
  obtain ⟨m5, m6⟩ := He.ba m
  have no : PySem.W.findIn K (.ref (He.ga K "UnknownPoint")) "point" = some none := He.noat_ok (hm_7 c)
  have Te : TxE K mg (He.ga K "UnknownPoint") (He.ga K "DuplicatePoint") (He.ga K "RepeatedChild") := ⟨He.glo_ok X G (hg_UnknownPoint c), He.glo_ok X G (hg_DuplicatePoint c), He.glo_ok X G (hg_RepeatedChild c), excB_ok m2, no, He.exm_ok (hm_6 c), of_decide_eq_true m5, of_decide_eq_true m6⟩
  obtain ⟨fdI, FI⟩ := c.d.def_ 16 (d := d_Looker___init__) rfl
  obtain ⟨fdC, FC⟩ := c.d.def_ 17 (d := d_Looker_check_visits) rfl
  obtain ⟨fdS, FS⟩ := c.d.def_ 18 (d := d_Looker_cases) rfl
  obtain ⟨fdU, FU⟩ := c.d.def_ 19 (d := d_UnknownPoint___init__) rfl
  have DC : Dm_ K (He.ga K "Looker") "check_visits" "Looker.check_visits" s_Looker_check_visits := ⟨_, fdC, FC, He.meth_ok (hm_3 c)⟩
  have DS : Dm_ K (He.ga K "Looker") "cases" "Looker.cases" s_Looker_cases := ⟨_, fdS, FS, He.meth_ok (hm_4 c)⟩
  have bI : Binds K fdI ["self", "rows"] [] := FI.bindsN bi_Looker___init__
  have bU : Binds K fdU ["self", "point"] [] := FU.bindsN bi_UnknownPoint___init__
  obtain ⟨fL, fdL, FL, gL⟩ := (D_law X G c).ex
  have e := hfa.symm.trans gL
  cases e
  refine ⟨fdL, fun s v => FunD.bindsA (ps := ["_law_script"]) FL bi_law s [v] rfl, fun base _ _ => ?_⟩
  have cDraw : Cal P w K mg base CX0 1 "_law_draw" spDraw := ok_draw (D__law_draw X G c) T
  have cHand : Cal P w K mg base CX0 1 "_law_hand" (spHand K) := ok_hand (D__law_hand X G c) T
  have cLeaf : Cal P w K mg base CX0 2 "_law_leaf" spLeaf := ok_leaf (D__law_leaf X G c) T cDraw
  have cTest : Cal P w K mg base CX0 2 "_law_test" spTest := ok_test (D__law_test X G c) T cDraw
  have cVis : Cal P w K mg base CX0 2 "_law_visits" spVisits := ok_visits (D__law_visits X G c) T cDraw
  have cProg : Cal P w K mg base CX0 3 "_law_program" spProgram := ok_program (D__law_program X G c) T cDraw cTest cVis
  have cCopy : Cal P w K mg base CX0 1 "_law_program_copy" spCopy := ok_copy (D__law_program_copy X G c) T
  have cTakes : Cal P w K mg base CX0 1 "takes_leaf" spTakes := ok_takes (D_takes_leaf X G c) T
  have cMatches : Cal P w K mg base CX0 2 "matches" spMatches := ok_matches (D_matches X G c) T cTakes
  have cLf : Cal P w K mg base CX0 1 "_law_leaf_fits" spTakes := ok_leaf_fits (D__law_leaf_fits X G c) T
  have cTf : Cal P w K mg base CX0 2 "_law_test_fits" spMatches := ok_test_fits (D__law_test_fits X G c) T cLf
  have cHead : Cal P w K mg base CX0 3 "_law_head" spHead := ok_head (D__law_head X G c) T cDraw cLeaf
  have cReps : Cal P w K mg base CX0 1 "has_repeats" spReps := ok_reps (D_has_repeats X G c) T
  have mCheck := ok_check (P := P) (w := w) (base := base) DC T L cReps
  have mk : Mkr P w K mg base CX0 3 "Looker" (He.ga K "Looker") (spLInit (He.ga K "Looker")) := ⟨_, fdI, _, He.mkr_ok (hm_5 c), ok_linit FI T L mCheck, He.glo_ok X G (hg_Looker c), bI⟩
  have xU : XMk P w K mg base 1 "UnknownPoint" (He.ga K "UnknownPoint") "point" := ⟨⟨Te.gU, oexB_ok m1, Te.xd⟩, ⟨_, fdU, _, He.eqO_ok m3, of_decide_eq_true m4, ok_uinit FU (oexB_ok m1) no, bU⟩, no⟩
  have mCases := ok_cases (P := P) (w := w) (base := base) DS T L xU
  have cChosen := ok_chosen (P := P) (w := w) (base := base) (D_chosen X G c) T L mCases cMatches
  have cBad := ok_bad (P := P) (w := w) (base := base) (D__law_bad_point X G c) T Te cChosen
  exact ok_law FL T L cHand cProg cTest cHead cMatches cTf cCopy mk cChosen mCases cBad
end

end K44
open PySem PySem.W PySem.Calls PyProof.Rows
set_option maxRecDepth 100000 in
set_option maxHeartbeats 0 in
theorem PySem.Challenge.cw_latechecks_k44_tests_and_cases_holds : PySem.Challenge.rw_latechecks_k44_tests_and_cases.Holds := by
  w_on; o_law
  refine HandSHeadRun.head_any (r := OpenLaw.row PySem.Challenge.rw_latechecks_k44_tests_and_cases) (q := view (OpenLaw.row PySem.Challenge.rw_latechecks_k44_tests_and_cases).prog [45]) (H := K44.hk) (ob := K44.ob) (M := 6000) (loose := K44.loose) (d := HandSHeadRun.topDef (OpenLaw.row PySem.Challenge.rw_latechecks_k44_tests_and_cases).prog 45) (kwd := []) K44.ob_eq
    (by kernel_rfl) (fun s => by kernel_rfl) K44.run (by kernel_rfl) (by kernel_rfl) (by kernel_rfl) (by rfl) (by first | assumption | decide +kernel) (by decide +kernel) ⟨rfl, rfl, rfl, rfl, rfl, by decide +kernel⟩ ?hw ?hc
  case hw => w_witness2
  case hc =>
    refine L2.walk_ofE (l := PySem.Challenge.rw_latechecks_k44_tests_and_cases) (n := 63) (k := 6) (x := "_law_script") (CX := L2.CX0) rfl (by decide) (by kernel_rfl) ⟨rfl, by decide, by decide⟩ ?F (fun _ _ _ _ z => z)
    intro w mg fa h Y G hmg0
    obtain ⟨K, KX, c⟩ := Y
    have hmg : mg ("law" : PySem.Str) = some (.ref fa) := by
      have e : (HandSHeadRun.topDef (OpenLaw.row PySem.Challenge.rw_latechecks_k44_tests_and_cases).prog 45).name = ("law" : PySem.Str) := by kernel_rfl
      rw [← e]
      exact hmg0
    obtain ⟨fd, hb, hF⟩ := K44.facts (P := (PySem.Challenge.rw_latechecks_k44_tests_and_cases).prog) (w := w) KX G hmg c
    exact ⟨K, fd, K44.spLaw K, KX, hb, fun H a ns hl _ hS => ⟨a, ns, rfl, hS, hl, fun _ => rfl⟩, hF⟩
#print axioms PySem.Challenge.cw_latechecks_k44_tests_and_cases_holds
