import PyProof.Rows.All
import Wide.All
import OpenK.AllK
import Wide.FinOn
import KE.KStateDown
import HandS.ForMost
import HandS.ForExc
import HandS.Defaults
import HandS.Head0
import HandS.Head1
import HandS.Head2
import HandS.HeadEnd
import HandS.HeadHook1
import HandS.HeadHook2
import HandS.ExcInit
import HandS.ExcField
import HandS.ExcIs
import HandS.IsInst
import HandS.Evl
import HandS.Wide
import HandS.Walk
import HandS.Deep
import KE.KExcIs
import HandS.More
import HandS.HotCalls
import HandS.ExcCtx
import HandS.OwnEq
import OpenK.KMeth
import OpenK.KOps
import HandS.DictEq
import HandS.Property
import HandS.Style
import PySem.Challenge.RW_latechecks_k43_lookers
set_option Elab.async false
set_option linter.all false
set_option maxRecDepth 100000
set_option maxHeartbeats 8000000
namespace LW
open PySem PySem.Spec PyProof.Rows L2
/-! ### the head's Hook: facts, defs, one more Bool -/
abbrev AlM : Type := He.AlD × Bool
def obsM (n : Nat) (fa : List He.Fa) (fn : List He.DefD) (ex : PySem.W.Frag → Bool) (g : Addr → Option Obj) : AlM := (He.obsD fa fn (He.frG g (He.asD g n)), ex (He.frG g (He.asD g n)))
structure SaysM (fa : List He.Fa) (fn : List He.DefD) (ex : PySem.W.Frag → Bool) (K : PySem.W.Frag) : Prop where
  d : He.SaysD fa fn K
  more : ex K = true
def hookM (n : Nat) (fa : List He.Fa) (fn : List He.DefD) (ex : PySem.W.Frag → Bool) : PySem.W.Hook where
  α := AlM
  obs := fun s => obsM n fa fn ex s.heap.get?
  val := fun _ => (He.valD fn, true)
  says := fun _ h => ∃ K : PySem.W.Frag, K.In h ∧ SaysM fa fn ex K
  of := fun _ _ e => ⟨_, He.frG_in, ⟨congrArg (fun z : AlM => z.1) e, congrArg (fun z : AlM => z.2) e⟩⟩
  keeps := fun _ _ _ ⟨K, hK, c⟩ k => ⟨K, PySem.W.Frag.In.keeps hK k, c⟩
theorem obsM_eq {n : Nat} {fa : List He.Fa} {fn : List He.DefD} {ex : PySem.W.Frag → Bool} {g : Addr → Option Obj} {s : Shared} (h : ∀ a, g a = s.heap.get? a) : obsM n fa fn ex g = (hookM n fa fn ex).obs s := by
  have e : g = s.heap.get? := funext h
  rw [e] <;> rfl
theorem SaysM.fact {fa : List He.Fa} {fn : List He.DefD} {ex : PySem.W.Frag → Bool} {K : PySem.W.Frag} (c : SaysM fa fn ex K) {f : He.Fa} (h : f ∈ fa) : f.ok K = true := by
  have c1 := (He.ba (show ((fa.all fun f => f.ok K) && fn.all fun d => d.ok K) = true from congrArg (fun z : He.AlD => z.1) c.d)).1
  exact List.all_eq_true.mp c1 f h
end LW

namespace LW
open PySem PySem.Spec PyProof.Rows L2
open Evl (Ex)
/-! ### heaps that grow -/
theorem new_ {H : Hp} {o : HO} {Q : VK} (k : ∀ p H1, H p = none → Ex H H1 → H1 p = some o → Q (.ref p) H1) : ∀ p, H p = none → Q (.ref p) (upd H p o) := fun p h => k p _ h (Ex.new h) upd_same
theorem newH {H : Hp} {p : Addr} (o : HO) (np : H p = none) : ∃ H1, upd H p o = H1 ∧ Ex H H1 ∧ H1 p = some o := ⟨_, rfl, Ex.new np, upd_same⟩
theorem ex_free {H H' : Hp} {p : Addr} (e : Ex H H') (h : H' p = none) : H p = none := Evl.fresh_back e h
theorem upd_back {H : Hp} {p : Addr} {o x : HO} (h : H p = some o) : upd (upd H p x) p o = H := by
  funext b
  by_cases hb : b = p
  · rw [hb, upd_same, h]
  · rw [upd_ne hb, upd_ne hb]
/-- small sizes -/
theorem szl {n : Nat} (h : n ≤ 100000) : n ≤ sizeLine := Nat.le_trans h (by decide)
theorem szlt {n : Nat} (h : n < 100000) : n < sizeLine := Nat.lt_of_lt_of_le h (by decide)

/-! ### a heap without one address -/
theorem ex_del {H : Hp} {p : Addr} : Ex (del H p) H := fun a o h => by
  by_cases e : a = p
  · rw [e, del_same] at h
    cases h
  · rw [del_ne e] at h
    exact h
theorem ex_of_del {H H' : Hp} {p : Addr} (e : Ex H H') (h : H p = none) : Ex H (del H' p) := fun a o q => by
  rw [del_ne (ne_of_none q h)]
  exact e a o q
theorem del_grow {H H1 : Hp} {p : Addr} {o : HO} (e : Ex H H1) : Ex (del H p) (del (upd H1 p o) p) := fun a u q => by
  by_cases ea : a = p
  · rw [ea, del_same] at q
    cases q
  · rw [del_ne ea] at q ⊢
    rw [upd_ne ea]
    exact e a u q
theorem del_grow' {H H1 : Hp} {p : Addr} (e : Ex H H1) : Ex (del H p) (del H1 p) := fun a u q => by
  by_cases ea : a = p
  · rw [ea, del_same] at q
    cases q
  · rw [del_ne ea] at q ⊢
    exact e a u q
theorem del_get {H : Hp} {p a : Addr} {o : HO} (h : H a = some o) (ne : a ≠ p) : del H p a = some o := by
  rw [del_ne ne]
  exact h
theorem up_ne {H : Hp} {p a : Addr} {o x : HO} (h : H a = some o) (ne : a ≠ p) : upd H p x a = some o := by
  rw [upd_ne ne]
  exact h
/-- the heap behind a change of an object that the entry does not know -/
theorem ex_mut {H H' : Hp} {p : Addr} {o : HO} (e : Ex H H') (h : H p = none) : Ex H (upd H' p o) := Ex.mut e h

/-! ### what is new since a heap -/
def fr (H H' : Hp) : Hp := fun b => match H b with
  | none => H' b
  | some _ => none
/-- what is tracked stays tracked -/
def Dm (H H' : Hp) : Prop := ∀ b, H' b = none → H b = none
theorem Dm.refl (H : Hp) : Dm H H := fun _ h => h
theorem Dm.trans {H H1 H2 : Hp} (a : Dm H H1) (b : Dm H1 H2) : Dm H H2 := fun c h => a c (b c h)
theorem dm_ex {H H' : Hp} (e : Ex H H') : Dm H H' := fun _ h => ex_free e h
theorem dm_upd {H H' : Hp} {p : Addr} {o : HO} (d : Dm H H') : Dm H (upd H' p o) := fun b h => by
  by_cases e : b = p
  · rw [e, upd_same] at h
    cases h
  · rw [upd_ne e] at h
    exact d b h
theorem fr_get {H H' : Hp} {a : Addr} {o : HO} (n : H a = none) (h : H' a = some o) : fr H H' a = some o := by
  unfold fr
  rw [n]
  exact h
theorem fr_some {H H' : Hp} {a : Addr} {o : HO} (h : fr H H' a = some o) : H a = none ∧ H' a = some o := by
  unfold fr at h
  cases e : H a with
  | none =>
    rw [e] at h
    exact ⟨rfl, h⟩
  | some u =>
    rw [e] at h
    cases h
theorem fr_sub {H H' : Hp} : Ex (fr H H') H' := fun _ _ h => (fr_some h).2
theorem fr_mono {H H' H'' : Hp} (e : Ex H' H'') : Ex (fr H H') (fr H H'') := fun _ _ h => fr_get (fr_some h).1 (e _ _ (fr_some h).2)
theorem fr_base {H0 H H' : Hp} (d : Dm H0 H) : Ex (fr H H') (fr H0 H') := fun _ _ h => fr_get (d _ (fr_some h).1) (fr_some h).2
theorem fr_upd {H H' : Hp} {p : Addr} {o u : HO} (h : H p = some u) : Ex (fr H H') (fr H (upd H' p o)) := fun a v q => by
  obtain ⟨n, q⟩ := fr_some q
  refine fr_get n ?_
  rw [upd_ne (fun e => by rw [e, h] at n; cases n)]
  exact q
theorem fr_all {H H' : Hp} (e : Ex H H') {a : Addr} {o : HO} (h : H' a = some o) (ne : H a = none) : fr H H' a = some o := fr_get ne h
theorem fr_del {H H' : Hp} {p : Addr} {u : HO} (h : H p = some u) : Ex (fr H H') (del H' p) := fun a v q => by
  obtain ⟨n, q⟩ := fr_some q
  exact del_get q (fun e => by rw [e, h] at n; cases n)

/-! ### what an object is told to be may change while it stands -/
section
variable {X : Cx} {pins : List (Addr × Obj)} {σ : L2.St} {H : Hp} {s : Shared} {p : Addr} {o : HO}
theorem inv_recast (I : L2.Inv X pins σ H s) (mu : Mut (H p)) (ob : ObjOk X.prog X.w (upd H p o) s.heap p o) : L2.Inv X pins σ (upd H p o) s := by
  have hex : ∃ u, s.heap.get? p = some u := by
    cases e : H p with
    | none => rw [e] at mu; exact mu.elim
    | some u =>
      have x := I.hok p u e
      cases u with
      | lst xs => obtain ⟨_, _, _, _, e⟩ := x; exact ⟨_, e⟩
      | dK kvs => obtain ⟨_, _, _, _, o, _, _, e, _⟩ := x; exact ⟨_, e⟩
      | dT kvs => obtain ⟨_, _, _, _, o, _, _, e, _⟩ := x; exact ⟨_, e⟩
      | set S n => obtain ⟨o, _, _, _, e, _⟩ := x; exact ⟨_, e⟩
      | ins C dx fs => obtain ⟨_, _, _, e, _⟩ := x; exact ⟨_, e⟩
      | ext φ => obtain ⟨_, ⟨o, e⟩, _⟩ := x; exact ⟨_, e⟩
      | _ => rw [e] at mu; exact mu.elim
  exact I.write (t' := s.toks) (x := p) (e := p) (o := o) mu (.inl rfl) (fun b u _ h => h) hex ob
end

/-! ### the pool of draws: a list of two ints, told by its bounds alone -/
def poolO (p : Addr) : HO := .ext fun h => ∃ (a b : Int) (ta tb : Tok) (n : Nat), 0 ≤ a ∧ 0 ≤ b ∧ b < 2147483647 ∧ h.get? p = some { cls := .type "list", data := .seq #[.int a ta, .int b tb] n }
def Pool (H : Hp) (p : Addr) : Prop := H p = some (poolO p)
theorem Pool.ex {H H' : Hp} {p : Addr} (h : Pool H p) (e : Ex H H') : Pool H' p := e _ _ h
section
variable {P : Program} {w : World} {H H' : Hp} {h : Heap} {p : Addr}
theorem pool_open (x : HOk P w H h) (hp : Pool H p) : ∃ a b : Int, 0 ≤ a ∧ 0 ≤ b ∧ b < 2147483647 ∧ ObjOk P w H' h p (.lst [.int a, .int b]) := by
  have q : ObjOk P w H h p (.ext fun h => ∃ (a b : Int) (ta tb : Tok) (n : Nat), 0 ≤ a ∧ 0 ≤ b ∧ b < 2147483647 ∧ h.get? p = some { cls := .type "list", data := .seq #[.int a ta, .int b tb] n }) := x p _ hp
  obtain ⟨⟨a, b, ta, tb, n, h0, h1, h2, e⟩, _, _⟩ := q
  exact ⟨a, b, h0, h1, h2, szl (by show 2 ≤ 100000; decide), [.int a ta, .int b tb], n, .cons ⟨ta, rfl⟩ (.cons ⟨tb, rfl⟩ .nil), e⟩
theorem pool_shut {a b : Int} (x : ObjOk P w H h p (.lst [.int a, .int b])) (h0 : 0 ≤ a) (h1 : 0 ≤ b) (h2 : b < 2147483647) : ObjOk P w H' h p (poolO p) := by
  obtain ⟨_, its, n, r, e⟩ := x
  cases r with
  | cons r1 r =>
    cases r with
    | cons r2 r =>
      cases r
      obtain ⟨ta, rfl⟩ := r1
      obtain ⟨tb, rfl⟩ := r2
      exact ⟨⟨a, b, ta, tb, n, h0, h1, h2, e⟩, ⟨_, e⟩, fun g1 g2 z k => by
        obtain ⟨a, b, ta, tb, n, q0, q1, q2, q⟩ := z
        exact ⟨a, b, ta, tb, n, q0, q1, q2, k _ q⟩⟩
end
/-- a body in which the pool is looked into and put back at a return -/
def tFocus (t : TS) : TS := fun D σ H => ∃ p, Pool H p ∧ ∀ a b : Int, 0 ≤ a → 0 ≤ b → b < 2147483647 →
  t { nx := fun _ _ => False, rt := fun v H' => ∃ a' b' : Int, H' p = some (.lst [.int a', .int b']) ∧ 0 ≤ a' ∧ 0 ≤ b' ∧ b' < 2147483647 ∧ D.rt v (upd H' p (poolO p)) } σ (upd H p (.lst [.int a, .int b]))
/-- return of a new pool -/
def tRetPool (te : TE) : TS := fun D σ H => te σ H fun v H' => ∃ (p : Addr) (a b : Int), v = .ref p ∧ H' p = some (.lst [.int a, .int b]) ∧ 0 ≤ a ∧ 0 ≤ b ∧ b < 2147483647 ∧ D.rt v (upd H' p (poolO p))
section
variable {X : Cx}
theorem pss_focus {body : List Stmt} {t : TS} (h : PSs X body t) : PSs X body (tFocus t) := by
  refine ⟨fun pins s σ H D I ht => ?_⟩
  obtain ⟨p, hp, k⟩ := ht
  obtain ⟨a, b, h0, h1, h2, ob⟩ : ∃ a b : Int, 0 ≤ a ∧ 0 ≤ b ∧ b < 2147483647 ∧ ObjOk X.prog X.w (upd H p (.lst [.int a, .int b])) s.heap p (.lst [.int a, .int b]) := by
    obtain ⟨a, b, h0, h1, h2, ob⟩ := pool_open (H' := H) I.hok hp
    exact ⟨a, b, h0, h1, h2, ob⟩
  have mu : Mut (H p) := by
    rw [show H p = some (poolO p) from hp]
    exact True.intro
  have J := inv_recast I mu ob
  refine thn (h.run pins s σ _ _ J (k a b h0 h1 h2)) fun f s' q => ?_
  cases f with
  | ret u =>
    obtain ⟨v, σ', H', I', r, a', b', e, g0, g1, g2, hD⟩ := q
    have mu' : Mut (H' p) := by
      rw [e]
      exact True.intro
    exact ⟨v, σ', _, inv_recast I' mu' (pool_shut (I'.hok p _ e) g0 g1 g2), r, hD⟩
  | next =>
    obtain ⟨_, _, _, q⟩ := q
    exact q.elim
  | brk =>
    obtain ⟨_, _, _, q⟩ := q
    exact q.elim
  | cont =>
    obtain ⟨_, _, _, q⟩ := q
    exact q.elim
theorem ps_retPool {e : Expr} {te : TE} {pos : Pos} (he : PE X e te) : PS X (.Return (some e) pos) (tRetPool te) := by
  refine ⟨fun pins s σ H D I h => ?_⟩
  refine wpAny_Return_some (thn (he.run pins s σ H _ I h) fun v s1 ⟨x, H1, I1, r1, p, a, b, ev, e, g0, g1, g2, hD⟩ => ?_)
  have mu' : Mut (H1 p) := by
    rw [e]
    exact True.intro
  exact ⟨x, σ, _, inv_recast I1 mu' (pool_shut (I1.hok p _ e) g0 g1 g2), r1, hD⟩
end

/-! ### the rules that speak of the written part, K told (for comprehensions) -/
section
variable {X : Cx}
theorem ixl (K : PySem.W.Frag) (h : X.K = K := by rfl) : IxR X (rIxL K) := by
  subst h
  exact ix_list
theorem ixt (K : PySem.W.Frag) (h : X.K = K := by rfl) : IxR X (rIxT K) := by
  subst h
  exact ix_tup
theorem inq (K : PySem.W.Frag) (h : X.K = K := by rfl) : OpR X (compareOp .In) (rIn K false) := by
  subst h
  exact op_in_seq
theorem ninq (K : PySem.W.Frag) (h : X.K = K := by rfl) : OpR X (compareOp .NotIn) (rIn K true) := by
  subst h
  exact op_notIn_seq
def rLn (K : PySem.W.Frag) : List V → Hp → VK → Prop := fun xs H Q => ∃ x n, xs = [x] ∧ LenV K x H n ∧ Q (.int n) H
theorem lnK (K : PySem.W.Frag) (h : X.K = K := by rfl) : CallR X (.builtin "len") (rLn K) := by
  subst h
  exact call_len
theorem isiK (K : PySem.W.Frag) (h : X.K = K := by rfl) : CallR X (.builtin "isinstance") (rIsi K) := by
  subst h
  exact call_isi
theorem isiTK (K : PySem.W.Frag) (h : X.K = K := by rfl) : CallR X (.builtin "isinstance") (rIsiT K) := by
  subst h
  exact call_isiT
def rLof (K : PySem.W.Frag) : List V → Hp → VK → Prop := fun xs H Q => ∃ p ys, xs = [.ref p] ∧ (SqL K H p ys ∨ SqT K H p ys) ∧ ∀ l, H l = none → Q (.ref l) (upd H l (.lst ys))
theorem lofK (K : PySem.W.Frag) (h : X.K = K := by rfl) : CallR X (.type "list") (rLof K) := by
  subst h
  exact call_list_of
theorem allK (K : PySem.W.Frag) (hc : X.calm = true) (h : X.K = K := by rfl) : CallR X (.builtin "all") (rAll K) := by
  subst h
  exact cr_all hc
theorem pgt {pos : Pos} {es : List Expr} {k : Nat} {t : TGs} {n : Nat} (K : PySem.W.Frag) (hc : X.calm = true) (h : PGs X es t) (e : X.K = K := by rfl)
    (hn : (assignEach es X.env).length = n := by rfl) (hst : (assignEach es X.env).findIdx? (·.1) = none := by rfl) : PG X (.Tuple es k pos) (gTup K n t) := by
  subst e
  exact pg_tup hc h hn hst
theorem pfl {e : Expr} {ta : TE} {f : Str} {pos : Pos} (K : PySem.W.Frag) (he : PE X e ta) (hb : attributeBase e f X.env (eval e X.env) = eval e X.env) (h : X.K = K := by rfl) : PE X (.Attribute e f pos) (tFld K ta f) := by
  subst h
  exact pe_fld he hb
theorem pil {tg l : Expr} {tl : TE} (K : PySem.W.Frag) (hl : PE X l tl) (h : X.K = K := by rfl) : PI X tg l (iList K tl) := by
  subst h
  exact pi_list hl
theorem pit {tg l : Expr} {tl : TE} (K : PySem.W.Frag) (hl : PE X l tl) (h : X.K = K := by rfl) : PI X tg l (iTup K tl) := by
  subst h
  exact pi_tup hl
theorem eqDK (K : PySem.W.Frag) (hu : X.A.units + 64 < cLine) (h : X.K = K := by rfl) : OpR X (compareOp .Eq) (rEqD K) := by
  subst h
  exact op_eqD hu
theorem neDK (K : PySem.W.Frag) (hu : X.A.units + 64 < cLine) (h : X.K = K := by rfl) : OpR X (compareOp .NotEq) (rNeD K) := by
  subst h
  exact op_neD hu
theorem slK (K : PySem.W.Frag) (h : X.K = K := by rfl) : SlR X (rSlL K) := by
  subst h
  exact sl_list
theorem units65 {A : Around} {k : Nat} (hr : Room k A) : A.units + 65 < cLine := by
  have := hr.un
  omega
end
/-! ### defs by name -/
structure Cal (P : Program) (w : World) (K : PySem.W.Frag) (mg : Str → Option Value) (base : Heap) (CX : CXT) (k : Nat) (x : Str) (sp : Sp) : Prop where
  ex : ∃ (f : Addr) (fd : FuncData) (ps : List Str), FnOk P w K mg base CX k f fd ps sp ∧ mg x = some (.ref f) ∧ PySem.W.keepIn K (.ref f) = true ∧ Binds K fd ps []
abbrev FnP (K : PySem.W.Frag) (x : Str) (st : Stmt) (f : Addr) (fd : FuncData) : Prop := FunD K x x (defArgs st) (defBody st) (defScope st) [] [] f fd
/-- a def of the module -/
structure Df (K : PySem.W.Frag) (mg : Str → Option Value) (x : Str) (st : Stmt) : Prop where
  ex : ∃ (f : Addr) (fd : FuncData), FnP K x st f fd ∧ mg x = some (.ref f)
def BindsEq (x : Str) (st : Stmt) (ps : List Str) : Prop := ∀ (kV doc pm : Value) (an : Option Addr) (cdv ct : Value) (us : List Value), us.length = ps.length →
  bindArgs (PySem.W.fnOf x x (defArgs st) (defBody st) (defScope st) .none kV doc pm an cdv ct) ⟨us, []⟩ = pure (ps.zip us)
section
variable {P : Program} {w : World} {K : PySem.W.Frag} {mg : Str → Option Value} {base : Heap}
theorem cal0 {x : Str} {st : Stmt} {N ps : List Str} {k : Nat} {sp : Sp} (F : Df K mg x st) (S : FnScope N ps (defScope st)) (hb : BindsEq x st ps) (len : ∀ vs H Q E, sp vs H Q E → vs.length = ps.length)
    (hbody : ∀ (f : Addr) (cdv : Value) (A : Around) (outer : List Env) (s : Shared) (H : Hp) (vs : List V) (Q : VK) (E : XK), Room k (A.deeper (envOfC x (defScope st) s.heap.objs.size f cdv)) → sp vs H Q E →
      ∃ t, PSs (cxOf CX0 P w K mg base N x (defScope st) f cdv A outer s H E).nox (defBody st) t ∧ t { nx := fun _ H' => Q .non H', rt := Q } (start N vs) H) : Cal P w K mg base CX0 (k + 1) x sp := by
  obtain ⟨f, fd, F, hm⟩ := F.ex
  exact ⟨f, fd, ps, F.ok S len (fun cdv A outer s H vs Q E hr h => by
    obtain ⟨t, h1, h2⟩ := hbody f cdv A outer s H vs Q E hr h
    exact ⟨t, h1.nox, h2⟩), hm, F.kp, F.bindsN hb⟩
theorem calX {x : Str} {st : Stmt} {N ps : List Str} {k : Nat} {sp : Sp} (F : Df K mg x st) (S : FnScope N ps (defScope st)) (hb : BindsEq x st ps) (len : ∀ vs H Q E, sp vs H Q E → vs.length = ps.length)
    (hbody : ∀ (f : Addr) (cdv : Value) (A : Around) (outer : List Env) (s : Shared) (H : Hp) (vs : List V) (Q : VK) (E : XK), Room k (A.deeper (envOfC x (defScope st) s.heap.objs.size f cdv)) → sp vs H Q E →
      ∃ t, PSs (cxOf (L2.CX P w) P w K mg base N x (defScope st) f cdv A outer s H E) (defBody st) t ∧ t { nx := fun _ H' => Q .non H', rt := Q } (start N vs) H) : Cal P w K mg base (L2.CX P w) (k + 1) x sp := by
  obtain ⟨f, fd, F, hm⟩ := F.ex
  exact ⟨f, fd, ps, F.ok S len (fun cdv A outer s H vs Q E hr h => hbody f cdv A outer s H vs Q E hr h), hm, F.kp, F.bindsN hb⟩
end
section
variable {X : Cx} {k j : Nat} {x : Str} {sp : Sp} {p pos : Pos} {e : Expr} {es : List Expr} {t : TA}
theorem pe_k (c : Cal X.prog X.w X.K X.mg X.base CX0 k x sp) (hr : Room j X.A) (hk : k ≤ j) (hg : Gl X x) (ha : PA X (e :: es) t)
    (hdb : (x == ("__debug__" : Str)) = false := by decide) (he : starEach (e :: es) X.env = (false, eval e X.env) :: starEach es X.env := by rfl) (hpl : (backTo pos (starEach es X.env)).any (·.1) = false := by rfl) :
    PE X (.Call (.Name x p) (e :: es) [] pos) (tCall sp [] E0 t) := by
  obtain ⟨f, fd, ps, F, hm, kp, b⟩ := c.ex
  exact pe_call F (hr.mono hk) hg hm kp b .nil pass0 ha hdb he hpl
end
end LW

namespace LW
open PySem PySem.Spec L2
open Evl (Ex)
/-! ### small words -/
theorem if_t {c : Bool} {A B : Prop} (hc : c = true) (h : A) : if c = true then A else B := by
  rw [if_pos hc]
  exact h
theorem if_f {c : Bool} {A B : Prop} (hc : c = false) (h : B) : if c = true then A else B := by
  rw [hc, if_neg Bool.false_ne_true]
  exact h
theorem if_b {c : Bool} {A B : Prop} (h1 : c = true → A) (h2 : c = false → B) : if c = true then A else B := by
  cases c with
  | true => exact if_t rfl (h1 rfl)
  | false => exact if_f rfl (h2 rfl)
theorem at_some {α : Type} {xs : List α} {v : Int} (h0 : 0 ≤ v) (h1 : v < xs.length) : ∃ x, atI xs v = some x ∧ x ∈ xs ∧ xs[v.toNat]? = some x := by
  have hj : v.toNat < xs.length := by omega
  refine ⟨xs[v.toNat], ?_, List.getElem_mem hj, by simp [hj]⟩
  have e : ((v.toNat : Nat) : Int) = v := by omega
  have q : atI xs ((v.toNat : Nat) : Int) = some xs[v.toNat] := atI_nat (by simp [hj])
  rw [e] at q
  exact q
abbrev SqLo {K : PySem.W.Frag} {H : Hp} {a : Addr} {xs : List V} (h : H a = some (.lst xs)) : SqL K H a xs := Evl.sq_of h
abbrev SqTo {K : PySem.W.Frag} {H : Hp} {a : Addr} {xs : List V} (h : H a = some (.tup xs)) : SqT K H a xs := Evl.st_of h
/-! ### pairs of lists -/
section
variable {α β : Type} {R S : α → β → Prop}
theorem Paired.imp (f : ∀ a b, R a b → S a b) : ∀ {l : List α} {m : List β}, Paired R l m → Paired S l m
  | _, _, .nil => .nil
  | _, _, .cons r t => .cons (f _ _ r) (Paired.imp f t)
theorem Paired.app : ∀ {l l' : List α} {m m' : List β}, Paired R l m → Paired R l' m' → Paired R (l ++ l') (m ++ m')
  | _, _, _, _, .nil, s => s
  | _, _, _, _, .cons r t, s => .cons r (Paired.app t s)
theorem Paired.get : ∀ {l : List α} {m : List β} {i : Nat} {a : α}, Paired R l m → l[i]? = some a → ∃ b, m[i]? = some b ∧ R a b
  | _, _, _, _, .nil, e => by simp at e
  | _, _, 0, _, .cons r _, e => by
    simp at e
    subst e
    exact ⟨_, rfl, r⟩
  | _, _, i + 1, a, .cons _ t, e => by
    obtain ⟨b, h1, h2⟩ := Paired.get (i := i) (a := a) t (by simpa using e)
    exact ⟨b, by simpa using h1, h2⟩
theorem Paired.get' : ∀ {l : List α} {m : List β} {i : Nat} {b : β}, Paired R l m → m[i]? = some b → ∃ a, l[i]? = some a ∧ R a b
  | _, _, _, _, .nil, e => by simp at e
  | _, _, 0, _, .cons r _, e => by
    simp at e
    subst e
    exact ⟨_, rfl, r⟩
  | _, _, i + 1, a, .cons _ t, e => by
    obtain ⟨b, h1, h2⟩ := Paired.get' (i := i) (b := a) t (by simpa using e)
    exact ⟨b, by simpa using h1, h2⟩
theorem Paired.len : ∀ {l : List α} {m : List β}, Paired R l m → l.length = m.length
  | _, _, .nil => rfl
  | _, _, .cons _ t => by simp [Paired.len t]
theorem Paired.of_get : ∀ {l : List α} {m : List β}, l.length = m.length → (∀ (i : Nat) (a : α) (b : β), l[i]? = some a → m[i]? = some b → R a b) → Paired R l m
  | [], [], _, _ => .nil
  | a :: l, b :: m, h, f => .cons (f 0 a b rfl rfl) (Paired.of_get (by simpa using h) fun i x y h1 h2 => f (i + 1) x y (by simpa using h1) (by simpa using h2))
end
end LW
namespace K44
open PySem PySem.Spec L2 LW
open Evl (Ex)
/-! ### the data -/
inductive Test where
  | any | num (lo hi : Option Int) | text | isI (i : Int) | isS (s : Str) | rcd (fs : List Str) | list (lo : Int) (hi : Option Int)
inductive Head where
  | num (i : Int) | text (s : Str) | rcd (fs : List Str) | list (n : Int)
inductive Kid where
  | field (s : Str) | item (i : Int) | fields | items
  deriving DecidableEq
abbrev Visit := Kid × Str
structure Case where
  t : Test
  w : Option Str
  vs : List Visit
abbrev Row := Str × List Case
def oi : Option Int → V
  | none => .non
  | some i => .int i
def os : Option Str → V
  | none => .non
  | some s => .str s
/-- what stands in the tuple of a test -/
inductive RT (H : Hp) : V → Test → Prop where
  | any {a : Addr} : H a = some (.tup [.str "any"]) → RT H (.ref a) .any
  | num {a : Addr} {lo hi : Option Int} : H a = some (.tup [.str "number", oi lo, oi hi]) → RT H (.ref a) (.num lo hi)
  | text {a : Addr} : H a = some (.tup [.str "text"]) → RT H (.ref a) .text
  | isI {a : Addr} {i : Int} : H a = some (.tup [.str "is", .int i]) → RT H (.ref a) (.isI i)
  | isS {a : Addr} {s : Str} : H a = some (.tup [.str "is", .str s]) → RT H (.ref a) (.isS s)
  | rcd {a b : Addr} {fs : List Str} : H a = some (.tup [.str "record", .ref b]) → H b = some (.tup (fs.map V.str)) → RT H (.ref a) (.rcd fs)
  | list {a : Addr} {lo : Int} {hi : Option Int} : H a = some (.tup [.str "list", .int lo, oi hi]) → RT H (.ref a) (.list lo hi)
inductive RH (H : Hp) : V → Head → Prop where
  | num {a : Addr} {i : Int} : H a = some (.tup [.str "number", .int i]) → RH H (.ref a) (.num i)
  | text {a : Addr} {s : Str} : H a = some (.tup [.str "text", .str s]) → RH H (.ref a) (.text s)
  | rcd {a b : Addr} {fs : List Str} : H a = some (.tup [.str "record", .ref b]) → H b = some (.tup (fs.map V.str)) → RH H (.ref a) (.rcd fs)
  | list {a : Addr} {n : Int} : H a = some (.tup [.str "list", .int n]) → RH H (.ref a) (.list n)
def kidV : Kid → List V
  | .field s => [.str "field", .str s]
  | .item i => [.str "item", .int i]
  | .fields => [.str "fields"]
  | .items => [.str "items"]
def RKid (H : Hp) (v : V) (k : Kid) : Prop := ∃ a, v = .ref a ∧ H a = some (.tup (kidV k))
def RVis (H : Hp) (v : V) (x : Visit) : Prop := ∃ a c, v = .ref a ∧ H a = some (.tup [c, .str x.2]) ∧ RKid H c x.1
def RVisL (H : Hp) (v : V) (l : List Visit) : Prop := ∃ a xs, v = .ref a ∧ H a = some (.lst xs) ∧ Paired (RVis H) xs l
def RCase (H : Hp) (v : V) (c : Case) : Prop := ∃ a t l, v = .ref a ∧ H a = some (.tup [t, os c.w, l]) ∧ RT H t c.t ∧ RVisL H l c.vs
def RCaseL (H : Hp) (v : V) (cs : List Case) : Prop := ∃ a xs, v = .ref a ∧ H a = some (.lst xs) ∧ Paired (RCase H) xs cs
def RRow (H : Hp) (v : V) (r : Row) : Prop := ∃ a l, v = .ref a ∧ H a = some (.tup [.str r.1, l]) ∧ RCaseL H l r.2
def RProg (H : Hp) (v : V) (rs : List Row) : Prop := ∃ a xs, v = .ref a ∧ H a = some (.lst xs) ∧ Paired (RRow H) xs rs
section
variable {H H' : Hp} {v : V}
theorem RT.ex {t : Test} (e : Ex H H') (h : RT H v t) : RT H' v t := by
  cases h with
  | any h => exact .any (e _ _ h)
  | num h => exact .num (e _ _ h)
  | text h => exact .text (e _ _ h)
  | isI h => exact .isI (e _ _ h)
  | isS h => exact .isS (e _ _ h)
  | rcd h g => exact .rcd (e _ _ h) (e _ _ g)
  | list h => exact .list (e _ _ h)
theorem RH.ex {t : Head} (e : Ex H H') (h : RH H v t) : RH H' v t := by
  cases h with
  | num h => exact .num (e _ _ h)
  | text h => exact .text (e _ _ h)
  | rcd h g => exact .rcd (e _ _ h) (e _ _ g)
  | list h => exact .list (e _ _ h)
theorem RKid.ex {k : Kid} (e : Ex H H') (h : RKid H v k) : RKid H' v k := by
  obtain ⟨a, rfl, h⟩ := h
  exact ⟨a, rfl, e _ _ h⟩
theorem RVis.ex {x : Visit} (e : Ex H H') (h : RVis H v x) : RVis H' v x := by
  obtain ⟨a, c, rfl, h, g⟩ := h
  exact ⟨a, c, rfl, e _ _ h, g.ex e⟩
theorem RVisL.ex {l : List Visit} (e : Ex H H') (h : RVisL H v l) : RVisL H' v l := by
  obtain ⟨a, xs, rfl, h, g⟩ := h
  exact ⟨a, xs, rfl, e _ _ h, Paired.imp (fun _ _ q => RVis.ex e q) g⟩
theorem RCase.ex {c : Case} (e : Ex H H') (h : RCase H v c) : RCase H' v c := by
  obtain ⟨a, t, l, rfl, h, g1, g2⟩ := h
  exact ⟨a, t, l, rfl, e _ _ h, g1.ex e, g2.ex e⟩
theorem RCaseL.ex {l : List Case} (e : Ex H H') (h : RCaseL H v l) : RCaseL H' v l := by
  obtain ⟨a, xs, rfl, h, g⟩ := h
  exact ⟨a, xs, rfl, e _ _ h, Paired.imp (fun _ _ q => RCase.ex e q) g⟩
theorem RRow.ex {r : Row} (e : Ex H H') (h : RRow H v r) : RRow H' v r := by
  obtain ⟨a, l, rfl, h, g⟩ := h
  exact ⟨a, l, rfl, e _ _ h, g.ex e⟩
theorem RProg.ex {l : List Row} (e : Ex H H') (h : RProg H v l) : RProg H' v l := by
  obtain ⟨a, xs, rfl, h, g⟩ := h
  exact ⟨a, xs, rfl, e _ _ h, Paired.imp (fun _ _ q => RRow.ex e q) g⟩
end
/-! ### the same as data -/
def oiD : Option Int → PyData
  | none => .none
  | some i => .int i
def osD : Option Str → PyData
  | none => .none
  | some s => .str s
def Test.d : Test → PyData
  | .any => .tuple [.str "any"]
  | .num lo hi => .tuple [.str "number", oiD lo, oiD hi]
  | .text => .tuple [.str "text"]
  | .isI i => .tuple [.str "is", .int i]
  | .isS s => .tuple [.str "is", .str s]
  | .rcd fs => .tuple [.str "record", .tuple (fs.map PyData.str)]
  | .list lo hi => .tuple [.str "list", .int lo, oiD hi]
def Kid.d : Kid → PyData
  | .field s => .tuple [.str "field", .str s]
  | .item i => .tuple [.str "item", .int i]
  | .fields => .tuple [.str "fields"]
  | .items => .tuple [.str "items"]
def visD (x : Visit) : PyData := .tuple [x.1.d, .str x.2]
def visLD (l : List Visit) : PyData := .list (l.map visD)
def Case.d (c : Case) : PyData := .tuple [c.t.d, osD c.w, visLD c.vs]
def caseLD (l : List Case) : PyData := .list (l.map Case.d)
section
variable {K : PySem.W.Frag} {H : Hp} {v : V}
theorem dp_oi (o : Option Int) : Dp K H (oi o) (oiD o) := by
  cases o with
  | none => exact .non
  | some i => exact .int i
theorem dp_os (o : Option Str) : Dp K H (os o) (osD o) := by
  cases o with
  | none => exact .non
  | some i => exact .str i
theorem dp_strs : ∀ fs : List Str, DpAll K H (fs.map V.str) (fs.map PyData.str)
  | [] => .nil
  | f :: fs => .cons (.str f) (dp_strs fs)
theorem RT.dp {t : Test} (h : RT H v t) : Dp K H v t.d := by
  cases h with
  | any h => exact .tup (SqTo h) (.cons (.str _) .nil)
  | num h => exact .tup (SqTo h) (.cons (.str _) (.cons (dp_oi _) (.cons (dp_oi _) .nil)))
  | text h => exact .tup (SqTo h) (.cons (.str _) .nil)
  | isI h => exact .tup (SqTo h) (.cons (.str _) (.cons (.int _) .nil))
  | isS h => exact .tup (SqTo h) (.cons (.str _) (.cons (.str _) .nil))
  | rcd h g => exact .tup (SqTo h) (.cons (.str _) (.cons (.tup (SqTo g) (dp_strs _)) .nil))
  | list h => exact .tup (SqTo h) (.cons (.str _) (.cons (.int _) (.cons (dp_oi _) .nil)))
theorem RKid.dp {k : Kid} (h : RKid H v k) : Dp K H v k.d := by
  obtain ⟨a, rfl, h⟩ := h
  cases k with
  | field s => exact .tup (SqTo h) (.cons (.str _) (.cons (.str _) .nil))
  | item i => exact .tup (SqTo h) (.cons (.str _) (.cons (.int _) .nil))
  | fields => exact .tup (SqTo h) (.cons (.str _) .nil)
  | items => exact .tup (SqTo h) (.cons (.str _) .nil)
theorem RVis.dp {x : Visit} (h : RVis H v x) : Dp K H v (visD x) := by
  obtain ⟨a, c, rfl, h, g⟩ := h
  exact .tup (SqTo h) (.cons g.dp (.cons (.str _) .nil))
theorem dpAll {β : Type} {R : V → β → Prop} {f : β → PyData} (k : ∀ v x, R v x → Dp K H v (f x)) : ∀ {xs : List V} {l : List β}, Paired R xs l → DpAll K H xs (l.map f)
  | _, _, .nil => .nil
  | _, _, .cons r t => .cons (k _ _ r) (dpAll k t)
theorem RVisL.dp {l : List Visit} (h : RVisL H v l) : Dp K H v (visLD l) := by
  obtain ⟨a, xs, rfl, h, g⟩ := h
  exact .lst (SqLo h) (dpAll (fun _ _ q => RVis.dp q) g)
theorem RCase.dp {c : Case} (h : RCase H v c) : Dp K H v c.d := by
  obtain ⟨a, t, l, rfl, h, g1, g2⟩ := h
  exact .tup (SqTo h) (.cons g1.dp (.cons (dp_os _) (.cons g2.dp .nil)))
theorem RCaseL.dp {l : List Case} (h : RCaseL H v l) : Dp K H v (caseLD l) := by
  obtain ⟨a, xs, rfl, h, g⟩ := h
  exact .lst (SqLo h) (dpAll (fun _ _ q => RCase.dp q) g)
end
/-! ### texts that Python's own can be -/
abbrev SOk (s : Str) : Prop := PyData.strOk s = true
def Test.Ok : Test → Prop
  | .isS s => SOk s
  | .rcd fs => (∀ f ∈ fs, SOk f) ∧ fs.length ≤ 100
  | _ => True
def Kid.Ok : Kid → Prop
  | .field s => SOk s
  | _ => True
def Case.Ok (c : Case) : Prop := c.t.Ok ∧ (∀ s, c.w = some s → SOk s) ∧ ∀ x ∈ c.vs, x.1.Ok ∧ SOk x.2
end K44

namespace K44
open PySem PySem.Spec L2 LW
open Evl (Ex)
def top (i : Nat) : Stmt := PySem.Challenge.pw_latechecks_k43_lookers.main.body.getD i (.Pass ⟨0, 0, 0, 0⟩)
abbrev s__wall : Stmt := top 0
abbrev s_InvalidValue___init__ : Stmt := inClass (top 3) 0
abbrev s_DuplicatePoint___init__ : Stmt := inClass (top 4) 0
abbrev s_UnknownPoint___init__ : Stmt := inClass (top 5) 0
abbrev s_RepeatedChild___init__ : Stmt := inClass (top 6) 0
abbrev s_is_integer : Stmt := top 14
abbrev s_is_letters : Stmt := top 15
abbrev s_is_field : Stmt := top 16
abbrev s_is_leaf : Stmt := top 17
abbrev s_is_part : Stmt := top 18
abbrev s_children : Stmt := top 19
abbrev s_is_value : Stmt := top 20
abbrev s_check_value : Stmt := top 21
abbrev s_head_of : Stmt := top 22
abbrev s_takes_leaf : Stmt := top 24
abbrev s_matches : Stmt := top 26
abbrev s_has_repeats : Stmt := top 27
abbrev s_visited : Stmt := top 28
abbrev s_chosen : Stmt := top 29
abbrev s_taken : Stmt := top 30
abbrev s_Looker___init__ : Stmt := inClass (top 32) 0
abbrev s_Looker_check_visits : Stmt := inClass (top 32) 1
abbrev s_Looker_whole : Stmt := inClass (top 32) 2
abbrev s_Looker_start : Stmt := inClass (top 32) 3
abbrev s_Looker_points : Stmt := inClass (top 32) 4
abbrev s_Looker_cases : Stmt := inClass (top 32) 5
abbrev s_Looker___len__ : Stmt := inClass (top 32) 6
abbrev s_Looker___iter__ : Stmt := inClass (top 32) 7
abbrev s_Looker___contains__ : Stmt := inClass (top 32) 8
abbrev s_Looker___eq__ : Stmt := inClass (top 32) 9
abbrev s_Looker___call__ : Stmt := inClass (top 32) 10
abbrev s__law_hand : Stmt := top 34
abbrev s__law_draw : Stmt := top 35
abbrev s__law_test : Stmt := top 36
abbrev s__law_visits : Stmt := top 37
abbrev s__law_program : Stmt := top 38
abbrev s__law_program_copy : Stmt := top 39
abbrev s__law_bent : Stmt := top 40
abbrev s__law_twice : Stmt := top 41
abbrev s__law_due : Stmt := top 42
abbrev s__law_found : Stmt := top 43
abbrev s__law_shows : Stmt := top 44
abbrev s__law_unknown : Stmt := top 45
abbrev s__law_kept : Stmt := top 46
abbrev s_law : Stmt := top 47
structure Txt (K : PySem.W.Frag) (mg : Str → Option Value) : Prop where
  b_len : mg "len" = none
  b_range : mg "range" = none
  b_isinstance : mg "isinstance" = none
  b_int : mg "int" = none
  b_str : mg "str" = none
  b_bool : mg "bool" = none
  b_list : mg "list" = none
  b_all : mg "all" = none
  b_enumerate : mg "enumerate" = none
  b_max : mg "max" = none
  b_min : mg "min" = none
section
variable {P : Program} {w : World} {K : PySem.W.Frag} {mg : Str → Option Value} {base : Heap}
/-! ### _law_draw -/
def spDraw : Sp := fun vs H Q _ => ∃ (p : Addr) (n : Int), vs = [.ref p, .int n] ∧ Pool H p ∧ 0 < n ∧ n ≤ 10000000000000000000000000000000 ∧ ∀ v : Int, 0 ≤ v → v < n → Q (.int v) H
theorem sc__law_draw : FnScope ["_law_pool", "_law_many", "_law_found_here"] ["_law_pool", "_law_many"] (defScope s__law_draw) := ⟨rfl, rfl, rfl, by decide +kernel, rfl, by decide +kernel, by decide +kernel⟩
theorem bi__law_draw : BindsEq "_law_draw" s__law_draw ["_law_pool", "_law_many"] := fun _ _ _ _ _ _ us hl => match us, hl with | [_, _], _ => rfl
theorem ok_draw (F : Df K mg "_law_draw" s__law_draw) (T : Txt K mg) : Cal P w K mg base CX0 1 "_law_draw" spDraw := by
  refine cal0 F sc__law_draw bi__law_draw (fun vs H Q E h => ?_) (fun f cdv A outer s H vs Q E hr h => ?_)
  · obtain ⟨p, n, rfl, _⟩ := h
    rfl
  · obtain ⟨p, n, rfl, hp, n0, n1, k⟩ := h
    refine ⟨_, pss_focus (pss_cons (ps_if (pt_cmpR op_gt (pe_ix (ixl K) (pv 0) pe_int (fun _ _ => rfl)) pe_int (nomark _)) (pss_cons (ps_set (i := 2) sc__law_draw.nd rfl (Or.inl rfl) (pe_op op_mod (pe_callTy call_int1 rfl T.b_int (by decide +kernel) (pa_cons (pe_ix (ixl K) (pv 0) pe_int (fun _ _ => rfl)) pa_nil)) (pv 1)))
 (pss_cons (ps_asg (pe_op op_fdivW (pe_ix (ixl K) (pv 0) pe_int (fun _ _ => rfl)) (pv 1)) (pg_sub (pv 0) pe_int set_list))
 (pss_one (ps_ret (pv 2))))) pss_nil)
 (pss_cons (ps_asg (pe_op op_mod (pe_callTy call_int1 rfl T.b_int (by decide +kernel) (pa_cons (pe_op op_add (pe_op op_mul (pe_ix (ixl K) (pv 0) pe_int (fun _ _ => rfl)) pe_int) pe_int) pa_nil)) pe_int) (pg_sub (pv 0) pe_int set_list))
 (pss_one (ps_ret (pe_op op_mod (pe_op op_fdivW (pe_op op_mod (pe_callTy call_int1 rfl T.b_int (by decide +kernel) (pa_cons (pe_op op_mul (pe_ix (ixl K) (pv 0) pe_int (fun _ _ => rfl)) (pe_ix (ixl K) (pv 0) pe_int (fun _ _ => rfl))) pa_nil)) pe_int) pe_int) (pv 1)))))), ?_⟩
    refine ⟨p, hp, fun a b a0 b0 b1 => ?_⟩
    have hd : CDivW a n := wide_div (b := 110) n0 (by omega) (by decide) (by decide)
    have sq : ∀ x y : Int, SqL K (upd H p (.lst [.int x, .int y])) p [.int x, .int y] := fun x y => Evl.sq_of upd_same
    have a0' : ∀ x y : V, atI [x, y] 0 = some x := fun _ _ => rfl
    have a1' : ∀ x y : V, atI [x, y] 1 = some y := fun _ _ => rfl
    refine ⟨_, rfl, p, _, _, _, rfl, rfl, sq a b, a0' _ _, _, _, rfl, rfl, _, rfl, ?_⟩
    refine ite2 (fun h => ?_) (fun h => ?_)
    · have h : 0 < a := of_decide_eq_true h
      refine ⟨_, rfl, p, _, _, _, rfl, rfl, sq a b, a0' _ _, .inl ⟨_, rfl, _, rfl, _, _, rfl, rfl, n0, ?_⟩⟩
      refine ⟨_, rfl, p, _, _, _, rfl, rfl, sq a b, a0' _ _, _, rfl, _, _, rfl, rfl, hd, _, rfl, p, _, _, 0, rfl, rfl, upd_same, rfl, ?_⟩
      refine ⟨_, rfl, a / n, b, upd_same, ?_, b0, b1, ?_⟩
      · exact Int.ediv_nonneg a0 (by omega)
      · rw [upd_upd, upd_back hp]
        exact k _ (Int.emod_nonneg _ (by omega)) (Int.emod_lt_of_pos _ n0)
    · refine ⟨_, rfl, p, _, _, _, rfl, rfl, sq a b, a1' _ _, _, _, rfl, rfl, .inl ⟨by omega, by omega⟩, _, _, rfl, rfl, .inl ⟨_, rfl, _, _, rfl, rfl, (by show (0 : Int) < 2147483647; decide), ?_⟩⟩
      have c0 : 0 ≤ (b * 48271 + 11) % 2147483647 := Int.emod_nonneg _ (by decide)
      have c1 : (b * 48271 + 11) % 2147483647 < 2147483647 := Int.emod_lt_of_pos _ (by decide)
      refine ⟨_, rfl, p, _, _, 1, rfl, rfl, upd_same, rfl, ?_⟩
      rw [upd_upd]
      refine ⟨_, rfl, p, _, _, _, rfl, rfl, sq a ((b * 48271 + 11) % 2147483647), a1' _ _, _, rfl, p, _, _, _, rfl, rfl, sq a ((b * 48271 + 11) % 2147483647), a1' _ _, _, _, rfl, rfl, .inl ⟨by omega, by omega⟩, .inl ⟨_, rfl, _, _, rfl, rfl, (by show (0 : Int) < 2147483629; decide), _, _, rfl, rfl, ⟨by decide, by decide⟩, _, rfl, _, _, rfl, rfl, n0, ?_⟩⟩
      refine ⟨a, _, upd_same, a0, c0, c1, ?_⟩
      rw [upd_back hp]
      exact k _ (Int.emod_nonneg _ (by omega)) (Int.emod_lt_of_pos _ n0)
/-! ### _law_hand -/
theorem cut_mem {xs : List V} {lo hi : Option Int} {v : V} (h : v ∈ cutV xs lo hi) : v ∈ xs := List.mem_of_mem_drop (List.mem_of_mem_take h)
def spHand (K : PySem.W.Frag) : Sp := fun vs H Q _ => ∃ (a : Addr) (ns : List Int) (k : Int), vs = [.ref a, .int k] ∧ SqL K H a (ns.map V.int) ∧ ns.length ≤ 63 ∧ 0 ≤ k ∧ k ≤ 63 ∧ ∀ p H', H p = none → Ex H H' → Pool H' p → Q (.ref p) H'
theorem sc__law_hand : FnScope ["_law_script", "_law_k", "_law_cell", "_law_seed"] ["_law_script", "_law_k"] (defScope s__law_hand) := ⟨rfl, rfl, rfl, by decide +kernel, rfl, by decide +kernel, by decide +kernel⟩
theorem bi__law_hand : BindsEq "_law_hand" s__law_hand ["_law_script", "_law_k"] := fun _ _ _ _ _ _ us hl => match us, hl with | [_, _], _ => rfl
theorem ok_hand (F : Df K mg "_law_hand" s__law_hand) (T : Txt K mg) : Cal P w K mg base CX0 1 "_law_hand" (spHand K) := by
  refine cal0 F sc__law_hand bi__law_hand (fun vs H Q E h => ?_) (fun f cdv A outer s H vs Q E hr h => ?_)
  · obtain ⟨a, ns, j, rfl, _⟩ := h
    rfl
  · obtain ⟨a, ns, j, rfl, hS, hl, j0, j1, k⟩ := h
    refine ⟨_, (pss_cons (ps_set (i := 2) sc__law_hand.nd rfl (Or.inl rfl) (pe_ix (ixl K) (pe_op op_cat (pe_slice (slK K) (pv 0) (po_some (pv 1)) (po_some (pe_op op_add (pv 1) pe_int))) (pe_lst (pa_cons pe_int pa_nil))) pe_int (fun _ _ => rfl)))
 (pss_cons (ps_set (i := 3) sc__law_hand.nd rfl (Or.inl rfl) (pe_op op_mod (pe_op op_mul (pe_op op_add (pe_op op_add (pe_op op_mod (pe_callTy call_int1 rfl T.b_int (by decide +kernel) (pa_cons (pv 2) pa_nil)) pe_int) (pe_op op_mul pe_int (pv 1))) pe_int) pe_int) pe_int))
 (pss_one (ps_retPool (pe_lst (pa_cons (pe_op op_mul (pe_callTy call_int1 rfl T.b_int (by decide +kernel) (pa_cons (pe_cmpR op_ge (pv 2) (pe_op op_pow pe_int pe_int) (nomark _)) pa_nil)) (pv 2)) (pa_cons (pv 3) pa_nil))))))), ?_⟩
    refine ⟨_, rfl, _, rfl, _, rfl, _, rfl, _, _, rfl, rfl, _, rfl, a, _, rfl, hS, fun p1 np1 => ?_⟩
    obtain ⟨H1, hH1, x0_1, h1⟩ := newH _ np1
    rw [hH1]
    clear hH1
    have f1 := np1
    refine ⟨szl (by show 1 ≤ 100000; decide), fun p2 np2 => ?_⟩
    obtain ⟨H2, hH2, x1_2, h2⟩ := newH _ np2
    rw [hH2]
    clear hH2
    have x0_2 := x0_1.trans x1_2
    have f2 := ex_free x0_1 np2
    have hlen := cutV_length (ns.map V.int) (some j) (some (j + 1))
    rw [List.length_map] at hlen
    refine ⟨p1, p2, _, _, rfl, rfl, x1_2 _ _ h1, h2, szl (by show _ + 1 ≤ 100000; omega), fun p3 np3 => ?_⟩
    obtain ⟨H3, hH3, x2_3, h3⟩ := newH _ np3
    rw [hH3]
    clear hH3
    have x0_3 := x0_2.trans x2_3
    have x1_3 := x1_2.trans x2_3
    have f3 := ex_free x0_2 np3
    obtain ⟨c, hc⟩ : ∃ c : Int, atI (cutV (ns.map V.int) (some j) (some (j + 1)) ++ [V.int 0]) 0 = some (V.int c) := by
      obtain ⟨x, hx, hm, _⟩ := at_some (xs := cutV (ns.map V.int) (some j) (some (j + 1)) ++ [V.int 0]) (v := 0) (by decide) (by rw [List.length_append]; show (0 : Int) < ((_ + 1 : Nat) : Int); omega)
      rcases List.mem_append.mp hm with q | q
      · obtain ⟨c, _, e⟩ := List.mem_map.mp (cut_mem q)
        exact ⟨c, by rw [hx, e]⟩
      · have e : x = V.int 0 := by simpa using q
        exact ⟨0, by rw [hx, e]⟩
    refine ⟨p3, _, _, _, rfl, rfl, SqLo h3, hc, ?_⟩
    -- _law_seed
    refine ⟨_, rfl, .inl ⟨_, rfl, _, _, rfl, rfl, (by show (0 : Int) < 2147483647; decide), ?_⟩⟩
    have m0 : 0 ≤ c % 2147483647 := Int.emod_nonneg _ (by decide)
    have m1 : c % 2147483647 < 2147483647 := Int.emod_lt_of_pos _ (by decide)
    refine ⟨_, rfl, _, _, rfl, rfl, .inl ⟨by decide, by decide⟩, _, _, rfl, rfl, _, _, rfl, rfl, _, _, rfl, rfl, .inr ⟨by decide, by decide⟩, _, _, rfl, rfl, (by show (0 : Int) < 2147483629; decide), ?_⟩
    -- return
    refine ⟨_, rfl, _, _, rfl, rfl, ⟨by decide, by decide, by decide⟩, _, _, rfl, rfl, .inr ⟨_, rfl, _, rfl, _, _, rfl, rfl, .inl ?_, ?_⟩⟩
    · split <;> exact ⟨by decide, by decide⟩
    refine ⟨_, rfl, szl (by show 2 ≤ 100000; decide), fun p4 np4 => ?_⟩
    obtain ⟨H4, hH4, x3_4, h4⟩ := newH _ np4
    rw [hH4]
    clear hH4
    have x0_4 := x0_3.trans x3_4
    have x1_4 := x1_3.trans x3_4
    have x2_4 := x2_3.trans x3_4
    have f4 := ex_free x0_3 np4
    have np : H p4 = none := ex_free x0_3 np4
    refine ⟨p4, _, _, rfl, h4, ?_, ?_, ?_, k p4 _ np ?_ upd_same⟩
    · by_cases hb : (10 : Int) ^ (18 : Int).toNat ≤ c
      · rw [decide_eq_true hb]
        show 0 ≤ 1 * c
        have : (0 : Int) ≤ 10 ^ (18 : Int).toNat := by decide
        omega
      · rw [decide_eq_false hb]
        show 0 ≤ 0 * c
        omega
    · exact Int.emod_nonneg _ (by decide)
    · exact Int.lt_trans (Int.emod_lt_of_pos _ (by decide)) (by decide)
    · exact Ex.mut x0_4 np
/-! ### _law_leaf -/
def LeafV (v : V) : Prop := (∃ i : Int, v = .int i) ∨ ∃ z : Str, v = .str z ∧ SOk z
def spLeaf : Sp := fun vs H Q _ => ∃ (p : Addr), vs = [.ref p] ∧ Pool H p ∧ ∀ v H', Ex H H' → LeafV v → Q v H'
theorem cp30 : CPow 10 30 := ⟨by decide, by decide, by decide⟩
theorem cp29 : CPow 10 29 := ⟨by decide, by decide, by decide⟩
/-! ### _law_test -/
def spTest : Sp := fun vs H Q _ => ∃ (p : Addr), vs = [.ref p] ∧ Pool H p ∧ ∀ v H' t, Ex H H' → RT (fr H H') v t → t.Ok → Q v H'
theorem sc__law_test : FnScope ["_law_pool", "_law_way", "_law_low", "_law_ends", "_law_shapes"] ["_law_pool"] (defScope s__law_test) := ⟨rfl, rfl, rfl, by decide +kernel, rfl, by decide +kernel, by decide +kernel⟩
theorem bi__law_test : BindsEq "_law_test" s__law_test ["_law_pool"] := fun _ _ _ _ _ _ us hl => match us, hl with | [_], _ => rfl
theorem ok_test (F : Df K mg "_law_test" s__law_test) (T : Txt K mg) (C__law_draw : Cal P w K mg base CX0 1 "_law_draw" spDraw) : Cal P w K mg base CX0 2 "_law_test" spTest := by
  refine cal0 F sc__law_test bi__law_test (fun vs H Q E h => ?_) (fun f cdv A outer s H vs Q E hr h => ?_)
  · obtain ⟨p, rfl, _⟩ := h
    rfl
  · obtain ⟨p, rfl, hp, k⟩ := h
    refine ⟨_, (pss_cons (ps_set (i := 1) sc__law_test.nd rfl (Or.inl rfl) (pe_k C__law_draw hr (by decide) rfl (pa_cons (pv 0) (pa_cons pe_int pa_nil))))
 (pss_cons (ps_set (i := 2) sc__law_test.nd rfl (Or.inl rfl) (pe_k C__law_draw hr (by decide) rfl (pa_cons (pv 0) (pa_cons pe_int pa_nil))))
 (pss_cons (ps_if (pt_cmpR op_lt (pv 1) pe_int (nomark _)) (pss_one (ps_ret (pe_tup (pa_cons pe_str pa_nil)))) pss_nil)
 (pss_cons (ps_if (pt_cmpR op_eq (pv 1) pe_int (nomark _)) (pss_cons (ps_set (i := 3) sc__law_test.nd rfl (Or.inl rfl) (pe_lst (pa_cons pe_non (pa_cons (pe_op op_sub (pv 2) pe_int) (pa_cons pe_non (pa_cons (pv 2) pa_nil))))))
 (pss_one (ps_ret (pe_tup (pa_cons pe_str (pa_cons (pe_ix (ixl K) (pv 3) (pe_k C__law_draw hr (by decide) rfl (pa_cons (pv 0) (pa_cons pe_int pa_nil))) (fun _ _ => rfl)) (pa_cons (pe_ix (ixl K) (pv 3) (pe_op op_add pe_int (pe_k C__law_draw hr (by decide) rfl (pa_cons (pv 0) (pa_cons pe_int pa_nil)))) (fun _ _ => rfl)) pa_nil))))))) pss_nil)
 (pss_cons (ps_if (pt_cmpR op_eq (pv 1) pe_int (nomark _)) (pss_one (ps_ret (pe_ix (ixl K) (pe_lst (pa_cons (pe_tup (pa_cons pe_str pa_nil)) (pa_cons (pe_tup (pa_cons pe_str (pa_cons pe_str pa_nil))) (pa_cons (pe_tup (pa_cons pe_str (pa_cons (pe_op op_sub (pv 2) pe_int) pa_nil))) (pa_cons (pe_tup (pa_cons pe_str (pa_cons (pe_op op_sub (pe_op op_pow pe_int pe_int) pe_int) pa_nil))) pa_nil))))) (pv 2) (fun _ _ => rfl)))) pss_nil)
 (pss_cons (ps_if (pt_cmpR op_lt (pv 1) pe_int (nomark _)) (pss_cons (ps_set (i := 4) sc__law_test.nd rfl (Or.inl rfl) (pe_lst (pa_cons (pe_tup pa_nil) (pa_cons (pe_tup (pa_cons pe_str pa_nil)) (pa_cons (pe_tup (pa_cons pe_str pa_nil)) (pa_cons (pe_tup (pa_cons pe_str (pa_cons pe_str pa_nil))) (pa_cons (pe_tup (pa_cons pe_str pa_nil)) pa_nil)))))))
 (pss_one (ps_ret (pe_tup (pa_cons pe_str (pa_cons (pe_ix (ixl K) (pv 4) (pe_k C__law_draw hr (by decide) rfl (pa_cons (pv 0) (pa_cons pe_int pa_nil))) (fun _ _ => rfl)) pa_nil)))))) pss_nil)
 (pss_one (ps_ret (pe_tup (pa_cons pe_str (pa_cons (pv 2) (pa_cons (pe_ix (ixl K) (pe_lst (pa_cons pe_non (pa_cons (pv 2) (pa_cons pe_int pa_nil)))) (pe_k C__law_draw hr (by decide) rfl (pa_cons (pv 0) (pa_cons pe_int pa_nil))) (fun _ _ => rfl)) pa_nil)))))))))))), ?_⟩
    refine ⟨_, rfl, p, 8, rfl, hp, by decide, by decide, fun v v0 v1 => ?_⟩
    refine ⟨_, rfl, p, 4, rfl, hp, by decide, by decide, fun lo l0 l1 => ?_⟩
    refine ⟨_, rfl, _, _, rfl, rfl, _, rfl, if_b (fun _ => ?_) (fun _ => ?_)⟩
    · refine ⟨szl (by show 1 ≤ 100000; decide), fun p1 np1 => ?_⟩
      obtain ⟨H1, hH1, x0_1, h1⟩ := newH _ np1
      rw [hH1]
      clear hH1
      have f1 := np1
      exact k _ _ _ x0_1 (.any (fr_get f1 h1)) trivial
    refine ⟨_, rfl, rfl, _, rfl, if_b (fun _ => ?_) (fun _ => ?_)⟩
    · refine ⟨_, rfl, _, _, rfl, rfl, _, rfl, szl (by show 4 ≤ 100000; decide), fun p1 np1 => ?_⟩
      obtain ⟨H1, hH1, x0_1, h1⟩ := newH _ np1
      rw [hH1]
      clear hH1
      have f1 := np1
      refine ⟨_, rfl, _, rfl, p, 2, rfl, hp.ex x0_1, by decide, by decide, fun u u0 u1 => ?_⟩
      have hat : ∀ u : Int, 0 ≤ u → u < 4 → ∃ o : Option Int, atI [V.non, V.int (lo - 2), V.non, V.int lo] u = some (oi o) := fun u u0 u1 => by
        obtain ⟨x, hx, hm, _⟩ := at_some (xs := [V.non, V.int (lo - 2), V.non, V.int lo]) u0 u1
        simp only [List.mem_cons, List.not_mem_nil, or_false] at hm
        rcases hm with rfl | rfl | rfl | rfl
        · exact ⟨none, hx⟩
        · exact ⟨some _, hx⟩
        · exact ⟨none, hx⟩
        · exact ⟨some _, hx⟩
      obtain ⟨o1, ho1⟩ := hat u u0 (by omega)
      refine ⟨p1, _, _, _, rfl, rfl, SqLo h1, ho1, _, rfl, _, rfl, p, 2, rfl, hp.ex x0_1, by decide, by decide, fun y y0 y1 => ?_⟩
      obtain ⟨o2, ho2⟩ := hat (2 + y) (by omega) (by omega)
      refine ⟨_, _, rfl, rfl, p1, _, _, _, rfl, rfl, SqLo h1, ho2, szl (by show 3 ≤ 100000; decide), fun p2 np2 => ?_⟩
      obtain ⟨H2, hH2, x1_2, h2⟩ := newH _ np2
      rw [hH2]
      clear hH2
      have x0_2 := x0_1.trans x1_2
      have f2 := ex_free x0_1 np2
      exact k _ _ _ x0_2 (.num (fr_get f2 h2)) trivial
    refine ⟨_, rfl, rfl, _, rfl, if_b (fun _ => ?_) (fun _ => ?_)⟩
    · refine ⟨szl (by show 1 ≤ 100000; decide), fun p1 np1 => ?_⟩
      obtain ⟨H1, hH1, x0_1, h1⟩ := newH _ np1
      rw [hH1]
      clear hH1
      have f1 := np1
      refine ⟨szl (by show 2 ≤ 100000; decide), fun p2 np2 => ?_⟩
      obtain ⟨H2, hH2, x1_2, h2⟩ := newH _ np2
      rw [hH2]
      clear hH2
      have x0_2 := x0_1.trans x1_2
      have f2 := ex_free x0_1 np2
      refine ⟨_, rfl, _, _, rfl, rfl, szl (by show 2 ≤ 100000; decide), fun p3 np3 => ?_⟩
      obtain ⟨H3, hH3, x2_3, h3⟩ := newH _ np3
      rw [hH3]
      clear hH3
      have x0_3 := x0_2.trans x2_3
      have x1_3 := x1_2.trans x2_3
      have f3 := ex_free x0_2 np3
      refine ⟨_, _, rfl, rfl, cp30, _, _, rfl, rfl, szl (by show 2 ≤ 100000; decide), fun p4 np4 => ?_⟩
      obtain ⟨H4, hH4, x3_4, h4⟩ := newH _ np4
      rw [hH4]
      clear hH4
      have x0_4 := x0_3.trans x3_4
      have x1_4 := x1_3.trans x3_4
      have x2_4 := x2_3.trans x3_4
      have f4 := ex_free x0_3 np4
      refine ⟨szl (by show 4 ≤ 100000; decide), fun p5 np5 => ?_⟩
      obtain ⟨H5, hH5, x4_5, h5⟩ := newH _ np5
      rw [hH5]
      clear hH5
      have x0_5 := x0_4.trans x4_5
      have x1_5 := x1_4.trans x4_5
      have x2_5 := x2_4.trans x4_5
      have x3_5 := x3_4.trans x4_5
      have f5 := ex_free x0_4 np5
      obtain ⟨x, hx, hm, _⟩ := at_some (xs := [V.ref p1, V.ref p2, V.ref p3, V.ref p4]) l0 l1
      refine ⟨_, rfl, p5, _, _, _, rfl, rfl, SqLo h5, hx, ?_⟩
      simp only [List.mem_cons, List.not_mem_nil, or_false] at hm
      rcases hm with rfl | rfl | rfl | rfl
      · exact k _ _ _ x0_5 (.text (fr_get f1 (x1_5 _ _ h1))) trivial
      · exact k _ _ _ x0_5 (.isS (fr_get f2 (x2_5 _ _ h2))) (show SOk _ by decide +kernel)
      · exact k _ _ _ x0_5 (.isI (fr_get f3 (x3_5 _ _ h3))) trivial
      · exact k _ _ _ x0_5 (.isI (fr_get f4 (x4_5 _ _ h4))) trivial
    refine ⟨_, rfl, _, _, rfl, rfl, _, rfl, if_b (fun _ => ?_) (fun _ => ?_)⟩
    · refine ⟨szl (by show 0 ≤ 100000; decide), fun p1 np1 => ?_⟩
      obtain ⟨H1, hH1, x0_1, h1⟩ := newH _ np1
      rw [hH1]
      clear hH1
      have f1 := np1
      refine ⟨szl (by show 1 ≤ 100000; decide), fun p2 np2 => ?_⟩
      obtain ⟨H2, hH2, x1_2, h2⟩ := newH _ np2
      rw [hH2]
      clear hH2
      have x0_2 := x0_1.trans x1_2
      have f2 := ex_free x0_1 np2
      refine ⟨szl (by show 1 ≤ 100000; decide), fun p3 np3 => ?_⟩
      obtain ⟨H3, hH3, x2_3, h3⟩ := newH _ np3
      rw [hH3]
      clear hH3
      have x0_3 := x0_2.trans x2_3
      have x1_3 := x1_2.trans x2_3
      have f3 := ex_free x0_2 np3
      refine ⟨szl (by show 2 ≤ 100000; decide), fun p4 np4 => ?_⟩
      obtain ⟨H4, hH4, x3_4, h4⟩ := newH _ np4
      rw [hH4]
      clear hH4
      have x0_4 := x0_3.trans x3_4
      have x1_4 := x1_3.trans x3_4
      have x2_4 := x2_3.trans x3_4
      have f4 := ex_free x0_3 np4
      refine ⟨szl (by show 1 ≤ 100000; decide), fun p5 np5 => ?_⟩
      obtain ⟨H5, hH5, x4_5, h5⟩ := newH _ np5
      rw [hH5]
      clear hH5
      have x0_5 := x0_4.trans x4_5
      have x1_5 := x1_4.trans x4_5
      have x2_5 := x2_4.trans x4_5
      have x3_5 := x3_4.trans x4_5
      have f5 := ex_free x0_4 np5
      refine ⟨szl (by show 5 ≤ 100000; decide), fun p6 np6 => ?_⟩
      obtain ⟨H6, hH6, x5_6, h6⟩ := newH _ np6
      rw [hH6]
      clear hH6
      have x0_6 := x0_5.trans x5_6
      have x1_6 := x1_5.trans x5_6
      have x2_6 := x2_5.trans x5_6
      have x3_6 := x3_5.trans x5_6
      have x4_6 := x4_5.trans x5_6
      have f6 := ex_free x0_5 np6
      refine ⟨_, rfl, _, rfl, p, 5, rfl, hp.ex x0_6, by decide, by decide, fun u u0 u1 => ?_⟩
      obtain ⟨x, hx, hm, _⟩ := at_some (xs := [V.ref p1, V.ref p2, V.ref p3, V.ref p4, V.ref p5]) u0 u1
      refine ⟨p6, _, _, _, rfl, rfl, SqLo h6, hx, szl (by show 2 ≤ 100000; decide), fun p7 np7 => ?_⟩
      obtain ⟨H7, hH7, x6_7, h7⟩ := newH _ np7
      rw [hH7]
      clear hH7
      have x0_7 := x0_6.trans x6_7
      have x1_7 := x1_6.trans x6_7
      have x2_7 := x2_6.trans x6_7
      have x3_7 := x3_6.trans x6_7
      have x4_7 := x4_6.trans x6_7
      have x5_7 := x5_6.trans x6_7
      have f7 := ex_free x0_6 np7
      simp only [List.mem_cons, List.not_mem_nil, or_false] at hm
      rcases hm with rfl | rfl | rfl | rfl | rfl
      · exact k _ _ _ x0_7 (.rcd (fs := []) (fr_get f7 h7) (fr_get f1 (x1_7 _ _ h1))) (show (∀ f ∈ _, SOk f) ∧ _ ≤ 100 by decide +kernel)
      · exact k _ _ _ x0_7 (.rcd (fs := ["a"]) (fr_get f7 h7) (fr_get f2 (x2_7 _ _ h2))) (show (∀ f ∈ _, SOk f) ∧ _ ≤ 100 by decide +kernel)
      · exact k _ _ _ x0_7 (.rcd (fs := ["b"]) (fr_get f7 h7) (fr_get f3 (x3_7 _ _ h3))) (show (∀ f ∈ _, SOk f) ∧ _ ≤ 100 by decide +kernel)
      · exact k _ _ _ x0_7 (.rcd (fs := ["a", "b"]) (fr_get f7 h7) (fr_get f4 (x4_7 _ _ h4))) (show (∀ f ∈ _, SOk f) ∧ _ ≤ 100 by decide +kernel)
      · exact k _ _ _ x0_7 (.rcd (fs := ["ab"]) (fr_get f7 h7) (fr_get f5 (x5_7 _ _ h5))) (show (∀ f ∈ _, SOk f) ∧ _ ≤ 100 by decide +kernel)
    · refine ⟨_, rfl, _, rfl, szl (by show 3 ≤ 100000; decide), fun p1 np1 => ?_⟩
      obtain ⟨H1, hH1, x0_1, h1⟩ := newH _ np1
      rw [hH1]
      clear hH1
      have f1 := np1
      refine ⟨_, rfl, p, 3, rfl, hp.ex x0_1, by decide, by decide, fun u u0 u1 => ?_⟩
      obtain ⟨x, hx, hm, _⟩ := at_some (xs := [V.non, V.int lo, V.int 3]) u0 u1
      refine ⟨p1, _, _, _, rfl, rfl, SqLo h1, hx, szl (by show 3 ≤ 100000; decide), fun p2 np2 => ?_⟩
      obtain ⟨H2, hH2, x1_2, h2⟩ := newH _ np2
      rw [hH2]
      clear hH2
      have x0_2 := x0_1.trans x1_2
      have f2 := ex_free x0_1 np2
      simp only [List.mem_cons, List.not_mem_nil, or_false] at hm
      rcases hm with rfl | rfl | rfl
      · exact k _ _ _ x0_2 (.list (hi := none) (fr_get f2 h2)) trivial
      · exact k _ _ _ x0_2 (.list (hi := some _) (fr_get f2 h2)) trivial
      · exact k _ _ _ x0_2 (.list (hi := some _) (fr_get f2 h2)) trivial
end
end K44

namespace K44
open PySem PySem.Spec L2 LW
open Evl (Ex)
/-! ### the kids of a case: none twice, no all beside one -/
structure NoRep (l : List Kid) : Prop where
  nd : l.Nodup
  f : ∀ s, Kid.fields ∈ l → Kid.field s ∈ l → False
  i : ∀ j, Kid.items ∈ l → Kid.item j ∈ l → False
  ok : ∀ k ∈ l, k.Ok
theorem NoRep.sub {l m : List Kid} (h : NoRep l) (nd : m.Nodup) (s : ∀ k ∈ m, k ∈ l) : NoRep m := ⟨nd, fun z a b => h.f z (s _ a) (s _ b), fun z a b => h.i z (s _ a) (s _ b), fun k a => h.ok k (s _ a)⟩
theorem NoRep.rot {l : List Kid} (h : NoRep l) (n : Nat) : NoRep (l.drop n ++ l.take n) := by
  refine h.sub ?_ fun k hk => ?_
  · have q : (l.take n ++ l.drop n).Nodup := by rw [List.take_append_drop]; exact h.nd
    exact (List.perm_append_comm.nodup_iff).mp q
  · rcases List.mem_append.mp hk with q | q
    · exact List.mem_of_mem_drop q
    · exact List.mem_of_mem_take q
def kids0 : List Kid := [.fields, .items]
def kids1 : List Kid := [.item 2, .fields, .item 0]
def kids2 : List Kid := [.field "b", .items, .field "a"]
def kids3 : List Kid := [.field "a", .item 1, .field "b", .item 0, .field "ab", .item 3]
theorem nr_of {l : List Kid} (nd : l.Nodup) (f : Kid.fields ∈ l → ∀ s, Kid.field s ∉ l) (i : Kid.items ∈ l → ∀ s, Kid.item s ∉ l) (ok : ∀ k ∈ l, k.Ok) : NoRep l := ⟨nd, fun s a b => f a s b, fun s a b => i a s b, ok⟩
theorem kid_ok {l : List Kid} (h : ∀ k ∈ l, (match k with | .field s => PyData.strOk s | _ => true) = true) : ∀ k ∈ l, k.Ok := fun k hk => by
  have q := h k hk
  cases k with
  | field s => exact q
  | _ => trivial
theorem nr0 : NoRep kids0 := nr_of (by decide +kernel) (fun _ s h => by simp [kids0] at h) (fun _ s h => by simp [kids0] at h) (kid_ok (by decide +kernel))
theorem nr1 : NoRep kids1 := nr_of (by decide +kernel) (fun _ s h => by simp [kids1] at h) (fun h => by simp [kids1] at h) (kid_ok (by decide +kernel))
theorem nr2 : NoRep kids2 := nr_of (by decide +kernel) (fun h => by simp [kids2] at h) (fun _ s h => by simp [kids2] at h) (kid_ok (by decide +kernel))
theorem nr3 : NoRep kids3 := nr_of (by decide +kernel) (fun h => by simp [kids3] at h) (fun h => by simp [kids3] at h) (kid_ok (by decide +kernel))
theorem cut_lo {xs : List V} {t : Int} (h0 : 0 ≤ t) (h1 : t ≤ xs.length) : cutV xs (some t) none = xs.drop t.toNat := by
  obtain ⟨n, rfl⟩ : ∃ n : Nat, t = (n : Int) := ⟨t.toNat, by omega⟩
  unfold cutV
  rw [HT.sIx_nat, HT.sIx_none, Nat.min_eq_left (by omega), Int.toNat_natCast]
  exact List.take_of_length_le (by rw [List.length_drop]; omega)
theorem cut_hi {xs : List V} {t : Int} (h0 : 0 ≤ t) (h1 : t ≤ xs.length) : cutV xs none (some t) = xs.take t.toNat := by
  obtain ⟨n, rfl⟩ : ∃ n : Nat, t = (n : Int) := ⟨t.toNat, by omega⟩
  unfold cutV
  rw [HT.sIx_nat, HT.sIx_none, Nat.min_eq_left (by omega), Int.toNat_natCast]
  simp
theorem Paired.drop {α β : Type} {R : α → β → Prop} : ∀ {l : List α} {m : List β} (n : Nat), Paired R l m → Paired R (l.drop n) (m.drop n)
  | _, _, 0, r => r
  | _, _, _ + 1, .nil => .nil
  | _, _, n + 1, .cons _ t => Paired.drop n t
theorem Paired.take {α β : Type} {R : α → β → Prop} : ∀ {l : List α} {m : List β} (n : Nat), Paired R l m → Paired R (l.take n) (m.take n)
  | _, _, 0, _ => .nil
  | _, _, _ + 1, .nil => .nil
  | _, _, n + 1, .cons r t => .cons r (Paired.take n t)
theorem del_grow_fr {H H' H1 : Hp} {p : Addr} {o : HO} (n : H p = none) (e : Ex H' H1) : Ex (del (fr H H') p) (del (fr H (upd H1 p o)) p) := fun a u q => by
  by_cases ea : a = p
  · rw [ea, del_same] at q
    cases q
  · rw [del_ne ea] at q ⊢
    obtain ⟨m, q⟩ := fr_some q
    exact fr_get m (by rw [upd_ne ea]; exact e a u q)
theorem kid_keep {H H1 H6 : Hp} {p : Addr} {o : HO} (n : H p = none) (n1 : H1 p = none) (e : Ex H1 H6) : Ex (fr H H1) (del (fr H (upd H6 p o)) p) := fun a u q => by
  obtain ⟨m, q⟩ := fr_some q
  have ea : a ≠ p := ne_of_none q n1
  rw [del_ne ea]
  exact fr_get m (by rw [upd_ne ea]; exact e a u q)
section
variable {P : Program} {w : World} {K : PySem.W.Frag} {mg : Str → Option Value} {base : Heap}
/-! ### _law_visits -/
structure VisOk (pts : List Str) (l : List Visit) : Prop where
  nr : NoRep (l.map (·.1))
  pt : ∀ x ∈ l, x.2 ∈ pts
  le : l.length ≤ 20
def spVisits : Sp := fun vs H Q _ => ∃ (p q : Addr) (pts : List Str), vs = [.ref p, .ref q] ∧ Pool H p ∧ H q = some (.lst (pts.map V.str)) ∧ 0 < pts.length ∧ pts.length ≤ 1000 ∧
  ∀ v H' l, Ex H H' → RVisL (fr H H') v l → VisOk pts l → Q v H'
theorem sc__law_visits : FnScope ["_law_pool", "_law_points", "_law_kids", "_law_some", "_law_turn", "_law_found_here", "_law_kid"] ["_law_pool", "_law_points"] (defScope s__law_visits) := ⟨rfl, rfl, rfl, by decide +kernel, rfl, by decide +kernel, by decide +kernel⟩
theorem bi__law_visits : BindsEq "_law_visits" s__law_visits ["_law_pool", "_law_points"] := fun _ _ _ _ _ _ us hl => match us, hl with | [_, _], _ => rfl
theorem ok_visits (F : Df K mg "_law_visits" s__law_visits) (T : Txt K mg) (C__law_draw : Cal P w K mg base CX0 1 "_law_draw" spDraw) : Cal P w K mg base CX0 2 "_law_visits" spVisits := by
  refine cal0 F sc__law_visits bi__law_visits (fun vs H Q E h => ?_) (fun f cdv A outer s H vs Q E hr h => ?_)
  · obtain ⟨p, q, pts, rfl, _⟩ := h
    rfl
  · obtain ⟨p, q, pts, rfl, hp, hq, l0, l1, k⟩ := h
    refine ⟨_, (pss_cons (ps_set (i := 2) sc__law_visits.nd rfl (Or.inl rfl) (pe_lst (pa_cons (pe_tup (pa_cons pe_str (pa_cons pe_str pa_nil))) (pa_cons (pe_tup (pa_cons pe_str (pa_cons pe_int pa_nil))) (pa_cons (pe_tup (pa_cons pe_str (pa_cons pe_str pa_nil))) (pa_cons (pe_tup (pa_cons pe_str (pa_cons pe_int pa_nil))) (pa_cons (pe_tup (pa_cons pe_str (pa_cons pe_str pa_nil))) (pa_cons (pe_tup (pa_cons pe_str (pa_cons pe_int pa_nil))) pa_nil))))))))
 (pss_cons (ps_set (i := 3) sc__law_visits.nd rfl (Or.inl rfl) (pe_lst (pa_cons (pe_lst (pa_cons (pe_tup (pa_cons pe_str pa_nil)) (pa_cons (pe_tup (pa_cons pe_str pa_nil)) pa_nil))) (pa_cons (pe_lst (pa_cons (pe_tup (pa_cons pe_str (pa_cons pe_int pa_nil))) (pa_cons (pe_tup (pa_cons pe_str pa_nil)) (pa_cons (pe_tup (pa_cons pe_str (pa_cons pe_int pa_nil))) pa_nil)))) pa_nil))))
 (pss_cons (ps_expr (pe_bm PySem.F.plainAttrs_list PySem.F.slot_list_append PySem.F.type_list_append mt_append (pv 3) (pa_cons (pe_lst (pa_cons (pe_tup (pa_cons pe_str (pa_cons pe_str pa_nil))) (pa_cons (pe_tup (pa_cons pe_str pa_nil)) (pa_cons (pe_tup (pa_cons pe_str (pa_cons pe_str pa_nil))) pa_nil)))) pa_nil)))
 (Evl.pss_cut (ps_set (i := 2) sc__law_visits.nd rfl (Or.inl rfl) (pe_ix (ixl K) (pe_op op_cat (pv 3) (pe_lst (pa_cons (pv 2) (pa_cons (pv 2) pa_nil)))) (pe_k C__law_draw hr (by decide) rfl (pa_cons (pv 0) (pa_cons pe_int pa_nil))) (fun _ _ => rfl)))
 (pss_cons (ps_set (i := 4) sc__law_visits.nd rfl (Or.inl rfl) (pe_k C__law_draw hr (by decide) rfl (pa_cons (pv 0) (pa_cons (pe_callB (lnK K) rfl T.b_len (by decide +kernel) (pa_cons (pv 2) pa_nil)) pa_nil))))
 (pss_cons (ps_set (i := 5) sc__law_visits.nd rfl (Or.inl rfl) (pe_lst pa_nil))
 (pss_cons (ps_for PassesOwn.never rfl (pil K (pe_op op_cat (pe_slice (slK K) (pv 2) (po_some (pv 4)) po_none) (pe_slice (slK K) (pv 2) po_none (po_some (pv 4))))) (pg_name (i := 6) sc__law_visits.nd rfl (Or.inl rfl)) (pss_one (ps_if (pt_cmpR op_gt (pe_k C__law_draw hr (by decide) rfl (pa_cons (pv 0) (pa_cons pe_int pa_nil))) pe_int (nomark _)) (pss_one (ps_expr (pe_bm PySem.F.plainAttrs_list PySem.F.slot_list_append PySem.F.type_list_append mt_append (pv 5) (pa_cons (pe_tup (pa_cons (pv 6) (pa_cons (pe_ix (ixl K) (pv 1) (pe_k C__law_draw hr (by decide) rfl (pa_cons (pv 0) (pa_cons (pe_callB (lnK K) rfl T.b_len (by decide +kernel) (pa_cons (pv 1) pa_nil)) pa_nil))) (fun _ _ => rfl)) pa_nil))) pa_nil)))) pss_nil)))
 (pss_one (ps_ret (pv 5)))))))))), ?_⟩
    have two : ∀ {x y : V}, [x, y].length ≤ sizeLine := szl (by show 2 ≤ 100000; decide)
    have one : ∀ {x : V}, [x].length ≤ sizeLine := szl (by show 1 ≤ 100000; decide)
    refine ⟨two, fun p1 np1 => ?_⟩
    obtain ⟨H1, hH1, x0_1, h1⟩ := newH _ np1
    rw [hH1]
    clear hH1
    have f1 := np1
    refine ⟨two, fun p2 np2 => ?_⟩
    obtain ⟨H2, hH2, x1_2, h2⟩ := newH _ np2
    rw [hH2]
    clear hH2
    have x0_2 := x0_1.trans x1_2
    have f2 := ex_free x0_1 np2
    refine ⟨two, fun p3 np3 => ?_⟩
    obtain ⟨H3, hH3, x2_3, h3⟩ := newH _ np3
    rw [hH3]
    clear hH3
    have x0_3 := x0_2.trans x2_3
    have x1_3 := x1_2.trans x2_3
    have f3 := ex_free x0_2 np3
    refine ⟨two, fun p4 np4 => ?_⟩
    obtain ⟨H4, hH4, x3_4, h4⟩ := newH _ np4
    rw [hH4]
    clear hH4
    have x0_4 := x0_3.trans x3_4
    have x1_4 := x1_3.trans x3_4
    have x2_4 := x2_3.trans x3_4
    have f4 := ex_free x0_3 np4
    refine ⟨two, fun p5 np5 => ?_⟩
    obtain ⟨H5, hH5, x4_5, h5⟩ := newH _ np5
    rw [hH5]
    clear hH5
    have x0_5 := x0_4.trans x4_5
    have x1_5 := x1_4.trans x4_5
    have x2_5 := x2_4.trans x4_5
    have x3_5 := x3_4.trans x4_5
    have f5 := ex_free x0_4 np5
    refine ⟨two, fun p6 np6 => ?_⟩
    obtain ⟨H6, hH6, x5_6, h6⟩ := newH _ np6
    rw [hH6]
    clear hH6
    have x0_6 := x0_5.trans x5_6
    have x1_6 := x1_5.trans x5_6
    have x2_6 := x2_5.trans x5_6
    have x3_6 := x3_5.trans x5_6
    have x4_6 := x4_5.trans x5_6
    have f6 := ex_free x0_5 np6
    refine ⟨szl (by show 6 ≤ 100000; decide), fun p7 np7 => ?_⟩
    obtain ⟨H7, hH7, x6_7, h7⟩ := newH _ np7
    rw [hH7]
    clear hH7
    have x0_7 := x0_6.trans x6_7
    have x1_7 := x1_6.trans x6_7
    have x2_7 := x2_6.trans x6_7
    have x3_7 := x3_6.trans x6_7
    have x4_7 := x4_6.trans x6_7
    have x5_7 := x5_6.trans x6_7
    have f7 := ex_free x0_6 np7
    refine ⟨one, fun p8 np8 => ?_⟩
    obtain ⟨H8, hH8, x7_8, h8⟩ := newH _ np8
    rw [hH8]
    clear hH8
    have x0_8 := x0_7.trans x7_8
    have x1_8 := x1_7.trans x7_8
    have x2_8 := x2_7.trans x7_8
    have x3_8 := x3_7.trans x7_8
    have x4_8 := x4_7.trans x7_8
    have x5_8 := x5_7.trans x7_8
    have x6_8 := x6_7.trans x7_8
    have f8 := ex_free x0_7 np8
    refine ⟨one, fun p9 np9 => ?_⟩
    obtain ⟨H9, hH9, x8_9, h9⟩ := newH _ np9
    rw [hH9]
    clear hH9
    have x0_9 := x0_8.trans x8_9
    have x1_9 := x1_8.trans x8_9
    have x2_9 := x2_8.trans x8_9
    have x3_9 := x3_8.trans x8_9
    have x4_9 := x4_8.trans x8_9
    have x5_9 := x5_8.trans x8_9
    have x6_9 := x6_8.trans x8_9
    have x7_9 := x7_8.trans x8_9
    have f9 := ex_free x0_8 np9
    refine ⟨two, fun p10 np10 => ?_⟩
    obtain ⟨H10, hH10, x9_10, h10⟩ := newH _ np10
    rw [hH10]
    clear hH10
    have x0_10 := x0_9.trans x9_10
    have x1_10 := x1_9.trans x9_10
    have x2_10 := x2_9.trans x9_10
    have x3_10 := x3_9.trans x9_10
    have x4_10 := x4_9.trans x9_10
    have x5_10 := x5_9.trans x9_10
    have x6_10 := x6_9.trans x9_10
    have x7_10 := x7_9.trans x9_10
    have x8_10 := x8_9.trans x9_10
    have f10 := ex_free x0_9 np10
    refine ⟨two, fun p11 np11 => ?_⟩
    obtain ⟨H11, hH11, x10_11, h11⟩ := newH _ np11
    rw [hH11]
    clear hH11
    have x0_11 := x0_10.trans x10_11
    have x1_11 := x1_10.trans x10_11
    have x2_11 := x2_10.trans x10_11
    have x3_11 := x3_10.trans x10_11
    have x4_11 := x4_10.trans x10_11
    have x5_11 := x5_10.trans x10_11
    have x6_11 := x6_10.trans x10_11
    have x7_11 := x7_10.trans x10_11
    have x8_11 := x8_10.trans x10_11
    have x9_11 := x9_10.trans x10_11
    have f11 := ex_free x0_10 np11
    refine ⟨one, fun p12 np12 => ?_⟩
    obtain ⟨H12, hH12, x11_12, h12⟩ := newH _ np12
    rw [hH12]
    clear hH12
    have x0_12 := x0_11.trans x11_12
    have x1_12 := x1_11.trans x11_12
    have x2_12 := x2_11.trans x11_12
    have x3_12 := x3_11.trans x11_12
    have x4_12 := x4_11.trans x11_12
    have x5_12 := x5_11.trans x11_12
    have x6_12 := x6_11.trans x11_12
    have x7_12 := x7_11.trans x11_12
    have x8_12 := x8_11.trans x11_12
    have x9_12 := x9_11.trans x11_12
    have x10_12 := x10_11.trans x11_12
    have f12 := ex_free x0_11 np12
    refine ⟨two, fun p13 np13 => ?_⟩
    obtain ⟨H13, hH13, x12_13, h13⟩ := newH _ np13
    rw [hH13]
    clear hH13
    have x0_13 := x0_12.trans x12_13
    have x1_13 := x1_12.trans x12_13
    have x2_13 := x2_12.trans x12_13
    have x3_13 := x3_12.trans x12_13
    have x4_13 := x4_12.trans x12_13
    have x5_13 := x5_12.trans x12_13
    have x6_13 := x6_12.trans x12_13
    have x7_13 := x7_12.trans x12_13
    have x8_13 := x8_12.trans x12_13
    have x9_13 := x9_12.trans x12_13
    have x10_13 := x10_12.trans x12_13
    have x11_13 := x11_12.trans x12_13
    have f13 := ex_free x0_12 np13
    refine ⟨szl (by show 3 ≤ 100000; decide), fun p14 np14 => ?_⟩
    obtain ⟨H14, hH14, x13_14, h14⟩ := newH _ np14
    rw [hH14]
    clear hH14
    have x0_14 := x0_13.trans x13_14
    have x1_14 := x1_13.trans x13_14
    have x2_14 := x2_13.trans x13_14
    have x3_14 := x3_13.trans x13_14
    have x4_14 := x4_13.trans x13_14
    have x5_14 := x5_13.trans x13_14
    have x6_14 := x6_13.trans x13_14
    have x7_14 := x7_13.trans x13_14
    have x8_14 := x8_13.trans x13_14
    have x9_14 := x9_13.trans x13_14
    have x10_14 := x10_13.trans x13_14
    have x11_14 := x11_13.trans x13_14
    have x12_14 := x12_13.trans x13_14
    have f14 := ex_free x0_13 np14
    refine ⟨two, fun p15 np15 => ?_⟩
    obtain ⟨H15, hH15, x14_15, h15⟩ := newH _ np15
    rw [hH15]
    clear hH15
    have x0_15 := x0_14.trans x14_15
    have x1_15 := x1_14.trans x14_15
    have x2_15 := x2_14.trans x14_15
    have x3_15 := x3_14.trans x14_15
    have x4_15 := x4_14.trans x14_15
    have x5_15 := x5_14.trans x14_15
    have x6_15 := x6_14.trans x14_15
    have x7_15 := x7_14.trans x14_15
    have x8_15 := x8_14.trans x14_15
    have x9_15 := x9_14.trans x14_15
    have x10_15 := x10_14.trans x14_15
    have x11_15 := x11_14.trans x14_15
    have x12_15 := x12_14.trans x14_15
    have x13_15 := x13_14.trans x14_15
    have f15 := ex_free x0_14 np15
    refine ⟨_, rfl, .inl ⟨rfl, _, SqLo h15⟩, two, fun p16 np16 => ?_⟩
    obtain ⟨H16, hH16, x15_16, h16⟩ := newH _ np16
    rw [hH16]
    clear hH16
    have x0_16 := x0_15.trans x15_16
    have x1_16 := x1_15.trans x15_16
    have x2_16 := x2_15.trans x15_16
    have x3_16 := x3_15.trans x15_16
    have x4_16 := x4_15.trans x15_16
    have x5_16 := x5_15.trans x15_16
    have x6_16 := x6_15.trans x15_16
    have x7_16 := x7_15.trans x15_16
    have x8_16 := x8_15.trans x15_16
    have x9_16 := x9_15.trans x15_16
    have x10_16 := x10_15.trans x15_16
    have x11_16 := x11_15.trans x15_16
    have x12_16 := x12_15.trans x15_16
    have x13_16 := x13_15.trans x15_16
    have x14_16 := x14_15.trans x15_16
    have f16 := ex_free x0_15 np16
    refine ⟨one, fun p17 np17 => ?_⟩
    obtain ⟨H17, hH17, x16_17, h17⟩ := newH _ np17
    rw [hH17]
    clear hH17
    have x0_17 := x0_16.trans x16_17
    have x1_17 := x1_16.trans x16_17
    have x2_17 := x2_16.trans x16_17
    have x3_17 := x3_16.trans x16_17
    have x4_17 := x4_16.trans x16_17
    have x5_17 := x5_16.trans x16_17
    have x6_17 := x6_16.trans x16_17
    have x7_17 := x7_16.trans x16_17
    have x8_17 := x8_16.trans x16_17
    have x9_17 := x9_16.trans x16_17
    have x10_17 := x10_16.trans x16_17
    have x11_17 := x11_16.trans x16_17
    have x12_17 := x12_16.trans x16_17
    have x13_17 := x13_16.trans x16_17
    have x14_17 := x14_16.trans x16_17
    have x15_17 := x15_16.trans x16_17
    have f17 := ex_free x0_16 np17
    refine ⟨two, fun p18 np18 => ?_⟩
    obtain ⟨H18, hH18, x17_18, h18⟩ := newH _ np18
    rw [hH18]
    clear hH18
    have x0_18 := x0_17.trans x17_18
    have x1_18 := x1_17.trans x17_18
    have x2_18 := x2_17.trans x17_18
    have x3_18 := x3_17.trans x17_18
    have x4_18 := x4_17.trans x17_18
    have x5_18 := x5_17.trans x17_18
    have x6_18 := x6_17.trans x17_18
    have x7_18 := x7_17.trans x17_18
    have x8_18 := x8_17.trans x17_18
    have x9_18 := x9_17.trans x17_18
    have x10_18 := x10_17.trans x17_18
    have x11_18 := x11_17.trans x17_18
    have x12_18 := x12_17.trans x17_18
    have x13_18 := x13_17.trans x17_18
    have x14_18 := x14_17.trans x17_18
    have x15_18 := x15_17.trans x17_18
    have x16_18 := x16_17.trans x17_18
    have f18 := ex_free x0_17 np18
    refine ⟨szl (by show 3 ≤ 100000; decide), fun p19 np19 => ?_⟩
    obtain ⟨H19, hH19, x18_19, h19⟩ := newH _ np19
    rw [hH19]
    clear hH19
    have x0_19 := x0_18.trans x18_19
    have x1_19 := x1_18.trans x18_19
    have x2_19 := x2_18.trans x18_19
    have x3_19 := x3_18.trans x18_19
    have x4_19 := x4_18.trans x18_19
    have x5_19 := x5_18.trans x18_19
    have x6_19 := x6_18.trans x18_19
    have x7_19 := x7_18.trans x18_19
    have x8_19 := x8_18.trans x18_19
    have x9_19 := x9_18.trans x18_19
    have x10_19 := x10_18.trans x18_19
    have x11_19 := x11_18.trans x18_19
    have x12_19 := x12_18.trans x18_19
    have x13_19 := x13_18.trans x18_19
    have x14_19 := x14_18.trans x18_19
    have x15_19 := x15_18.trans x18_19
    have x16_19 := x16_18.trans x18_19
    have x17_19 := x17_18.trans x18_19
    have f19 := ex_free x0_18 np19
    refine ⟨p15, _, _, rfl, rfl, x15_19 _ _ h15, szlt (by show 2 < 100000; decide), ?_⟩
    have n15 : ∀ {a : Addr} {o : HO}, H14 a = some o → a ≠ p15 := fun h => ne_of_none h np15
    have m15 : ∀ {a : Addr}, H19 a ≠ none → H15 a = none → a ≠ p15 := fun h g e => by rw [e, h15] at g; cases g
    obtain ⟨H20, hH20, x14_20, h20, k20⟩ : ∃ H20, upd H19 p15 (.lst ([V.ref p10, V.ref p14] ++ [V.ref p19])) = H20 ∧ Ex H14 H20 ∧ H20 p15 = some (.lst [V.ref p10, V.ref p14, V.ref p19]) ∧ ∀ a o, a ≠ p15 → H19 a = some o → H20 a = some o :=
      ⟨_, rfl, Ex.mut x14_19 np15, upd_same, fun a o ne h => by rw [upd_ne ne]; exact h⟩
    rw [hH20]
    clear hH20
    have x0_20 := x0_14.trans x14_20
    have ne16 : p16 ≠ p15 := fun e => by rw [e, h15] at np16; cases np16
    have ne17 : p17 ≠ p15 := fun e => by rw [e, x15_16 _ _ h15] at np17; cases np17
    have ne18 : p18 ≠ p15 := fun e => by rw [e, x15_17 _ _ h15] at np18; cases np18
    have ne19 : p19 ≠ p15 := fun e => by rw [e, x15_18 _ _ h15] at np19; cases np19
    -- _law_kids = (_law_some + [_law_kids, _law_kids])[..]
    refine Evl.q_cut (M := fun σ' H' => ∃ (kp : Addr) (xs : List V) (kl : List Kid) (sp : V), σ' = [some (.ref p), some (.ref q), some (.ref kp), some sp, none, none, none] ∧ Ex H H' ∧ H' kp = some (.lst xs) ∧ Paired (RKid (fr H H')) xs kl ∧ NoRep kl ∧ 0 < kl.length ∧ kl.length ≤ 10) ?_ ?_
    · refine ⟨_, rfl, _, rfl, _, rfl, two, fun p21 np21 => ?_⟩
      obtain ⟨H21, hH21, x20_21, h21⟩ := newH _ np21
      rw [hH21]
      clear hH21
      refine ⟨p15, p21, _, _, rfl, rfl, x20_21 _ _ h20, h21, szl (by show 5 ≤ 100000; decide), fun p22 np22 => ?_⟩
      obtain ⟨H22, hH22, x21_22, h22⟩ := newH _ np22
      rw [hH22]
      clear hH22
      have x20_22 := x20_21.trans x21_22
      have x14_22 := x14_20.trans x20_22
      have x0_22 := x0_20.trans x20_22
      refine ⟨_, rfl, p, 5, rfl, hp.ex x0_22, by decide, by decide, fun u u0 u1 => ?_⟩
      obtain ⟨x, hx, hm, _⟩ := at_some (xs := [V.ref p10, V.ref p14, V.ref p19] ++ [V.ref p7, V.ref p7]) u0 u1
      refine ⟨p22, _, _, _, rfl, rfl, SqLo h22, hx, ?_⟩
      have kk : ∀ {a : Addr} {kd : Kid}, H a = none → H14 a = some (.tup (kidV kd)) → RKid (fr H H22) (.ref a) kd := fun n h => ⟨_, rfl, fr_get n (x14_22 _ _ h)⟩
      have kn : ∀ {a : Addr} {kd : Kid}, H a = none → H19 a = some (.tup (kidV kd)) → a ≠ p15 → RKid (fr H H22) (.ref a) kd := fun n h ne => ⟨_, rfl, fr_get n (x20_22 _ _ (k20 _ _ ne h))⟩
      have r3 : Paired (RKid (fr H H22)) [V.ref p1, V.ref p2, V.ref p3, V.ref p4, V.ref p5, V.ref p6] kids3 :=
        .cons (kk f1 (x1_14 _ _ h1)) (.cons (kk f2 (x2_14 _ _ h2)) (.cons (kk f3 (x3_14 _ _ h3)) (.cons (kk f4 (x4_14 _ _ h4)) (.cons (kk f5 (x5_14 _ _ h5)) (.cons (kk f6 (x6_14 _ _ h6)) .nil)))))
      simp only [List.mem_append, List.mem_cons, List.not_mem_nil, or_false, or_self] at hm
      rcases hm with (rfl | rfl | rfl) | rfl
      · exact ⟨p10, _, kids0, _, rfl, x0_22, x14_22 _ _ (x10_14 _ _ h10), .cons (kk f8 (x8_14 _ _ h8)) (.cons (kk f9 (x9_14 _ _ h9)) .nil), nr0, by decide, by decide⟩
      · exact ⟨p14, _, kids1, _, rfl, x0_22, x14_22 _ _ h14, .cons (kk f11 (x11_14 _ _ h11)) (.cons (kk f12 (x12_14 _ _ h12)) (.cons (kk f13 (x13_14 _ _ h13)) .nil)), nr1, by decide, by decide⟩
      · exact ⟨p19, _, kids2, _, rfl, x0_22, x20_22 _ _ (k20 _ _ ne19 h19), .cons (kn f16 (x16_19 _ _ h16) ne16) (.cons (kn f17 (x17_19 _ _ h17) ne17) (.cons (kn f18 (x18_19 _ _ h18) ne18) .nil)), nr2, by decide, by decide⟩
      · exact ⟨p7, _, kids3, _, rfl, x0_22, x14_22 _ _ (x7_14 _ _ h7), r3, nr3, by decide, by decide⟩
    · clear x0_20 h20 k20
      rintro σ' H1 ⟨kp, xs, kl, sv, rfl, x0_1, hk, rk, nr, kl0, kl1⟩
      have lx := Paired.len rk
      -- _law_turn, _law_found
      refine ⟨_, rfl, _, rfl, _, _, rfl, .inl ⟨_, SqLo hk, rfl⟩, p, _, rfl, hp.ex x0_1, by omega, by omega, fun t t0 t1 => ?_⟩
      refine ⟨szl (by show 0 ≤ 100000; decide), fun p2 np2 => ?_⟩
      obtain ⟨H2, hH2, x1_2, h2⟩ := newH _ np2
      rw [hH2]
      clear hH2
      have nf : H p2 = none := ex_free x0_1 np2
      -- the loop
      refine ⟨_, rfl, _, rfl, _, rfl, kp, xs, rfl, SqLo (x1_2 _ _ hk), fun p3 np3 => ?_⟩
      obtain ⟨H3, hH3, x2_3, h3⟩ := newH _ np3
      rw [hH3]
      clear hH3
      refine ⟨_, rfl, _, rfl, _, rfl, kp, xs, rfl, SqLo (x2_3 _ _ (x1_2 _ _ hk)), fun p4 np4 => ?_⟩
      obtain ⟨H4, hH4, x3_4, h4⟩ := newH _ np4
      rw [hH4]
      clear hH4
      have c1 := cutV_length xs (some t) none
      have c2 := cutV_length xs none (some t)
      refine ⟨p3, p4, _, _, rfl, rfl, x3_4 _ _ h3, h4, szl (by omega), fun p5 np5 => ?_⟩
      obtain ⟨H5, hH5, x4_5, h5⟩ := newH _ np5
      rw [hH5]
      clear hH5
      have x2_5 := (x2_3.trans x3_4).trans x4_5
      have x1_5 := x1_2.trans x2_5
      have x0_5 := x0_1.trans x1_5
      have n5 : p5 ≠ p2 := fun e => by rw [e, (x2_3.trans x3_4) _ _ h2] at np5; cases np5
      rw [cut_lo t0 (by omega), cut_hi t0 (by omega)] at h5
      generalize hrot : kl.drop t.toNat ++ kl.take t.toNat = rot
      have nrr : NoRep rot := by rw [← hrot]; exact nr.rot _
      have rr : Paired (RKid (fr H H1)) (xs.drop t.toNat ++ xs.take t.toNat) rot := by
        rw [← hrot]
        exact Paired.app (Paired.drop _ rk) (Paired.take _ rk)
      generalize hys : xs.drop t.toNat ++ xs.take t.toNat = ys at h5 rr
      have ly := Paired.len rr
      have lr : rot.length ≤ 20 := by rw [← hrot, List.length_append, List.length_drop, List.length_take]; omega
      refine ⟨p5, rfl, ⟨_, SqLo h5⟩, for_list (K := K) (a := p5) (xs := ys) (fun i σ' H' => ∃ (sel : List Visit) (zs : List V) (v6 : Option V), σ' = [some (.ref p), some (.ref q), some (.ref kp), some sv, some (.int t), some (.ref p2), v6] ∧
          Ex H1 H' ∧ H' p5 = some (.lst ys) ∧ H' p2 = some (.lst zs) ∧ Paired (RVis (del (fr H H') p2)) zs sel ∧ (sel.map (·.1)).Sublist (rot.take i) ∧ ∀ x ∈ sel, x.2 ∈ pts) ?_ ?_ ?_ ?_⟩
      · exact ⟨[], [], none, rfl, x1_5, h5, x2_5 _ _ h2, .nil, by simp, fun x h => by cases h⟩
      · rintro i σ' H' _ ⟨sel, zs, v6, _, _, h, _⟩
        exact SqLo h
      · rintro i y σ' H' hi ⟨sel, zs, v6, rfl, e1, g5, g2, rv, sl, hpt⟩
        obtain ⟨kd, hkd, rkd⟩ := Paired.get rr hi
        have hil : i < rot.length := (List.getElem?_eq_some_iff.mp hkd).1
        have hzl : zs.length ≤ 20 := by
          have a1 := Paired.len rv
          have a2 := sl.length_le
          rw [List.length_map, List.length_take] at a2
          omega
        have tk : rot.take (i + 1) = rot.take i ++ [kd] := by
          rw [List.take_add_one, hkd]
          rfl
        refine ⟨_, rfl, p, 4, rfl, (hp.ex x0_1).ex e1, by decide, by decide, fun u u0 u1 => ⟨_, _, rfl, rfl, _, rfl, if_b (fun _ => ?_) (fun _ => ?_)⟩⟩
        · -- append
          refine ⟨_, rfl, .inl ⟨rfl, _, SqLo g2⟩, _, rfl, _, rfl, _, rfl, _, rfl, _, _, rfl, .inl ⟨_, SqLo (e1 _ _ (x0_1 _ _ hq)), rfl⟩, p, _, rfl, (hp.ex x0_1).ex e1, by rw [List.length_map]; omega, by rw [List.length_map]; omega, fun j j0 j1 => ?_⟩
          obtain ⟨x, hx, hm, _⟩ := at_some (xs := pts.map V.str) j0 j1
          obtain ⟨pt, hpm, rfl⟩ := List.mem_map.mp hm
          refine ⟨q, _, _, _, rfl, rfl, SqLo (e1 _ _ (x0_1 _ _ hq)), hx, two, fun p6 np6 => ?_⟩
          obtain ⟨H6, hH6, e6, h6⟩ := newH _ np6
          rw [hH6]
          clear hH6
          have n6 : p6 ≠ p2 := fun e => by rw [e, g2] at np6; cases np6
          refine ⟨p2, zs, _, rfl, rfl, e6 _ _ g2, szlt (by omega), ?_⟩
          refine ⟨sel ++ [(kd, pt)], zs ++ [.ref p6], _, rfl, Ex.mut (e1.trans e6) np2, up_ne (e6 _ _ g5) n5, upd_same, ?_, ?_, ?_⟩
          · refine Paired.app (Paired.imp (fun _ _ r => RVis.ex (del_grow_fr nf e6) r) rv) (.cons ⟨p6, y, rfl, ?_, ?_⟩ .nil)
            · exact del_get (fr_get (ex_free (x0_1.trans e1) np6) (up_ne h6 n6)) n6
            · exact RKid.ex (kid_keep nf np2 (e1.trans e6)) rkd
          · rw [List.map_append, tk]
            exact sl.append (List.Sublist.refl _)
          · intro x hx
            rcases List.mem_append.mp hx with z | z
            · exact hpt x z
            · have e : x = (kd, pt) := by simpa using z
              rw [e]
              exact hpm
        · refine ⟨sel, zs, _, rfl, e1, g5, g2, rv, ?_, hpt⟩
          rw [tk]
          exact sl.trans (List.sublist_append_left _ _)
      · rintro σ' H' ⟨sel, zs, v6, rfl, e1, g5, g2, rv, sl, hpt⟩
        refine ⟨_, rfl, k _ _ sel (x0_1.trans e1) ⟨p2, zs, rfl, fr_get nf g2, Paired.imp (fun _ _ r => RVis.ex ex_del r) rv⟩ ⟨nrr.sub ?_ ?_, hpt, ?_⟩⟩
        · exact (sl.trans (List.take_sublist _ _)).nodup nrr.nd
        · intro z hz
          exact (sl.trans (List.take_sublist _ _)).subset hz
        · have q := sl.length_le
          rw [List.length_map, List.length_take] at q
          omega
end
end K44

namespace K44
open PySem PySem.Spec L2 LW
open Evl (Ex)
/-! ### programs laid out: each list told by its address -/
structure CaseS where
  a : Addr
  tv : V
  l : Addr
  xs : List V
  c : Case
structure RowS where
  a : Addr
  c : Addr
  nm : Str
  ks : List CaseS
/-- what is known of tuples is kept -/
def TupK (H H' : Hp) : Prop := ∀ a xs, H a = some (.tup xs) → H' a = some (.tup xs)
theorem TupK.refl (H : Hp) : TupK H H := fun _ _ h => h
theorem TupK.trans {H H1 H2 : Hp} (a : TupK H H1) (b : TupK H1 H2) : TupK H H2 := fun x xs h => b x xs (a x xs h)
theorem tupK_ex {H H' : Hp} (e : Ex H H') : TupK H H' := fun a _ h => e a _ h
theorem tupK_upd {H : Hp} {l : Addr} {xs : List V} {o : HO} (h : H l = some (.lst xs)) : TupK H (upd H l o) := fun a ys q => by
  rw [upd_ne (fun e => by rw [e, h] at q; cases q)]
  exact q
theorem RT.tk {H H' : Hp} {v : V} {t : Test} (e : TupK H H') (h : RT H v t) : RT H' v t := by
  cases h with
  | any h => exact .any (e _ _ h)
  | num h => exact .num (e _ _ h)
  | text h => exact .text (e _ _ h)
  | isI h => exact .isI (e _ _ h)
  | isS h => exact .isS (e _ _ h)
  | rcd h g => exact .rcd (e _ _ h) (e _ _ g)
  | list h => exact .list (e _ _ h)
theorem RKid.tk {H H' : Hp} {v : V} {k : Kid} (e : TupK H H') (h : RKid H v k) : RKid H' v k := by
  obtain ⟨a, rfl, h⟩ := h
  exact ⟨a, rfl, e _ _ h⟩
theorem RVis.tk {H H' : Hp} {v : V} {x : Visit} (e : TupK H H') (h : RVis H v x) : RVis H' v x := by
  obtain ⟨a, c, rfl, h, g⟩ := h
  exact ⟨a, c, rfl, e _ _ h, g.tk e⟩
structure CaseS.At (H : Hp) (k : CaseS) : Prop where
  tu : H k.a = some (.tup [k.tv, os k.c.w, .ref k.l])
  rt : RT H k.tv k.c.t
  li : H k.l = some (.lst k.xs)
  vs : Paired (RVis H) k.xs k.c.vs
theorem CaseS.At.keep {H H' : Hp} {k : CaseS} (h : k.At H) (e : TupK H H') (hl : H' k.l = H k.l) : k.At H' := ⟨e _ _ h.tu, h.rt.tk e, by rw [hl]; exact h.li, Paired.imp (fun _ _ q => RVis.tk e q) h.vs⟩
theorem CaseS.At.ex {H H' : Hp} {k : CaseS} (e : Ex H H') (h : k.At H) : k.At H' := h.keep (tupK_ex e) (by rw [h.li]; exact e _ _ h.li)
structure RowS.At (H : Hp) (r : RowS) : Prop where
  tu : H r.a = some (.tup [.str r.nm, .ref r.c])
  li : H r.c = some (.lst (r.ks.map fun k => V.ref k.a))
  ks : ∀ k ∈ r.ks, k.At H
def RowS.ls (r : RowS) : List Addr := r.c :: r.ks.map (·.l)
theorem RowS.At.keep {H H' : Hp} {r : RowS} (h : r.At H) (e : TupK H H') (hl : ∀ b ∈ r.ls, H' b = H b) : r.At H' := ⟨e _ _ h.tu, by rw [hl _ List.mem_cons_self]; exact h.li, fun k hk => (h.ks k hk).keep e (hl _ (List.mem_cons_of_mem _ (List.mem_map_of_mem hk)))⟩
theorem RowS.At.ex {H H' : Hp} {r : RowS} (e : Ex H H') (h : r.At H) : r.At H' := ⟨e _ _ h.tu, e _ _ h.li, fun k hk => (h.ks k hk).ex e⟩
structure ProgAt (H : Hp) (a : Addr) (rs : List RowS) : Prop where
  li : H a = some (.lst (rs.map fun r => V.ref r.a))
  rs : ∀ r ∈ rs, r.At H
def lsP (a : Addr) (rs : List RowS) : List Addr := a :: (rs.map RowS.ls).flatten
theorem ProgAt.keep {H H' : Hp} {a : Addr} {rs : List RowS} (h : ProgAt H a rs) (e : TupK H H') (hl : ∀ b ∈ lsP a rs, H' b = H b) : ProgAt H' a rs :=
  ⟨by rw [hl _ List.mem_cons_self]; exact h.li, fun r hr => (h.rs r hr).keep e fun b hb => hl b (List.mem_cons_of_mem _ (List.mem_flatten.mpr ⟨_, List.mem_map_of_mem hr, hb⟩))⟩
theorem ProgAt.ex {H H' : Hp} {a : Addr} {rs : List RowS} (e : Ex H H') (h : ProgAt H a rs) : ProgAt H' a rs := ⟨e _ _ h.li, fun r hr => (h.rs r hr).ex e⟩
def RowS.row (r : RowS) : Row := (r.nm, r.ks.map (·.c))
theorem CaseS.At.r {H : Hp} {k : CaseS} (h : k.At H) : RCase H (.ref k.a) k.c := ⟨k.a, k.tv, .ref k.l, rfl, h.tu, h.rt, k.l, k.xs, rfl, h.li, h.vs⟩
theorem paired_map {α β γ : Type} {R : β → γ → Prop} {f : α → β} {g : α → γ} : ∀ {l : List α}, (∀ x ∈ l, R (f x) (g x)) → Paired R (l.map f) (l.map g)
  | [], _ => .nil
  | a :: l, h => .cons (h a List.mem_cons_self) (paired_map fun x hx => h x (List.mem_cons_of_mem _ hx))
theorem RowS.At.r {H : Hp} {r : RowS} (h : r.At H) : RRow H (.ref r.a) r.row := ⟨r.a, .ref r.c, rfl, h.tu, r.c, _, rfl, h.li, paired_map fun k hk => (h.ks k hk).r⟩
theorem ProgAt.r {H : Hp} {a : Addr} {rs : List RowS} (h : ProgAt H a rs) : RProg H (.ref a) (rs.map RowS.row) := ⟨a, _, rfl, h.li, paired_map fun r hr => (h.rs r hr).r⟩
theorem RowS.At.some {H : Hp} {r : RowS} (h : r.At H) : ∀ b ∈ r.ls, ∃ xs, H b = some (.lst xs) := fun b hb => by
  rcases List.mem_cons.mp hb with rfl | hb
  · exact ⟨_, h.li⟩
  · obtain ⟨k, hk, rfl⟩ := List.mem_map.mp hb
    exact ⟨_, (h.ks k hk).li⟩
theorem ProgAt.some {H : Hp} {a : Addr} {rs : List RowS} (h : ProgAt H a rs) : ∀ b ∈ lsP a rs, ∃ xs, H b = some (.lst xs) := fun b hb => by
  rcases List.mem_cons.mp hb with rfl | hb
  · exact ⟨_, h.li⟩
  · obtain ⟨l, hl, hb⟩ := List.mem_flatten.mp hb
    obtain ⟨r, hr, rfl⟩ := List.mem_map.mp hl
    exact (h.rs r hr).some b hb
/-- lists old and new stand apart -/
theorem nd_app {α : Type} {l m : List α} (h1 : l.Nodup) (h2 : m.Nodup) (h : ∀ x ∈ l, x ∉ m) : (l ++ m).Nodup := List.nodup_append.mpr ⟨h1, h2, fun a ha b hb e => h a ha (by rw [e]; exact hb)⟩
theorem ls_snoc (rs : List RowS) (r : RowS) : ((rs ++ [r]).map RowS.ls).flatten = (rs.map RowS.ls).flatten ++ r.ls := by
  rw [List.map_append, List.flatten_append, List.map_singleton, List.flatten_singleton]
theorem split_at {α : Type} {l : List α} {i : Nat} {x : α} (h : l[i]? = some x) : ∃ l1 l2, l = l1 ++ x :: l2 ∧ l1.length = i := by
  obtain ⟨hi, rfl⟩ := List.getElem?_eq_some_iff.mp h
  refine ⟨l.take i, l.drop (i + 1), ?_, ?_⟩
  · rw [← List.drop_eq_getElem_cons hi, List.take_append_drop]
  · rw [List.length_take]
    omega
theorem ls_mid (l1 l2 : List RowS) (r : RowS) : ((l1 ++ r :: l2).map RowS.ls).flatten = (l1.map RowS.ls).flatten ++ (r.ls ++ (l2.map RowS.ls).flatten) := by
  rw [List.map_append, List.flatten_append, List.map_cons, List.flatten_cons]
/-- the bounds of programs, also bent ones -/
structure PB (m : Nat) (rows : List Row) : Prop where
  ne : 0 < rows.length
  le : rows.length ≤ 12 + m
  pt : ∀ r ∈ rows, SOk r.1 ∧ r.1 ≠ "nobody" ∧ (m < 4 → r.1 ≠ "last")
  cs : ∀ r ∈ rows, r.2.length ≤ 6 + m ∧ ∀ c ∈ r.2, c.t.Ok ∧ (∀ s, c.w = some s → SOk s) ∧ c.vs.length ≤ 20 + m ∧ ∀ x ∈ c.vs, x.1.Ok ∧ SOk x.2
theorem PB.mono {m n : Nat} {rows : List Row} (h : PB m rows) (e : m ≤ n) : PB n rows := ⟨h.ne, by have := h.le; omega, fun r hr => ⟨(h.pt r hr).1, (h.pt r hr).2.1, fun z => (h.pt r hr).2.2 (by omega)⟩, fun r hr => ⟨by have := (h.cs r hr).1; omega, fun c hc => by
  obtain ⟨h1, h2, h3, h4⟩ := (h.cs r hr).2 c hc
  exact ⟨h1, h2, by omega, h4⟩⟩⟩
end K44

namespace K44
open PySem PySem.Spec L2 LW
open Evl (Ex)
/-! ### the points' names -/
def words : List Str := ["top", "p", "left", "zz", "abcdefgh", "q", "r", "s", "t", "u", "v", "y", "aa"]
def wd (f s i : Nat) : Str := words.getD ((f + (s + 1) * i) % 13) ""
def ptsOf (f s n : Nat) : List Str := (List.range n).map (wd f s)
theorem words_inj : ∀ a < 13, ∀ b < 13, words.getD a "" = words.getD b "" → a = b := by decide +kernel
theorem words_ok : ∀ a < 13, SOk (words.getD a "") ∧ words.getD a "" ≠ "nobody" ∧ words.getD a "" ≠ "last" := by decide +kernel
theorem nd_all : ∀ f < 13, ∀ s < 12, ((List.range 12).map fun j => (f + (s + 1) * j) % 13).Nodup := by decide +kernel
theorem wd_at (f s i : Nat) : atI (words.map V.str) (((f : Int) + ((1 : Int) + (s : Int)) * ((0 : Int) + (i : Int))) % 13) = some (V.str (wd f s i)) := by
  have e : ((f : Int) + ((1 : Int) + (s : Int)) * ((0 : Int) + (i : Int))) % 13 = (((f + (s + 1) * i) % 13 : Nat) : Int) := by
    rw [Int.zero_add, Int.add_comm 1]
    exact_mod_cast rfl
  rw [e]
  refine atI_nat ?_
  have h : (f + (s + 1) * i) % 13 < 13 := Nat.mod_lt _ (by decide)
  unfold wd
  generalize (f + (s + 1) * i) % 13 = j at h
  rw [List.getElem?_map, List.getD_eq_getElem?_getD]
  have hl : words.length = 13 := rfl
  rw [List.getElem?_eq_getElem (by omega)]
  rfl
theorem pts_nd {f s n : Nat} (hf : f < 13) (hs : s < 12) (hn : n ≤ 12) : (ptsOf f s n).Nodup := by
  have h := nd_all f hf s hs
  have e : ptsOf f s n = (((List.range 12).map fun j => (f + (s + 1) * j) % 13).take n).map fun j => words.getD j "" := by
    unfold ptsOf
    rw [← List.map_take, List.take_range, Nat.min_eq_left hn, List.map_map]
    rfl
  rw [e]
  have h2 : (((List.range 12).map fun j => (f + (s + 1) * j) % 13).take n).Nodup := h.sublist (List.take_sublist _ _)
  have h3 : ∀ x ∈ (((List.range 12).map fun j => (f + (s + 1) * j) % 13).take n), x < 13 := fun x hx => by
    obtain ⟨j, _, rfl⟩ := List.mem_map.mp (List.mem_of_mem_take hx)
    exact Nat.mod_lt _ (by decide)
  generalize (((List.range 12).map fun j => (f + (s + 1) * j) % 13).take n) = l at h2 h3
  clear h e
  induction l with
  | nil => exact List.nodup_nil
  | cons a l ih =>
    rw [List.map_cons, List.nodup_cons]
    rw [List.nodup_cons] at h2
    refine ⟨fun hm => ?_, ih h2.2 fun x hx => h3 x (List.mem_cons_of_mem _ hx)⟩
    obtain ⟨b, hb, eb⟩ := List.mem_map.mp hm
    have := words_inj b (h3 b (List.mem_cons_of_mem _ hb)) a (h3 a List.mem_cons_self) eb
    subst this
    exact h2.1 hb
theorem pts_ok {f s n : Nat} : ∀ x ∈ ptsOf f s n, SOk x ∧ x ≠ "nobody" ∧ x ≠ "last" := fun x hx => by
  obtain ⟨j, _, rfl⟩ := List.mem_map.mp hx
  exact words_ok _ (Nat.mod_lt _ (by decide))
/-! ### programs -/
def CaseOk (pts : List Str) (c : Case) : Prop := c.t.Ok ∧ (∀ s, c.w = some s → SOk s) ∧ VisOk pts c.vs
structure ProgOk (rows : List Row) : Prop where
  nd : (rows.map (·.1)).Nodup
  ne : 0 < rows.length
  le : rows.length ≤ 12
  pt : ∀ x ∈ rows.map (·.1), SOk x ∧ x ≠ "nobody" ∧ x ≠ "last"
  cs : ∀ r ∈ rows, r.2.length ≤ 6 ∧ ∀ c ∈ r.2, CaseOk (rows.map (·.1)) c
section
variable {P : Program} {w : World} {K : PySem.W.Frag} {mg : Str → Option Value} {base : Heap}
def spProgram : Sp := fun vs H Q _ => ∃ (p : Addr) (m : Int), vs = [.ref p, .int m] ∧ Pool H p ∧ 0 < m ∧ m ≤ 12 ∧ ∀ a H' rs, Ex H H' → ProgAt (fr H H') a rs → (lsP a rs).Nodup → ProgOk (rs.map RowS.row) → Q (.ref a) H'
theorem sc__law_program : FnScope ["_law_pool", "_law_most", "_law_words", "_law_many", "_law_first", "_law_step", "_law_k", "_law_points", "_law_found_here", "_law_point", "_law_cases", "_law_word"] ["_law_pool", "_law_most"] (defScope s__law_program) := ⟨rfl, rfl, rfl, by decide +kernel, rfl, by decide +kernel, by decide +kernel⟩
theorem bi__law_program : BindsEq "_law_program" s__law_program ["_law_pool", "_law_most"] := fun _ _ _ _ _ _ us hl => match us, hl with | [_, _], _ => rfl
theorem ok_program (F : Df K mg "_law_program" s__law_program) (T : Txt K mg) (C__law_draw : Cal P w K mg base CX0 1 "_law_draw" spDraw) (C__law_test : Cal P w K mg base CX0 2 "_law_test" spTest)
    (C__law_visits : Cal P w K mg base CX0 2 "_law_visits" spVisits) : Cal P w K mg base CX0 3 "_law_program" spProgram := by
  refine cal0 F sc__law_program bi__law_program (fun vs H Q E h => ?_) (fun f cdv A outer s H vs Q E hr h => ?_)
  · obtain ⟨p, m, rfl, _⟩ := h
    rfl
  · obtain ⟨p, m, rfl, hp, m0, m1, k⟩ := h
    refine ⟨_, (pss_cons (ps_set (i := 2) sc__law_program.nd rfl (Or.inr rfl) (pe_lst (pa_cons pe_str (pa_cons pe_str (pa_cons pe_str (pa_cons pe_str (pa_cons pe_str (pa_cons pe_str (pa_cons pe_str (pa_cons pe_str (pa_cons pe_str (pa_cons pe_str (pa_cons pe_str (pa_cons pe_str (pa_cons pe_str pa_nil)))))))))))))))
 (pss_cons (ps_set (i := 3) sc__law_program.nd rfl (Or.inl rfl) (pe_op op_add pe_int (pe_k C__law_draw hr (by decide) rfl (pa_cons (pv 0) (pa_cons (pv 1) pa_nil)))))
 (pss_cons (ps_set (i := 4) sc__law_program.nd rfl (Or.inr rfl) (pe_k C__law_draw hr (by decide) rfl (pa_cons (pv 0) (pa_cons pe_int pa_nil))))
 (pss_cons (ps_set (i := 5) sc__law_program.nd rfl (Or.inr rfl) (pe_op op_add pe_int (pe_k C__law_draw hr (by decide) rfl (pa_cons (pv 0) (pa_cons pe_int pa_nil)))))
 (pss_cons (ps_setLc (i := 7) (own := [("_law_k", 6)]) (by rfl) sc__law_program.nd rfl rfl (sw_true rfl rfl rfl (by decide +kernel)) (pi_range1 rfl T.b_range (pa_cons (pv 3) pa_nil)) (blkOk_by (own := [("_law_k", 6)]) (N := ["_law_pool", "_law_most", "_law_words", "_law_many", "_law_first", "_law_step", "_law_k", "_law_points", "_law_found_here", "_law_point", "_law_cases", "_law_word"]) (sc := defScope s__law_program) (by decide +kernel)) (fun _ _ _ _ _ => (pg_name (i := 6) sc__law_program.nd rfl (Or.inl rfl))) (fun _ _ _ _ _ => pts_nil) (fun _ _ _ _ _ => (pe_ix (ixl K) (pv 2) (pe_op op_mod (pe_op op_add (pv 4) (pe_op op_mul (pv 5) (pv 6))) pe_int) (fun _ _ => rfl))))
 (pss_cons (ps_set (i := 8) sc__law_program.nd rfl (Or.inl rfl) (pe_lst pa_nil))
 (pss_cons (ps_for PassesOwn.never rfl (pil K (pv 7)) (pg_name (i := 9) sc__law_program.nd rfl (Or.inl rfl)) (pss_cons (ps_set (i := 10) sc__law_program.nd rfl (Or.inl rfl) (pe_lst pa_nil))
 (pss_cons (ps_for PassesOwn.never rfl (pi_range1 rfl T.b_range (pa_cons (pe_k C__law_draw hr (by decide) rfl (pa_cons (pv 0) (pa_cons pe_int pa_nil))) pa_nil)) (pg_name (i := 6) sc__law_program.nd rfl (Or.inl rfl)) (pss_cons (ps_set (i := 11) sc__law_program.nd rfl (Or.inl rfl) (pe_ix (ixl K) (pe_lst (pa_cons pe_non (pa_cons pe_str (pa_cons pe_str (pa_cons pe_str pa_nil))))) (pe_k C__law_draw hr (by decide) rfl (pa_cons (pv 0) (pa_cons pe_int pa_nil))) (fun _ _ => rfl)))
 (pss_one (ps_expr (pe_bm PySem.F.plainAttrs_list PySem.F.slot_list_append PySem.F.type_list_append mt_append (pv 10) (pa_cons (pe_tup (pa_cons (pe_k C__law_test hr (by decide) rfl (pa_cons (pv 0) pa_nil)) (pa_cons (pv 11) (pa_cons (pe_k C__law_visits hr (by decide) rfl (pa_cons (pv 0) (pa_cons (pv 7) pa_nil))) pa_nil)))) pa_nil))))))
 (pss_one (ps_expr (pe_bm PySem.F.plainAttrs_list PySem.F.slot_list_append PySem.F.type_list_append mt_append (pv 8) (pa_cons (pe_tup (pa_cons (pv 9) (pa_cons (pv 10) pa_nil))) pa_nil)))))))
 (pss_one (ps_ret (pv 8)))))))))), ?_⟩
    refine ⟨szl (by show 13 ≤ 100000; decide), fun p1 np1 => ?_⟩
    obtain ⟨H1, hH1, x0_1, h1⟩ := newH _ np1
    rw [hH1]
    clear hH1
    have f1 := np1
    refine ⟨_, rfl, _, rfl, p, m, rfl, hp.ex x0_1, m0, by omega, fun n n0 n1 => ⟨_, _, rfl, rfl, ?_⟩⟩
    refine ⟨_, rfl, p, 13, rfl, hp.ex x0_1, by decide, by decide, fun fi f0 f1' => ?_⟩
    refine ⟨_, rfl, p, 12, rfl, hp.ex x0_1, by decide, by decide, fun st s0 s1 => ⟨_, _, rfl, rfl, ?_⟩⟩
    obtain ⟨fN, rfl⟩ : ∃ x : Nat, fi = (x : Int) := ⟨fi.toNat, by omega⟩
    obtain ⟨sN, rfl⟩ : ∃ x : Nat, st = (x : Int) := ⟨st.toNat, by omega⟩
    obtain ⟨nN, rfl⟩ : ∃ x : Nat, n = (x : Int) := ⟨n.toNat, by omega⟩
    -- _law_points
    have e1 : ((1 : Int) + (nN : Int)).toNat = nN + 1 := by omega
    refine ⟨_, rfl, _, rfl, by omega, by omega, fun p2 np2 => lc_range (lo := 0) (n := ((1 : Int) + (nN : Int)).toNat) (fun i H' => Ex H1 H' ∧ H' p2 = some (.lst ((ptsOf fN sN i).map V.str))) ?_ ?_ ?_⟩
    · exact ⟨Ex.new np2, upd_same⟩
    · rintro i H' hi ⟨ex, hD⟩
      refine ⟨rfl, _, rfl, _, rfl, _, rfl, _, rfl, _, _, rfl, rfl, .inl ⟨by omega, by omega⟩, _, _, rfl, rfl, _, _, rfl, rfl, (by show (0 : Int) < 13; decide), p1, _, _, _, rfl, rfl, SqLo (ex _ _ h1), wd_at fN sN i, _, hD, ?_, Ex.mut ex np2, ?_⟩
      · unfold ptsOf
        rw [List.length_map, List.length_map, List.length_range]
        exact szlt (by omega)
      · rw [upd_same]
        unfold ptsOf
        rw [List.range_succ, List.map_append, List.map_append]
        rfl
    · rintro H2 ⟨x1_2, h2⟩
      rw [e1] at h2
      have x0_2 := x0_1.trans x1_2
      generalize hpts : ptsOf fN sN (nN + 1) = pts at h2
      have pl : pts.length = nN + 1 := by rw [← hpts]; unfold ptsOf; rw [List.length_map, List.length_range]
      have pnd : pts.Nodup := by rw [← hpts]; exact pts_nd (by omega) (by omega) (by omega)
      have pok : ∀ x ∈ pts, SOk x ∧ x ≠ "nobody" ∧ x ≠ "last" := by rw [← hpts]; exact pts_ok
      -- _law_found
      refine ⟨szl (by show 0 ≤ 100000; decide), fun p3 np3 => ?_⟩
      obtain ⟨H3, hH3, x2_3, h3⟩ := newH _ np3
      rw [hH3]
      clear hH3
      have x0_3 := x0_2.trans x2_3
      refine ⟨_, rfl, p2, rfl, ⟨_, SqLo (x2_3 _ _ h2)⟩, for_list (K := K) (a := p2) (xs := pts.map V.str) (fun i σ' H' => ∃ (rs : List RowS) (v6 v9 v10 v11 : Option V), σ' = [some (.ref p), some (.int m), some (.ref p1), some (.int ((1 : Int) + (nN : Int))), some (.int (fN : Int)), some (.int ((1 : Int) + (sN : Int))), v6, some (.ref p2), some (.ref p3), v9, v10, v11] ∧
          Ex H2 H' ∧ Dm H3 H' ∧ H' p3 = some (.lst (rs.map fun r => V.ref r.a)) ∧ (∀ r ∈ rs, r.At (fr H3 H')) ∧ ((rs.map RowS.ls).flatten).Nodup ∧ rs.map (·.nm) = pts.take i ∧ ∀ r ∈ rs, r.ks.length ≤ 6 ∧ ∀ k ∈ r.ks, CaseOk pts k.c) ?_ ?_ ?_ ?_⟩
      · exact ⟨[], none, none, none, none, rfl, x2_3, Dm.refl _, h3, nofun, List.nodup_nil, by simp, nofun⟩
      · rintro i σ' H' _ ⟨rs, v6, v9, v10, v11, _, ex, _⟩
        exact SqLo (ex _ _ h2)
      · rintro i y σ' H4 hi ⟨rs, v6, v9, v10, v11, rfl, x2_4, dm4, g3, rr, nd4, em, hc⟩
        obtain ⟨pt, hpt, rfl⟩ : ∃ pt, pts[i]? = some pt ∧ y = V.str pt := by
          rw [List.getElem?_map] at hi
          cases e : pts[i]? with
          | none => rw [e] at hi; cases hi
          | some z => rw [e] at hi; exact ⟨z, rfl, (Option.some.inj hi).symm⟩
        have tk : pts.take (i + 1) = pts.take i ++ [pt] := by rw [List.take_add_one, hpt]; rfl
        have hzl : rs.length ≤ 12 := by
          have a2 : rs.length = (pts.take i).length := by rw [← em, List.length_map]
          rw [List.length_take] at a2
          omega
        have x0_4 := x0_2.trans x2_4
        refine ⟨szl (by show 0 ≤ 100000; decide), fun p5 np5 => ?_⟩
        obtain ⟨H5, hH5, x4_5, h5⟩ := newH _ np5
        rw [hH5]
        clear hH5
        have n35 : p3 ≠ p5 := fun e => by rw [← e, g3] at np5; cases np5
        refine ⟨_, rfl, p, 4, rfl, (hp.ex x0_4).ex x4_5, by decide, by decide, fun mc c0 c1 => ⟨mc, rfl, by omega, by omega, for_range (lo := 0) (n := mc.toNat) (fun j σ' H' => ∃ (ks : List CaseS) (v6 v11 : Option V), σ' = [some (.ref p), some (.int m), some (.ref p1), some (.int ((1 : Int) + (nN : Int))), some (.int (fN : Int)), some (.int ((1 : Int) + (sN : Int))), v6, some (.ref p2), some (.ref p3), some (.str pt), some (.ref p5), v11] ∧
            Ex H4 H' ∧ Dm H5 H' ∧ H' p5 = some (.lst (ks.map fun k => V.ref k.a)) ∧ (∀ k ∈ ks, k.At (fr H5 H')) ∧ (ks.map (·.l)).Nodup ∧ ks.length = j ∧ ∀ k ∈ ks, CaseOk pts k.c) ?_ ?_ ?_⟩⟩
        · exact ⟨[], v6, v11, rfl, x4_5, Dm.refl _, h5, nofun, List.nodup_nil, rfl, nofun⟩
        · rintro j σ' H6 hj ⟨ks, v6, v11, rfl, x4_6, dm6, g5, rc, ndk, ej, hcs⟩
          have x0_6 := x0_4.trans x4_6
          refine ⟨szl (by show 4 ≤ 100000; decide), fun p7 np7 => ?_⟩
          obtain ⟨H7, hH7, x6_7, h7⟩ := newH _ np7
          rw [hH7]
          clear hH7
          have x0_7 := x0_6.trans x6_7
          refine ⟨_, rfl, p, 4, rfl, hp.ex x0_7, by decide, by decide, fun u u0 u1 => ?_⟩
          obtain ⟨x, hx, hm, _⟩ := at_some (xs := [V.non, V.str "w", V.str "x", V.str "abcdefgh"]) u0 u1
          obtain ⟨wo, rfl, hwo⟩ : ∃ wo : Option Str, x = os wo ∧ ∀ s, wo = some s → SOk s := by
            simp only [List.mem_cons, List.not_mem_nil, or_false] at hm
            rcases hm with rfl | rfl | rfl | rfl
            · exact ⟨none, rfl, fun s e => by cases e⟩
            · exact ⟨some "w", rfl, fun s e => by cases e; decide +kernel⟩
            · exact ⟨some "x", rfl, fun s e => by cases e; decide +kernel⟩
            · exact ⟨some "abcdefgh", rfl, fun s e => by cases e; decide +kernel⟩
          refine ⟨p7, _, _, _, rfl, rfl, SqLo h7, hx, ?_⟩
          refine ⟨_, rfl, .inl ⟨rfl, _, SqLo (x6_7 _ _ g5)⟩, _, rfl, p, rfl, hp.ex x0_7, fun tv H8 t x7_8 rt tok => ?_⟩
          have x0_8 := x0_7.trans x7_8
          refine ⟨_, rfl, _, rfl, _, rfl, p, p2, pts, rfl, hp.ex x0_8, (x2_4.trans (x4_6.trans (x6_7.trans x7_8))) _ _ h2, by omega, by omega, fun lv H9 l x8_9 rl vok => ?_⟩
          refine ⟨szl (by show 3 ≤ 100000; decide), fun p10 np10 => ?_⟩
          obtain ⟨H10, hH10, x9_10, h10⟩ := newH _ np10
          rw [hH10]
          clear hH10
          have x6_8 := x6_7.trans x7_8
          have x6_9 := x6_8.trans x8_9
          have x6_10 := x6_9.trans x9_10
          have dm9 : Dm H5 H9 := dm6.trans (dm_ex x6_9)
          have hyl : (ks.map fun k => V.ref k.a).length ≤ 10 := by rw [List.length_map]; omega
          refine ⟨p5, _, _, rfl, rfl, x6_10 _ _ g5, szlt (by omega), ?_⟩
          have n10 : H5 p10 = none := dm9 _ np10
          have ne10 : p10 ≠ p5 := fun e => by rw [e, h5] at n10; cases n10
          obtain ⟨la, lx, rfl, hla, rvl⟩ := rl
          obtain ⟨nla, hla9⟩ := fr_some hla
          refine ⟨ks ++ [⟨p10, tv, la, lx, ⟨t, wo, l⟩⟩], _, _, rfl, Ex.mut (x4_6.trans x6_10) np5, dm_upd (dm9.trans (dm_ex x9_10)), ?_, fun k hk => ?_, ?_, by rw [List.length_append, ej]; rfl, ?_⟩
          · rw [upd_same, List.map_append]
            rfl
          · rcases List.mem_append.mp hk with hk | hk
            · exact (rc k hk).ex ((fr_mono x6_10).trans (fr_upd h5))
            · cases List.mem_singleton.mp hk
              refine ⟨?_, ?_, ?_, ?_⟩
              · exact fr_get n10 (up_ne h10 ne10)
              · exact RT.ex (((fr_base (dm6.trans (dm_ex x6_7))).trans (fr_mono (x8_9.trans x9_10))).trans (fr_upd h5)) rt
              · exact (((fr_base (dm6.trans (dm_ex x6_8))).trans (fr_mono x9_10)).trans (fr_upd h5)) _ _ hla
              · exact Paired.imp (fun _ _ r => RVis.ex (((fr_base (dm6.trans (dm_ex x6_8))).trans (fr_mono x9_10)).trans (fr_upd h5)) r) rvl
          · rw [List.map_append]
            refine nd_app ndk (by simp) fun b hb hb2 => ?_
            obtain ⟨k, hk, rfl⟩ := List.mem_map.mp hb
            have e : k.l = la := by simpa using hb2
            have q := x6_8 _ _ (fr_some (rc k hk).li).2
            rw [e, nla] at q
            cases q
          · intro k hk
            rcases List.mem_append.mp hk with z | z
            · exact hcs k z
            · cases List.mem_singleton.mp z
              exact ⟨tok, hwo, vok⟩
        · rintro σ' H6 ⟨ks, v6, v11, rfl, x4_6, dm6, g5, rc, ndk, ej, hcs⟩
          -- _law_found.append((_law_point, _law_cases))
          refine ⟨_, rfl, .inl ⟨rfl, _, SqLo (x4_6 _ _ g3)⟩, _, rfl, _, rfl, szl (by show 2 ≤ 100000; decide), fun p7 np7 => ?_⟩
          obtain ⟨H7, hH7, x6_7, h7⟩ := newH _ np7
          rw [hH7]
          clear hH7
          have x4_7 := x4_6.trans x6_7
          refine ⟨p3, _, _, rfl, rfl, x4_7 _ _ g3, szlt (by rw [List.length_map]; omega), ?_⟩
          have d36 : Dm H3 H6 := dm4.trans (dm_ex x4_6)
          have n7 : H3 p7 = none := d36 _ np7
          have ne7 : p7 ≠ p3 := fun e => by rw [e, h3] at n7; cases n7
          have n5 : H3 p5 = none := dm4 _ np5
          refine ⟨rs ++ [⟨p7, p5, pt, ks⟩], _, _, _, _, rfl, Ex.mut (x2_4.trans x4_7) np3, dm_upd (d36.trans (dm_ex x6_7)), ?_, fun r hr' => ?_, ?_, ?_, ?_⟩
          · rw [upd_same, List.map_append]
            rfl
          · rcases List.mem_append.mp hr' with z | z
            · exact (rr r z).ex ((fr_mono x4_7).trans (fr_upd h3))
            · cases List.mem_singleton.mp z
              refine ⟨?_, ?_, fun k hk => ?_⟩
              · exact fr_get n7 (up_ne h7 ne7)
              · exact fr_get n5 (up_ne (x6_7 _ _ g5) (Ne.symm n35))
              · exact (rc k hk).ex (((fr_base (dm4.trans (dm_ex x4_5))).trans (fr_mono x6_7)).trans (fr_upd h3))
          · rw [ls_snoc]
            refine nd_app nd4 ?_ fun b hb hb2 => ?_
            · refine List.nodup_cons.mpr ⟨fun z => ?_, ndk⟩
              obtain ⟨k, hk, e⟩ := List.mem_map.mp z
              have q := (fr_some (rc k hk).li).1
              rw [e, h5] at q
              cases q
            · obtain ⟨l, hl, hb⟩ := List.mem_flatten.mp hb
              obtain ⟨r, hr', rfl⟩ := List.mem_map.mp hl
              obtain ⟨xs, hxs⟩ := (rr r hr').some b hb
              have h4 := (fr_some hxs).2
              rcases List.mem_cons.mp hb2 with e | hb2
              · rw [e, np5] at h4
                cases h4
              · obtain ⟨k, hk, e⟩ := List.mem_map.mp hb2
                have q := (fr_some (rc k hk).li).1
                rw [e, x4_5 _ _ h4] at q
                cases q
          · rw [List.map_append, em, tk]
            rfl
          · intro r hr'
            rcases List.mem_append.mp hr' with z | z
            · exact hc r z
            · cases List.mem_singleton.mp z
              exact ⟨by show ks.length ≤ 6; omega, hcs⟩
      · rintro σ' H4 ⟨rs, v6, v9, v10, v11, rfl, x2_4, dm4, g3, rr, nd4, em, hc⟩
        rw [List.length_map, List.take_length] at em
        have rl : rs.length = nN + 1 := by rw [← pl, ← em, List.length_map]
        have em2 : (rs.map RowS.row).map (·.1) = pts := by rw [← em, List.map_map]; rfl
        refine ⟨_, rfl, k _ _ rs (x0_2.trans x2_4) ⟨fr_get (ex_free x0_2 np3) g3, fun r hr' => (rr r hr').ex (fr_base (dm_ex x0_3))⟩ (List.nodup_cons.mpr ⟨fun z => ?_, nd4⟩) ⟨by rw [em2]; exact pnd, by rw [List.length_map]; omega, by rw [List.length_map]; omega, by rw [em2]; exact pok, fun r hr' => ?_⟩⟩
        · obtain ⟨l, hl, hb⟩ := List.mem_flatten.mp z
          obtain ⟨r, hr', rfl⟩ := List.mem_map.mp hl
          obtain ⟨xs, hxs⟩ := (rr r hr').some p3 hb
          have q := (fr_some hxs).1
          rw [h3] at q
          cases q
        · rw [em2]
          obtain ⟨r0, hr0, rfl⟩ := List.mem_map.mp hr'
          obtain ⟨c1, c2⟩ := hc r0 hr0
          refine ⟨by show (r0.ks.map (·.c)).length ≤ 6; rw [List.length_map]; exact c1, fun c hcm => ?_⟩
          obtain ⟨k, hk, rfl⟩ := List.mem_map.mp hcm
          exact c2 k hk
theorem pb_of {rows : List Row} (h : ProgOk rows) : PB 0 rows := ⟨h.ne, by have := h.le; omega, fun r hr => ⟨(h.pt _ (List.mem_map_of_mem hr)).1, (h.pt _ (List.mem_map_of_mem hr)).2.1, fun _ => (h.pt _ (List.mem_map_of_mem hr)).2.2⟩, fun r hr => ⟨(h.cs r hr).1, fun c hc => by
  obtain ⟨h1, h2, h3⟩ := (h.cs r hr).2 c hc
  exact ⟨h1, h2, h3.le, fun x hx => ⟨h3.nr.ok _ (List.mem_map_of_mem hx), (h.pt _ (h3.pt x hx)).1⟩⟩⟩⟩
end
end K44

namespace K44
open PySem PySem.Spec L2 LW
open Evl (Ex)
theorem del_get2 {H : Hp} {p q a : Addr} {o : HO} (h : H a = some o) (n1 : a ≠ p) (n2 : a ≠ q) : del (del H p) q a = some o := del_get (del_get h n1) n2
theorem del_sm {H : Hp} {p a : Addr} {o : HO} (h : del H p a = some o) : H a = some o ∧ a ≠ p := by
  by_cases e : a = p
  · rw [e, del_same] at h
    cases h
  · rw [del_ne e] at h
    exact ⟨h, e⟩
section
variable {P : Program} {w : World} {K : PySem.W.Frag} {mg : Str → Option Value} {base : Heap}
/-! ### _law_program_copy -/
def spCopy : Sp := fun vs H Q _ => ∃ (v : V) (rows : List Row), vs = [v] ∧ RProg H v rows ∧ rows.length ≤ 20 ∧ (∀ r ∈ rows, r.2.length ≤ 20) ∧ ∀ a H' rs, Ex H H' → ProgAt H' a rs → (lsP a rs).Nodup → (∀ b ∈ lsP a rs, H b = none) → rs.map RowS.row = rows → Q (.ref a) H'
theorem sc__law_program_copy : FnScope ["_law_program_here", "_law_found_here", "_law_row", "_law_one"] ["_law_program_here"] (defScope s__law_program_copy) := ⟨rfl, rfl, rfl, by decide +kernel, rfl, by decide +kernel, by decide +kernel⟩
theorem bi__law_program_copy : BindsEq "_law_program_copy" s__law_program_copy ["_law_program_here"] := fun _ _ _ _ _ _ us hl => match us, hl with | [_], _ => rfl
theorem ok_copy (F : Df K mg "_law_program_copy" s__law_program_copy) (T : Txt K mg) : Cal P w K mg base CX0 1 "_law_program_copy" spCopy := by
  refine cal0 F sc__law_program_copy bi__law_program_copy (fun vs H Q E h => ?_) (fun f cdv A outer s H vs Q E hr h => ?_)
  · obtain ⟨v, rows, rfl, _⟩ := h
    rfl
  · obtain ⟨v, rows, rfl, hR, hl, hcl, k⟩ := h
    obtain ⟨a, xs, rfl, ha, rr⟩ := hR
    refine ⟨_, (pss_cons (ps_set (i := 1) sc__law_program_copy.nd rfl (Or.inl rfl) (pe_lst pa_nil))
 (pss_cons (ps_for PassesOwn.never rfl (pil K (pv 0)) (pg_name (i := 2) sc__law_program_copy.nd rfl (Or.inl rfl)) (pss_one (ps_expr (pe_bm PySem.F.plainAttrs_list PySem.F.slot_list_append PySem.F.type_list_append mt_append (pv 1) (pa_cons (pe_tup (pa_cons (pe_ix (ixt K) (pv 2) pe_int (fun _ _ => rfl)) (pa_cons (pe_lc (own := [("_law_one", 3)]) (by rfl) sc__law_program_copy.nd (pil K (pe_ix (ixt K) (pv 2) pe_int (fun _ _ => rfl))) (blkOk_by (own := [("_law_one", 3)]) (N := ["_law_program_here", "_law_found_here", "_law_row", "_law_one"]) (sc := defScope s__law_program_copy) (by decide +kernel)) (fun _ _ _ _ _ => (pg_name (i := 3) sc__law_program_copy.nd rfl (Or.inl rfl))) (fun _ _ _ _ _ => pts_nil) (fun _ _ _ _ _ => (pe_tup (pa_cons (pe_ix (ixt K) (pv 3) pe_int (fun _ _ => rfl)) (pa_cons (pe_ix (ixt K) (pv 3) pe_int (fun _ _ => rfl)) (pa_cons (pe_callTy (lofK K) rfl T.b_list (by decide +kernel) (pa_cons (pe_ix (ixt K) (pv 3) pe_int (fun _ _ => rfl)) pa_nil)) pa_nil)))))) pa_nil))) pa_nil)))))
 (pss_one (ps_ret (pv 1))))), ?_⟩
    refine ⟨szl (by show 0 ≤ 100000; decide), fun p1 np1 => ?_⟩
    obtain ⟨H1, hH1, x0_1, h1⟩ := newH _ np1
    rw [hH1]
    clear hH1
    have f1 := np1
    have lx := Paired.len rr
    refine ⟨_, rfl, a, rfl, ⟨_, SqLo (x0_1 _ _ ha)⟩, for_list (K := K) (a := a) (xs := xs) (fun i σ' H' => ∃ (rs : List RowS) (v2 v3 : Option V), σ' = [some (.ref a), some (.ref p1), v2, v3] ∧ Ex H H' ∧ H' p1 = some (.lst (rs.map fun r => V.ref r.a)) ∧ (∀ r ∈ rs, r.At (del H' p1)) ∧ ((rs.map RowS.ls).flatten).Nodup ∧ (∀ b ∈ (rs.map RowS.ls).flatten, H b = none) ∧ rs.map RowS.row = rows.take i) ?_ ?_ ?_ ?_⟩
    · exact ⟨[], none, none, rfl, x0_1, h1, nofun, List.nodup_nil, nofun, by rw [List.take_zero]; rfl⟩
    · rintro i σ' H' _ ⟨rs, v2, v3, _, ex, _⟩
      exact SqLo (ex _ _ ha)
    · rintro i y σ' H2 hi ⟨rs, v2, v3, rfl, x0_2, g1, rz, nd2, fr2, em⟩
      obtain ⟨⟨pt, cs⟩, hrow, a2, l, rfl, h2, a3, ys, rfl, h3, rc⟩ := Paired.get rr hi
      have hcs : cs.length ≤ 20 := hcl (pt, cs) (List.mem_of_getElem? hrow)
      have ly := Paired.len rc
      have tk : rows.take (i + 1) = rows.take i ++ [(pt, cs)] := by rw [List.take_add_one, hrow]; rfl
      have hzl : rs.length ≤ 20 := by
        have q : rs.length = (rows.take i).length := by rw [← em, List.length_map]
        rw [List.length_take] at q
        omega
      -- _law_found.append((_law_row[0], [..]))
      refine ⟨_, rfl, .inl ⟨rfl, _, SqLo g1⟩, _, rfl, a2, _, _, _, rfl, rfl, SqTo (x0_2 _ _ h2), rfl, _, rfl, a2, _, _, _, rfl, rfl, SqTo (x0_2 _ _ h2), rfl, a3, rfl, ⟨_, SqLo (x0_2 _ _ h3)⟩, fun p3 np3 =>
        lc_list (K := K) (a := a3) (xs := ys) (fun j H' => Ex H2 H' ∧ ∃ ks : List CaseS, H' p3 = some (.lst (ks.map fun k => V.ref k.a)) ∧ (∀ k ∈ ks, k.At (del (del H' p1) p3)) ∧ (ks.map (·.l)).Nodup ∧ (∀ k ∈ ks, H2 k.l = none) ∧ ks.map (·.c) = cs.take j) ?_ ?_ ?_ ?_⟩
      · exact ⟨Ex.new np3, [], upd_same, nofun, List.nodup_nil, nofun, by rw [List.take_zero]; rfl⟩
      · rintro j H' _ ⟨ex, _⟩
        exact SqLo (ex _ _ (x0_2 _ _ h3))
      · rintro j y H4 hj ⟨x2_4, ks, g3, ru, ndk, frk, emk⟩
        obtain ⟨c, hc, a4, tv, lv, rfl, h4, rt, a5, vl, rfl, h5, rvl⟩ := Paired.get rc hj
        have x0_4 := x0_2.trans x2_4
        have tkc : cs.take (j + 1) = cs.take j ++ [c] := by rw [List.take_add_one, hc]; rfl
        have hul : ks.length ≤ 20 := by
          have q : ks.length = (cs.take j).length := by rw [← emk, List.length_map]
          rw [List.length_take] at q
          omega
        refine ⟨rfl, _, rfl, a4, _, _, _, rfl, rfl, SqTo (x0_4 _ _ h4), rfl, _, rfl, a4, _, _, _, rfl, rfl, SqTo (x0_4 _ _ h4), rfl, _, rfl, a4, _, _, _, rfl, rfl, SqTo (x0_4 _ _ h4), rfl, a5, vl, rfl, .inl (SqLo (x0_4 _ _ h5)), fun p6 np6 => ?_⟩
        obtain ⟨H6, hH6, x4_6, h6⟩ := newH _ np6
        rw [hH6]
        clear hH6
        refine ⟨szl (by show 3 ≤ 100000; decide), fun p7 np7 => ?_⟩
        obtain ⟨H7, hH7, x6_7, h7⟩ := newH _ np7
        rw [hH7]
        clear hH7
        have x4_7 := x4_6.trans x6_7
        have x2_7 := x2_4.trans x4_7
        have g1' := x2_4 _ _ g1
        have n61 : p6 ≠ p1 := fun e => by rw [e, g1'] at np6; cases np6
        have n63 : p6 ≠ p3 := fun e => by rw [e, g3] at np6; cases np6
        have n71 : p7 ≠ p1 := fun e => by rw [e, x4_6 _ _ g1'] at np7; cases np7
        have n73 : p7 ≠ p3 := fun e => by rw [e, x4_6 _ _ g3] at np7; cases np7
        refine ⟨_, x4_7 _ _ g3, szlt (by rw [List.length_map]; omega), Ex.mut x2_7 np3, ks ++ [⟨p7, tv, p6, vl, c⟩], ?_, fun k hk => ?_, ?_, fun k hk => ?_, ?_⟩
        · rw [upd_same, List.map_append]
          rfl
        · have eH : Ex H (del (del (upd H7 p3 (.lst ((ks.map fun k => V.ref k.a) ++ [.ref p7]))) p1) p3) := ex_of_del (ex_of_del (Ex.mut (x0_2.trans x2_7) (ex_free x0_2 np3)) np1) (ex_free x0_2 np3)
          rcases List.mem_append.mp hk with hk | hk
          · refine (ru k hk).ex fun b o q => ?_
            obtain ⟨q, e3⟩ := del_sm q
            obtain ⟨q, e1⟩ := del_sm q
            exact del_get2 (up_ne (x4_7 _ _ q) e3) e1 e3
          · cases List.mem_singleton.mp hk
            exact ⟨del_get2 (up_ne h7 n73) n71 n73, rt.ex eH, del_get2 (up_ne (x6_7 _ _ h6) n63) n61 n63, Paired.imp (fun _ _ r => RVis.ex eH r) rvl⟩
        · rw [List.map_append]
          refine nd_app ndk (by simp) fun b hb hb2 => ?_
          obtain ⟨k, hk, rfl⟩ := List.mem_map.mp hb
          have e : k.l = p6 := by simpa using hb2
          have q := (del_sm (del_sm (ru k hk).li).1).1
          rw [e, np6] at q
          cases q
        · rcases List.mem_append.mp hk with hk | hk
          · exact frk k hk
          · cases List.mem_singleton.mp hk
            exact ex_free x2_4 np6
        · rw [List.map_append, emk, tkc]
          rfl
      · rintro H4 ⟨x2_4, ks, g3, ru, ndk, frk, emk⟩
        have lq : cs.take ys.length = cs := by rw [ly, List.take_length]
        rw [lq] at emk
        refine ⟨szl (by show 2 ≤ 100000; decide), fun p5 np5 => ?_⟩
        obtain ⟨H5, hH5, x4_5, h5⟩ := newH _ np5
        rw [hH5]
        clear hH5
        have x2_5 := x2_4.trans x4_5
        have n31 : p3 ≠ p1 := fun e => by rw [e, g1] at np3; cases np3
        have n51 : p5 ≠ p1 := fun e => by rw [e, x2_4 _ _ g1] at np5; cases np5
        refine ⟨p1, _, _, rfl, rfl, x2_5 _ _ g1, szlt (by rw [List.length_map]; omega), rs ++ [⟨p5, p3, pt, ks⟩], _, _, rfl, Ex.mut (x0_2.trans x2_5) np1, ?_, fun r hr' => ?_, ?_, fun b hb => ?_, ?_⟩
        · rw [upd_same, List.map_append]
          rfl
        · rcases List.mem_append.mp hr' with z | z
          · exact (rz r z).ex (del_grow x2_5)
          · cases List.mem_singleton.mp z
            exact ⟨del_get (up_ne h5 n51) n51, del_get (up_ne (x4_5 _ _ g3) n31) n31, fun k hk => (ru k hk).ex (ex_del.trans (del_grow x4_5))⟩
        · rw [ls_snoc]
          refine nd_app nd2 (List.nodup_cons.mpr ⟨fun z => ?_, ndk⟩) fun b hb hb2 => ?_
          · obtain ⟨k, hk, e⟩ := List.mem_map.mp z
            exact (del_sm (ru k hk).li).2 e
          · obtain ⟨l, hl, hb⟩ := List.mem_flatten.mp hb
            obtain ⟨r, hr', rfl⟩ := List.mem_map.mp hl
            obtain ⟨xs, hxs⟩ := (rz r hr').some b hb
            have q := (del_sm hxs).1
            rcases List.mem_cons.mp hb2 with e | hb2
            · rw [e, np3] at q
              cases q
            · obtain ⟨k, hk, e⟩ := List.mem_map.mp hb2
              have := frk k hk
              rw [e, q] at this
              cases this
        · rw [ls_snoc] at hb
          rcases List.mem_append.mp hb with hb | hb
          · exact fr2 b hb
          · rcases List.mem_cons.mp hb with e | hb
            · rw [e]
              exact ex_free x0_2 np3
            · obtain ⟨k, hk, e⟩ := List.mem_map.mp hb
              rw [← e]
              exact ex_free x0_2 (frk k hk)
        · rw [List.map_append, em, tk]
          show _ ++ [(pt, ks.map (·.c))] = _
          rw [emk]
    · rintro σ' H2 ⟨rs, v2, v3, rfl, x0_2, g1, rz, nd2, fr2, em⟩
      rw [lx, List.take_length] at em
      refine ⟨_, rfl, k p1 H2 rs x0_2 ⟨g1, fun r hr' => (rz r hr').ex ex_del⟩ (List.nodup_cons.mpr ⟨fun z => ?_, nd2⟩) (fun b hb => ?_) em⟩
      · obtain ⟨l, hl, hb⟩ := List.mem_flatten.mp z
        obtain ⟨r, hr', rfl⟩ := List.mem_map.mp hl
        obtain ⟨xs, hxs⟩ := (rz r hr').some p1 hb
        exact (del_sm hxs).2 rfl
      · rcases List.mem_cons.mp hb with e | hb
        · rw [e]
          exact np1
        · exact fr2 b hb
end
end K44

namespace LW
open PySem PySem.Spec L2
open Evl (Ex)
/-! ### exception classes of the program, with an __init__ of their own -/
def oexB (K : PySem.W.Frag) (C : Addr) : Bool := (match K.lookup C with
  | some ⟨.type "type", _, .cls cd, sl⟩ => (match cd.mro, sl.toList with
    | .ref C' :: bm, [_, _, _, _, some (.builtin n), _] => C' == C && n == "ValueError.__new__" && !cd.hasDel && PySem.HandSPX.refsVE bm && cd.hasDict
    | _, _ => false)
  | _ => false) && (He.eqO (PySem.W.findIn K (.ref C) "__setattr__") (some (some (.builtin "object.__setattr__"))) && (decide (PySem.W.subIn K (.ref C) (.type "BaseException") = some true) && (decide (PySem.W.typeIn K (.ref C) = some (.type "type")) && PySem.W.keepIn K (.ref C))))
theorem oexB_ok {K : PySem.W.Frag} {C : Addr} (h : oexB K C = true) : OexC K C := by
  obtain ⟨q, h⟩ := He.ba h
  obtain ⟨h1, h⟩ := He.ba h
  obtain ⟨h2, h⟩ := He.ba h
  obtain ⟨h3, h4⟩ := He.ba h
  refine ⟨?_, He.eqO_ok h1, of_decide_eq_true h2, of_decide_eq_true h3, h4⟩
  split at q
  · rename_i dd cd sl ho
    split at q
    · rename_i C' bm k0 k1 k2 k3 n k5 hm hs
      simp only [Bool.and_eq_true, beq_iff_eq, Bool.not_eq_true'] at q
      obtain ⟨⟨⟨⟨rfl, rfl⟩, hdel⟩, ht⟩, hdd⟩ := q
      obtain ⟨nm, bs, mro, ns, qn, hd, sn, sub, ab, col, del⟩ := cd
      dsimp only at hm hdel hdd
      subst hm hdel hdd
      have hsl : sl = #[k0, k1, k2, k3, some (.builtin "ValueError.__new__"), k5] := by
        obtain ⟨l⟩ := sl
        simp only at hs
        rw [hs]
      subst hsl
      exact ⟨nm, qn, ns, bs, bm, sn, sub, ab, col, dd, k0, k1, k2, k3, k5, ho, ht⟩
    · cases q
  · cases q
def excB (K : PySem.W.Frag) (D : Addr) : Bool := xfB K D && (He.eqO (PySem.W.findIn K (.ref D) "__class__") (some (some (.builtin "object.__class__"))) && (He.eqO (PySem.W.specialIn K (.builtin "object.__class__") "__get__") (some (some (.builtin "getset_descriptor.__get__"))) &&
  (decide (PySem.W.takesIn K (.builtin "object.__class__") = some true) && (decide (PySem.W.mroIn K D (.type "object") = some true) && (PySem.W.clsIn K D).isSome))))
structure ExcD (K : PySem.W.Frag) (D : Addr) : Prop where
  xf : XfC K D
  ha : PySem.W.findIn K (.ref D) "__class__" = some (some (.builtin "object.__class__"))
  hn : PySem.W.specialIn K (.builtin "object.__class__") "__get__" = some (some (.builtin "getset_descriptor.__get__"))
  ht : PySem.W.takesIn K (.builtin "object.__class__") = some true
  hm : PySem.W.mroIn K D (.type "object") = some true
  hc : (PySem.W.clsIn K D).isSome = true
theorem excB_ok {K : PySem.W.Frag} {D : Addr} (h : excB K D = true) : ExcD K D := by
  obtain ⟨h1, h⟩ := He.ba h
  obtain ⟨h2, h⟩ := He.ba h
  obtain ⟨h3, h⟩ := He.ba h
  obtain ⟨h4, h⟩ := He.ba h
  obtain ⟨h5, h6⟩ := He.ba h
  exact ⟨xfB_ok h1, He.eqO_ok h2, He.eqO_ok h3, of_decide_eq_true h4, of_decide_eq_true h5, h6⟩
/-- isinstance(e, c), e the exception that the suite holds (with a dict of its own or without) -/
def rIsX (K : PySem.W.Frag) (cls : Value) (d : Option Addr) (a : Addr) : List V → Hp → VK → Prop := fun xs H Q => ∃ (D : Addr) (c : V) (cv : Value) (b : Bool), xs = [.ref a, c] ∧ cls = .ref D ∧ ExcD K D ∧ (∀ dd, d = some dd → ∃ fs, H dd = some (.xd fs)) ∧ ClsV c cv ∧ PySem.W.kitOne K (.ref D) cv = some b ∧ Q (.bl b) H
theorem call_isX {X : Cx} {a : Addr} {oe : Obj} {cls : Value} {d : Option Addr} {pn : List (Addr × Obj)} (hz : Zc cls d oe) (hf : ∃ vs, oe.data = .fields vs) : CallR (X.suite a ((a, oe) :: pn)) (.builtin "isinstance") (rIsX X.K cls d a) := by
  intro pins s σ H xs us Q I r h
  obtain ⟨D, c, cv, b, rfl, rfl, C, hdd, kc, e, q⟩ := h
  obtain ⟨u1, u2, rfl, r1, r2⟩ := vals2 r
  cases r1
  have ec := kc.eq r2
  subst ec
  obtain ⟨hget, _⟩ := I.pin (a, oe) (List.mem_append.mpr (.inl List.mem_cons_self))
  obtain ⟨vs, hv⟩ := hf
  have J : ∃ od, PySem.W.InstAt s.heap a oe D od := by
    cases d with
    | none => exact ⟨none, hget, hz.1, by unfold PySem.W.notCls; rw [hv] <;> rfl, by rw [hz.2]; trivial⟩
    | some dd =>
      obtain ⟨fs, hfs⟩ := hdd dd rfl
      obtain ⟨mA, hns, _⟩ := (show ObjOk X.prog X.w H s.heap dd (.xd fs) from I.hok dd _ hfs)
      obtain ⟨od, ho, _⟩ := lookIn_ns hns
      exact ⟨some od, hget, hz.1, by unfold PySem.W.notCls; rw [hv] <;> rfl, by rw [hz.2]; exact ho⟩
  obtain ⟨od, J⟩ := J
  exact PySem.W.kia_one (PySem.W.kitx_exc C.hc C.xf.ga C.xf.gg C.xf.exC C.ha C.hn C.ht C.hm) I.kIn J e (fun z => nomatch z) fun tk => ⟨.bl b, H, I.kept (t' := tk) fun _ _ z => z, rfl, q⟩
/-- e.f in the suite, K told, the class found at the reading -/
def tXg (K : PySem.W.Frag) (a : Addr) (cls : Value) (d : Option Addr) (f : Str) (te : TE) : TE := fun σ H Q => te σ H fun x H1 => x = .ref a ∧ ∃ (C dd : Addr) (fs : List (Str × V)) (v : V), cls = .ref C ∧ XfC K C ∧ PySem.W.findIn K (.ref C) f = some none ∧ d = some dd ∧ H1 dd = some (.xd fs) ∧ fs.lookup f = some v ∧ Q v H1
theorem pe_xg {X : Cx} {a : Addr} {oe : Obj} {cls : Value} {d : Option Addr} {pn : List (Addr × Obj)} {e : Expr} {te : TE} {pos : Pos} {n : Str}
    (hz : Zc cls d oe) (hf : ∃ vs, oe.data = .fields vs) (he : PE (X.suite a ((a, oe) :: pn)) e te) (hb : attributeBase e n X.env (eval e X.env) = eval e X.env := by rfl) :
    PE (X.suite a ((a, oe) :: pn)) (.Attribute e n pos) (tXg X.K a cls d n te) := by
  refine ⟨fun pins s σ H Q I h => ?_⟩
  have h' : ∃ C, te σ H fun x H1 => x = .ref a ∧ ∃ (C dd : Addr) (fs : List (Str × V)) (v : V), cls = .ref C ∧ XfC X.K C ∧ PySem.W.findIn X.K (.ref C) n = some none ∧ d = some dd ∧ H1 dd = some (.xd fs) ∧ fs.lookup n = some v ∧ Q v H1 := ⟨a, h⟩
  refine attr_of hb (thn (he.run pins s σ H _ I h) fun u s1 hh => ?_)
  obtain ⟨x, H1, I1, rx, ex, C, dd, fs, v, ec, T, hno, ed, ea, l, q⟩ := hh
  subst ex
  obtain rfl : u = Value.ref a := rx
  subst ec
  subst ed
  obtain ⟨ha, _⟩ := I1.pin (a, oe) (List.mem_append_left _ List.mem_cons_self)
  obtain ⟨vs, hd⟩ := hf
  have hx : ObjOk X.prog X.w H1 s1.heap dd (.xd fs) := I1.hok dd _ ea
  obtain ⟨mA, hns, hr⟩ := hx
  obtain ⟨od, ho, hl⟩ := lookIn_ns hns
  obtain ⟨u, hu, ru⟩ := RelO.some_of (v := v) (o := mA n) (by rw [← l]; exact hr n)
  have J : PySem.W.InstAt s1.heap a oe C (some od) := ⟨ha, hz.1, by unfold PySem.W.notCls; rw [hd] <;> rfl, by rw [hz.2]; exact ho⟩
  exact HandSPX.exc_get I1.kIn J T.ga T.gg T.exC (PySem.W.findObj_own T.hdC hno rfl (by rw [hl, hu])) (handed_of ru) ⟨v, H1, I1.tok _, ru, q⟩
/-! ### __init__ of such a class: self.f = f, one field -/
structure XCl (K : PySem.W.Frag) (mg : Str → Option Value) (x : Str) (C : Addr) : Prop where
  gC : mg x = some (.ref C)
  ox : OexC K C
  xd : ExcD K C
/-- what __init__ promises: the new exception at a gets its dict -/
def spXI (K : PySem.W.Frag) (C : Addr) (f : Str) : Sp := fun vs H Q _ => ∃ (a : Addr) (v : V), vs = [.ref a, v] ∧ H a = some (exo a C none) ∧ ∀ dx, H dx = none → dx ≠ a → Q .non (upd (upd H dx (exd dx [(f, v)])) a (exo a C (some dx)))
/-- the class's maker -/
structure XMk (P : Program) (w : World) (K : PySem.W.Frag) (mg : Str → Option Value) (base : Heap) (k : Nat) (x : Str) (C : Addr) (f : Str) : Prop where
  cl : XCl K mg x C
  ex : ∃ (fI : Addr) (fd : FuncData) (ps : List Str), PySem.W.findIn K (.ref C) "__init__" = some (some (.ref fI)) ∧ PySem.W.typeIn K (.ref fI) = some (.type "function") ∧ FnOk P w K mg base CX0 k fI fd ps (spXI K C f) ∧ Binds K fd ps []
  no : PySem.W.findIn K (.ref C) f = some none
section
variable {X : Cx} {k j : Nat} {C : Addr} {x f : Str} {e : Expr} {ta : TA} {p pos pos2 : Pos}
theorem pmk_x (M : XMk X.prog X.w X.K X.mg X.base k x C f) (hr : Room j X.A) (hj : k + 1 ≤ j) (hg : Gl X x) (ha : PA X [e] ta) (hdb : (x == ("__debug__" : Str)) = false := by decide)
    (he : starEach [e] X.env = (false, eval e X.env) :: starEach [] X.env := by rfl) (hpl : (backTo pos (starEach [] X.env)).any (·.1) = false := by rfl) : PMk X (.Call (.Name x p) [e] [] pos) (tMkO C (spXI X.K C f) [] ta) := by
  obtain ⟨fI, fd, ps, iC, tI, F1, hb⟩ := M.ex
  exact pmk_oex M.cl.ox iC tI F1 (hr.mono hj) hb .nil (pass0) hg M.cl.gC ha hdb he hpl
end
/-- what the making leaves: a new dict with the field -/
theorem xmk_go {K : PySem.W.Frag} {C : Addr} {f : Str} {v : V} {H1 : Hp} {Q : XK} (h : ∀ d H2, H1 d = none → Ex H1 H2 → H2 d = some (.xd [(f, v)]) → Q (.ref C) (some d) H2) :
    [v].length ≤ 1000 ∧ ∀ a, H1 a = none → spXI K C f (.ref a :: ([v] ++ [])) (upd H1 a (exo a C none)) (fun v' H2 => v' = .non ∧ ∃ (d : Addr) (fs : List (Str × V)), H2 a = some (exo a C (some d)) ∧ H2 d = some (exd d fs) ∧ H1 d = none ∧ Q (.ref C) (some d) (upd (del H2 a) d (.xd fs))) (fun _ _ _ => False) := by
  refine ⟨by show 1 ≤ 1000; decide, fun a na => ⟨a, v, rfl, upd_same, fun dx ndx ne => ?_⟩⟩
  rw [upd_ne ne] at ndx
  refine ⟨rfl, dx, [(f, v)], upd_same, by rw [upd_ne ne, upd_same], ndx, h dx _ ndx (fun b o q => ?_) upd_same⟩
  have hb : b ≠ a := ne_of_none q na
  rw [upd_ne (ne_of_none q ndx), del_ne hb, upd_ne hb, upd_ne (ne_of_none q ndx), upd_ne hb]
  exact q
/-! ### methods of a class -/
structure Mt (P : Program) (w : World) (K : PySem.W.Frag) (mg : Str → Option Value) (base : Heap) (CX : CXT) (k : Nat) (C : Addr) (m : Str) (sp : Sp) : Prop where
  ex : ∃ (g : Addr) (fd : FuncData) (ps : List Str), Cls K C ∧ Meth K C m g ∧ FnOk P w K mg base CX k g fd ps sp ∧ Binds K fd ps []
/-- a method as the top leaves it -/
structure Dm_ (K : PySem.W.Frag) (C : Addr) (m qual : Str) (st : Stmt) : Prop where
  ex : ∃ (g : Addr) (fd : FuncData), FunD K m qual (defArgs st) (defBody st) (defScope st) [] [] g fd ∧ Meth K C m g
def BindsM (m qual : Str) (st : Stmt) (ps : List Str) : Prop := ∀ (kV doc pm : Value) (an : Option Addr) (cdv ct : Value) (us : List Value), us.length = ps.length →
  bindArgs (PySem.W.fnOf m qual (defArgs st) (defBody st) (defScope st) .none kV doc pm an cdv ct) ⟨us, []⟩ = pure (ps.zip us)
section
variable {P : Program} {w : World} {K : PySem.W.Frag} {mg : Str → Option Value} {base : Heap} {C : Addr} {m qual : Str} {st : Stmt} {N ps : List Str} {k : Nat} {sp : Sp}
theorem mt0 (c : Cls K C) (F : Dm_ K C m qual st) (S : FnScope N ps (defScope st)) (hb : BindsM m qual st ps) (len : ∀ vs H Q E, sp vs H Q E → vs.length = ps.length)
    (hbody : ∀ (f : Addr) (cdv : Value) (A : Around) (outer : List Env) (s : Shared) (H : Hp) (vs : List V) (Q : VK) (E : XK), Room k (A.deeper (PyProof.Rows.envOfC qual (defScope st) s.heap.objs.size f cdv)) → sp vs H Q E →
      ∃ t, PSs (cxOf CX0 P w K mg base N qual (defScope st) f cdv A outer s H E).nox (defBody st) t ∧ t { nx := fun _ H' => Q .non H', rt := Q } (start N vs) H) : Mt P w K mg base CX0 (k + 1) C m sp := by
  obtain ⟨g, fd, F, hm⟩ := F.ex
  exact ⟨g, fd, ps, c, hm, F.ok S len (fun cdv A outer s H vs Q E hr h => by
    obtain ⟨t, h1, h2⟩ := hbody g cdv A outer s H vs Q E hr h
    exact ⟨t, h1.nox, h2⟩), F.bindsN hb⟩
theorem mtX (c : Cls K C) (F : Dm_ K C m qual st) (S : FnScope N ps (defScope st)) (hb : BindsM m qual st ps) (len : ∀ vs H Q E, sp vs H Q E → vs.length = ps.length)
    (hbody : ∀ (f : Addr) (cdv : Value) (A : Around) (outer : List Env) (s : Shared) (H : Hp) (vs : List V) (Q : VK) (E : XK), Room k (A.deeper (PyProof.Rows.envOfC qual (defScope st) s.heap.objs.size f cdv)) → sp vs H Q E →
      ∃ t, PSs (cxOf (L2.CX P w) P w K mg base N qual (defScope st) f cdv A outer s H E) (defBody st) t ∧ t { nx := fun _ H' => Q .non H', rt := Q } (start N vs) H) : Mt P w K mg base (L2.CX P w) (k + 1) C m sp := by
  obtain ⟨g, fd, F, hm⟩ := F.ex
  exact ⟨g, fd, ps, c, hm, F.ok S len (fun cdv A outer s H vs Q E hr h => hbody g cdv A outer s H vs Q E hr h), F.bindsN hb⟩
/-- X(e): an instance, its __init__ by the promise sp -/
structure Mkr (P : Program) (w : World) (K : PySem.W.Frag) (mg : Str → Option Value) (base : Heap) (CX : CXT) (k : Nat) (x : Str) (C : Addr) (sp : Sp) : Prop where
  ex : ∃ (f : Addr) (fd : FuncData) (ps : List Str), Mk K C f ∧ FnOk P w K mg base CX k f fd ps sp ∧ mg x = some (.ref C) ∧ Binds K fd ps []
end
section
variable {X : Cx} {CX : CXT} {k j : Nat} {C : Addr} {m x : Str} {sp : Sp} {E : XK} {o e : Expr} {es : List Expr} {to : TE} {t : TA} {p apos pos : Pos} {pl : Sem Bool}
/-- o.m(e, ..), what is raised passing as E -/
theorem pe_mx (c : Mt X.prog X.w X.K X.mg X.base CX k C m sp) (hr : Room j X.A) (hk : k ≤ j) (hx : Passes CX X E) (he : PE X o to) (ha : PA X (e :: es) t)
    (hst : starEach (e :: es) X.env = (false, eval e X.env) :: starEach es X.env := by rfl) (hpl : (backTo pos (starEach es X.env)).any (·.1) = false := by rfl)
    (ht : eval (.Call (.Attribute o m apos) (e :: es) [] pos) X.env = (do
      let ov ← eval o X.env
      standAt apos.atName
      let (f, first) ← holding [ov] (getMethod ov m pl)
      callWith pos f first (backTo pos (starEach (e :: es) X.env)) (backToKw pos (keywordEach [] X.env))) := by rfl) :
    PE X (.Call (.Attribute o m apos) (e :: es) [] pos) (tMeth C m sp [] E to t) := by
  obtain ⟨g, fd, ps, cl, hm, F, b⟩ := c.ex
  exact pe_meth (pl := pl) he cl hm F (hr.mono hk) b .nil hx ha hst hpl ht
theorem pe_mkr (c : Mkr X.prog X.w X.K X.mg X.base CX k x C sp) (hr : Room j X.A) (hk : k + 1 ≤ j) (hx : Passes CX X E) (hg : Gl X x) (ha : PA X (e :: es) t)
    (hdb : (x == ("__debug__" : Str)) = false := by decide) (he : starEach (e :: es) X.env = (false, eval e X.env) :: starEach es X.env := by rfl) (hpl : (backTo pos (starEach es X.env)).any (·.1) = false := by rfl) :
    PE X (.Call (.Name x p) (e :: es) [] pos) (tMake C sp [] E t) := by
  obtain ⟨f, fd, ps, M, F, hm, b⟩ := c.ex
  exact pe_make M F (hr.mono hk) hg hm b .nil hx ha hdb he hpl
/-- f(e, ..), what is raised wished for at the slots -/
theorem pe_kS {W : WX} (c : Cal X.prog X.w X.K X.mg X.base (L2.CX X.prog X.w) k x sp) (hr : Room j X.A) (hk : k ≤ j) (tk : Takes X W) (hg : Gl X x) (ha : PA X (e :: es) t)
    (hdb : (x == ("__debug__" : Str)) = false := by decide) (he : starEach (e :: es) X.env = (false, eval e X.env) :: starEach es X.env := by rfl) (hpl : (backTo pos (starEach es X.env)).any (·.1) = false := by rfl) :
    PE X (.Call (.Name x p) (e :: es) [] pos) (tCallS sp (WE W) t) := by
  obtain ⟨f, fd, ps, F, hm, kp, b⟩ := c.ex
  exact pe_callS F (hr.mono hk) hg hm kp b (fun σ => passAt tk σ) ha hdb he hpl
end
end LW

namespace K44
open PySem PySem.Spec L2 LW
open Evl (Ex)
theorem ret_b {b c : Bool} {H : Hp} {Q : VK} (e : b = c) (h : Q (.bl c) H) : Q (.bl b) H := by
  rw [e]
  exact h
theorem inV_strs (z : Str) : ∀ l : List Str, inV (.str z) (l.map V.str) = l.contains z
  | [] => rfl
  | a :: l => by
    have ih := inV_strs z l
    unfold inV at ih ⊢
    rw [List.map_cons, List.any_cons, List.contains_cons, ih]
    congr 1
    exact BEq.comm
theorem flat_strs : ∀ l : List Str, (l.map V.str).all flatV = true
  | [] => rfl
  | a :: l => by rw [List.map_cons, List.all_cons, flat_strs l]; rfl
theorem at_zero {x : V} {l : List V} : atI (x :: l) 0 = some x := atI_nat (j := 0) rfl
theorem str_ne {a b : Str} (h : a ≠ b) : decide (V.str a = V.str b) = false := decide_eq_false fun e => h (V.str.inj e)
theorem str_at {l : List Str} {i : Nat} {y : V} (h : (l.map V.str)[i]? = some y) : ∃ z, l[i]? = some z ∧ y = V.str z := by
  rw [List.getElem?_map] at h
  cases e : l[i]? with
  | none => rw [e] at h; cases h
  | some z => rw [e] at h; exact ⟨z, rfl, (Option.some.inj h).symm⟩
def kidW : Kid → Str
  | .field _ => "field"
  | .item _ => "item"
  | .fields => "fields"
  | .items => "items"
theorem kid_ne {k1 k2 : Kid} (h : k1 ≠ k2) : PyData.eqv k1.d k2.d = false := by
  cases k1 <;> cases k2 <;> first
    | exact absurd rfl h
    | (simp only [Kid.d, PyData.eqv, PyData.eqvAll]; decide +kernel)
    | (simp only [Kid.d, PyData.eqv, PyData.eqvAll]
       simp only [ne_eq, Kid.field.injEq, Kid.item.injEq] at h
       simp [h])
theorem kid_lay {k : Kid} (h : k.Ok) : PyData.canLay0 k.d = true := by
  cases k with
  | field s =>
    have h' : PyData.strOk s = true := h
    simp only [Kid.d, PyData.canLay0, PyData.canLayAll0, h']
    decide +kernel
  | item i => simp only [Kid.d, PyData.canLay0, PyData.canLayAll0]; decide +kernel
  | fields => simp only [Kid.d, PyData.canLay0, PyData.canLayAll0]; decide +kernel
  | items => simp only [Kid.d, PyData.canLay0, PyData.canLayAll0]; decide +kernel
theorem kid_depth (k : Kid) : k.d.depth ≤ 2 := by
  cases k <;> simp [Kid.d, PyData.depth, PyData.depthAll]
theorem lay_all {β : Type} {f : β → PyData} : ∀ {l : List β}, (∀ x ∈ l, PyData.canLay0 (f x) = true) → PyData.canLayAll0 (l.map f) = true
  | [], _ => rfl
  | a :: l, h => by
    rw [List.map_cons, PyData.canLayAll0, h a List.mem_cons_self, lay_all (l := l) fun x hx => h x (List.mem_cons_of_mem _ hx)]
    rfl
theorem depth_all {β : Type} {f : β → PyData} {n : Nat} : ∀ {l : List β}, (∀ x ∈ l, (f x).depth ≤ n) → PyData.depthAll (l.map f) ≤ n
  | [], _ => by simp [PyData.depthAll]
  | a :: l, h => by
    have h1 := h a List.mem_cons_self
    have h2 := depth_all (l := l) fun x hx => h x (List.mem_cons_of_mem _ hx)
    rw [List.map_cons, PyData.depthAll]
    omega
theorem shaped_of {d : PyData} (h : PyData.canLay0 d = true) (hd : d.depth ≤ 64) : SeqAt.shaped d = true := by
  unfold SeqAt.shaped
  rw [h, decide_eq_true hd]
  rfl
theorem kids_dp {K : PySem.W.Frag} {H : Hp} {a : Addr} {ys : List V} {l : List Kid} (h : H a = some (.lst ys)) (r : Paired (RKid H) ys l) : Dp K H (.ref a) (.list (l.map Kid.d)) := .lst (SqLo h) (dpAll (fun _ _ q => RKid.dp q) r)
theorem kids_shaped {l : List Kid} (h : ∀ k ∈ l, k.Ok) : SeqAt.shaped (.list (l.map Kid.d)) = true := by
  refine shaped_of ?_ ?_
  · rw [PyData.canLay0]
    exact lay_all fun k hk => kid_lay (h k hk)
  · have := depth_all (f := Kid.d) (n := 2) (l := l) fun x _ => kid_depth x
    rw [PyData.depth]
    omega
theorem kidW_at {k : Kid} : atI (kidV k) 0 = some (.str (kidW k)) := by cases k <;> rfl
theorem kw_fields {k : Kid} (h : kidW k = "fields") : k = .fields := by
  cases k with
  | fields => rfl
  | field s => exact absurd (show ("field" : Str) = "fields" from h) (by decide +kernel)
  | item s => exact absurd (show ("item" : Str) = "fields" from h) (by decide +kernel)
  | items => exact absurd (show ("items" : Str) = "fields" from h) (by decide +kernel)
theorem kw_field {k : Kid} (h : kidW k = "field") : ∃ s, k = .field s := by
  cases k with
  | fields => exact absurd (show ("fields" : Str) = "field" from h) (by decide +kernel)
  | field s => exact ⟨s, rfl⟩
  | item s => exact absurd (show ("item" : Str) = "field" from h) (by decide +kernel)
  | items => exact absurd (show ("items" : Str) = "field" from h) (by decide +kernel)
theorem kw_items {k : Kid} (h : kidW k = "items") : k = .items := by
  cases k with
  | items => rfl
  | field s => exact absurd (show ("field" : Str) = "items" from h) (by decide +kernel)
  | item s => exact absurd (show ("item" : Str) = "items" from h) (by decide +kernel)
  | fields => exact absurd (show ("fields" : Str) = "items" from h) (by decide +kernel)
theorem kw_item {k : Kid} (h : kidW k = "item") : ∃ s, k = .item s := by
  cases k with
  | fields => exact absurd (show ("fields" : Str) = "item" from h) (by decide +kernel)
  | item s => exact ⟨s, rfl⟩
  | field s => exact absurd (show ("field" : Str) = "item" from h) (by decide +kernel)
  | items => exact absurd (show ("items" : Str) = "item" from h) (by decide +kernel)
theorem strs_lay {fs : List Str} (h : ∀ f ∈ fs, SOk f) : PyData.canLayAll0 (fs.map PyData.str) = true := lay_all fun x hx => by
  rw [PyData.canLay0]
  exact h x hx
theorem lit_ok : SOk "any" ∧ SOk "number" ∧ SOk "text" ∧ SOk "is" ∧ SOk "record" ∧ SOk "list" := by decide +kernel
theorem test_lay {t : Test} (h : t.Ok) : PyData.canLay0 t.d = true := by
  obtain ⟨l1, l2, l3, l4, l5, l6⟩ := lit_ok
  have oi' : ∀ o : Option Int, PyData.canLay0 (oiD o) = true := fun o => by cases o <;> rfl
  cases t with
  | any => simp only [Test.d, PyData.canLay0, PyData.canLayAll0, l1]; rfl
  | num lo hi => simp only [Test.d, PyData.canLay0, PyData.canLayAll0, l2, oi']; rfl
  | text => simp only [Test.d, PyData.canLay0, PyData.canLayAll0, l3]; rfl
  | isI i => simp only [Test.d, PyData.canLay0, PyData.canLayAll0, l4]; rfl
  | isS s =>
    have h' : PyData.strOk s = true := h
    simp only [Test.d, PyData.canLay0, PyData.canLayAll0, l4, h']
    rfl
  | rcd fs => simp only [Test.d, PyData.canLay0, PyData.canLayAll0, l5, strs_lay h.1]; rfl
  | list lo hi => simp only [Test.d, PyData.canLay0, PyData.canLayAll0, l6, oi']; rfl
theorem test_depth (t : Test) : t.d.depth ≤ 10 := by
  have oi' : ∀ o : Option Int, (oiD o).depth ≤ 1 := fun o => by cases o <;> simp [oiD, PyData.depth]
  have hs : ∀ fs : List Str, PyData.depthAll (fs.map PyData.str) ≤ 1 := fun fs => depth_all fun x _ => by simp [PyData.depth]
  cases t with
  | num lo hi =>
    have := oi' lo
    have := oi' hi
    simp only [Test.d, PyData.depth, PyData.depthAll]
    omega
  | list lo hi =>
    have := oi' hi
    simp only [Test.d, PyData.depth, PyData.depthAll]
    omega
  | rcd fs =>
    have := hs fs
    simp only [Test.d, PyData.depth, PyData.depthAll]
    omega
  | _ => simp [Test.d, PyData.depth, PyData.depthAll]
theorem case_depth (c : Case) : c.d.depth ≤ 20 := by
  have h1 := test_depth c.t
  have h2 : (osD c.w).depth ≤ 1 := by cases c.w <;> simp [osD, PyData.depth]
  have h3 : (visLD c.vs).depth ≤ 10 := by
    have q : PyData.depthAll (c.vs.map visD) ≤ 5 := depth_all fun x _ => by
      have := kid_depth x.1
      simp only [visD, PyData.depth, PyData.depthAll]
      omega
    unfold visLD
    rw [PyData.depth]
    omega
  simp only [Case.d, PyData.depth, PyData.depthAll]
  omega
section
variable {K : PySem.W.Frag}
theorem is_ss : PySem.W.kitOne K (.type "str") (.type "str") = some true := kit_ty (by decide +kernel)
theorem is_is : PySem.W.kitOne K (.type "int") (.type "str") = some false := kit_ty (by decide +kernel)
theorem is_ii : PySem.W.kitOne K (.type "int") (.type "int") = some true := kit_ty (by decide +kernel)
theorem is_ib : PySem.W.kitOne K (.type "int") (.type "bool") = some false := kit_ty (by decide +kernel)
theorem is_bb : PySem.W.kitOne K (.type "bool") (.type "bool") = some true := kit_ty (by decide +kernel)
end
def CB (c : Case) : Prop := c.t.Ok ∧ (∀ s, c.w = some s → SOk s) ∧ ∀ x ∈ c.vs, x.1.Ok ∧ SOk x.2
theorem caseB_lay {c : Case} (h : CB c) : PyData.canLay0 c.d = true := by
  obtain ⟨h1, h2, h3⟩ := h
  have o : PyData.canLay0 (osD c.w) = true := by
    cases e : c.w with
    | none => rfl
    | some s =>
      show PyData.canLay0 (.str s) = true
      rw [PyData.canLay0]
      exact h2 s e
  have v : PyData.canLay0 (visLD c.vs) = true := by
    unfold visLD
    rw [PyData.canLay0]
    refine lay_all fun x hx => ?_
    have hk : x.1.Ok := (h3 x hx).1
    have hs : PyData.strOk x.2 = true := (h3 x hx).2
    simp only [visD, PyData.canLay0, PyData.canLayAll0, kid_lay hk, hs]
    rfl
  simp only [Case.d, PyData.canLay0, PyData.canLayAll0, test_lay h1, o, v]
  rfl
theorem casesB_lay {cs : List Case} (h : ∀ c ∈ cs, CB c) : PyData.canLay0 (caseLD cs) = true := by
  unfold caseLD
  rw [PyData.canLay0]
  exact lay_all fun c hc => caseB_lay (h c hc)
theorem cases_depth (cs : List Case) : (caseLD cs).depth ≤ 21 := by
  have q : PyData.depthAll (cs.map Case.d) ≤ 20 := depth_all fun x _ => case_depth x
  unfold caseLD
  rw [PyData.depth]
  omega
theorem casesB_shaped {cs : List Case} (h : ∀ c ∈ cs, CB c) : SeqAt.shaped (caseLD cs) = true := shaped_of (casesB_lay h) (by have := cases_depth cs; omega)
def rowD (r : Row) : PyData := .tuple [.str r.1, caseLD r.2]
def progD (rows : List Row) : PyData := .list (rows.map rowD)
theorem prog_lay {rows : List Row} (h : ∀ r ∈ rows, SOk r.1 ∧ ∀ c ∈ r.2, CB c) : PyData.canLay0 (progD rows) = true := by
  unfold progD
  rw [PyData.canLay0]
  refine lay_all fun r hr => ?_
  obtain ⟨h1, h2⟩ := h r hr
  have h1' : PyData.strOk r.1 = true := h1
  simp only [rowD, PyData.canLay0, PyData.canLayAll0, casesB_lay h2, h1']
  rfl
theorem prog_shaped {rows : List Row} (h : ∀ r ∈ rows, SOk r.1 ∧ ∀ c ∈ r.2, CB c) : SeqAt.shaped (progD rows) = true := by
  refine shaped_of (prog_lay h) ?_
  have q : PyData.depthAll (rows.map rowD) ≤ 25 := depth_all fun r _ => by
    have := cases_depth r.2
    simp only [rowD, PyData.depth, PyData.depthAll]
    omega
  unfold progD
  rw [PyData.depth]
  omega
theorem PB.cb {m : Nat} {rows : List Row} (h : PB m rows) : ∀ r ∈ rows, SOk r.1 ∧ ∀ c ∈ r.2, CB c := fun r hr => ⟨(h.pt r hr).1, fun c hc => by
  obtain ⟨h1, h2, _, h4⟩ := (h.cs r hr).2 c hc
  exact ⟨h1, h2, h4⟩⟩
section
variable {K : PySem.W.Frag} {H : Hp} {v : V}
theorem RRow.dp {r : Row} (h : RRow H v r) : Dp K H v (rowD r) := by
  obtain ⟨a, l, rfl, h1, h2⟩ := h
  exact .tup (SqTo h1) (.cons (.str _) (.cons h2.dp .nil))
theorem RProg.dp {rows : List Row} (h : RProg H v rows) : Dp K H v (progD rows) := by
  obtain ⟨a, xs, rfl, h1, h2⟩ := h
  exact .lst (SqLo h1) (dpAll (fun _ _ q => RRow.dp q) h2)
end
end K44

namespace K44
open PySem PySem.Spec L2 LW
open Evl (Ex)
/-! ### a program while it is bent -/
structure BI (H : Hp) (a : Addr) (rs : List RowS) (H' : Hp) (rs' : List RowS) (m : Nat) : Prop where
  at_ : ProgAt H' a rs'
  nd : (lsP a rs').Nodup
  pb : PB m (rs'.map RowS.row)
  fr : ∀ b o, b ∉ lsP a rs → H b = some o → H' b = some o
  nw : ∀ b ∈ lsP a rs', b ∈ lsP a rs ∨ H b = none
theorem BI.grow {H H' H2 : Hp} {a : Addr} {rs rs' : List RowS} {m : Nat} (h : BI H a rs H' rs' m) (e : Ex H' H2) : BI H a rs H2 rs' m := ⟨h.at_.ex e, h.nd, h.pb, fun b o n q => e _ _ (h.fr b o n q), h.nw⟩
theorem BI.dm {H H' : Hp} {a : Addr} {rs rs' : List RowS} {m : Nat} (h : BI H a rs H' rs' m) (h0 : ∀ b ∈ lsP a rs, ∃ o, H' b = some o) {b : Addr} (n : H' b = none) : H b = none := by
  cases q : H b with
  | none => rfl
  | some o =>
    by_cases hb : b ∈ lsP a rs
    · obtain ⟨o', ho⟩ := h0 b hb
      rw [ho] at n
      cases n
    · rw [h.fr b o hb q] at n
      cases n
theorem ls_of {a : Addr} {l1 l2 : List RowS} {r : RowS} (nd : (lsP a (l1 ++ r :: l2)).Nodup) : a ∉ r.ls ∧ a ∉ (l1.map RowS.ls).flatten ∧ a ∉ (l2.map RowS.ls).flatten ∧ (l1.map RowS.ls).flatten.Nodup ∧ r.ls.Nodup ∧ (l2.map RowS.ls).flatten.Nodup ∧
    (∀ x ∈ (l1.map RowS.ls).flatten, x ∉ r.ls) ∧ (∀ x ∈ (l1.map RowS.ls).flatten, x ∉ (l2.map RowS.ls).flatten) ∧ ∀ x ∈ r.ls, x ∉ (l2.map RowS.ls).flatten := by
  unfold lsP at nd
  rw [ls_mid, List.nodup_cons] at nd
  obtain ⟨n1, n2⟩ := nd
  obtain ⟨a1, a2, a3⟩ := List.nodup_append.mp n2
  obtain ⟨b1, b2, b3⟩ := List.nodup_append.mp a2
  rw [List.mem_append, List.mem_append, not_or, not_or] at n1
  exact ⟨n1.2.1, n1.1, n1.2.2, a1, b1, b2, fun x hx hy => a3 x hx x (List.mem_append_left _ hy) rfl, fun x hx hy => a3 x hx x (List.mem_append_right _ hy) rfl, fun x hx hy => b3 x hx x hy rfl⟩
theorem mem_ls {a b : Addr} {l1 l2 : List RowS} {r : RowS} : b ∈ lsP a (l1 ++ r :: l2) ↔ b = a ∨ b ∈ (l1.map RowS.ls).flatten ∨ b ∈ r.ls ∨ b ∈ (l2.map RowS.ls).flatten := by
  unfold lsP
  rw [ls_mid, List.mem_cons, List.mem_append, List.mem_append]
theorem in_flat {r : RowS} {l : List RowS} {b : Addr} (hr : r ∈ l) (hb : b ∈ r.ls) : b ∈ (l.map RowS.ls).flatten := List.mem_flatten.mpr ⟨_, List.mem_map_of_mem hr, hb⟩
theorem BI.put {H H2 : Hp} {a q : Addr} {rs l1 l2 : List RowS} {r r' : RowS} {m : Nat} {xs : List V} {o : HO} (h : BI H a rs H2 (l1 ++ r :: l2) m) (hq : q ∈ r.ls) (hx : H2 q = some (.lst xs)) (hr : r'.At (upd H2 q o)) (ha : r'.a = r.a)
    (hls : ∀ b ∈ r'.ls, b ∈ r.ls ∨ (b ∉ lsP a (l1 ++ r :: l2) ∧ H b = none)) (ndr : r'.ls.Nodup) (pb : PB (m + 1) ((l1 ++ r' :: l2).map RowS.row)) : BI H a rs (upd H2 q o) (l1 ++ r' :: l2) (m + 1) := by
  obtain ⟨n1, n2, n3, n4, n5, n6, n7, n8, n9⟩ := ls_of h.nd
  have hqa : a ≠ q := fun e => n1 (by rw [e]; exact hq)
  have hql : q ∈ lsP a (l1 ++ r :: l2) := mem_ls.mpr (.inr (.inr (.inl hq)))
  have out : ∀ b ∈ r'.ls, b ≠ a ∧ b ∉ (l1.map RowS.ls).flatten ∧ b ∉ (l2.map RowS.ls).flatten := fun b hb => by
    rcases hls b hb with z | ⟨z, _⟩
    · exact ⟨fun e => n1 (by rw [← e]; exact z), fun y => n7 b y z, fun y => n9 b z y⟩
    · rw [mem_ls, not_or, not_or, not_or] at z
      exact ⟨z.1, z.2.1, z.2.2.2⟩
  refine ⟨⟨?_, fun r2 hr2 => ?_⟩, ?_, pb, fun b ob nb hb => ?_, fun b hb => ?_⟩
  · rw [upd_ne hqa, h.at_.li]
    simp [ha]
  · rw [List.mem_append, List.mem_cons] at hr2
    rcases hr2 with z | rfl | z
    · exact (h.at_.rs r2 (List.mem_append_left _ z)).keep (tupK_upd hx) fun b hb => upd_ne fun e => n7 b (in_flat z hb) (by rw [e]; exact hq)
    · exact hr
    · exact (h.at_.rs r2 (List.mem_append_right _ (List.mem_cons_of_mem _ z))).keep (tupK_upd hx) fun b hb => upd_ne fun e => n9 q hq (by rw [← e]; exact in_flat z hb)
  · unfold lsP
    rw [ls_mid, List.nodup_cons, List.mem_append, List.mem_append, not_or, not_or]
    exact ⟨⟨n2, fun z => (out a z).1 rfl, n3⟩, nd_app n4 (nd_app ndr n6 fun x hx => (out x hx).2.2) fun x hx hy => by
      rcases List.mem_append.mp hy with hy | hy
      · exact (out x hy).2.1 hx
      · exact n8 x hx hy⟩
  · have hne : b ≠ q := fun e => by
      rcases h.nw q hql with z | z
      · exact nb (by rw [e]; exact z)
      · rw [← e, hb] at z
        cases z
    rw [upd_ne hne]
    exact h.fr b ob nb hb
  · rcases mem_ls.mp hb with z | z | z | z
    · exact h.nw b (mem_ls.mpr (.inl z))
    · exact h.nw b (mem_ls.mpr (.inr (.inl z)))
    · rcases hls b z with z | z
      · exact h.nw b (mem_ls.mpr (.inr (.inr (.inl z))))
      · exact .inr z.2
    · exact h.nw b (mem_ls.mpr (.inr (.inr (.inr z))))
theorem BI.ins {H H2 : Hp} {a : Addr} {rs l1 l2 : List RowS} {r' : RowS} {m : Nat} (h : BI H a rs H2 (l1 ++ l2) m) (hr : r'.At H2) (hls : ∀ b ∈ r'.ls, b ∉ lsP a (l1 ++ l2) ∧ H b = none) (ndr : r'.ls.Nodup) (pb : PB (m + 1) ((l1 ++ r' :: l2).map RowS.row)) :
    BI H a rs (upd H2 a (.lst ((l1.map fun r => V.ref r.a) ++ [V.ref r'.a] ++ l2.map fun r => V.ref r.a))) (l1 ++ r' :: l2) (m + 1) := by
  have nd := h.nd
  unfold lsP at nd
  rw [List.map_append, List.flatten_append, List.nodup_cons, List.mem_append, not_or] at nd
  obtain ⟨⟨n1, n2⟩, n3⟩ := nd
  obtain ⟨a1, a2, a3⟩ := List.nodup_append.mp n3
  have out : ∀ b ∈ r'.ls, b ≠ a ∧ b ∉ (l1.map RowS.ls).flatten ∧ b ∉ (l2.map RowS.ls).flatten := fun b hb => by
    have z := (hls b hb).1
    unfold lsP at z
    rw [List.map_append, List.flatten_append, List.mem_cons, List.mem_append, not_or, not_or] at z
    exact ⟨z.1, z.2.1, z.2.2⟩
  refine ⟨⟨?_, fun r2 hr2 => ?_⟩, ?_, pb, fun b ob nb hb => ?_, fun b hb => ?_⟩
  · rw [upd_same]
    simp
  · rw [List.mem_append, List.mem_cons] at hr2
    rcases hr2 with z | rfl | z
    · exact (h.at_.rs r2 (List.mem_append_left _ z)).keep (tupK_upd h.at_.li) fun b hb => upd_ne fun e => n1 (by rw [← e]; exact in_flat z hb)
    · exact hr.keep (tupK_upd h.at_.li) fun b hb => upd_ne (out b hb).1
    · exact (h.at_.rs r2 (List.mem_append_right _ z)).keep (tupK_upd h.at_.li) fun b hb => upd_ne fun e => n2 (by rw [← e]; exact in_flat z hb)
  · unfold lsP
    rw [ls_mid, List.nodup_cons, List.mem_append, List.mem_append, not_or, not_or]
    exact ⟨⟨n1, fun z => (out a z).1 rfl, n2⟩, nd_app a1 (nd_app ndr a2 fun x hx => (out x hx).2.2) fun x hx hy => by
      rcases List.mem_append.mp hy with hy | hy
      · exact (out x hy).2.1 hx
      · exact a3 x hx x hy rfl⟩
  · have hne : b ≠ a := fun e => by
      rcases h.nw a List.mem_cons_self with z | z
      · exact nb (by rw [e]; exact z)
      · rw [← e, hb] at z
        cases z
    rw [upd_ne hne]
    exact h.fr b ob nb hb
  · have up : ∀ b, b ∈ (l1.map RowS.ls).flatten ∨ b ∈ (l2.map RowS.ls).flatten → b ∈ lsP a (l1 ++ l2) := fun b z => by
      unfold lsP
      rw [List.map_append, List.flatten_append, List.mem_cons, List.mem_append]
      exact .inr z
    rcases mem_ls.mp hb with z | z | z | z
    · exact h.nw b (by rw [z]; exact List.mem_cons_self)
    · exact h.nw b (up b (.inl z))
    · exact .inr (hls b z).2
    · exact h.nw b (up b (.inr z))
theorem pb_mid {m : Nat} {l1 l2 : List Row} {r r' : Row} (h : PB m (l1 ++ r :: l2)) (e : r'.1 = r.1) (hc : r'.2.length ≤ 6 + (m + 1) ∧ ∀ c ∈ r'.2, c.t.Ok ∧ (∀ s, c.w = some s → SOk s) ∧ c.vs.length ≤ 20 + (m + 1) ∧ ∀ x ∈ c.vs, x.1.Ok ∧ SOk x.2) : PB (m + 1) (l1 ++ r' :: l2) := by
  have h2 := h.mono (Nat.le_succ m)
  have le := h.le
  rw [List.length_append, List.length_cons] at le
  refine ⟨by rw [List.length_append, List.length_cons]; omega, by rw [List.length_append, List.length_cons]; omega, fun x hx => ?_, fun x hx => ?_⟩
  · rw [List.mem_append, List.mem_cons] at hx
    rcases hx with z | rfl | z
    · exact h2.pt x (List.mem_append_left _ z)
    · rw [e]
      exact h2.pt r (List.mem_append_right _ List.mem_cons_self)
    · exact h2.pt x (List.mem_append_right _ (List.mem_cons_of_mem _ z))
  · rw [List.mem_append, List.mem_cons] at hx
    rcases hx with z | rfl | z
    · exact h2.cs x (List.mem_append_left _ z)
    · exact hc
    · exact h2.cs x (List.mem_append_right _ (List.mem_cons_of_mem _ z))
theorem pb_ins {m : Nat} {l1 l2 : List Row} {r' : Row} (h : PB m (l1 ++ l2)) (le : (l1 ++ l2).length < 12) (e : SOk r'.1 ∧ r'.1 ≠ "nobody" ∧ (m + 1 < 4 → r'.1 ≠ "last")) (hc : r'.2 = []) : PB (m + 1) (l1 ++ r' :: l2) := by
  have h2 := h.mono (Nat.le_succ m)
  rw [List.length_append] at le
  refine ⟨by rw [List.length_append, List.length_cons]; omega, by rw [List.length_append, List.length_cons]; omega, fun x hx => ?_, fun x hx => ?_⟩
  · rw [List.mem_append, List.mem_cons] at hx
    rcases hx with z | rfl | z
    · exact h2.pt x (List.mem_append_left _ z)
    · exact e
    · exact h2.pt x (List.mem_append_right _ z)
  · rw [List.mem_append, List.mem_cons] at hx
    rcases hx with z | rfl | z
    · exact h2.cs x (List.mem_append_left _ z)
    · rw [hc]
      exact ⟨Nat.zero_le _, nofun⟩
    · exact h2.cs x (List.mem_append_right _ z)
section
variable {P : Program} {w : World} {K : PySem.W.Frag} {mg : Str → Option Value} {base : Heap}
/-! ### _law_bent -/
def spBent : Sp := fun vs H Q _ => ∃ (p a : Addr) (rs : List RowS), vs = [.ref p, .ref a] ∧ Pool H p ∧ ProgAt H a rs ∧ (lsP a rs).Nodup ∧ PB 0 (rs.map RowS.row) ∧
  ∀ H' rs', (∀ b o, b ∉ lsP a rs → H b = some o → H' b = some o) → ProgAt H' a rs' → PB 3 (rs'.map RowS.row) → Q .non H'
theorem sc__law_bent : FnScope ["_law_pool", "_law_program_here", "_law_turn", "_law_row", "_law_way", "_law_visits_here", "_law_kid"] ["_law_pool", "_law_program_here"] (defScope s__law_bent) := ⟨rfl, rfl, rfl, by decide +kernel, rfl, by decide +kernel, by decide +kernel⟩
theorem bi__law_bent : BindsEq "_law_bent" s__law_bent ["_law_pool", "_law_program_here"] := fun _ _ _ _ _ _ us hl => match us, hl with | [_, _], _ => rfl
theorem ok_bent (F : Df K mg "_law_bent" s__law_bent) (T : Txt K mg) (C__law_draw : Cal P w K mg base CX0 1 "_law_draw" spDraw) : Cal P w K mg base CX0 2 "_law_bent" spBent := by
  refine cal0 F sc__law_bent bi__law_bent (fun vs H Q E h => ?_) (fun f cdv A outer s H vs Q E hr h => ?_)
  · obtain ⟨p, a, rs, rfl, _⟩ := h
    rfl
  · obtain ⟨p, a, rs, rfl, hp, pa, nd, pb, k⟩ := h
    refine ⟨_, (pss_one (ps_for PassesOwn.never rfl (pi_range1 rfl T.b_range (pa_cons (pe_op op_add pe_int (pe_k C__law_draw hr (by decide) rfl (pa_cons (pv 0) (pa_cons pe_int pa_nil)))) pa_nil)) (pg_name (i := 2) sc__law_bent.nd rfl (Or.inl rfl)) (pss_cons (ps_set (i := 3) sc__law_bent.nd rfl (Or.inl rfl) (pe_ix (ixl K) (pv 1) (pe_k C__law_draw hr (by decide) rfl (pa_cons (pv 0) (pa_cons (pe_callB (lnK K) rfl T.b_len (by decide +kernel) (pa_cons (pv 1) pa_nil)) pa_nil))) (fun _ _ => rfl)))
 (pss_cons (ps_set (i := 4) sc__law_bent.nd rfl (Or.inl rfl) (pe_k C__law_draw hr (by decide) rfl (pa_cons (pv 0) (pa_cons pe_int pa_nil))))
 (pss_one (ps_if (PW.pt (pw_and (pt_cmpR op_eq (pv 4) pe_int (nomark _)) (pw_and1 (pt_cmpR op_lt (pe_callB (lnK K) rfl T.b_len (by decide +kernel) (pa_cons (pv 1) pa_nil)) pe_int (nomark _))))) (pss_one (ps_expr (pe_bm PySem.F.plainAttrs_list PySem.F.slot_list_insert PySem.F.type_list_insert mt_insert (pv 1) (pa_cons (pe_k C__law_draw hr (by decide) rfl (pa_cons (pv 0) (pa_cons (pe_op op_add (pe_callB (lnK K) rfl T.b_len (by decide +kernel) (pa_cons (pv 1) pa_nil)) pe_int) pa_nil))) (pa_cons (pe_tup (pa_cons (pe_ix (ixt K) (pv 3) pe_int (fun _ _ => rfl)) (pa_cons (pe_lst pa_nil) pa_nil))) pa_nil))))) (pss_one (ps_if (pt_cmpR op_eq (pv 4) pe_int (nomark _)) (pss_one (ps_expr (pe_bm PySem.F.plainAttrs_list PySem.F.slot_list_append PySem.F.type_list_append mt_append (pe_ix (ixt K) (pv 3) pe_int (fun _ _ => rfl)) (pa_cons (pe_tup (pa_cons (pe_tup (pa_cons pe_str pa_nil)) (pa_cons pe_non (pa_cons (pe_lst (pa_cons (pe_tup (pa_cons (pe_tup (pa_cons pe_str (pa_cons pe_str pa_nil))) (pa_cons pe_str pa_nil))) pa_nil)) pa_nil)))) pa_nil)))) (pss_one (ps_if (pt_cmpR (neDK K hr.units) (pe_ix (ixt K) (pv 3) pe_int (fun _ _ => rfl)) (pe_lst pa_nil) (nomark _)) (pss_cons (ps_set (i := 5) sc__law_bent.nd rfl (Or.inl rfl) (pe_ix (ixt K) (pe_ix (ixl K) (pe_ix (ixt K) (pv 3) pe_int (fun _ _ => rfl)) (pe_k C__law_draw hr (by decide) rfl (pa_cons (pv 0) (pa_cons (pe_callB (lnK K) rfl T.b_len (by decide +kernel) (pa_cons (pe_ix (ixt K) (pv 3) pe_int (fun _ _ => rfl)) pa_nil)) pa_nil))) (fun _ _ => rfl)) pe_int (fun _ _ => rfl)))
 (pss_cons (ps_set (i := 6) sc__law_bent.nd rfl (Or.inl rfl) (pe_ix (ixl K) (pe_lst (pa_cons (pe_tup (pa_cons pe_str pa_nil)) (pa_cons (pe_tup (pa_cons pe_str pa_nil)) (pa_cons (pe_tup (pa_cons pe_str (pa_cons pe_str pa_nil))) (pa_cons (pe_tup (pa_cons pe_str (pa_cons pe_int pa_nil))) (pa_cons (pe_tup (pa_cons pe_str (pa_cons pe_int pa_nil))) pa_nil)))))) (pe_k C__law_draw hr (by decide) rfl (pa_cons (pv 0) (pa_cons pe_int pa_nil))) (fun _ _ => rfl)))
 (pss_one (ps_expr (pe_bm PySem.F.plainAttrs_list PySem.F.slot_list_insert PySem.F.type_list_insert mt_insert (pv 5) (pa_cons (pe_k C__law_draw hr (by decide) rfl (pa_cons (pv 0) (pa_cons (pe_op op_add (pe_callB (lnK K) rfl T.b_len (by decide +kernel) (pa_cons (pv 5) pa_nil)) pe_int) pa_nil))) (pa_cons (pe_tup (pa_cons (pv 6) (pa_cons (pe_ix (ixl K) (pe_lst (pa_cons (pe_ix (ixt K) (pv 3) pe_int (fun _ _ => rfl)) (pa_cons pe_str pa_nil))) (pe_k C__law_draw hr (by decide) rfl (pa_cons (pv 0) (pa_cons pe_int pa_nil))) (fun _ _ => rfl)) pa_nil))) pa_nil))))))) pss_nil)))))))))), ?_⟩
    refine ⟨_, rfl, p, 3, rfl, hp, by decide, by decide, fun n n0 n1 => ⟨_, _, rfl, rfl, ?_⟩⟩
    have ex0 : ∀ b ∈ lsP a rs, ∃ o, H b = some o := fun b hb => let ⟨xs, h⟩ := pa.some b hb; ⟨_, h⟩
    have hpl : p ∉ lsP a rs := fun z => by
      obtain ⟨xs, h⟩ := pa.some p z
      rw [show H p = some (poolO p) from hp] at h
      cases h
    refine ⟨_, rfl, by omega, by omega, for_range (lo := 0) (n := ((1 : Int) + n).toNat) (fun i σ' H' => ∃ (rs' : List RowS) (v2 v3 v4 v5 v6 : Option V), σ' = [some (.ref p), some (.ref a), v2, v3, v4, v5, v6] ∧ BI H a rs H' rs' i ∧ Dm H H') ?_ ?_ ?_⟩
    · exact ⟨rs, _, _, _, _, _, rfl, ⟨pa, nd, pb, fun _ _ _ h => h, fun _ h => .inl h⟩, Dm.refl _⟩
    · rintro i σ' H1 hi ⟨rs1, v2, v3, v4, v5, v6, rfl, bi, dm⟩
      have i3 : i < 3 := by omega
      have hp1 : Pool H1 p := bi.fr _ _ hpl hp
      have l1 : rs1.length ≤ 12 + i := by have := bi.pb.le; rw [List.length_map] at this; exact this
      have l0 : 0 < rs1.length := by have := bi.pb.ne; rw [List.length_map] at this; exact this
      refine ⟨_, rfl, _, rfl, _, rfl, _, _, rfl, .inl ⟨_, SqLo bi.at_.li, rfl⟩, p, _, rfl, hp1, by rw [List.length_map]; omega, by rw [List.length_map]; omega, fun j j0 j1 => ?_⟩
      rw [List.length_map] at j1
      obtain ⟨r, hr1⟩ : ∃ r, rs1[j.toNat]? = some r := ⟨_, List.getElem?_eq_getElem (by omega)⟩
      obtain ⟨x, hx, _, hx2⟩ := at_some (xs := rs1.map fun r => V.ref r.a) j0 (by rw [List.length_map]; exact j1)
      rw [List.getElem?_map, hr1] at hx2
      have hx3 : V.ref r.a = x := Option.some.inj hx2
      subst hx3
      refine ⟨a, _, _, _, rfl, rfl, SqLo bi.at_.li, hx, ?_⟩
      have rat := bi.at_.rs r (List.mem_of_getElem? hr1)
      have hrow : r.row ∈ rs1.map RowS.row := List.mem_map_of_mem (List.mem_of_getElem? hr1)
      obtain ⟨cl, cb⟩ := bi.pb.cs _ hrow
      have cl : r.ks.length ≤ 6 + i := by
        have : (r.ks.map (·.c)).length ≤ 6 + i := cl
        rw [List.length_map] at this
        exact this
      obtain ⟨m1, m2, es, ml⟩ := split_at hr1
      refine ⟨_, rfl, p, 4, rfl, hp1, by decide, by decide, fun wy w0 w1 => ?_⟩
      have bi' : BI H a rs H1 rs1 (i + 1) := ⟨bi.at_, bi.nd, bi.pb.mono (Nat.le_succ i), bi.fr, bi.nw⟩
      have ex1 : ∀ b ∈ lsP a rs, ∃ o, H1 b = some o := fun b hb => by
        cases q : H1 b with
        | some o => exact ⟨o, rfl⟩
        | none =>
          obtain ⟨o, ho⟩ := ex0 b hb
          rw [dm _ q] at ho
          cases ho
      refine ⟨_, rfl, rfl, _, rfl, if_b (fun e => ⟨_, rfl, _, _, rfl, .inl ⟨_, SqLo bi.at_.li, rfl⟩, _, _, rfl, rfl, _, rfl, if_b (fun e2 => ?_) (fun e2 => ?_)⟩) (fun e => ?_)⟩
      · -- a row twice
        have l12 : rs1.length < 12 := by
          have := of_decide_eq_true e2
          rw [List.length_map] at this
          omega
        refine ⟨_, rfl, .inl ⟨rfl, _, SqLo bi.at_.li⟩, _, rfl, _, rfl, _, _, rfl, .inl ⟨_, SqLo bi.at_.li, rfl⟩, _, _, rfl, rfl, p, _, rfl, hp1, by rw [List.length_map]; omega, by rw [List.length_map]; omega, fun t t0 t1 => ?_⟩
        rw [List.length_map] at t1
        refine ⟨_, rfl, r.a, _, _, _, rfl, rfl, SqTo rat.tu, rfl, szl (by show 0 ≤ 100000; decide), fun p1 np1 => ?_⟩
        obtain ⟨H2, hH2, x1_2, h2⟩ := newH _ np1
        rw [hH2]
        clear hH2
        refine ⟨szl (by show 2 ≤ 100000; decide), fun p2 np2 => ?_⟩
        obtain ⟨H3, hH3, x2_3, h3⟩ := newH _ np2
        rw [hH3]
        clear hH3
        have x1_3 := x1_2.trans x2_3
        have bi3 := bi.grow x1_3
        refine ⟨a, _, t, _, rfl, rfl, bi3.at_.li, szlt (by rw [List.length_map]; omega), t0, by omega, ?_⟩
        have e1 : rs1.take t.toNat ++ rs1.drop t.toNat = rs1 := List.take_append_drop _ _
        have np1' : p1 ∉ lsP a rs1 := fun z => by
          obtain ⟨xs, hz⟩ := bi.at_.some p1 z
          rw [np1] at hz
          cases hz
        have q := BI.ins (l1 := rs1.take t.toNat) (l2 := rs1.drop t.toNat) (r' := ⟨p2, p1, r.nm, []⟩) (m := i) (by rw [e1]; exact bi3) ⟨h3, x2_3 _ _ h2, nofun⟩ (fun b hb => by
          rcases List.mem_cons.mp hb with rfl | hb
          · rw [e1]
            exact ⟨np1', dm _ np1⟩
          · cases hb) (List.nodup_cons.mpr ⟨nofun, List.nodup_nil⟩) (by
          rw [List.map_append, List.map_cons]
          refine pb_ins ?_ ?_ ⟨(bi.pb.pt r.row hrow).1, (bi.pb.pt r.row hrow).2.1, fun z => (bi.pb.pt r.row hrow).2.2 (by omega)⟩ rfl
          · rw [← List.map_append, e1]
            exact bi.pb
          · rw [← List.map_append, e1, List.length_map]
            exact l12)
        rw [List.map_take, List.map_drop] at q
        exact ⟨_, _, _, _, _, _, rfl, q, dm_upd (dm.trans (dm_ex x1_3))⟩
      all_goals
        refine ⟨_, rfl, rfl, _, rfl, if_b (fun e => ?_) (fun e => ?_)⟩
        · -- a case more
          refine ⟨_, rfl, r.a, _, _, _, rfl, rfl, SqTo rat.tu, rfl, .inl ⟨rfl, _, SqLo rat.li⟩, szl (by show 1 ≤ 100000; decide), fun p1 np1 => ?_⟩
          obtain ⟨H2, hH2, x1_2, h2⟩ := newH _ np1
          rw [hH2]
          clear hH2
          refine ⟨szl (by show 2 ≤ 100000; decide), fun p2 np2 => ?_⟩
          obtain ⟨H3, hH3, x2_3, h3⟩ := newH _ np2
          rw [hH3]
          clear hH3
          refine ⟨szl (by show 2 ≤ 100000; decide), fun p3 np3 => ?_⟩
          obtain ⟨H4, hH4, x3_4, h4⟩ := newH _ np3
          rw [hH4]
          clear hH4
          refine ⟨szl (by show 1 ≤ 100000; decide), fun p4 np4 => ?_⟩
          obtain ⟨H5, hH5, x4_5, h5⟩ := newH _ np4
          rw [hH5]
          clear hH5
          refine ⟨szl (by show 3 ≤ 100000; decide), fun p5 np5 => ?_⟩
          obtain ⟨H6, hH6, x5_6, h6⟩ := newH _ np5
          rw [hH6]
          clear hH6
          have x1_4 := (x1_2.trans x2_3).trans x3_4
          have x1_6 := (x1_4.trans x4_5).trans x5_6
          refine ⟨r.c, _, _, rfl, rfl, x1_6 _ _ rat.li, szlt (by rw [List.length_map]; omega), ?_⟩
          have bi6 := bi.grow x1_6
          rw [es] at bi6
          have np4' : p4 ∉ lsP a (m1 ++ r :: m2) := fun z => by
            rw [← es] at z
            obtain ⟨xs, hz⟩ := bi.at_.some p4 z
            rw [ex_free x1_4 np4] at hz
            cases hz
          have ndr := (ls_of bi6.nd).2.2.2.2.1
          have tk : TupK H6 (upd H6 r.c (.lst ((r.ks.map fun k => V.ref k.a) ++ [V.ref p5]))) := tupK_upd (x1_6 _ _ rat.li)
          have nc : p4 ≠ r.c := fun e => np4' (by rw [e]; exact mem_ls.mpr (.inr (.inr (.inl List.mem_cons_self))))
          have q := BI.put (r' := ⟨r.a, r.c, r.nm, r.ks ++ [⟨p5, .ref p1, p4, [.ref p3], ⟨.any, none, [(.field "a", "nobody")]⟩⟩]⟩) (o := .lst ((r.ks.map fun k => V.ref k.a) ++ [V.ref p5])) bi6 List.mem_cons_self (x1_6 _ _ rat.li) ⟨tk _ _ (x1_6 _ _ rat.tu), by rw [upd_same, List.map_append]; rfl, fun k hk => by
              rcases List.mem_append.mp hk with hk | hk
              · refine ((rat.ks k hk).ex x1_6).keep tk (upd_ne fun e => ?_)
                exact (List.nodup_cons.mp ndr).1 (by rw [← e]; exact List.mem_map_of_mem hk)
              · cases List.mem_singleton.mp hk
                refine ⟨tk _ _ h6, .any (tk _ _ ((((x2_3.trans x3_4).trans x4_5).trans x5_6) _ _ h2)), ?_, .cons ⟨p3, .ref p2, rfl, tk _ _ ((x4_5.trans x5_6) _ _ h4), p2, rfl, tk _ _ (((x3_4.trans x4_5).trans x5_6) _ _ h3)⟩ .nil⟩
                show upd H6 r.c _ p4 = _
                rw [upd_ne nc]
                exact x5_6 _ _ h5⟩ rfl (fun b hb => by
              rcases List.mem_cons.mp hb with e | hb
              · rw [e]
                exact .inl List.mem_cons_self
              · rw [List.map_append, List.mem_append] at hb
                rcases hb with hb | hb
                · exact .inl (List.mem_cons_of_mem _ hb)
                · have e : b = p4 := by simpa using hb
                  rw [e]
                  exact .inr ⟨np4', dm _ (ex_free x1_4 np4)⟩) (by
              show (r.c :: (r.ks ++ [(⟨p5, .ref p1, p4, [.ref p3], ⟨.any, none, [(.field "a", "nobody")]⟩⟩ : CaseS)]).map CaseS.l).Nodup
              rw [List.map_append, ← List.cons_append]
              refine nd_app ndr (by simp) fun b hb hb2 => ?_
              have e : b = p4 := by simpa using hb2
              rw [e] at hb
              exact np4' (mem_ls.mpr (.inr (.inr (.inl hb))))) (by
              rw [List.map_append, List.map_cons]
              have pb1 := bi.pb
              rw [es, List.map_append, List.map_cons] at pb1
              refine pb_mid pb1 rfl ⟨?_, fun c hc => ?_⟩
              · show ((r.ks ++ [(⟨p5, .ref p1, p4, [.ref p3], ⟨.any, none, [(.field "a", "nobody")]⟩⟩ : CaseS)]).map CaseS.c).length ≤ _
                rw [List.length_map, List.length_append, List.length_singleton]
                omega
              · have hc : c ∈ (r.ks ++ [(⟨p5, .ref p1, p4, [.ref p3], ⟨.any, none, [(.field "a", "nobody")]⟩⟩ : CaseS)]).map CaseS.c := hc
                rw [List.map_append, List.mem_append] at hc
                rcases hc with hc | hc
                · obtain ⟨c1, c2, c3, c4⟩ := cb c hc
                  exact ⟨c1, c2, by omega, c4⟩
                · have e : c = ⟨.any, none, [(.field "a", "nobody")]⟩ := by simpa using hc
                  rw [e]
                  refine ⟨True.intro, nofun, by show 1 ≤ _; omega, fun x hx => ?_⟩
                  cases List.mem_singleton.mp hx
                  exact ⟨by show SOk "a"; decide +kernel, by decide +kernel⟩)
          exact ⟨_, _, _, _, _, _, rfl, q, dm_upd (dm.trans (dm_ex x1_6))⟩
        · -- a visit more
          refine ⟨_, rfl, r.a, _, _, _, rfl, rfl, SqTo rat.tu, rfl, szl (by show 0 ≤ 100000; decide), fun p1 np1 => ?_⟩
          obtain ⟨H2, hH2, x1_2, h2⟩ := newH _ np1
          rw [hH2]
          clear hH2
          have rat2 := rat.ex x1_2
          have rcl : RCaseL H2 (.ref r.c) (r.ks.map CaseS.c) := ⟨r.c, _, rfl, rat2.li, paired_map fun k hk => (rat2.ks k hk).r⟩
          refine ⟨caseLD (r.ks.map CaseS.c), caseLD [], rcl.dp, .lst (SqLo h2) .nil, casesB_shaped fun c hc => ((bi.pb.cb _ hrow).2 c hc), by decide +kernel, _, rfl, if_b (fun e => ?_) (fun e => ?_)⟩
          · have kl : 0 < r.ks.length := by
              cases hk : r.ks with
              | nil =>
                rw [hk] at e
                cases e
              | cons a b => exact Nat.succ_pos _
            have hp2 : Pool H2 p := hp1.ex x1_2
            refine ⟨_, rfl, r.a, _, _, _, rfl, rfl, SqTo rat2.tu, rfl, _, rfl, _, rfl, r.a, _, _, _, rfl, rfl, SqTo rat2.tu, rfl, _, _, rfl, .inl ⟨_, SqLo rat2.li, rfl⟩, p, _, rfl, hp2, by rw [List.length_map]; omega, by rw [List.length_map]; omega, fun u u0 u1 => ?_⟩
            rw [List.length_map] at u1
            obtain ⟨k0, hk0⟩ : ∃ k0, r.ks[u.toNat]? = some k0 := ⟨_, List.getElem?_eq_getElem (by omega)⟩
            obtain ⟨x, hx, _, hx2⟩ := at_some (xs := r.ks.map fun k => V.ref k.a) u0 (by rw [List.length_map]; exact u1)
            rw [List.getElem?_map, hk0] at hx2
            have hx3 : V.ref k0.a = x := Option.some.inj hx2
            subst hx3
            have hk0m := List.mem_of_getElem? hk0
            have kat := rat2.ks k0 hk0m
            obtain ⟨c1, c2, c3, c4⟩ := cb k0.c (List.mem_map_of_mem hk0m)
            have lk0 : k0.xs.length = k0.c.vs.length := Paired.len kat.vs
            refine ⟨r.c, _, _, _, rfl, rfl, SqLo rat2.li, hx, k0.a, _, _, _, rfl, rfl, SqTo kat.tu, rfl, ?_⟩
            refine ⟨szl (by show 1 ≤ 100000; decide), fun q1 nq1 => ?_⟩
            obtain ⟨H3, hH3, x2_3, h3⟩ := newH _ nq1
            rw [hH3]
            clear hH3
            refine ⟨szl (by show 1 ≤ 100000; decide), fun q2 nq2 => ?_⟩
            obtain ⟨H4, hH4, x3_4, h4⟩ := newH _ nq2
            rw [hH4]
            clear hH4
            refine ⟨szl (by show 2 ≤ 100000; decide), fun q3 nq3 => ?_⟩
            obtain ⟨H5, hH5, x4_5, h5⟩ := newH _ nq3
            rw [hH5]
            clear hH5
            refine ⟨szl (by show 2 ≤ 100000; decide), fun q4 nq4 => ?_⟩
            obtain ⟨H6, hH6, x5_6, h6⟩ := newH _ nq4
            rw [hH6]
            clear hH6
            refine ⟨szl (by show 2 ≤ 100000; decide), fun q5 nq5 => ?_⟩
            obtain ⟨H7, hH7, x6_7, h7⟩ := newH _ nq5
            rw [hH7]
            clear hH7
            refine ⟨szl (by show 5 ≤ 100000; decide), fun q6 nq6 => ?_⟩
            obtain ⟨H8, hH8, x7_8, h8⟩ := newH _ nq6
            rw [hH8]
            clear hH8
            have x6_8 := x6_7.trans x7_8
            have x5_8 := x5_6.trans x6_8
            have x4_8 := x4_5.trans x5_8
            have x3_8 := x3_4.trans x4_8
            have x2_8 := x2_3.trans x3_8
            refine ⟨_, rfl, p, 5, rfl, hp2.ex x2_8, by decide, by decide, fun y y0 y1 => ?_⟩
            obtain ⟨kx, hkx, hkm, _⟩ := at_some (xs := [V.ref q1, V.ref q2, V.ref q3, V.ref q4, V.ref q5]) y0 y1
            obtain ⟨kd, kdo, rkd⟩ : ∃ kd : Kid, kd.Ok ∧ RKid H8 kx kd := by
              simp only [List.mem_cons, List.not_mem_nil, or_false] at hkm
              rcases hkm with rfl | rfl | rfl | rfl | rfl
              · exact ⟨.fields, True.intro, q1, rfl, x3_8 _ _ h3⟩
              · exact ⟨.items, True.intro, q2, rfl, x4_8 _ _ h4⟩
              · exact ⟨.field "a", by show SOk "a"; decide +kernel, q3, rfl, x5_8 _ _ h5⟩
              · exact ⟨.item 0, True.intro, q4, rfl, x6_8 _ _ h6⟩
              · exact ⟨.item 3, True.intro, q5, rfl, x7_8 _ _ h7⟩
            refine ⟨q6, _, _, _, rfl, rfl, SqLo h8, hkx, ?_⟩
            have kat8 := kat.ex x2_8
            refine ⟨_, rfl, .inl ⟨rfl, _, SqLo kat8.li⟩, _, rfl, _, rfl, _, _, rfl, .inl ⟨_, SqLo kat8.li, rfl⟩, _, _, rfl, rfl, p, _, rfl, hp2.ex x2_8, by omega, by omega, fun t t0 t1 => ?_⟩
            refine ⟨_, rfl, _, rfl, r.a, _, _, _, rfl, rfl, SqTo (x2_8 _ _ rat2.tu), rfl, szl (by show 2 ≤ 100000; decide), fun q7 nq7 => ?_⟩
            obtain ⟨H9, hH9, x8_9, h9⟩ := newH _ nq7
            rw [hH9]
            clear hH9
            refine ⟨_, rfl, p, 2, rfl, (hp2.ex x2_8).ex x8_9, by decide, by decide, fun z z0 z1 => ?_⟩
            obtain ⟨px, hpx, hpm, _⟩ := at_some (xs := [V.str r.nm, V.str "nobody"]) z0 z1
            obtain ⟨pt, rfl, pto⟩ : ∃ pt, px = V.str pt ∧ SOk pt := by
              simp only [List.mem_cons, List.not_mem_nil, or_false] at hpm
              rcases hpm with rfl | rfl
              · exact ⟨_, rfl, (bi.pb.pt r.row hrow).1⟩
              · exact ⟨_, rfl, by decide +kernel⟩
            refine ⟨q7, _, _, _, rfl, rfl, SqLo h9, hpx, szl (by show 2 ≤ 100000; decide), fun q8 nq8 => ?_⟩
            obtain ⟨H10, hH10, x9_10, h10⟩ := newH _ nq8
            rw [hH10]
            clear hH10
            have x8_10 := x8_9.trans x9_10
            have x2_10 := x2_8.trans x8_10
            have x1_10 := x1_2.trans x2_10
            have kat10 := kat.ex x2_10
            refine ⟨k0.l, _, t, _, rfl, rfl, kat10.li, szlt (by omega), t0, by omega, ?_⟩
            have bi10 := bi.grow x1_10
            rw [es] at bi10
            have ndr := (ls_of bi10.nd).2.2.2.2.1
            obtain ⟨k1, k2, ek, kl1⟩ := split_at hk0
            have hl0 : k0.l ∈ r.ls := List.mem_cons_of_mem _ (List.mem_map_of_mem hk0m)
            have rat10 := rat.ex x1_10
            have tk : TupK H10 (upd H10 k0.l (.lst (k0.xs.take t.toNat ++ [V.ref q8] ++ k0.xs.drop t.toNat))) := tupK_upd kat10.li
            have nd2 := (List.nodup_cons.mp ndr)
            have ndk := nd2.2
            rw [ek, List.map_append, List.map_cons] at ndk
            obtain ⟨d1, d2, d3⟩ := List.nodup_append.mp ndk
            have d4 := (List.nodup_cons.mp d2).1
            have q := BI.put (r' := ⟨r.a, r.c, r.nm, k1 ++ ⟨k0.a, k0.tv, k0.l, k0.xs.take t.toNat ++ [V.ref q8] ++ k0.xs.drop t.toNat, ⟨k0.c.t, k0.c.w, k0.c.vs.take t.toNat ++ [(kd, pt)] ++ k0.c.vs.drop t.toNat⟩⟩ :: k2⟩) (o := .lst (k0.xs.take t.toNat ++ [V.ref q8] ++ k0.xs.drop t.toNat)) bi10 hl0 kat10.li
              ⟨tk _ _ rat10.tu, by
                rw [upd_ne (fun e => nd2.1 (by rw [e]; exact List.mem_map_of_mem hk0m)), rat10.li, ek]
                simp, fun k hk => by
                rw [List.mem_append, List.mem_cons] at hk
                rcases hk with hk | rfl | hk
                · refine (rat10.ks k (by rw [ek]; exact List.mem_append_left _ hk)).keep tk (upd_ne fun e => ?_)
                  exact d3 k.l (List.mem_map_of_mem hk) k0.l List.mem_cons_self e
                · refine ⟨tk _ _ kat10.tu, kat10.rt.tk tk, upd_same, ?_⟩
                  have v0 : Paired (RVis (upd H10 k0.l (.lst (k0.xs.take t.toNat ++ [V.ref q8] ++ k0.xs.drop t.toNat)))) k0.xs k0.c.vs := Paired.imp (fun _ _ q => RVis.tk tk q) kat10.vs
                  refine Paired.app (Paired.app (Paired.take _ v0) (.cons ⟨q8, kx, rfl, tk _ _ h10, ?_⟩ .nil)) (Paired.drop _ v0)
                  exact (rkd.ex x8_10).tk tk
                · refine (rat10.ks k (by rw [ek]; exact List.mem_append_right _ (List.mem_cons_of_mem _ hk))).keep tk (upd_ne fun e => ?_)
                  exact d4 (by rw [← e]; exact List.mem_map_of_mem hk)⟩ rfl (fun b hb => .inl (by
                have eq2 : (⟨r.a, r.c, r.nm, k1 ++ ⟨k0.a, k0.tv, k0.l, k0.xs.take t.toNat ++ [V.ref q8] ++ k0.xs.drop t.toNat, ⟨k0.c.t, k0.c.w, k0.c.vs.take t.toNat ++ [(kd, pt)] ++ k0.c.vs.drop t.toNat⟩⟩ :: k2⟩ : RowS).ls = r.ls := by
                  unfold RowS.ls
                  rw [ek]
                  simp
                rw [← eq2]
                exact hb)) (by
                have eq2 : (⟨r.a, r.c, r.nm, k1 ++ ⟨k0.a, k0.tv, k0.l, k0.xs.take t.toNat ++ [V.ref q8] ++ k0.xs.drop t.toNat, ⟨k0.c.t, k0.c.w, k0.c.vs.take t.toNat ++ [(kd, pt)] ++ k0.c.vs.drop t.toNat⟩⟩ :: k2⟩ : RowS).ls = r.ls := by
                  unfold RowS.ls
                  rw [ek]
                  simp
                rw [eq2]
                exact ndr) (by
                rw [List.map_append, List.map_cons]
                have pb1 := bi.pb
                rw [es, List.map_append, List.map_cons] at pb1
                refine pb_mid pb1 rfl ⟨?_, fun c hc => ?_⟩
                · show ((k1 ++ (⟨k0.a, k0.tv, k0.l, _, _⟩ : CaseS) :: k2).map CaseS.c).length ≤ _
                  rw [ek, List.length_append, List.length_cons] at cl
                  rw [List.length_map, List.length_append, List.length_cons]
                  omega
                · have hc : c ∈ (k1 ++ (⟨k0.a, k0.tv, k0.l, k0.xs.take t.toNat ++ [V.ref q8] ++ k0.xs.drop t.toNat, ⟨k0.c.t, k0.c.w, k0.c.vs.take t.toNat ++ [(kd, pt)] ++ k0.c.vs.drop t.toNat⟩⟩ : CaseS) :: k2).map CaseS.c := hc
                  rw [List.map_append, List.map_cons, List.mem_append, List.mem_cons] at hc
                  have old : ∀ c ∈ r.ks.map CaseS.c, c.t.Ok ∧ (∀ s, c.w = some s → SOk s) ∧ c.vs.length ≤ 20 + (i + 1) ∧ ∀ x ∈ c.vs, x.1.Ok ∧ SOk x.2 := fun c hc => by
                    obtain ⟨c1, c2, c3, c4⟩ := cb c hc
                    exact ⟨c1, c2, by omega, c4⟩
                  rw [ek, List.map_append, List.map_cons] at old
                  rcases hc with hc | rfl | hc
                  · exact old c (List.mem_append_left _ hc)
                  · refine ⟨c1, c2, ?_, fun x hx => ?_⟩
                    · show (k0.c.vs.take t.toNat ++ [(kd, pt)] ++ k0.c.vs.drop t.toNat).length ≤ _
                      rw [List.length_append, List.length_append, List.length_take, List.length_drop, List.length_singleton]
                      omega
                    · have hx : x ∈ k0.c.vs.take t.toNat ++ [(kd, pt)] ++ k0.c.vs.drop t.toNat := hx
                      rw [List.mem_append, List.mem_append] at hx
                      rcases hx with (hx | hx) | hx
                      · exact c4 x (List.mem_of_mem_take hx)
                      · cases List.mem_singleton.mp hx
                        exact ⟨kdo, pto⟩
                      · exact c4 x (List.mem_of_mem_drop hx)
                  · exact old c (List.mem_append_right _ (List.mem_cons_of_mem _ hc)))
            exact ⟨_, _, _, _, _, _, rfl, q, dm_upd (dm.trans (dm_ex x1_10))⟩
          · exact ⟨_, _, _, _, _, _, rfl, bi'.grow x1_2, dm.trans (dm_ex x1_2)⟩
    · rintro σ' H1 ⟨rs1, v2, v3, v4, v5, v6, rfl, bi, dm⟩
      exact k H1 rs1 bi.fr bi.at_ (bi.pb.mono (by omega))
end
end K44

namespace LW
open PySem PySem.Spec L2
theorem inDK {X : Cx} (K : PySem.W.Frag) (hu : X.A.units + 65 < cLine) (h : X.K = K := by rfl) : OpR X (compareOp .In) (rInD K) := by
  subst h
  exact op_inD hu
end LW
namespace K44
open PySem PySem.Spec L2 LW
open Evl (Ex)
/-! ### children that are there twice -/
def wordsB (ks : List Kid) : Bool := ((ks.map kidW).contains "fields" && (ks.map kidW).contains "field") || ((ks.map kidW).contains "items" && (ks.map kidW).contains "item")
def repB (ks : List Kid) : Bool := !decide ks.Nodup || wordsB ks
theorem nd_take {l : List Kid} {i : Nat} {k : Kid} (h : l[i]? = some k) : (l.take (i + 1)).Nodup ↔ (l.take i).Nodup ∧ k ∉ l.take i := by
  have tk : l.take (i + 1) = l.take i ++ [k] := by rw [List.take_add_one, h]; rfl
  rw [tk, List.nodup_append]
  constructor
  · rintro ⟨h1, _, h3⟩
    exact ⟨h1, fun z => h3 k z k (by simp) rfl⟩
  · rintro ⟨h1, h2⟩
    refine ⟨h1, by simp, fun a ha b hb e => ?_⟩
    have : b = k := by simpa using hb
    rw [e, this] at ha
    exact h2 ha
theorem rep_take {l : List Kid} {n : Nat} (h : ¬ (l.take n).Nodup) : repB l = true := by
  unfold repB
  rw [decide_eq_false fun z => h (z.sublist (List.take_sublist _ _))]
  rfl
theorem kid_any {l : List Kid} {k : Kid} (h : ∀ x ∈ l, x.Ok) : ((l.map Kid.d).any fun z => PyData.eqv z k.d) = decide (k ∈ l) := by
  rw [List.any_map, Bool.eq_iff_iff, List.any_eq_true, decide_eq_true_iff]
  constructor
  · rintro ⟨x, hx, e⟩
    by_cases q : x = k
    · rw [← q]
      exact hx
    · rw [Function.comp, kid_ne q] at e
      cases e
  · intro hk
    exact ⟨k, hk, by rw [Function.comp, SeqAt.eqv_refl _ (kid_lay (h k hk))]⟩
theorem words_tail {K : PySem.W.Frag} {σ : L2.St} {j : Nat} {D : Addr} {H3 : Hp} {Q : VK} {kl : List Kid} (hv : ∀ Q' : VK, Q' (.ref D) H3 → tVar j σ H3 Q') (hD : H3 D = some (.lst ((kl.map kidW).map V.str))) (k3 : Q (.bl (wordsB kl)) H3) :
    tOrV (tAndV (tOp (rIn K false) (tC (.str "fields")) (tVar j)) (tOp (rIn K false) (tC (.str "field")) (tVar j))) (tAndV (tOp (rIn K false) (tC (.str "items")) (tVar j)) (tOp (rIn K false) (tC (.str "item")) (tVar j))) σ H3 Q := by
  have fl := flat_strs (kl.map kidW)
  unfold wordsB at k3
  have one : ∀ (z : Str) (Q' : VK), Q' (.bl ((kl.map kidW).contains z)) H3 → tOp (rIn K false) (tC (.str z)) (tVar j) σ H3 Q' := fun z Q' q => by
    refine hv (fun v H => rIn K false (.str z) v H Q') ⟨D, _, rfl, .inl (SqLo hD), rfl, fl, ?_⟩
    rw [inV_strs]
    exact q
  have second : ∀ b, ((kl.map kidW).contains "fields" && (kl.map kidW).contains "field") = b → ∃ c : Bool, V.bl b = V.bl c ∧ if c = true then Q (.bl true) H3 else tAndV (tOp (rIn K false) (tC (.str "items")) (tVar j)) (tOp (rIn K false) (tC (.str "item")) (tVar j)) σ H3 Q := by
    intro b hb
    refine ⟨b, rfl, if_b (fun e => ?_) (fun e => ?_)⟩
    · rw [hb, e, Bool.true_or] at k3
      exact k3
    · rw [hb, e, Bool.false_or] at k3
      refine one _ _ ⟨_, rfl, if_b (fun e2 => ?_) (fun e2 => ?_)⟩
      · rw [e2, Bool.true_and] at k3
        exact one _ _ k3
      · rw [e2, Bool.false_and] at k3
        exact k3
  refine one _ _ ⟨_, rfl, if_b (fun e => ?_) (fun e => ?_)⟩
  · refine one _ _ (second _ ?_)
    rw [e, Bool.true_and]
  · exact second _ (by rw [e, Bool.false_and])
section
variable {P : Program} {w : World} {K : PySem.W.Frag} {mg : Str → Option Value} {base : Heap}
/-! ### has_repeats -/
def spReps : Sp := fun vs H Q _ => ∃ (v : V) (l : List Visit), vs = [v] ∧ RVisL H v l ∧ (∀ x ∈ l, x.1.Ok) ∧ l.length ≤ 40 ∧ ∀ H', Ex H H' → Q (.bl (repB (l.map (·.1)))) H'
theorem sc_has_repeats : FnScope ["visits", "children", "child", "point", "words"] ["visits"] (defScope s_has_repeats) := ⟨rfl, rfl, rfl, by decide +kernel, rfl, by decide +kernel, by decide +kernel⟩
theorem bi_has_repeats : BindsEq "has_repeats" s_has_repeats ["visits"] := fun _ _ _ _ _ _ us hl => match us, hl with | [_], _ => rfl
theorem ok_reps (F : Df K mg "has_repeats" s_has_repeats) (T : Txt K mg) : Cal P w K mg base CX0 1 "has_repeats" spReps := by
  refine cal0 F sc_has_repeats bi_has_repeats (fun vs H Q E h => ?_) (fun f cdv A outer s H vs Q E hr h => ?_)
  · obtain ⟨v, l, rfl, _⟩ := h
    rfl
  · obtain ⟨v, l, rfl, ⟨a, xs, rfl, ha, rv⟩, nr, hl, k⟩ := h
    refine ⟨_, (pss_cons (ps_set (i := 1) sc_has_repeats.nd rfl (Or.inl rfl) (pe_lst pa_nil))
 (pss_cons (ps_for PassesOwn.never rfl (pil K (pv 0)) (pgt (n := 2) K rfl (pgs_cons (pg_name (i := 2) sc_has_repeats.nd rfl (Or.inl rfl)) (pgs_cons (pg_name (i := 3) sc_has_repeats.nd rfl (Or.inl rfl)) pgs_nil))) (pss_cons (ps_if (pt_cmpR (op_inD (units65 hr)) (pv 2) (pv 1) (by rfl)) (pss_one (ps_ret pe_bl)) pss_nil)
 (pss_one (ps_expr (pe_bm PySem.F.plainAttrs_list PySem.F.slot_list_append PySem.F.type_list_append mt_append (pv 1) (pa_cons (pv 2) pa_nil))))))
 (pss_cons (ps_setLc (i := 4) (own := [("child", 2)]) (by rfl) sc_has_repeats.nd rfl rfl (sw_true rfl rfl rfl (by decide +kernel)) (pil K (pv 1)) (blkOk_by (own := [("child", 2)]) (N := ["visits", "children", "child", "point", "words"]) (sc := defScope s_has_repeats) (by decide +kernel)) (fun _ _ _ _ _ => (pg_name (i := 2) sc_has_repeats.nd rfl (Or.inl rfl))) (fun _ _ _ _ _ => pts_nil) (fun _ _ _ _ _ => (pe_ix (ixt K) (pv 2) pe_int (fun _ _ => rfl))))
 (pss_one (ps_ret (pe_or (pe_and (pe_cmpR (inq K) pe_str (pv 4) (by rfl)) (pe_one (pe_cmpR (inq K) pe_str (pv 4) (by rfl)))) (pe_one (pe_and (pe_cmpR (inq K) pe_str (pv 4) (by rfl)) (pe_one (pe_cmpR (inq K) pe_str (pv 4) (by rfl))))))))))), ?_⟩
    refine ⟨szl (by show 0 ≤ 100000; decide), fun p1 np1 => ?_⟩
    obtain ⟨H1, hH1, x0_1, h1⟩ := newH _ np1
    rw [hH1]
    clear hH1
    have f1 := np1
    have lx := Paired.len rv
    have hok : ∀ k ∈ l.map (·.1), k.Ok := fun k hk => by
      obtain ⟨x, hx, rfl⟩ := List.mem_map.mp hk
      exact nr x hx
    refine ⟨_, rfl, a, rfl, ⟨_, SqLo (x0_1 _ _ ha)⟩, for_list (K := K) (a := a) (xs := xs) (fun i σ' H' => ∃ (ys : List V) (v2 v3 : Option V), σ' = [some (.ref a), some (.ref p1), v2, v3, none] ∧ Ex H H' ∧ H' p1 = some (.lst ys) ∧ Paired (RKid H) ys ((l.map (·.1)).take i) ∧ ((l.map (·.1)).take i).Nodup) ?_ ?_ ?_ ?_⟩
    · exact ⟨[], none, none, rfl, x0_1, h1, by rw [List.take_zero]; exact .nil, by rw [List.take_zero]; exact List.nodup_nil⟩
    · rintro i σ' H' _ ⟨ys, v2, v3, _, ex, _⟩
      exact SqLo (ex _ _ ha)
    · rintro i y σ' H2 hi ⟨ys, v2, v3, rfl, x0_2, g1, rk, nd⟩
      obtain ⟨⟨kd, pt⟩, hx, a2, c, rfl, h2, rc⟩ := Paired.get rv hi
      have hx1 : (l.map (·.1))[i]? = some kd := by rw [List.getElem?_map, hx]; rfl
      have tk : (l.map (·.1)).take (i + 1) = (l.map (·.1)).take i ++ [kd] := by rw [List.take_add_one, hx1]; rfl
      have hyl : ys.length ≤ 40 := by
        have q := Paired.len rk
        rw [List.length_take, List.length_map] at q
        omega
      have hok2 : ∀ k ∈ (l.map (·.1)).take i, k.Ok := fun k hk => hok k (List.mem_of_mem_take hk)
      refine ⟨a2, _, rfl, SqTo (x0_2 _ _ h2), rfl, _, _, rfl, _, _, rfl, rfl, ?_⟩
      refine ⟨_, rfl, _, rfl, kd.d, _, (rc.ex x0_2).dp, kids_dp g1 (Paired.imp (fun _ _ r => RKid.ex x0_2 r) rk), shaped_of (kid_lay (hok kd (List.mem_of_getElem? hx1))) (by have := kid_depth kd; omega), kids_shaped hok2, _, rfl, ?_⟩
      rw [kid_any hok2]
      refine if_b (fun e => ?_) (fun e => ?_)
      · have q := k H2 x0_2
        rw [rep_take (n := i + 1) (fun z => ((nd_take hx1).mp z).2 (of_decide_eq_true e))] at q
        exact q
      · refine ⟨_, rfl, .inl ⟨rfl, _, SqLo g1⟩, _, rfl, p1, ys, _, rfl, rfl, g1, szlt (by omega), ys ++ [c], _, _, rfl, Ex.mut x0_2 np1, upd_same, ?_, (nd_take hx1).mpr ⟨nd, of_decide_eq_false e⟩⟩
        rw [tk]
        exact Paired.app rk (.cons rc .nil)
    · rintro σ' H2 ⟨ys, v2, v3, rfl, x0_2, g1, rk, nd⟩
      have e1 : (l.map (·.1)).take xs.length = l.map (·.1) := by
        refine List.take_of_length_le ?_
        rw [List.length_map]
        omega
      rw [e1] at rk nd
      have hkl : (l.map (·.1)).length ≤ 40 := by rw [List.length_map]; exact hl
      generalize l.map (·.1) = kl at rk hok hkl k nd
      have ly := Paired.len rk
      refine ⟨_, rfl, p1, rfl, ⟨_, SqLo g1⟩, fun D nD => lc_list (K := K) (a := p1) (xs := ys) (fun j H' => Ex H2 H' ∧ H' D = some (.lst (((kl.take j).map kidW).map V.str))) ?_ ?_ ?_ ?_⟩
      · exact ⟨Ex.new nD, upd_same⟩
      · rintro j H' _ ⟨ex, _⟩
        exact SqLo (ex _ _ g1)
      · rintro j y H' hj ⟨ex, hD⟩
        obtain ⟨kd, hkd, a3, rfl, h3⟩ := Paired.get rk hj
        have tk : kl.take (j + 1) = kl.take j ++ [kd] := by rw [List.take_add_one, hkd]; rfl
        refine ⟨rfl, _, rfl, a3, _, _, _, rfl, rfl, SqTo (ex _ _ (x0_2 _ _ h3)), kidW_at, _, hD, szlt ?_, Ex.mut ex nD, ?_⟩
        · rw [List.length_map, List.length_map, List.length_take]
          omega
        · rw [upd_same, tk, List.map_append, List.map_append]
          rfl
      · rintro H3 ⟨x2_3, hD⟩
        rw [ly, List.take_length] at hD
        have k3 := k H3 (x0_2.trans x2_3)
        have er : repB kl = wordsB kl := by unfold repB; rw [decide_eq_true nd]; rfl
        rw [er] at k3
        exact words_tail (fun Q' q => ⟨_, rfl, q⟩) hD k3
/-! ### _law_twice -/
theorem sc__law_twice : FnScope ["_law_visits_here", "_law_kids", "_law_words", "_law_visit", "_law_kid", "_law_k"] ["_law_visits_here"] (defScope s__law_twice) := ⟨rfl, rfl, rfl, by decide +kernel, rfl, by decide +kernel, by decide +kernel⟩
theorem bi__law_twice : BindsEq "_law_twice" s__law_twice ["_law_visits_here"] := fun _ _ _ _ _ _ us hl => match us, hl with | [_], _ => rfl
theorem ok_twice (F : Df K mg "_law_twice" s__law_twice) (T : Txt K mg) : Cal P w K mg base CX0 1 "_law_twice" spReps := by
  refine cal0 F sc__law_twice bi__law_twice (fun vs H Q E h => ?_) (fun f cdv A outer s H vs Q E hr h => ?_)
  · obtain ⟨v, l, rfl, _⟩ := h
    rfl
  · obtain ⟨v, l, rfl, ⟨a, xs, rfl, ha, rv⟩, nr, hl, k⟩ := h
    refine ⟨_, (pss_cons (ps_set (i := 1) sc__law_twice.nd rfl (Or.inr rfl) (pe_lc (own := [("_law_visit", 3)]) (by rfl) sc__law_twice.nd (pil K (pv 0)) (blkOk_by (own := [("_law_visit", 3)]) (N := ["_law_visits_here", "_law_kids", "_law_words", "_law_visit", "_law_kid", "_law_k"]) (sc := defScope s__law_twice) (by decide +kernel)) (fun _ _ _ _ _ => (pg_name (i := 3) sc__law_twice.nd rfl (Or.inl rfl))) (fun _ _ _ _ _ => pts_nil) (fun _ _ _ _ _ => (pe_ix (ixt K) (pv 3) pe_int (fun _ _ => rfl)))))
 (pss_cons (ps_setLc (i := 2) (own := [("_law_kid", 4)]) (by rfl) sc__law_twice.nd rfl rfl (sw_true rfl rfl rfl (by decide +kernel)) (pil K (pv 1)) (blkOk_by (own := [("_law_kid", 4)]) (N := ["_law_visits_here", "_law_kids", "_law_words", "_law_visit", "_law_kid", "_law_k"]) (sc := defScope s__law_twice) (by decide +kernel)) (fun _ _ _ _ _ => (pg_name (i := 4) sc__law_twice.nd rfl (Or.inl rfl))) (fun _ _ _ _ _ => pts_nil) (fun _ _ _ _ _ => (pe_ix (ixt K) (pv 4) pe_int (fun _ _ => rfl))))
 (pss_cons (ps_if (pt_cmpR op_gt (pe_callB (lnK K) rfl T.b_len (by decide +kernel) (pa_cons (pe_lc (own := [("_law_k", 5)]) (by rfl) sc__law_twice.nd (pi_range1 rfl T.b_range (pa_cons (pe_callB (lnK K) rfl T.b_len (by decide +kernel) (pa_cons (pv 1) pa_nil)) pa_nil)) (blkOk_by (own := [("_law_k", 5)]) (N := ["_law_visits_here", "_law_kids", "_law_words", "_law_visit", "_law_kid", "_law_k"]) (sc := defScope s__law_twice) (by decide +kernel)) (fun _ _ _ _ _ => (pg_name (i := 5) sc__law_twice.nd rfl (Or.inl rfl))) (fun _ _ _ _ _ => (pts_one (pt_cmpR (inDK K (units65 hr)) (pe_ix (ixl K) (pv 1) (pv 5) (fun _ _ => rfl)) (pe_slice (slK K) (pv 1) po_none (po_some (pv 5))) (by rfl)))) (fun _ _ _ _ _ => (pv 5))) pa_nil)) pe_int (nomark _)) (pss_one (ps_ret pe_bl)) pss_nil)
 (pss_one (ps_ret (pe_or (pe_and (pe_cmpR (inq K) pe_str (pv 2) (by rfl)) (pe_one (pe_cmpR (inq K) pe_str (pv 2) (by rfl)))) (pe_one (pe_and (pe_cmpR (inq K) pe_str (pv 2) (by rfl)) (pe_one (pe_cmpR (inq K) pe_str (pv 2) (by rfl))))))))))), ?_⟩
    have lx := Paired.len rv
    have hok : ∀ k ∈ l.map (·.1), k.Ok := fun k hk => by
      obtain ⟨x, hx, rfl⟩ := List.mem_map.mp hk
      exact nr x hx
    refine ⟨_, rfl, a, rfl, ⟨_, SqLo ha⟩, fun p1 np1 => lc_list (K := K) (a := a) (xs := xs) (fun j H' => Ex H H' ∧ ∃ ys, H' p1 = some (.lst ys) ∧ Paired (RKid H) ys ((l.map (·.1)).take j)) ?_ ?_ ?_ ?_⟩
    · exact ⟨Ex.new np1, [], upd_same, by rw [List.take_zero]; exact .nil⟩
    · rintro j H' _ ⟨ex, _⟩
      exact SqLo (ex _ _ ha)
    · rintro j y H' hj ⟨ex, ys, hD, rk⟩
      obtain ⟨⟨kd, pt⟩, hx, a2, c, rfl, h2, rc⟩ := Paired.get rv hj
      have hx1 : (l.map (·.1))[j]? = some kd := by rw [List.getElem?_map, hx]; rfl
      have tk : (l.map (·.1)).take (j + 1) = (l.map (·.1)).take j ++ [kd] := by rw [List.take_add_one, hx1]; rfl
      have hyl : ys.length ≤ 40 := by
        have q := Paired.len rk
        rw [List.length_take, List.length_map] at q
        omega
      refine ⟨rfl, _, rfl, a2, _, _, _, rfl, rfl, SqTo (ex _ _ h2), rfl, _, hD, szlt (by omega), Ex.mut ex np1, _, upd_same, ?_⟩
      rw [tk]
      exact Paired.app rk (.cons rc .nil)
    · rintro H2 ⟨x0_2, ys, g1, rk⟩
      have e1 : (l.map (·.1)).take xs.length = l.map (·.1) := by
        refine List.take_of_length_le ?_
        rw [List.length_map]
        omega
      rw [e1] at rk
      have hkl : (l.map (·.1)).length ≤ 40 := by rw [List.length_map]; exact hl
      generalize l.map (·.1) = kl at rk hok hkl k
      have ly := Paired.len rk
      refine ⟨_, rfl, p1, rfl, ⟨_, SqLo g1⟩, fun D nD => lc_list (K := K) (a := p1) (xs := ys) (fun j H' => Ex H2 H' ∧ H' D = some (.lst (((kl.take j).map kidW).map V.str))) ?_ ?_ ?_ ?_⟩
      · exact ⟨Ex.new nD, upd_same⟩
      · rintro j H' _ ⟨ex, _⟩
        exact SqLo (ex _ _ g1)
      · rintro j y H' hj ⟨ex, hD⟩
        obtain ⟨kd, hkd, a3, rfl, h3⟩ := Paired.get rk hj
        have tk : kl.take (j + 1) = kl.take j ++ [kd] := by rw [List.take_add_one, hkd]; rfl
        refine ⟨rfl, _, rfl, a3, _, _, _, rfl, rfl, SqTo (ex _ _ (x0_2 _ _ h3)), kidW_at, _, hD, szlt ?_, Ex.mut ex nD, ?_⟩
        · rw [List.length_map, List.length_map, List.length_take]
          omega
        · rw [upd_same, tk, List.map_append, List.map_append]
          rfl
      · rintro H3 ⟨x2_3, hD⟩
        rw [ly, List.take_length] at hD
        have fl := flat_strs (kl.map kidW)
        have x0_3 := x0_2.trans x2_3
        refine ⟨_, rfl, _, _, rfl, .inl ⟨_, SqLo (x2_3 _ _ g1), rfl⟩, _, rfl, by omega, by omega, fun D2 nD2 => lc_range (lo := 0) (n := ((ys.length : Nat) : Int).toNat) (fun j H' => Ex H3 H' ∧ ∃ acc, H' D2 = some (.lst acc) ∧ acc.length ≤ j ∧ (acc = [] ↔ (kl.take j).Nodup)) ?_ ?_ ?_⟩
        · exact ⟨Ex.new nD2, [], upd_same, Nat.le_refl _, by rw [List.take_zero]; exact ⟨fun _ => List.nodup_nil, fun _ => rfl⟩⟩
        · rintro j H4 hj ⟨x3_4, acc, hD2, hal, hac⟩
          have hj2 : j < ys.length := by omega
          have x2_4 := x2_3.trans x3_4
          obtain ⟨kd, hkd, rkd⟩ := Paired.get rk (List.getElem?_eq_getElem hj2)
          have eJ : (0 : Int) + (j : Int) = ((j : Nat) : Int) := by omega
          have hok2 : ∀ k ∈ kl.take j, k.Ok := fun k hk => hok k (List.mem_of_mem_take hk)
          have g4 := x2_4 _ _ g1
          rw [eJ]
          refine ⟨rfl, _, rfl, _, rfl, p1, ys, _, _, rfl, rfl, SqLo g4, atI_nat (List.getElem?_eq_getElem hj2), ?_⟩
          refine ⟨_, rfl, _, rfl, _, rfl, p1, ys, rfl, SqLo g4, fun p5 np5 => ?_⟩
          obtain ⟨H5, hH5, x4_5, h5⟩ := newH _ np5
          rw [hH5]
          clear hH5
          rw [cut_hi (by omega) (by omega), Int.toNat_natCast] at h5
          have x0_5 := (x0_2.trans x2_4).trans x4_5
          refine ⟨kd.d, _, (rkd.ex x0_5).dp, kids_dp h5 (Paired.imp (fun _ _ r => RKid.ex x0_5 r) (Paired.take j rk)), shaped_of (kid_lay (hok kd (List.mem_of_getElem? hkd))) (by have := kid_depth kd; omega), kids_shaped hok2, _, rfl, ?_⟩
          rw [kid_any hok2]
          refine if_b (fun e => ?_) (fun e => ?_)
          · refine ⟨_, rfl, acc, x4_5 _ _ hD2, szlt (by omega), Ex.mut (x3_4.trans x4_5) nD2, _, upd_same, by rw [List.length_append, List.length_singleton]; omega, ?_⟩
            constructor
            · intro z
              exact absurd z (by simp)
            · intro z
              exact absurd (of_decide_eq_true e) ((nd_take hkd).mp z).2
          · refine ⟨x3_4.trans x4_5, acc, x4_5 _ _ hD2, by omega, ?_⟩
            rw [nd_take hkd, hac]
            exact ⟨fun z => ⟨z, of_decide_eq_false e⟩, fun z => z.1⟩
        · rintro H4 ⟨x3_4, acc, hD2, hal, hac⟩
          rw [Int.toNat_natCast, ly, List.take_length] at hac
          have k4 := k H4 (x0_3.trans x3_4)
          refine ⟨_, _, rfl, .inl ⟨_, SqLo hD2, rfl⟩, _, _, rfl, rfl, _, rfl, if_b (fun e => ?_) (fun e => ?_)⟩
          · have e := of_decide_eq_true e
            have nn : ¬ kl.Nodup := fun z => by
              rw [hac.mpr z] at e
              exact absurd e (by decide)
            have q : repB kl = true := by unfold repB; rw [decide_eq_false nn]; rfl
            rw [q] at k4
            exact k4
          · have e := of_decide_eq_false e
            have nn : kl.Nodup := hac.mp (by
              cases acc with
              | nil => rfl
              | cons a b => exact absurd (by show (0 : Int) < ((b.length + 1 : Nat) : Int); omega) e)
            have q : repB kl = wordsB kl := by unfold repB; rw [decide_eq_true nn]; rfl
            rw [q] at k4
            exact words_tail (fun Q' q => ⟨_, rfl, q⟩) (x3_4 _ _ hD) k4
end
end K44

namespace K44
open PySem PySem.Spec L2 LW
open Evl (Ex)
/-! ### what is due -/
inductive Due where
  | dup (s : Str) | rep (s : Str) (k : Nat) | unk (s : Str)
def fst? {α : Type} (n : Nat) (f : Nat → Option α) : Option α := (List.range n).findSome? f
theorem fst_at {α : Type} {n i : Nat} {f : Nat → Option α} {x : α} (hi : i < n) (hb : ∀ j, j < i → f j = none) (h : f i = some x) : fst? n f = some x := by
  unfold fst?
  have e : List.range n = List.range i ++ (List.range' i (n - i)) := by
    rw [List.range_eq_range', List.range_eq_range', show n = i + (n - i) by omega, ← List.range'_append_1, Nat.zero_add]
    congr 2
    omega
  rw [e, List.findSome?_append]
  have e1 : (List.range i).findSome? f = none := List.findSome?_eq_none_iff.mpr fun j hj => hb j (List.mem_range.mp hj)
  rw [e1, Option.none_or]
  cases hk : n - i with
  | zero => omega
  | succ m =>
    rw [List.range'_succ, List.findSome?_cons, h]
theorem fst_no {α : Type} {n : Nat} {f : Nat → Option α} (hb : ∀ j, j < n → f j = none) : fst? n f = none := by
  unfold fst?
  exact List.findSome?_eq_none_iff.mpr fun j hj => hb j (List.mem_range.mp hj)
def dupF (names : List Str) (i : Nat) : Option Str := match names[i]? with
  | some x => if x ∈ names.take i then some x else none
  | none => none
def dupS (names : List Str) : Option Str := fst? names.length (dupF names)
def unkF (names : List Str) (vs : List Visit) (i : Nat) : Option Str := match vs[i]? with
  | some x => if x.2 ∈ names then none else some x.2
  | none => none
def unkS (names : List Str) (vs : List Visit) : Option Str := fst? vs.length (unkF names vs)
def dueC (names : List Str) (nm : Str) (k : Nat) (c : Case) : Option Due := if repB (c.vs.map (·.1)) = true then some (.rep nm k) else (unkS names c.vs).map .unk
def dueCF (names : List Str) (nm : Str) (cs : List Case) (k : Nat) : Option Due := match cs[k]? with
  | some c => dueC names nm k c
  | none => none
def dueCs (names : List Str) (r : Row) : Option Due := fst? r.2.length (dueCF names r.1 r.2)
def dueRF (names : List Str) (rows : List Row) (i : Nat) : Option Due := match rows[i]? with
  | some r => dueCs names r
  | none => none
def dueRs (names : List Str) (rows : List Row) : Option Due := fst? rows.length (dueRF names rows)
def dueP (rows : List Row) : Option Due := match dupS (rows.map (·.1)) with
  | some x => some (.dup x)
  | none => dueRs (rows.map (·.1)) rows
def RDue (H : Hp) (v : V) : Option Due → Prop
  | none => v = .non
  | some (.dup x) => ∃ a, v = .ref a ∧ H a = some (.tup [.str "duplicate", .str x])
  | some (.rep x k) => ∃ a, v = .ref a ∧ H a = some (.tup [.str "repeated", .str x, .int (k : Int)])
  | some (.unk x) => ∃ a, v = .ref a ∧ H a = some (.tup [.str "unknown", .str x])
section
variable {P : Program} {w : World} {K : PySem.W.Frag} {mg : Str → Option Value} {base : Heap}
/-! ### _law_due -/
def spDue : Sp := fun vs H Q _ => ∃ (v : V) (rows : List Row), vs = [v] ∧ RProg H v rows ∧ PB 3 rows ∧ ∀ u H', Ex H H' → RDue H' u (dueP rows) → Q u H'
theorem sc__law_due : FnScope ["_law_program_here", "_law_row", "_law_names", "_law_k", "_law_visit"] ["_law_program_here"] (defScope s__law_due) := ⟨rfl, rfl, rfl, by decide +kernel, rfl, by decide +kernel, by decide +kernel⟩
theorem bi__law_due : BindsEq "_law_due" s__law_due ["_law_program_here"] := fun _ _ _ _ _ _ us hl => match us, hl with | [_], _ => rfl
theorem ok_due (F : Df K mg "_law_due" s__law_due) (T : Txt K mg) (C__law_twice : Cal P w K mg base CX0 1 "_law_twice" spReps) : Cal P w K mg base CX0 2 "_law_due" spDue := by
  refine cal0 F sc__law_due bi__law_due (fun vs H Q E h => ?_) (fun f cdv A outer s H vs Q E hr h => ?_)
  · obtain ⟨v, rows, rfl, _⟩ := h
    rfl
  · obtain ⟨v, rows, rfl, hR, pb, k⟩ := h
    refine ⟨_, (pss_cons (ps_setLc (i := 2) (own := [("_law_row", 1)]) (by rfl) sc__law_due.nd rfl rfl (sw_true rfl rfl rfl (by decide +kernel)) (pil K (pv 0)) (blkOk_by (own := [("_law_row", 1)]) (N := ["_law_program_here", "_law_row", "_law_names", "_law_k", "_law_visit"]) (sc := defScope s__law_due) (by decide +kernel)) (fun _ _ _ _ _ => (pg_name (i := 1) sc__law_due.nd rfl (Or.inl rfl))) (fun _ _ _ _ _ => pts_nil) (fun _ _ _ _ _ => (pe_ix (ixt K) (pv 1) pe_int (fun _ _ => rfl))))
 (pss_cons (ps_for PassesOwn.never rfl (pi_range1 rfl T.b_range (pa_cons (pe_callB (lnK K) rfl T.b_len (by decide +kernel) (pa_cons (pv 2) pa_nil)) pa_nil)) (pg_name (i := 3) sc__law_due.nd rfl (Or.inl rfl)) (pss_one (ps_if (pt_cmpR (inq K) (pe_ix (ixl K) (pv 2) (pv 3) (fun _ _ => rfl)) (pe_slice (slK K) (pv 2) po_none (po_some (pv 3))) (by rfl)) (pss_one (ps_ret (pe_tup (pa_cons pe_str (pa_cons (pe_ix (ixl K) (pv 2) (pv 3) (fun _ _ => rfl)) pa_nil))))) pss_nil)))
 (pss_cons (ps_for PassesOwn.never rfl (pil K (pv 0)) (pg_name (i := 1) sc__law_due.nd rfl (Or.inl rfl)) (pss_one (ps_for PassesOwn.never rfl (pi_range1 rfl T.b_range (pa_cons (pe_callB (lnK K) rfl T.b_len (by decide +kernel) (pa_cons (pe_ix (ixt K) (pv 1) pe_int (fun _ _ => rfl)) pa_nil)) pa_nil)) (pg_name (i := 3) sc__law_due.nd rfl (Or.inl rfl)) (pss_cons (ps_if (pt_val (pe_k C__law_twice hr (by decide) rfl (pa_cons (pe_ix (ixt K) (pe_ix (ixl K) (pe_ix (ixt K) (pv 1) pe_int (fun _ _ => rfl)) (pv 3) (fun _ _ => rfl)) pe_int (fun _ _ => rfl)) pa_nil))) (pss_one (ps_ret (pe_tup (pa_cons pe_str (pa_cons (pe_ix (ixt K) (pv 1) pe_int (fun _ _ => rfl)) (pa_cons (pv 3) pa_nil)))))) pss_nil)
 (pss_one (ps_for PassesOwn.never rfl (pil K (pe_ix (ixt K) (pe_ix (ixl K) (pe_ix (ixt K) (pv 1) pe_int (fun _ _ => rfl)) (pv 3) (fun _ _ => rfl)) pe_int (fun _ _ => rfl))) (pg_name (i := 4) sc__law_due.nd rfl (Or.inl rfl)) (pss_one (ps_if (pt_cmpR (ninq K) (pe_ix (ixt K) (pv 4) pe_int (fun _ _ => rfl)) (pv 2) (by rfl)) (pss_one (ps_ret (pe_tup (pa_cons pe_str (pa_cons (pe_ix (ixt K) (pv 4) pe_int (fun _ _ => rfl)) pa_nil))))) pss_nil))))))))
 (pss_one (ps_ret pe_non))))), ?_⟩
    obtain ⟨a, xs, rfl, ha, rr⟩ := hR
    have lx := Paired.len rr
    have lr := pb.le
    generalize hnm : rows.map (·.1) = names
    have ln : names.length = rows.length := by rw [← hnm, List.length_map]
    refine ⟨_, rfl, a, rfl, ⟨_, SqLo ha⟩, fun p1 np1 => lc_list (K := K) (a := a) (xs := xs) (fun j H' => Ex H H' ∧ H' p1 = some (.lst ((names.take j).map V.str))) ?_ ?_ ?_ ?_⟩
    · exact ⟨Ex.new np1, upd_same⟩
    · rintro j H' _ ⟨ex, _⟩
      exact SqLo (ex _ _ ha)
    · rintro j y H' hj ⟨ex, hD⟩
      obtain ⟨r, hrow, a2, l, rfl, h2, rc⟩ := Paired.get rr hj
      have hn : names[j]? = some r.1 := by rw [← hnm, List.getElem?_map, hrow]; rfl
      have tk : names.take (j + 1) = names.take j ++ [r.1] := by rw [List.take_add_one, hn]; rfl
      refine ⟨rfl, _, rfl, a2, _, _, _, rfl, rfl, SqTo (ex _ _ h2), rfl, _, hD, szlt (by rw [List.length_map, List.length_take]; omega), Ex.mut ex np1, ?_⟩
      rw [upd_same, tk, List.map_append]
      rfl
    · rintro H1 ⟨x0_1, h1⟩
      rw [lx, ← ln, List.take_length] at h1
      -- the names
      refine ⟨_, rfl, _, _, rfl, .inl ⟨_, SqLo h1, rfl⟩, _, rfl, by rw [List.length_map]; omega, by rw [List.length_map]; omega, for_range (lo := 0) (n := (((names.map V.str).length : Nat) : Int).toNat) (fun i σ' H' => ∃ (v2 v3 v4 : Option V), σ' = [some (.ref a), v2, some (.ref p1), v3, v4] ∧ Ex H1 H' ∧ ∀ j, j < i → dupF names j = none) ?_ ?_ ?_⟩
      · exact ⟨_, _, _, rfl, Ex.refl _, fun j hj => by omega⟩
      · rintro i σ' H2 hi ⟨v2, v3, v4, rfl, x1_2, hb⟩
        rw [Int.toNat_natCast, List.length_map] at hi
        have eJ : (0 : Int) + (i : Int) = ((i : Nat) : Int) := by omega
        obtain ⟨x, hx⟩ : ∃ x, names[i]? = some x := ⟨_, List.getElem?_eq_getElem hi⟩
        have hxV : (names.map V.str)[i]? = some (V.str x) := by rw [List.getElem?_map, hx]; rfl
        rw [eJ]
        refine ⟨_, rfl, _, rfl, p1, _, _, _, rfl, rfl, SqLo (x1_2 _ _ h1), atI_nat hxV, _, rfl, _, rfl, _, rfl, p1, _, rfl, SqLo (x1_2 _ _ h1), fun p5 np5 => ?_⟩
        obtain ⟨H3, hH3, x2_3, h3⟩ := newH _ np5
        rw [hH3]
        clear hH3
        rw [cut_hi (by omega) (by rw [List.length_map]; omega), Int.toNat_natCast, ← List.map_take] at h3
        refine ⟨p5, _, rfl, .inl (SqLo h3), rfl, flat_strs _, _, rfl, ?_⟩
        rw [inV_strs]
        have x1_3 := x1_2.trans x2_3
        refine if_b (fun e => ?_) (fun e => ?_)
        · have e : (names.take i).contains x = true := e
          have hF : dupF names i = some x := by
            unfold dupF
            rw [hx]
            show (if x ∈ names.take i then some x else none) = some x
            rw [if_pos (List.contains_iff_mem.mp e)]
          have e0 : dueP rows = some (.dup x) := by
            unfold dueP
            rw [hnm, show dupS names = some x from fst_at hi hb hF]
          rw [e0] at k
          refine ⟨_, rfl, _, rfl, p1, _, _, _, rfl, rfl, SqLo (x1_3 _ _ h1), atI_nat hxV, szl (by show 2 ≤ 100000; decide), fun p6 np6 => ?_⟩
          exact k _ _ (x0_1.trans (x1_3.trans (Ex.new np6))) ⟨p6, rfl, upd_same⟩
        · have e : (names.take i).contains x = false := e
          refine ⟨_, _, _, rfl, x1_3, fun j hj => ?_⟩
          rcases Nat.lt_or_eq_of_le (Nat.lt_succ_iff.mp hj) with z | z
          · exact hb j z
          · subst z
            unfold dupF
            rw [hx]
            show (if x ∈ names.take j then some x else none) = none
            rw [if_neg fun z => by rw [List.contains_iff_mem.mpr z] at e; cases e]
      · rintro σ' H2 ⟨v2, v3, v4, rfl, x1_2, hb⟩
        rw [Int.toNat_natCast, List.length_map] at hb
        have e0 : dueP rows = dueRs names rows := by
          unfold dueP
          rw [hnm, show dupS names = none from fst_no hb]
        rw [e0] at k
        have x0_2 := x0_1.trans x1_2
        have h1' := x1_2 _ _ h1
        refine ⟨_, rfl, a, rfl, ⟨_, SqLo (x0_2 _ _ ha)⟩, for_list (K := K) (a := a) (xs := xs) (fun i σ' H' => ∃ (v2 v3 v4 : Option V), σ' = [some (.ref a), v2, some (.ref p1), v3, v4] ∧ Ex H2 H' ∧ ∀ j, j < i → dueRF names rows j = none) ?_ ?_ ?_ ?_⟩
        · exact ⟨_, _, _, rfl, Ex.refl _, fun j hj => by omega⟩
        · rintro i σ' H' _ ⟨_, _, _, _, ex, _⟩
          exact SqLo (ex _ _ (x0_2 _ _ ha))
        · rintro i y σ' H3 hi ⟨v2, v3, v4, rfl, x2_3, hbr⟩
          obtain ⟨⟨nm, cs⟩, hrow, a2, l, rfl, h2, a3, ys, rfl, h3, rc⟩ := Paired.get rr hi
          have hrm := List.mem_of_getElem? hrow
          have ly : ys.length = cs.length := Paired.len rc
          have x0_3 := x0_2.trans x2_3
          obtain ⟨lcs, okc⟩ := pb.cs _ hrm
          have lcs : cs.length ≤ 9 := lcs
          have done : ∀ d, dueCs names (nm, cs) = some d → dueRs names rows = some d := fun d hd => fst_at (by rw [← lx]; exact (List.getElem?_eq_some_iff.mp hi).1) hbr (by unfold dueRF; rw [hrow]; exact hd)
          refine ⟨_, rfl, a2, _, _, _, rfl, rfl, SqTo (x0_3 _ _ h2), rfl, _, _, rfl, .inl ⟨_, SqLo (x0_3 _ _ h3), rfl⟩, _, rfl, by omega, by omega, for_range (lo := 0) (n := ((ys.length : Nat) : Int).toNat) (fun j σ' H' => ∃ (v2 v4 : Option V), σ' = [some (.ref a), some (.ref a2), some (.ref p1), v2, v4] ∧ Ex H3 H' ∧ ∀ j', j' < j → dueCF names nm cs j' = none) ?_ ?_ ?_⟩
          · exact ⟨_, _, rfl, Ex.refl _, fun j hj => by omega⟩
          · rintro j σ' H4 hj ⟨v2, v4, rfl, x3_4, hbc⟩
            rw [Int.toNat_natCast] at hj
            have eJ : (0 : Int) + (j : Int) = ((j : Nat) : Int) := by omega
            rw [eJ]
            have x0_4 := x0_3.trans x3_4
            obtain ⟨c, hc, a4, tv, lv, hyj, h4, rt, a5, zs, rfl, h5, rvl⟩ := Paired.get rc (List.getElem?_eq_getElem hj)
            have hcm := List.mem_of_getElem? hc
            obtain ⟨_, _, lvs, okv⟩ := okc c hcm
            have lz := Paired.len rvl
            have hat : ys[j]? = some (V.ref a4) := by rw [List.getElem?_eq_getElem hj, hyj]
            have doneC : ∀ d, dueC names nm j c = some d → dueRs names rows = some d := fun d hd => done d (fst_at (show j < cs.length by omega) hbc (by unfold dueCF; rw [hc]; exact hd))
            refine ⟨_, rfl, a2, _, _, _, rfl, rfl, SqTo (x0_4 _ _ h2), rfl, _, rfl, a3, _, _, _, rfl, rfl, SqLo (x0_4 _ _ h3), atI_nat hat, a4, _, _, _, rfl, rfl, SqTo (x0_4 _ _ h4), rfl, .ref a5, c.vs, rfl, ⟨a5, zs, rfl, x0_4 _ _ h5, Paired.imp (fun _ _ q => RVis.ex x0_4 q) rvl⟩, fun x hx => (okv x hx).1, by omega, fun H5 x4_5 => ⟨_, rfl, if_b (fun e => ?_) (fun e => ?_)⟩⟩
            · have hd := doneC (.rep nm j) (by unfold dueC; rw [if_pos e])
              rw [hd] at k
              have x0_5 := x0_4.trans x4_5
              refine ⟨_, rfl, a2, _, _, _, rfl, rfl, SqTo (x0_5 _ _ h2), rfl, _, rfl, szl (by show 3 ≤ 100000; decide), fun p6 np6 => ?_⟩
              exact k _ _ (x0_5.trans (Ex.new np6)) ⟨p6, rfl, upd_same⟩
            · have x0_5 := x0_4.trans x4_5
              refine ⟨_, rfl, a2, _, _, _, rfl, rfl, SqTo (x0_5 _ _ h2), rfl, _, rfl, a3, _, _, _, rfl, rfl, SqLo (x0_5 _ _ h3), atI_nat hat, a4, _, _, _, rfl, rfl, SqTo (x0_5 _ _ h4), rfl, a5, rfl, ⟨_, SqLo (x0_5 _ _ h5)⟩, for_list (K := K) (a := a5) (xs := zs) (fun m σ' H' => ∃ (v4 : Option V), σ' = [some (.ref a), some (.ref a2), some (.ref p1), some (.int (j : Int)), v4] ∧ Ex H5 H' ∧ ∀ j', j' < m → unkF names c.vs j' = none) ?_ ?_ ?_ ?_⟩
              · exact ⟨_, rfl, Ex.refl _, fun j hj => by omega⟩
              · rintro m σ' H' _ ⟨_, _, ex, _⟩
                exact SqLo (ex _ _ (x0_5 _ _ h5))
              · rintro m y σ' H6 hm ⟨v4, rfl, x5_6, hbv⟩
                obtain ⟨⟨kd, pt⟩, hv, a6, kv, rfl, h6, rk⟩ := Paired.get rvl hm
                have x0_6 := x0_5.trans x5_6
                have h16 := (x2_3.trans (x3_4.trans (x4_5.trans x5_6))) _ _ h1'
                refine ⟨_, rfl, a6, _, _, _, rfl, rfl, SqTo (x0_6 _ _ h6), rfl, _, rfl, p1, _, rfl, .inl (SqLo h16), rfl, flat_strs _, _, rfl, ?_⟩
                rw [inV_strs]
                refine if_b (fun e2 => ?_) (fun e2 => ?_)
                · have e2 : (!names.contains pt) = true := e2
                  have hF : unkF names c.vs m = some pt := by
                    unfold unkF
                    rw [hv]
                    show (if pt ∈ names then none else some pt) = some pt
                    rw [if_neg fun z => by rw [List.contains_iff_mem.mpr z] at e2; cases e2]
                  have hd := doneC (.unk pt) (by
                    unfold dueC
                    rw [if_neg (by rw [e]; decide), show unkS names c.vs = some pt from fst_at (by rw [← lz]; exact (List.getElem?_eq_some_iff.mp hm).1) hbv hF]
                    rfl)
                  rw [hd] at k
                  refine ⟨_, rfl, a6, _, _, _, rfl, rfl, SqTo (x0_6 _ _ h6), rfl, szl (by show 2 ≤ 100000; decide), fun p7 np7 => ?_⟩
                  exact k _ _ (x0_6.trans (Ex.new np7)) ⟨p7, rfl, upd_same⟩
                · have e2 : (!names.contains pt) = false := e2
                  refine ⟨_, rfl, x5_6, fun j' hj' => ?_⟩
                  rcases Nat.lt_or_eq_of_le (Nat.lt_succ_iff.mp hj') with z | z
                  · exact hbv j' z
                  · subst z
                    unfold unkF
                    rw [hv]
                    show (if pt ∈ names then none else some pt) = none
                    rw [if_pos (List.contains_iff_mem.mp (by rw [Bool.not_eq_false'] at e2; exact e2))]
              · rintro σ' H6 ⟨v4, rfl, x5_6, hbv⟩
                refine ⟨_, _, rfl, x3_4.trans (x4_5.trans x5_6), fun j' hj' => ?_⟩
                rcases Nat.lt_or_eq_of_le (Nat.lt_succ_iff.mp hj') with z | z
                · exact hbc j' z
                · subst z
                  unfold dueCF
                  rw [hc]
                  show dueC names nm j' c = none
                  unfold dueC
                  rw [if_neg (by rw [e]; decide), show unkS names c.vs = none from fst_no (fun j hj => hbv j (by omega))]
                  rfl
          · rintro σ' H4 ⟨v2, v4, rfl, x3_4, hbc⟩
            rw [Int.toNat_natCast] at hbc
            refine ⟨_, _, _, rfl, x2_3.trans x3_4, fun j hj => ?_⟩
            rcases Nat.lt_or_eq_of_le (Nat.lt_succ_iff.mp hj) with z | z
            · exact hbr j z
            · subst z
              unfold dueRF
              rw [hrow]
              exact fst_no fun j hj => hbc j (by rw [ly]; exact hj)
        · rintro σ' H3 ⟨v2, v3, v4, rfl, x2_3, hbr⟩
          have q := k .non H3 (x0_2.trans x2_3)
          rw [show dueRs names rows = none from fst_no (fun j hj => hbr j (by omega))] at q
          exact q rfl
end
end K44

namespace LW
open PySem PySem.Spec L2
open Evl (Ex)
/-! ### an instance made in a try: what is raised by its __init__ is wished for at the slots -/
def tMakeS (C : Addr) (sp : Sp) (E : L2.St → XK) (t : TA) : TE := fun σ H Q => t σ H fun vs H1 => ∀ x dx, H1 x = none → H1 dx = none → dx ≠ x →
  sp (.ref x :: vs) (upd (upd H1 dx (.own x)) x (.ins C dx [])) (fun v H2 => v = .non ∧ Q (.ref x) H2) (E σ)
section
variable {X : Cx} {CX : CXT} {k j : Nat} {C : Addr} {x : Str} {sp : Sp} {e : Expr} {es : List Expr} {t : TA} {p pos : Pos}
theorem run_mkS {pins : List (Addr × Obj)} {σ : L2.St} {H : Hp} {s : Shared} {Q : VK} {E : XK} {us : List Value} {vs : List V} {f : Addr} {fd : FuncData} {ps : List Str}
    (M : Mk X.K C f) (F : FnOk X.prog X.w X.K X.mg X.base CX k f fd ps sp)
    (hr : Room (k + 1) X.A) (hb : Binds X.K fd ps []) (hx : PassesAt CX X σ E) (I : L2.Inv X pins σ H s) (rl : Vals vs us)
    (h : ∀ x dx, H x = none → H dx = none → dx ≠ x →
      sp (.ref x :: vs) (upd (upd H dx (.own x)) x (.ins C dx [])) (fun v H2 => v = .non ∧ Q (.ref x) H2) E) :
    wpAny (model X.prog X.w) X.A (call (.ref C) us) (EP X pins σ Q) X.xe s := by
  have J := Inv.made (C := C) I
  have hs := h (s.heap.objs.size + 1) s.heap.objs.size (I.hok.fresh (Nat.le_succ _)) (I.hok.fresh (Nat.le_refl _)) (fun z => absurd z (Nat.ne_of_lt (Nat.lt_succ_self _)))
  have rl2 : Vals (V.ref (s.heap.objs.size + 1) :: vs) (.ref (s.heap.objs.size + 1) :: us) := .cons rfl rl
  have ln : (Value.ref (s.heap.objs.size + 1) :: us).length = ps.length := rl2.length.symm.trans (F.len _ _ _ _ hs)
  have bd := hb _ _ J.kIn (by rw [List.append_nil]; exact ln)
  rw [List.append_nil] at bd
  have run := F.run _ X.stack _ _ _ _ _ _ E (hr.make C us []) (J.env0.make C us []) bd rl2 hs
  refine wpAny_call (make_map (f := f) I.kIn M.makes M.init (beq_iff_eq.mp M.fn) (codeAny_mono run ?_))
  rintro (ex | fl) s' z
  · exact hx pins _ _ ex s' J z
  · cases fl with
    | ret u =>
      obtain ⟨v, H', I3, rv, rfl, q3⟩ := J.after z
      exact ⟨rv, .ref (s.heap.objs.size + 1), H', I3, rfl, q3⟩
    | _ => exact z.elim
theorem pe_mkrS {W : WX} (c : Mkr X.prog X.w X.K X.mg X.base (L2.CX X.prog X.w) k x C sp) (hr : Room j X.A) (hk : k + 1 ≤ j) (tk : Takes X W) (hg : Gl X x) (ha : PA X (e :: es) t)
    (hdb : (x == ("__debug__" : Str)) = false := by decide) (he : starEach (e :: es) X.env = (false, eval e X.env) :: starEach es X.env := by rfl) (hpl : (backTo pos (starEach es X.env)).any (·.1) = false := by rfl) :
    PE X (.Call (.Name x p) (e :: es) [] pos) (tMakeS C sp (WE W) t) := by
  obtain ⟨f, fd, ps, M, F, hm, b⟩ := c.ex
  constructor
  intro pins s σ H Q I h
  refine wpAny_Call_Name_kw (ld_glob I hg hm ?_ hdb)
  refine PySem.W.callWith_K (h₀ := X.base) I.ok.mod.kin M.kp (thn (ha.run pos pins s σ H _ I h) ?_) he hpl
  rintro us s1 ⟨vs, H1, I1, r, q⟩
  exact ⟨I1.kIn, run_mkS M F (hr.mono hk) b (passAt tk σ) I1 r q⟩
end
/-! ### exceptions with two fields -/
def spXI2 (K : PySem.W.Frag) (C : Addr) (f g : Str) : Sp := fun vs H Q _ => ∃ (a : Addr) (v u : V), vs = [.ref a, v, u] ∧ H a = some (exo a C none) ∧ ∀ dx, H dx = none → dx ≠ a → Q .non (upd (upd (upd H dx (exd dx [(f, v)])) a (exo a C (some dx))) dx (exd dx [(g, u), (f, v)]))
structure XMk2 (P : Program) (w : World) (K : PySem.W.Frag) (mg : Str → Option Value) (base : Heap) (k : Nat) (x : Str) (C : Addr) (f g : Str) : Prop where
  cl : XCl K mg x C
  ex : ∃ (fI : Addr) (fd : FuncData) (ps : List Str), PySem.W.findIn K (.ref C) "__init__" = some (some (.ref fI)) ∧ PySem.W.typeIn K (.ref fI) = some (.type "function") ∧ FnOk P w K mg base CX0 k fI fd ps (spXI2 K C f g) ∧ Binds K fd ps []
section
variable {X : Cx} {k j : Nat} {C : Addr} {x f g : Str} {e e2 : Expr} {ta : TA} {p pos pos2 : Pos}
theorem pmk_x2 (M : XMk2 X.prog X.w X.K X.mg X.base k x C f g) (hr : Room j X.A) (hj : k + 1 ≤ j) (hg : Gl X x) (ha : PA X [e, e2] ta) (hdb : (x == ("__debug__" : Str)) = false := by decide)
    (he : starEach [e, e2] X.env = (false, eval e X.env) :: starEach [e2] X.env := by rfl) (hpl : (backTo pos (starEach [e2] X.env)).any (·.1) = false := by rfl) : PMk X (.Call (.Name x p) [e, e2] [] pos) (tMkO C (spXI2 X.K C f g) [] ta) := by
  obtain ⟨fI, fd, ps, iC, tI, F1, hb⟩ := M.ex
  exact pmk_oex M.cl.ox iC tI F1 (hr.mono hj) hb .nil (pass0) hg M.cl.gC ha hdb he hpl
end
theorem xmk_go2 {K : PySem.W.Frag} {C : Addr} {f g : Str} {v u : V} {H1 : Hp} {Q : XK} (h : ∀ d H2, H1 d = none → Ex H1 H2 → H2 d = some (.xd [(g, u), (f, v)]) → Q (.ref C) (some d) H2) :
    [v, u].length ≤ 1000 ∧ ∀ a, H1 a = none → spXI2 K C f g (.ref a :: ([v, u] ++ [])) (upd H1 a (exo a C none)) (fun v' H2 => v' = .non ∧ ∃ (d : Addr) (fs : List (Str × V)), H2 a = some (exo a C (some d)) ∧ H2 d = some (exd d fs) ∧ H1 d = none ∧ Q (.ref C) (some d) (upd (del H2 a) d (.xd fs))) (fun _ _ _ => False) := by
  refine ⟨by show 2 ≤ 1000; decide, fun a na => ⟨a, v, u, rfl, upd_same, fun dx ndx ne => ?_⟩⟩
  rw [upd_ne ne] at ndx
  refine ⟨rfl, dx, [(g, u), (f, v)], by rw [upd_ne (Ne.symm ne), upd_same], upd_same, ndx, h dx _ ndx (fun b o q => ?_) upd_same⟩
  have hb : b ≠ a := ne_of_none q na
  have hd : b ≠ dx := ne_of_none q ndx
  rw [upd_ne hd, del_ne hb, upd_ne hd, upd_ne hb, upd_ne hd, upd_ne hb]
  exact q
end LW

/-! exceptions of own classes whose context is None (L2N): made, raised, let out of a method, caught -/
namespace LW
open PySem PySem.Spec L2
open Evl (Ex)
section
variable {X : Cx}
/-- an exception of a class of the program, by its own __init__; nothing is handled at its making -/
theorem pmkN {CX : CXT} {x : Str} {C g : Addr} {k : Nat} {fd : FuncData} {ps : List Str} {sp : Sp} {e : Expr} {es : List Expr} {ta : TA} {p pos : Pos}
    (T : OexC X.K C) (iC : PySem.W.findIn X.K (.ref C) "__init__" = some (some (.ref g)))
    (tI : PySem.W.typeIn X.K (.ref g) = some (.type "function")) (Fi : FnOk X.prog X.w X.K X.mg X.base CX k g fd ps sp)
    (hr : Room (k + 1) X.A) (hb : Binds X.K fd ps []) (hx : Passes CX X (fun _ _ _ => False)) (hg : Gl X x) (hm : X.mg x = some (.ref C)) (ha : PA X (e :: es) ta)
    (hdb : (x == ("__debug__" : Str)) = false := by decide) (he : starEach (e :: es) X.env = (false, eval e X.env) :: starEach es X.env := by rfl) (hpl : (backTo pos (starEach es X.env)).any (·.1) = false := by rfl) :
    L2N.PMk X (.Call (.Name x p) (e :: es) [] pos) (tMkO C sp [] ta) := by
  intro pins s σ H Q I h
  obtain ⟨cn, cq, N, bs, bm, sn, sub, ab, col, dd, c0, c1, c2, c3, c5, hC, hbm⟩ := T.cls
  refine wpAny_Call_Name_kw (ld_glob I hg hm ?_ hdb)
  refine PySem.W.callWith_K (h₀ := X.base) I.ok.mod.kin T.kC (thn (ha.run pos pins s σ H _ I h) ?_) he hpl
  rintro us ⟨hp, gs, dr, tk, os⟩ ⟨vs, H1, I1, r1, hz, q1⟩
  refine ⟨I1.kIn, ?_⟩
  show wpAny _ _ (call (.ref C) us) _ _ _
  let na : Addr := hp.objs.size + 1
  let h2 : Heap := (hp.push (PySem.W.kdv_tup us)).push (PySem.HandSPX.excO C hp.objs.size)
  have le1 : hp.objs.size ≤ na := Nat.le_succ _
  have spq := q1 na (I1.hok.fresh le1)
  have kk : ∀ b o, hp.get? b = some o → h2.get? b = some o := fun b o z => Heap.get?_push_of_some _ (Heap.get?_push_of_some _ z)
  have at2 : h2.get? na = some (PySem.HandSPX.excO C hp.objs.size) := by
    show ((hp.push (PySem.W.kdv_tup us)).push (PySem.HandSPX.excO C hp.objs.size)).get? (hp.objs.size + 1) = _
    heap_get
  have I2 : L2.Inv X pins σ (upd H1 na (exo na C none)) ⟨h2, gs, dr, tk, os⟩ := I1.laid (t' := tk) kk le1 (exo_ok at2)
  rw [List.append_nil] at spq
  have rv2 : Vals (V.ref na :: vs) (Value.ref na :: us) := .cons rfl r1
  have ln : (Value.ref na :: us).length = ps.length := rv2.length.symm.trans (Fi.len _ _ _ _ spq)
  have lu : us.length ≤ sizeLine := by
    rw [← Paired.length r1]
    exact szl (by omega)
  have bd := hb _ (Value.ref na :: us) I2.kIn (by rw [List.append_nil]; exact ln)
  rw [List.append_nil] at bd
  have run := Fi.run _ X.stack _ _ _ _ _ _ (fun _ _ _ => False) (hr.make C us []) (I2.env0.make C us []) bd rv2 spq
  refine wpAny_call (PySem.HandSPX.call_own F.excBase_ValueError (fun Y => PySem.HandSPX.refsVE_contains Y bm hbm) (I1.kIn _ _ hC) (PySem.W.looks_findIn I1.kIn iC) (fun self => PySem.W.bind_fn I1.kIn self tI) lu (codeAny_mono run ?_))
  rintro (er | fl) s' z
  · exact hx pins σ _ _ er s' I2 z
  · cases fl with
    | ret u =>
      obtain ⟨v, H2, os2, bare2, un2, hok2, rv, ev, d, fs, ea, ed, hd1, q2⟩ := z
      subst ev
      obtain ⟨hh, g2, d2, t2, os'⟩ := s'
      obtain ⟨t0, G, J, kG, ge, hoe, nn⟩ := mk_end0 (d2 := d2) (t2 := t2) I1 le1 kk un2 hok2 os2 bare2 ea ed hd1
      refine ⟨rv, na, _, _, ⟨G, g2, d2, t2, os'⟩, _, .ref C, some d, rfl, J, kG, ge, hoe, ⟨rfl, rfl, fun ws e => ?_⟩, rfl, rfl, nn, rfl, bare2, raises_own T.exC T.tyC, q2⟩
      cases e
      rfl
    | _ => exact z.elim
end
section
variable {X : Cx} {k j : Nat} {C : Addr} {x f g : Str} {e e2 : Expr} {ta : TA} {p pos pos2 : Pos}
theorem pmk_xN (M : XMk X.prog X.w X.K X.mg X.base k x C f) (hr : Room j X.A) (hj : k + 1 ≤ j) (hg : Gl X x) (ha : PA X [e] ta) (hdb : (x == ("__debug__" : Str)) = false := by decide)
    (he : starEach [e] X.env = (false, eval e X.env) :: starEach [] X.env := by rfl) (hpl : (backTo pos (starEach [] X.env)).any (·.1) = false := by rfl) : L2N.PMk X (.Call (.Name x p) [e] [] pos) (tMkO C (spXI X.K C f) [] ta) := by
  obtain ⟨fI, fd, ps, iC, tI, F1, hb⟩ := M.ex
  exact pmkN M.cl.ox iC tI F1 (hr.mono hj) hb (pass0) hg M.cl.gC ha hdb he hpl
theorem pmk_x2N (M : XMk2 X.prog X.w X.K X.mg X.base k x C f g) (hr : Room j X.A) (hj : k + 1 ≤ j) (hg : Gl X x) (ha : PA X [e, e2] ta) (hdb : (x == ("__debug__" : Str)) = false := by decide)
    (he : starEach [e, e2] X.env = (false, eval e X.env) :: starEach [e2] X.env := by rfl) (hpl : (backTo pos (starEach [e2] X.env)).any (·.1) = false := by rfl) : L2N.PMk X (.Call (.Name x p) [e, e2] [] pos) (tMkO C (spXI2 X.K C f g) [] ta) := by
  obtain ⟨fI, fd, ps, iC, tI, F1, hb⟩ := M.ex
  exact pmkN M.cl.ox iC tI F1 (hr.mono hj) hb (pass0) hg M.cl.gC ha hdb he hpl
end
section
variable {P : Program} {w : World} {K : PySem.W.Frag} {mg : Str → Option Value} {base : Heap} {C : Addr} {m qual : Str} {st : Stmt} {N ps : List Str} {k : Nat} {sp : Sp}
theorem mtN (c : Cls K C) (F : Dm_ K C m qual st) (S : FnScope N ps (defScope st)) (hb : BindsM m qual st ps) (len : ∀ vs H Q E, sp vs H Q E → vs.length = ps.length)
    (hbody : ∀ (f : Addr) (cdv : Value) (A : Around) (outer : List Env) (s : Shared) (H : Hp) (vs : List V) (Q : VK) (E : XK), Room k (A.deeper (PyProof.Rows.envOfC qual (defScope st) s.heap.objs.size f cdv)) → sp vs H Q E →
      ∃ t, PSs (cxOf (L2N.CX P w) P w K mg base N qual (defScope st) f cdv A outer s H E) (defBody st) t ∧ t { nx := fun _ H' => Q .non H', rt := Q } (start N vs) H) : Mt P w K mg base (L2N.CX P w) (k + 1) C m sp := by
  obtain ⟨g, fd, F, hm⟩ := F.ex
  exact ⟨g, fd, ps, c, hm, F.ok S len (fun cdv A outer s H vs Q E hr h => hbody g cdv A outer s H vs Q E hr h), F.bindsN hb⟩
end
/-! ### in a try: what is raised is wished for at the slots -/
def tMethW (C : Addr) (m : Str) (sp : Sp) (E : L2.St → XK) (to : TE) (t : TA) : TE := fun σ H Q => to σ H fun x H1 => ∃ a dx fs, x = .ref a ∧ H1 a = some (.ins C dx fs) ∧ fs.lookup m = none ∧ t σ H1 fun vs H2 => sp (.ref a :: vs) H2 Q (E σ)
section
variable {X : Cx} {k j : Nat} {C : Addr} {m x : Str} {sp : Sp} {o e : Expr} {es : List Expr} {to : TE} {t : TA} {p apos pos : Pos} {pl : Sem Bool}
theorem pe_mW {W : WX} (c : Mt X.prog X.w X.K X.mg X.base (L2N.CX X.prog X.w) k C m sp) (hr : Room j X.A) (hk : k ≤ j) (tk : L2N.Takes X W) (he : PE X o to) (ha : PA X (e :: es) t)
    (hst : starEach (e :: es) X.env = (false, eval e X.env) :: starEach es X.env := by rfl) (hpl : (backTo pos (starEach es X.env)).any (·.1) = false := by rfl)
    (ht : eval (.Call (.Attribute o m apos) (e :: es) [] pos) X.env = (do
      let ov ← eval o X.env
      standAt apos.atName
      let (f, first) ← holding [ov] (getMethod ov m pl)
      callWith pos f first (backTo pos (starEach (e :: es) X.env)) (backToKw pos (keywordEach [] X.env))) := by rfl) :
    PE X (.Call (.Attribute o m apos) (e :: es) [] pos) (tMethW C m sp (WE W) to t) := by
  obtain ⟨g, fd, ps, cl, hm, F, b⟩ := c.ex
  constructor
  intro pins s σ H Q I h
  refine PySem.W.methodCall_KW (pl := pl) (thn (he.run pins s σ H _ I h) ?_) ht
  rintro u s1 ⟨x, H1, I1, rx, a, dx, fs, rfl, ea, l, q⟩
  obtain rfl : u = Value.ref a := rx
  refine getmeth_ok I1 ea cl hm l (PySem.W.callWith_K (first := [.ref a]) (h₀ := X.base) I.ok.mod.kin hm.kp (thn (ha.run pos pins s1 σ H1 _ I1 q) ?_) hst hpl)
  rintro us s2 ⟨vs, H2, I2, r, q2⟩
  exact ⟨I2.kIn, run_fnS (E := fun _ => WE W σ) (σ := σ) (us := .ref a :: us) (vs := .ref a :: vs) F (hr.mono hk) b (L2N.passAt tk σ) I2 (.cons rfl r) q2⟩
theorem pe_mkrW {W : WX} (c : Mkr X.prog X.w X.K X.mg X.base (L2N.CX X.prog X.w) k x C sp) (hr : Room j X.A) (hk : k + 1 ≤ j) (tk : L2N.Takes X W) (hg : Gl X x) (ha : PA X (e :: es) t)
    (hdb : (x == ("__debug__" : Str)) = false := by decide) (he : starEach (e :: es) X.env = (false, eval e X.env) :: starEach es X.env := by rfl) (hpl : (backTo pos (starEach es X.env)).any (·.1) = false := by rfl) :
    PE X (.Call (.Name x p) (e :: es) [] pos) (tMakeS C sp (WE W) t) := by
  obtain ⟨f, fd, ps, M, F, hm, b⟩ := c.ex
  constructor
  intro pins s σ H Q I h
  refine wpAny_Call_Name_kw (ld_glob I hg hm ?_ hdb)
  refine PySem.W.callWith_K (h₀ := X.base) I.ok.mod.kin M.kp (thn (ha.run pos pins s σ H _ I h) ?_) he hpl
  rintro us s1 ⟨vs, H1, I1, r, q⟩
  exact ⟨I1.kIn, run_mkS M F (hr.mono hk) b (L2N.passAt tk σ) I1 r q⟩
end
end LW

namespace K44
open PySem PySem.Spec L2 LW
open Evl (Ex)
/-! ### a looker in the heap -/
theorem oc : ¬ (("order" : Str) = "chart") := by decide +kernel
def lfs (o d : Addr) : List (Str × V) := putF "chart" (.ref d) (putF "order" (.ref o) [])
theorem lfs_order (o d : Addr) : (lfs o d).lookup ("order" : Str) = some (.ref o) := by
  unfold lfs
  rw [lookup_putF, if_neg oc, lookup_putF, if_pos rfl]
theorem lfs_chart (o d : Addr) : (lfs o d).lookup ("chart" : Str) = some (.ref d) := by
  unfold lfs
  rw [lookup_putF, if_pos rfl]
theorem lfs_no (o d : Addr) {m : Str} (h1 : ¬ m = "chart") (h2 : ¬ m = "order") : (lfs o d).lookup m = none := by
  unfold lfs
  rw [lookup_putF, if_neg h1, lookup_putF, if_neg h2]
  all_goals rfl
def RK (H : Hp) (p : Key × V) (r : Row) : Prop := p.1 = Sum.inr r.1 ∧ RCaseL H p.2 r.2
theorem RK.ex {H H' : Hp} {p : Key × V} {r : Row} (e : Ex H H') (h : RK H p r) : RK H' p r := ⟨h.1, h.2.ex e⟩
def LkAt (C : Addr) (H : Hp) (x : Addr) (rows : List Row) : Prop := ∃ (dx o d : Addr) (kvs : List (Key × V)), H x = some (.ins C dx (lfs o d)) ∧ H o = some (.lst (rows.map fun r => V.str r.1)) ∧ H d = some (.dK kvs) ∧ Paired (RK H) kvs rows
theorem LkAt.ex {C : Addr} {H H' : Hp} {x : Addr} {rows : List Row} (e : Ex H H') (h : LkAt C H x rows) : LkAt C H' x rows := by
  obtain ⟨dx, o, d, kvs, h1, h2, h3, h4⟩ := h
  exact ⟨dx, o, d, kvs, e _ _ h1, e _ _ h2, e _ _ h3, Paired.imp (fun _ _ r => RK.ex e r) h4⟩
theorem val_none {H : Hp} {pt : Str} : ∀ {kvs : List (Key × V)} {rows : List Row}, Paired (RK H) kvs rows → pt ∉ rows.map (·.1) → valV kvs (Sum.inr pt : Key) = none
  | _, _, .nil, _ => rfl
  | p :: kvs, r :: rows, .cons h t, hn => by
    rw [List.map_cons, List.mem_cons, not_or] at hn
    rw [valV_neg (p := p) (fun e => hn.1 (by rw [h.1] at e; exact (Sum.inr.inj e).symm))]
    exact val_none t hn.2
theorem val_some {H : Hp} {r : Row} : ∀ {kvs : List (Key × V)} {rows : List Row}, Paired (RK H) kvs rows → (rows.map (·.1)).Nodup → r ∈ rows → ∃ v, valV kvs (Sum.inr r.1 : Key) = some v ∧ RCaseL H v r.2
  | _, _, .nil, _, hm => by cases hm
  | p :: kvs, q :: rows, .cons h t, nd, hm => by
    rw [List.map_cons, List.nodup_cons] at nd
    rcases List.mem_cons.mp hm with e | hm
    · subst e
      exact ⟨p.2, valV_pos (p := p) h.1, h.2⟩
    · have ne : ¬ p.1 = (Sum.inr r.1 : Key) := fun e => nd.1 (by
        rw [h.1] at e
        rw [Sum.inr.inj e]
        exact List.mem_map_of_mem hm)
      rw [valV_neg (p := p) ne]
      exact val_some t nd.2 hm
/-- what the class Looker and the class of its error leave -/
structure TxL (K : PySem.W.Frag) (mg : Str → Option Value) (C : Addr) : Prop where
  cl : Cls K C
  nO : NoAttr K C "order"
  nC : NoAttr K C "chart"

/-- a looker, its lists told by their addresses -/
def RowS.In (H : Hp) (r : RowS) : Prop := H r.c = some (.lst (r.ks.map fun k => V.ref k.a)) ∧ ∀ k ∈ r.ks, k.At H
structure LkF (C : Addr) (H : Hp) (x o d : Addr) (rs : List RowS) : Prop where
  ins : ∃ dx, H x = some (.ins C dx (lfs o d))
  ord : H o = some (.lst (rs.map fun r => V.str r.nm))
  cht : H d = some (.dK (rs.map fun r => ((Sum.inr r.nm : Key), V.ref r.c)))
  rws : ∀ r ∈ rs, r.In H
def lkL (x o d : Addr) (rs : List RowS) : List Addr := x :: o :: d :: (rs.map RowS.ls).flatten
theorem RowS.In.keep {H H' : Hp} {r : RowS} (h : r.In H) (e : TupK H H') (hl : ∀ b ∈ r.ls, H' b = H b) : r.In H' := ⟨by rw [hl _ List.mem_cons_self]; exact h.1, fun k hk => (h.2 k hk).keep e (hl _ (List.mem_cons_of_mem _ (List.mem_map_of_mem hk)))⟩
theorem RowS.In.ex {H H' : Hp} {r : RowS} (e : Ex H H') (h : r.In H) : r.In H' := ⟨e _ _ h.1, fun k hk => (h.2 k hk).ex e⟩
theorem RowS.In.r {H : Hp} {r : RowS} (h : r.In H) : RCaseL H (.ref r.c) r.row.2 := ⟨r.c, _, rfl, h.1, paired_map fun k hk => (h.2 k hk).r⟩
theorem LkF.keep {C : Addr} {H H' : Hp} {x o d : Addr} {rs : List RowS} (h : LkF C H x o d rs) (e : TupK H H') (hl : ∀ b ∈ lkL x o d rs, H' b = H b) : LkF C H' x o d rs := by
  obtain ⟨⟨dx, h1⟩, h2, h3, h4⟩ := h
  refine ⟨⟨dx, by rw [hl x (by unfold lkL; simp)]; exact h1⟩, by rw [hl o (by unfold lkL; simp)]; exact h2, by rw [hl d (by unfold lkL; simp)]; exact h3, fun r hr => (h4 r hr).keep e fun b hb => hl b ?_⟩
  unfold lkL
  simp only [List.mem_cons]
  exact .inr (.inr (.inr (List.mem_flatten.mpr ⟨_, List.mem_map_of_mem hr, hb⟩)))
theorem LkF.ex {C : Addr} {H H' : Hp} {x o d : Addr} {rs : List RowS} (e : Ex H H') (h : LkF C H x o d rs) : LkF C H' x o d rs := by
  obtain ⟨⟨dx, h1⟩, h2, h3, h4⟩ := h
  exact ⟨⟨dx, e _ _ h1⟩, e _ _ h2, e _ _ h3, fun r hr => (h4 r hr).ex e⟩
theorem LkF.lk {C : Addr} {H : Hp} {x o d : Addr} {rs : List RowS} (h : LkF C H x o d rs) : LkAt C H x (rs.map RowS.row) := by
  obtain ⟨⟨dx, h1⟩, h2, h3, h4⟩ := h
  refine ⟨dx, o, d, _, h1, ?_, h3, paired_map fun r hr => ⟨rfl, (h4 r hr).r⟩⟩
  rw [h2, List.map_map]
  rfl
theorem LkF.some {C : Addr} {H : Hp} {x o d : Addr} {rs : List RowS} (h : LkF C H x o d rs) : ∀ b ∈ lkL x o d rs, ∃ u, H b = some u := fun b hb => by
  obtain ⟨⟨dx, h1⟩, h2, h3, h4⟩ := h
  unfold lkL at hb
  simp only [List.mem_cons] at hb
  rcases hb with rfl | rfl | rfl | hb
  · exact ⟨_, h1⟩
  · exact ⟨_, h2⟩
  · exact ⟨_, h3⟩
  · obtain ⟨l, hl, hb⟩ := List.mem_flatten.mp hb
    obtain ⟨r, hr, rfl⟩ := List.mem_map.mp hl
    rcases List.mem_cons.mp hb with rfl | hb
    · exact ⟨_, (h4 r hr).1⟩
    · obtain ⟨k, hk, rfl⟩ := List.mem_map.mp hb
      exact ⟨_, ((h4 r hr).2 k hk).li⟩
/-- how what is due is raised -/
def XDue (CD CU CR : Addr) (H : Hp) (E : XK) : Due → Prop
  | .dup x => ∀ d H', Ex H H' → H' d = some (.xd [("point", .str x)]) → E (.ref CD) (some d) H'
  | .rep x k => ∀ d H', Ex H H' → H' d = some (.xd [("case", .int (k : Int)), ("point", .str x)]) → E (.ref CR) (some d) H'
  | .unk x => ∀ d H', Ex H H' → H' d = some (.xd [("point", .str x)]) → E (.ref CU) (some d) H'
section
variable {P : Program} {w : World} {K : PySem.W.Frag} {mg : Str → Option Value} {base : Heap} {C CU CD CR : Addr}
/-! ### the __init__ of the exceptions -/
theorem sc_UnknownPoint___init__ : FnScope ["self", "point"] ["self", "point"] (defScope s_UnknownPoint___init__) := ⟨rfl, rfl, rfl, by decide +kernel, rfl, by decide +kernel, by decide +kernel⟩
theorem bi_UnknownPoint___init__ : BindsM "__init__" "UnknownPoint.__init__" s_UnknownPoint___init__ ["self", "point"] := fun _ _ _ _ _ _ us hl => match us, hl with | [_, _], _ => rfl
theorem ok_uinit {f0 : Addr} {fd0 : FuncData} (F : FunD K "__init__" "UnknownPoint.__init__" (defArgs s_UnknownPoint___init__) (defBody s_UnknownPoint___init__) (defScope s_UnknownPoint___init__) [] [] f0 fd0) (ox : OexC K CU) (no : PySem.W.findIn K (.ref CU) "point" = some none) :
    FnOk P w K mg base CX0 1 f0 fd0 ["self", "point"] (spXI K CU "point") := by
  refine F.ok sc_UnknownPoint___init__ (fun vs H Q E h => ?_) (fun cdv A outer s H vs Q E hr h => ?_)
  · obtain ⟨a, v, rfl, _⟩ := h
    rfl
  · obtain ⟨a, v, rfl, ha, k⟩ := h
    refine ⟨_, PSs.nox (pss_one (ps_ost (pv 0) (pv 1))), ?_⟩
    exact ⟨_, rfl, _, rfl, a, CU, rfl, ox, no, .inl ⟨ha, fun dx h1 h2 => k dx h1 h2⟩⟩
theorem sc_DuplicatePoint___init__ : FnScope ["self", "point"] ["self", "point"] (defScope s_DuplicatePoint___init__) := ⟨rfl, rfl, rfl, by decide +kernel, rfl, by decide +kernel, by decide +kernel⟩
theorem bi_DuplicatePoint___init__ : BindsM "__init__" "DuplicatePoint.__init__" s_DuplicatePoint___init__ ["self", "point"] := fun _ _ _ _ _ _ us hl => match us, hl with | [_, _], _ => rfl
theorem ok_dinit {f0 : Addr} {fd0 : FuncData} (F : FunD K "__init__" "DuplicatePoint.__init__" (defArgs s_DuplicatePoint___init__) (defBody s_DuplicatePoint___init__) (defScope s_DuplicatePoint___init__) [] [] f0 fd0) (ox : OexC K CD) (no : PySem.W.findIn K (.ref CD) "point" = some none) :
    FnOk P w K mg base CX0 1 f0 fd0 ["self", "point"] (spXI K CD "point") := by
  refine F.ok sc_DuplicatePoint___init__ (fun vs H Q E h => ?_) (fun cdv A outer s H vs Q E hr h => ?_)
  · obtain ⟨a, v, rfl, _⟩ := h
    rfl
  · obtain ⟨a, v, rfl, ha, k⟩ := h
    refine ⟨_, PSs.nox (pss_one (ps_ost (pv 0) (pv 1))), ?_⟩
    exact ⟨_, rfl, _, rfl, a, CD, rfl, ox, no, .inl ⟨ha, fun dx h1 h2 => k dx h1 h2⟩⟩
theorem sc_RepeatedChild___init__ : FnScope ["self", "point", "case"] ["self", "point", "case"] (defScope s_RepeatedChild___init__) := ⟨rfl, rfl, rfl, by decide +kernel, rfl, by decide +kernel, by decide +kernel⟩
theorem bi_RepeatedChild___init__ : BindsM "__init__" "RepeatedChild.__init__" s_RepeatedChild___init__ ["self", "point", "case"] := fun _ _ _ _ _ _ us hl => match us, hl with | [_, _, _], _ => rfl
theorem ok_rinit {f0 : Addr} {fd0 : FuncData} (F : FunD K "__init__" "RepeatedChild.__init__" (defArgs s_RepeatedChild___init__) (defBody s_RepeatedChild___init__) (defScope s_RepeatedChild___init__) [] [] f0 fd0) (ox : OexC K CR) (no : PySem.W.findIn K (.ref CR) "point" = some none) (no2 : PySem.W.findIn K (.ref CR) "case" = some none) :
    FnOk P w K mg base CX0 1 f0 fd0 ["self", "point", "case"] (spXI2 K CR "point" "case") := by
  refine F.ok sc_RepeatedChild___init__ (fun vs H Q E h => ?_) (fun cdv A outer s H vs Q E hr h => ?_)
  · obtain ⟨a, v, u, rfl, _⟩ := h
    rfl
  · obtain ⟨a, v, u, rfl, ha, k⟩ := h
    refine ⟨_, PSs.nox (pss_cons (ps_ost (pv 0) (pv 1)) (pss_one (ps_ost (pv 0) (pv 2)))), ?_⟩
    refine ⟨_, rfl, _, rfl, a, CR, rfl, ox, no, .inl ⟨ha, fun dx h1 h2 => ?_⟩⟩
    exact ⟨_, rfl, _, rfl, a, CR, rfl, ox, no2, .inr ⟨dx, _, upd_same, by rw [upd_ne h2, upd_same], by show 1 ≤ 900; decide, k dx h1 h2⟩⟩
/-! ### check_visits -/
def spCheck (C CD CU CR : Addr) : Sp := fun vs H Q E => ∃ (x : Addr) (nm : Str) (k : Nat) (v : V) (rows : List Row) (c : Case), vs = [.ref x, .str nm, .int (k : Int), v] ∧ LkAt C H x rows ∧ RVisL H v c.vs ∧ (∀ x ∈ c.vs, x.1.Ok) ∧ (rows.map (·.1)).Nodup ∧ c.vs.length ≤ 40 ∧
  (dueC (rows.map (·.1)) nm k c = none → ∀ H', Ex H H' → Q .non H') ∧ ∀ d, dueC (rows.map (·.1)) nm k c = some d → XDue CD CU CR H E d
theorem sc_Looker_check_visits : FnScope ["self", "name", "number", "visits", "child", "point"] ["self", "name", "number", "visits"] (defScope s_Looker_check_visits) := ⟨rfl, rfl, rfl, by decide +kernel, rfl, by decide +kernel, by decide +kernel⟩
theorem bi_Looker_check_visits : BindsM "check_visits" "Looker.check_visits" s_Looker_check_visits ["self", "name", "number", "visits"] := fun _ _ _ _ _ _ us hl => match us, hl with | [_, _, _, _], _ => rfl
theorem ok_check (F : Dm_ K C "check_visits" "Looker.check_visits" s_Looker_check_visits) (T : Txt K mg) (L : TxL K mg C) (C_has_repeats : Cal P w K mg base CX0 1 "has_repeats" spReps) (X_UnknownPoint : XMk P w K mg base 1 "UnknownPoint" CU "point") (X_RepeatedChild : XMk2 P w K mg base 1 "RepeatedChild" CR "point" "case") : Mt P w K mg base (L2N.CX P w) 3 C "check_visits" (spCheck C CD CU CR) := by
  refine mtN L.cl F sc_Looker_check_visits bi_Looker_check_visits (fun vs H Q E h => ?_) (fun f cdv A outer s H vs Q E hr h => ?_)
  · obtain ⟨x, nm, k, v, rows, c, rfl, _⟩ := h
    rfl
  · obtain ⟨x, nm, kn, v, rows, c, rfl, lk, rv, vo, nd, hl, k1, k2⟩ := h
    have hu := hu_of hr
    refine ⟨_, (pss_cons (ps_if (pt_val (pe_k C_has_repeats hr (by decide) rfl (pa_cons (pv 3) pa_nil))) (pss_one (L2N.ps_raise rfl (L2N.takes_of rfl rfl rfl rfl) (pmk_x2N X_RepeatedChild hr (by decide) rfl (pa_cons (pv 1) (pa_cons (pv 2) pa_nil))))) pss_nil)
 (pss_one (ps_for (passes_of rfl) rfl (pil K (pv 3)) (pgt (n := 2) K rfl (pgs_cons (pg_name (i := 4) sc_Looker_check_visits.nd rfl (Or.inl rfl)) (pgs_cons (pg_name (i := 5) sc_Looker_check_visits.nd rfl (Or.inl rfl)) pgs_nil))) (pss_one (ps_if (pt_cmp (pc_dnotin hu (pv 5) (pfl K (pv 0) rfl))) (pss_one (L2N.ps_raise rfl (L2N.takes_of rfl rfl rfl rfl) (pmk_xN X_UnknownPoint hr (by decide) rfl (pa_cons (pv 5) pa_nil)))) pss_nil))))), ?_⟩
    refine ⟨_, rfl, v, c.vs, rfl, rv, vo, hl, fun H1 x0_1 => ⟨_, rfl, if_b (fun e => ?_) (fun e => ?_)⟩⟩
    · have q := k2 (.rep nm kn) (by unfold dueC; rw [if_pos e])
      exact ⟨_, rfl, _, rfl, xmk_go2 fun d H2 _ e2 hd => q d H2 (x0_1.trans e2) hd⟩
    · obtain ⟨a, xs, rfl, ha, rl⟩ := rv
      have lx := Paired.len rl
      have du : dueC (rows.map (·.1)) nm kn c = (unkS (rows.map (·.1)) c.vs).map .unk := by unfold dueC; rw [if_neg (by rw [e]; decide)]
      rw [du] at k1 k2
      refine ⟨_, rfl, a, rfl, ⟨_, SqLo (x0_1 _ _ ha)⟩, for_list (K := K) (a := a) (xs := xs) (fun i σ' H' => ∃ (v4 v5 : Option V), σ' = [some (.ref x), some (.str nm), some (.int (kn : Int)), some (.ref a), v4, v5] ∧ Ex H H' ∧ ∀ j, j < i → unkF (rows.map (·.1)) c.vs j = none) ?_ ?_ ?_ ?_⟩
      · exact ⟨none, none, rfl, x0_1, fun j hj => by omega⟩
      · rintro i σ' H' _ ⟨_, _, _, ex, _⟩
        exact SqLo (ex _ _ ha)
      · rintro i y σ' H2 hi ⟨v4, v5, rfl, x0_2, hb⟩
        obtain ⟨⟨kd, pt⟩, hx, a2, kv, rfl, h2, rc⟩ := Paired.get rl hi
        obtain ⟨dx, o, d, kvs, g1, g2, g3, rk⟩ := lk.ex x0_2
        refine ⟨a2, _, rfl, SqTo (x0_2 _ _ h2), rfl, _, _, rfl, _, _, rfl, rfl, ?_⟩
        refine ⟨_, rfl, _, rfl, x, C, dx, _, _, rfl, g1, L.cl, L.nC, lfs_chart _ _, d, _, rfl, DGet.k (k := Sum.inr pt) g3, _, rfl, ?_⟩
        by_cases hm : pt ∈ rows.map (·.1)
        · obtain ⟨r, hr', er⟩ := List.mem_map.mp hm
          obtain ⟨u, hu', _⟩ := val_some rk nd hr'
          rw [er] at hu'
          rw [hu']
          refine ⟨_, _, rfl, x0_2, fun j hj => ?_⟩
          rcases Nat.lt_or_eq_of_le (Nat.lt_succ_iff.mp hj) with z | z
          · exact hb j z
          · subst z
            unfold unkF
            rw [hx]
            show (if pt ∈ rows.map (·.1) then none else some pt) = none
            rw [if_pos hm]
        · rw [val_none rk hm]
          have hF : unkF (rows.map (·.1)) c.vs i = some pt := by
            unfold unkF
            rw [hx]
            show (if pt ∈ rows.map (·.1) then none else some pt) = some pt
            rw [if_neg hm]
          have q := k2 (.unk pt) (by rw [show unkS (rows.map (·.1)) c.vs = some pt from fst_at (by rw [← lx]; exact (List.getElem?_eq_some_iff.mp hi).1) hb hF]; rfl)
          exact ⟨_, rfl, xmk_go fun d H3 _ e2 hd => q d H3 (x0_2.trans e2) hd⟩
      · rintro σ' H2 ⟨v4, v5, rfl, x0_2, hb⟩
        exact k1 (by rw [show unkS (rows.map (·.1)) c.vs = none from fst_no (fun j hj => hb j (by omega))]; rfl) H2 x0_2
end
end K44

namespace K44
open PySem PySem.Spec L2 LW
open Evl (Ex)
/-! ### a heap without three addresses -/
def dl (x y z : Addr) (H : Hp) : Hp := del (del (del H x) y) z
theorem dl_get {x y z a : Addr} {H : Hp} {o : HO} (h : H a = some o) (n1 : a ≠ x) (n2 : a ≠ y) (n3 : a ≠ z) : dl x y z H a = some o := del_get (del_get (del_get h n1) n2) n3
theorem dl_some {x y z a : Addr} {H : Hp} {o : HO} (h : dl x y z H a = some o) : H a = some o ∧ a ≠ x ∧ a ≠ y ∧ a ≠ z := by
  unfold dl at h
  by_cases e3 : a = z
  · rw [e3, del_same] at h
    cases h
  rw [del_ne e3] at h
  by_cases e2 : a = y
  · rw [e2, del_same] at h
    cases h
  rw [del_ne e2] at h
  by_cases e1 : a = x
  · rw [e1, del_same] at h
    cases h
  rw [del_ne e1] at h
  exact ⟨h, e1, e2, e3⟩
theorem dl_mono {x y z : Addr} {H H' : Hp} (k : ∀ b o, b ≠ x → b ≠ y → b ≠ z → H b = some o → H' b = some o) : Ex (dl x y z H) (dl x y z H') := fun a o h => by
  obtain ⟨h, e1, e2, e3⟩ := dl_some h
  exact dl_get (k a o e1 e2 e3 h) e1 e2 e3
theorem dl_sub {x y z : Addr} {H : Hp} : Ex (dl x y z H) H := fun a o h => (dl_some h).1
theorem dl_of {x y z : Addr} {Hs H : Hp} (e : Ex Hs H) (n1 : Hs x = none) (n2 : Hs y = none) (n3 : Hs z = none) : Ex Hs (dl x y z H) := fun a o h => dl_get (e a o h) (ne_of_none h n1) (ne_of_none h n2) (ne_of_none h n3)

theorem dup_none {names : List Str} (h : ∀ j, j < names.length → dupF names j = none) : names.Nodup := by
  rw [List.nodup_iff_pairwise_ne, List.pairwise_iff_getElem]
  intro i j hi hj hij e
  have := h j hj
  unfold dupF at this
  rw [List.getElem?_eq_getElem hj] at this
  have hm : names[j] ∈ names.take j := by
    rw [← e]
    exact List.mem_take_iff_getElem.mpr ⟨i, by omega, rfl⟩
  have this : (if names[j] ∈ names.take j then some names[j] else none) = none := this
  rw [if_pos hm] at this
  cases this
section
variable {P : Program} {w : World} {K : PySem.W.Frag} {mg : Str → Option Value} {base : Heap} {C CD CU CR : Addr}
def spLInit (C CD CU CR : Addr) : Sp := fun vs H Q E => ∃ (x dx : Addr) (v : V) (Hs : Hp) (rows : List Row), vs = [.ref x, v] ∧ H x = some (.ins C dx []) ∧ Hs x = none ∧ Ex Hs H ∧ RProg Hs v rows ∧ PB 4 rows ∧
  (dueP rows = none → ∀ H' o d rs, Ex Hs H' → LkF C H' x o d rs → rs.map RowS.row = rows → (∀ b ∈ lkL x o d rs, Hs b = none) → Q .non H') ∧ ∀ d, dueP rows = some d → XDue CD CU CR Hs E d
theorem sc_Looker___init__ : FnScope ["self", "rows", "name", "cases", "number", "case", "test", "word", "visits"] ["self", "rows"] (defScope s_Looker___init__) := ⟨rfl, rfl, rfl, by decide +kernel, rfl, by decide +kernel, by decide +kernel⟩
theorem bi_Looker___init__ : BindsM "__init__" "Looker.__init__" s_Looker___init__ ["self", "rows"] := fun _ _ _ _ _ _ us hl => match us, hl with | [_, _], _ => rfl
theorem ok_linit {f0 : Addr} {fd0 : FuncData} (F : FunD K "__init__" "Looker.__init__" (defArgs s_Looker___init__) (defBody s_Looker___init__) (defScope s_Looker___init__) [] [] f0 fd0) (T : Txt K mg) (L : TxL K mg C) (X_DuplicatePoint : XMk P w K mg base 1 "DuplicatePoint" CD "point") (M_check : Mt P w K mg base (L2N.CX P w) 3 C "check_visits" (spCheck C CD CU CR)) :
    FnOk P w K mg base (L2N.CX P w) 4 f0 fd0 ["self", "rows"] (spLInit C CD CU CR) := by
  refine F.ok sc_Looker___init__ (fun vs H Q E h => ?_) (fun cdv A outer s H vs Q E hr h => ?_)
  · obtain ⟨x, dx, v, Hs, rows, rfl, _⟩ := h
    rfl
  · obtain ⟨x, dx, v, Hs, rows, rfl, hx, nx, es, hR, po, kQ, kE⟩ := h
    have hu := hu_of hr
    refine ⟨_, (pss_cons (ps_fld (pv 0) (pe_lst pa_nil) rfl)
 (pss_cons (ps_fld (pv 0) pe_dnewK rfl)
 (pss_cons (ps_for (passes_of rfl) rfl (pil K (pv 1)) (pgt (n := 2) K rfl (pgs_cons (pg_name (i := 2) sc_Looker___init__.nd rfl (Or.inl rfl)) (pgs_cons (pg_name (i := 3) sc_Looker___init__.nd rfl (Or.inl rfl)) pgs_nil))) (pss_cons (ps_if (pt_cmp (pc_din hu (pv 2) (pfl K (pv 0) rfl))) (pss_one (L2N.ps_raise rfl (L2N.takes_of rfl rfl rfl rfl) (pmk_xN X_DuplicatePoint hr (by decide) rfl (pa_cons (pv 2) pa_nil)))) pss_nil)
 (pss_cons (ps_expr (pe_bm PySem.F.plainAttrs_list PySem.F.slot_list_append PySem.F.type_list_append mt_append (pfl K (pv 0) rfl) (pa_cons (pv 2) pa_nil)))
 (pss_one (ps_dput hu (pfl K (pv 0) rfl) (pv 2) (pe_lc (own := [("test", 6), ("word", 7), ("visits", 8)]) (by rfl) sc_Looker___init__.nd (pil K (pv 3)) (blkOk_by (own := [("test", 6), ("word", 7), ("visits", 8)]) (N := ["self", "rows", "name", "cases", "number", "case", "test", "word", "visits"]) (sc := defScope s_Looker___init__) (by decide +kernel)) (fun _ _ _ _ _ => (pgt (n := 3) K rfl (pgs_cons (pg_name (i := 6) sc_Looker___init__.nd rfl (Or.inl rfl)) (pgs_cons (pg_name (i := 7) sc_Looker___init__.nd rfl (Or.inl rfl)) (pgs_cons (pg_name (i := 8) sc_Looker___init__.nd rfl (Or.inl rfl)) pgs_nil))))) (fun _ _ _ _ _ => pts_nil) (fun _ _ _ _ _ => (pe_tup (pa_cons (pv 6) (pa_cons (pv 7) (pa_cons (pe_callTy (lofK K) rfl T.b_list (by decide +kernel) (pa_cons (pv 8) pa_nil)) pa_nil)))))) rfl)))))
 (pss_one (ps_for (passes_of rfl) rfl (pil K (pfl K (pv 0) rfl)) (pg_name (i := 2) sc_Looker___init__.nd rfl (Or.inl rfl)) (pss_one (ps_for (passes_of rfl) rfl (pi_enum rfl T.b_enumerate (pa_cons (pe_dget hu (pfl K (pv 0) rfl) (pv 2) (fun _ _ => rfl)) pa_nil)) (pgt (n := 2) K rfl (pgs_cons (pg_name (i := 4) sc_Looker___init__.nd rfl (Or.inl rfl)) (pgs_cons (pg_name (i := 5) sc_Looker___init__.nd rfl (Or.inl rfl)) pgs_nil))) (pss_one (ps_expr (pe_mx M_check hr (by decide) (L2N.passes_call (L2N.takes_of rfl rfl rfl rfl) (fun _ _ _ _ h => h)) (pv 0) (pa_cons (pv 2) (pa_cons (pv 4) (pa_cons (pe_ix (ixt K) (pv 5) pe_int (fun _ _ => rfl)) pa_nil))))))))))))), ?_⟩
    -- self.order = []; self.chart = {}
    refine ⟨szl (by show 0 ≤ 100000; decide), fun p1 np1 => ?_⟩
    have n1x : p1 ≠ x := fun e => by rw [e, hx] at np1; cases np1
    refine ⟨_, rfl, x, C, dx, _, rfl, (by rw [upd_ne (Ne.symm n1x)]; exact hx), L.cl, L.nO, (by show 0 < 1000; decide), fun p2 np2 => ?_⟩
    have n2x : p2 ≠ x := fun e => by rw [e, upd_same] at np2; cases np2
    rw [upd_ne n2x] at np2
    have n21 : p2 ≠ p1 := fun e => by rw [e, upd_same] at np2; cases np2
    rw [upd_ne n21] at np2
    refine ⟨_, rfl, x, C, dx, _, rfl, (by rw [upd_ne (Ne.symm n2x), upd_same]), L.cl, L.nC, (by show 1 < 1000; decide), ?_⟩
    have s1 : Hs p1 = none := ex_free es np1
    have s2 : Hs p2 = none := ex_free es np2
    obtain ⟨H1, hH1, e1, g0, g1, g2⟩ : ∃ H1, upd (upd (upd (upd H p1 (.lst [])) x (.ins C dx (putF "order" (.ref p1) []))) p2 (.dK [])) x (.ins C dx (putF "chart" (.ref p2) (putF "order" (.ref p1) []))) = H1 ∧ Ex Hs H1 ∧ H1 x = some (.ins C dx (lfs p1 p2)) ∧ H1 p1 = some (.lst []) ∧ H1 p2 = some (.dK []) := by
      refine ⟨_, rfl, Ex.mut (Ex.mut (Ex.mut (Ex.mut es s1) nx) s2) nx, upd_same, ?_, ?_⟩
      · rw [upd_ne n1x, upd_ne (Ne.symm n21), upd_ne n1x, upd_same]
      · rw [upd_ne n2x, upd_same]
    rw [hH1]
    clear hH1
    obtain ⟨a, xs, rfl, ha, rr⟩ := hR
    have lx := Paired.len rr
    generalize hnm : rows.map (·.1) = names
    have ln : names.length = rows.length := by rw [← hnm, List.length_map]
    -- the first loop
    refine ⟨_, rfl, a, rfl, ⟨_, SqLo (e1 _ _ ha)⟩, for_list (K := K) (a := a) (xs := xs) (fun i σ' H' => ∃ (rs : List RowS) (v2 v3 v6 v7 v8 : Option V), σ' = [some (.ref x), some (.ref a), v2, v3, none, none, v6, v7, v8] ∧
        Ex Hs H' ∧ H' x = some (.ins C dx (lfs p1 p2)) ∧ H' p1 = some (.lst (rs.map fun r => V.str r.nm)) ∧ H' p2 = some (.dK (rs.map fun r => ((Sum.inr r.nm : Key), V.ref r.c))) ∧ (∀ r ∈ rs, r.In (dl x p1 p2 H')) ∧ rs.map RowS.row = rows.take i ∧ (∀ b ∈ (rs.map RowS.ls).flatten, Hs b = none) ∧ ∀ j, j < i → dupF names j = none) ?_ ?_ ?_ ?_⟩
    · exact ⟨[], none, none, none, none, none, rfl, e1, g0, g1, g2, nofun, by rw [List.take_zero]; rfl, nofun, fun j hj => by omega⟩
    · rintro i σ' H' _ ⟨_, _, _, _, _, _, _, ex, _⟩
      exact SqLo (ex _ _ ha)
    · clear g0 g1 g2 e1
      rintro i y σ' H2 hi ⟨rs, v2, v3, v6, v7, v8, rfl, e2, g0, g1, g2, rk, em, frs, hb⟩
      obtain ⟨⟨pt, cs⟩, hrow, a2, l, rfl, h2, a3, ys, rfl, h3, rc⟩ := Paired.get rr hi
      have tk : rows.take (i + 1) = rows.take i ++ [(pt, cs)] := by rw [List.take_add_one, hrow]; rfl
      have hn : names[i]? = some pt := by rw [← hnm, List.getElem?_map, hrow]; rfl
      have hin : i < names.length := (List.getElem?_eq_some_iff.mp hn).1
      have enm : rs.map (·.nm) = names.take i := by
        have : (rs.map RowS.row).map (·.1) = names.take i := by rw [em, List.map_take, hnm]
        rw [List.map_map] at this
        exact this
      have hcs : cs.length ≤ 10 := (po.cs (pt, cs) (List.mem_of_getElem? hrow)).1
      have ly : ys.length = cs.length := Paired.len rc
      have hkl : rs.length ≤ 16 := by
        have q : rs.length = (rows.take i).length := by rw [← em, List.length_map]
        rw [List.length_take] at q
        have := po.le
        omega
      have rk2 : Paired (RK (dl x p1 p2 H2)) (rs.map fun r => ((Sum.inr r.nm : Key), V.ref r.c)) (rs.map RowS.row) := paired_map fun r hr => ⟨rfl, (rk r hr).r⟩
      have enm2 : (rs.map RowS.row).map (·.1) = names.take i := by rw [List.map_map]; exact enm
      refine ⟨a2, _, rfl, SqTo (e2 _ _ h2), rfl, _, _, rfl, _, _, rfl, rfl, ?_⟩
      -- if name in self.chart
      refine ⟨_, rfl, _, rfl, x, C, dx, _, _, rfl, g0, L.cl, L.nC, lfs_chart _ _, p2, _, rfl, DGet.k (k := Sum.inr pt) g2, _, rfl, ?_⟩
      by_cases hpn : pt ∈ names.take i
      · have hsm : ∃ u, valV (rs.map fun r => ((Sum.inr r.nm : Key), V.ref r.c)) (Sum.inr pt : Key) = some u := by
          rw [← enm] at hpn
          obtain ⟨r, hr', rfl⟩ := List.mem_map.mp hpn
          have h1 : (valV (rs.map fun r => ((Sum.inr r.nm : Key), V.ref r.c)) (Sum.inr r.nm : Key)).isSome = true := by
            rw [← valV_any, List.any_map]
            exact List.any_eq_true.mpr ⟨r, hr', by simp⟩
          exact Option.isSome_iff_exists.mp h1
        obtain ⟨u, hu1⟩ := hsm
        rw [hu1]
        have hF : dupF names i = some pt := by
          unfold dupF
          rw [hn]
          show (if pt ∈ names.take i then some pt else none) = some pt
          rw [if_pos hpn]
        have q := kE (.dup pt) (by unfold dueP; rw [hnm, show dupS names = some pt from fst_at hin hb hF])
        exact ⟨_, rfl, xmk_go fun d H3 _ e3 hd => q d H3 (e2.trans e3) hd⟩
      have hvn := val_none (pt := pt) rk2 (by rw [enm2]; exact hpn)
      rw [hvn]
      -- self.order.append(name)
      refine ⟨_, rfl, x, C, dx, _, _, rfl, g0, L.cl, L.nO, lfs_order _ _, .inl ⟨rfl, _, SqLo g1⟩, _, rfl, p1, _, _, rfl, rfl, g1, szlt (by rw [List.length_map]; omega), ?_⟩
      obtain ⟨H3, hH3, e3, k3, h31⟩ : ∃ H3, upd H2 p1 (.lst ((rs.map fun r => V.str r.nm) ++ [V.str pt])) = H3 ∧ Ex Hs H3 ∧ (∀ b o, b ≠ p1 → H2 b = some o → H3 b = some o) ∧ H3 p1 = some (.lst ((rs.map fun r => V.str r.nm) ++ [V.str pt])) :=
        ⟨_, rfl, Ex.mut e2 s1, fun b o ne h => by rw [upd_ne ne]; exact h, upd_same⟩
      rw [hH3]
      clear hH3
      have g0' := k3 _ _ (Ne.symm n1x) g0
      have g2' := k3 _ _ n21 g2
      -- self.chart[name] = [..]
      refine ⟨_, rfl, a3, rfl, ⟨_, SqLo (e3 _ _ h3)⟩, fun p4 np4 => lc_list (K := K) (a := a3) (xs := ys) (fun j H' => Ex H3 H' ∧ ∃ ks : List CaseS, H' p4 = some (.lst (ks.map fun k => V.ref k.a)) ∧ (∀ k ∈ ks, k.At (del (dl x p1 p2 H') p4)) ∧ ks.map (·.c) = cs.take j ∧ ∀ k ∈ ks, Hs k.l = none) ?_ ?_ ?_ ?_⟩
      · exact ⟨Ex.new np4, [], upd_same, nofun, by rw [List.take_zero]; rfl, nofun⟩
      · rintro j H' _ ⟨ex, _⟩
        exact SqLo (ex _ _ (e3 _ _ h3))
      · rintro j y H4 hj ⟨x3_4, ks, g4, ru, emk, frk⟩
        obtain ⟨c, hc, a4, tv, lv, rfl, h4, rt, a5, vs, rfl, h5, rvl⟩ := Paired.get rc hj
        have es4 := e3.trans x3_4
        have tkc : cs.take (j + 1) = cs.take j ++ [c] := by rw [List.take_add_one, hc]; rfl
        have hul : ks.length ≤ 10 := by
          have q : ks.length = (cs.take j).length := by rw [← emk, List.length_map]
          rw [List.length_take] at q
          omega
        refine ⟨a4, _, rfl, SqTo (es4 _ _ h4), rfl, _, _, rfl, _, _, rfl, _, _, rfl, rfl, rfl, _, rfl, _, rfl, _, rfl, a5, vs, rfl, .inl (SqLo (es4 _ _ h5)), fun p6 np6 => ?_⟩
        obtain ⟨H6, hH6, x4_6, h6⟩ := newH _ np6
        rw [hH6]
        clear hH6
        refine ⟨szl (by show 3 ≤ 100000; decide), fun p7 np7 => ?_⟩
        obtain ⟨H7, hH7, x6_7, h7⟩ := newH _ np7
        rw [hH7]
        clear hH7
        have x4_7 := x4_6.trans x6_7
        have f0 := x3_4 _ _ g0'
        have f1 := x3_4 _ _ h31
        have f2 := x3_4 _ _ g2'
        have ne6 : ∀ {b : Addr} {o : HO}, H4 b = some o → p6 ≠ b := fun h e => by rw [e, h] at np6; cases np6
        have ne7 : ∀ {b : Addr} {o : HO}, H4 b = some o → p7 ≠ b := fun h e => by rw [e, x4_6 _ _ h] at np7; cases np7
        have s4 : Hs p4 = none := ex_free e3 np4
        refine ⟨_, x4_7 _ _ g4, szlt (by rw [List.length_map]; omega), Ex.mut (x3_4.trans x4_7) np4, ks ++ [⟨p7, tv, p6, vs, c⟩], ?_, fun k hk => ?_, ?_, fun k hk => ?_⟩
        · rw [upd_same, List.map_append]
          rfl
        · have eH : Ex Hs (del (dl x p1 p2 (upd H7 p4 (.lst ((ks.map fun k => V.ref k.a) ++ [.ref p7])))) p4) := ex_of_del (dl_of (Ex.mut (es4.trans x4_7) s4) nx s1 s2) s4
          rcases List.mem_append.mp hk with hk | hk
          · refine (ru k hk).ex fun b o q => ?_
            by_cases eb : b = p4
            · rw [eb, del_same] at q
              cases q
            · rw [del_ne eb] at q ⊢
              obtain ⟨q, n1, n2, n3⟩ := dl_some q
              exact dl_get (by rw [upd_ne eb]; exact x4_7 _ _ q) n1 n2 n3
          · cases List.mem_singleton.mp hk
            exact ⟨del_get (dl_get (up_ne h7 (ne7 g4)) (ne7 f0) (ne7 f1) (ne7 f2)) (ne7 g4), rt.ex eH, del_get (dl_get (up_ne (x6_7 _ _ h6) (ne6 g4)) (ne6 f0) (ne6 f1) (ne6 f2)) (ne6 g4), Paired.imp (fun _ _ r => RVis.ex eH r) rvl⟩
        · rw [List.map_append, emk, tkc]
          rfl
        · rcases List.mem_append.mp hk with hk | hk
          · exact frk k hk
          · cases List.mem_singleton.mp hk
            exact ex_free es4 np6
      · rintro H4 ⟨x3_4, ks, g4, ru, emk, frk⟩
        rw [ly, List.take_length] at emk
        have f0 := x3_4 _ _ g0'
        have f2 := x3_4 _ _ g2'
        have n40 : p4 ≠ x := fun e => by rw [e, g0'] at np4; cases np4
        have n41 : p4 ≠ p1 := fun e => by rw [e, h31] at np4; cases np4
        have n42 : p4 ≠ p2 := fun e => by rw [e, g2'] at np4; cases np4
        refine ⟨_, rfl, x, C, dx, _, _, rfl, f0, L.cl, L.nC, lfs_chart _ _, _, rfl, p2, _, rfl, DPut.k (k := Sum.inr pt) f2 (szlt (by rw [List.length_map]; omega)), ?_⟩
        refine ⟨rs ++ [⟨p4, p4, pt, ks⟩], _, _, _, _, _, rfl, Ex.mut (e3.trans x3_4) s2, up_ne f0 (Ne.symm n2x), ?_, ?_, fun r hr' => ?_, ?_, fun b hb' => ?_, fun j hj => ?_⟩
        · rw [List.map_append]
          exact up_ne (x3_4 _ _ h31) (Ne.symm n21)
        · rw [upd_same, putK_new _ hvn, List.map_append]
          rfl
        · rcases List.mem_append.mp hr' with z | z
          · refine (rk r z).ex (dl_mono fun b o n1 n2 n3 h => ?_)
            rw [upd_ne n3]
            exact x3_4 _ _ (k3 _ _ n2 h)
          · cases List.mem_singleton.mp z
            refine ⟨dl_get (up_ne g4 n42) n40 n41 n42, fun k hk => (ru k hk).ex (ex_del.trans (dl_mono fun b o n1 n2 n3 h => ?_))⟩
            rw [upd_ne n3]
            exact h
        · rw [List.map_append, em, tk]
          show _ ++ [(pt, ks.map (·.c))] = _
          rw [emk]
        · rw [ls_snoc] at hb'
          rcases List.mem_append.mp hb' with z | z
          · exact frs b z
          · rcases List.mem_cons.mp z with z | z
            · rw [z]
              exact ex_free e3 np4
            · obtain ⟨k, hk, rfl⟩ := List.mem_map.mp z
              exact frk k hk
        · rcases Nat.lt_or_eq_of_le (Nat.lt_succ_iff.mp hj) with z | z
          · exact hb j z
          · subst z
            unfold dupF
            rw [hn]
            show (if pt ∈ names.take j then some pt else none) = none
            rw [if_neg hpn]
    · clear g0 g1 g2 e1
      rintro σ' H2 ⟨rs, v2, v3, v6, v7, v8, rfl, e2, g0, g1, g2, rk, em, frs, hb⟩
      rw [lx, List.take_length] at em
      rw [lx, ← ln] at hb
      have nd : names.Nodup := dup_none hb
      have lkf : LkF C H2 x p1 p2 rs := ⟨⟨dx, g0⟩, g1, g2, fun r hr => (rk r hr).ex dl_sub⟩
      have lk : LkAt C H2 x rows := by rw [← em]; exact lkf.lk
      have hfr : ∀ b ∈ lkL x p1 p2 rs, Hs b = none := fun b hb => by
        unfold lkL at hb
        simp only [List.mem_cons] at hb
        rcases hb with rfl | rfl | rfl | hb
        · exact nx
        · exact s1
        · exact s2
        · exact frs b hb
      have du : dueP rows = dueRs names rows := by
        unfold dueP
        rw [hnm, show dupS names = none from fst_no hb]
      rw [du] at kQ kE
      have lrs : rs.length = rows.length := by rw [← em, List.length_map]
      -- the second loop
      refine ⟨_, rfl, x, C, dx, _, _, rfl, g0, L.cl, L.nO, lfs_order _ _, p1, rfl, ⟨_, SqLo g1⟩, for_list (K := K) (a := p1) (xs := rs.map fun r => V.str r.nm) (fun i σ' H' => ∃ (v2 v3 v4 v5 v6 v7 v8 : Option V), σ' = [some (.ref x), some (.ref a), v2, v3, v4, v5, v6, v7, v8] ∧ Ex H2 H' ∧ ∀ j, j < i → dueRF names rows j = none) ?_ ?_ ?_ ?_⟩
      · exact ⟨_, _, _, _, _, _, _, rfl, Ex.refl _, fun j hj => by omega⟩
      · rintro i σ' H' _ ⟨_, _, _, _, _, _, _, _, ex, _⟩
        exact SqLo (ex _ _ g1)
      · rintro i y σ' H3 hi ⟨v2, v3, v4, v5, v6, v7, v8, rfl, x2_3, hbr⟩
        rw [List.getElem?_map] at hi
        obtain ⟨r, hr1, hy⟩ : ∃ r, rs[i]? = some r ∧ V.str r.nm = y := by
          cases e : rs[i]? with
          | none => rw [e] at hi; cases hi
          | some z => rw [e] at hi; exact ⟨z, rfl, Option.some.inj hi⟩
        subst hy
        have hrow : rows[i]? = some r.row := by rw [← em, List.getElem?_map, hr1]; rfl
        have hrm := List.mem_of_getElem? hrow
        have hrs := List.mem_of_getElem? hr1
        have rin := (rk r hrs).ex (dl_sub.trans x2_3)
        have hval : valV (rs.map fun r => ((Sum.inr r.nm : Key), V.ref r.c)) (Sum.inr r.nm : Key) = some (V.ref r.c) := by
          have rk2 : Paired (RK H3) (rs.map fun r => ((Sum.inr r.nm : Key), V.ref r.c)) (rs.map RowS.row) := paired_map fun r hr => ⟨rfl, ((rk r hr).ex (dl_sub.trans x2_3)).r⟩
          have ndk : ((rs.map fun r => ((Sum.inr r.nm : Key), V.ref r.c)).map (·.1)).Nodup := by
            rw [List.map_map]
            have e3 : (rs.map (·.nm)).Nodup := by
              have : (rs.map RowS.row).map (·.1) = names := by rw [em, hnm]
              rw [List.map_map] at this
              rw [show rs.map (·.nm) = names from this]
              exact nd
            have e4 := List.Pairwise.map (S := (· ≠ ·)) (f := fun s : Str => (Sum.inr s : Key)) (fun a b h z => h (Sum.inr.inj z)) e3
            rw [List.map_map] at e4
            exact e4
          exact val_nodup ndk ((Sum.inr r.nm : Key), V.ref r.c) (List.mem_map_of_mem hrs)
        have done : ∀ d, dueCs names r.row = some d → dueRs names rows = some d := fun d hd => fst_at (by rw [← lrs]; exact (List.getElem?_eq_some_iff.mp hr1).1) hbr (by unfold dueRF; rw [hrow]; exact hd)
        refine ⟨_, rfl, x, C, dx, _, _, rfl, x2_3 _ _ g0, L.cl, L.nC, lfs_chart _ _, _, rfl, p2, _, rfl, (by have q := DGet.k (k := Sum.inr r.nm) (x2_3 _ _ g2); rw [hval] at q; exact q), r.c, _, rfl, SqLo rin.1, for_it (walk_enum (K := K) (a := r.c) (xs := r.ks.map fun k => V.ref k.a)) (fun j σ' H' => ∃ (v3 v4 v5 v6 v7 v8 : Option V), σ' = [some (.ref x), some (.ref a), some (.str r.nm), v3, v4, v5, v6, v7, v8] ∧ Ex H3 H' ∧ ∀ j', j' < j → dueCF names r.nm r.row.2 j' = none) ?_ ?_ ?_ ?_⟩
        · exact ⟨_, _, _, _, _, _, rfl, Ex.refl _, fun j hj => by omega⟩
        · rintro j σ' H' _ ⟨_, _, _, _, _, _, _, ex, _⟩
          exact SqLo (ex _ _ rin.1)
        · rintro j y σ' H4 H5 hj ⟨v3, v4, v5, v6, v7, v8, rfl, x3_4, hbc⟩ ⟨T', n', c', rfl, nT, rfl, e1, e2'⟩
          cases e1
          have x4_5 : Ex H4 (upd H4 T' (.tup [V.int (j : Nat), c'])) := Ex.new nT
          have e2' : (r.ks.map fun k => V.ref k.a)[j]? = some c' := e2'
          rw [List.getElem?_map] at e2'
          obtain ⟨k0, hk0, hy⟩ : ∃ k0, r.ks[j]? = some k0 ∧ V.ref k0.a = c' := by
            cases e : r.ks[j]? with
            | none => rw [e] at e2'; cases e2'
            | some z => rw [e] at e2'; exact ⟨z, rfl, Option.some.inj e2'⟩
          subst hy
          have hkm := List.mem_of_getElem? hk0
          have x3_5 := x3_4.trans x4_5
          have kat := (rin.2 k0 hkm).ex x3_5
          have hc : r.row.2[j]? = some k0.c := by show (r.ks.map (·.c))[j]? = _; rw [List.getElem?_map, hk0]; rfl
          obtain ⟨_, _, lvs, okv⟩ := (po.cs _ hrm).2 k0.c (List.mem_map_of_mem hkm)
          refine ⟨T', _, rfl, SqTo upd_same, rfl, _, _, rfl, _, _, rfl, rfl, ?_⟩
          refine ⟨_, rfl, x, dx, _, rfl, x3_5 _ _ (x2_3 _ _ g0), lfs_no _ _ (by decide +kernel) (by decide +kernel), _, rfl, _, rfl, _, rfl, k0.a, _, _, _, rfl, rfl, SqTo kat.tu, rfl, x, r.nm, j, _, rows, k0.c, rfl, (lk.ex (x2_3.trans x3_5)), ⟨k0.l, k0.xs, rfl, kat.li, kat.vs⟩, fun x hx => (okv x hx).1, by rw [hnm]; exact nd, by omega, fun hd H6 x5_6 => ?_, fun d hd => ?_⟩
          · refine ⟨_, _, _, _, _, _, rfl, x3_5.trans x5_6, fun j' hj' => ?_⟩
            rcases Nat.lt_or_eq_of_le (Nat.lt_succ_iff.mp hj') with z | z
            · exact hbc j' z
            · subst z
              unfold dueCF
              rw [hc]
              rw [hnm] at hd
              exact hd
          · rw [hnm] at hd
            have q := kE d (done d (fst_at (show j < r.row.2.length from (List.getElem?_eq_some_iff.mp hc).1) hbc (by unfold dueCF; rw [hc]; exact hd)))
            have eS := e2.trans (x2_3.trans x3_5)
            cases d with
            | dup z => exact fun d' H' e hd' => q d' H' (eS.trans e) hd'
            | rep z zk => exact fun d' H' e hd' => q d' H' (eS.trans e) hd'
            | unk z => exact fun d' H' e hd' => q d' H' (eS.trans e) hd'
        · rintro σ' H4 ⟨v3, v4, v5, v6, v7, v8, rfl, x3_4, hbc⟩
          refine ⟨_, _, _, _, _, _, _, rfl, x2_3.trans x3_4, fun j hj => ?_⟩
          rcases Nat.lt_or_eq_of_le (Nat.lt_succ_iff.mp hj) with z | z
          · exact hbr j z
          · subst z
            unfold dueRF
            rw [hrow]
            exact fst_no fun j' hj' => hbc j' (by
              have e : r.row.2.length = r.ks.length := List.length_map _
              rw [List.length_map]
              omega)
      · rintro σ' H3 ⟨v2, v3, v4, v5, v6, v7, v8, rfl, x2_3, hbr⟩
        rw [List.length_map] at hbr
        exact kQ (fst_no fun j hj => hbr j (by omega)) H3 p1 p2 rs (e2.trans x2_3) (lkf.ex x2_3) em hfr
end
end K44

/-! own ==, != (by ==), in and len of the instances of a class -/
namespace LW
open PySem PySem.Spec L2 PyProof.Rows
open Evl (Ex)
section
variable {X : Cx} {k j : Nat} {C : Addr} {m : Str} {sp : Sp}
/-- the method of a class runs, at any place with room -/
theorem run_at {A : Around} {pins : List (Addr × Obj)} {σ : L2.St} {H : Hp} {s : Shared} {Q : VK} {us : List Value} {vs : List V} {f : Addr} {fd : FuncData} {ps : List Str} (F : FnOk X.prog X.w X.K X.mg X.base CX0 k f fd ps sp) (hb : Binds X.K fd ps [])
    (hr : Room k A) (hf : A.frames = X.A.frames) (I : L2.Inv X pins σ H s) (r : Vals vs us) (h : sp vs H Q E0) : wpAny (model X.prog X.w) A (call (.ref f) us) (EP X pins σ Q) X.xe s := by
  have e := I.env0
  have e0 : Env0 X.prog X.w X.K X.mg X.base A X.stack s H := ⟨by rw [hf]; exact e.frames, e.mod, e.bs, e.bsz, e.funs, e.frf, e.hok, e.bare⟩
  have hl : us.length = ps.length := r.length.symm.trans (F.len _ _ _ _ h)
  have b := hb s us I.kIn (by rw [List.append_nil]; exact hl)
  rw [List.append_nil] at b
  refine wpAny_call (codeAny_mono (F.run A X.stack s H ⟨us, []⟩ us vs Q E0 hr e0 b r h) ?_)
  rintro (ex | fl) s' hq
  · exact pass0 pins σ H s ex s' I hq
  · cases fl with
    | ret u => exact I.after hq
    | _ => exact hq.elim
theorem ins_at {pins : List (Addr × Obj)} {σ : L2.St} {H : Hp} {s : Shared} (I : L2.Inv X pins σ H s) {a dx : Addr} {fs : List (Str × V)} (h : H a = some (.ins C dx fs)) : ∃ ox od, PySem.W.InstAt s.heap a ox C od := by
  obtain ⟨mA, J, _⟩ := ins_get I.hok h
  obtain ⟨od, J, _⟩ := J.look
  exact ⟨_, _, J⟩
def rInOwn (C : Addr) (sp : Sp) : R2 := fun x y H Q => ∃ (a dx : Addr) (fs : List (Str × V)), y = .ref a ∧ H a = some (.ins C dx fs) ∧ sp [.ref a, x] H (fun v H' => ∃ c, v = .bl c ∧ Q (.bl c) H') E0
theorem op_inOwn (M : Mt X.prog X.w X.K X.mg X.base CX0 k C "__contains__" sp) (hr : Room j X.A) (hj : k ≤ j) : OpR X (compareOp .In) (rInOwn C sp) := by
  intro pins s σ H x y v u Q I rx ry h
  obtain ⟨a, dx, fs, rfl, ha, h⟩ := h
  cases ry
  obtain ⟨g, fd, ps, cl, hm, F, b⟩ := M.ex
  obtain ⟨ox, od, J⟩ := ins_at I ha
  obtain ⟨mm, fr⟩ := I.fr
  refine PySem.W.in_K fr I.ok.mod.kin J hm.at_ hm.fn (thn (run_at (vs := [.ref a, x]) F b (hr.mono hj) rfl I (.cons rfl (.cons rx .nil)) h) ?_)
  rintro r s' ⟨z, H', I', rz, c, rfl, q⟩
  cases (show r = Value.bool c from rz)
  exact wpAny_truthy_bool ⟨.bl c, H', I', rfl, q⟩
def rLenOwn (C : Addr) (sp : Sp) : List V → Hp → VK → Prop := fun xs H Q => ∃ (a dx : Addr) (fs : List (Str × V)), xs = [.ref a] ∧ H a = some (.ins C dx fs) ∧ sp [.ref a] H (fun v H' => ∃ n : Nat, v = .int (n : Int) ∧ n ≤ 100000 ∧ Q (.int (n : Int)) H') E0
theorem call_lenOwn (M : Mt X.prog X.w X.K X.mg X.base CX0 k C "__len__" sp) (hr : Room j X.A) (hj : k + 1 ≤ j) : CallR X (.builtin "len") (rLenOwn C sp) := by
  intro pins s σ H xs us Q I r h
  obtain ⟨a, dx, fs, rfl, ha, h⟩ := h
  obtain ⟨u, rfl, ru⟩ := vals1 r
  cases ru
  obtain ⟨g, fd, ps, cl, hm, F, b⟩ := M.ex
  obtain ⟨ox, od, J⟩ := ins_at I ha
  obtain ⟨mm, fr⟩ := I.fr
  refine PySem.W.len_K fr I.ok.mod.kin J hm.at_ hm.fn (thn (run_at (vs := [.ref a]) F b (hr.mono hj).in1 rfl I (.cons rfl .nil) h) ?_)
  rintro r s' ⟨z, H', I', rz, n, rfl, hn, q⟩
  obtain ⟨t, rfl⟩ := rz
  exact ⟨⟨by omega, by omega⟩, .int (n : Int), H', I'.tok _, ⟨_, rfl⟩, q⟩
/-- the other side of ==: an instance of the class, or a list -/
def Oth (K : PySem.W.Frag) (C : Addr) (H : Hp) (y : V) : Prop := ∃ b, y = .ref b ∧ ((∃ dy gs, H b = some (.ins C dy gs)) ∨ ((∃ xs, H b = some (.lst xs)) ∧ PySem.W.subIn K (.type "list") (.ref C) = some false))
theorem oth_at {pins : List (Addr × Obj)} {σ : L2.St} {H : Hp} {s : Shared} (I : L2.Inv X pins σ H s) {y : V} {u : Value} (ry : RelV y u) (h : Oth X.K C H y) : ∃ tb, PySem.W.Looks (model X.prog X.w) s.heap (typeOf u) tb ∧ PySem.W.notFirst X.K C tb = true := by
  obtain ⟨b, rfl, h⟩ := h
  cases ry
  rcases h with ⟨dy, gs, hb⟩ | ⟨⟨xs, hb⟩, hs⟩
  · obtain ⟨oy, od, J⟩ := ins_at I hb
    exact ⟨.ref C, J.type, by simp [PySem.W.notFirst]⟩
  · obtain ⟨_, its, n, _, e⟩ := (show ObjOk X.prog X.w H s.heap b (.lst xs) from I.hok b _ hb)
    exact ⟨.type "list", (PySem.W.Looks.ld e).andThen .now, by simp [PySem.W.notFirst, hs]⟩
def rEqOwn (K : PySem.W.Frag) (C : Addr) (sp : Sp) : R2 := fun x y H Q => ∃ (a dx : Addr) (fs : List (Str × V)), x = .ref a ∧ H a = some (.ins C dx fs) ∧ Oth K C H y ∧ sp [.ref a, y] H (fun v H' => ∃ c, v = .bl c ∧ Q (.bl c) H') E0
theorem op_eqOwn (M : Mt X.prog X.w X.K X.mg X.base CX0 k C "__eq__" sp) (hr : Room j X.A) (hj : k ≤ j) : OpR X (compareOp .Eq) (rEqOwn X.K C sp) := by
  intro pins s σ H x y v u Q I rx ry h
  obtain ⟨a, dx, fs, rfl, ha, ho, h⟩ := h
  cases rx
  obtain ⟨g, fd, ps, cl, hm, F, b⟩ := M.ex
  obtain ⟨ox, od, J⟩ := ins_at I ha
  obtain ⟨tb, hl, hn⟩ := oth_at I ry ho
  obtain ⟨mm, fr⟩ := I.fr
  show wpAny (model X.prog X.w) X.A (richCompare .Eq (.ref a) u) _ _ s
  refine PySem.W.cmp_K (op := .Eq) hr.units0 fr I.ok.mod.kin J hl hn hm.at_ hm.fn (thn (run_at (vs := [.ref a, y]) F b (hr.mono hj) rfl I (.cons rfl (.cons ry .nil)) h) ?_)
  rintro r s' ⟨z, H', I', rz, c, rfl, q⟩
  cases (show r = Value.bool c from rz)
  exact ⟨.bl c, H', I', rfl, q⟩
end
/-! ### != where only == is the class's own -/
section
variable {prog : Program} {w : World} {A : Around} {E : Value → Shared → Prop} {s : Shared} {K : PySem.W.Frag} {x C f : Addr} {ox : Obj} {od : Option Obj} {b : Value}
theorem ne_slot {Q : Option Value → Shared → Prop} (X : K.In s.heap) (I : PySem.W.InstAt s.heap x ox C od) (hs : PySem.W.findIn K (.ref C) "__ne__" = some (some (.builtin "object.__ne__")))
    (h : wpAny (model prog w) A (call (.builtin "object.__ne__") [.ref x, b]) (fun v s' => Q (some v) s') E s) : wpAny (model prog w) A (callSpecialIfBound? (.ref x) "__ne__" [b]) Q E s := by
  have go : wpAny (model prog w) A (call (.builtin "object.__ne__") ([.ref x] ++ [b]) >>= fun r => pure (some r)) Q E s := wpAny_bind (thn h fun _ _ z => wpAny_pure z)
  unfold callSpecialIfBound? bindSpecialIfBound?
  refine wpAny_holding (wpAny_bind (wpAny_bind (wpAny_bind (I.type.here ((PySem.W.looks_findIn X hs).here (wpAny_bind (wpAny_askSetting (wpAny_ite ?_))))))))
  split
  · exact wpAny_bind (wpAny_of_eq (F.cmp_object.ne.bind _) (wpAny_pure (by exact go)))
  · exact wpAny_tryCatch (wpAny_bind (wpAny_of_eq (F.cmp_object.ne.bind _) (wpAny_pure (by exact go))))
theorem ne_body {Q : PySem.Fin → Shared → Prop} (hu : A.units < cLine) (X : K.In s.heap) (I : PySem.W.InstAt s.heap x ox C od) (hs : PySem.W.findIn K (.ref C) "__eq__" = some (some (.ref f))) (hf : PySem.W.isFn K (.ref f) = true)
    (h : wpAny (model prog w) A (call (.ref f) [.ref x, b]) (fun v s' => ∃ c, v = .bool c ∧ Q (.done (.ret (.bool (!c)))) s') E s) : wpAny (model prog w) A (Builtin.«object.__ne__» ⟨[.ref x, b], []⟩) Q E s := by
  have mid : wpAny (model prog w) A (callSpecialIfBound? (.ref x) "__eq__" [b]) (fun r s' => ∃ c, r = some (.bool c) ∧ Q (.done (.ret (.bool (!c)))) s') E s :=
    PySem.W.ifBound_K X I hs hf (thn h fun v s' ⟨c, e, q⟩ => ⟨c, by rw [e], q⟩)
  unfold Builtin.«object.__ne__»
  repeat (first
    | with_reducible refine wpAny_cRoomFor hu ?_
    | (refine wpAny_bind (m := callSpecialIfBound? (.ref x) (Str.ofString "__eq__") [b]) (thn mid ?_)
       rintro r s' ⟨c, rfl, q⟩
       exact wpAny_bind (wpAny_truthy_bool (wpAny_pure q)))
    | wp_step)
theorem rc_ne {y C' : Addr} {oy : Obj} {od' : Option Obj} {Q : Value → Shared → Prop} (hu : A.units + 1 < cLine) (X : K.In s.heap) (I : PySem.W.InstAt s.heap x ox C od) (J : PySem.W.InstAt s.heap y oy C od') (hm : PySem.W.mroIn K C (.type "object") = some true)
    (he : PySem.W.findIn K (.ref C) "__eq__" = some (some (.ref f))) (hf : PySem.W.isFn K (.ref f) = true) (hs : PySem.W.findIn K (.ref C) "__ne__" = some (some (.builtin "object.__ne__")))
    (h : wpAny (model prog w) A.in1 (call (.ref f) [.ref x, .ref y]) (fun v s' => ∃ c, v = .bool c ∧ Q (.bool (!c)) s') E s) : wpAny (model prog w) A (richCompare .NotEq (.ref x) (.ref y)) Q E s := by
  have one : wpAny (model prog w) A (tryCompare (.ref x) "__ne__" (.ref y)) (fun r s' => ∃ v, r = some v ∧ Q v s') E s := by
    unfold tryCompare
    refine wpAny_bind (ne_slot X I hs ?_)
    refine wpAny_call (codeAny_call_builtin F.cmp_object.ne.plain F.cmpEntry_ne (PySem.W.check_slot F.cmpKind_ne F.cmpSplit_ne (I.type.andThen (PySem.W.looks_mroIn X hm)) (F.cmpArgs_ne _ _) (ne_body hu X I he hf (thn h ?_))))
    rintro v s' ⟨c, rfl, q⟩
    exact ⟨c, rfl, wpAny_pure ⟨_, rfl, q⟩⟩
  unfold richCompare
  simp only [oneThing_ref, cmpInfo_NotEq]
  refine wpAny_holding (wpAny_bind (wpAny_cRoomFor (by omega) (wpAny_bind (I.type.here (wpAny_bind (J.type.here ?_))))))
  split
  · rename_i q
    simp at q
  · refine wpAny_bind (wpAny_pure ?_)
    simp only [Bool.false_eq_true, if_false]
    refine wpAny_bind (thn one ?_)
    rintro r s' ⟨v, rfl, q⟩
    exact wpAny_pure q
end
def rNeOwn (C : Addr) (sp : Sp) : R2 := fun x y H Q => ∃ (a dx c dy : Addr) (fs gs : List (Str × V)), x = .ref a ∧ y = .ref c ∧ H a = some (.ins C dx fs) ∧ H c = some (.ins C dy gs) ∧ sp [.ref a, .ref c] H (fun v H' => ∃ b, v = .bl b ∧ Q (.bl (!b)) H') E0
theorem op_neOwn {X : Cx} {k j : Nat} {C : Addr} {sp : Sp} (M : Mt X.prog X.w X.K X.mg X.base CX0 k C "__eq__" sp) (hm : PySem.W.mroIn X.K C (.type "object") = some true) (hs : PySem.W.findIn X.K (.ref C) "__ne__" = some (some (.builtin "object.__ne__"))) (hr : Room j X.A) (hj : k + 1 ≤ j) : OpR X (compareOp .NotEq) (rNeOwn C sp) := by
  intro pins s σ H x y v u Q I rx ry h
  obtain ⟨a, dx, c, dy, fs, gs, rfl, rfl, ha, hc, h⟩ := h
  cases rx
  cases ry
  obtain ⟨g, fd, ps, cl, mt, F, b⟩ := M.ex
  obtain ⟨ox, od, J⟩ := ins_at I ha
  obtain ⟨oy, od', J'⟩ := ins_at I hc
  show wpAny (model X.prog X.w) X.A (richCompare .NotEq (.ref a) (.ref c)) _ _ s
  refine rc_ne (C' := C) (by have := hr.un; omega) I.kIn J J' hm mt.at_ mt.fn hs (thn (run_at (vs := [.ref a, .ref c]) F b (hr.mono hj).in1 rfl I (.cons rfl (.cons rfl .nil)) h) ?_)
  rintro r s' ⟨z, H', I', rz, e, rfl, q⟩
  cases (show r = Value.bool e from rz)
  exact ⟨e, rfl, .bl (!e), H', I', rfl, q⟩
end LW

namespace LW
open PySem PySem.Spec L2
section
variable {X : Cx} {k j : Nat} {x : Str} {sp : Sp} {p pos : Pos} {e : Expr} {es : List Expr} {t : TA}
theorem pe_kL (c : Cal X.prog X.w X.K X.mg X.base (L2.CX X.prog X.w) k x sp) (hr : Room j X.A) (hk : k ≤ j) (hg : Gl X x) (ha : PA X (e :: es) t)
    (hdb : (x == ("__debug__" : Str)) = false := by decide) (he : starEach (e :: es) X.env = (false, eval e X.env) :: starEach es X.env := by rfl) (hpl : (backTo pos (starEach es X.env)).any (·.1) = false := by rfl) :
    PE X (.Call (.Name x p) (e :: es) [] pos) (tCall sp [] E0 t) := by
  obtain ⟨f, fd, ps, F, hm, kp, b⟩ := c.ex
  exact pe_call F (hr.mono hk) hg hm kp b .nil passL ha hdb he hpl
end
end LW

namespace LW
open PySem PySem.Spec L2 PySem.SeqAt
/-! ### == of two dicts with the same keys, their values data -/
structure DD where
  k : Key
  v : V
  u : V
  d : PyData
  e : PyData
def rEqDD (K : PySem.W.Frag) : R2 := fun x y H Q => ∃ (a b : Addr) (zs : List DD), x = .ref a ∧ y = .ref b ∧ H a = some (.dK (zs.map fun z => (z.k, z.v))) ∧ H b = some (.dK (zs.map fun z => (z.k, z.u))) ∧ (zs.map (·.k)).Nodup ∧
  (∀ z ∈ zs, Dp K H z.v z.d ∧ Dp K H z.u z.e ∧ SeqAt.shaped z.d = true ∧ SeqAt.shaped z.e = true) ∧ Q (.bl (zs.all fun z => PyData.eqv z.d z.e)) H
theorem kv_map {H : Hp} {zs : List DD} {vs : List (Key × Value)} (f : DD → V) (h : KV (zs.map fun z => (z.k, f z)) vs) (nd : (zs.map (·.k)).Nodup) : ∀ z ∈ zs, ∃ y, valueAt vs z.k = some y ∧ RelV (f z) y := fun z hz => by
  have q := h.val z.k
  have e : valV (zs.map fun z => (z.k, f z)) z.k = some (f z) := val_nodup (by rw [List.map_map]; exact nd) (z.k, f z) (List.mem_map_of_mem (f := fun z => (z.k, f z)) hz)
  rw [e] at q
  exact RelO.some_of q
theorem op_eqDD {X : Cx} (K : PySem.W.Frag) (hu : X.A.units + 65 < cLine) (hK : X.K = K := by rfl) : OpR X (compareOp .Eq) (rEqDD K) := by
  subst hK
  intro pins s σ H x y v u Q I rx ry h
  obtain ⟨a, b, zs, rfl, rfl, ha, hb, nd, hd, q⟩ := h
  cases rx
  cases ry
  obtain ⟨_, ya, va, ra, da⟩ := dk_of I.hok ha
  obtain ⟨_, yb, vb, rb, db⟩ := dk_of I.hok hb
  have hl : va.length = vb.length := by
    rw [← ra.length, ← rb.length, List.length_map, List.length_map]
  have hits : ∀ (ws : List DD) (wa : List (Key × Value)), (∀ z ∈ ws, z ∈ zs) → KV (ws.map fun z => (z.k, z.v)) wa → PySem.W.KeqHitsP X.prog X.w X.A.in1 s vb wa (ws.all fun z => PyData.eqv z.d z.e) := by
    intro ws
    induction ws with
    | nil =>
      intro wa _ r
      cases r
      exact .nil
    | cons z ws ih =>
      intro wa hz r
      cases r with
      | @cons p q0 _ _ h1 t =>
        obtain ⟨k, v0⟩ := q0
        obtain ⟨e1, rv⟩ := h1
        have e1 : z.k = k := e1
        subst e1
        have hzm := hz z List.mem_cons_self
        obtain ⟨y, hy, ry⟩ := kv_map (H := H) (fun z => z.u) rb nd z hzm
        obtain ⟨d1, d2, s1, s2⟩ := hd z hzm
        obtain ⟨as, r1⟩ := Dp.reads I z.d _ _ d1 rv
        obtain ⟨bs, r2⟩ := Dp.reads I z.e _ _ d2 ry
        rw [List.all_cons]
        exact .hit hy (SeqAt.eqAt_reads z.d z.e X.A.in1 s _ _ as bs r1 r2 (SeqAt.canLay_of_shaped s1) (SeqAt.canLay_of_shaped s2) (SeqAt.room_of_shaped s1 (by show X.A.units + 1 + 64 < cLine; omega))).eqP (ih _ (fun z hz' => hz z (List.mem_cons_of_mem _ hz')) t)
  refine PySem.W.rcP_dicts (knd := mixKind X.prog X.w) (r := zs.all fun z => PyData.eqv z.d z.e) ya yb da db (by omega) (fun _ => hits zs va (fun _ h => h) ra) _ _ ⟨.bl _, H, I, rfl, ?_⟩
  rw [hl, beq_self_eq_true, Bool.true_and]
  exact q
end LW
namespace K44
open PySem PySem.Spec L2 LW
open Evl (Ex)
/-- what is asked of the class Looker beside -/
structure TxQ (K : PySem.W.Frag) (mg : Str → Option Value) (C : Addr) : Prop where
  cl : Cls K C
  nO : NoAttr K C "order"
  nC : NoAttr K C "chart"
  gL : mg "Looker" = some (.ref C)
  ha : PySem.W.findIn K (.ref C) "__class__" = some (some (.builtin "object.__class__"))
  hn : PySem.W.specialIn K (.builtin "object.__class__") "__get__" = some (some (.builtin "getset_descriptor.__get__"))
  ht : PySem.W.takesIn K (.builtin "object.__class__") = some true
  hm : PySem.W.mroIn K C (.type "object") = some true
  kC : PySem.W.kitOne K (.ref C) (.ref C) = some true
  kL : PySem.W.kitOne K (.type "list") (.ref C) = some false
  sL : PySem.W.subIn K (.type "list") (.ref C) = some false
  ne : PySem.W.findIn K (.ref C) "__ne__" = some (some (.builtin "object.__ne__"))
def eqLk (rs qs : List RowS) : Bool := decide (rs.map (·.nm) = qs.map (·.nm)) && (rs.zip qs).all fun p => PyData.eqv (caseLD (p.1.ks.map (·.c))) (caseLD (p.2.ks.map (·.c)))
theorem strs_eqv : ∀ (l m : List Str), PyData.eqvAll (l.map PyData.str) (m.map PyData.str) = decide (l = m)
  | [], [] => rfl
  | [], _ :: _ => rfl
  | _ :: _, [] => rfl
  | a :: l, b :: m => by
    rw [List.map_cons, List.map_cons, PyData.eqvAll, strs_eqv l m]
    show (decide _ && decide _) = _
    by_cases e : a = b
    · subst e
      by_cases e2 : l = m
      · subst e2
        simp
      · simp [e2]
    · simp [e]
section
variable {P : Program} {w : World} {K : PySem.W.Frag} {mg : Str → Option Value} {base : Heap} {C CD CU CR : Addr}
/-! ### __eq__ -/
def spEqL (C : Addr) : Sp := fun vs H Q _ => ∃ (a b : Addr) (o d : Addr) (rs : List RowS), vs = [.ref a, .ref b] ∧ LkF C H a o d rs ∧ (((∃ xs, H b = some (.lst xs)) ∧ Q (.bl false) H) ∨
  ∃ (o' d' : Addr) (qs : List RowS), LkF C H b o' d' qs ∧ (∀ r ∈ rs, SOk r.nm ∧ ∀ k ∈ r.ks, CB k.c) ∧ (∀ r ∈ qs, SOk r.nm ∧ ∀ k ∈ r.ks, CB k.c) ∧ (rs.map (·.nm)).Nodup ∧ Q (.bl (eqLk rs qs)) H)
theorem sc_Looker___eq__ : FnScope ["self", "other"] ["self", "other"] (defScope s_Looker___eq__) := ⟨rfl, rfl, rfl, by decide +kernel, rfl, by decide +kernel, by decide +kernel⟩
theorem bi_Looker___eq__ : BindsM "__eq__" "Looker.__eq__" s_Looker___eq__ ["self", "other"] := fun _ _ _ _ _ _ us hl => match us, hl with | [_, _], _ => rfl
theorem ok_eqL (F : Dm_ K C "__eq__" "Looker.__eq__" s_Looker___eq__) (T : Txt K mg) (L : TxQ K mg C) : Mt P w K mg base CX0 2 C "__eq__" (spEqL C) := by
  refine mt0 L.cl F sc_Looker___eq__ bi_Looker___eq__ (fun vs H Q E h => ?_) (fun f cdv A outer s H vs Q E hr h => ?_)
  · obtain ⟨a, b, o, d, rs, rfl, _⟩ := h
    rfl
  · obtain ⟨a, b, o, d, rs, rfl, la, h⟩ := h
    have hu := hu_of hr
    refine ⟨_, (pss_one (ps_ret (pe_and (pe_callB (isiK K) rfl T.b_isinstance (by decide +kernel) (pa_cons (pv 1) (pa_cons (pe_glob (v := .ref C) rfl L.gL rfl) pa_nil))) (pe_and (pe_cmpR (eqDK K hr.units) (pfl K (pv 0) rfl) (pfl K (pv 1) rfl) (nomark _)) (pe_one (pe_cmpR (op_eqDD K (units65 hr)) (pfl K (pv 0) rfl) (pfl K (pv 1) rfl) (nomark _))))))), ?_⟩
    obtain ⟨⟨dx, i1⟩, i2, i3, i4⟩ := id la
    rcases h with ⟨⟨xs, hb⟩, k⟩ | ⟨o', d', qs, lb, c1, c2, nd, k⟩
    · exact ⟨_, rfl, _, _, _, _, _, rfl, .own C, .base (.lst hb), L.kL, _, rfl, if_f rfl k⟩
    · obtain ⟨⟨dy, j1⟩, j2, j3, j4⟩ := id lb
      refine ⟨_, rfl, _, _, _, _, _, rfl, .own C, .base (.ins j1 L.cl L.ha L.hn L.ht L.hm), L.kC, _, rfl, if_t rfl ?_⟩
      refine ⟨_, rfl, a, C, dx, _, _, rfl, i1, L.cl, L.nO, lfs_order _ _, _, rfl, b, C, dy, _, _, rfl, j1, L.cl, L.nO, lfs_order _ _, ?_⟩
      have n1 : ∀ l : List RowS, (∀ r ∈ l, SOk r.nm ∧ ∀ k ∈ r.ks, CB k.c) → SeqAt.shaped (.list ((l.map (·.nm)).map PyData.str)) = true := fun l hl => by
        refine shaped_of ?_ ?_
        · rw [PyData.canLay0]
          refine strs_lay fun f hf => ?_
          obtain ⟨r, hr', rfl⟩ := List.mem_map.mp hf
          exact (hl r hr').1
        · have q : PyData.depthAll ((l.map (·.nm)).map PyData.str) ≤ 1 := depth_all fun x _ => by simp [PyData.depth]
          rw [PyData.depth]
          omega
      have dp1 : ∀ (l : List RowS), DpAll K H (l.map fun r => V.str r.nm) ((l.map (·.nm)).map PyData.str) := fun l => by
        have q := dp_strs (K := K) (H := H) (l.map (·.nm))
        rw [List.map_map] at q
        exact q
      refine ⟨_, _, .lst (SqLo i2) (dp1 rs), .lst (SqLo j2) (dp1 qs), n1 rs c1, n1 qs c2, ?_⟩
      have ee : PyData.eqv (.list ((rs.map (·.nm)).map PyData.str)) (.list ((qs.map (·.nm)).map PyData.str)) = decide (rs.map (·.nm) = qs.map (·.nm)) := by
        show PyData.eqvAll _ _ = _
        exact strs_eqv _ _
      rw [ee]
      refine ⟨_, rfl, if_b (fun e => ?_) (fun e => ?_)⟩
      · have e := of_decide_eq_true e
        have len : rs.length = qs.length := by
          have := congrArg List.length e
          rwa [List.length_map, List.length_map] at this
        let zs : List DD := (rs.zip qs).map fun p => ⟨Sum.inr p.1.nm, V.ref p.1.c, V.ref p.2.c, caseLD (p.1.ks.map (·.c)), caseLD (p.2.ks.map (·.c))⟩
        have z1 : (zs.map fun z => (z.k, z.v)) = rs.map fun r => ((Sum.inr r.nm : Key), V.ref r.c) := by
          show ((rs.zip qs).map _).map _ = _
          rw [List.map_map]
          have : (rs.zip qs).map Prod.fst = rs := by rw [List.map_fst_zip]; omega
          conv => rhs; rw [← this, List.map_map]
          rfl
        have z2 : (zs.map fun z => (z.k, z.u)) = qs.map fun r => ((Sum.inr r.nm : Key), V.ref r.c) := by
          show ((rs.zip qs).map _).map _ = _
          rw [List.map_map]
          have h2 : (rs.zip qs).map Prod.snd = qs := by rw [List.map_snd_zip]; omega
          have h3 : ∀ p ∈ rs.zip qs, p.1.nm = p.2.nm := fun p hp => by
            obtain ⟨i, hi⟩ := List.mem_iff_getElem?.mp hp
            rw [List.getElem?_zip_eq_some] at hi
            have q1 : (rs.map (·.nm))[i]? = some p.1.nm := by rw [List.getElem?_map, hi.1]; rfl
            have q2 : (qs.map (·.nm))[i]? = some p.2.nm := by rw [List.getElem?_map, hi.2]; rfl
            rw [e, q2] at q1
            exact (Option.some.inj q1).symm
          conv => rhs; rw [← h2, List.map_map]
          refine List.map_congr_left fun p hp => ?_
          show ((Sum.inr p.1.nm : Key), V.ref p.2.c) = ((Sum.inr p.2.nm : Key), V.ref p.2.c)
          rw [h3 p hp]
        have z3 : (zs.map (·.k)).Nodup := by
          have q : zs.map (·.k) = (rs.map (·.nm)).map fun s : Str => (Sum.inr s : Key) := by
            show ((rs.zip qs).map _).map _ = _
            have this : (rs.zip qs).map Prod.fst = rs := by rw [List.map_fst_zip]; omega
            rw [List.map_map, List.map_map]
            conv => rhs; rw [← this, List.map_map]
            rfl
          rw [q]
          exact List.Pairwise.map (S := (· ≠ ·)) (f := fun s : Str => (Sum.inr s : Key)) (fun a b h z => h (Sum.inr.inj z)) nd
        refine ⟨_, rfl, a, C, dx, _, _, rfl, i1, L.cl, L.nC, lfs_chart _ _, _, rfl, b, C, dy, _, _, rfl, j1, L.cl, L.nC, lfs_chart _ _, d, d', zs, rfl, rfl, by rw [z1]; exact i3, by rw [z2]; exact j3, z3, fun z hz => ?_, ?_⟩
        · obtain ⟨p, hp, rfl⟩ := List.mem_map.mp hz
          have m1 := (List.of_mem_zip hp).1
          have m2 := (List.of_mem_zip hp).2
          refine ⟨(i4 p.1 m1).r.dp, (j4 p.2 m2).r.dp, casesB_shaped fun c hc => ?_, casesB_shaped fun c hc => ?_⟩
          · obtain ⟨k, hk, rfl⟩ := List.mem_map.mp hc
            exact (c1 p.1 m1).2 k hk
          · obtain ⟨k, hk, rfl⟩ := List.mem_map.mp hc
            exact (c2 p.2 m2).2 k hk
        · unfold eqLk at k
          rw [decide_eq_true e, Bool.true_and] at k
          show Q (.bl (((rs.zip qs).map _).all _)) H
          rw [List.all_map]
          exact k
      · unfold eqLk at k
        rw [e, Bool.false_and] at k
        exact k
/-! ### points, start, len, in -/
def spPoints (C : Addr) : Sp := fun vs H Q _ => ∃ (x : Addr) (rows : List Row), vs = [.ref x] ∧ LkAt C H x rows ∧ ∀ p, H p = none → Q (.ref p) (upd H p (.lst (rows.map fun r => V.str r.1)))
theorem sc_Looker_points : FnScope ["self"] ["self"] (defScope s_Looker_points) := ⟨rfl, rfl, rfl, by decide +kernel, rfl, by decide +kernel, by decide +kernel⟩
theorem bi_Looker_points : BindsM "points" "Looker.points" s_Looker_points ["self"] := fun _ _ _ _ _ _ us hl => match us, hl with | [_], _ => rfl
theorem ok_points (F : Dm_ K C "points" "Looker.points" s_Looker_points) (T : Txt K mg) (L : TxQ K mg C) : Mt P w K mg base CX0 1 C "points" (spPoints C) := by
  refine mt0 L.cl F sc_Looker_points bi_Looker_points (fun vs H Q E h => ?_) (fun f cdv A outer s H vs Q E hr h => ?_)
  · obtain ⟨x, rows, rfl, _⟩ := h
    rfl
  · obtain ⟨x, rows, rfl, ⟨dx, o, d, kvs, g1, g2, g3, rk⟩, k⟩ := h
    refine ⟨_, (pss_one (ps_ret (pe_callTy (lofK K) rfl T.b_list (by decide +kernel) (pa_cons (pfl K (pv 0) rfl) pa_nil)))), ?_⟩
    exact ⟨_, rfl, x, C, dx, _, _, rfl, g1, L.cl, L.nO, lfs_order _ _, o, _, rfl, .inl (SqLo g2), k⟩
def spLen (C : Addr) : Sp := fun vs H Q _ => ∃ (x : Addr) (rows : List Row), vs = [.ref x] ∧ LkAt C H x rows ∧ Q (.int (rows.length : Int)) H
theorem sc_Looker___len__ : FnScope ["self"] ["self"] (defScope s_Looker___len__) := ⟨rfl, rfl, rfl, by decide +kernel, rfl, by decide +kernel, by decide +kernel⟩
theorem bi_Looker___len__ : BindsM "__len__" "Looker.__len__" s_Looker___len__ ["self"] := fun _ _ _ _ _ _ us hl => match us, hl with | [_], _ => rfl
theorem ok_len (F : Dm_ K C "__len__" "Looker.__len__" s_Looker___len__) (T : Txt K mg) (L : TxQ K mg C) : Mt P w K mg base CX0 1 C "__len__" (spLen C) := by
  refine mt0 L.cl F sc_Looker___len__ bi_Looker___len__ (fun vs H Q E h => ?_) (fun f cdv A outer s H vs Q E hr h => ?_)
  · obtain ⟨x, rows, rfl, _⟩ := h
    rfl
  · obtain ⟨x, rows, rfl, ⟨dx, o, d, kvs, g1, g2, g3, rk⟩, k⟩ := h
    refine ⟨_, (pss_one (ps_ret (pe_callB (lnK K) rfl T.b_len (by decide +kernel) (pa_cons (pfl K (pv 0) rfl) pa_nil)))), ?_⟩
    refine ⟨_, rfl, x, C, dx, _, _, rfl, g1, L.cl, L.nO, lfs_order _ _, _, _, rfl, .inl ⟨_, SqLo g2, rfl⟩, ?_⟩
    rw [List.length_map]
    exact k
def spHas (C : Addr) : Sp := fun vs H Q _ => ∃ (x : Addr) (z : Str) (rows : List Row), vs = [.ref x, .str z] ∧ LkAt C H x rows ∧ Q (.bl ((rows.map (·.1)).contains z)) H
theorem sc_Looker___contains__ : FnScope ["self", "name"] ["self", "name"] (defScope s_Looker___contains__) := ⟨rfl, rfl, rfl, by decide +kernel, rfl, by decide +kernel, by decide +kernel⟩
theorem bi_Looker___contains__ : BindsM "__contains__" "Looker.__contains__" s_Looker___contains__ ["self", "name"] := fun _ _ _ _ _ _ us hl => match us, hl with | [_, _], _ => rfl
theorem ok_has (F : Dm_ K C "__contains__" "Looker.__contains__" s_Looker___contains__) (T : Txt K mg) (L : TxQ K mg C) : Mt P w K mg base CX0 1 C "__contains__" (spHas C) := by
  refine mt0 L.cl F sc_Looker___contains__ bi_Looker___contains__ (fun vs H Q E h => ?_) (fun f cdv A outer s H vs Q E hr h => ?_)
  · obtain ⟨x, z, rows, rfl, _⟩ := h
    rfl
  · obtain ⟨x, z, rows, rfl, ⟨dx, o, d, kvs, g1, g2, g3, rk⟩, k⟩ := h
    refine ⟨_, (pss_one (ps_ret (pe_cmpR (inq K) (pv 1) (pfl K (pv 0) rfl) (by rfl)))), ?_⟩
    have g2' : H o = some (.lst ((rows.map (·.1)).map V.str)) := by rw [g2, List.map_map]; rfl
    refine ⟨_, rfl, _, rfl, x, C, dx, _, _, rfl, g1, L.cl, L.nO, lfs_order _ _, o, _, rfl, .inl (SqLo g2'), rfl, flat_strs _, ?_⟩
    rw [inV_strs]
    exact k
def spStart (C : Addr) : Sp := fun vs H Q _ => ∃ (x : Addr) (r : Row) (rows : List Row), vs = [.ref x] ∧ LkAt C H x (r :: rows) ∧ Q (.str r.1) H
theorem sc_Looker_start : FnScope ["self"] ["self"] (defScope s_Looker_start) := ⟨rfl, rfl, rfl, by decide +kernel, rfl, by decide +kernel, by decide +kernel⟩
theorem bi_Looker_start : BindsM "start" "Looker.start" s_Looker_start ["self"] := fun _ _ _ _ _ _ us hl => match us, hl with | [_], _ => rfl
theorem ok_start {f0 : Addr} {fd0 : FuncData} (F : FunD K "start" "Looker.start" (defArgs s_Looker_start) (defBody s_Looker_start) (defScope s_Looker_start) [] [] f0 fd0) (T : Txt K mg) (L : TxQ K mg C) : FnOk P w K mg base CX0 1 f0 fd0 ["self"] (spStart C) := by
  refine F.ok sc_Looker_start (fun vs H Q E h => ?_) (fun cdv A outer s H vs Q E hr h => ?_)
  · obtain ⟨x, r, rows, rfl, _⟩ := h
    rfl
  · obtain ⟨x, r, rows, rfl, ⟨dx, o, d, kvs, g1, g2, g3, rk⟩, k⟩ := h
    refine ⟨_, PSs.nox (pss_one (ps_ret (pe_ix (ixl K) (pfl K (pv 0) rfl) pe_int (fun _ _ => rfl)))), ?_⟩
    exact ⟨_, rfl, x, C, dx, _, _, rfl, g1, L.cl, L.nO, lfs_order _ _, o, _, _, _, rfl, rfl, SqLo g2, at_zero, k⟩
end
end K44

/-! a list comprehension over a list, within an except suite -/
namespace LW
open PySem PySem.Spec L2 PyProof.Rows
open Evl (Ex)
section
variable {prog : Program} {w : World} {A : Around} {E : Value → Shared → Prop} {s : Shared}
/-- the end of a list's iterator while an exception is handled -/
theorem list_end_hot {it l x1 : Addr} {i : Nat} {items : Array Value} {Q : Option Value → Shared → Prop} (hot : HotX.HotAt A x1 s.heap) (hne : x1 ≠ it)
    (hit : s.heap.IsListIter it l i) (hl : s.heap.IsList l items) (hx : items[i]? = none)
    (hQ : ∀ h', (∀ b o, b ≠ it → s.heap.get? b = some o → h'.get? b = some o) → Q none { s with heap := h' }) : wpAny (model prog w) A (pyNext (.ref it)) Q E s := by
  obtain ⟨hh, o1, v1, g1, d1, c1⟩ := hot
  obtain ⟨oi, hi, hc, hd⟩ := id hit
  obtain ⟨ol, hol, _, nl, hdl⟩ := hl
  unfold pyNext
  refine wpAny_bind (wpAny_attempt (wpAny_callSpecial?_slot (name := Str.ofString "__next__") hit.typeIs slot_listiter_next (wpAny_call_entry slot_listiter_next hit.typeIs entry_listiter_next ?_ (args_listiter_next _))))
  show wpAny _ _ (field (.ref it) 0 >>= _) _ _ s
  refine wpAny_bind (wpAny_field hi hd (x := .ref l) rfl ?_)
  show wpAny _ _ (if (Value.ref l == Value.none) = true then _ else _) _ _ s
  rw [if_neg (fun z => absurd (show (Value.ref l == Value.none) = true from z) Bool.false_ne_true)]
  show wpAny _ _ (field (.ref it) 1 >>= _) _ _ s
  refine wpAny_bind (wpAny_field hi hd (x := .int i 0) rfl ?_)
  show wpAny _ _ (seqItems? (.ref l) >>= _) _ _ s
  refine wpAny_bind (wpAny_seqItems hol hdl ?_)
  simp only [Int.toNat_natCast, hx]
  refine wpAny_bind (wpAny_rule (wpAny_bind (wpAny_setField hi hd (by simp) ?_)))
  show wpAny _ _ (newExc (.type "StopIteration") [] >>= _) _ _ _
  refine wpAny_bind ?_
  simp only [newExc, newTuple]
  refine wpAny_bind (wpAny_newObj_type ?_ (by size_fits))
  refine wpAny_bind (m := firstArgMember _ _) (wpAny_of_eq (a := Value.none) (by first | rfl | (simp only [firstArgMember]; rfl)) ?_)
  refine wpAny_newObj_type ?_ (by size_fits)
  have keep : ∀ b o, b ≠ it → s.heap.get? b = some o → (s.heap.update it (Obj.mapFields fun x => x.setIfInBounds 0 Value.none)).get? b = some o := fun b o nb z => (Heap.get?_update_other _ _ (Ne.symm nb)).trans z
  have g1' := keep x1 o1 hne g1
  refine HotX.raiseNew_hot ⟨hh, o1, v1, Heap.get?_push_of_some _ (Heap.get?_push_of_some _ g1'), d1, c1⟩ (Nat.ne_of_lt (Heap.lt_size (Heap.get?_push_of_some _ g1'))) (Heap.get?_push_size _ rfl) rfl (by first | (simp; done) | (simp; omega) | (simp only [Array.size_append]; simp; omega)) ?_
  refine wpAny_bind (wpAny_isInstance (T := "StopIteration") (b := true) ⟨_, Heap.get?_update_self _ (Heap.get?_push_size _ rfl) rfl, rfl⟩ isSubtype_stop ?_)
  refine wpAny_pure (hQ _ fun b o nb z => ?_)
  have z' := keep b o nb z
  rw [Heap.get?_update_other _ _ (Nat.ne_of_gt (Heap.lt_size (Heap.get?_push_of_some _ z')))]
  exact Heap.get?_push_of_some _ (Heap.get?_push_of_some _ z')
end
section
variable {X : Cx}
/-- [elt for tg in l if ..], l a list, within an except suite -/
theorem pe_lcH {elt tg l : Expr} {ifs : List Expr} {scope : Scope} {own : List (Str × Nat)} {pos : Pos} {tl : TE} {g : TG} {tt : TT} {te : TE} (hot : L2H.HotC X) (nd : X.N.Nodup) (hl : PE X l tl) (ok : BlkOk X.N X.env.scope scope own)
    (hg : ∀ (s : Shared) (H : Hp) (C : Addr) (cl : List (Str × Addr)) (fp : List Addr), PG (X.blk s H scope (compEnvC scope cl C X.env) fp) tg g)
    (ht : ∀ (s : Shared) (H : Hp) (C : Addr) (cl : List (Str × Addr)) (fp : List Addr), PTs (X.blk s H scope (compEnvC scope cl C X.env) fp) ifs tt)
    (he : ∀ (s : Shared) (H : Hp) (C : Addr) (cl : List (Str × Addr)) (fp : List Addr), PE (X.blk s H scope (compEnvC scope cl C X.env) fp) elt te)
    (hs : ∀ x, foldedSetIterable l X.env x = pure x := by intro _; rfl) : PE X (.ListComp elt [⟨tg, l, ifs, 0⟩] scope pos) (tLc (iList X.K tl) g tt te (own.map (·.2))) := by
  constructor
  intro pins s σ H Q I h
  rw [eval_ListComp]
  have cells : ∀ y ∈ scope.names, y.2 = .free → ∃ c, X.env.cells.lookup y.1 = some c := by
    intro y hy e
    exact (ok.free y hy e).elim (fun z => I.ok.has _ (.inl z)) fun z => I.ok.has _ (.inr z)
  refine wpAny_comprehension_free (use := none) rfl hs (closure_ok cells) ok.kind (fun y hy e => by rw [ok.uniq y hy, e]) (thn (hl.run pins s σ H _ I h) ?_)
  rintro lv s1 ⟨lx, H1, I1, r1, a, rfl, ⟨xs, hq⟩, todo⟩
  cases r1
  obtain ⟨its, rvs, pls, _⟩ := I1.list hq
  refine wpAny_pyIter_list pls.isList ?_
  -- the iterator, then the new list
  generalize hit : s1.heap.objs.size = it
  generalize hs2 : ({ s1 with heap := s1.heap.push { cls := .type "list_iterator", data := .fields #[.ref a, .int 0 0] } } : Shared) = s2
  have hp2 : s2.heap = s1.heap.push { cls := .type "list_iterator", data := .fields #[.ref a, .int 0 0] } := by rw [← hs2]
  have I2 : L2.Inv X pins σ H1 s2 := by
    rw [← hs2]
    exact I1.kept (t' := s1.toks) fun b o z => Heap.get?_push_of_some _ z
  have st2 : s2.heap.IsListIter it a 0 := by
    rw [hp2, ← hit]
    exact ⟨_, Heap.get?_push_size _ rfl, rfl, rfl⟩
  have fit : FpOk X pins H1 it := I1.fpOk (Nat.le_of_eq hit) (I1.hok.fresh (Nat.le_of_eq hit))
  have lit : it < s2.heap.objs.size := by
    rw [hp2, Heap.size_push, ← hit]
    exact Nat.lt_succ_self _
  refine wpAny_newObj_type (newEnv_comp ?_) (by show 0 ≤ sizeLine; decide)
  generalize hD : s2.heap.objs.size = D
  have freeD : H1 D = none := I2.hok.fresh (Nat.le_of_eq hD)
  obtain ⟨W, ⟨m0, w0⟩, turn⟩ := todo D freeD
  generalize hs3 : ({ s2 with heap := s2.heap.push { cls := .type "list", data := .seq ([] : List Value).toArray } } : Shared) = s3
  have hp3 : s3.heap = s2.heap.push { cls := .type "list", data := .seq ([] : List Value).toArray } := by rw [← hs3]
  have I3 : L2.Inv X pins σ (upd H1 D (.lst [])) s3 := by
    rw [← hs3]
    refine I2.laid (t' := s2.toks) (fun b o z => Heap.get?_push_of_some _ z) (Nat.le_of_eq hD) ⟨Nat.zero_le _, [], 0, .nil, ?_⟩
    rw [← hD]
    exact Heap.get?_push_size _ rfl
  have neD : it ≠ D := by
    rw [← hD]
    exact Nat.ne_of_lt lit
  have fit3 : ∀ b ∈ [it], FpOk X pins (upd H1 D (.lst [])) b ∧ b < s3.heap.objs.size := by
    intro b hb
    cases List.mem_singleton.mp hb
    refine ⟨⟨by rw [upd_ne neD]; exact fit.1, fit.2⟩, ?_⟩
    rw [hp3, Heap.size_push]
    exact Nat.lt_succ_of_lt lit
  have st3 : s3.heap.IsListIter it a 0 := st2.at fun o z => by rw [hp3]; exact Heap.get?_push_of_some _ z
  -- the exception that is handled
  obtain ⟨p, ⟨hh, v1, e1, c1⟩, hp⟩ := hot
  obtain ⟨gp, np, nl, nf, _⟩ := I3.pin p (List.mem_append_left _ hp)
  have nst : p.1 ∉ frs X.stack := fun z => (List.mem_cons.mp (I3.stkSub p.1 z)).elim nl nf
  have npi : p.1 ≠ it := fun z => fit.2.2.2.2.2 p (List.mem_append_left _ hp) z
  have I4 := block_start I3 ok nd fit3
  have rg := hg s3 (upd H1 D (.lst [])) s3.heap.objs.size (cellsFrom (s3.heap.objs.size + 1) scope.names (cloFrom X.env.cells scope.names [])) [it]
  have rt := ht s3 (upd H1 D (.lst [])) s3.heap.objs.size (cellsFrom (s3.heap.objs.size + 1) scope.names (cloFrom X.env.cells scope.names [])) [it]
  have re := he s3 (upd H1 D (.lst [])) s3.heap.objs.size (cellsFrom (s3.heap.objs.size + 1) scope.names (cloFrom X.env.cells scope.names [])) [it]
  show codeAny _ _ (.compStart (.ListComp elt [⟨tg, l, ifs, 0⟩] scope pos) 0 (.ref it) (.ref D) (compEnvC scope (cellsFrom (s3.heap.objs.size + 1) scope.names (cloFrom X.env.cells scope.names [])) s3.heap.objs.size X.env)) (compPost (model X.prog X.w) X.A X.xe none (EP X pins σ Q) (.ref D) s3.heap.objs.size) { s3 with heap := pushCells (s3.heap.push { cls := .type "dict", data := .dict #[] }) scope.names }
  generalize hce : compEnvC scope (cellsFrom (s3.heap.objs.size + 1) scope.names (cloFrom X.env.cells scope.names [])) s3.heap.objs.size X.env = ce at I4 rg rt re ⊢
  have ceL : ce.locals = s3.heap.objs.size := by subst hce; rfl
  have nit3 : (upd H1 D (.lst [])) it = none := (fit3 it (by simp)).1.1
  generalize hH3 : upd H1 D (.lst []) = H3 at I3 I4 rg rt re w0 nit3 fit3 np
  generalize hs4 : ({ s3 with heap := pushCells (s3.heap.push { cls := .type "dict", data := .dict #[] }) scope.names } : Shared) = s4 at I4 ⊢
  have st4 : s4.heap.IsListIter it a 0 := st3.at fun o z => by rw [← hs4]; exact pushCells_keeps _ _ _ _ (Heap.get?_push_of_some _ z)
  have own' : ∀ {σ' : L2.St} {H' : Hp} {s' : Shared}, L2.Inv (X.blk s3 H3 scope ce [it]) [] σ' H' s' → H' it = none → ∀ b ∈ [it], FpOk (X.blk s3 H3 scope ce [it]) [] H' b := by
    intro σ' H' s' J n b hb
    cases List.mem_singleton.mp hb
    exact ⟨n, (J.ok.exf it hb).1, J.ok.exfs it hb, .inl hb, fun x c z => (J.ok.exf it hb).2 x c z, fun q hq => absurd (show q ∈ ([] : List (Addr × Obj)) ++ [] from hq) (by simp)⟩
  have loop : codeAny (model X.prog X.w) X.A (.compLoop (.ListComp elt [⟨tg, l, ifs, 0⟩] scope pos) 0 (.ref it) (.ref D) ce) (compPost (model X.prog X.w) X.A X.xe none (EP X pins σ Q) (.ref D) s3.heap.objs.size) s4 := by
    refine compLoop_any (fun n s' => ∃ i H', L2.Inv (X.blk s3 H3 scope ce [it]) [] (wipe σ (own.map (·.2))) H' s' ∧ s'.heap.IsListIter it a i ∧ H' it = none ∧ W i n H') ?_ m0 ⟨0, H3, I4, st4, nit3, w0⟩
    rintro n s5 ⟨i, H5, I5, st5, n5, w5⟩
    obtain ⟨f0, f1, f2, f3, f4, f5⟩ := own' I5 n5 it (by simp)
    rcases turn i n H5 w5 with ⟨⟨ys, hys, hle⟩, qq⟩ | ⟨⟨ys, y, hys, hy⟩, Nx, hNx, step⟩
    · -- the end
      obtain ⟨its5, rv5, pl5, _⟩ := I5.list hys
      have hot5 : HotX.HotAt X.A p.1 s5.heap := ⟨hh, p.2, v1, I5.base.keep p.1 p.2 gp np nst (fun z => npi (by simpa using z)), e1, c1⟩
      have ln := rv5.length
      refine list_end_hot hot5 npi st5 pl5.isList (by simp; omega) fun h' kb => ?_
      have I6 : L2.Inv (X.blk s3 H3 scope ce [it]) [] (wipe σ (own.map (·.2))) H5 { s5 with heap := h' } := I5.turned (t' := s5.toks) (fun b o nb z => kb b o nb z) f0 f1 f3 f4 f5
      have I7 : L2.Inv X pins σ H5 { s5 with heap := h' } := I3.call' (ch := [it]) I6.os I6.base I6.hok I6.bare fun b hb => by
        have z := (fit3 b hb).1.2
        exact ⟨z.2.2.1, z.1, z.2.2.2.1, z.2.2.2.2⟩
      have nC : H5 s3.heap.objs.size = none := by
        have z : H5 ce.locals = none := I6.free
        rwa [ceL] at z
      obtain ⟨m, hn, _⟩ := I6.loc
      have hn : ({ s5 with heap := h' } : Shared).heap.Ns ce.locals m := hn
      rw [ceL] at hn
      obtain ⟨k0, k1, k2, k3, k4, k5⟩ : FpOk X pins H5 s3.heap.objs.size := I3.fpOk (Nat.le_refl _) nC
      exact ⟨m, hn, fun h'' sb => ⟨.ref D, H5, I7.turned (t' := s5.toks) (fun b o nb z => (sb.2 b nb).trans z) k0 k1 k3 k4 k5, rfl, qq⟩⟩
    · -- a turn
      obtain ⟨its5, rv5, pl5, _⟩ := I5.list hys
      obtain ⟨u, hu, ru⟩ := rv5.get hy
      refine wpAny_pyNext_list_item st5 pl5.isList (x := u) (by simpa using hu) fun h' st' sb => ?_
      have I6 : L2.Inv (X.blk s3 H3 scope ce [it]) [] (wipe σ (own.map (·.2))) H5 { s5 with heap := h' } := I5.turned (t' := s5.toks) (fun b o nb z => (sb.2 b nb).trans z) f0 f1 f3 f4 f5
      obtain ⟨oi, gi, ci, di⟩ := id st'
      refine go_of (s := { s5 with heap := h' }) gi ci di (by decide) ?_
      have I7 := I6.pinned (own' I6 n5) (fun b hb => by
        cases List.mem_singleton.mp hb
        exact ⟨oi, gi, fun v z => by rw [di] at z; cases z⟩)
      refine thnF (rg.run _ { s5 with heap := h' } _ H5 y u _ I7 ru (step y H5 ⟨rfl, fun zs hz => by rw [I5.list_inj hz hys]; exact hy⟩)) ?_
      rintro _ s8 ⟨σ8, H8, I8, hw8, q8⟩
      refine thnF (rt.run _ s8 σ8 H8 _ I8 q8) ?_
      rintro b s9 ⟨H9, I9, q9⟩
      have fin : ∀ {s' : Shared} {H' : Hp}, L2.Inv (X.blk s3 H3 scope ce [it]) ([] ++ pinsAt [it] h') σ8 H' s' → Nx H' → ∃ m, m < n ∧ ∃ i H', L2.Inv (X.blk s3 H3 scope ce [it]) [] (wipe σ (own.map (·.2))) H' s' ∧ s'.heap.IsListIter it a i ∧ H' it = none ∧ W i m H' := by
        intro s' H' J nx
        obtain ⟨m', hm, w'⟩ := hNx H' nx
        have pn := J.pin (it, oi) (List.mem_append_right _ (List.mem_append_right _ (mem_pinsAt (by simp) gi)))
        have hl8 : (wipe σ (own.map (·.2))).length = σ8.length := by rw [← hw8, wipe_length]
        refine ⟨m', hm, i + 1, H', (J.unpinned (pins := [])).weak hl8 (fun j v z => ?_), ⟨oi, pn.1, ci, di⟩, pn.2.1, w'⟩
        rw [← hw8] at z
        exact (wipe_some z).1
      cases b with
      | false =>
        simp only [Bool.false_eq_true, if_false] at q9 ⊢
        exact fin I9 q9
      | true =>
        simp only [if_true] at q9 ⊢
        refine thnF (re.run _ s9 σ8 H9 _ I9 q9) ?_
        rintro z s10 ⟨yv, H10, I10, r10, acc, hD10, hz10, nx⟩
        exact app_ok (X := X.blk s3 H3 scope ce [it]) I10 hD10 hz10 r10 fun s11 I11 => fin I11 nx
  exact codeAny_compStart_list loop (wpAny_pyIter_listiter st4 loop)
end
end LW

namespace K44
open PySem PySem.Spec L2 LW
open Evl (Ex)
/-- the classes of the errors -/
structure TxE (K : PySem.W.Frag) (mg : Str → Option Value) (CC CU CD CR : Addr) : Prop where
  gC : mg "CheckError" = some (.ref CC)
  gU : mg "UnknownPoint" = some (.ref CU)
  gD : mg "DuplicatePoint" = some (.ref CD)
  gR : mg "RepeatedChild" = some (.ref CR)
  bV : mg "ValueError" = none
  xU : ExcD K CU
  xD : ExcD K CD
  xR : ExcD K CR
  nU : PySem.W.findIn K (.ref CU) "point" = some none
  nD : PySem.W.findIn K (.ref CD) "point" = some none
  nR : PySem.W.findIn K (.ref CR) "point" = some none
  nR2 : PySem.W.findIn K (.ref CR) "case" = some none
  eUU : PySem.W.exmOne K (.ref CU) (.ref CU) = some true
  eU : PySem.W.exmOne K (.ref CU) (.ref CC) = some true
  eD : PySem.W.exmOne K (.ref CD) (.ref CC) = some true
  eR : PySem.W.exmOne K (.ref CR) (.ref CC) = some true
  kUU : PySem.W.kitOne K (.ref CU) (.ref CU) = some true
  kUD : PySem.W.kitOne K (.ref CU) (.ref CD) = some false
  kUR : PySem.W.kitOne K (.ref CU) (.ref CR) = some false
  kDU : PySem.W.kitOne K (.ref CD) (.ref CU) = some false
  kDD : PySem.W.kitOne K (.ref CD) (.ref CD) = some true
  kDR : PySem.W.kitOne K (.ref CD) (.ref CR) = some false
  kRU : PySem.W.kitOne K (.ref CR) (.ref CU) = some false
  kRD : PySem.W.kitOne K (.ref CR) (.ref CD) = some false
  kRR : PySem.W.kitOne K (.ref CR) (.ref CR) = some true
  vU : PySem.W.kitOne K (.ref CU) (.type "ValueError") = some true
  vD : PySem.W.kitOne K (.ref CD) (.type "ValueError") = some true
  vR : PySem.W.kitOne K (.ref CR) (.type "ValueError") = some true
section
variable {P : Program} {w : World} {K : PySem.W.Frag} {mg : Str → Option Value} {base : Heap} {C CC CD CU CR : Addr}
/-! ### cases -/
def spCases (C CU : Addr) : Sp := fun vs H Q E => ∃ (x : Addr) (pt : Str) (rows : List Row), vs = [.ref x, .str pt] ∧ LkAt C H x rows ∧ (rows.map (·.1)).Nodup ∧
  (∀ cs, (pt, cs) ∈ rows → cs.length ≤ 20 ∧ ∀ (cl : Addr) (ks : List CaseS) (H' : Hp), Ex H H' → H' cl = some (.lst (ks.map fun k => V.ref k.a)) → (∀ k ∈ ks, k.At H') → ks.map (·.c) = cs → H cl = none → (∀ k ∈ ks, H k.l = none ∧ k.l ≠ cl) → Q (.ref cl) H') ∧
  (pt ∉ rows.map (·.1) → ∀ d H', Ex H H' → H' d = some (.xd [("point", .str pt)]) → E (.ref CU) (some d) H')
theorem sc_Looker_cases : FnScope ["self", "point", "test", "word", "visits"] ["self", "point"] (defScope s_Looker_cases) := ⟨rfl, rfl, rfl, by decide +kernel, rfl, by decide +kernel, by decide +kernel⟩
theorem bi_Looker_cases : BindsM "cases" "Looker.cases" s_Looker_cases ["self", "point"] := fun _ _ _ _ _ _ us hl => match us, hl with | [_, _], _ => rfl
theorem ok_cases (F : Dm_ K C "cases" "Looker.cases" s_Looker_cases) (T : Txt K mg) (L : TxQ K mg C) (X_UnknownPoint : XMk P w K mg base 1 "UnknownPoint" CU "point") : Mt P w K mg base (L2N.CX P w) 3 C "cases" (spCases C CU) := by
  refine mtN L.cl F sc_Looker_cases bi_Looker_cases (fun vs H Q E h => ?_) (fun f cdv A outer s H vs Q E hr h => ?_)
  · obtain ⟨x, pt, rows, rfl, _⟩ := h
    rfl
  · obtain ⟨x, pt, rows, rfl, lk, nd, k1, k2⟩ := h
    have hu := hu_of hr
    refine ⟨_, (pss_cons (ps_if (pt_cmp (pc_dnotin hu (pv 1) (pfl K (pv 0) rfl))) (pss_one (L2N.ps_raise rfl (L2N.takes_of rfl rfl rfl rfl) (pmk_xN X_UnknownPoint hr (by decide) rfl (pa_cons (pv 1) pa_nil)))) pss_nil)
 (pss_one (ps_ret (pe_lc (own := [("test", 2), ("word", 3), ("visits", 4)]) (by rfl) sc_Looker_cases.nd (pil K (pe_dget hu (pfl K (pv 0) rfl) (pv 1) (fun _ _ => rfl))) (blkOk_by (own := [("test", 2), ("word", 3), ("visits", 4)]) (N := ["self", "point", "test", "word", "visits"]) (sc := defScope s_Looker_cases) (by decide +kernel)) (fun _ _ _ _ _ => (pgt (n := 3) K rfl (pgs_cons (pg_name (i := 2) sc_Looker_cases.nd rfl (Or.inl rfl)) (pgs_cons (pg_name (i := 3) sc_Looker_cases.nd rfl (Or.inl rfl)) (pgs_cons (pg_name (i := 4) sc_Looker_cases.nd rfl (Or.inl rfl)) pgs_nil))))) (fun _ _ _ _ _ => pts_nil) (fun _ _ _ _ _ => (pe_tup (pa_cons (pv 2) (pa_cons (pv 3) (pa_cons (pe_callTy (lofK K) rfl T.b_list (by decide +kernel) (pa_cons (pv 4) pa_nil)) pa_nil))))))))), ?_⟩
    obtain ⟨dx, o, d, kvs, g1, g2, g3, rk⟩ := lk
    refine ⟨_, rfl, _, rfl, x, C, dx, _, _, rfl, g1, L.cl, L.nC, lfs_chart _ _, d, _, rfl, DGet.k (k := Sum.inr pt) g3, _, rfl, ?_⟩
    by_cases hm : pt ∈ rows.map (·.1)
    · obtain ⟨⟨pt', cs⟩, hrm, rfl⟩ := List.mem_map.mp hm
      obtain ⟨hl, k1⟩ := k1 cs hrm
      obtain ⟨u, hu1, a4, ys, rfl, h4, rc⟩ := val_some rk nd hrm
      have ly : ys.length = cs.length := Paired.len rc
      rw [hu1]
      refine ⟨_, rfl, x, C, dx, _, _, rfl, g1, L.cl, L.nC, lfs_chart _ _, _, rfl, d, _, rfl, (by have q := DGet.k (k := Sum.inr pt') g3; rw [hu1] at q; exact q), a4, rfl, ⟨_, SqLo h4⟩, fun p4 np4 => lc_list (K := K) (a := a4) (xs := ys) (fun j H' => Ex H H' ∧ ∃ ks : List CaseS, H' p4 = some (.lst (ks.map fun k => V.ref k.a)) ∧ (∀ k ∈ ks, k.At (del H' p4)) ∧ ks.map (·.c) = cs.take j ∧ ∀ k ∈ ks, H k.l = none) ?_ ?_ ?_ ?_⟩
      · exact ⟨Ex.new np4, [], upd_same, nofun, by rw [List.take_zero]; rfl, nofun⟩
      · rintro j H' _ ⟨ex, _⟩
        exact SqLo (ex _ _ h4)
      · rintro j y H4 hj ⟨x0_4, ks, g4, ru, emk, frk⟩
        obtain ⟨c, hc, a5, tv, lv, rfl, h5, rt, a6, vs, rfl, h6, rvl⟩ := Paired.get rc hj
        have tkc : cs.take (j + 1) = cs.take j ++ [c] := by rw [List.take_add_one, hc]; rfl
        have hul : ks.length ≤ 20 := by
          have q : ks.length = (cs.take j).length := by rw [← emk, List.length_map]
          rw [List.length_take] at q
          omega
        refine ⟨a5, _, rfl, SqTo (x0_4 _ _ h5), rfl, _, _, rfl, _, _, rfl, _, _, rfl, rfl, rfl, _, rfl, _, rfl, _, rfl, a6, vs, rfl, .inl (SqLo (x0_4 _ _ h6)), fun p6 np6 => ?_⟩
        obtain ⟨H6, hH6, x4_6, h6'⟩ := newH _ np6
        rw [hH6]
        clear hH6
        refine ⟨szl (by show 3 ≤ 100000; decide), fun p7 np7 => ?_⟩
        obtain ⟨H7, hH7, x6_7, h7⟩ := newH _ np7
        rw [hH7]
        clear hH7
        have x4_7 := x4_6.trans x6_7
        have n64 : p6 ≠ p4 := fun e => by rw [e, g4] at np6; cases np6
        have n74 : p7 ≠ p4 := fun e => by rw [e, x4_6 _ _ g4] at np7; cases np7
        refine ⟨_, x4_7 _ _ g4, szlt (by rw [List.length_map]; omega), Ex.mut (x0_4.trans x4_7) np4, ks ++ [⟨p7, tv, p6, vs, c⟩], ?_, fun k hk => ?_, ?_, fun k hk => ?_⟩
        · rw [upd_same, List.map_append]
          rfl
        · have eH : Ex H (del (upd H7 p4 (.lst ((ks.map fun k => V.ref k.a) ++ [.ref p7]))) p4) := ex_of_del (Ex.mut (x0_4.trans x4_7) np4) np4
          rcases List.mem_append.mp hk with hk | hk
          · exact (ru k hk).ex (del_grow x4_7)
          · cases List.mem_singleton.mp hk
            exact ⟨del_get (up_ne h7 n74) n74, rt.ex eH, del_get (up_ne (x6_7 _ _ h6') n64) n64, Paired.imp (fun _ _ r => RVis.ex eH r) rvl⟩
        · rw [List.map_append, emk, tkc]
          rfl
        · rcases List.mem_append.mp hk with hk | hk
          · exact frk k hk
          · cases List.mem_singleton.mp hk
            exact ex_free x0_4 np6
      · rintro H4 ⟨x0_4, ks, g4, ru, emk, frk⟩
        rw [ly, List.take_length] at emk
        exact k1 p4 ks H4 x0_4 g4 (fun k hk => (ru k hk).ex ex_del) emk np4 fun k hk => ⟨frk k hk, (del_sm (ru k hk).li).2⟩
    · rw [val_none rk hm]
      exact ⟨_, rfl, xmk_go fun d H2 _ e2 hd => k2 hm d H2 e2 hd⟩
/-! ### _law_unknown -/
def tSuiteU (K : PySem.W.Frag) (CD CR : Addr) : Addr → Value → Option Addr → TS := fun a cls d =>
  tRet (tAndV (tOp rEq (tXg K a cls d "point" (tVar 1)) (tC (.str "nobody"))) (tAndV (tNotV (tCB (rIsX K cls d a) (tCons (tVar 1) (tCons (tC (.ref CD)) tNil)))) (tNotV (tCB (rIsX K cls d a) (tCons (tVar 1) (tCons (tC (.ref CR)) tNil))))))
def spUnk (C : Addr) : Sp := fun vs H Q _ => ∃ (x : Addr) (rows : List Row), vs = [.ref x] ∧ LkAt C H x rows ∧ (rows.map (·.1)).Nodup ∧ ("nobody" : Str) ∉ rows.map (·.1) ∧ ∀ H', Ex H H' → Q (.bl true) H'
theorem sc__law_unknown : FnScope ["_law_looker", "e"] ["_law_looker"] (defScope s__law_unknown) := ⟨rfl, rfl, rfl, by decide +kernel, rfl, by decide +kernel, by decide +kernel⟩
theorem bi__law_unknown : BindsEq "_law_unknown" s__law_unknown ["_law_looker"] := fun _ _ _ _ _ _ us hl => match us, hl with | [_], _ => rfl
theorem ok_unk (F : Df K mg "_law_unknown" s__law_unknown) (T : Txt K mg) (Te : TxE K mg CC CU CD CR) (M_cases : Mt P w K mg base (L2N.CX P w) 3 C "cases" (spCases C CU)) : Cal P w K mg base CX0 4 "_law_unknown" (spUnk C) := by
  refine cal0 F sc__law_unknown bi__law_unknown (fun vs H Q E h => ?_) (fun f cdv A outer s H vs Q E hr h => ?_)
  · obtain ⟨x, rows, rfl, _⟩ := h
    rfl
  · obtain ⟨x, rows, rfl, lk, nd, nn, k⟩ := h
    refine ⟨_, pss_cons (L2N.ps_try_as (i := 1) (tb := fun W => tDrop (tMethW C "cases" (spCases C CU) (WE W) (tVar 0) (tCons (tC (.str "nobody")) tNil))) (ts := tSuiteU K CD CR) (Wout := fun _ _ _ _ => False) rfl rfl sc__law_unknown.nd rfl rfl ⟨rfl, by decide, Or.inl Te.gU⟩ (fun u s' x => by obtain ⟨_, _, _, _, _, _, _, _, _, _, _, _, _, _, _, _, z⟩ := x; exact z.elim)
        (fun W pn xe tk _ => pss_one (ps_expr (pe_mW M_cases hr (by decide) tk (pv 0) (pa_cons pe_str pa_nil))))
        (fun a oe cls d pn hz hf => pss_one (ps_ret (pe_and (pe_cmpR op_eq (pe_xg hz.zc hf (pv 1)) pe_str (nomark _)) (pe_and (pe_not (pe_callB (call_isX hz.zc hf) rfl T.b_isinstance (by decide +kernel) (pa_cons (pv 1) (pa_cons (pe_glob rfl Te.gD rfl) pa_nil))))
          (pe_one (pe_not (pe_callB (call_isX hz.zc hf) rfl T.b_isinstance (by decide +kernel) (pa_cons (pv 1) (pa_cons (pe_glob rfl Te.gR rfl) pa_nil))))))))))
      (pss_one (ps_ret pe_bl)), ?_⟩
    obtain ⟨dx, o, d, kvs, g1, g2, g3, rk⟩ := id lk
    refine ⟨_, rfl, x, dx, _, rfl, g1, lfs_no _ _ (by decide +kernel) (by decide +kernel), x, "nobody", rows, rfl, lk, nd, fun cs hm => absurd (List.mem_map_of_mem hm) nn, fun _ d H1 x0_1 hd => ?_⟩
    refine ⟨true, Te.eUU, fun _ a ha => ?_, fun q => Bool.noConfusion q⟩
    have hdd : ∀ dd, some d = some dd → ∃ fs, H1 dd = some (.xd fs) := fun dd e => by cases e; exact ⟨_, hd⟩
    refine ⟨_, rfl, rfl, CU, d, _, _, rfl, Te.xU.xf, Te.nU, rfl, hd, rfl, rfl, _, rfl, if_t (by decide +kernel) ?_⟩
    refine ⟨_, rfl, CU, _, _, _, rfl, rfl, Te.xU, hdd, .own CD, Te.kUD, _, rfl, _, rfl, ?_⟩
    exact ⟨_, rfl, CU, _, _, _, rfl, rfl, Te.xU, hdd, .own CR, Te.kUR, _, rfl, k H1 x0_1⟩
end
end K44

namespace K44
open PySem PySem.Spec L2 LW
open Evl (Ex)
section
variable {P : Program} {w : World} {K : PySem.W.Frag} {mg : Str → Option Value} {base : Heap} {C CC CD CU CR : Addr}
/-! ### _law_found -/
def tIsF (K : PySem.W.Frag) (c : V) (a : Addr) (cls : Value) (d : Option Addr) : TE := tCB (rIsX K cls d a) (tCons (tVar 1) (tCons (tC c) tNil))
def tSuiteF (K : PySem.W.Frag) (CD CR CU : Addr) : Addr → Value → Option Addr → TS := fun a cls d =>
  tSeq (tAsg (tLst (tCons (tIsF K (.ref CD) a cls d) (tCons (tIsF K (.ref CR) a cls d) (tCons (tIsF K (.ref CU) a cls d) tNil)))) (gName 2))
   (tSeq (tIfS (tOr (tNot (tB (tIsF K (.ty "ValueError") a cls d))) (tTest (tOp rNe (tCB (rLn K) (tCons (tLc (iList K (tVar 2)) (gName 3) (tB (tVar 3)) (tVar 3) [3]) tNil)) (tC (.int 1))))) (tRet (tC (.str "other"))) tNext)
    (tSeq (tIfS (tB (tOp (rIxL K) (tVar 2) (tC (.int 1)))) (tRet (tTup (tCons (tC (.str "repeated")) (tCons (tXg K a cls d "point" (tVar 1)) (tCons (tXg K a cls d "case" (tVar 1)) tNil))))) tNext)
     (tRet (tOp (rIxL K) (tLst (tCons (tTup (tCons (tC (.str "duplicate")) (tCons (tXg K a cls d "point" (tVar 1)) tNil))) (tCons (tTup tNil) (tCons (tTup (tCons (tC (.str "unknown")) (tCons (tXg K a cls d "point" (tVar 1)) tNil))) tNil))))
       (tBM K "list" (rIndex K) (tVar 2) (tCons (tC (.bl true)) tNil))))))
def spFound : Sp := fun vs H Q _ => ∃ (v : V) (rows : List Row), vs = [v] ∧ RProg H v rows ∧ PB 4 rows ∧ ∀ u H', Ex H H' → RDue H' u (dueP rows) → Q u H'
theorem sc__law_found : FnScope ["_law_program_here", "e", "_law_kinds", "_law_one"] ["_law_program_here"] (defScope s__law_found) := ⟨rfl, rfl, rfl, by decide +kernel, rfl, by decide +kernel, by decide +kernel⟩
theorem bi__law_found : BindsEq "_law_found" s__law_found ["_law_program_here"] := fun _ _ _ _ _ _ us hl => match us, hl with | [_], _ => rfl
theorem hotc {X : Cx} {a : Addr} {oe : Obj} {cls : Value} {d : Option Addr} {pn : List (Addr × Obj)} (hz : L2N.Zn cls d oe) (hf : ∃ vs, oe.data = .fields vs) : L2H.HotC (X.suite a ((a, oe) :: pn)) := by
  obtain ⟨vs, e⟩ := hf
  exact ⟨(a, oe), ⟨rfl, vs, e, hz.2.2 vs e⟩, List.mem_cons_self⟩
/-- the suite up to the kinds: just one of them -/
theorem suite_pre {a dd Ce : Addr} {b0 b1 b2 : Bool} {v : V} {o2 o3 : Option V} {D : Ends} {H1 : Hp} {fs : List (Str × V)} (Te : TxE K mg CC CU CD CR) (xe : ExcD K Ce) (k0 : PySem.W.kitOne K (.ref Ce) (.ref CD) = some b0) (k1 : PySem.W.kitOne K (.ref Ce) (.ref CR) = some b1) (k2 : PySem.W.kitOne K (.ref Ce) (.ref CU) = some b2)
    (kv : PySem.W.kitOne K (.ref Ce) (.type "ValueError") = some true) (one : [b0, b1, b2].countP id = 1) (hdd : H1 dd = some (.xd fs))
    (go : ∀ p1 o3 H2, Ex H1 H2 → H2 p1 = some (.lst [.bl b0, .bl b1, .bl b2]) →
      (tSeq (tIfS (tB (tOp (rIxL K) (tVar 2) (tC (.int 1)))) (tRet (tTup (tCons (tC (.str "repeated")) (tCons (tXg K a (.ref Ce) (some dd) "point" (tVar 1)) (tCons (tXg K a (.ref Ce) (some dd) "case" (tVar 1)) tNil))))) tNext)
     (tRet (tOp (rIxL K) (tLst (tCons (tTup (tCons (tC (.str "duplicate")) (tCons (tXg K a (.ref Ce) (some dd) "point" (tVar 1)) tNil))) (tCons (tTup tNil) (tCons (tTup (tCons (tC (.str "unknown")) (tCons (tXg K a (.ref Ce) (some dd) "point" (tVar 1)) tNil))) tNil))))
       (tBM K "list" (rIndex K) (tVar 2) (tCons (tC (.bl true)) tNil))))) D [some v, some (.ref a), some (.ref p1), o3] H2) :
    tSuiteF K CD CR CU a (.ref Ce) (some dd) D [some v, some (.ref a), o2, o3] H1 := by
  have hx : ∀ d', some dd = some d' → ∃ fs, H1 d' = some (.xd fs) := fun d' e => by cases e; exact ⟨_, hdd⟩
  refine ⟨_, rfl, Ce, _, _, _, rfl, rfl, xe, hx, .own CD, k0, _, rfl, Ce, _, _, _, rfl, rfl, xe, hx, .own CR, k1, _, rfl, Ce, _, _, _, rfl, rfl, xe, hx, .own CU, k2, szl (by show 3 ≤ 100000; decide), fun p1 np1 => ?_⟩
  obtain ⟨H2, hH2, x1_2, h2⟩ := newH _ np1
  rw [hH2]
  clear hH2
  have hx2 : ∀ d', some dd = some d' → ∃ fs, H2 d' = some (.xd fs) := fun d' e => by cases e; exact ⟨_, x1_2 _ _ hdd⟩
  refine ⟨_, rfl, Ce, _, _, _, rfl, rfl, xe, hx2, .ty "ValueError", kv, _, rfl, if_f rfl ?_⟩
  refine ⟨_, rfl, p1, rfl, ⟨_, SqLo h2⟩, fun D2 nD2 => lc_list (K := K) (a := p1) (xs := [.bl b0, .bl b1, .bl b2]) (fun j H' => Ex H2 H' ∧ ∃ acc, H' D2 = some (.lst acc) ∧ acc.length = ([b0, b1, b2].take j).countP id) ?_ ?_ ?_ ?_⟩
  · exact ⟨Ex.new nD2, [], upd_same, rfl⟩
  · rintro j H' _ ⟨ex, _⟩
    exact SqLo (ex _ _ h2)
  · rintro j y H' hj ⟨ex, acc, hD, hal⟩
    obtain ⟨b, hb, rfl⟩ : ∃ b, [b0, b1, b2][j]? = some b ∧ y = .bl b := by
      match j, hj with
      | 0, hj => exact ⟨b0, rfl, (Option.some.inj hj).symm⟩
      | 1, hj => exact ⟨b1, rfl, (Option.some.inj hj).symm⟩
      | 2, hj => exact ⟨b2, rfl, (Option.some.inj hj).symm⟩
    have hj3 : j < 3 := (List.getElem?_eq_some_iff.mp hb).1
    have tk : [b0, b1, b2].take (j + 1) = [b0, b1, b2].take j ++ [b] := by rw [List.take_add_one, hb]; rfl
    have hle : acc.length ≤ 3 := by
      rw [hal]
      have := List.countP_le_length (p := id) (l := [b0, b1, b2].take j)
      rw [List.length_take] at this
      omega
    refine ⟨rfl, _, rfl, _, rfl, if_b (fun e => ?_) (fun e => ?_)⟩
    · refine ⟨_, rfl, acc, hD, szlt (by omega), Ex.mut ex nD2, _, upd_same, ?_⟩
      rw [tk, List.countP_append, List.length_append, hal, e]
      rfl
    · refine ⟨ex, acc, hD, ?_⟩
      rw [tk, List.countP_append, hal, e]
      rfl
  · rintro H3 ⟨x2_3, acc, hD, hal⟩
    have hl1 : acc.length = 1 := by rw [hal]; exact one
    refine ⟨_, _, rfl, .inl ⟨_, SqLo hD, rfl⟩, rfl, _, rfl, if_f ?_ ?_⟩
    · rw [hl1]
      rfl
    · exact go p1 _ H3 (x1_2.trans x2_3) (x2_3 _ _ h2)
theorem ok_found (F : Df K mg "_law_found" s__law_found) (T : Txt K mg) (Te : TxE K mg CC CU CD CR) (M_Looker : Mkr P w K mg base (L2N.CX P w) 4 "Looker" C (spLInit C CD CU CR)) : Cal P w K mg base CX0 6 "_law_found" spFound := by
  refine cal0 F sc__law_found bi__law_found (fun vs H Q E h => ?_) (fun f cdv A outer s H vs Q E hr h => ?_)
  · obtain ⟨v, rows, rfl, _⟩ := h
    rfl
  · obtain ⟨v, rows, rfl, hR, pb, k⟩ := h
    refine ⟨_, pss_cons (L2N.ps_try_as (i := 1) (tb := fun W => tDrop (tMakeS C (spLInit C CD CU CR) (WE W) (tCons (tVar 0) tNil))) (ts := tSuiteF K CD CR CU) (Wout := fun _ _ _ _ => False) rfl rfl sc__law_found.nd rfl rfl ⟨rfl, by decide, Or.inl Te.gC⟩ (fun u s' x => by obtain ⟨_, _, _, _, _, _, _, _, _, _, _, _, _, _, _, _, z⟩ := x; exact z.elim)
        (fun W pn xe tk _ => pss_one (ps_expr (pe_mkrW M_Looker hr (by decide) tk rfl (pa_cons (pv 0) pa_nil))))
        (fun a oe cls d pn hz hf => pss_cons (ps_set (i := 2) sc__law_found.nd rfl (Or.inl rfl) (pe_lst (pa_cons (pe_callB (call_isX hz.zc hf) rfl T.b_isinstance (by decide +kernel) (pa_cons (pv 1) (pa_cons (pe_glob rfl Te.gD rfl) pa_nil))) (pa_cons (pe_callB (call_isX hz.zc hf) rfl T.b_isinstance (by decide +kernel) (pa_cons (pv 1) (pa_cons (pe_glob rfl Te.gR rfl) pa_nil))) (pa_cons (pe_callB (call_isX hz.zc hf) rfl T.b_isinstance (by decide +kernel) (pa_cons (pv 1) (pa_cons (pe_glob rfl Te.gU rfl) pa_nil))) pa_nil)))))
          (pss_cons (ps_if (PW.pt (pw_or (pt_not (pt_val (pe_callB (call_isX hz.zc hf) rfl T.b_isinstance (by decide +kernel) (pa_cons (pv 1) (pa_cons (pe_bltn (v := .ty "ValueError") rfl Te.bV (by decide +kernel) rfl) pa_nil))))) (pw_or1 (pt_cmpR op_ne (pe_callB (lnK K) rfl T.b_len (by decide +kernel) (pa_cons
              (pe_lcH (own := [("_law_one", 3)]) (hotc hz hf) sc__law_found.nd (pv 2) (blkOk_by (own := [("_law_one", 3)]) (N := ["_law_program_here", "e", "_law_kinds", "_law_one"]) (sc := defScope s__law_found) (by decide +kernel)) (fun _ _ _ _ _ => (pg_name (i := 3) sc__law_found.nd rfl (Or.inl rfl))) (fun _ _ _ _ _ => (pts_one (pt_val (pv 3)))) (fun _ _ _ _ _ => (pv 3))) pa_nil)) pe_int (nomark _))))) (pss_one (ps_ret pe_str)) pss_nil)
           (pss_cons (ps_if (pt_val (pe_ix (ixl K) (pv 2) pe_int (fun _ _ => rfl))) (pss_one (ps_ret (pe_tup (pa_cons pe_str (pa_cons (pe_xg hz.zc hf (pv 1)) (pa_cons (pe_xg hz.zc hf (pv 1)) pa_nil)))))) pss_nil)
            (pss_one (ps_ret (pe_ix (ixl K) (pe_lst (pa_cons (pe_tup (pa_cons pe_str (pa_cons (pe_xg hz.zc hf (pv 1)) pa_nil))) (pa_cons (pe_tup pa_nil) (pa_cons (pe_tup (pa_cons pe_str (pa_cons (pe_xg hz.zc hf (pv 1)) pa_nil))) pa_nil)))) (pe_bm PySem.F.plainAttrs_list PySem.F.slot_list_index PySem.F.type_list_index mt_index (pv 2) (pa_cons pe_bl pa_nil)) (fun _ _ => rfl))))))))
      (pss_one (ps_ret pe_non)), ?_⟩
    refine ⟨_, rfl, fun x dx nx ndx ne => ?_⟩
    have e0 : Ex H (upd (upd H dx (.own x)) x (.ins C dx [])) := (Ex.new ndx).trans (Ex.new (by rw [upd_ne (Ne.symm ne)]; exact nx))
    refine ⟨x, dx, v, H, rows, rfl, upd_same, nx, e0, hR, pb, fun hd H' o d rs e1 _ _ _ => ⟨rfl, ?_⟩, fun d hd => ?_⟩
    · exact k .non H' e1 (by rw [hd]; rfl)
    · rw [hd] at k
      cases d with
      | dup z =>
        intro dd H1 x0_1 hdd
        refine ⟨true, Te.eD, fun _ a ha => ?_, fun q => Bool.noConfusion q⟩
        refine suite_pre Te Te.xD Te.kDD Te.kDR Te.kDU Te.vD rfl hdd fun p1 o3 H2 x1_2 h2 => ?_
        have hdd2 := x1_2 _ _ hdd
        refine ⟨_, rfl, p1, _, _, _, rfl, rfl, SqLo h2, rfl, _, rfl, if_f rfl ?_⟩
        refine ⟨_, rfl, rfl, CD, dd, _, _, rfl, Te.xD.xf, Te.nD, rfl, hdd2, rfl, szl (by show 2 ≤ 100000; decide), fun p3 np3 => ?_⟩
        obtain ⟨H3, hH3, x2_3, h3⟩ := newH _ np3
        rw [hH3]
        clear hH3
        refine ⟨szl (by show 0 ≤ 100000; decide), fun p4 np4 => ?_⟩
        obtain ⟨H4, hH4, x3_4, h4⟩ := newH _ np4
        rw [hH4]
        clear hH4
        refine ⟨_, rfl, rfl, CD, dd, _, _, rfl, Te.xD.xf, Te.nD, rfl, (x2_3.trans x3_4) _ _ hdd2, rfl, szl (by show 2 ≤ 100000; decide), fun p5 np5 => ?_⟩
        obtain ⟨H5, hH5, x4_5, h5⟩ := newH _ np5
        rw [hH5]
        clear hH5
        refine ⟨szl (by show 3 ≤ 100000; decide), fun p6 np6 => ?_⟩
        obtain ⟨H6, hH6, x5_6, h6⟩ := newH _ np6
        rw [hH6]
        clear hH6
        have x2_6 := ((x2_3.trans x3_4).trans x4_5).trans x5_6
        refine ⟨_, rfl, .inl ⟨rfl, _, SqLo (x2_6 _ _ h2)⟩, p1, _, _, 0, _, rfl, rfl, SqLo (x2_6 _ _ h2), rfl, rfl, rfl, rfl, nofun, ?_⟩
        refine ⟨p6, _, _, _, rfl, rfl, SqLo h6, rfl, ?_⟩
        exact k _ _ (x0_1.trans (x1_2.trans x2_6)) ⟨p3, rfl, (((x3_4.trans x4_5).trans x5_6)) _ _ h3⟩
      | rep z zk =>
        intro dd H1 x0_1 hdd
        refine ⟨true, Te.eR, fun _ a ha => ?_, fun q => Bool.noConfusion q⟩
        refine suite_pre Te Te.xR Te.kRD Te.kRR Te.kRU Te.vR rfl hdd fun p1 o3 H2 x1_2 h2 => ?_
        have hdd2 := x1_2 _ _ hdd
        have lk2 : List.lookup ("point" : Str) [("case", V.int (zk : Int)), ("point", V.str z)] = some (.str z) := by
          rw [List.lookup_cons, show (("point" : Str) == "case") = false by decide +kernel, List.lookup_cons, beq_self_eq_true]
        refine ⟨_, rfl, p1, _, _, _, rfl, rfl, SqLo h2, rfl, _, rfl, if_t rfl ?_⟩
        refine ⟨_, rfl, rfl, CR, dd, _, .str z, rfl, Te.xR.xf, Te.nR, rfl, hdd2, lk2, _, rfl, rfl, CR, dd, _, _, rfl, Te.xR.xf, Te.nR2, rfl, hdd2, rfl, szl (by show 3 ≤ 100000; decide), fun p3 np3 => ?_⟩
        exact k _ _ (x0_1.trans (x1_2.trans (Ex.new np3))) ⟨p3, rfl, upd_same⟩
      | unk z =>
        intro dd H1 x0_1 hdd
        refine ⟨true, Te.eU, fun _ a ha => ?_, fun q => Bool.noConfusion q⟩
        refine suite_pre Te Te.xU Te.kUD Te.kUR Te.kUU Te.vU rfl hdd fun p1 o3 H2 x1_2 h2 => ?_
        have hdd2 := x1_2 _ _ hdd
        refine ⟨_, rfl, p1, _, _, _, rfl, rfl, SqLo h2, rfl, _, rfl, if_f rfl ?_⟩
        refine ⟨_, rfl, rfl, CU, dd, _, _, rfl, Te.xU.xf, Te.nU, rfl, hdd2, rfl, szl (by show 2 ≤ 100000; decide), fun p3 np3 => ?_⟩
        obtain ⟨H3, hH3, x2_3, h3⟩ := newH _ np3
        rw [hH3]
        clear hH3
        refine ⟨szl (by show 0 ≤ 100000; decide), fun p4 np4 => ?_⟩
        obtain ⟨H4, hH4, x3_4, h4⟩ := newH _ np4
        rw [hH4]
        clear hH4
        refine ⟨_, rfl, rfl, CU, dd, _, _, rfl, Te.xU.xf, Te.nU, rfl, (x2_3.trans x3_4) _ _ hdd2, rfl, szl (by show 2 ≤ 100000; decide), fun p5 np5 => ?_⟩
        obtain ⟨H5, hH5, x4_5, h5⟩ := newH _ np5
        rw [hH5]
        clear hH5
        refine ⟨szl (by show 3 ≤ 100000; decide), fun p6 np6 => ?_⟩
        obtain ⟨H6, hH6, x5_6, h6⟩ := newH _ np6
        rw [hH6]
        clear hH6
        have x2_6 := ((x2_3.trans x3_4).trans x4_5).trans x5_6
        refine ⟨_, rfl, .inl ⟨rfl, _, SqLo (x2_6 _ _ h2)⟩, p1, _, _, 2, _, rfl, rfl, SqLo (x2_6 _ _ h2), rfl, rfl, rfl, rfl, (fun i' z' hi' hz' => by match i', hi', hz' with | 0, _, h => (cases h; rfl) | 1, _, h => (cases h; rfl)), ?_⟩
        refine ⟨p6, _, _, _, rfl, rfl, SqLo h6, rfl, ?_⟩
        exact k _ _ (x0_1.trans (x1_2.trans x2_6)) ⟨p5, rfl, x5_6 _ _ h5⟩
end
end K44

namespace LW
open PySem PySem.Spec L2
theorem passN {X : Cx} : Passes (L2N.CX X.prog X.w) X E0 := fun pins σ H s e s' I c => by
  obtain ⟨a, B, H', cls, d, _, _, _, _, _, _, _, z⟩ := c
  exact z.elim
section
variable {X : Cx} {k j : Nat} {C : Addr} {m : Str} {sp : Sp} {o e : Expr} {to : TE} {apos pos : Pos} {pl : Sem Bool}
theorem pe_m0 (c : Mt X.prog X.w X.K X.mg X.base CX0 k C m sp) (hr : Room j X.A) (hk : k ≤ j) (he : PE X o to)
    (ht : eval (.Call (.Attribute o m apos) [] [] pos) X.env = (do
      let ov ← eval o X.env
      standAt apos.atName
      let (f, first) ← holding [ov] (getMethod ov m pl)
      callWith pos f first (backTo pos (starEach [] X.env)) (backToKw pos (keywordEach [] X.env))) := by rfl) : PE X (.Call (.Attribute o m apos) [] [] pos) (tMeth C m sp [] E0 to tNil) := by
  obtain ⟨g, fd, ps, cl, hm, F, b⟩ := c.ex
  exact pe_meth0 (pl := pl) he cl hm F (hr.mono hk) b .nil pass0 ht
/-- a property of the class C -/
structure Pr (P : Program) (w : World) (K : PySem.W.Frag) (mg : Str → Option Value) (base : Heap) (k : Nat) (C : Addr) (f : Str) (sp : Sp) : Prop where
  ex : ∃ (p g : Addr) (fd : FuncData) (ps : List Str), Cls K C ∧ PropOf K C f p g ∧ FnOk P w K mg base CX0 k g fd ps sp ∧ Binds K fd ps []
theorem pe_st {f : Str} (c : Pr X.prog X.w X.K X.mg X.base k C f sp) (hr : Room j X.A) (hk : k + 1 ≤ j) (he : PE X e to) (hab : attributeBase e f X.env (eval e X.env) = eval e X.env) : PE X (.Attribute e f pos) (tProp C sp [] E0 to) := by
  obtain ⟨p, g, fd, ps, cl, hp, F, b⟩ := c.ex
  exact pe_prop he cl hp F (hr.mono hk) b .nil pass0 hab
end
end LW
namespace K44
open PySem PySem.Spec L2 LW
open Evl (Ex)
section
variable {P : Program} {w : World} {K : PySem.W.Frag} {mg : Str → Option Value} {base : Heap} {C CC CD CU CR : Addr}
/-! ### _law_shows -/
def spShowsL (C : Addr) : Sp := fun vs H Q _ => ∃ (x : Addr) (v : V) (rows : List Row), vs = [.ref x, v] ∧ LkAt C H x rows ∧ RProg H v rows ∧ PB 3 rows ∧ (rows.map (·.1)).Nodup ∧ ∀ H', Ex H H' → Q (.bl true) H'
theorem sc__law_shows : FnScope ["_law_looker", "_law_program_here", "_law_names", "_law_row", "_law_one"] ["_law_looker", "_law_program_here"] (defScope s__law_shows) := ⟨rfl, rfl, rfl, by decide +kernel, rfl, by decide +kernel, by decide +kernel⟩
theorem bi__law_shows : BindsEq "_law_shows" s__law_shows ["_law_looker", "_law_program_here"] := fun _ _ _ _ _ _ us hl => match us, hl with | [_, _], _ => rfl
theorem ok_showsL (F : Df K mg "_law_shows" s__law_shows) (T : Txt K mg) (L : TxQ K mg C) (M_cases : Mt P w K mg base (L2N.CX P w) 3 C "cases" (spCases C CU)) (M_points : Mt P w K mg base CX0 1 C "points" (spPoints C)) (M_len : Mt P w K mg base CX0 1 C "__len__" (spLen C))
    (M_has : Mt P w K mg base CX0 1 C "__contains__" (spHas C)) (S_start : Pr P w K mg base 1 C "start" (spStart C)) : Cal P w K mg base CX0 4 "_law_shows" (spShowsL C) := by
  refine cal0 F sc__law_shows bi__law_shows (fun vs H Q E h => ?_) (fun f cdv A outer s H vs Q E hr h => ?_)
  · obtain ⟨x, v, rows, rfl, _⟩ := h
    rfl
  · obtain ⟨x, v, rows, rfl, lk, hR, pb, nd, k⟩ := h
    refine ⟨_, (pss_cons (ps_setLc (i := 2) (own := [("_law_row", 3)]) (by rfl) sc__law_shows.nd rfl rfl (sw_true rfl rfl rfl (by decide +kernel)) (pil K (pv 1)) (blkOk_by (own := [("_law_row", 3)]) (N := ["_law_looker", "_law_program_here", "_law_names", "_law_row", "_law_one"]) (sc := defScope s__law_shows) (by decide +kernel)) (fun _ _ _ _ _ => (pg_name (i := 3) sc__law_shows.nd rfl (Or.inl rfl))) (fun _ _ _ _ _ => pts_nil) (fun _ _ _ _ _ => (pe_ix (ixt K) (pv 3) pe_int (fun _ _ => rfl))))
 (pss_cons (ps_if (PW.pt (pw_or (pt_cmpR (neDK K hr.units) (pe_m0 M_points hr (by decide) (pv 0)) (pv 2) (nomark _)) (pw_or1 (pt_cmpR op_ne (pe_callB (call_lenOwn M_len hr (by decide)) rfl T.b_len (by decide +kernel) (pa_cons (pv 0) pa_nil)) (pe_callB (lnK K) rfl T.b_len (by decide +kernel) (pa_cons (pv 2) pa_nil)) (nomark _))))) (pss_one (ps_ret pe_bl)) pss_nil)
 (pss_cons (ps_if (PW.pt (pw_or (pt_cmpR op_ne (pe_st S_start hr (by decide) (pv 0) rfl) (pe_ix (ixl K) (pv 2) pe_int (fun _ _ => rfl)) (nomark _)) (pw_or (pt_cmpR (op_inOwn M_has hr (by decide)) pe_str (pv 0) (by rfl)) (pw_or1 (pt_not (pt_val (pe_callB (allK K rfl) rfl T.b_all (by decide +kernel) (pa_cons (pe_lc (own := [("_law_one", 4)]) (by rfl) sc__law_shows.nd (pil K (pv 2)) (blkOk_by (own := [("_law_one", 4)]) (N := ["_law_looker", "_law_program_here", "_law_names", "_law_row", "_law_one"]) (sc := defScope s__law_shows) (by decide +kernel)) (fun _ _ _ _ _ => (pg_name (i := 4) sc__law_shows.nd rfl (Or.inl rfl))) (fun _ _ _ _ _ => pts_nil) (fun _ _ _ _ _ => (pe_cmpR (op_inOwn M_has hr (by decide)) (pv 4) (pv 0) (by rfl)))) pa_nil)))))))) (pss_one (ps_ret pe_bl)) pss_nil)
 (pss_one (ps_ret (pe_callB (allK K rfl) rfl T.b_all (by decide +kernel) (pa_cons (pe_lc (own := [("_law_row", 3)]) (by rfl) sc__law_shows.nd (pil K (pv 1)) (blkOk_by (own := [("_law_row", 3)]) (N := ["_law_looker", "_law_program_here", "_law_names", "_law_row", "_law_one"]) (sc := defScope s__law_shows) (by decide +kernel)) (fun _ _ _ _ _ => (pg_name (i := 3) sc__law_shows.nd rfl (Or.inl rfl))) (fun _ _ _ _ _ => pts_nil) (fun _ _ _ _ _ => (pe_cmpR (eqDK K hr.units) (pe_mx M_cases hr (by decide) passN (pv 0) (pa_cons (pe_ix (ixt K) (pv 3) pe_int (fun _ _ => rfl)) pa_nil)) (pe_ix (ixt K) (pv 3) pe_int (fun _ _ => rfl)) (nomark _)))) pa_nil))))))), ?_⟩
    obtain ⟨a, xs, rfl, ha, rr⟩ := hR
    have lx := Paired.len rr
    have lr := pb.le
    generalize hnm : rows.map (·.1) = names at nd
    have ln : names.length = rows.length := by rw [← hnm, List.length_map]
    have hsok : ∀ z ∈ names, SOk z := fun z hz => by
      rw [← hnm] at hz
      obtain ⟨r, hr', rfl⟩ := List.mem_map.mp hz
      exact (pb.pt r hr').1
    refine ⟨_, rfl, a, rfl, ⟨_, SqLo ha⟩, fun p1 np1 => lc_list (K := K) (a := a) (xs := xs) (fun j H' => Ex H H' ∧ H' p1 = some (.lst ((names.take j).map V.str))) ?_ ?_ ?_ ?_⟩
    · exact ⟨Ex.new np1, upd_same⟩
    · rintro j H' _ ⟨ex, _⟩
      exact SqLo (ex _ _ ha)
    · rintro j y H' hj ⟨ex, hD⟩
      obtain ⟨r, hrow, a2, l, rfl, h2, rc⟩ := Paired.get rr hj
      have hn : names[j]? = some r.1 := by rw [← hnm, List.getElem?_map, hrow]; rfl
      have tk : names.take (j + 1) = names.take j ++ [r.1] := by rw [List.take_add_one, hn]; rfl
      refine ⟨rfl, _, rfl, a2, _, _, _, rfl, rfl, SqTo (ex _ _ h2), rfl, _, hD, szlt (by rw [List.length_map, List.length_take]; omega), Ex.mut ex np1, ?_⟩
      rw [upd_same, tk, List.map_append]
      rfl
    · rintro H1 ⟨x0_1, h1⟩
      rw [lx, ← ln, List.take_length] at h1
      have lk1 := lk.ex x0_1
      obtain ⟨dx, o, d, kvs, g1, g2, g3, rk⟩ := id lk1
      have nmS : rows.map (fun r => V.str r.1) = names.map V.str := by rw [← hnm, List.map_map]; rfl
      have sh : SeqAt.shaped (.list (names.map PyData.str)) = true := by
        refine shaped_of ?_ ?_
        · rw [PyData.canLay0]
          exact strs_lay hsok
        · have q : PyData.depthAll (names.map PyData.str) ≤ 1 := depth_all fun x _ => by simp [PyData.depth]
          rw [PyData.depth]
          omega
      have all1 : ∀ n : Nat, (((List.range n).map fun _ => true).all id) = true := fun n => by simp
      refine ⟨_, rfl, x, dx, _, rfl, g1, lfs_no _ _ (by decide +kernel) (by decide +kernel), x, rows, rfl, lk1, fun p2 np2 => ?_⟩
      obtain ⟨H2, hH2, x1_2, h2⟩ := newH _ np2
      rw [hH2]
      clear hH2
      rw [nmS] at h2
      have h12 := x1_2 _ _ h1
      refine ⟨_, rfl, .list (names.map PyData.str), .list (names.map PyData.str), .lst (SqLo h2) (dp_strs names), .lst (SqLo h12) (dp_strs names), sh, sh, _, rfl, if_f ?_ ?_⟩
      · rw [SeqAt.eqv_refl _ (SeqAt.canLay_of_shaped sh)]
        rfl
      refine ⟨_, rfl, x, dx, _, rfl, x1_2 _ _ g1, x, rows, rfl, lk1.ex x1_2, rows.length, rfl, by omega, _, rfl, _, _, rfl, .inl ⟨_, SqLo h12, rfl⟩, rfl, _, rfl, if_f ?_ ?_⟩
      · rw [List.length_map, ln]
        simp
      -- start
      obtain ⟨r0, rest, hrow0⟩ : ∃ r0 rest, rows = r0 :: rest := by
        cases hro : rows with
        | nil => have := pb.ne; rw [hro] at this; exact absurd this (by decide)
        | cons a b => exact ⟨a, b, rfl⟩
      have hn0 : names[0]? = some r0.1 := by rw [← hnm, hrow0]; rfl
      have hn0V : (names.map V.str)[0]? = some (V.str r0.1) := by rw [List.getElem?_map, hn0]; rfl
      refine ⟨_, rfl, x, dx, _, rfl, x1_2 _ _ g1, x, r0, rest, rfl, by rw [← hrow0]; exact lk1.ex x1_2, _, rfl, p1, _, _, _, rfl, rfl, SqLo h12, atI_nat (j := 0) hn0V, rfl, _, rfl, if_f (by simp) ?_⟩
      refine ⟨_, rfl, x, dx, _, rfl, x1_2 _ _ g1, x, _, rows, rfl, lk1.ex x1_2, _, rfl, _, rfl, if_f ?_ ?_⟩
      · refine Bool.eq_false_iff.mpr fun z => ?_
        obtain ⟨r, hr', e⟩ := List.mem_map.mp (List.contains_iff_mem.mp z)
        exact (pb.pt r hr').2.1 e
      refine ⟨_, rfl, p1, rfl, ⟨_, SqLo h12⟩, fun D nD => lc_list (K := K) (a := p1) (xs := names.map V.str) (fun j H' => Ex H2 H' ∧ H' D = some (.lst (((List.range j).map fun _ => true).map V.bl))) ?_ ?_ ?_ ?_⟩
      · exact ⟨Ex.new nD, upd_same⟩
      · rintro j H' _ ⟨ex, _⟩
        exact SqLo (ex _ _ h12)
      · rintro j y H' hj ⟨ex, hD⟩
        obtain ⟨z, hz, rfl⟩ := str_at hj
        have hjl : j < names.length := (List.getElem?_eq_some_iff.mp hz).1
        refine ⟨rfl, _, rfl, _, rfl, x, dx, _, rfl, (x1_2.trans ex) _ _ g1, x, z, rows, rfl, lk1.ex (x1_2.trans ex), _, rfl, _, hD, szlt (by rw [List.length_map, List.length_map, List.length_range]; omega), Ex.mut ex nD, ?_⟩
        rw [upd_same, hnm, List.contains_iff_mem.mpr (List.mem_of_getElem? hz), List.range_succ, List.map_append, List.map_append]
        rfl
      · rintro H3 ⟨x2_3, hD⟩
        refine ⟨D, _, rfl, SqLo hD, _, rfl, ?_⟩
        rw [all1]
        refine if_f rfl ?_
        have x0_3 := x0_1.trans (x1_2.trans x2_3)
        have x1_3 := x1_2.trans x2_3
        refine ⟨_, rfl, a, rfl, ⟨_, SqLo (x0_3 _ _ ha)⟩, fun D2 nD2 => lc_list (K := K) (a := a) (xs := xs) (fun j H' => Ex H3 H' ∧ H' D2 = some (.lst (((List.range j).map fun _ => true).map V.bl))) ?_ ?_ ?_ ?_⟩
        · exact ⟨Ex.new nD2, upd_same⟩
        · rintro j H' _ ⟨ex, _⟩
          exact SqLo (ex _ _ (x0_3 _ _ ha))
        · rintro j y H4 hj ⟨ex, hD2⟩
          obtain ⟨⟨pt, cs⟩, hrow, a2, l, rfl, h2', rcl⟩ := Paired.get rr hj
          have hrm := List.mem_of_getElem? hrow
          have x0_4 := x0_3.trans ex
          have x1_4 := x1_3.trans ex
          have hjx : j < xs.length := (List.getElem?_eq_some_iff.mp hj).1
          have cbs := (pb.cb _ hrm).2
          refine ⟨rfl, _, rfl, x, dx, _, rfl, x1_4 _ _ g1, lfs_no _ _ (by decide +kernel) (by decide +kernel), _, rfl, a2, _, _, _, rfl, rfl, SqTo (x0_4 _ _ h2'), rfl, x, pt, rows, rfl, lk1.ex x1_4, by rw [hnm]; exact nd, fun cs' hm => ?_, fun hn => absurd (List.mem_map_of_mem hrm) hn⟩
          have ecs : cs' = cs := by
            obtain ⟨i1, hi1⟩ := List.mem_iff_getElem?.mp hm
            have q1 : names[i1]? = some pt := by rw [← hnm, List.getElem?_map, hi1]; rfl
            have q2 : names[j]? = some pt := by rw [← hnm, List.getElem?_map, hrow]; rfl
            have hi1l := (List.getElem?_eq_some_iff.mp q1).1
            have : i1 = j := (List.getElem?_inj hi1l nd).mp (q1.trans q2.symm)
            rw [this, hrow] at hi1
            exact (congrArg Prod.snd (Option.some.inj hi1)).symm
          subst ecs
          refine ⟨by have := (pb.cs _ hrm).1; show cs'.length ≤ 20; have h3 : cs'.length ≤ 6 + 3 := this; omega, fun cl ks H5 x4_5 hcl hks ekc _ _ => ?_⟩
          have rv : RCaseL H5 (.ref cl) cs' := by
            rw [← ekc]
            exact ⟨cl, _, rfl, hcl, paired_map fun k hk => (hks k hk).r⟩
          have shc := casesB_shaped cbs
          refine ⟨_, rfl, a2, _, _, _, rfl, rfl, SqTo (x4_5 _ _ (x0_4 _ _ h2')), rfl, caseLD cs', caseLD cs', rv.dp, (rcl.ex (x0_4.trans x4_5)).dp, shc, shc, _, x4_5 _ _ hD2, szlt (by rw [List.length_map, List.length_map, List.length_range]; omega), Ex.mut (ex.trans x4_5) nD2, ?_⟩
          rw [upd_same, SeqAt.eqv_refl _ (SeqAt.canLay_of_shaped shc), List.range_succ, List.map_append, List.map_append]
          rfl
        · rintro H4 ⟨x3_4, hD2⟩
          refine ⟨D2, _, rfl, SqLo hD2, ?_⟩
          rw [all1]
          exact k H4 (x0_3.trans x3_4)
end
end K44

namespace K44
open PySem PySem.Spec L2 LW
open Evl (Ex)
/-! ### programs without fault -/
theorem fst_none_iff {α : Type} {n : Nat} {f : Nat → Option α} : fst? n f = none ↔ ∀ j, j < n → f j = none := by
  unfold fst?
  rw [List.findSome?_eq_none_iff]
  exact ⟨fun h j hj => h j (List.mem_range.mpr hj), fun h j hj => h j (List.mem_range.mp hj)⟩
theorem unk_none {names : List Str} {vs : List Visit} : unkS names vs = none ↔ ∀ x ∈ vs, x.2 ∈ names := by
  unfold unkS
  rw [fst_none_iff]
  constructor
  · intro h x hx
    obtain ⟨i, hi⟩ := List.mem_iff_getElem?.mp hx
    have q := h i (List.getElem?_eq_some_iff.mp hi).1
    unfold unkF at q
    rw [hi] at q
    have q : (if x.2 ∈ names then none else some x.2) = none := q
    by_cases e : x.2 ∈ names
    · exact e
    · rw [if_neg e] at q
      cases q
  · intro h j hj
    unfold unkF
    rw [List.getElem?_eq_getElem hj]
    show (if vs[j].2 ∈ names then none else some vs[j].2) = none
    rw [if_pos (h _ (List.getElem_mem hj))]
theorem dueC_none {names : List Str} {nm : Str} {k : Nat} {c : Case} : dueC names nm k c = none ↔ repB (c.vs.map (·.1)) = false ∧ ∀ x ∈ c.vs, x.2 ∈ names := by
  unfold dueC
  cases e : repB (c.vs.map (·.1)) with
  | true => simp
  | false =>
    rw [if_neg (by decide), Option.map_eq_none_iff, unk_none]
    simp
theorem dueCs_none {names : List Str} {r : Row} : dueCs names r = none ↔ ∀ c ∈ r.2, repB (c.vs.map (·.1)) = false ∧ ∀ x ∈ c.vs, x.2 ∈ names := by
  unfold dueCs
  rw [fst_none_iff]
  constructor
  · intro h c hc
    obtain ⟨i, hi⟩ := List.mem_iff_getElem?.mp hc
    have q := h i (List.getElem?_eq_some_iff.mp hi).1
    unfold dueCF at q
    rw [hi] at q
    exact dueC_none.mp q
  · intro h j hj
    unfold dueCF
    rw [List.getElem?_eq_getElem hj]
    exact dueC_none.mpr (h _ (List.getElem_mem hj))
theorem dup_iff {names : List Str} : dupS names = none ↔ names.Nodup := by
  unfold dupS
  rw [fst_none_iff]
  refine ⟨dup_none, fun nd j hj => ?_⟩
  unfold dupF
  rw [List.getElem?_eq_getElem hj]
  show (if names[j] ∈ names.take j then some names[j] else none) = none
  rw [if_neg]
  intro z
  obtain ⟨i, hi, e⟩ := List.mem_take_iff_getElem.mp z
  have := (List.pairwise_iff_getElem.mp (List.nodup_iff_pairwise_ne.mp nd)) i j (by omega) hj (by omega)
  exact this e
def Good (rows : List Row) : Prop := (rows.map (·.1)).Nodup ∧ ∀ r ∈ rows, ∀ c ∈ r.2, repB (c.vs.map (·.1)) = false ∧ ∀ x ∈ c.vs, x.2 ∈ rows.map (·.1)
theorem due_none {rows : List Row} : dueP rows = none ↔ Good rows := by
  unfold dueP Good
  constructor
  · intro h
    cases e : dupS (rows.map (·.1)) with
    | some x => rw [e] at h; cases h
    | none =>
      rw [e] at h
      have h : dueRs (rows.map (·.1)) rows = none := h
      unfold dueRs at h
      rw [fst_none_iff] at h
      refine ⟨dup_iff.mp e, fun r hr => ?_⟩
      obtain ⟨i, hi⟩ := List.mem_iff_getElem?.mp hr
      have q := h i (List.getElem?_eq_some_iff.mp hi).1
      unfold dueRF at q
      rw [hi] at q
      exact dueCs_none.mp q
  · rintro ⟨h1, h2⟩
    rw [dup_iff.mpr h1]
    show dueRs (rows.map (·.1)) rows = none
    unfold dueRs
    rw [fst_none_iff]
    intro j hj
    unfold dueRF
    rw [List.getElem?_eq_getElem hj]
    exact dueCs_none.mpr (h2 _ (List.getElem_mem hj))
theorem good_last {rows : List Row} (h : Good rows) (hl : ("last" : Str) ∉ rows.map (·.1)) : Good (rows ++ [(("last" : Str), ([] : List Case))]) := by
  obtain ⟨h1, h2⟩ := h
  have e : (rows ++ [(("last" : Str), ([] : List Case))]).map (·.1) = rows.map (·.1) ++ [("last" : Str)] := by rw [List.map_append]; rfl
  refine ⟨?_, fun r hr c hc => ?_⟩
  · rw [e]
    exact nd_app h1 (by simp) fun x hx hy => hl (by
      have : x = "last" := by simpa using hy
      rw [← this]
      exact hx)
  · rcases List.mem_append.mp hr with z | z
    · obtain ⟨q1, q2⟩ := h2 r z c hc
      exact ⟨q1, fun x hx => by rw [e]; exact List.mem_append_left _ (q2 x hx)⟩
    · cases List.mem_singleton.mp z
      cases hc
theorem good_more {l : List Row} {r : Row} {t : Test} {w : Option Str} (h : Good (l ++ [r])) : Good (l ++ [(r.1, r.2 ++ [⟨t, w, []⟩])]) := by
  obtain ⟨h1, h2⟩ := h
  have e : (l ++ [(r.1, r.2 ++ [(⟨t, w, []⟩ : Case)])]).map (·.1) = (l ++ [r]).map (·.1) := by rw [List.map_append, List.map_append]; rfl
  refine ⟨by rw [e]; exact h1, fun q hq c hc => ?_⟩
  rw [e]
  rcases List.mem_append.mp hq with z | z
  · exact h2 q (List.mem_append_left _ z) c hc
  · cases List.mem_singleton.mp z
    rcases List.mem_append.mp hc with y | y
    · exact h2 r (List.mem_append_right _ (by simp)) c y
    · cases List.mem_singleton.mp y
      exact ⟨by show repB [] = false; decide +kernel, nofun⟩
theorem good_rev {rows : List Row} (h : Good rows) : Good rows.reverse := by
  obtain ⟨h1, h2⟩ := h
  refine ⟨by rw [List.map_reverse]; exact List.pairwise_reverse.mpr (List.Pairwise.imp (fun h => Ne.symm h) h1), fun q hq c hc => ?_⟩
  obtain ⟨q1, q2⟩ := h2 q (List.mem_reverse.mp hq) c hc
  exact ⟨q1, fun x hx => by rw [List.map_reverse]; exact List.mem_reverse.mpr (q2 x hx)⟩
/-! ### when two lookers are equal -/
def eqR (rows qows : List Row) : Bool := decide (rows.map (·.1) = qows.map (·.1)) && (rows.zip qows).all fun p => PyData.eqv (caseLD p.1.2) (caseLD p.2.2)
theorem eqLk_R (rs qs : List RowS) : eqLk rs qs = eqR (rs.map RowS.row) (qs.map RowS.row) := by
  unfold eqLk eqR
  rw [List.map_map, List.map_map, List.zip_map, List.all_map]
  rfl
theorem eqR_same {rows : List Row} (h : ∀ r ∈ rows, ∀ c ∈ r.2, CB c) : eqR rows rows = true := by
  unfold eqR
  rw [decide_eq_true rfl, Bool.true_and]
  refine List.all_eq_true.mpr fun p hp => ?_
  have e : p.1 = p.2 := by
    obtain ⟨i, hi⟩ := List.mem_iff_getElem?.mp hp
    rw [List.getElem?_zip_eq_some] at hi
    exact Option.some.inj (hi.1.symm.trans hi.2)
  rw [← e]
  exact SeqAt.eqv_refl _ (casesB_lay (h p.1 (List.of_mem_zip hp).1))
theorem eqR_names {rows qows : List Row} (h : rows.map (·.1) ≠ qows.map (·.1)) : eqR rows qows = false := by
  unfold eqR
  rw [decide_eq_false h, Bool.false_and]
theorem eqvAll_len : ∀ {l m : List PyData}, PyData.eqvAll l m = true → l.length = m.length
  | [], [], _ => rfl
  | [], _ :: _, h => by cases h
  | _ :: _, [], h => by cases h
  | a :: l, b :: m, h => by
    rw [PyData.eqvAll, Bool.and_eq_true] at h
    rw [List.length_cons, List.length_cons, eqvAll_len h.2]
theorem eqR_more {l : List Row} {r : Row} {c : Case} : eqR (l ++ [(r.1, r.2 ++ [c])]) (l ++ [r]) = false := by
  unfold eqR
  refine Bool.eq_false_iff.mpr fun z => ?_
  rw [Bool.and_eq_true] at z
  have hm : (((r.1, r.2 ++ [c]) : Row), r) ∈ (l ++ [((r.1, r.2 ++ [c]) : Row)]).zip (l ++ [r]) := by
    rw [List.zip_append rfl]
    exact List.mem_append_right _ (by simp)
  have q := List.all_eq_true.mp z.2 _ hm
  have q : PyData.eqvAll ((r.2 ++ [c]).map Case.d) (r.2.map Case.d) = true := q
  have := eqvAll_len q
  rw [List.length_map, List.length_map, List.length_append, List.length_singleton] at this
  omega
theorem rev_one {l : List Str} (nd : l.Nodup) (h : l.reverse = l) : l.length ≤ 1 := by
  cases l with
  | nil => exact Nat.zero_le _
  | cons a m =>
    cases m with
    | nil => exact Nat.le_refl _
    | cons b t =>
      exfalso
      have h0 : (a :: b :: t).reverse[0]? = some a := by rw [h]; rfl
      rw [List.getElem?_reverse (by simp)] at h0
      have hj : (a :: b :: t)[0]? = some a := rfl
      have := (List.getElem?_inj (by simp) nd).mp (hj.trans h0.symm)
      simp at this
theorem eqR_rev {rows : List Row} (h : ∀ r ∈ rows, ∀ c ∈ r.2, CB c) (nd : (rows.map (·.1)).Nodup) (ne : 0 < rows.length) : eqR rows.reverse rows = decide (rows.length = 1) := by
  by_cases e : rows.length = 1
  · rw [decide_eq_true e]
    obtain ⟨r, rfl⟩ := List.length_eq_one_iff.mp e
    exact eqR_same h
  · rw [decide_eq_false e]
    refine eqR_names fun z => e ?_
    rw [List.map_reverse] at z
    have := rev_one nd z
    rw [List.length_map] at this
    omega
/-! ### heaps where only some lists have changed -/
def Mu (L : List Addr) (H H' : Hp) : Prop := ∀ b o, b ∉ L → H b = some o → H' b = some o
theorem Mu.refl (L : List Addr) (H : Hp) : Mu L H H := fun _ _ _ h => h
theorem Mu.ex {L : List Addr} {H H1 H2 : Hp} (m : Mu L H H1) (e : Ex H1 H2) : Mu L H H2 := fun b o n h => e _ _ (m b o n h)
theorem ex_mu {L : List Addr} {H H1 H2 : Hp} (e : Ex H H1) (m : Mu L H1 H2) : Mu L H H2 := fun b o n h => m b o n (e _ _ h)
theorem Mu.ofex {L : List Addr} {H H' : Hp} (e : Ex H H') : Mu L H H' := fun b o _ h => e _ _ h
theorem Mu.set {L : List Addr} {H H1 : Hp} {l : Addr} {o : HO} (m : Mu L H H1) (hl : l ∈ L) : Mu L H (upd H1 l o) := fun b u n h => by
  rw [upd_ne fun e => n (by rw [e]; exact hl)]
  exact m b u n h
theorem Mu.toEx {L : List Addr} {H0 H H' : Hp} (m : Mu L H H') (e : Ex H0 H) (h : ∀ b ∈ L, H0 b = none) : Ex H0 H' := fun b o q => m b o (fun z => by rw [h b z] at q; cases q) (e _ _ q)
theorem LkF.mu {C : Addr} {H H' : Hp} {x o d : Addr} {rs : List RowS} {L : List Addr} (h : LkF C H x o d rs) (m : Mu L H H') (hL : ∀ b ∈ L, ∃ xs, H b = Option.some (HO.lst xs)) (hd : ∀ b ∈ lkL x o d rs, b ∉ L) : LkF C H' x o d rs := by
  refine h.keep (fun a xs q => m a _ (fun z => ?_) q) fun b hb => ?_
  · obtain ⟨ys, hy⟩ := hL a z
    rw [q] at hy
    cases hy
  · obtain ⟨u, hu⟩ := h.some b hb
    rw [hu]
    exact m b u (hd b hb) hu
end K44

namespace K44
open PySem PySem.Spec L2 LW
open Evl (Ex)
theorem at_last' (p : List V) (s : V) : atI (p ++ [s]) (-1) = some s := by
  unfold atI ixN
  have hl : (p ++ [s]).length = p.length + 1 := by rw [List.length_append]; rfl
  rw [if_neg (by decide), if_pos (by rw [hl]; omega)]
  show (p ++ [s])[(-1 + ((p ++ [s]).length : Int)).toNat]? = _
  rw [show (-1 + ((p ++ [s]).length : Int)).toNat = p.length by rw [hl]; omega]
  exact List.getElem?_concat_length
theorem paired_rev {α β : Type} {R : α → β → Prop} : ∀ {l : List α} {m : List β}, Paired R l m → Paired R l.reverse m.reverse
  | _, _, .nil => .nil
  | a :: l, b :: m, .cons h t => by
    rw [List.reverse_cons, List.reverse_cons]
    exact Paired.app (paired_rev t) (.cons h .nil)
def LL (rs : List RowS) : List Addr := (rs.map fun r => r.ks.map (·.l)).flatten
theorem mem_LL {rs : List RowS} {b : Addr} : b ∈ LL rs ↔ ∃ r ∈ rs, ∃ k ∈ r.ks, k.l = b := by
  unfold LL
  rw [List.mem_flatten]
  constructor
  · rintro ⟨l, hl, hb⟩
    obtain ⟨r, hr, rfl⟩ := List.mem_map.mp hl
    obtain ⟨k, hk, e⟩ := List.mem_map.mp hb
    exact ⟨r, hr, k, hk, e⟩
  · rintro ⟨r, hr, k, hk, e⟩
    exact ⟨_, List.mem_map_of_mem hr, List.mem_map.mpr ⟨k, hk, e⟩⟩
theorem LL_ls {rs : List RowS} {b a : Addr} (h : b ∈ LL rs) : b ∈ lsP a rs := by
  obtain ⟨r, hr, k, hk, rfl⟩ := mem_LL.mp h
  exact List.mem_cons_of_mem _ (in_flat hr (List.mem_cons_of_mem _ (List.mem_map_of_mem hk)))
theorem c_notLL : ∀ {rs : List RowS}, ((rs.map RowS.ls).flatten).Nodup → ∀ r ∈ rs, r.c ∉ LL rs
  | [], _, _, h => by cases h
  | r0 :: t, nd, r, hr => by
    rw [List.map_cons, List.flatten_cons] at nd
    obtain ⟨n1, n2, n3⟩ := List.nodup_append.mp nd
    intro z
    obtain ⟨r', hr', k, hk, e⟩ := mem_LL.mp z
    have hkl : k.l ∈ r'.ls := List.mem_cons_of_mem _ (List.mem_map_of_mem hk)
    rcases List.mem_cons.mp hr with e0 | hrt
    · subst e0
      rcases List.mem_cons.mp hr' with e1 | hrt'
      · rw [e1] at hk
        exact (List.nodup_cons.mp n1).1 (by rw [← e]; exact List.mem_map_of_mem hk)
      · exact n3 r.c List.mem_cons_self k.l (in_flat hrt' hkl) e.symm
    · rcases List.mem_cons.mp hr' with e1 | hrt'
      · rw [e1] at hkl
        exact n3 k.l hkl r.c (in_flat hrt List.mem_cons_self) e
      · exact c_notLL n2 r hrt (mem_LL.mpr ⟨r', hrt', k, hk, e⟩)
/-- a case more in a row -/
theorem case_more {H H6 : Hp} {a : Addr} {rs l1 l2 : List RowS} {r : RowS} {m : Nat} {p1 p4 p5 : Addr} {tst : Test} {wd : Str} (bi : BI H a rs H6 (l1 ++ r :: l2) m) (hp4 : p4 ∉ lsP a (l1 ++ r :: l2)) (hp4' : H p4 = none) (h4 : H6 p4 = some (.lst [])) (h1 : RT H6 (.ref p1) tst) (tok : tst.Ok) (wok : SOk wd) (h5 : H6 p5 = some (.tup [.ref p1, .str wd, .ref p4])) :
    BI H a rs (upd H6 r.c (.lst ((r.ks.map fun k => V.ref k.a) ++ [V.ref p5]))) (l1 ++ ⟨r.a, r.c, r.nm, r.ks ++ [⟨p5, .ref p1, p4, [], ⟨tst, some wd, []⟩⟩]⟩ :: l2) (m + 1) := by
  have rat := bi.at_.rs r (List.mem_append_right _ List.mem_cons_self)
  have ndr := (ls_of bi.nd).2.2.2.2.1
  have tk : TupK H6 (upd H6 r.c (.lst ((r.ks.map fun k => V.ref k.a) ++ [V.ref p5]))) := tupK_upd rat.li
  have nc : p4 ≠ r.c := fun e => hp4 (by rw [e]; exact mem_ls.mpr (.inr (.inr (.inl List.mem_cons_self))))
  have pb1 := bi.pb
  rw [List.map_append, List.map_cons] at pb1
  obtain ⟨cl, cb⟩ := pb1.cs r.row (List.mem_append_right _ List.mem_cons_self)
  have cl : (r.ks.map (·.c)).length ≤ 6 + m := cl
  refine BI.put (r' := ⟨r.a, r.c, r.nm, r.ks ++ [⟨p5, .ref p1, p4, [], ⟨tst, some wd, []⟩⟩]⟩) bi List.mem_cons_self rat.li ⟨tk _ _ rat.tu, by rw [upd_same, List.map_append]; rfl, fun k hk => ?_⟩ rfl (fun b hb => ?_) ?_ ?_
  · rcases List.mem_append.mp hk with hk | hk
    · exact (rat.ks k hk).keep tk (upd_ne fun e => (List.nodup_cons.mp ndr).1 (by rw [← e]; exact List.mem_map_of_mem hk))
    · cases List.mem_singleton.mp hk
      exact ⟨tk _ _ h5, h1.tk tk, (by show upd H6 r.c _ p4 = _; rw [upd_ne nc]; exact h4), .nil⟩
  · rcases List.mem_cons.mp hb with e | hb
    · rw [e]
      exact .inl List.mem_cons_self
    · rw [List.map_append, List.mem_append] at hb
      rcases hb with hb | hb
      · exact .inl (List.mem_cons_of_mem _ hb)
      · have e : b = p4 := by simpa using hb
        rw [e]
        exact .inr ⟨hp4, hp4'⟩
  · show (r.c :: (r.ks ++ [(⟨p5, .ref p1, p4, [], ⟨tst, some wd, []⟩⟩ : CaseS)]).map CaseS.l).Nodup
    rw [List.map_append, ← List.cons_append]
    refine nd_app ndr (by simp) fun b hb hb2 => ?_
    have e : b = p4 := by simpa using hb2
    rw [e] at hb
    exact hp4 (mem_ls.mpr (.inr (.inr (.inl hb))))
  · rw [List.map_append, List.map_cons]
    refine pb_mid pb1 rfl ⟨?_, fun c hc => ?_⟩
    · show ((r.ks ++ [(⟨p5, .ref p1, p4, [], ⟨tst, some wd, []⟩⟩ : CaseS)]).map CaseS.c).length ≤ _
      rw [List.length_map] at cl ⊢
      rw [List.length_append, List.length_singleton]
      omega
    · have hc : c ∈ (r.ks ++ [(⟨p5, .ref p1, p4, [], ⟨tst, some wd, []⟩⟩ : CaseS)]).map CaseS.c := hc
      rw [List.map_append, List.mem_append] at hc
      rcases hc with hc | hc
      · obtain ⟨c1, c2, c3, c4⟩ := cb c hc
        exact ⟨c1, c2, by omega, c4⟩
      · have e : c = ⟨tst, some wd, []⟩ := by simpa using hc
        rw [e]
        exact ⟨tok, fun s es => by cases es; exact wok, Nat.zero_le _, nofun⟩
theorem cbS {m : Nat} {rs : List RowS} {rows : List Row} (e : rs.map RowS.row = rows) (pb : PB m rows) : ∀ r ∈ rs, SOk r.nm ∧ ∀ k ∈ r.ks, CB k.c := fun r hr => by
  have hm : r.row ∈ rows := by rw [← e]; exact List.mem_map_of_mem hr
  obtain ⟨h1, h2⟩ := pb.cb _ hm
  exact ⟨h1, fun k hk => h2 k.c (List.mem_map_of_mem hk)⟩
theorem nmS {rs : List RowS} {rows : List Row} (e : rs.map RowS.row = rows) : rs.map (·.nm) = rows.map (·.1) := by
  rw [← e, List.map_map]
  rfl
section
variable {P : Program} {w : World} {K : PySem.W.Frag} {mg : Str → Option Value} {base : Heap} {C CC CD CU CR : Addr}
/-! ### _law_kept -/
def spKept : Sp := fun vs H Q _ => ∃ (v : V) (rows : List Row), vs = [v] ∧ RProg H v rows ∧ PB 3 rows ∧ Good rows ∧ ∀ H', Ex H H' → Q (.bl true) H'
theorem sc__law_kept : FnScope ["_law_program_here", "_law_handed", "_law_looker", "_law_other", "_law_row", "_law_case", "_law_got", "_law_longer", "_law_more", "_law_turned"] ["_law_program_here"] (defScope s__law_kept) := ⟨rfl, rfl, rfl, by decide +kernel, rfl, by decide +kernel, by decide +kernel⟩
theorem bi__law_kept : BindsEq "_law_kept" s__law_kept ["_law_program_here"] := fun _ _ _ _ _ _ us hl => match us, hl with | [_], _ => rfl
theorem ok_kept (F : Df K mg "_law_kept" s__law_kept) (T : Txt K mg) (L : TxQ K mg C) (C__law_program_copy : Cal P w K mg base CX0 1 "_law_program_copy" spCopy) (M_Looker : Mkr P w K mg base (L2N.CX P w) 4 "Looker" C (spLInit C CD CU CR))
    (C__law_shows : Cal P w K mg base CX0 4 "_law_shows" (spShowsL C)) (C__law_unknown : Cal P w K mg base CX0 4 "_law_unknown" (spUnk C)) (M_cases : Mt P w K mg base (L2N.CX P w) 3 C "cases" (spCases C CU)) (M_points : Mt P w K mg base CX0 1 C "points" (spPoints C))
    (M_eq : Mt P w K mg base CX0 2 C "__eq__" (spEqL C)) : Cal P w K mg base CX0 6 "_law_kept" spKept := by
  refine cal0 F sc__law_kept bi__law_kept (fun vs H Q E h => ?_) (fun f cdv A outer s H vs Q E hr h => ?_)
  · obtain ⟨v, rows, rfl, _⟩ := h
    rfl
  · obtain ⟨v, rows, rfl, hR, pb, gd, k⟩ := h
    refine ⟨_, (pss_cons (ps_set (i := 1) sc__law_kept.nd rfl (Or.inl rfl) (pe_k C__law_program_copy hr (by decide) rfl (pa_cons (pv 0) pa_nil)))
 (pss_cons (ps_set (i := 2) sc__law_kept.nd rfl (Or.inl rfl) (pe_mkr M_Looker hr (by decide) passN rfl (pa_cons (pv 1) pa_nil)))
 (pss_cons (ps_set (i := 3) sc__law_kept.nd rfl (Or.inl rfl) (pe_mkr M_Looker hr (by decide) passN rfl (pa_cons (pe_k C__law_program_copy hr (by decide) rfl (pa_cons (pv 0) pa_nil)) pa_nil)))
 (pss_cons (ps_if (PW.pt (pw_or (pt_cmpR (neDK K hr.units) (pv 1) (pv 0) (nomark _)) (pw_or (pt_not (pt_val (pe_k C__law_shows hr (by decide) rfl (pa_cons (pv 2) (pa_cons (pv 0) pa_nil))))) (pw_or1 (pt_not (pt_val (pe_k C__law_unknown hr (by decide) rfl (pa_cons (pv 2) pa_nil)))))))) (pss_one (ps_ret pe_bl)) pss_nil)
 (pss_cons (ps_expr (pe_bm PySem.F.plainAttrs_list PySem.F.slot_list_append PySem.F.type_list_append mt_append (pe_ix (ixt K) (pe_ix (ixl K) (pv 1) pe_int (fun _ _ => rfl)) pe_int (fun _ _ => rfl)) (pa_cons (pe_tup (pa_cons (pe_tup (pa_cons pe_str pa_nil)) (pa_cons pe_str (pa_cons (pe_lst pa_nil) pa_nil)))) pa_nil)))
 (pss_cons (ps_for PassesOwn.never rfl (pil K (pv 1)) (pg_name (i := 4) sc__law_kept.nd rfl (Or.inl rfl)) (pss_one (ps_for PassesOwn.never rfl (pil K (pe_ix (ixt K) (pv 4) pe_int (fun _ _ => rfl))) (pg_name (i := 5) sc__law_kept.nd rfl (Or.inl rfl)) (pss_one (ps_expr (pe_bm PySem.F.plainAttrs_list PySem.F.slot_list_append PySem.F.type_list_append mt_append (pe_ix (ixt K) (pv 5) pe_int (fun _ _ => rfl)) (pa_cons (pe_tup (pa_cons (pe_tup (pa_cons pe_str (pa_cons pe_int pa_nil))) (pa_cons (pe_ix (ixt K) (pv 4) pe_int (fun _ _ => rfl)) pa_nil))) pa_nil)))))))
 (pss_cons (ps_expr (pe_bm PySem.F.plainAttrs_list PySem.F.slot_list_append PySem.F.type_list_append mt_append (pv 1) (pa_cons (pe_tup (pa_cons pe_str (pa_cons (pe_lst pa_nil) pa_nil))) pa_nil)))
 (pss_cons (ps_expr (pe_bm PySem.F.plainAttrs_list PySem.F.slot_list_append PySem.F.type_list_append mt_append (pe_m0 M_points hr (by decide) (pv 2)) (pa_cons pe_str pa_nil)))
 (pss_cons (ps_for PassesOwn.never rfl (pil K (pv 0)) (pg_name (i := 4) sc__law_kept.nd rfl (Or.inl rfl)) (pss_cons (ps_set (i := 6) sc__law_kept.nd rfl (Or.inl rfl) (pe_mx M_cases hr (by decide) passN (pv 2) (pa_cons (pe_ix (ixt K) (pv 4) pe_int (fun _ _ => rfl)) pa_nil)))
 (pss_cons (ps_for PassesOwn.never rfl (pil K (pv 6)) (pg_name (i := 5) sc__law_kept.nd rfl (Or.inl rfl)) (pss_one (ps_expr (pe_bm0 PySem.F.plainAttrs_list PySem.F.slot_list_clear PySem.F.type_list_clear mt_clear (pe_ix (ixt K) (pv 5) pe_int (fun _ _ => rfl))))))
 (pss_one (ps_expr (pe_bm PySem.F.plainAttrs_list PySem.F.slot_list_append PySem.F.type_list_append mt_append (pv 6) (pa_cons (pe_tup (pa_cons (pe_tup (pa_cons pe_str pa_nil)) (pa_cons pe_non (pa_cons (pe_lst pa_nil) pa_nil)))) pa_nil)))))))
 (pss_cons (ps_if (PW.pt (pw_or (pt_not (pt_val (pe_k C__law_shows hr (by decide) rfl (pa_cons (pv 2) (pa_cons (pv 0) pa_nil))))) (pw_or (pt_cmpR (op_neOwn M_eq L.hm L.ne hr (by decide)) (pv 2) (pv 3) (nomark _)) (pw_or1 (pt_cmpR (op_eqOwn M_eq hr (by decide)) (pv 2) (pv 0) (nomark _)))))) (pss_one (ps_ret pe_bl)) pss_nil)
 (pss_cons (ps_set (i := 7) sc__law_kept.nd rfl (Or.inl rfl) (pe_mkr M_Looker hr (by decide) passN rfl (pa_cons (pe_op op_cat (pe_k C__law_program_copy hr (by decide) rfl (pa_cons (pv 0) pa_nil)) (pe_lst (pa_cons (pe_tup (pa_cons pe_str (pa_cons (pe_lst pa_nil) pa_nil))) pa_nil))) pa_nil)))
 (pss_cons (ps_set (i := 8) sc__law_kept.nd rfl (Or.inl rfl) (pe_k C__law_program_copy hr (by decide) rfl (pa_cons (pv 0) pa_nil)))
 (pss_cons (ps_expr (pe_bm PySem.F.plainAttrs_list PySem.F.slot_list_append PySem.F.type_list_append mt_append (pe_ix (ixt K) (pe_ix (ixl K) (pv 8) (pe_un un_neg pe_int) (fun _ _ => rfl)) pe_int (fun _ _ => rfl)) (pa_cons (pe_tup (pa_cons (pe_tup (pa_cons pe_str pa_nil)) (pa_cons pe_str (pa_cons (pe_lst pa_nil) pa_nil)))) pa_nil)))
 (pss_cons (ps_set (i := 9) sc__law_kept.nd rfl (Or.inl rfl) (pe_mkr M_Looker hr (by decide) passN rfl (pa_cons (pe_revL (pe_k C__law_program_copy hr (by decide) rfl (pa_cons (pv 0) pa_nil))) pa_nil)))
 (pss_one (ps_ret (pe_and (pe_cmpR (op_neOwn M_eq L.hm L.ne hr (by decide)) (pv 7) (pv 2) (nomark _)) (pe_and (pe_cmpR (op_neOwn M_eq L.hm L.ne hr (by decide)) (pe_mkr M_Looker hr (by decide) passN rfl (pa_cons (pv 8) pa_nil)) (pv 2) (nomark _)) (pe_one (pe_cmpR op_eq (pe_cmpR (op_eqOwn M_eq hr (by decide)) (pv 9) (pv 2) (nomark _)) (pe_cmpR op_eq (pe_callB (lnK K) rfl T.b_len (by decide +kernel) (pa_cons (pv 0) pa_nil)) pe_int (nomark _)) (nomark _))))))))))))))))))))), ?_⟩
    have due0 : dueP rows = none := due_none.mpr gd
    have pb4 : PB 4 rows := pb.mono (by decide)
    have l20 : rows.length ≤ 20 := by have := pb.le; omega
    have c20 : ∀ r ∈ rows, r.2.length ≤ 20 := fun r hr' => by have := (pb.cs r hr').1; omega
    have cbr : ∀ r ∈ rows, ∀ c ∈ r.2, CB c := fun r hr' => (pb.cb r hr').2
    have nn : ("nobody" : Str) ∉ rows.map (·.1) := fun z => by
      obtain ⟨r, hr', e⟩ := List.mem_map.mp z
      exact (pb.pt r hr').2.1 e
    -- _law_handed, _law_looker
    refine ⟨_, rfl, v, rows, rfl, hR, l20, c20, fun ah H1 rsH x0_1 pa ndH frH erH => ?_⟩
    refine ⟨_, rfl, fun x dx nx ndx ne => ?_⟩
    have mk0 : ∀ {G : Hp} {x dx : Addr}, G x = none → G dx = none → dx ≠ x → Ex G (upd (upd G dx (.own x)) x (.ins C dx [])) := fun hx hdx ne => (Ex.new hdx).trans (Ex.new (by rw [upd_ne (Ne.symm ne)]; exact hx))
    have hRh : RProg H1 (.ref ah) rows := by rw [← erH]; exact pa.r
    refine ⟨x, dx, _, H1, rows, rfl, upd_same, nx, mk0 nx ndx ne, hRh, pb4, fun _ H2 o d rs1 x1_2 lk2 er1 fr2 => ⟨rfl, ?_⟩, fun d hd => by rw [due0] at hd; cases hd⟩
    -- _law_other
    have x0_2 := x0_1.trans x1_2
    refine ⟨_, rfl, v, rows, rfl, hR.ex x0_2, l20, c20, fun ao H3 rsO x2_3 pO _ _ erO => ?_⟩
    intro y dy ny ndy ney
    refine ⟨y, dy, _, H3, rows, rfl, upd_same, ny, mk0 ny ndy ney, by rw [← erO]; exact pO.r, pb4, fun _ H4 o' d' rs2 x3_4 lk4 er2 fr4 => ⟨rfl, ?_⟩, fun d hd => by rw [due0] at hd; cases hd⟩
    have x2_4 := x2_3.trans x3_4
    have x1_4 := x1_2.trans x2_4
    have x0_4 := x0_1.trans x1_4
    have sh := prog_shaped pb.cb
    refine ⟨_, rfl, _, rfl, progD rows, progD rows, (hRh.ex x1_4).dp, (hR.ex x0_4).dp, sh, sh, _, rfl, if_f ?_ ?_⟩
    · rw [SeqAt.eqv_refl _ (SeqAt.canLay_of_shaped sh)]
      rfl
    have lkA4 : LkAt C H4 x rows := by rw [← er1]; exact (lk2.ex x2_4).lk
    refine ⟨_, rfl, _, rfl, x, v, rows, rfl, lkA4, hR.ex x0_4, pb, gd.1, fun H5 x4_5 => ⟨_, rfl, if_f rfl ?_⟩⟩
    refine ⟨_, rfl, x, rows, rfl, lkA4.ex x4_5, gd.1, nn, fun H6 x5_6 => ⟨_, rfl, if_f rfl ?_⟩⟩
    have x4_6 := x4_5.trans x5_6
    have x1_6 := x1_4.trans x4_6
    have x0_6 := x0_4.trans x4_6
    have pa6 := pa.ex x1_6
    -- what was handed is changed
    obtain ⟨r0, t0, et0⟩ : ∃ r0 t0, rsH = r0 :: t0 := by
      cases hro : rsH with
      | nil =>
        have := pb.ne
        rw [← erH, hro] at this
        exact absurd this (by decide)
      | cons a b => exact ⟨a, b, rfl⟩
    have rat0 := pa6.rs r0 (by rw [et0]; exact List.mem_cons_self)
    have lrH : rsH.length ≤ 15 := by
      have := pb.le
      rw [← erH, List.length_map] at this
      exact this
    have atH0 : (rsH.map fun r => V.ref r.a)[0]? = some (V.ref r0.a) := by rw [et0]; rfl
    have hb0 : (r0.ks.map fun k => V.ref k.a).length ≤ 20 := by
      have hm : r0.row ∈ rows := by rw [← erH, et0]; exact List.mem_map_of_mem List.mem_cons_self
      have q : (r0.ks.map (·.c)).length ≤ 6 + 3 := (pb.cs _ hm).1
      rw [List.length_map] at q ⊢
      omega
    refine ⟨_, rfl, ah, _, _, _, rfl, rfl, SqLo pa6.li, atI_nat (j := 0) atH0, r0.a, _, _, _, rfl, rfl, SqTo rat0.tu, rfl, .inl ⟨rfl, _, SqLo rat0.li⟩, szl (by show 1 ≤ 100000; decide), fun p1 np1 => ?_⟩
    obtain ⟨Ha, hHa, x6_a, h1⟩ := newH _ np1
    rw [hHa]
    clear hHa
    refine ⟨szl (by show 0 ≤ 100000; decide), fun p4 np4 => ?_⟩
    obtain ⟨Hb, hHb, xa_b, h4⟩ := newH _ np4
    rw [hHb]
    clear hHb
    refine ⟨szl (by show 3 ≤ 100000; decide), fun p5 np5 => ?_⟩
    obtain ⟨Hc, hHc, xb_c, h5⟩ := newH _ np5
    rw [hHc]
    clear hHc
    have x6_c := (x6_a.trans xa_b).trans xb_c
    refine ⟨r0.c, _, _, rfl, rfl, x6_c _ _ rat0.li, szlt (by omega), ?_⟩
    have bi6 : BI H6 ah rsH H6 rsH 3 := ⟨pa6, ndH, by rw [erH]; exact pb, fun _ _ _ h => h, fun _ h => .inl h⟩
    have bic := bi6.grow x6_c
    have bic2 : BI H6 ah rsH Hc ([] ++ r0 :: t0) 3 := by rw [List.nil_append, ← et0]; exact bic
    have np4' : p4 ∉ lsP ah ([] ++ r0 :: t0) := fun z => by
      rw [List.nil_append, ← et0] at z
      obtain ⟨xs, hz⟩ := pa6.some p4 z
      rw [ex_free x6_a np4] at hz
      cases hz
    have bi7 := case_more (p1 := p1) (p4 := p4) (p5 := p5) (tst := .any) (wd := "late") bic2 np4' (ex_free x6_a np4) (xb_c _ _ h4) (.any ((xa_b.trans xb_c) _ _ h1)) True.intro (by decide +kernel) h5
    generalize hrs7 : ([] ++ (⟨r0.a, r0.c, r0.nm, r0.ks ++ [⟨p5, .ref p1, p4, [], ⟨.any, some "late", []⟩⟩]⟩ : RowS) :: t0) = rs7 at bi7
    generalize hH7 : upd Hc r0.c (.lst ((r0.ks.map fun k => V.ref k.a) ++ [V.ref p5])) = H7 at bi7 ⊢
    have pa7 := bi7.at_
    have nd7 : ((rs7.map RowS.ls).flatten).Nodup := (List.nodup_cons.mp bi7.nd).2
    have nah : ah ∉ LL rs7 := fun z => by
      obtain ⟨r, hr', kk, hk, e⟩ := mem_LL.mp z
      exact (List.nodup_cons.mp bi7.nd).1 (in_flat hr' (by rw [← e]; exact List.mem_cons_of_mem _ (List.mem_map_of_mem hk)))
    have lks : ∀ r ∈ rs7, r.ks.length ≤ 10 := fun r hr' => by
      have q : (r.ks.map (·.c)).length ≤ 6 + 4 := (bi7.pb.cs r.row (List.mem_map_of_mem hr')).1
      rw [List.length_map] at q
      exact q
    have l7 : rs7.length ≤ 16 := by have := bi7.pb.le; rw [List.length_map] at this; exact this
    -- the two loops
    refine ⟨_, rfl, ah, rfl, ⟨_, SqLo pa7.li⟩, for_list (K := K) (a := ah) (xs := rs7.map fun r => V.ref r.a) (fun i σ' H' => ∃ (o4 o5 : Option V), σ' = [some v, some (.ref ah), some (.ref x), some (.ref y), o4, o5, none, none, none, none] ∧ Mu (LL rs7) H7 H' ∧ ∀ r ∈ rs7, ∀ k ∈ r.ks, ∃ ys, H' k.l = some (.lst ys) ∧ ys.length ≤ 60 + 20 * i) ?_ ?_ ?_ ?_⟩
    · refine ⟨_, _, rfl, Mu.refl _ _, fun r hr' kk hk => ⟨kk.xs, ((pa7.rs r hr').ks kk hk).li, ?_⟩⟩
      have q1 := Paired.len ((pa7.rs r hr').ks kk hk).vs
      obtain ⟨_, _, q2, _⟩ := (bi7.pb.cs r.row (List.mem_map_of_mem hr')).2 kk.c (List.mem_map_of_mem hk)
      omega
    · rintro i σ' H' _ ⟨_, _, _, m, _⟩
      exact SqLo (m _ _ nah pa7.li)
    · rintro i yv σ' H8 hi ⟨o4, o5, rfl, m8, hl8⟩
      rw [List.getElem?_map] at hi
      obtain ⟨r, hr1, hy⟩ : ∃ r, rs7[i]? = some r ∧ V.ref r.a = yv := by
        cases e : rs7[i]? with
        | none => rw [e] at hi; cases hi
        | some z => rw [e] at hi; exact ⟨z, rfl, Option.some.inj hi⟩
      subst hy
      have hrm := List.mem_of_getElem? hr1
      have i16 : i < rs7.length := (List.getElem?_eq_some_iff.mp hr1).1
      have rat7 := pa7.rs r hrm
      have ncl := c_notLL nd7 r hrm
      have tupM : ∀ {G : Hp}, Mu (LL rs7) H7 G → TupK H7 G := fun {G} m a ts q => m a _ (fun z => by
        obtain ⟨ys, hz⟩ := pa7.some a (LL_ls z)
        rw [q] at hz
        cases hz) q
      refine ⟨_, rfl, r.a, _, _, _, rfl, rfl, SqTo (tupM m8 _ _ rat7.tu), rfl, r.c, rfl, ⟨_, SqLo (m8 _ _ ncl rat7.li)⟩, for_list (K := K) (a := r.c) (xs := r.ks.map fun k => V.ref k.a) (fun j σ' H' => ∃ (o5 : Option V), σ' = [some v, some (.ref ah), some (.ref x), some (.ref y), some (.ref r.a), o5, none, none, none, none] ∧ Mu (LL rs7) H7 H' ∧ ∀ r ∈ rs7, ∀ k ∈ r.ks, ∃ ys, H' k.l = some (.lst ys) ∧ ys.length ≤ 60 + 20 * i + j) ?_ ?_ ?_ ?_⟩
      · exact ⟨_, rfl, m8, hl8⟩
      · rintro j σ' H' _ ⟨_, _, m, _⟩
        exact SqLo (m _ _ ncl rat7.li)
      · rintro j yv σ' H9 hj ⟨o5, rfl, m9, hl9⟩
        rw [List.getElem?_map] at hj
        obtain ⟨kk, hk1, hy⟩ : ∃ kk, r.ks[j]? = some kk ∧ V.ref kk.a = yv := by
          cases e : r.ks[j]? with
          | none => rw [e] at hj; cases hj
          | some z => rw [e] at hj; exact ⟨z, rfl, Option.some.inj hj⟩
        subst hy
        have hkm := List.mem_of_getElem? hk1
        have j10 : j < r.ks.length := (List.getElem?_eq_some_iff.mp hk1).1
        have lk10 := lks r hrm
        obtain ⟨ys, hys, hyl⟩ := hl9 r hrm kk hkm
        have hin : kk.l ∈ LL rs7 := mem_LL.mpr ⟨r, hrm, kk, hkm, rfl⟩
        refine ⟨_, rfl, kk.a, _, _, _, rfl, rfl, SqTo (tupM m9 _ _ (rat7.ks kk hkm).tu), rfl, .inl ⟨rfl, _, SqLo hys⟩, szl (by show 2 ≤ 100000; decide), fun q1 nq1 => ?_⟩
        obtain ⟨Ga, hGa, x9_a, g1⟩ := newH _ nq1
        rw [hGa]
        clear hGa
        refine ⟨_, rfl, r.a, _, _, _, rfl, rfl, SqTo (x9_a _ _ (tupM m9 _ _ rat7.tu)), rfl, szl (by show 2 ≤ 100000; decide), fun q2 nq2 => ?_⟩
        obtain ⟨Gb, hGb, xa_b', g2⟩ := newH _ nq2
        rw [hGb]
        clear hGb
        have x9_b := x9_a.trans xa_b'
        refine ⟨kk.l, ys, _, rfl, rfl, x9_b _ _ hys, szlt (by omega), _, rfl, (m9.ex x9_b).set hin, fun r' hr' k' hk' => ?_⟩
        by_cases e : k'.l = kk.l
        · refine ⟨_, by rw [e, upd_same], ?_⟩
          rw [List.length_append, List.length_singleton]
          omega
        · obtain ⟨ys', hys', hyl'⟩ := hl9 r' hr' k' hk'
          exact ⟨ys', by rw [upd_ne e]; exact x9_b _ _ hys', by omega⟩
      · rintro σ' H9 ⟨o5, rfl, m9, hl9⟩
        have lk10 := lks r hrm
        rw [List.length_map] at hl9
        refine ⟨_, _, rfl, m9, fun r' hr' k' hk' => ?_⟩
        obtain ⟨ys', hys', hyl'⟩ := hl9 r' hr' k' hk'
        exact ⟨ys', hys', by omega⟩
    rintro σ' H8 ⟨o4, o5, rfl, m8, _⟩
    -- _law_handed.append(('last', []))
    have ah8 := m8 _ _ nah pa7.li
    refine ⟨_, rfl, .inl ⟨rfl, _, SqLo ah8⟩, szl (by show 0 ≤ 100000; decide), fun q1 nq1 => ?_⟩
    obtain ⟨Ga, hGa, x8_a, g1⟩ := newH _ nq1
    rw [hGa]
    clear hGa
    refine ⟨szl (by show 2 ≤ 100000; decide), fun q2 nq2 => ?_⟩
    obtain ⟨Gb, hGb, xa_b', g2⟩ := newH _ nq2
    rw [hGb]
    clear hGb
    have x8_b := x8_a.trans xa_b'
    refine ⟨ah, _, _, rfl, rfl, x8_b _ _ ah8, szlt (by rw [List.length_map]; omega), ?_⟩
    generalize hH9 : upd Gb ah (.lst ((rs7.map fun r => V.ref r.a) ++ [V.ref q2])) = H9
    have m9 : Mu (lsP ah rsH) H6 H9 := fun b ob nb hb => by
      have n7 : b ∉ lsP ah rs7 := fun z => (bi7.nw b z).elim nb fun q => by rw [hb] at q; cases q
      rw [← hH9, upd_ne fun e => n7 (by rw [e]; exact List.mem_cons_self)]
      exact x8_b _ _ (m8 b ob (fun z => n7 (LL_ls z)) (bi7.fr b ob nb hb))
    clear hH9 m8 bi7 pa7 nd7 nah lks l7 hrs7 hH7
    have x0_9 : Ex H H9 := m9.toEx x0_6 frH
    have inH1 : ∀ b ∈ lsP ah rsH, ∃ xs, H1 b = some (.lst xs) := pa.some
    have inH6 : ∀ b ∈ lsP ah rsH, ∃ xs, H6 b = some (.lst xs) := pa6.some
    have lkx9 : LkF C H9 x o d rs1 := (lk2.ex (x2_4.trans x4_6)).mu m9 inH6 fun b hb z => by
      obtain ⟨xs, q⟩ := inH1 b z
      rw [fr2 b hb] at q
      cases q
    have lky9 : LkF C H9 y o' d' rs2 := (lk4.ex x4_6).mu m9 inH6 fun b hb z => by
      obtain ⟨xs, q⟩ := inH1 b z
      have q3 := (x1_2.trans x2_3) _ _ q
      rw [fr4 b hb] at q3
      cases q3
    have lkA9 : LkAt C H9 x rows := by rw [← er1]; exact lkx9.lk
    obtain ⟨dx9, hx9⟩ := lkx9.ins
    -- _law_looker.points().append('last')
    refine ⟨_, rfl, x, dx9, _, rfl, hx9, lfs_no _ _ (by decide +kernel) (by decide +kernel), x, rows, rfl, lkA9, fun p6 np6 => ⟨.inl ⟨rfl, _, SqLo upd_same⟩, p6, _, _, rfl, rfl, upd_same, szlt (by rw [List.length_map]; omega), ?_⟩⟩
    generalize hH10 : upd (upd H9 p6 (.lst (rows.map fun r => V.str r.1))) p6 (.lst ((rows.map fun r => V.str r.1) ++ [V.str "last"])) = H10
    have x9_10 : Ex H9 H10 := by rw [← hH10]; exact Ex.mut (Ex.new np6) np6
    clear hH10
    -- what is got is changed
    obtain ⟨a0, xs0, rfl, ha0, rr0⟩ := id hR
    have x0_10 := x0_9.trans x9_10
    refine ⟨_, rfl, a0, rfl, ⟨_, SqLo (x0_10 _ _ ha0)⟩, for_list (K := K) (a := a0) (xs := xs0) (fun i σ' H' => ∃ (o4 o5 o6 : Option V), σ' = [some (.ref a0), some (.ref ah), some (.ref x), some (.ref y), o4, o5, o6, none, none, none] ∧ Ex H10 H') ?_ ?_ ?_ ?_⟩
    · exact ⟨_, _, _, rfl, Ex.refl _⟩
    · rintro i σ' H' _ ⟨_, _, _, _, ex⟩
      exact SqLo (ex _ _ (x0_10 _ _ ha0))
    · rintro i yv σ' H11 hi ⟨o4, o5, o6, rfl, x10_11⟩
      obtain ⟨⟨pt, cs⟩, hrow, a2, l, rfl, h2', rcl⟩ := Paired.get rr0 hi
      have hrm := List.mem_of_getElem? hrow
      have x9_11 := x9_10.trans x10_11
      have x0_11 := x0_9.trans x9_11
      refine ⟨_, rfl, x, dx9, _, rfl, x9_11 _ _ hx9, lfs_no _ _ (by decide +kernel) (by decide +kernel), _, rfl, a2, _, _, _, rfl, rfl, SqTo (x0_11 _ _ h2'), rfl, x, pt, rows, rfl, lkA9.ex x9_11, gd.1, fun cs' hm => ⟨c20 _ hm, fun cl ks H12 x11_12 hcl hks ekc ncl nks => ?_⟩, fun hn => absurd (List.mem_map_of_mem hrm) hn⟩
      have lks20 : ks.length ≤ 20 := by
        have := c20 _ hm
        have q : ks.length = cs'.length := by rw [← ekc, List.length_map]
        have q2 : cs'.length ≤ 20 := this
        omega
      refine ⟨_, rfl, cl, rfl, ⟨_, SqLo hcl⟩, for_list (K := K) (a := cl) (xs := ks.map fun k => V.ref k.a) (fun j σ' H' => ∃ (o5 : Option V), σ' = [some (.ref a0), some (.ref ah), some (.ref x), some (.ref y), some (.ref a2), o5, some (.ref cl), none, none, none] ∧ Ex H11 H' ∧ H' cl = some (.lst (ks.map fun k => V.ref k.a)) ∧ TupK H12 H' ∧ ∀ k ∈ ks, ∃ ys, H' k.l = some (.lst ys)) ?_ ?_ ?_ ?_⟩
      · exact ⟨_, rfl, x11_12, hcl, TupK.refl _, fun kk hk => ⟨_, (hks kk hk).li⟩⟩
      · rintro j σ' H' _ ⟨_, _, _, h, _⟩
        exact SqLo h
      · rintro j yv σ' H13 hj ⟨o5, rfl, x11_13, hcl13, tk13, hl13⟩
        rw [List.getElem?_map] at hj
        obtain ⟨kk, hk1, hy⟩ : ∃ kk, ks[j]? = some kk ∧ V.ref kk.a = yv := by
          cases e : ks[j]? with
          | none => rw [e] at hj; cases hj
          | some z => rw [e] at hj; exact ⟨z, rfl, Option.some.inj hj⟩
        subst hy
        have hkm := List.mem_of_getElem? hk1
        obtain ⟨ys, hys⟩ := hl13 kk hkm
        obtain ⟨nk1, nk2⟩ := nks kk hkm
        refine ⟨_, rfl, kk.a, _, _, _, rfl, rfl, SqTo (tk13 _ _ (hks kk hkm).tu), rfl, .inl ⟨rfl, _, SqLo hys⟩, kk.l, ys, rfl, rfl, hys, _, rfl, Ex.mut x11_13 nk1, by rw [upd_ne (Ne.symm nk2)]; exact hcl13, tk13.trans (tupK_upd hys), fun k' hk' => ?_⟩
        by_cases e : k'.l = kk.l
        · exact ⟨_, by rw [e, upd_same]⟩
        · obtain ⟨ys', hys'⟩ := hl13 k' hk'
          exact ⟨ys', by rw [upd_ne e]; exact hys'⟩
      · rintro σ' H13 ⟨o5, rfl, x11_13, hcl13, _, _⟩
        refine ⟨_, rfl, .inl ⟨rfl, _, SqLo hcl13⟩, szl (by show 1 ≤ 100000; decide), fun q1 nq1 => ?_⟩
        obtain ⟨Ga, hGa, x13_a, g1⟩ := newH _ nq1
        rw [hGa]
        clear hGa
        refine ⟨szl (by show 0 ≤ 100000; decide), fun q2 nq2 => ?_⟩
        obtain ⟨Gb, hGb, xa_b', g2⟩ := newH _ nq2
        rw [hGb]
        clear hGb
        refine ⟨szl (by show 3 ≤ 100000; decide), fun q3 nq3 => ?_⟩
        obtain ⟨Gc, hGc, xb_c', g3⟩ := newH _ nq3
        rw [hGc]
        clear hGc
        have x13_c := (x13_a.trans xa_b').trans xb_c'
        refine ⟨cl, _, _, rfl, rfl, x13_c _ _ hcl13, szlt (by rw [List.length_map]; omega), _, _, _, rfl, x10_11.trans (Ex.mut (x11_13.trans x13_c) ncl)⟩
    rintro σ' H14 ⟨o4, o5, o6, rfl, x10_14⟩
    have x9_14 := x9_10.trans x10_14
    have x0_14 := x0_9.trans x9_14
    -- looked at again
    refine ⟨_, rfl, _, rfl, x, .ref a0, rows, rfl, lkA9.ex x9_14, hR.ex x0_14, pb, gd.1, fun H15 x14_15 => ⟨_, rfl, if_f rfl ?_⟩⟩
    have x9_15 := x9_14.trans x14_15
    have x0_15 := x0_14.trans x14_15
    have lkx := lkx9.ex x9_15
    have lky := lky9.ex x9_15
    obtain ⟨dx15, hx15⟩ := lkx.ins
    obtain ⟨dy15, hy15⟩ := lky.ins
    have ndm : (rs1.map (·.nm)).Nodup := by rw [nmS er1]; exact gd.1
    have e12 : eqLk rs1 rs2 = true := by rw [eqLk_R, er1, er2]; exact eqR_same cbr
    refine ⟨_, rfl, _, rfl, x, dx15, y, dy15, _, _, rfl, rfl, hx15, hy15, x, y, o, d, rs1, rfl, lkx, .inr ⟨o', d', rs2, lky, cbS er1 pb, cbS er2 pb, ndm, _, rfl, _, rfl, if_f ?_ ?_⟩⟩
    · rw [e12]
      rfl
    refine ⟨_, rfl, _, rfl, x, dx15, _, rfl, hx15, ⟨a0, rfl, .inr ⟨⟨_, x0_15 _ _ ha0⟩, L.sL⟩⟩, x, a0, o, d, rs1, rfl, lkx, .inl ⟨⟨_, x0_15 _ _ ha0⟩, _, rfl, _, rfl, if_f rfl ?_⟩⟩
    clear x10_14 x0_10 x9_10 lkA9 lkx9 lky9 hx9 lkA4 bic2 np4' bic bi6 pa6 pa pO
    -- _law_longer
    refine ⟨_, rfl, .ref a0, rows, rfl, hR.ex x0_15, l20, c20, fun a5 H16 rs5 x15_16 p5 _ _ er5 => ?_⟩
    refine ⟨szl (by show 0 ≤ 100000; decide), fun k1 nk1 => ?_⟩
    obtain ⟨Ka, hKa, x16_a, k1h⟩ := newH _ nk1
    rw [hKa]
    clear hKa
    refine ⟨szl (by show 2 ≤ 100000; decide), fun k2 nk2 => ?_⟩
    obtain ⟨Kb, hKb, xa_kb, k2h⟩ := newH _ nk2
    rw [hKb]
    clear hKb
    refine ⟨szl (by show 1 ≤ 100000; decide), fun k3 nk3 => ?_⟩
    obtain ⟨Kc, hKc, xb_kc, k3h⟩ := newH _ nk3
    rw [hKc]
    clear hKc
    have l5 : rs5.length ≤ 20 := by rw [← List.length_map RowS.row, er5]; exact l20
    refine ⟨a5, k3, _, _, rfl, rfl, ((x16_a.trans xa_kb).trans xb_kc) _ _ p5.li, k3h, szl (by rw [List.length_map, List.length_singleton]; omega), fun k4 nk4 => ?_⟩
    obtain ⟨Kd, hKd, xc_kd, k4h⟩ := newH _ nk4
    rw [hKd]
    clear hKd
    have x16_d := ((x16_a.trans xa_kb).trans xb_kc).trans xc_kd
    have x0_d := (x0_15.trans x15_16).trans x16_d
    intro x5 dx5 nx5 ndx5 ne5
    have hP5 : RProg Kd (.ref k4) (rows ++ [(("last" : Str), ([] : List Case))]) := by
      obtain ⟨a5', xs5, e5, h5a, pr5⟩ := p5.r
      cases e5
      rw [p5.li] at h5a
      cases h5a
      rw [er5] at pr5
      exact ⟨k4, _, rfl, k4h, Paired.app (Paired.imp (fun _ _ q => RRow.ex x16_d q) pr5) (.cons ⟨k2, .ref k1, rfl, (xb_kc.trans xc_kd) _ _ k2h, k1, [], rfl, ((xa_kb.trans xb_kc).trans xc_kd) _ _ k1h, .nil⟩ .nil)⟩
    have pb5 : PB 4 (rows ++ [(("last" : Str), ([] : List Case))]) := by
      refine ⟨by rw [List.length_append]; have := pb.ne; omega, by rw [List.length_append, List.length_singleton]; have := pb.le; omega, fun r hr' => ?_, fun r hr' => ?_⟩
      · rcases List.mem_append.mp hr' with z | z
        · exact pb4.pt r z
        · cases List.mem_singleton.mp z
          exact ⟨by decide +kernel, by decide +kernel, fun q => absurd q (by decide)⟩
      · rcases List.mem_append.mp hr' with z | z
        · exact pb4.cs r z
        · cases List.mem_singleton.mp z
          exact ⟨Nat.zero_le _, nofun⟩
    have due5 : dueP (rows ++ [(("last" : Str), ([] : List Case))]) = none := due_none.mpr (good_last gd fun z => by
      obtain ⟨r, hr', e⟩ := List.mem_map.mp z
      exact (pb.pt r hr').2.2 (by decide) e)
    refine ⟨x5, dx5, _, Kd, _, rfl, upd_same, nx5, mk0 nx5 ndx5 ne5, hP5, pb5, fun _ H17 o5 d5 rsL xd_17 lkL17 erL _ => ⟨rfl, ?_⟩, fun d hd => by rw [due5] at hd; cases hd⟩
    have x0_17 := x0_d.trans xd_17
    have x15_17 := (x15_16.trans x16_d).trans xd_17
    -- _law_more
    refine ⟨_, rfl, .ref a0, rows, rfl, hR.ex x0_17, l20, c20, fun a6 H18 rs6 x17_18 p6' nd6 fr6 er6 => ?_⟩
    obtain ⟨l6, r6, et6⟩ : ∃ l6 r6, rs6 = l6 ++ [r6] := by
      refine ⟨rs6.dropLast, rs6.getLast ?_, (List.dropLast_concat_getLast ?_).symm⟩ <;>
      · intro z
        rw [z] at er6
        have := pb.ne
        rw [← er6] at this
        exact absurd this (by decide)
    subst et6
    have rat6 := p6'.rs r6 (List.mem_append_right _ List.mem_cons_self)
    have at6 : atI ((l6 ++ [r6]).map fun r => V.ref r.a) (-1) = some (V.ref r6.a) := by
      rw [List.map_append]
      exact at_last' _ _
    have lr6 : r6.ks.length ≤ 20 := by
      have := c20 r6.row (by rw [← er6]; exact List.mem_map_of_mem (List.mem_append_right _ List.mem_cons_self))
      have q : (r6.ks.map (·.c)).length ≤ 20 := this
      rw [List.length_map] at q
      exact q
    refine ⟨_, rfl, _, rfl, a6, _, _, _, rfl, rfl, SqLo p6'.li, at6, r6.a, _, _, _, rfl, rfl, SqTo rat6.tu, rfl, .inl ⟨rfl, _, SqLo rat6.li⟩, szl (by show 1 ≤ 100000; decide), fun m1 nm1 => ?_⟩
    obtain ⟨Ma, hMa, x18_a, m1h⟩ := newH _ nm1
    rw [hMa]
    clear hMa
    refine ⟨szl (by show 0 ≤ 100000; decide), fun m2 nm2 => ?_⟩
    obtain ⟨Mb, hMb, xa_mb, m2h⟩ := newH _ nm2
    rw [hMb]
    clear hMb
    refine ⟨szl (by show 3 ≤ 100000; decide), fun m3 nm3 => ?_⟩
    obtain ⟨Mc, hMc, xb_mc, m3h⟩ := newH _ nm3
    rw [hMc]
    clear hMc
    have x18_c := (x18_a.trans xa_mb).trans xb_mc
    refine ⟨r6.c, _, _, rfl, rfl, x18_c _ _ rat6.li, szlt (by rw [List.length_map]; omega), ?_⟩
    have bi18 : BI H18 a6 (l6 ++ [r6]) H18 (l6 ++ [r6]) 3 := ⟨p6', nd6, by rw [er6]; exact pb, fun _ _ _ h => h, fun _ h => .inl h⟩
    have nm2' : m2 ∉ lsP a6 (l6 ++ r6 :: []) := fun z => by
      obtain ⟨xs, hz⟩ := p6'.some m2 z
      rw [ex_free x18_a nm2] at hz
      cases hz
    have bi19 := case_more (l2 := []) (p1 := m1) (p4 := m2) (p5 := m3) (tst := .text) (wd := "late") (bi18.grow x18_c) nm2' (ex_free x18_a nm2) (xb_mc _ _ m2h) (.text ((xa_mb.trans xb_mc) _ _ m1h)) True.intro (by decide +kernel) m3h
    generalize hH19 : upd Mc r6.c (.lst ((r6.ks.map fun k => V.ref k.a) ++ [V.ref m3])) = H19 at bi19 ⊢
    clear hH19
    have x17_19 : Ex H17 H19 := Mu.toEx (L := lsP a6 (l6 ++ [r6])) (fun b o n h => bi19.fr b o n h) x17_18 fr6
    have eM : (l6 ++ (⟨r6.a, r6.c, r6.nm, r6.ks ++ [⟨m3, .ref m1, m2, [], ⟨.text, some "late", []⟩⟩]⟩ : RowS) :: []).map RowS.row = l6.map RowS.row ++ [(r6.row.1, r6.row.2 ++ [⟨.text, some "late", []⟩])] := by
      rw [List.map_append]
      show _ ++ [((_, (r6.ks ++ [(⟨m3, .ref m1, m2, [], ⟨.text, some "late", []⟩⟩ : CaseS)]).map CaseS.c) : Row)] = _
      rw [List.map_append]
      rfl
    have hPM : RProg H19 (.ref a6) (l6.map RowS.row ++ [(r6.row.1, r6.row.2 ++ [⟨.text, some "late", []⟩])]) := by rw [← eM]; exact bi19.at_.r
    have pbM : PB 4 (l6.map RowS.row ++ [(r6.row.1, r6.row.2 ++ [⟨.text, some "late", []⟩])]) := by rw [← eM]; exact bi19.pb
    have er6' : rows = l6.map RowS.row ++ [r6.row] := by rw [← er6, List.map_append]; rfl
    have dueM : dueP (l6.map RowS.row ++ [(r6.row.1, r6.row.2 ++ [⟨.text, some "late", []⟩])]) = none := due_none.mpr (good_more (by rw [← er6']; exact gd))
    have gdM := due_none.mp dueM
    generalize hMo : l6.map RowS.row ++ [(r6.row.1, r6.row.2 ++ [(⟨.text, some "late", []⟩ : Case)])] = mows at hPM pbM dueM gdM
    have eqM : eqR mows rows = false := by rw [← hMo, er6']; exact eqR_more
    clear hMo eM bi19 bi18 nm2' at6 rat6 p6' nd6 er6' er6
    have x0_19 := x0_17.trans x17_19
    -- _law_turned
    refine ⟨_, rfl, .ref a0, rows, rfl, hR.ex x0_19, l20, c20, fun a9 H20 rs9 x19_20 p9 _ _ er9 => ?_⟩
    refine ⟨a9, _, rfl, SqLo p9.li, fun t1 nt1 => ?_⟩
    obtain ⟨H21, hH21, x20_21, t1h⟩ := newH _ nt1
    rw [hH21]
    clear hH21
    have hPT : RProg H21 (.ref t1) rows.reverse := by
      obtain ⟨a9', xs9, e9, h9a, pr9⟩ := p9.r
      cases e9
      rw [p9.li] at h9a
      cases h9a
      rw [er9] at pr9
      exact ⟨t1, _, rfl, t1h, paired_rev (Paired.imp (fun _ _ q => RRow.ex x20_21 q) pr9)⟩
    have pbT : PB 4 rows.reverse := ⟨by rw [List.length_reverse]; exact pb4.ne, by rw [List.length_reverse]; exact pb4.le, fun r hr' => pb4.pt r (List.mem_reverse.mp hr'), fun r hr' => pb4.cs r (List.mem_reverse.mp hr')⟩
    have gdT := good_rev gd
    have dueT := due_none.mpr gdT
    intro xT dxT nxT ndxT neT
    refine ⟨xT, dxT, _, H21, _, rfl, upd_same, nxT, mk0 nxT ndxT neT, hPT, pbT, fun _ H22 oT dT rsT x21_22 lkT erT _ => ⟨rfl, ?_⟩, fun d hd => by rw [dueT] at hd; cases hd⟩
    have x19_22 := (x19_20.trans x20_21).trans x21_22
    have x17_22 := x17_19.trans x19_22
    have x15_22 := x15_17.trans x17_22
    -- what is answered
    have lkx22 := lkx.ex x15_22
    have lkL22 := lkL17.ex x17_22
    obtain ⟨dx22, hx22⟩ := lkx22.ins
    obtain ⟨dl22, hl22⟩ := lkL22.ins
    have eL : eqLk rsL rs1 = false := by
      rw [eqLk_R, erL, er1]
      refine eqR_names fun z => ?_
      have := congrArg List.length z
      rw [List.length_map, List.length_map, List.length_append, List.length_singleton] at this
      omega
    have ndL : (rsL.map (·.nm)).Nodup := by rw [nmS erL]; exact (due_none.mp due5).1
    refine ⟨_, rfl, _, rfl, x5, dl22, x, dx22, _, _, rfl, rfl, hl22, hx22, x5, x, o5, d5, rsL, rfl, lkL22, .inr ⟨o, d, rs1, lkx22, cbS erL pb5, cbS er1 pb, ndL, _, rfl, _, rfl, if_t (by rw [eL]; rfl) ?_⟩⟩
    refine ⟨_, rfl, fun xM dxM nxM ndxM neM => ?_⟩
    refine ⟨xM, dxM, _, H22, mows, rfl, upd_same, nxM, mk0 nxM ndxM neM, hPM.ex x19_22, pbM, fun _ H23 oM dM rsM x22_23 lkM erM _ => ⟨rfl, ?_⟩, fun d hd => by rw [dueM] at hd; cases hd⟩
    have lkx23 := lkx22.ex x22_23
    have lkT23 := lkT.ex x22_23
    obtain ⟨dx23, hx23⟩ := lkx23.ins
    obtain ⟨dm23, hm23⟩ := lkM.ins
    obtain ⟨dt23, ht23⟩ := lkT23.ins
    have eMx : eqLk rsM rs1 = false := by rw [eqLk_R, erM, er1]; exact eqM
    have ndM : (rsM.map (·.nm)).Nodup := by rw [nmS erM]; exact gdM.1
    refine ⟨_, rfl, xM, dm23, x, dx23, _, _, rfl, rfl, hm23, hx23, xM, x, oM, dM, rsM, rfl, lkM, .inr ⟨o, d, rs1, lkx23, cbS erM pbM, cbS er1 pb, ndM, _, rfl, _, rfl, if_t (by rw [eMx]; rfl) ?_⟩⟩
    have ndT : (rsT.map (·.nm)).Nodup := by rw [nmS erT]; exact gdT.1
    have x0_23 : Ex H H23 := (x0_19.trans x19_22).trans x22_23
    have len0 : xs0.length = rows.length := Paired.len rr0
    have eT : eqLk rsT rs1 = decide (rows.length = 1) := by rw [eqLk_R, erT, er1]; exact eqR_rev cbr gd.1 pb.ne
    refine ⟨_, rfl, _, rfl, xT, dt23, _, rfl, ht23, ⟨x, rfl, .inl ⟨_, _, hx23⟩⟩, xT, x, oT, dT, rsT, rfl, lkT23, .inr ⟨o, d, rs1, lkx23, cbS erT pbT, cbS er1 pb, ndT, _, rfl, ?_⟩⟩
    refine ⟨_, rfl, .ref a0, xs0.length, rfl, .inl ⟨_, SqLo (x0_23 _ _ ha0), rfl⟩, rfl, rfl, ?_⟩
    have e : (V.bl (decide (V.bl (eqLk rsT rs1) = V.bl (decide (V.int (xs0.length : Nat) = V.int 1))))) = V.bl true := by
      rw [eT, len0]
      refine congrArg V.bl (decide_eq_true (congrArg V.bl (decide_eq_decide.mpr ⟨fun z => by rw [z]; rfl, fun z => ?_⟩)))
      have q : ((rows.length : Nat) : Int) = 1 := V.int.inj z
      omega
    have q := k H23 x0_23
    rw [← e] at q
    exact q
end
end K44

namespace K44
open PySem PySem.Spec L2 LW
open Evl (Ex)
/-! ### what is due, as data -/
def dueD : Option Due → PyData
  | none => .none
  | some (.dup x) => .tuple [.str "duplicate", .str x]
  | some (.rep x k) => .tuple [.str "repeated", .str x, .int (k : Int)]
  | some (.unk x) => .tuple [.str "unknown", .str x]
theorem RDue.dp {K : PySem.W.Frag} {H : Hp} {v : V} {d : Option Due} (h : RDue H v d) : Dp K H v (dueD d) := by
  match d, h with
  | none, h => cases (show v = .non from h); exact .non
  | some (.dup x), ⟨a, e, h⟩ => rw [e]; exact .tup (SqTo h) (.cons (.str _) (.cons (.str _) .nil))
  | some (.rep x k), ⟨a, e, h⟩ => rw [e]; exact .tup (SqTo h) (.cons (.str _) (.cons (.str _) (.cons (.int _) .nil)))
  | some (.unk x), ⟨a, e, h⟩ => rw [e]; exact .tup (SqTo h) (.cons (.str _) (.cons (.str _) .nil))
theorem RDue.ex {H H' : Hp} {v : V} {d : Option Due} (h : RDue H v d) (e : Ex H H') : RDue H' v d := by
  match d, h with
  | none, h => exact h
  | some (.dup x), ⟨a, q, h⟩ => exact ⟨a, q, e _ _ h⟩
  | some (.rep x k), ⟨a, q, h⟩ => exact ⟨a, q, e _ _ h⟩
  | some (.unk x), ⟨a, q, h⟩ => exact ⟨a, q, e _ _ h⟩
def Due.s : Due → Str
  | .dup x => x
  | .rep x _ => x
  | .unk x => x
theorem fst_some {α : Type} {n : Nat} {f : Nat → Option α} {x : α} (h : fst? n f = some x) : ∃ i, f i = some x := by
  unfold fst? at h
  obtain ⟨i, _, e⟩ := List.exists_of_findSome?_eq_some h
  exact ⟨i, e⟩
theorem unk_mem {names : List Str} {vs : List Visit} {s : Str} (h : unkS names vs = some s) : ∃ x ∈ vs, x.2 = s := by
  obtain ⟨i, e⟩ := fst_some h
  unfold unkF at e
  cases q : vs[i]? with
  | none => rw [q] at e; cases e
  | some x =>
    rw [q] at e
    have e : (if x.2 ∈ names then none else some x.2) = some s := e
    by_cases z : x.2 ∈ names
    · rw [if_pos z] at e; cases e
    · rw [if_neg z] at e
      exact ⟨x, List.mem_of_getElem? q, Option.some.inj e⟩
theorem dup_mem {names : List Str} {s : Str} (h : dupS names = some s) : s ∈ names := by
  obtain ⟨i, e⟩ := fst_some h
  unfold dupF at e
  cases q : names[i]? with
  | none => rw [q] at e; cases e
  | some x =>
    rw [q] at e
    have e : (if x ∈ names.take i then some x else none) = some s := e
    by_cases z : x ∈ names.take i
    · rw [if_pos z] at e
      cases e
      exact List.mem_of_getElem? q
    · rw [if_neg z] at e; cases e
theorem due_sok {m : Nat} {rows : List Row} (pb : PB m rows) {d : Due} (h : dueP rows = some d) : SOk d.s := by
  unfold dueP at h
  cases e : dupS (rows.map (·.1)) with
  | some x =>
    rw [e] at h
    cases h
    obtain ⟨r, hr, q⟩ := List.mem_map.mp (dup_mem e)
    show SOk x
    rw [← q]
    exact (pb.pt r hr).1
  | none =>
    rw [e] at h
    obtain ⟨i, hi⟩ := fst_some (show fst? _ _ = some d from h)
    unfold dueRF at hi
    cases q : rows[i]? with
    | none => rw [q] at hi; cases hi
    | some r =>
      rw [q] at hi
      have hrm := List.mem_of_getElem? q
      obtain ⟨j, hj⟩ := fst_some (show fst? _ _ = some d from hi)
      unfold dueCF at hj
      cases q2 : r.2[j]? with
      | none => rw [q2] at hj; cases hj
      | some c =>
        rw [q2] at hj
        have hcm := List.mem_of_getElem? q2
        have hj : dueC (rows.map (·.1)) r.1 j c = some d := hj
        unfold dueC at hj
        by_cases z : repB (c.vs.map (·.1)) = true
        · rw [if_pos z] at hj
          cases hj
          exact (pb.pt r hrm).1
        · rw [if_neg z, Option.map_eq_some_iff] at hj
          obtain ⟨u, hu, e⟩ := hj
          subst e
          obtain ⟨x, hx, ex⟩ := unk_mem hu
          show SOk u
          rw [← ex]
          exact (((pb.cs r hrm).2 c hcm).2.2.2 x hx).2
theorem dlit_ok : SOk "duplicate" ∧ SOk "repeated" ∧ SOk "unknown" := by decide +kernel
theorem due_lay {m : Nat} {rows : List Row} (pb : PB m rows) : PyData.canLay0 (dueD (dueP rows)) = true ∧ SeqAt.shaped (dueD (dueP rows)) = true := by
  obtain ⟨l1, l2, l3⟩ := dlit_ok
  have key : PyData.canLay0 (dueD (dueP rows)) = true := by
    cases e : dueP rows with
    | none => rfl
    | some d =>
      have hs : PyData.strOk d.s = true := due_sok pb e
      cases d with
      | dup x =>
        have hs : PyData.strOk x = true := hs
        simp only [dueD, PyData.canLay0, PyData.canLayAll0, l1, hs]
        rfl
      | rep x k =>
        have hs : PyData.strOk x = true := hs
        simp only [dueD, PyData.canLay0, PyData.canLayAll0, l2, hs]
        rfl
      | unk x =>
        have hs : PyData.strOk x = true := hs
        simp only [dueD, PyData.canLay0, PyData.canLayAll0, l3, hs]
        rfl
  refine ⟨key, shaped_of key ?_⟩
  cases dueP rows with
  | none => simp [dueD, PyData.depth]
  | some d => cases d <;> simp [dueD, PyData.depth, PyData.depthAll]
theorem ProgOk.pb {rows : List Row} (h : ProgOk rows) : PB 0 rows := ⟨h.ne, h.le, fun r hr => by
  obtain ⟨a, b, c⟩ := h.pt r.1 (List.mem_map_of_mem hr)
  exact ⟨a, b, fun _ => c⟩, fun r hr => ⟨(h.cs r hr).1, fun c hc => by
  obtain ⟨q1, q2, q3⟩ := (h.cs r hr).2 c hc
  exact ⟨q1, q2, q3.le, fun x hx => ⟨q3.nr.ok x.1 (List.mem_map_of_mem hx), (h.pt _ (q3.pt x hx)).1⟩⟩⟩⟩
section
variable {P : Program} {w : World} {K : PySem.W.Frag} {mg : Str → Option Value} {base : Heap} {C CU CD CR : Addr}
def spLaw (K : PySem.W.Frag) : Sp := fun vs H Q _ => ∃ (a : Addr) (ns : List Int), vs = [.ref a] ∧ SqL K H a (ns.map V.int) ∧ ns.length ≤ 63 ∧ ∀ H', Q (.bl true) H'
theorem sc_law : FnScope ["_law_script", "_law_k", "_law_pool", "_law_program_here", "_law_due_here", "_law_copied"] ["_law_script"] (defScope s_law) := ⟨rfl, rfl, rfl, by decide +kernel, rfl, by decide +kernel, by decide +kernel⟩
theorem bi_law : BindsEq "law" s_law ["_law_script"] := fun _ _ _ _ _ _ us hl => match us, hl with | [_], _ => rfl
theorem ok_law {f : Addr} {fd : FuncData} (F : FnP K "law" s_law f fd) (T : Txt K mg) (C__law_hand : Cal P w K mg base CX0 1 "_law_hand" (spHand K)) (C__law_draw : Cal P w K mg base CX0 1 "_law_draw" spDraw) (C__law_program : Cal P w K mg base CX0 3 "_law_program" spProgram) (C__law_bent : Cal P w K mg base CX0 2 "_law_bent" spBent)
    (C__law_due : Cal P w K mg base CX0 2 "_law_due" spDue) (C__law_program_copy : Cal P w K mg base CX0 1 "_law_program_copy" spCopy) (C__law_found : Cal P w K mg base CX0 6 "_law_found" spFound) (C__law_kept : Cal P w K mg base CX0 6 "_law_kept" spKept) :
    FnOk P w K mg base CX0 7 f fd ["_law_script"] (spLaw K) := by
  refine F.ok sc_law (fun vs H Q E h => ?_) (fun cdv A outer s H vs Q E hr h => ?_)
  · obtain ⟨a, ns, rfl, _⟩ := h
    rfl
  · obtain ⟨a, ns, rfl, hS, hl, k⟩ := h
    refine ⟨_, PSs.nox (pss_cons (ps_for PassesOwn.never rfl (pi_range1 rfl T.b_range (pa_cons (pe_callB (call_max2 rfl) rfl T.b_max (by decide +kernel) (pa_cons pe_int (pa_cons (pe_callB (call_min2 rfl) rfl T.b_min (by decide +kernel) (pa_cons (pe_callB (lnK K) rfl T.b_len (by decide +kernel) (pa_cons (pv 0) pa_nil)) (pa_cons pe_int pa_nil))) pa_nil))) pa_nil)) (pg_name (i := 1) sc_law.nd rfl (Or.inl rfl)) (pss_cons (ps_set (i := 2) sc_law.nd rfl (Or.inl rfl) (pe_k C__law_hand hr (by decide) rfl (pa_cons (pv 0) (pa_cons (pv 1) pa_nil))))
 (pss_cons (ps_set (i := 3) sc_law.nd rfl (Or.inl rfl) (pe_k C__law_program hr (by decide) rfl (pa_cons (pv 2) (pa_cons pe_int pa_nil))))
 (Evl.pss_cut (ps_if (pt_cmpR op_eq (pe_k C__law_draw hr (by decide) rfl (pa_cons (pv 2) (pa_cons pe_int pa_nil))) pe_int (nomark _)) (pss_one (ps_expr (pe_k C__law_bent hr (by decide) rfl (pa_cons (pv 2) (pa_cons (pv 3) pa_nil))))) pss_nil)
 (pss_cons (ps_set (i := 4) sc_law.nd rfl (Or.inl rfl) (pe_k C__law_due hr (by decide) rfl (pa_cons (pv 3) pa_nil)))
 (pss_cons (ps_set (i := 5) sc_law.nd rfl (Or.inl rfl) (pe_k C__law_program_copy hr (by decide) rfl (pa_cons (pv 3) pa_nil)))
 (pss_cons (ps_if (PW.pt (pw_or (pt_cmpR (neDK K hr.units) (pe_k C__law_found hr (by decide) rfl (pa_cons (pv 5) pa_nil)) (pv 4) (nomark _)) (pw_or1 (pt_cmpR (neDK K hr.units) (pv 5) (pv 3) (nomark _))))) (pss_one (ps_ret pe_bl)) pss_nil)
 (pss_one (ps_if (PW.pt (pw_and (pt_cmpR op_isN (pv 4) pe_non (nomark _)) (pw_and1 (pt_not (pt_val (pe_k C__law_kept hr (by decide) rfl (pa_cons (pv 3) pa_nil))))))) (pss_one (ps_ret pe_bl)) pss_nil)))))))))
 (pss_one (ps_ret pe_bl))), ?_⟩
    have hlen : (ns.map V.int).length ≤ 63 := by rw [List.length_map]; exact hl
    generalize hn : (ns.map V.int).length = n0 at hlen
    refine ⟨_, rfl, _, n0, rfl, .inl ⟨_, hS, hn.symm⟩, _, _, rfl, _, _, rfl, _, rfl, by split <;> split <;> omega, by split <;> split <;> omega, ?_⟩
    refine for_range (lo := 0) (fun i σ' H' => ∃ v1 v2 v3 v4 v5 : Option V, σ' = [some (.ref a), v1, v2, v3, v4, v5] ∧ Ex H H') ?_ ?_ ?_
    · exact ⟨none, none, none, none, none, rfl, Ex.refl _⟩
    · rintro i σ' H0 hi ⟨v1, v2, v3, v4, v5, rfl, e0⟩
      have hi63 : i < 63 := by
        have : (if (if (63 : Int) < (n0 : Int) then (63 : Int) else (n0 : Int)) > 1 then (if (63 : Int) < (n0 : Int) then (63 : Int) else (n0 : Int)) else 1).toNat ≤ 63 := by split <;> split <;> omega
        exact Nat.lt_of_lt_of_le hi this
      -- _law_pool
      refine ⟨_, rfl, _, rfl, a, ns, _, rfl, Evl.ex_l e0 hS, hl, by omega, by omega, fun p H1 np x0_1 hp => ?_⟩
      -- _law_program_here
      refine ⟨_, rfl, p, 11, rfl, hp, by decide, by decide, fun pa H2 rs x1_2 rp nd po => ?_⟩
      have rp2 := rp.ex fr_sub
      have x0_2 := (e0.trans x0_1).trans x1_2
      have fre : ∀ b ∈ lsP pa rs, H1 b = none := fun b hb => by
        obtain ⟨xs, q⟩ := rp.some b hb
        exact (fr_some q).1
      refine Evl.q_cut (M := fun σ' H' => ∃ (v1 v2 v4 v5 : Option V) (pa : Addr) (rows : List Row), σ' = [some (.ref a), v1, v2, some (.ref pa), v4, v5] ∧ Ex H H' ∧ RProg H' (.ref pa) rows ∧ PB 3 rows) ?_ ?_
      · refine ⟨_, rfl, p, 2, rfl, hp.ex x1_2, by decide, by decide, fun v v0 v2 => ⟨rfl, _, rfl, if_b (fun e => ?_) (fun e => ?_)⟩⟩
        · refine ⟨_, rfl, _, rfl, p, pa, rs, rfl, hp.ex x1_2, rp2, nd, po.pb, fun H3 rs3 fr3 rp3 pb3 => ?_⟩
          exact ⟨_, _, _, _, pa, _, rfl, (e0.trans x0_1).trans (Mu.toEx (L := lsP pa rs) fr3 x1_2 fre), rp3.r, pb3⟩
        · exact ⟨_, _, _, _, pa, _, rfl, x0_2, rp2.r, po.pb.mono (by decide)⟩
      · rintro σ' H3 ⟨v1, v2, v4, v5, pa, rows, rfl, x0_3, hR, pb⟩
        refine ⟨_, rfl, _, rows, rfl, hR, pb, fun u H4 x3_4 rd => ?_⟩
        have l20 : rows.length ≤ 20 := by have := pb.le; omega
        have c20 : ∀ r ∈ rows, r.2.length ≤ 20 := fun r hr' => by have := (pb.cs r hr').1; omega
        refine ⟨_, rfl, _, rows, rfl, hR.ex x3_4, l20, c20, fun ac H5 rs5 x4_5 pc _ _ er5 => ?_⟩
        have hC : RProg H5 (.ref ac) rows := by rw [← er5]; exact pc.r
        refine ⟨_, rfl, _, rows, rfl, hC, pb.mono (by decide), fun u' H6 x5_6 rd' => ?_⟩
        obtain ⟨dl, ds⟩ := due_lay pb
        have rd6 := rd.ex (x4_5.trans x5_6)
        refine ⟨_, rfl, _, _, rd'.dp, rd6.dp, ds, ds, _, rfl, if_f ?_ ?_⟩
        · rw [SeqAt.eqv_refl _ dl]
          rfl
        have sh := prog_shaped pb.cb
        have x3_6 := (x3_4.trans x4_5).trans x5_6
        refine ⟨_, rfl, _, rfl, progD rows, progD rows, (hC.ex x5_6).dp, (hR.ex x3_6).dp, sh, sh, _, rfl, if_f ?_ ?_⟩
        · rw [SeqAt.eqv_refl _ (SeqAt.canLay_of_shaped sh)]
          rfl
        refine ⟨_, rfl, rfl, _, rfl, if_b (fun e => ?_) (fun e => ?_)⟩
        · have hu : u = .non := of_decide_eq_true e
          have gd : Good rows := by
            refine due_none.mp ?_
            cases q : dueP rows with
            | none => rfl
            | some d =>
              rw [q, hu] at rd6
              cases d with
              | dup x => obtain ⟨_, z, _⟩ := rd6; cases z
              | rep x k => obtain ⟨_, z, _⟩ := rd6; cases z
              | unk x => obtain ⟨_, z, _⟩ := rd6; cases z
          refine ⟨_, rfl, _, rows, rfl, hR.ex x3_6, pb, gd, fun H7 x6_7 => ⟨_, rfl, if_f rfl ?_⟩⟩
          exact ⟨_, _, _, _, _, rfl, (x0_3.trans x3_6).trans x6_7⟩
        · exact ⟨_, _, _, _, _, rfl, x0_3.trans x3_6⟩
    · rintro σ' H1 ⟨v1, v2, v3, v4, v5, rfl, e0⟩
      exact k H1
end
end K44

namespace LW
open PySem PySem.Spec PyProof.Rows L2
/-! ### the head's Hook with properties: their getters are read as functions -/
def gAd (K : PySem.W.Frag) (x m : Str) : Addr := match PySem.W.recIn K (He.ma K (He.ga K x) m) "property" with
  | some (.ref g :: _) => g
  | _ => 0
def fnG (K : PySem.W.Frag) (a : Addr) : He.FnW := match K.lookup a with
  | some ⟨_, _, .func fd, _⟩ => some (fd.name, fd.qualname, fd.params, fd.body, fd.scope, fd.globals, fd.closure, fd.builtins)
  | _ => none
/-- a property: class, name, its def -/
structure PrD where
  cls : Str
  name : Str
  qual : Str
  params : Arguments
  body : List Stmt
  scope : Scope
def PrD.val (d : PrD) : He.FnW := some (d.name, d.qual, d.params, .stmts d.body, d.scope, mainGlobals, [], builtinsNs)
def fnB (K : PySem.W.Frag) (a : Addr) (qual : Str) : Bool := PySem.W.keepIn K (.ref a) && (match K.lookup a with
  | some ⟨_, _, .func fd, _⟩ => PySem.W.codeIn K fd.code qual && (He.dflB K fd.defaults [] && He.kwdB K fd.kwdefaults [])
  | _ => false)
def PrD.ok (K : PySem.W.Frag) (d : PrD) : Bool := He.eqO (PySem.W.findIn K (.ref (He.ga K d.cls)) d.name) (some (some (.ref (He.ma K (He.ga K d.cls) d.name)))) &&
  (He.eqO (PySem.W.specialIn K (.ref (He.ma K (He.ga K d.cls) d.name)) "__get__") (some (some (.builtin "property.__get__"))) &&
  (decide (PySem.W.takesIn K (.ref (He.ma K (He.ga K d.cls) d.name)) = some true) && ((match PySem.W.recIn K (He.ma K (He.ga K d.cls) d.name) "property" with
  | some (.ref _ :: _) => true
  | _ => false) && fnB K (gAd K d.cls d.name) d.qual)))
theorem fnB_funD {K : PySem.W.Frag} {a : Addr} {d : PrD} (e : fnG K a = d.val) (c : fnB K a d.qual = true) : ∃ fd, FunD K d.name d.qual d.params d.body d.scope [] [] a fd := by
  obtain ⟨kp, c2⟩ := He.ba c
  unfold fnG at e
  rcases q : K.lookup a with _ | ⟨oc, od, dt, osl⟩
  · rw [q] at c2
    cases c2
  · rw [q] at c2 e
    cases dt
    case func fd =>
      rcases fd with ⟨n1, n2, n3, n4, n5, n6, n7, dV, kV, doc, pm, an, cdv, ct, bs⟩
      injection (show (some (n1, n2, n3, n4, n5, n6, n7, bs) : He.FnW) = some (d.name, d.qual, d.params, .stmts d.body, d.scope, mainGlobals, [], builtinsNs) from e) with e
      simp only [Prod.mk.injEq] at e
      obtain ⟨rfl, rfl, rfl, rfl, rfl, rfl, rfl, rfl⟩ := e
      obtain ⟨k1, k2⟩ := He.ba (show (PySem.W.codeIn K cdv d.qual && (He.dflB K dV [] && He.kwdB K kV [])) = true from c2)
      obtain ⟨k3, k4⟩ := He.ba k2
      exact ⟨_, ⟨oc, od, dV, kV, doc, pm, an, cdv, ct, osl, rfl, q, k1, He.dflB_ok k3, He.kwdB_ok k4⟩, kp⟩
    all_goals cases c2
theorem PrD.funP {K : PySem.W.Frag} {d : PrD} (e : fnG K (gAd K d.cls d.name) = d.val) (c : d.ok K = true) : PropOf K (He.ga K d.cls) d.name (He.ma K (He.ga K d.cls) d.name) (gAd K d.cls d.name) ∧ ∃ fd, FunD K d.name d.qual d.params d.body d.scope [] [] (gAd K d.cls d.name) fd := by
  obtain ⟨c1, c⟩ := He.ba c
  obtain ⟨c2, c⟩ := He.ba c
  obtain ⟨c3, c⟩ := He.ba c
  obtain ⟨c4, c5⟩ := He.ba c
  refine ⟨⟨He.eqO_ok c1, He.eqO_ok c2, of_decide_eq_true c3, ?_⟩, fnB_funD e c5⟩
  unfold gAd
  generalize PySem.W.recIn K (He.ma K (He.ga K d.cls) d.name) "property" = r at c4
  rcases r with _ | _ | ⟨v, t⟩
  · cases c4
  · cases c4
  · cases v
    case ref g => exact ⟨t, rfl⟩
    all_goals cases c4
abbrev AlP : Type := AlM × (Bool × List He.FnW)
def obsPr (pr : List PrD) (K : PySem.W.Frag) : Bool × List He.FnW := (pr.all fun d => d.ok K, pr.map fun d => fnG K (gAd K d.cls d.name))
def obsP (n : Nat) (fa : List He.Fa) (fn : List He.DefD) (ex : PySem.W.Frag → Bool) (pr : List PrD) (g : Addr → Option Obj) : AlP := (obsM n fa fn ex g, obsPr pr (He.frG g (He.asD g n)))
structure SaysP (fa : List He.Fa) (fn : List He.DefD) (ex : PySem.W.Frag → Bool) (pr : List PrD) (K : PySem.W.Frag) : Prop where
  m : SaysM fa fn ex K
  p : obsPr pr K = (true, pr.map PrD.val)
def hookP (n : Nat) (fa : List He.Fa) (fn : List He.DefD) (ex : PySem.W.Frag → Bool) (pr : List PrD) : PySem.W.Hook where
  α := AlP
  obs := fun s => obsP n fa fn ex pr s.heap.get?
  val := fun _ => ((He.valD fn, true), (true, pr.map PrD.val))
  says := fun _ h => ∃ K : PySem.W.Frag, K.In h ∧ SaysP fa fn ex pr K
  of := fun _ _ e => ⟨_, He.frG_in, ⟨⟨congrArg (fun z : AlP => z.1.1) e, congrArg (fun z : AlP => z.1.2) e⟩, congrArg (fun z : AlP => z.2) e⟩⟩
  keeps := fun _ _ _ ⟨K, hK, c⟩ k => ⟨K, PySem.W.Frag.In.keeps hK k, c⟩
theorem obsP_eq {n : Nat} {fa : List He.Fa} {fn : List He.DefD} {ex : PySem.W.Frag → Bool} {pr : List PrD} {g : Addr → Option Obj} {s : Shared} (h : ∀ a, g a = s.heap.get? a) : obsP n fa fn ex pr g = (hookP n fa fn ex pr).obs s := by
  have e : g = s.heap.get? := funext h
  rw [e] <;> rfl
theorem SaysP.prop {fa : List He.Fa} {fn : List He.DefD} {ex : PySem.W.Frag → Bool} {pr : List PrD} {K : PySem.W.Frag} (c : SaysP fa fn ex pr K) (i : Nat) {d : PrD} (h : pr[i]? = some d := by rfl) :
    PropOf K (He.ga K d.cls) d.name (He.ma K (He.ga K d.cls) d.name) (gAd K d.cls d.name) ∧ ∃ fd, FunD K d.name d.qual d.params d.body d.scope [] [] (gAd K d.cls d.name) fd := by
  have c1 : (pr.all fun d => d.ok K) = true := congrArg Prod.fst c.p
  have c2 : (pr.map fun d => fnG K (gAd K d.cls d.name)) = pr.map PrD.val := congrArg Prod.snd c.p
  refine PrD.funP ?_ (List.all_eq_true.mp c1 d (List.mem_of_getElem? h))
  have e := congrArg (fun l => l[i]?) c2
  simp only [List.getElem?_map, h, Option.map_some] at e
  exact Option.some.inj e
/-- one of many -/
theorem allI {l : List Bool} (c : l.all id = true) (i : Nat) {b : Bool} (h : l[i]? = some b := by rfl) : b = true := List.all_eq_true.mp c b (List.mem_of_getElem? h)
end LW

namespace K44
open PySem PySem.Spec L2 LW
/-! ### the head: facts by names, the run -/
def d_has_repeats : He.DefD := ⟨("has_repeats", none), "has_repeats", "has_repeats", defArgs s_has_repeats, defBody s_has_repeats, defScope s_has_repeats, [], []⟩
def d__law_hand : He.DefD := ⟨("_law_hand", none), "_law_hand", "_law_hand", defArgs s__law_hand, defBody s__law_hand, defScope s__law_hand, [], []⟩
def d__law_draw : He.DefD := ⟨("_law_draw", none), "_law_draw", "_law_draw", defArgs s__law_draw, defBody s__law_draw, defScope s__law_draw, [], []⟩
def d__law_test : He.DefD := ⟨("_law_test", none), "_law_test", "_law_test", defArgs s__law_test, defBody s__law_test, defScope s__law_test, [], []⟩
def d__law_visits : He.DefD := ⟨("_law_visits", none), "_law_visits", "_law_visits", defArgs s__law_visits, defBody s__law_visits, defScope s__law_visits, [], []⟩
def d__law_program : He.DefD := ⟨("_law_program", none), "_law_program", "_law_program", defArgs s__law_program, defBody s__law_program, defScope s__law_program, [], []⟩
def d__law_program_copy : He.DefD := ⟨("_law_program_copy", none), "_law_program_copy", "_law_program_copy", defArgs s__law_program_copy, defBody s__law_program_copy, defScope s__law_program_copy, [], []⟩
def d__law_bent : He.DefD := ⟨("_law_bent", none), "_law_bent", "_law_bent", defArgs s__law_bent, defBody s__law_bent, defScope s__law_bent, [], []⟩
def d__law_twice : He.DefD := ⟨("_law_twice", none), "_law_twice", "_law_twice", defArgs s__law_twice, defBody s__law_twice, defScope s__law_twice, [], []⟩
def d__law_due : He.DefD := ⟨("_law_due", none), "_law_due", "_law_due", defArgs s__law_due, defBody s__law_due, defScope s__law_due, [], []⟩
def d__law_found : He.DefD := ⟨("_law_found", none), "_law_found", "_law_found", defArgs s__law_found, defBody s__law_found, defScope s__law_found, [], []⟩
def d__law_shows : He.DefD := ⟨("_law_shows", none), "_law_shows", "_law_shows", defArgs s__law_shows, defBody s__law_shows, defScope s__law_shows, [], []⟩
def d__law_unknown : He.DefD := ⟨("_law_unknown", none), "_law_unknown", "_law_unknown", defArgs s__law_unknown, defBody s__law_unknown, defScope s__law_unknown, [], []⟩
def d__law_kept : He.DefD := ⟨("_law_kept", none), "_law_kept", "_law_kept", defArgs s__law_kept, defBody s__law_kept, defScope s__law_kept, [], []⟩
def d_law : He.DefD := ⟨("law", none), "law", "law", defArgs s_law, defBody s_law, defScope s_law, [], []⟩
def d_Looker___init__ : He.DefD := ⟨("Looker", some "__init__"), "__init__", "Looker.__init__", defArgs s_Looker___init__, defBody s_Looker___init__, defScope s_Looker___init__, [], []⟩
def d_Looker_check_visits : He.DefD := ⟨("Looker", some "check_visits"), "check_visits", "Looker.check_visits", defArgs s_Looker_check_visits, defBody s_Looker_check_visits, defScope s_Looker_check_visits, [], []⟩
def d_Looker_cases : He.DefD := ⟨("Looker", some "cases"), "cases", "Looker.cases", defArgs s_Looker_cases, defBody s_Looker_cases, defScope s_Looker_cases, [], []⟩
def d_Looker_points : He.DefD := ⟨("Looker", some "points"), "points", "Looker.points", defArgs s_Looker_points, defBody s_Looker_points, defScope s_Looker_points, [], []⟩
def d_Looker___len__ : He.DefD := ⟨("Looker", some "__len__"), "__len__", "Looker.__len__", defArgs s_Looker___len__, defBody s_Looker___len__, defScope s_Looker___len__, [], []⟩
def d_Looker___contains__ : He.DefD := ⟨("Looker", some "__contains__"), "__contains__", "Looker.__contains__", defArgs s_Looker___contains__, defBody s_Looker___contains__, defScope s_Looker___contains__, [], []⟩
def d_Looker___eq__ : He.DefD := ⟨("Looker", some "__eq__"), "__eq__", "Looker.__eq__", defArgs s_Looker___eq__, defBody s_Looker___eq__, defScope s_Looker___eq__, [], []⟩
def d_UnknownPoint___init__ : He.DefD := ⟨("UnknownPoint", some "__init__"), "__init__", "UnknownPoint.__init__", defArgs s_UnknownPoint___init__, defBody s_UnknownPoint___init__, defScope s_UnknownPoint___init__, [], []⟩
def d_DuplicatePoint___init__ : He.DefD := ⟨("DuplicatePoint", some "__init__"), "__init__", "DuplicatePoint.__init__", defArgs s_DuplicatePoint___init__, defBody s_DuplicatePoint___init__, defScope s_DuplicatePoint___init__, [], []⟩
def d_RepeatedChild___init__ : He.DefD := ⟨("RepeatedChild", some "__init__"), "__init__", "RepeatedChild.__init__", defArgs s_RepeatedChild___init__, defBody s_RepeatedChild___init__, defScope s_RepeatedChild___init__, [], []⟩
def fn : List He.DefD := [d_has_repeats, d__law_hand, d__law_draw, d__law_test, d__law_visits, d__law_program, d__law_program_copy, d__law_bent, d__law_twice, d__law_due, d__law_found, d__law_shows, d__law_unknown, d__law_kept, d_law, d_Looker___init__, d_Looker_check_visits, d_Looker_cases, d_Looker_points, d_Looker___len__, d_Looker___contains__, d_Looker___eq__, d_UnknownPoint___init__, d_DuplicatePoint___init__, d_RepeatedChild___init__]
def fa0 : List He.Fa := [.glo "has_repeats", .glo "_law_hand", .glo "_law_draw", .glo "_law_test", .glo "_law_visits", .glo "_law_program", .glo "_law_program_copy", .glo "_law_bent", .glo "_law_twice", .glo "_law_due", .glo "_law_found", .glo "_law_shows", .glo "_law_unknown", .glo "_law_kept", .glo "law", .glo "Looker", .glo "CheckError", .glo "UnknownPoint", .glo "DuplicatePoint", .glo "RepeatedChild"]
def fa1 : List He.Fa := [.free "len", .free "range", .free "isinstance", .free "int", .free "str", .free "bool", .free "list", .free "all", .free "enumerate", .free "max", .free "min", .free "ValueError", .cls "Looker", .noat "Looker" "order", .noat "Looker" "chart", .meth "Looker" "check_visits", .meth "Looker" "cases", .meth "Looker" "points", .meth "Looker" "__len__", .meth "Looker" "__contains__"]
def fa2 : List He.Fa := [.meth "Looker" "__eq__", .mkr "Looker", .exm "UnknownPoint" "UnknownPoint" true, .exm "UnknownPoint" "CheckError" true, .exm "DuplicatePoint" "CheckError" true, .exm "RepeatedChild" "CheckError" true, .noat "UnknownPoint" "point", .noat "DuplicatePoint" "point", .noat "RepeatedChild" "point", .noat "RepeatedChild" "case"]
def fa : List He.Fa := fa0 ++ fa1 ++ fa2
def exL (K : PySem.W.Frag) : List Bool := [oexB K (He.ga K "UnknownPoint"), oexB K (He.ga K "DuplicatePoint"), oexB K (He.ga K "RepeatedChild"), excB K (He.ga K "UnknownPoint"), excB K (He.ga K "DuplicatePoint"), excB K (He.ga K "RepeatedChild"), He.eqO (PySem.W.findIn K (.ref (He.ga K "UnknownPoint")) "__init__") (some (some (.ref (He.ma K (He.ga K "UnknownPoint") "__init__")))), He.eqO (PySem.W.findIn K (.ref (He.ga K "DuplicatePoint")) "__init__") (some (some (.ref (He.ma K (He.ga K "DuplicatePoint") "__init__")))), He.eqO (PySem.W.findIn K (.ref (He.ga K "RepeatedChild")) "__init__") (some (some (.ref (He.ma K (He.ga K "RepeatedChild") "__init__")))), decide (PySem.W.typeIn K (.ref (He.ma K (He.ga K "UnknownPoint") "__init__")) = some (.type "function")), decide (PySem.W.typeIn K (.ref (He.ma K (He.ga K "DuplicatePoint") "__init__")) = some (.type "function")), decide (PySem.W.typeIn K (.ref (He.ma K (He.ga K "RepeatedChild") "__init__")) = some (.type "function")), decide (PySem.W.kitOne K (.ref (He.ga K "UnknownPoint")) (.ref (He.ga K "UnknownPoint")) = some true), decide (PySem.W.kitOne K (.ref (He.ga K "UnknownPoint")) (.ref (He.ga K "DuplicatePoint")) = some false), decide (PySem.W.kitOne K (.ref (He.ga K "UnknownPoint")) (.ref (He.ga K "RepeatedChild")) = some false), decide (PySem.W.kitOne K (.ref (He.ga K "DuplicatePoint")) (.ref (He.ga K "UnknownPoint")) = some false), decide (PySem.W.kitOne K (.ref (He.ga K "DuplicatePoint")) (.ref (He.ga K "DuplicatePoint")) = some true), decide (PySem.W.kitOne K (.ref (He.ga K "DuplicatePoint")) (.ref (He.ga K "RepeatedChild")) = some false), decide (PySem.W.kitOne K (.ref (He.ga K "RepeatedChild")) (.ref (He.ga K "UnknownPoint")) = some false), decide (PySem.W.kitOne K (.ref (He.ga K "RepeatedChild")) (.ref (He.ga K "DuplicatePoint")) = some false), decide (PySem.W.kitOne K (.ref (He.ga K "RepeatedChild")) (.ref (He.ga K "RepeatedChild")) = some true), decide (PySem.W.kitOne K (.ref (He.ga K "UnknownPoint")) (.type "ValueError") = some true), decide (PySem.W.kitOne K (.ref (He.ga K "DuplicatePoint")) (.type "ValueError") = some true), decide (PySem.W.kitOne K (.ref (He.ga K "RepeatedChild")) (.type "ValueError") = some true), He.eqO (PySem.W.findIn K (.ref (He.ga K "Looker")) "__class__") (some (some (.builtin "object.__class__"))), He.eqO (PySem.W.specialIn K (.builtin "object.__class__") "__get__") (some (some (.builtin "getset_descriptor.__get__"))), decide (PySem.W.takesIn K (.builtin "object.__class__") = some true), decide (PySem.W.mroIn K (He.ga K "Looker") (.type "object") = some true), decide (PySem.W.kitOne K (.ref (He.ga K "Looker")) (.ref (He.ga K "Looker")) = some true), decide (PySem.W.kitOne K (.type "list") (.ref (He.ga K "Looker")) = some false), decide (PySem.W.subIn K (.type "list") (.ref (He.ga K "Looker")) = some false), He.eqO (PySem.W.findIn K (.ref (He.ga K "Looker")) "__ne__") (some (some (.builtin "object.__ne__")))]
def ex (K : PySem.W.Frag) : Bool := (exL K).all id
def p_Looker_start : LW.PrD := ⟨"Looker", "start", "Looker.start", defArgs s_Looker_start, defBody s_Looker_start, defScope s_Looker_start⟩
def prs : List LW.PrD := [p_Looker_start]
def loose0 : List Str := ["_wall", "CheckError", "InvalidValue", "DuplicatePoint", "UnknownPoint", "RepeatedChild", "LETTERS", "GREATEST", "LONGEST_TEXT", "LONGEST_NAME", "MOST_FIELDS", "MOST_PLACES", "is_integer", "is_letters", "is_field", "is_leaf", "is_part", "children", "is_value", "check_value"]
def loose1 : List Str := ["head_of", "takes_leaf", "matches", "has_repeats", "visited", "chosen", "taken", "walk", "Looker", "_law_hand", "_law_draw", "_law_test", "_law_visits", "_law_program", "_law_program_copy", "_law_bent", "_law_twice", "_law_due", "_law_found", "_law_shows"]
def loose2 : List Str := ["_law_unknown", "_law_kept"]
def loose : List Str := loose0 ++ loose1 ++ loose2
abbrev R : PySem.W.OpenRow := PySem.W.OpenLaw.row PySem.Challenge.rw_latechecks_k43_lookers
abbrev hk : PySem.W.Hook := LW.hookP 6 fa fn ex prs
def ob (s : PySem.W.SharedT) : LW.AlP := LW.obsP 6 fa fn ex prs (HandSHeadRun.getT s)
theorem ob_eq (s : PySem.W.SharedT) : ob s = hk.obs s.abs := LW.obsP_eq (HandSHeadRun.getT_eq s)
theorem run (w : World) : HandSHeadRun.RunEq R (PySem.W.view R.prog [47]) hk ob 6000 loose w := by
  intro os
  kernel_rfl
section
variable {P : Program} {w : World} {K : PySem.W.Frag} {mg : Str → Option Value} {h : Heap}
theorem hg_has_repeats (c : SaysM fa fn ex K) : (He.Fa.glo "has_repeats").ok K = true := c.d.fact 0 (f := .glo "has_repeats") rfl
theorem hg__law_hand (c : SaysM fa fn ex K) : (He.Fa.glo "_law_hand").ok K = true := c.d.fact 1 (f := .glo "_law_hand") rfl
theorem hg__law_draw (c : SaysM fa fn ex K) : (He.Fa.glo "_law_draw").ok K = true := c.d.fact 2 (f := .glo "_law_draw") rfl
theorem hg__law_test (c : SaysM fa fn ex K) : (He.Fa.glo "_law_test").ok K = true := c.d.fact 3 (f := .glo "_law_test") rfl
theorem hg__law_visits (c : SaysM fa fn ex K) : (He.Fa.glo "_law_visits").ok K = true := c.d.fact 4 (f := .glo "_law_visits") rfl
theorem hg__law_program (c : SaysM fa fn ex K) : (He.Fa.glo "_law_program").ok K = true := c.d.fact 5 (f := .glo "_law_program") rfl
theorem hg__law_program_copy (c : SaysM fa fn ex K) : (He.Fa.glo "_law_program_copy").ok K = true := c.d.fact 6 (f := .glo "_law_program_copy") rfl
theorem hg__law_bent (c : SaysM fa fn ex K) : (He.Fa.glo "_law_bent").ok K = true := c.d.fact 7 (f := .glo "_law_bent") rfl
theorem hg__law_twice (c : SaysM fa fn ex K) : (He.Fa.glo "_law_twice").ok K = true := c.d.fact 8 (f := .glo "_law_twice") rfl
theorem hg__law_due (c : SaysM fa fn ex K) : (He.Fa.glo "_law_due").ok K = true := c.d.fact 9 (f := .glo "_law_due") rfl
theorem hg__law_found (c : SaysM fa fn ex K) : (He.Fa.glo "_law_found").ok K = true := c.d.fact 10 (f := .glo "_law_found") rfl
theorem hg__law_shows (c : SaysM fa fn ex K) : (He.Fa.glo "_law_shows").ok K = true := c.d.fact 11 (f := .glo "_law_shows") rfl
theorem hg__law_unknown (c : SaysM fa fn ex K) : (He.Fa.glo "_law_unknown").ok K = true := c.d.fact 12 (f := .glo "_law_unknown") rfl
theorem hg__law_kept (c : SaysM fa fn ex K) : (He.Fa.glo "_law_kept").ok K = true := c.d.fact 13 (f := .glo "_law_kept") rfl
theorem hg_law (c : SaysM fa fn ex K) : (He.Fa.glo "law").ok K = true := c.d.fact 14 (f := .glo "law") rfl
theorem hg_Looker (c : SaysM fa fn ex K) : (He.Fa.glo "Looker").ok K = true := c.d.fact 15 (f := .glo "Looker") rfl
theorem hg_CheckError (c : SaysM fa fn ex K) : (He.Fa.glo "CheckError").ok K = true := c.d.fact 16 (f := .glo "CheckError") rfl
theorem hg_UnknownPoint (c : SaysM fa fn ex K) : (He.Fa.glo "UnknownPoint").ok K = true := c.d.fact 17 (f := .glo "UnknownPoint") rfl
theorem hg_DuplicatePoint (c : SaysM fa fn ex K) : (He.Fa.glo "DuplicatePoint").ok K = true := c.d.fact 18 (f := .glo "DuplicatePoint") rfl
theorem hg_RepeatedChild (c : SaysM fa fn ex K) : (He.Fa.glo "RepeatedChild").ok K = true := c.d.fact 19 (f := .glo "RepeatedChild") rfl
theorem hf_len (c : SaysM fa fn ex K) : (He.Fa.free "len").ok K = true := c.d.fact 20 (f := .free "len") rfl
theorem hf_range (c : SaysM fa fn ex K) : (He.Fa.free "range").ok K = true := c.d.fact 21 (f := .free "range") rfl
theorem hf_isinstance (c : SaysM fa fn ex K) : (He.Fa.free "isinstance").ok K = true := c.d.fact 22 (f := .free "isinstance") rfl
theorem hf_int (c : SaysM fa fn ex K) : (He.Fa.free "int").ok K = true := c.d.fact 23 (f := .free "int") rfl
theorem hf_str (c : SaysM fa fn ex K) : (He.Fa.free "str").ok K = true := c.d.fact 24 (f := .free "str") rfl
theorem hf_bool (c : SaysM fa fn ex K) : (He.Fa.free "bool").ok K = true := c.d.fact 25 (f := .free "bool") rfl
theorem hf_list (c : SaysM fa fn ex K) : (He.Fa.free "list").ok K = true := c.d.fact 26 (f := .free "list") rfl
theorem hf_all (c : SaysM fa fn ex K) : (He.Fa.free "all").ok K = true := c.d.fact 27 (f := .free "all") rfl
theorem hf_enumerate (c : SaysM fa fn ex K) : (He.Fa.free "enumerate").ok K = true := c.d.fact 28 (f := .free "enumerate") rfl
theorem hf_max (c : SaysM fa fn ex K) : (He.Fa.free "max").ok K = true := c.d.fact 29 (f := .free "max") rfl
theorem hf_min (c : SaysM fa fn ex K) : (He.Fa.free "min").ok K = true := c.d.fact 30 (f := .free "min") rfl
theorem hf_ValueError (c : SaysM fa fn ex K) : (He.Fa.free "ValueError").ok K = true := c.d.fact 31 (f := .free "ValueError") rfl
theorem hm_0 (c : SaysM fa fn ex K) : (He.Fa.cls "Looker").ok K = true := c.d.fact 32 (f := .cls "Looker") rfl
theorem hm_1 (c : SaysM fa fn ex K) : (He.Fa.noat "Looker" "order").ok K = true := c.d.fact 33 (f := .noat "Looker" "order") rfl
theorem hm_2 (c : SaysM fa fn ex K) : (He.Fa.noat "Looker" "chart").ok K = true := c.d.fact 34 (f := .noat "Looker" "chart") rfl
theorem hm_3 (c : SaysM fa fn ex K) : (He.Fa.meth "Looker" "check_visits").ok K = true := c.d.fact 35 (f := .meth "Looker" "check_visits") rfl
theorem hm_4 (c : SaysM fa fn ex K) : (He.Fa.meth "Looker" "cases").ok K = true := c.d.fact 36 (f := .meth "Looker" "cases") rfl
theorem hm_5 (c : SaysM fa fn ex K) : (He.Fa.meth "Looker" "points").ok K = true := c.d.fact 37 (f := .meth "Looker" "points") rfl
theorem hm_6 (c : SaysM fa fn ex K) : (He.Fa.meth "Looker" "__len__").ok K = true := c.d.fact 38 (f := .meth "Looker" "__len__") rfl
theorem hm_7 (c : SaysM fa fn ex K) : (He.Fa.meth "Looker" "__contains__").ok K = true := c.d.fact 39 (f := .meth "Looker" "__contains__") rfl
theorem hm_8 (c : SaysM fa fn ex K) : (He.Fa.meth "Looker" "__eq__").ok K = true := c.d.fact 40 (f := .meth "Looker" "__eq__") rfl
theorem hm_9 (c : SaysM fa fn ex K) : (He.Fa.mkr "Looker").ok K = true := c.d.fact 41 (f := .mkr "Looker") rfl
theorem hm_10 (c : SaysM fa fn ex K) : (He.Fa.exm "UnknownPoint" "UnknownPoint" true).ok K = true := c.d.fact 42 (f := .exm "UnknownPoint" "UnknownPoint" true) rfl
theorem hm_11 (c : SaysM fa fn ex K) : (He.Fa.exm "UnknownPoint" "CheckError" true).ok K = true := c.d.fact 43 (f := .exm "UnknownPoint" "CheckError" true) rfl
theorem hm_12 (c : SaysM fa fn ex K) : (He.Fa.exm "DuplicatePoint" "CheckError" true).ok K = true := c.d.fact 44 (f := .exm "DuplicatePoint" "CheckError" true) rfl
theorem hm_13 (c : SaysM fa fn ex K) : (He.Fa.exm "RepeatedChild" "CheckError" true).ok K = true := c.d.fact 45 (f := .exm "RepeatedChild" "CheckError" true) rfl
theorem hm_14 (c : SaysM fa fn ex K) : (He.Fa.noat "UnknownPoint" "point").ok K = true := c.d.fact 46 (f := .noat "UnknownPoint" "point") rfl
theorem hm_15 (c : SaysM fa fn ex K) : (He.Fa.noat "DuplicatePoint" "point").ok K = true := c.d.fact 47 (f := .noat "DuplicatePoint" "point") rfl
theorem hm_16 (c : SaysM fa fn ex K) : (He.Fa.noat "RepeatedChild" "point").ok K = true := c.d.fact 48 (f := .noat "RepeatedChild" "point") rfl
theorem hm_17 (c : SaysM fa fn ex K) : (He.Fa.noat "RepeatedChild" "case").ok K = true := c.d.fact 49 (f := .noat "RepeatedChild" "case") rfl
theorem df_of (X : K.In h) (G : h.Ns mainGlobals mg) (c : SaysM fa fn ex K) {x : Str} {st : Stmt} (i : Nat) {d : He.DefD} (hd : fn[i]? = some d) (e : d = ⟨(x, none), x, x, defArgs st, defBody st, defScope st, [], []⟩) (hg : (He.Fa.glo x).ok K = true) : Df K mg x st := by
  obtain ⟨fd, F⟩ := c.d.def_ i hd
  subst e
  exact ⟨_, fd, F, He.glo_ok X G hg⟩
theorem D_has_repeats (X : K.In h) (G : h.Ns mainGlobals mg) (c : SaysM fa fn ex K) : Df K mg "has_repeats" s_has_repeats := df_of X G c 0 (d := d_has_repeats) rfl rfl (hg_has_repeats c)
theorem D__law_hand (X : K.In h) (G : h.Ns mainGlobals mg) (c : SaysM fa fn ex K) : Df K mg "_law_hand" s__law_hand := df_of X G c 1 (d := d__law_hand) rfl rfl (hg__law_hand c)
theorem D__law_draw (X : K.In h) (G : h.Ns mainGlobals mg) (c : SaysM fa fn ex K) : Df K mg "_law_draw" s__law_draw := df_of X G c 2 (d := d__law_draw) rfl rfl (hg__law_draw c)
theorem D__law_test (X : K.In h) (G : h.Ns mainGlobals mg) (c : SaysM fa fn ex K) : Df K mg "_law_test" s__law_test := df_of X G c 3 (d := d__law_test) rfl rfl (hg__law_test c)
theorem D__law_visits (X : K.In h) (G : h.Ns mainGlobals mg) (c : SaysM fa fn ex K) : Df K mg "_law_visits" s__law_visits := df_of X G c 4 (d := d__law_visits) rfl rfl (hg__law_visits c)
theorem D__law_program (X : K.In h) (G : h.Ns mainGlobals mg) (c : SaysM fa fn ex K) : Df K mg "_law_program" s__law_program := df_of X G c 5 (d := d__law_program) rfl rfl (hg__law_program c)
theorem D__law_program_copy (X : K.In h) (G : h.Ns mainGlobals mg) (c : SaysM fa fn ex K) : Df K mg "_law_program_copy" s__law_program_copy := df_of X G c 6 (d := d__law_program_copy) rfl rfl (hg__law_program_copy c)
theorem D__law_bent (X : K.In h) (G : h.Ns mainGlobals mg) (c : SaysM fa fn ex K) : Df K mg "_law_bent" s__law_bent := df_of X G c 7 (d := d__law_bent) rfl rfl (hg__law_bent c)
theorem D__law_twice (X : K.In h) (G : h.Ns mainGlobals mg) (c : SaysM fa fn ex K) : Df K mg "_law_twice" s__law_twice := df_of X G c 8 (d := d__law_twice) rfl rfl (hg__law_twice c)
theorem D__law_due (X : K.In h) (G : h.Ns mainGlobals mg) (c : SaysM fa fn ex K) : Df K mg "_law_due" s__law_due := df_of X G c 9 (d := d__law_due) rfl rfl (hg__law_due c)
theorem D__law_found (X : K.In h) (G : h.Ns mainGlobals mg) (c : SaysM fa fn ex K) : Df K mg "_law_found" s__law_found := df_of X G c 10 (d := d__law_found) rfl rfl (hg__law_found c)
theorem D__law_shows (X : K.In h) (G : h.Ns mainGlobals mg) (c : SaysM fa fn ex K) : Df K mg "_law_shows" s__law_shows := df_of X G c 11 (d := d__law_shows) rfl rfl (hg__law_shows c)
theorem D__law_unknown (X : K.In h) (G : h.Ns mainGlobals mg) (c : SaysM fa fn ex K) : Df K mg "_law_unknown" s__law_unknown := df_of X G c 12 (d := d__law_unknown) rfl rfl (hg__law_unknown c)
theorem D__law_kept (X : K.In h) (G : h.Ns mainGlobals mg) (c : SaysM fa fn ex K) : Df K mg "_law_kept" s__law_kept := df_of X G c 13 (d := d__law_kept) rfl rfl (hg__law_kept c)
theorem D_law (X : K.In h) (G : h.Ns mainGlobals mg) (c : SaysM fa fn ex K) : Df K mg "law" s_law := df_of X G c 14 (d := d_law) rfl rfl (hg_law c)
theorem facts {f : Addr} (X : K.In h) (G : h.Ns mainGlobals mg) (hfa : mg ("law" : Str) = some (.ref f)) (cP : SaysP fa fn ex prs K) :
    ∃ fd : FuncData, (∀ (s : Shared) (v : Value), BindsTo s fd ⟨[v], []⟩ [("_law_script", v)]) ∧ ∀ base : Heap, K.In base → base.Ns mainGlobals mg → FnOk P w K mg base CX0 7 f fd ["_law_script"] (spLaw K) := by
  have c := cP.m
  have cx : (exL K).all id = true := c.more
  have T : Txt K mg := ⟨He.free_ok X G (hf_len c), He.free_ok X G (hf_range c), He.free_ok X G (hf_isinstance c), He.free_ok X G (hf_int c), He.free_ok X G (hf_str c), He.free_ok X G (hf_bool c), He.free_ok X G (hf_list c), He.free_ok X G (hf_all c), He.free_ok X G (hf_enumerate c), He.free_ok X G (hf_max c), He.free_ok X G (hf_min c)⟩
  have L : TxL K mg (He.ga K "Looker") := ⟨He.cls_ok (hm_0 c), He.noat_ok (hm_1 c), He.noat_ok (hm_2 c)⟩
  have Lq : TxQ K mg (He.ga K "Looker") := ⟨L.cl, L.nO, L.nC, He.glo_ok X G (hg_Looker c), He.eqO_ok (allI cx 24), He.eqO_ok (allI cx 25), of_decide_eq_true (allI cx 26), of_decide_eq_true (allI cx 27), of_decide_eq_true (allI cx 28), of_decide_eq_true (allI cx 29), of_decide_eq_true (allI cx 30), He.eqO_ok (allI cx 31)⟩
  have oU : OexC K (He.ga K "UnknownPoint") := oexB_ok (allI cx 0)
  have oD : OexC K (He.ga K "DuplicatePoint") := oexB_ok (allI cx 1)
  have oR : OexC K (He.ga K "RepeatedChild") := oexB_ok (allI cx 2)
  have nU : PySem.W.findIn K (.ref (He.ga K "UnknownPoint")) "point" = some none := He.noat_ok (hm_14 c)
  have nD : PySem.W.findIn K (.ref (He.ga K "DuplicatePoint")) "point" = some none := He.noat_ok (hm_15 c)
  have nR : PySem.W.findIn K (.ref (He.ga K "RepeatedChild")) "point" = some none := He.noat_ok (hm_16 c)
  have nR2 : PySem.W.findIn K (.ref (He.ga K "RepeatedChild")) "case" = some none := He.noat_ok (hm_17 c)
  have Te : TxE K mg (He.ga K "CheckError") (He.ga K "UnknownPoint") (He.ga K "DuplicatePoint") (He.ga K "RepeatedChild") := ⟨He.glo_ok X G (hg_CheckError c), He.glo_ok X G (hg_UnknownPoint c), He.glo_ok X G (hg_DuplicatePoint c), He.glo_ok X G (hg_RepeatedChild c), He.free_ok X G (hf_ValueError c),
    excB_ok (allI cx 3), excB_ok (allI cx 4), excB_ok (allI cx 5), nU, nD, nR, nR2, He.exm_ok (hm_10 c), He.exm_ok (hm_11 c), He.exm_ok (hm_12 c), He.exm_ok (hm_13 c), of_decide_eq_true (allI cx 12), of_decide_eq_true (allI cx 13), of_decide_eq_true (allI cx 14), of_decide_eq_true (allI cx 15), of_decide_eq_true (allI cx 16), of_decide_eq_true (allI cx 17), of_decide_eq_true (allI cx 18), of_decide_eq_true (allI cx 19), of_decide_eq_true (allI cx 20), of_decide_eq_true (allI cx 21), of_decide_eq_true (allI cx 22), of_decide_eq_true (allI cx 23)⟩
  obtain ⟨fd15, F15⟩ := c.d.def_ 15 (d := d_Looker___init__) rfl
  obtain ⟨fd16, F16⟩ := c.d.def_ 16 (d := d_Looker_check_visits) rfl
  obtain ⟨fd17, F17⟩ := c.d.def_ 17 (d := d_Looker_cases) rfl
  obtain ⟨fd18, F18⟩ := c.d.def_ 18 (d := d_Looker_points) rfl
  obtain ⟨fd19, F19⟩ := c.d.def_ 19 (d := d_Looker___len__) rfl
  obtain ⟨fd20, F20⟩ := c.d.def_ 20 (d := d_Looker___contains__) rfl
  obtain ⟨fd21, F21⟩ := c.d.def_ 21 (d := d_Looker___eq__) rfl
  obtain ⟨fd22, F22⟩ := c.d.def_ 22 (d := d_UnknownPoint___init__) rfl
  obtain ⟨fd23, F23⟩ := c.d.def_ 23 (d := d_DuplicatePoint___init__) rfl
  obtain ⟨fd24, F24⟩ := c.d.def_ 24 (d := d_RepeatedChild___init__) rfl
  have D16 : Dm_ K (He.ga K "Looker") "check_visits" "Looker.check_visits" s_Looker_check_visits := ⟨_, fd16, F16, He.meth_ok (hm_3 c)⟩
  have D17 : Dm_ K (He.ga K "Looker") "cases" "Looker.cases" s_Looker_cases := ⟨_, fd17, F17, He.meth_ok (hm_4 c)⟩
  have D18 : Dm_ K (He.ga K "Looker") "points" "Looker.points" s_Looker_points := ⟨_, fd18, F18, He.meth_ok (hm_5 c)⟩
  have D19 : Dm_ K (He.ga K "Looker") "__len__" "Looker.__len__" s_Looker___len__ := ⟨_, fd19, F19, He.meth_ok (hm_6 c)⟩
  have D20 : Dm_ K (He.ga K "Looker") "__contains__" "Looker.__contains__" s_Looker___contains__ := ⟨_, fd20, F20, He.meth_ok (hm_7 c)⟩
  have D21 : Dm_ K (He.ga K "Looker") "__eq__" "Looker.__eq__" s_Looker___eq__ := ⟨_, fd21, F21, He.meth_ok (hm_8 c)⟩
  obtain ⟨hpS, fdS, FS⟩ := cP.prop 0 (d := p_Looker_start) rfl
  have bI : Binds K fd15 ["self", "rows"] [] := F15.bindsN bi_Looker___init__
  have bU : Binds K fd22 ["self", "point"] [] := F22.bindsN bi_UnknownPoint___init__
  have bD : Binds K fd23 ["self", "point"] [] := F23.bindsN bi_DuplicatePoint___init__
  have bR : Binds K fd24 ["self", "point", "case"] [] := F24.bindsN bi_RepeatedChild___init__
  have bS : Binds K fdS ["self"] [] := FS.bindsN bi_Looker_start
  obtain ⟨fL, fdL, FL, gL⟩ := (D_law X G c).ex
  have e := hfa.symm.trans gL
  cases e
  refine ⟨fdL, fun s v => FunD.bindsA (ps := ["_law_script"]) FL bi_law s [v] rfl, fun base _ _ => ?_⟩
  have cDraw : Cal P w K mg base CX0 1 "_law_draw" spDraw := ok_draw (D__law_draw X G c) T
  have cHand : Cal P w K mg base CX0 1 "_law_hand" (spHand K) := ok_hand (D__law_hand X G c) T
  have cTest : Cal P w K mg base CX0 2 "_law_test" spTest := ok_test (D__law_test X G c) T cDraw
  have cVis : Cal P w K mg base CX0 2 "_law_visits" spVisits := ok_visits (D__law_visits X G c) T cDraw
  have cProg : Cal P w K mg base CX0 3 "_law_program" spProgram := ok_program (D__law_program X G c) T cDraw cTest cVis
  have cCopy : Cal P w K mg base CX0 1 "_law_program_copy" spCopy := ok_copy (D__law_program_copy X G c) T
  have cBent : Cal P w K mg base CX0 2 "_law_bent" spBent := ok_bent (D__law_bent X G c) T cDraw
  have cTwice : Cal P w K mg base CX0 1 "_law_twice" spReps := ok_twice (D__law_twice X G c) T
  have cDue : Cal P w K mg base CX0 2 "_law_due" spDue := ok_due (D__law_due X G c) T cTwice
  have cReps : Cal P w K mg base CX0 1 "has_repeats" spReps := ok_reps (D_has_repeats X G c) T
  have xU : XMk P w K mg base 1 "UnknownPoint" (He.ga K "UnknownPoint") "point" := ⟨⟨Te.gU, oU, Te.xU⟩, ⟨_, fd22, _, He.eqO_ok (allI cx 6), of_decide_eq_true (allI cx 9), ok_uinit F22 oU nU, bU⟩, nU⟩
  have xD : XMk P w K mg base 1 "DuplicatePoint" (He.ga K "DuplicatePoint") "point" := ⟨⟨Te.gD, oD, Te.xD⟩, ⟨_, fd23, _, He.eqO_ok (allI cx 7), of_decide_eq_true (allI cx 10), ok_dinit F23 oD nD, bD⟩, nD⟩
  have xR : XMk2 P w K mg base 1 "RepeatedChild" (He.ga K "RepeatedChild") "point" "case" := ⟨⟨Te.gR, oR, Te.xR⟩, ⟨_, fd24, _, He.eqO_ok (allI cx 8), of_decide_eq_true (allI cx 11), ok_rinit F24 oR nR nR2, bR⟩⟩
  have mCheck := ok_check (P := P) (w := w) (base := base) (CD := He.ga K "DuplicatePoint") D16 T L cReps xU xR
  have mk : Mkr P w K mg base (L2N.CX P w) 4 "Looker" (He.ga K "Looker") (spLInit (He.ga K "Looker") (He.ga K "DuplicatePoint") (He.ga K "UnknownPoint") (He.ga K "RepeatedChild")) := ⟨_, fd15, _, He.mkr_ok (hm_9 c), ok_linit F15 T L xD mCheck, He.glo_ok X G (hg_Looker c), bI⟩
  have mCases := ok_cases (P := P) (w := w) (base := base) D17 T Lq xU
  have mPoints := ok_points (P := P) (w := w) (base := base) D18 T Lq
  have mLen := ok_len (P := P) (w := w) (base := base) D19 T Lq
  have mHas := ok_has (P := P) (w := w) (base := base) D20 T Lq
  have mEq := ok_eqL (P := P) (w := w) (base := base) D21 T Lq
  have pS : Pr P w K mg base 1 (He.ga K "Looker") "start" (spStart (He.ga K "Looker")) := ⟨_, _, fdS, _, L.cl, hpS, ok_start FS T Lq, bS⟩
  have cShows := ok_showsL (P := P) (w := w) (base := base) (D__law_shows X G c) T Lq mCases mPoints mLen mHas pS
  have cUnk := ok_unk (P := P) (w := w) (base := base) (D__law_unknown X G c) T Te mCases
  have cFound := ok_found (P := P) (w := w) (base := base) (D__law_found X G c) T Te mk
  have cKept := ok_kept (P := P) (w := w) (base := base) (D__law_kept X G c) T Lq cCopy mk cShows cUnk mCases mPoints mEq
  exact ok_law FL T cHand cDraw cProg cBent cDue cCopy cFound cKept
end

end K44
open PySem PySem.W PySem.Calls PyProof.Rows
set_option maxRecDepth 100000 in
set_option maxHeartbeats 0 in
theorem PySem.Challenge.cw_latechecks_k43_lookers_holds : PySem.Challenge.rw_latechecks_k43_lookers.Holds := by
  w_on; o_law
  refine HandSHeadRun.head_any (r := OpenLaw.row PySem.Challenge.rw_latechecks_k43_lookers) (q := view (OpenLaw.row PySem.Challenge.rw_latechecks_k43_lookers).prog [47]) (H := K44.hk) (ob := K44.ob) (M := 6000) (loose := K44.loose) (d := HandSHeadRun.topDef (OpenLaw.row PySem.Challenge.rw_latechecks_k43_lookers).prog 47) (kwd := []) K44.ob_eq
    (by kernel_rfl) (fun s => by kernel_rfl) K44.run (by kernel_rfl) (by kernel_rfl) (by kernel_rfl) (by rfl) (by first | assumption | decide +kernel) (by decide +kernel) ⟨rfl, rfl, rfl, rfl, rfl, by decide +kernel⟩ ?hw ?hc
  case hw => w_witness2
  case hc =>
    refine L2.walk_ofE (l := PySem.Challenge.rw_latechecks_k43_lookers) (n := 63) (k := 7) (x := "_law_script") (CX := L2.CX0) rfl (by decide) (by kernel_rfl) ⟨rfl, by decide, by decide⟩ ?F (fun _ _ _ _ z => z)
    intro w mg fa h Y G hmg0
    obtain ⟨K, KX, c⟩ := Y
    have hmg : mg ("law" : PySem.Str) = some (.ref fa) := by
      have e : (HandSHeadRun.topDef (OpenLaw.row PySem.Challenge.rw_latechecks_k43_lookers).prog 47).name = ("law" : PySem.Str) := by kernel_rfl
      rw [← e]
      exact hmg0
    obtain ⟨fd, hb, hF⟩ := K44.facts (P := (PySem.Challenge.rw_latechecks_k43_lookers).prog) (w := w) KX G hmg c
    exact ⟨K, fd, K44.spLaw K, KX, hb, fun H a ns hl _ hS => ⟨a, ns, rfl, hS, hl, fun _ => rfl⟩, hF⟩
#print axioms PySem.Challenge.cw_latechecks_k43_lookers_holds
