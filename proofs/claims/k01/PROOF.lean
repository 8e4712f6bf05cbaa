import PyProof.Rows.All
import Wide.All
import OpenK.AllK
import Wide.FinOn
import KE.KStateDown
import HandS.ForMost
import HandS.ForExc
import HandS.Defaults
import HandS.Head0
import HandS.Head1
import HandS.Head2
import HandS.HeadEnd
import HandS.HeadHook1
import HandS.HeadHook2
import HandS.ExcInit
import HandS.ExcField
import HandS.ExcIs
import HandS.IsInst
import HandS.Evl
import HandS.Wide
import HandS.Walk
import KE.KExcIs
import HandS.More
import PyProof.ReprRoads
import HandS.RaiseMore
import HandS.NoneIn
import PyProof.DictTruth
import KE.KDictDisplayH
import HandS.Small
import PyProof.ReprBulk
import HandS.TupAny
import PyProof.StrBlock2
import HandS.TupLe
import PySem.Challenge.RW_latechecks_k01_values
set_option Elab.async false
set_option linter.all false
set_option maxRecDepth 100000
set_option maxHeartbeats 8000000
namespace LW
open PySem PySem.Spec PyProof.Rows L2
/-! ### the head's Hook: facts, defs, one more Bool -/
abbrev AlM : Type := He.AlD × Bool
def obsM (n : Nat) (fa : List He.Fa) (fn : List He.DefD) (ex : PySem.W.Frag → Bool) (g : Addr → Option Obj) : AlM := (He.obsD fa fn (He.frG g (He.asD g n)), ex (He.frG g (He.asD g n)))
structure SaysM (fa : List He.Fa) (fn : List He.DefD) (ex : PySem.W.Frag → Bool) (K : PySem.W.Frag) : Prop where
  d : He.SaysD fa fn K
  more : ex K = true
def hookM (n : Nat) (fa : List He.Fa) (fn : List He.DefD) (ex : PySem.W.Frag → Bool) : PySem.W.Hook where
  α := AlM
  obs := fun s => obsM n fa fn ex s.heap.get?
  val := fun _ => (He.valD fn, true)
  says := fun _ h => ∃ K : PySem.W.Frag, K.In h ∧ SaysM fa fn ex K
  of := fun _ _ e => ⟨_, He.frG_in, ⟨congrArg (fun z : AlM => z.1) e, congrArg (fun z : AlM => z.2) e⟩⟩
  keeps := fun _ _ _ ⟨K, hK, c⟩ k => ⟨K, PySem.W.Frag.In.keeps hK k, c⟩
theorem obsM_eq {n : Nat} {fa : List He.Fa} {fn : List He.DefD} {ex : PySem.W.Frag → Bool} {g : Addr → Option Obj} {s : Shared} (h : ∀ a, g a = s.heap.get? a) : obsM n fa fn ex g = (hookM n fa fn ex).obs s := by
  have e : g = s.heap.get? := funext h
  rw [e] <;> rfl
theorem SaysM.fact {fa : List He.Fa} {fn : List He.DefD} {ex : PySem.W.Frag → Bool} {K : PySem.W.Frag} (c : SaysM fa fn ex K) {f : He.Fa} (h : f ∈ fa) : f.ok K = true := by
  have c1 := (He.ba (show ((fa.all fun f => f.ok K) && fn.all fun d => d.ok K) = true from congrArg (fun z : He.AlD => z.1) c.d)).1
  exact List.all_eq_true.mp c1 f h
end LW

namespace LW
open PySem PySem.Spec PyProof.Rows L2
open Evl (Ex)
/-! ### heaps that grow -/
theorem new_ {H : Hp} {o : HO} {Q : VK} (k : ∀ p H1, H p = none → Ex H H1 → H1 p = some o → Q (.ref p) H1) : ∀ p, H p = none → Q (.ref p) (upd H p o) := fun p h => k p _ h (Ex.new h) upd_same
theorem newH {H : Hp} {p : Addr} (o : HO) (np : H p = none) : ∃ H1, upd H p o = H1 ∧ Ex H H1 ∧ H1 p = some o := ⟨_, rfl, Ex.new np, upd_same⟩
theorem ex_free {H H' : Hp} {p : Addr} (e : Ex H H') (h : H' p = none) : H p = none := Evl.fresh_back e h
theorem upd_back {H : Hp} {p : Addr} {o x : HO} (h : H p = some o) : upd (upd H p x) p o = H := by
  funext b
  by_cases hb : b = p
  · rw [hb, upd_same, h]
  · rw [upd_ne hb, upd_ne hb]
/-- small sizes -/
theorem szl {n : Nat} (h : n ≤ 100000) : n ≤ sizeLine := Nat.le_trans h (by decide)
theorem szlt {n : Nat} (h : n < 100000) : n < sizeLine := Nat.lt_of_lt_of_le h (by decide)

/-! ### a heap without one address -/
theorem ex_del {H : Hp} {p : Addr} : Ex (del H p) H := fun a o h => by
  by_cases e : a = p
  · rw [e, del_same] at h
    cases h
  · rw [del_ne e] at h
    exact h
theorem ex_of_del {H H' : Hp} {p : Addr} (e : Ex H H') (h : H p = none) : Ex H (del H' p) := fun a o q => by
  rw [del_ne (ne_of_none q h)]
  exact e a o q
theorem del_grow {H H1 : Hp} {p : Addr} {o : HO} (e : Ex H H1) : Ex (del H p) (del (upd H1 p o) p) := fun a u q => by
  by_cases ea : a = p
  · rw [ea, del_same] at q
    cases q
  · rw [del_ne ea] at q ⊢
    rw [upd_ne ea]
    exact e a u q
theorem del_grow' {H H1 : Hp} {p : Addr} (e : Ex H H1) : Ex (del H p) (del H1 p) := fun a u q => by
  by_cases ea : a = p
  · rw [ea, del_same] at q
    cases q
  · rw [del_ne ea] at q ⊢
    exact e a u q
theorem del_get {H : Hp} {p a : Addr} {o : HO} (h : H a = some o) (ne : a ≠ p) : del H p a = some o := by
  rw [del_ne ne]
  exact h
theorem up_ne {H : Hp} {p a : Addr} {o x : HO} (h : H a = some o) (ne : a ≠ p) : upd H p x a = some o := by
  rw [upd_ne ne]
  exact h
/-- the heap behind a change of an object that the entry does not know -/
theorem ex_mut {H H' : Hp} {p : Addr} {o : HO} (e : Ex H H') (h : H p = none) : Ex H (upd H' p o) := Ex.mut e h

/-! ### what is new since a heap -/
def fr (H H' : Hp) : Hp := fun b => match H b with
  | none => H' b
  | some _ => none
/-- what is tracked stays tracked -/
def Dm (H H' : Hp) : Prop := ∀ b, H' b = none → H b = none
theorem Dm.refl (H : Hp) : Dm H H := fun _ h => h
theorem Dm.trans {H H1 H2 : Hp} (a : Dm H H1) (b : Dm H1 H2) : Dm H H2 := fun c h => a c (b c h)
theorem dm_ex {H H' : Hp} (e : Ex H H') : Dm H H' := fun _ h => ex_free e h
theorem dm_upd {H H' : Hp} {p : Addr} {o : HO} (d : Dm H H') : Dm H (upd H' p o) := fun b h => by
  by_cases e : b = p
  · rw [e, upd_same] at h
    cases h
  · rw [upd_ne e] at h
    exact d b h
theorem fr_get {H H' : Hp} {a : Addr} {o : HO} (n : H a = none) (h : H' a = some o) : fr H H' a = some o := by
  unfold fr
  rw [n]
  exact h
theorem fr_some {H H' : Hp} {a : Addr} {o : HO} (h : fr H H' a = some o) : H a = none ∧ H' a = some o := by
  unfold fr at h
  cases e : H a with
  | none =>
    rw [e] at h
    exact ⟨rfl, h⟩
  | some u =>
    rw [e] at h
    cases h
theorem fr_sub {H H' : Hp} : Ex (fr H H') H' := fun _ _ h => (fr_some h).2
theorem fr_mono {H H' H'' : Hp} (e : Ex H' H'') : Ex (fr H H') (fr H H'') := fun _ _ h => fr_get (fr_some h).1 (e _ _ (fr_some h).2)
theorem fr_base {H0 H H' : Hp} (d : Dm H0 H) : Ex (fr H H') (fr H0 H') := fun _ _ h => fr_get (d _ (fr_some h).1) (fr_some h).2
theorem fr_upd {H H' : Hp} {p : Addr} {o u : HO} (h : H p = some u) : Ex (fr H H') (fr H (upd H' p o)) := fun a v q => by
  obtain ⟨n, q⟩ := fr_some q
  refine fr_get n ?_
  rw [upd_ne (fun e => by rw [e, h] at n; cases n)]
  exact q
theorem fr_all {H H' : Hp} (e : Ex H H') {a : Addr} {o : HO} (h : H' a = some o) (ne : H a = none) : fr H H' a = some o := fr_get ne h
theorem fr_del {H H' : Hp} {p : Addr} {u : HO} (h : H p = some u) : Ex (fr H H') (del H' p) := fun a v q => by
  obtain ⟨n, q⟩ := fr_some q
  exact del_get q (fun e => by rw [e, h] at n; cases n)

/-! ### what an object is told to be may change while it stands -/
section
variable {X : Cx} {pins : List (Addr × Obj)} {σ : L2.St} {H : Hp} {s : Shared} {p : Addr} {o : HO}
theorem inv_recast (I : L2.Inv X pins σ H s) (mu : Mut (H p)) (ob : ObjOk X.prog X.w (upd H p o) s.heap p o) : L2.Inv X pins σ (upd H p o) s := by
  have hex : ∃ u, s.heap.get? p = some u := by
    cases e : H p with
    | none => rw [e] at mu; exact mu.elim
    | some u =>
      have x := I.hok p u e
      cases u with
      | lst xs => obtain ⟨_, _, _, _, e⟩ := x; exact ⟨_, e⟩
      | dK kvs => obtain ⟨_, _, _, _, o, _, _, e, _⟩ := x; exact ⟨_, e⟩
      | dT kvs => obtain ⟨_, _, _, _, o, _, _, e, _⟩ := x; exact ⟨_, e⟩
      | set S n => obtain ⟨o, _, _, _, e, _⟩ := x; exact ⟨_, e⟩
      | ins C dx fs => obtain ⟨_, _, _, e, _⟩ := x; exact ⟨_, e⟩
      | ext φ => obtain ⟨_, ⟨o, e⟩, _⟩ := x; exact ⟨_, e⟩
      | _ => rw [e] at mu; exact mu.elim
  exact I.write (t' := s.toks) (x := p) (e := p) (o := o) mu (.inl rfl) (fun b u _ h => h) hex ob
end

/-! ### the pool of draws: a list of two ints, told by its bounds alone -/
def poolO (p : Addr) : HO := .ext fun h => ∃ (a b : Int) (ta tb : Tok) (n : Nat), 0 ≤ a ∧ 0 ≤ b ∧ b < 2147483647 ∧ h.get? p = some { cls := .type "list", data := .seq #[.int a ta, .int b tb] n }
def Pool (H : Hp) (p : Addr) : Prop := H p = some (poolO p)
theorem Pool.ex {H H' : Hp} {p : Addr} (h : Pool H p) (e : Ex H H') : Pool H' p := e _ _ h
section
variable {P : Program} {w : World} {H H' : Hp} {h : Heap} {p : Addr}
theorem pool_open (x : HOk P w H h) (hp : Pool H p) : ∃ a b : Int, 0 ≤ a ∧ 0 ≤ b ∧ b < 2147483647 ∧ ObjOk P w H' h p (.lst [.int a, .int b]) := by
  have q : ObjOk P w H h p (.ext fun h => ∃ (a b : Int) (ta tb : Tok) (n : Nat), 0 ≤ a ∧ 0 ≤ b ∧ b < 2147483647 ∧ h.get? p = some { cls := .type "list", data := .seq #[.int a ta, .int b tb] n }) := x p _ hp
  obtain ⟨⟨a, b, ta, tb, n, h0, h1, h2, e⟩, _, _⟩ := q
  exact ⟨a, b, h0, h1, h2, szl (by show 2 ≤ 100000; decide), [.int a ta, .int b tb], n, .cons ⟨ta, rfl⟩ (.cons ⟨tb, rfl⟩ .nil), e⟩
theorem pool_shut {a b : Int} (x : ObjOk P w H h p (.lst [.int a, .int b])) (h0 : 0 ≤ a) (h1 : 0 ≤ b) (h2 : b < 2147483647) : ObjOk P w H' h p (poolO p) := by
  obtain ⟨_, its, n, r, e⟩ := x
  cases r with
  | cons r1 r =>
    cases r with
    | cons r2 r =>
      cases r
      obtain ⟨ta, rfl⟩ := r1
      obtain ⟨tb, rfl⟩ := r2
      exact ⟨⟨a, b, ta, tb, n, h0, h1, h2, e⟩, ⟨_, e⟩, fun g1 g2 z k => by
        obtain ⟨a, b, ta, tb, n, q0, q1, q2, q⟩ := z
        exact ⟨a, b, ta, tb, n, q0, q1, q2, k _ q⟩⟩
end
/-- a body in which the pool is looked into and put back at a return -/
def tFocus (t : TS) : TS := fun D σ H => ∃ p, Pool H p ∧ ∀ a b : Int, 0 ≤ a → 0 ≤ b → b < 2147483647 →
  t { nx := fun _ _ => False, rt := fun v H' => ∃ a' b' : Int, H' p = some (.lst [.int a', .int b']) ∧ 0 ≤ a' ∧ 0 ≤ b' ∧ b' < 2147483647 ∧ D.rt v (upd H' p (poolO p)) } σ (upd H p (.lst [.int a, .int b]))
/-- return of a new pool -/
def tRetPool (te : TE) : TS := fun D σ H => te σ H fun v H' => ∃ (p : Addr) (a b : Int), v = .ref p ∧ H' p = some (.lst [.int a, .int b]) ∧ 0 ≤ a ∧ 0 ≤ b ∧ b < 2147483647 ∧ D.rt v (upd H' p (poolO p))
section
variable {X : Cx}
theorem pss_focus {body : List Stmt} {t : TS} (h : PSs X body t) : PSs X body (tFocus t) := by
  refine ⟨fun pins s σ H D I ht => ?_⟩
  obtain ⟨p, hp, k⟩ := ht
  obtain ⟨a, b, h0, h1, h2, ob⟩ : ∃ a b : Int, 0 ≤ a ∧ 0 ≤ b ∧ b < 2147483647 ∧ ObjOk X.prog X.w (upd H p (.lst [.int a, .int b])) s.heap p (.lst [.int a, .int b]) := by
    obtain ⟨a, b, h0, h1, h2, ob⟩ := pool_open (H' := H) I.hok hp
    exact ⟨a, b, h0, h1, h2, ob⟩
  have mu : Mut (H p) := by
    rw [show H p = some (poolO p) from hp]
    exact True.intro
  have J := inv_recast I mu ob
  refine thn (h.run pins s σ _ _ J (k a b h0 h1 h2)) fun f s' q => ?_
  cases f with
  | ret u =>
    obtain ⟨v, σ', H', I', r, a', b', e, g0, g1, g2, hD⟩ := q
    have mu' : Mut (H' p) := by
      rw [e]
      exact True.intro
    exact ⟨v, σ', _, inv_recast I' mu' (pool_shut (I'.hok p _ e) g0 g1 g2), r, hD⟩
  | next =>
    obtain ⟨_, _, _, q⟩ := q
    exact q.elim
  | brk =>
    obtain ⟨_, _, _, q⟩ := q
    exact q.elim
  | cont =>
    obtain ⟨_, _, _, q⟩ := q
    exact q.elim
theorem ps_retPool {e : Expr} {te : TE} {pos : Pos} (he : PE X e te) : PS X (.Return (some e) pos) (tRetPool te) := by
  refine ⟨fun pins s σ H D I h => ?_⟩
  refine wpAny_Return_some (thn (he.run pins s σ H _ I h) fun v s1 ⟨x, H1, I1, r1, p, a, b, ev, e, g0, g1, g2, hD⟩ => ?_)
  have mu' : Mut (H1 p) := by
    rw [e]
    exact True.intro
  exact ⟨x, σ, _, inv_recast I1 mu' (pool_shut (I1.hok p _ e) g0 g1 g2), r1, hD⟩
end

/-! ### the rules that speak of the written part, K told (for comprehensions) -/
section
variable {X : Cx}
theorem ixl (K : PySem.W.Frag) (h : X.K = K := by rfl) : IxR X (rIxL K) := by
  subst h
  exact ix_list
theorem ixt (K : PySem.W.Frag) (h : X.K = K := by rfl) : IxR X (rIxT K) := by
  subst h
  exact ix_tup
theorem inq (K : PySem.W.Frag) (h : X.K = K := by rfl) : OpR X (compareOp .In) (rIn K false) := by
  subst h
  exact op_in_seq
theorem ninq (K : PySem.W.Frag) (h : X.K = K := by rfl) : OpR X (compareOp .NotIn) (rIn K true) := by
  subst h
  exact op_notIn_seq
def rLn (K : PySem.W.Frag) : List V → Hp → VK → Prop := fun xs H Q => ∃ x n, xs = [x] ∧ LenV K x H n ∧ Q (.int n) H
theorem lnK (K : PySem.W.Frag) (h : X.K = K := by rfl) : CallR X (.builtin "len") (rLn K) := by
  subst h
  exact call_len
theorem isiK (K : PySem.W.Frag) (h : X.K = K := by rfl) : CallR X (.builtin "isinstance") (rIsi K) := by
  subst h
  exact call_isi
theorem isiTK (K : PySem.W.Frag) (h : X.K = K := by rfl) : CallR X (.builtin "isinstance") (rIsiT K) := by
  subst h
  exact call_isiT
def rLof (K : PySem.W.Frag) : List V → Hp → VK → Prop := fun xs H Q => ∃ p ys, xs = [.ref p] ∧ (SqL K H p ys ∨ SqT K H p ys) ∧ ∀ l, H l = none → Q (.ref l) (upd H l (.lst ys))
theorem lofK (K : PySem.W.Frag) (h : X.K = K := by rfl) : CallR X (.type "list") (rLof K) := by
  subst h
  exact call_list_of
theorem allK (K : PySem.W.Frag) (hc : X.calm = true) (h : X.K = K := by rfl) : CallR X (.builtin "all") (rAll K) := by
  subst h
  exact cr_all hc
theorem pgt {pos : Pos} {es : List Expr} {k : Nat} {t : TGs} {n : Nat} (K : PySem.W.Frag) (hc : X.calm = true) (h : PGs X es t) (e : X.K = K := by rfl)
    (hn : (assignEach es X.env).length = n := by rfl) (hst : (assignEach es X.env).findIdx? (·.1) = none := by rfl) : PG X (.Tuple es k pos) (gTup K n t) := by
  subst e
  exact pg_tup hc h hn hst
theorem pfl {e : Expr} {ta : TE} {f : Str} {pos : Pos} (K : PySem.W.Frag) (he : PE X e ta) (hb : attributeBase e f X.env (eval e X.env) = eval e X.env) (h : X.K = K := by rfl) : PE X (.Attribute e f pos) (tFld K ta f) := by
  subst h
  exact pe_fld he hb
theorem pil {tg l : Expr} {tl : TE} (K : PySem.W.Frag) (hl : PE X l tl) (h : X.K = K := by rfl) : PI X tg l (iList K tl) := by
  subst h
  exact pi_list hl
theorem pit {tg l : Expr} {tl : TE} (K : PySem.W.Frag) (hl : PE X l tl) (h : X.K = K := by rfl) : PI X tg l (iTup K tl) := by
  subst h
  exact pi_tup hl
theorem eqDK (K : PySem.W.Frag) (hu : X.A.units + 64 < cLine) (h : X.K = K := by rfl) : OpR X (compareOp .Eq) (rEqD K) := by
  subst h
  exact op_eqD hu
theorem neDK (K : PySem.W.Frag) (hu : X.A.units + 64 < cLine) (h : X.K = K := by rfl) : OpR X (compareOp .NotEq) (rNeD K) := by
  subst h
  exact op_neD hu
theorem slK (K : PySem.W.Frag) (h : X.K = K := by rfl) : SlR X (rSlL K) := by
  subst h
  exact sl_list
theorem units65 {A : Around} {k : Nat} (hr : Room k A) : A.units + 65 < cLine := by
  have := hr.un
  omega
end
/-! ### defs by name -/
structure Cal (P : Program) (w : World) (K : PySem.W.Frag) (mg : Str → Option Value) (base : Heap) (CX : CXT) (k : Nat) (x : Str) (sp : Sp) : Prop where
  ex : ∃ (f : Addr) (fd : FuncData) (ps : List Str), FnOk P w K mg base CX k f fd ps sp ∧ mg x = some (.ref f) ∧ PySem.W.keepIn K (.ref f) = true ∧ Binds K fd ps []
abbrev FnP (K : PySem.W.Frag) (x : Str) (st : Stmt) (f : Addr) (fd : FuncData) : Prop := FunD K x x (defArgs st) (defBody st) (defScope st) [] [] f fd
/-- a def of the module -/
structure Df (K : PySem.W.Frag) (mg : Str → Option Value) (x : Str) (st : Stmt) : Prop where
  ex : ∃ (f : Addr) (fd : FuncData), FnP K x st f fd ∧ mg x = some (.ref f)
def BindsEq (x : Str) (st : Stmt) (ps : List Str) : Prop := ∀ (kV doc pm : Value) (an : Option Addr) (cdv ct : Value) (us : List Value), us.length = ps.length →
  bindArgs (PySem.W.fnOf x x (defArgs st) (defBody st) (defScope st) .none kV doc pm an cdv ct) ⟨us, []⟩ = pure (ps.zip us)
section
variable {P : Program} {w : World} {K : PySem.W.Frag} {mg : Str → Option Value} {base : Heap}
theorem cal0 {x : Str} {st : Stmt} {N ps : List Str} {k : Nat} {sp : Sp} (F : Df K mg x st) (S : FnScope N ps (defScope st)) (hb : BindsEq x st ps) (len : ∀ vs H Q E, sp vs H Q E → vs.length = ps.length)
    (hbody : ∀ (f : Addr) (cdv : Value) (A : Around) (outer : List Env) (s : Shared) (H : Hp) (vs : List V) (Q : VK) (E : XK), Room k (A.deeper (envOfC x (defScope st) s.heap.objs.size f cdv)) → sp vs H Q E →
      ∃ t, PSs (cxOf CX0 P w K mg base N x (defScope st) f cdv A outer s H E).nox (defBody st) t ∧ t { nx := fun _ H' => Q .non H', rt := Q } (start N vs) H) : Cal P w K mg base CX0 (k + 1) x sp := by
  obtain ⟨f, fd, F, hm⟩ := F.ex
  exact ⟨f, fd, ps, F.ok S len (fun cdv A outer s H vs Q E hr h => by
    obtain ⟨t, h1, h2⟩ := hbody f cdv A outer s H vs Q E hr h
    exact ⟨t, h1.nox, h2⟩), hm, F.kp, F.bindsN hb⟩
theorem calX {x : Str} {st : Stmt} {N ps : List Str} {k : Nat} {sp : Sp} (F : Df K mg x st) (S : FnScope N ps (defScope st)) (hb : BindsEq x st ps) (len : ∀ vs H Q E, sp vs H Q E → vs.length = ps.length)
    (hbody : ∀ (f : Addr) (cdv : Value) (A : Around) (outer : List Env) (s : Shared) (H : Hp) (vs : List V) (Q : VK) (E : XK), Room k (A.deeper (envOfC x (defScope st) s.heap.objs.size f cdv)) → sp vs H Q E →
      ∃ t, PSs (cxOf (L2.CX P w) P w K mg base N x (defScope st) f cdv A outer s H E) (defBody st) t ∧ t { nx := fun _ H' => Q .non H', rt := Q } (start N vs) H) : Cal P w K mg base (L2.CX P w) (k + 1) x sp := by
  obtain ⟨f, fd, F, hm⟩ := F.ex
  exact ⟨f, fd, ps, F.ok S len (fun cdv A outer s H vs Q E hr h => hbody f cdv A outer s H vs Q E hr h), hm, F.kp, F.bindsN hb⟩
end
section
variable {X : Cx} {k j : Nat} {x : Str} {sp : Sp} {p pos : Pos} {e : Expr} {es : List Expr} {t : TA}
theorem pe_k (c : Cal X.prog X.w X.K X.mg X.base CX0 k x sp) (hr : Room j X.A) (hk : k ≤ j) (hg : Gl X x) (ha : PA X (e :: es) t)
    (hdb : (x == ("__debug__" : Str)) = false := by decide) (he : starEach (e :: es) X.env = (false, eval e X.env) :: starEach es X.env := by rfl) (hpl : (backTo pos (starEach es X.env)).any (·.1) = false := by rfl) :
    PE X (.Call (.Name x p) (e :: es) [] pos) (tCall sp [] E0 t) := by
  obtain ⟨f, fd, ps, F, hm, kp, b⟩ := c.ex
  exact pe_call F (hr.mono hk) hg hm kp b .nil pass0 ha hdb he hpl
end
end LW

namespace LW
open PySem PySem.Spec L2
open Evl (Ex)
/-! ### exception classes of the program, with an __init__ of their own -/
def oexB (K : PySem.W.Frag) (C : Addr) : Bool := (match K.lookup C with
  | some ⟨.type "type", _, .cls cd, sl⟩ => (match cd.mro, sl.toList with
    | .ref C' :: bm, [_, _, _, _, some (.builtin n), _] => C' == C && n == "ValueError.__new__" && !cd.hasDel && PySem.HandSPX.refsVE bm && cd.hasDict
    | _, _ => false)
  | _ => false) && (He.eqO (PySem.W.findIn K (.ref C) "__setattr__") (some (some (.builtin "object.__setattr__"))) && (decide (PySem.W.subIn K (.ref C) (.type "BaseException") = some true) && (decide (PySem.W.typeIn K (.ref C) = some (.type "type")) && PySem.W.keepIn K (.ref C))))
theorem oexB_ok {K : PySem.W.Frag} {C : Addr} (h : oexB K C = true) : OexC K C := by
  obtain ⟨q, h⟩ := He.ba h
  obtain ⟨h1, h⟩ := He.ba h
  obtain ⟨h2, h⟩ := He.ba h
  obtain ⟨h3, h4⟩ := He.ba h
  refine ⟨?_, He.eqO_ok h1, of_decide_eq_true h2, of_decide_eq_true h3, h4⟩
  split at q
  · rename_i dd cd sl ho
    split at q
    · rename_i C' bm k0 k1 k2 k3 n k5 hm hs
      simp only [Bool.and_eq_true, beq_iff_eq, Bool.not_eq_true'] at q
      obtain ⟨⟨⟨⟨rfl, rfl⟩, hdel⟩, ht⟩, hdd⟩ := q
      obtain ⟨nm, bs, mro, ns, qn, hd, sn, sub, ab, col, del⟩ := cd
      dsimp only at hm hdel hdd
      subst hm hdel hdd
      have hsl : sl = #[k0, k1, k2, k3, some (.builtin "ValueError.__new__"), k5] := by
        obtain ⟨l⟩ := sl
        simp only at hs
        rw [hs]
      subst hsl
      exact ⟨nm, qn, ns, bs, bm, sn, sub, ab, col, dd, k0, k1, k2, k3, k5, ho, ht⟩
    · cases q
  · cases q
def excB (K : PySem.W.Frag) (D : Addr) : Bool := xfB K D && (He.eqO (PySem.W.findIn K (.ref D) "__class__") (some (some (.builtin "object.__class__"))) && (He.eqO (PySem.W.specialIn K (.builtin "object.__class__") "__get__") (some (some (.builtin "getset_descriptor.__get__"))) &&
  (decide (PySem.W.takesIn K (.builtin "object.__class__") = some true) && (decide (PySem.W.mroIn K D (.type "object") = some true) && (PySem.W.clsIn K D).isSome))))
structure ExcD (K : PySem.W.Frag) (D : Addr) : Prop where
  xf : XfC K D
  ha : PySem.W.findIn K (.ref D) "__class__" = some (some (.builtin "object.__class__"))
  hn : PySem.W.specialIn K (.builtin "object.__class__") "__get__" = some (some (.builtin "getset_descriptor.__get__"))
  ht : PySem.W.takesIn K (.builtin "object.__class__") = some true
  hm : PySem.W.mroIn K D (.type "object") = some true
  hc : (PySem.W.clsIn K D).isSome = true
theorem excB_ok {K : PySem.W.Frag} {D : Addr} (h : excB K D = true) : ExcD K D := by
  obtain ⟨h1, h⟩ := He.ba h
  obtain ⟨h2, h⟩ := He.ba h
  obtain ⟨h3, h⟩ := He.ba h
  obtain ⟨h4, h⟩ := He.ba h
  obtain ⟨h5, h6⟩ := He.ba h
  exact ⟨xfB_ok h1, He.eqO_ok h2, He.eqO_ok h3, of_decide_eq_true h4, of_decide_eq_true h5, h6⟩
/-- isinstance(e, c), e the exception that the suite holds (with a dict of its own or without) -/
def rIsX (K : PySem.W.Frag) (cls : Value) (d : Option Addr) (a : Addr) : List V → Hp → VK → Prop := fun xs H Q => ∃ (D : Addr) (c : V) (cv : Value) (b : Bool), xs = [.ref a, c] ∧ cls = .ref D ∧ ExcD K D ∧ (∀ dd, d = some dd → ∃ fs, H dd = some (.xd fs)) ∧ ClsV c cv ∧ PySem.W.kitOne K (.ref D) cv = some b ∧ Q (.bl b) H
theorem call_isX {X : Cx} {a : Addr} {oe : Obj} {cls : Value} {d : Option Addr} {pn : List (Addr × Obj)} (hz : Zc cls d oe) (hf : ∃ vs, oe.data = .fields vs) : CallR (X.suite a ((a, oe) :: pn)) (.builtin "isinstance") (rIsX X.K cls d a) := by
  intro pins s σ H xs us Q I r h
  obtain ⟨D, c, cv, b, rfl, rfl, C, hdd, kc, e, q⟩ := h
  obtain ⟨u1, u2, rfl, r1, r2⟩ := vals2 r
  cases r1
  have ec := kc.eq r2
  subst ec
  obtain ⟨hget, _⟩ := I.pin (a, oe) (List.mem_append.mpr (.inl List.mem_cons_self))
  obtain ⟨vs, hv⟩ := hf
  have J : ∃ od, PySem.W.InstAt s.heap a oe D od := by
    cases d with
    | none => exact ⟨none, hget, hz.1, by unfold PySem.W.notCls; rw [hv] <;> rfl, by rw [hz.2]; trivial⟩
    | some dd =>
      obtain ⟨fs, hfs⟩ := hdd dd rfl
      obtain ⟨mA, hns, _⟩ := (show ObjOk X.prog X.w H s.heap dd (.xd fs) from I.hok dd _ hfs)
      obtain ⟨od, ho, _⟩ := lookIn_ns hns
      exact ⟨some od, hget, hz.1, by unfold PySem.W.notCls; rw [hv] <;> rfl, by rw [hz.2]; exact ho⟩
  obtain ⟨od, J⟩ := J
  exact PySem.W.kia_one (PySem.W.kitx_exc C.hc C.xf.ga C.xf.gg C.xf.exC C.ha C.hn C.ht C.hm) I.kIn J e (fun z => nomatch z) fun tk => ⟨.bl b, H, I.kept (t' := tk) fun _ _ z => z, rfl, q⟩
/-- e.f in the suite, K told, the class found at the reading -/
def tXg (K : PySem.W.Frag) (a : Addr) (cls : Value) (d : Option Addr) (f : Str) (te : TE) : TE := fun σ H Q => te σ H fun x H1 => x = .ref a ∧ ∃ (C dd : Addr) (fs : List (Str × V)) (v : V), cls = .ref C ∧ XfC K C ∧ PySem.W.findIn K (.ref C) f = some none ∧ d = some dd ∧ H1 dd = some (.xd fs) ∧ fs.lookup f = some v ∧ Q v H1
theorem pe_xg {X : Cx} {a : Addr} {oe : Obj} {cls : Value} {d : Option Addr} {pn : List (Addr × Obj)} {e : Expr} {te : TE} {pos : Pos} {n : Str}
    (hz : Zc cls d oe) (hf : ∃ vs, oe.data = .fields vs) (he : PE (X.suite a ((a, oe) :: pn)) e te) (hb : attributeBase e n X.env (eval e X.env) = eval e X.env := by rfl) :
    PE (X.suite a ((a, oe) :: pn)) (.Attribute e n pos) (tXg X.K a cls d n te) := by
  refine ⟨fun pins s σ H Q I h => ?_⟩
  have h' : ∃ C, te σ H fun x H1 => x = .ref a ∧ ∃ (C dd : Addr) (fs : List (Str × V)) (v : V), cls = .ref C ∧ XfC X.K C ∧ PySem.W.findIn X.K (.ref C) n = some none ∧ d = some dd ∧ H1 dd = some (.xd fs) ∧ fs.lookup n = some v ∧ Q v H1 := ⟨a, h⟩
  refine attr_of hb (thn (he.run pins s σ H _ I h) fun u s1 hh => ?_)
  obtain ⟨x, H1, I1, rx, ex, C, dd, fs, v, ec, T, hno, ed, ea, l, q⟩ := hh
  subst ex
  obtain rfl : u = Value.ref a := rx
  subst ec
  subst ed
  obtain ⟨ha, _⟩ := I1.pin (a, oe) (List.mem_append_left _ List.mem_cons_self)
  obtain ⟨vs, hd⟩ := hf
  have hx : ObjOk X.prog X.w H1 s1.heap dd (.xd fs) := I1.hok dd _ ea
  obtain ⟨mA, hns, hr⟩ := hx
  obtain ⟨od, ho, hl⟩ := lookIn_ns hns
  obtain ⟨u, hu, ru⟩ := RelO.some_of (v := v) (o := mA n) (by rw [← l]; exact hr n)
  have J : PySem.W.InstAt s1.heap a oe C (some od) := ⟨ha, hz.1, by unfold PySem.W.notCls; rw [hd] <;> rfl, by rw [hz.2]; exact ho⟩
  exact HandSPX.exc_get I1.kIn J T.ga T.gg T.exC (PySem.W.findObj_own T.hdC hno rfl (by rw [hl, hu])) (handed_of ru) ⟨v, H1, I1.tok _, ru, q⟩
/-! ### __init__ of such a class: self.f = f, one field -/
structure XCl (K : PySem.W.Frag) (mg : Str → Option Value) (x : Str) (C : Addr) : Prop where
  gC : mg x = some (.ref C)
  ox : OexC K C
  xd : ExcD K C
/-- what __init__ promises: the new exception at a gets its dict -/
def spXI (K : PySem.W.Frag) (C : Addr) (f : Str) : Sp := fun vs H Q _ => ∃ (a : Addr) (v : V), vs = [.ref a, v] ∧ H a = some (exo a C none) ∧ ∀ dx, H dx = none → dx ≠ a → Q .non (upd (upd H dx (exd dx [(f, v)])) a (exo a C (some dx)))
/-- the class's maker -/
structure XMk (P : Program) (w : World) (K : PySem.W.Frag) (mg : Str → Option Value) (base : Heap) (k : Nat) (x : Str) (C : Addr) (f : Str) : Prop where
  cl : XCl K mg x C
  ex : ∃ (fI : Addr) (fd : FuncData) (ps : List Str), PySem.W.findIn K (.ref C) "__init__" = some (some (.ref fI)) ∧ PySem.W.typeIn K (.ref fI) = some (.type "function") ∧ FnOk P w K mg base CX0 k fI fd ps (spXI K C f) ∧ Binds K fd ps []
  no : PySem.W.findIn K (.ref C) f = some none
section
variable {X : Cx} {k j : Nat} {C : Addr} {x f : Str} {e : Expr} {ta : TA} {p pos pos2 : Pos}
theorem pmk_x (M : XMk X.prog X.w X.K X.mg X.base k x C f) (hr : Room j X.A) (hj : k + 1 ≤ j) (hg : Gl X x) (ha : PA X [e] ta) (hdb : (x == ("__debug__" : Str)) = false := by decide)
    (he : starEach [e] X.env = (false, eval e X.env) :: starEach [] X.env := by rfl) (hpl : (backTo pos (starEach [] X.env)).any (·.1) = false := by rfl) : PMk X (.Call (.Name x p) [e] [] pos) (tMkO C (spXI X.K C f) [] ta) := by
  obtain ⟨fI, fd, ps, iC, tI, F1, hb⟩ := M.ex
  exact pmk_oex M.cl.ox iC tI F1 (hr.mono hj) hb .nil (pass0) hg M.cl.gC ha hdb he hpl
end
/-- what the making leaves: a new dict with the field -/
theorem xmk_go {K : PySem.W.Frag} {C : Addr} {f : Str} {v : V} {H1 : Hp} {Q : XK} (h : ∀ d H2, H1 d = none → Ex H1 H2 → H2 d = some (.xd [(f, v)]) → Q (.ref C) (some d) H2) :
    [v].length ≤ 1000 ∧ ∀ a, H1 a = none → spXI K C f (.ref a :: ([v] ++ [])) (upd H1 a (exo a C none)) (fun v' H2 => v' = .non ∧ ∃ (d : Addr) (fs : List (Str × V)), H2 a = some (exo a C (some d)) ∧ H2 d = some (exd d fs) ∧ H1 d = none ∧ Q (.ref C) (some d) (upd (del H2 a) d (.xd fs))) (fun _ _ _ => False) := by
  refine ⟨by show 1 ≤ 1000; decide, fun a na => ⟨a, v, rfl, upd_same, fun dx ndx ne => ?_⟩⟩
  rw [upd_ne ne] at ndx
  refine ⟨rfl, dx, [(f, v)], upd_same, by rw [upd_ne ne, upd_same], ndx, h dx _ ndx (fun b o q => ?_) upd_same⟩
  have hb : b ≠ a := ne_of_none q na
  rw [upd_ne (ne_of_none q ndx), del_ne hb, upd_ne hb, upd_ne (ne_of_none q ndx), upd_ne hb]
  exact q
/-! ### methods of a class -/
structure Mt (P : Program) (w : World) (K : PySem.W.Frag) (mg : Str → Option Value) (base : Heap) (CX : CXT) (k : Nat) (C : Addr) (m : Str) (sp : Sp) : Prop where
  ex : ∃ (g : Addr) (fd : FuncData) (ps : List Str), Cls K C ∧ Meth K C m g ∧ FnOk P w K mg base CX k g fd ps sp ∧ Binds K fd ps []
/-- a method as the top leaves it -/
structure Dm_ (K : PySem.W.Frag) (C : Addr) (m qual : Str) (st : Stmt) : Prop where
  ex : ∃ (g : Addr) (fd : FuncData), FunD K m qual (defArgs st) (defBody st) (defScope st) [] [] g fd ∧ Meth K C m g
def BindsM (m qual : Str) (st : Stmt) (ps : List Str) : Prop := ∀ (kV doc pm : Value) (an : Option Addr) (cdv ct : Value) (us : List Value), us.length = ps.length →
  bindArgs (PySem.W.fnOf m qual (defArgs st) (defBody st) (defScope st) .none kV doc pm an cdv ct) ⟨us, []⟩ = pure (ps.zip us)
section
variable {P : Program} {w : World} {K : PySem.W.Frag} {mg : Str → Option Value} {base : Heap} {C : Addr} {m qual : Str} {st : Stmt} {N ps : List Str} {k : Nat} {sp : Sp}
theorem mt0 (c : Cls K C) (F : Dm_ K C m qual st) (S : FnScope N ps (defScope st)) (hb : BindsM m qual st ps) (len : ∀ vs H Q E, sp vs H Q E → vs.length = ps.length)
    (hbody : ∀ (f : Addr) (cdv : Value) (A : Around) (outer : List Env) (s : Shared) (H : Hp) (vs : List V) (Q : VK) (E : XK), Room k (A.deeper (PyProof.Rows.envOfC qual (defScope st) s.heap.objs.size f cdv)) → sp vs H Q E →
      ∃ t, PSs (cxOf CX0 P w K mg base N qual (defScope st) f cdv A outer s H E).nox (defBody st) t ∧ t { nx := fun _ H' => Q .non H', rt := Q } (start N vs) H) : Mt P w K mg base CX0 (k + 1) C m sp := by
  obtain ⟨g, fd, F, hm⟩ := F.ex
  exact ⟨g, fd, ps, c, hm, F.ok S len (fun cdv A outer s H vs Q E hr h => by
    obtain ⟨t, h1, h2⟩ := hbody g cdv A outer s H vs Q E hr h
    exact ⟨t, h1.nox, h2⟩), F.bindsN hb⟩
theorem mtX (c : Cls K C) (F : Dm_ K C m qual st) (S : FnScope N ps (defScope st)) (hb : BindsM m qual st ps) (len : ∀ vs H Q E, sp vs H Q E → vs.length = ps.length)
    (hbody : ∀ (f : Addr) (cdv : Value) (A : Around) (outer : List Env) (s : Shared) (H : Hp) (vs : List V) (Q : VK) (E : XK), Room k (A.deeper (PyProof.Rows.envOfC qual (defScope st) s.heap.objs.size f cdv)) → sp vs H Q E →
      ∃ t, PSs (cxOf (L2.CX P w) P w K mg base N qual (defScope st) f cdv A outer s H E) (defBody st) t ∧ t { nx := fun _ H' => Q .non H', rt := Q } (start N vs) H) : Mt P w K mg base (L2.CX P w) (k + 1) C m sp := by
  obtain ⟨g, fd, F, hm⟩ := F.ex
  exact ⟨g, fd, ps, c, hm, F.ok S len (fun cdv A outer s H vs Q E hr h => hbody g cdv A outer s H vs Q E hr h), F.bindsN hb⟩
/-- X(e): an instance, its __init__ by the promise sp -/
structure Mkr (P : Program) (w : World) (K : PySem.W.Frag) (mg : Str → Option Value) (base : Heap) (CX : CXT) (k : Nat) (x : Str) (C : Addr) (sp : Sp) : Prop where
  ex : ∃ (f : Addr) (fd : FuncData) (ps : List Str), Mk K C f ∧ FnOk P w K mg base CX k f fd ps sp ∧ mg x = some (.ref C) ∧ Binds K fd ps []
end
section
variable {X : Cx} {CX : CXT} {k j : Nat} {C : Addr} {m x : Str} {sp : Sp} {E : XK} {o e : Expr} {es : List Expr} {to : TE} {t : TA} {p apos pos : Pos} {pl : Sem Bool}
/-- o.m(e, ..), what is raised passing as E -/
theorem pe_mx (c : Mt X.prog X.w X.K X.mg X.base CX k C m sp) (hr : Room j X.A) (hk : k ≤ j) (hx : Passes CX X E) (he : PE X o to) (ha : PA X (e :: es) t)
    (hst : starEach (e :: es) X.env = (false, eval e X.env) :: starEach es X.env := by rfl) (hpl : (backTo pos (starEach es X.env)).any (·.1) = false := by rfl)
    (ht : eval (.Call (.Attribute o m apos) (e :: es) [] pos) X.env = (do
      let ov ← eval o X.env
      standAt apos.atName
      let (f, first) ← holding [ov] (getMethod ov m pl)
      callWith pos f first (backTo pos (starEach (e :: es) X.env)) (backToKw pos (keywordEach [] X.env))) := by rfl) :
    PE X (.Call (.Attribute o m apos) (e :: es) [] pos) (tMeth C m sp [] E to t) := by
  obtain ⟨g, fd, ps, cl, hm, F, b⟩ := c.ex
  exact pe_meth (pl := pl) he cl hm F (hr.mono hk) b .nil hx ha hst hpl ht
theorem pe_mkr (c : Mkr X.prog X.w X.K X.mg X.base CX k x C sp) (hr : Room j X.A) (hk : k + 1 ≤ j) (hx : Passes CX X E) (hg : Gl X x) (ha : PA X (e :: es) t)
    (hdb : (x == ("__debug__" : Str)) = false := by decide) (he : starEach (e :: es) X.env = (false, eval e X.env) :: starEach es X.env := by rfl) (hpl : (backTo pos (starEach es X.env)).any (·.1) = false := by rfl) :
    PE X (.Call (.Name x p) (e :: es) [] pos) (tMake C sp [] E t) := by
  obtain ⟨f, fd, ps, M, F, hm, b⟩ := c.ex
  exact pe_make M F (hr.mono hk) hg hm b .nil hx ha hdb he hpl
/-- f(e, ..), what is raised wished for at the slots -/
theorem pe_kS {W : WX} (c : Cal X.prog X.w X.K X.mg X.base (L2.CX X.prog X.w) k x sp) (hr : Room j X.A) (hk : k ≤ j) (tk : Takes X W) (hg : Gl X x) (ha : PA X (e :: es) t)
    (hdb : (x == ("__debug__" : Str)) = false := by decide) (he : starEach (e :: es) X.env = (false, eval e X.env) :: starEach es X.env := by rfl) (hpl : (backTo pos (starEach es X.env)).any (·.1) = false := by rfl) :
    PE X (.Call (.Name x p) (e :: es) [] pos) (tCallS sp (WE W) t) := by
  obtain ⟨f, fd, ps, F, hm, kp, b⟩ := c.ex
  exact pe_callS F (hr.mono hk) hg hm kp b (fun σ => passAt tk σ) ha hdb he hpl
end
end LW

namespace LW
open PySem PySem.Spec PyProof.Rows L2
open Evl (Ex)
/-! ### defs that run where no repr is under way -/
structure FnG (P : Program) (w : World) (K : PySem.W.Frag) (mg : Str → Option Value) (base : Heap) (CX : CXT) (k : Nat) (f : Addr) (fd : FuncData) (ps : List Str) (sp : Sp) : Prop where
  len : ∀ (vs : List V) (H : Hp) (Q : VK) (E : XK), sp vs H Q E → vs.length = ps.length
  go : ∀ (A : Around) (outer : List Env) (s : Shared) (H : Hp) (args : Args) (us : List Value) (vs : List V) (Q : VK) (E : XK), A.guards = some [] → Room k A → Env0 P w K mg base A outer s H → BindsTo s fd args (ps.zip us) →
    Vals vs us → sp vs H Q E → codeAny (model P w) A (.call (.ref f) args) (CR CX outer P w H s Q E) s
section
variable {P : Program} {w : World} {K : PySem.W.Frag} {mg : Str → Option Value} {base : Heap} {x qual : Str} {params : Arguments} {body : List Stmt} {scope : Scope} {dvs : List V} {kws : List (Str × V)} {f : Addr} {fd : FuncData}
theorem FnG.of {CX : CXT} {N ps : List Str} {k : Nat} {sp : Sp} (F : FunD K x qual params body scope dvs kws f fd) (S : FnScope N ps scope) (len : ∀ (vs : List V) (H : Hp) (Q : VK) (E : XK), sp vs H Q E → vs.length = ps.length)
    (hbody : ∀ (cdv : Value) (A : Around) (outer : List Env) (s : Shared) (H : Hp) (vs : List V) (Q : VK) (E : XK), A.guards = some [] → Room k (A.deeper (envOfC qual scope s.heap.objs.size f cdv)) → sp vs H Q E →
      ∃ t, PSs (cxOf CX P w K mg base N qual scope f cdv A outer s H E) body t ∧ t { nx := fun _ H' => Q .non H', rt := Q } (start N vs) H) : FnG P w K mg base CX (k + 1) f fd ps sp := by
  obtain ⟨oc, od, dV, kV, doc, pm, an, cdv, ct, osl, efd, lk, hcd, _, _⟩ := F.ex
  subst efd
  refine ⟨len, ?_⟩
  intro A outer s H args us vs Q E gd hr e0 hb rv hsp
  have kp : ∀ b o, base.get? b = some o → s.heap.get? b = some o := fun b o e => (e0.bs b o e).1
  have KX : K.In s.heap := e0.mod.kin.keeps kp
  have lim : s.heap.NoLimit := e0.mod.nolimit.keeps kp
  have hkind : ∀ y ∈ ps.zip us, scope.names.lookup y.1 = some .local ∨ (scope.names.lookup y.1 = some .cell ∧ ((cellsFrom (s.heap.objs.size + 1) scope.names []).lookup y.1).isSome = true) := by
    rintro ⟨n, v⟩ hy
    rcases S.par n (List.of_mem_zip hy).1 with q | q
    · left
      exact q
    · right
      exact ⟨q, PySem.W.cellsFrom_some _ _ _ (Or.inl q)⟩
  apply codeAny_call_function hr.depth (KX _ _ lk) rfl S.co S.gen rfl (PySem.W.codeRec_of KX hcd)
  apply hb
  refine wpAny_newFunctionEnv_cells S.kind hkind ?_
  rintro env rfl s1 x
  refine ⟨lim.keeps x.toInCall.keep, ?_⟩
  apply codeAny_func
  obtain ⟨t, ht, hq⟩ := hbody cdv A outer s H vs Q E gd (hr.deeper _) hsp
  have I : Inv (cxOf CX P w K mg base N qual scope f cdv A outer s H E) [] (start N vs) H s1 := inv_start S hr.hd e0 (len _ _ _ _ hsp) rv x
  apply wpAny_mono (ht.run [] s1 (start N vs) H _ I hq)
  · intro fl s' hs
    cases fl with
    | ret u =>
      obtain ⟨v, σ', H', J, r1, q⟩ := hs
      exact ⟨v, H', J.os, J.bare, J.base, J.hok, r1, q⟩
    | next =>
      obtain ⟨σ', H', J, q⟩ := hs
      exact ⟨V.non, H', J.os, J.bare, J.base, J.hok, rfl, q⟩
    | brk => exact hs.elim fun _ h => h.elim fun _ h => h.2.elim
    | cont => exact hs.elim fun _ h => h.elim fun _ h => h.2.elim
  · intro e s' hs
    exact hs
end
/-- a def as one that asks for no repr -/
theorem FnG.ofOk {P : Program} {w : World} {K : PySem.W.Frag} {mg : Str → Option Value} {base : Heap} {CX : CXT} {k : Nat} {f : Addr} {fd : FuncData} {ps : List Str} {sp : Sp} (F : FnOk P w K mg base CX k f fd ps sp) : FnG P w K mg base CX k f fd ps sp :=
  ⟨F.len, fun A outer s H args us vs Q E _ hr => F.run A outer s H args us vs Q E hr⟩
structure CalG (P : Program) (w : World) (K : PySem.W.Frag) (mg : Str → Option Value) (base : Heap) (CX : CXT) (k : Nat) (x : Str) (sp : Sp) : Prop where
  ex : ∃ (f : Addr) (fd : FuncData) (ps : List Str), FnG P w K mg base CX k f fd ps sp ∧ mg x = some (.ref f) ∧ PySem.W.keepIn K (.ref f) = true ∧ Binds K fd ps []
section
variable {X : Cx} {k j : Nat} {x : Str} {sp : Sp} {p pos : Pos} {e : Expr} {es : List Expr} {t : TA}
theorem pe_kG (c : CalG X.prog X.w X.K X.mg X.base CX0 k x sp) (gd : X.A.guards = some []) (hr : Room j X.A) (hk : k ≤ j) (hg : Gl X x) (ha : PA X (e :: es) t)
    (hdb : (x == ("__debug__" : Str)) = false := by decide) (he : starEach (e :: es) X.env = (false, eval e X.env) :: starEach es X.env := by rfl) (hpl : (backTo pos (starEach es X.env)).any (·.1) = false := by rfl) :
    PE X (.Call (.Name x p) (e :: es) [] pos) (tCall sp [] E0 t) := by
  obtain ⟨f, fd, ps, F, hm, kp, b⟩ := c.ex
  constructor
  intro pins s σ H Q I h
  apply wpAny_Call_Name_kw
  apply ld_glob I hg hm _ hdb
  refine PySem.W.callWith_K (h₀ := X.base) I.ok.mod.kin kp (thn (ha.run pos pins s σ H _ I h) ?_) he hpl
  rintro us s1 ⟨vs, H1, I1, r, q⟩
  refine ⟨I1.kIn, ?_⟩
  have q' : sp vs H1 Q E0 := by
    have := q
    rwa [List.append_nil] at this
  have hl : us.length = ps.length := by
    rw [← r.length]
    exact F.len _ _ _ _ q'
  have bb := b s1 us I1.kIn (by rw [List.append_nil]; exact hl)
  rw [List.append_nil] at bb
  refine wpAny_call (codeAny_mono (F.go X.A X.stack s1 H1 ⟨us, []⟩ us vs Q E0 gd (hr.mono hk) I1.env0 bb r q') ?_)
  intro fl s' hq
  cases fl with
  | error e => exact pass0 pins σ H1 s1 e s' I1 hq
  | ok fl =>
    cases fl with
    | ret u => exact I1.after hq
    | next => exact hq.elim
    | brk => exact hq.elim
    | cont => exact hq.elim
end
section
variable {P : Program} {w : World} {K : PySem.W.Frag} {mg : Str → Option Value} {base : Heap}
theorem calG {CX : CXT} {x : Str} {st : Stmt} {N ps : List Str} {k : Nat} {sp : Sp} (F : Df K mg x st) (S : FnScope N ps (defScope st)) (hb : BindsEq x st ps) (len : ∀ vs H Q E, sp vs H Q E → vs.length = ps.length)
    (hbody : ∀ (f : Addr) (cdv : Value) (A : Around) (outer : List Env) (s : Shared) (H : Hp) (vs : List V) (Q : VK) (E : XK), A.guards = some [] → Room k (A.deeper (envOfC x (defScope st) s.heap.objs.size f cdv)) → sp vs H Q E →
      ∃ t, PSs (cxOf CX P w K mg base N x (defScope st) f cdv A outer s H E) (defBody st) t ∧ t { nx := fun _ H' => Q .non H', rt := Q } (start N vs) H) : CalG P w K mg base CX (k + 1) x sp := by
  obtain ⟨f, fd, F, hm⟩ := F.ex
  exact ⟨f, fd, ps, FnG.of F S len (fun cdv A outer s H vs Q E gd hr h => hbody f cdv A outer s H vs Q E gd hr h), hm, F.kp, F.bindsN hb⟩
end
end LW

namespace LW
open PySem PySem.Spec PyProof.Rows L2
open Evl (Ex)
/-! ### the law's own call, with sys.modules in the base -/
theorem call_lawG {P : Program} {w : World} {K : PySem.W.Frag} {mg mb : Str → Option Value} {CX : CXT} {k : Nat} {fa a : Addr} {fd : FuncData} {x : Str} {sp : Sp} {s₁ : Shared} {vs : List Value} {ns : List Int}
    (KX : K.In s₁.heap) (hns : s₁.heap.Ns mainGlobals mg) (hb : s₁.heap.Ns builtinsNs mb) (hbb : ∀ x : Str, x ≠ "__name__" → mb x = bootBuiltins x) (hlim : s₁.heap.NoLimit) (hsy : ∃ mm, s₁.heap.Ns sysModules mm) (hg : s₁.gens = #[])
    (ha : s₁.heap.get? a = some { cls := .type "list", data := .seq vs.toArray }) (hi : IntsAre vs ns) (hl : ns.length ≤ sizeLine) (hr : Room k callerA)
    (F : ∀ base : Heap, K.In base → base.Ns mainGlobals mg → (∃ mm, base.Ns sysModules mm) → FnG P w K mg base CX k fa fd [x] sp) (hbind : ∀ (s : Shared) (u : Value), BindsTo s fd ⟨[u], []⟩ [(x, u)])
    (hsp : ∀ H : Hp, Only H → SqL K H a (ns.map V.int) → sp [.ref a] H (fun v _ => v = .bl true) fun _ _ _ => False)
    (hCX : ∀ H e s', CX [] H s₁ (fun _ _ _ => False) e s' → False) :
    codeAny (model P w) callerA (.call (.ref fa) ⟨[.ref a], []⟩) (fun r s' => r = .ok (.ret (.bool true)) ∧ OldK s₁.heap s'.heap ∧ s'.os = s₁.os ∧ AllBare s'.gens) s₁ := by
  have lenV := hi.length
  have core : ∀ H : Hp, Only H → SqL K H a (ns.map V.int) → HOk P w H s₁.heap → (∀ b, H b ≠ none → b = a) → (H a ≠ none → K.lookup a = none) →
      codeAny (model P w) callerA (.call (.ref fa) ⟨[.ref a], []⟩) (fun r s' => r = .ok (.ret (.bool true)) ∧ OldK s₁.heap s'.heap ∧ s'.os = s₁.os ∧ AllBare s'.gens) s₁ := by
    intro H hO hS hok hA hK
    have eqa : ∀ {b : Addr} {u : HO}, H b = some u → b = a := fun {b u} q => hA b (by rw [q]; exact nofun)
    have nsK : ∀ {b : Addr} {m : Str → Option Value}, s₁.heap.Ns b m → (hidT s₁.heap H).Ns b m := by
      rintro b m ⟨o, es, ep, e, d, r⟩
      refine ⟨o, es, ep, hidT_get e ?_, d, r⟩
      cases q : H b with
      | none => rfl
      | some u =>
        cases eqa q
        rw [ha] at e
        cases e
        exact nomatch d
    have hKb : K.In (hidT s₁.heap H) := by
      intro b o e
      refine hidT_get (KX b o e) ?_
      cases q : H b with
      | none => rfl
      | some u =>
        cases eqa q
        rw [hK (by rw [q]; exact nofun)] at e
        cases e
    have hM : Mod K mg (hidT s₁.heap H) := by
      refine ⟨hKb, nsK hns, ⟨mb, nsK hb, hbb⟩, ?_⟩
      obtain ⟨mc, h1, h2⟩ := hlim
      exact ⟨mc, nsK h1, h2⟩
    have hsy' : ∃ mm, (hidT s₁.heap H).Ns sysModules mm := by
      obtain ⟨mm, h1⟩ := hsy
      exact ⟨mm, nsK h1⟩
    have e0 : Env0 P w K mg (hidT s₁.heap H) callerA [] s₁ H := ⟨rfl, hM, fun b o e => of_hidT e, Nat.le_of_eq (hidT_size _ _), trivial, (fun b hb => nomatch (show b ∈ ([] : List Addr) from hb)), hok, .of_eq hg⟩
    refine codeAny_mono ((F _ hKb (nsK hns) hsy').go callerA [] s₁ H ⟨[.ref a], []⟩ [.ref a] [.ref a] _ _ rfl hr e0 (hbind s₁ (.ref a)) (.cons rfl .nil) (hsp H hO hS)) ?_
    intro r s' h
    match r, h with
    | .error e, h => exact (hCX H e s' h).elim
    | .ok .next, h => exact h.elim
    | .ok .brk, h => exact h.elim
    | .ok .cont, h => exact h.elim
    | .ok (.ret u), h =>
      obtain ⟨v, H', os, bare, un, hok', r', q⟩ := h
      cases (show v = .bl true from q)
      cases (show u = Value.bool true from r')
      refine ⟨rfl, OldK.of_keep ?_, os, bare⟩
      intro b o e
      cases q : H b with
      | none => exact un.keep b o e q (fun z => nomatch (show b ∈ ([] : List Addr) from z)) (fun z => nomatch z)
      | some u =>
        rcases hO b with z | ⟨ob, xs, z⟩
        · rw [q] at z
          cases z
        · obtain ⟨e1, _⟩ := hok b _ z
          obtain ⟨e2, _⟩ := hok' b _ (un.frzs b ob _ z)
          rw [e] at e1
          cases e1
          exact e2
  cases hk : K.lookup a with
  | some o =>
    have e := KX a o hk
    rw [ha] at e
    cases e
    refine core (fun _ => none) (fun _ => .inl rfl) (.inr ⟨_, vs.toArray, _, hk, rfl, rfl, rfl, ?_, ?_⟩) (fun b u z => nomatch (show (none : Option HO) = some u from z)) (fun b z => (z rfl).elim) fun z => (z rfl).elim
    · rw [List.size_toArray, lenV]
      exact hl
    · exact vals_ints hi
  | none =>
    refine core (upd (fun _ => none) a (.frz { cls := .type "list", data := .seq vs.toArray } (.lst (ns.map V.int)))) (fun b => ?_) (.inl (.inr ⟨{ cls := .type "list", data := .seq vs.toArray }, upd_same⟩)) (fun b u z => ?_) (fun b z => ?_) fun _ => hk
    · by_cases hb : b = a
      · subst hb
        exact .inr ⟨_, _, upd_same⟩
      · exact .inl (upd_ne hb)
    · by_cases hb : b = a
      · subst hb
        rw [upd_same] at z
        cases z
        exact ⟨ha, by rw [List.length_map]; exact hl, vs, _, vals_ints hi, ha⟩
      · rw [upd_ne hb] at z
        cases z
    · by_cases hb : b = a
      · exact hb
      · exact (z (upd_ne hb)).elim
theorem walkG {l : PySem.W.OpenLaw} {n k : Nat} {q : Program} {loose : List Str} {XP : (Str → Option Value) → Heap → Prop} {YP : World → Heap → Prop} {d : DefRec} {CX : CXT} {x : Str}
    (hn : l.most = some n) (hn2 : n ≤ sizeLine) (hdf : d.params.defaults = []) (hr : Room k callerA) (hi : importsNone q = true)
    (F : ∀ (w : World) (mg : Str → Option Value) (fa : Addr) (h : Heap), YP w h → h.Ns mainGlobals mg → mg d.name = some (.ref fa) →
      ∃ (K : PySem.W.Frag) (fd : FuncData) (sp : Sp), K.In h ∧ (∀ (s : Shared) (u : Value), BindsTo s fd ⟨[u], []⟩ [(x, u)]) ∧
        (∀ (H : Hp) (a : Addr) (ns : List Int), ns.length ≤ n → Only H → SqL K H a (ns.map V.int) → sp [.ref a] H (fun v _ => v = .bl true) fun _ _ _ => False) ∧
        ∀ base : Heap, K.In base → base.Ns mainGlobals mg → (∃ mm, base.Ns sysModules mm) → FnG l.prog w K mg base CX k fa fd [x] sp)
    (hCX : ∀ (H : Hp) (s : Shared) (e : Value) (s' : Shared), CX [] H s (fun _ _ _ => False) e s' → False) :
    PySem.W.WalkO q loose XP YP l.row.toRowW d [] (fun f vs => PySem.call f vs) := by
  apply Att.attach_call hn hdf
  intro w s₀ s₁ mg mb fa o pm cd doc a vs ns G Y ho hd hcd hmg hobj hints hlen hg
  obtain ⟨K, fd, sp, KX, hb, hsp, hF⟩ := F w mg fa _ Y G.T.g hmg
  obtain ⟨mm, hm, _⟩ := (G.T.seer hi).mods
  exact call_lawG KX G.T.g G.T.b G.T.builtins G.T.nolimit ⟨mm, hm⟩ hg hobj hints (Nat.le_trans hlen hn2) hr hF hb (fun H hO hS => hsp H a ns hlen hO hS) fun H e s' => hCX H s₁ e s'
end LW

namespace LW
open PySem PySem.Spec PyProof.Rows L2
open Evl (Ex)
/-! ### data in the tracked heap -/
def kD : Key → PyData
  | .inl i => .int i
  | .inr x => .str x
/-- a dict of one entry, whatever its key -/
def odd1 (a : Addr) (k v : V) : HO := .ext fun h => ∃ (o : Obj) (es : Array DictEntry) (ep : Nat) (e : DictEntry), (a == sysModules) = false ∧ h.get? a = some o ∧ o.ExactDict ∧ o.data = .dict es ep ∧ es.toList = [e] ∧ RelV k e.key ∧ RelV v e.val
mutual
def Dt (H : Hp) : PyData → V → Prop
  | .none, v => v = .non
  | .bool b, v => v = .bl b
  | .int i, v => v = .int i
  | .str x, v => v = .str x
  | .list ds, v => ∃ a vs, v = .ref a ∧ L2.Rd H a (.lst vs) ∧ DtL H ds vs
  | .tuple ds, v => ∃ a vs, v = .ref a ∧ L2.Rd H a (.tup vs) ∧ DtL H ds vs
  | .dict kvs, v => ∃ a, v = .ref a ∧ ((∃ es : List (Key × V), L2.Rd H a (.dK es) ∧ (es.map (·.1)).Nodup ∧ DtK H kvs es) ∨ ∃ k u, L2.Rd H a (odd1 a k u) ∧ DtO H kvs k u)
def DtL (H : Hp) : List PyData → List V → Prop
  | [], vs => vs = []
  | d :: r, vs => ∃ v t, vs = v :: t ∧ Dt H d v ∧ DtL H r t
def DtK (H : Hp) : List (PyData × PyData) → List (Key × V) → Prop
  | [], es => es = []
  | (k, d) :: r, es => ∃ x v t, es = (x, v) :: t ∧ k = kD x ∧ Dt H d v ∧ DtK H r t
def DtO (H : Hp) : List (PyData × PyData) → V → V → Prop
  | [], _, _ => False
  | (k, d) :: r, x, v => r = [] ∧ (∀ z, k ≠ .str z) ∧ Dt H k x ∧ Dt H d v
end
theorem rd_ex {H H' : Hp} (e : Ex H H') {a : Addr} {u : HO} (h : L2.Rd H a u) : L2.Rd H' a u := by
  rcases h with h | ⟨o, h⟩
  · exact .inl (e _ _ h)
  · exact .inr ⟨o, e _ _ h⟩
theorem rd_some {H : Hp} {a : Addr} {u : HO} (h : L2.Rd H a u) : ∃ o, H a = some o := by
  rcases h with h | ⟨o, h⟩
  · exact ⟨_, h⟩
  · exact ⟨_, h⟩
/-- what is readable in the one heap is so in the other -/
def NF (u : HO) : Prop := ∀ o' u', u ≠ .frz o' u'
def RdX (H H' : Hp) : Prop := ∀ a u, NF u → L2.Rd H a u → L2.Rd H' a u
theorem nf_lst {vs : List V} : NF (.lst vs) := fun _ _ h => by cases h
theorem nf_tup {vs : List V} : NF (.tup vs) := fun _ _ h => by cases h
theorem nf_dK {vs : List (Key × V)} : NF (.dK vs) := fun _ _ h => by cases h
theorem nf_odd {a : Addr} {k v : V} : NF (odd1 a k v) := fun _ _ h => by
  unfold odd1 at h
  cases h
theorem rdx_ex {H H' : Hp} (e : Ex H H') : RdX H H' := fun _ _ _ h => rd_ex e h
theorem RdX.trans {H H1 H2 : Hp} (a : RdX H H1) (b : RdX H1 H2) : RdX H H2 := fun c u n h => b c u n (a c u n h)
theorem rdx_lock {H : Hp} {a : Addr} {o : Obj} {u : HO} (h : H a = some u) (hu : NF u) : RdX H (upd H a (.frz o u)) := fun b x nx q => by
  by_cases e : b = a
  · subst e
    rcases q with q | ⟨o', q⟩
    · rw [h] at q
      cases q
      exact .inr ⟨o, upd_same⟩
    · rw [h] at q
      cases q
      exact (hu _ _ rfl).elim
  · rcases q with q | ⟨o', q⟩
    · exact .inl (by rw [upd_ne e]; exact q)
    · exact .inr ⟨o', by rw [upd_ne e]; exact q⟩
theorem rdx_free {H : Hp} {a : Addr} {o : Obj} {u : HO} (h : H a = some (.frz o u)) : RdX H (upd H a u) := fun b x nx q => by
  by_cases e : b = a
  · subst e
    rcases q with q | ⟨o', q⟩
    · rw [h] at q
      cases q
      exact (nx _ _ rfl).elim
    · rw [h] at q
      cases q
      exact .inl upd_same
  · rcases q with q | ⟨o', q⟩
    · exact .inl (by rw [upd_ne e]; exact q)
    · exact .inr ⟨o', by rw [upd_ne e]; exact q⟩
theorem rdx_upd {H : Hp} {a : Addr} {o : HO} (h : H a = none) : RdX H (upd H a o) := rdx_ex (Ex.new h)
mutual
theorem Dt.rdx {H H' : Hp} (e : RdX H H') : ∀ {d : PyData} {v : V}, Dt H d v → Dt H' d v
  | .none, _, h => h
  | .bool _, _, h => h
  | .int _, _, h => h
  | .str _, _, h => h
  | .list ds, _, h => by
    unfold Dt at h ⊢
    obtain ⟨a, vs, rfl, ha, hl⟩ := h
    exact ⟨a, vs, rfl, e _ _ nf_lst ha, DtL.rdx e hl⟩
  | .tuple ds, _, h => by
    unfold Dt at h ⊢
    obtain ⟨a, vs, rfl, ha, hl⟩ := h
    exact ⟨a, vs, rfl, e _ _ nf_tup ha, DtL.rdx e hl⟩
  | .dict kvs, _, h => by
    unfold Dt at h ⊢
    obtain ⟨a, rfl, ⟨es, ha, nd, hl⟩ | ⟨k, u, ha, hl⟩⟩ := h
    · exact ⟨a, rfl, .inl ⟨es, e _ _ nf_dK ha, nd, DtK.rdx e hl⟩⟩
    · exact ⟨a, rfl, .inr ⟨k, u, e _ _ nf_odd ha, DtO.rdx e hl⟩⟩
theorem DtL.rdx {H H' : Hp} (e : RdX H H') : ∀ {ds : List PyData} {vs : List V}, DtL H ds vs → DtL H' ds vs
  | [], _, h => h
  | d :: r, _, h => by
    unfold DtL at h ⊢
    obtain ⟨v, t, rfl, h1, h2⟩ := h
    exact ⟨v, t, rfl, Dt.rdx e h1, DtL.rdx e h2⟩
theorem DtK.rdx {H H' : Hp} (e : RdX H H') : ∀ {ds : List (PyData × PyData)} {es : List (Key × V)}, DtK H ds es → DtK H' ds es
  | [], _, h => h
  | (k, d) :: r, _, h => by
    unfold DtK at h ⊢
    obtain ⟨x, v, t, rfl, hk, h1, h2⟩ := h
    exact ⟨x, v, t, rfl, hk, Dt.rdx e h1, DtK.rdx e h2⟩
theorem DtO.rdx {H H' : Hp} (e : RdX H H') : ∀ {ds : List (PyData × PyData)} {k v : V}, DtO H ds k v → DtO H' ds k v
  | [], _, _, h => h
  | (k, d) :: r, _, _, h => by
    unfold DtO at h ⊢
    obtain ⟨hr, hz, h1, h2⟩ := h
    exact ⟨hr, hz, Dt.rdx e h1, Dt.rdx e h2⟩
end
theorem Dt.ex {H H' : Hp} (e : Ex H H') {d : PyData} {v : V} (h : Dt H d v) : Dt H' d v := h.rdx (rdx_ex e)
theorem DtL.ex {H H' : Hp} (e : Ex H H') {d : List PyData} {v : List V} (h : DtL H d v) : DtL H' d v := h.rdx (rdx_ex e)
theorem DtK.ex {H H' : Hp} (e : Ex H H') {d : List (PyData × PyData)} {v : List (Key × V)} (h : DtK H d v) : DtK H' d v := h.rdx (rdx_ex e)
/-! ### lists of data -/
theorem DtL.len {H : Hp} : ∀ {ds : List PyData} {vs : List V}, DtL H ds vs → vs.length = ds.length
  | [], _, h => by unfold DtL at h; rw [h] <;> rfl
  | d :: r, _, h => by
    unfold DtL at h
    obtain ⟨v, t, rfl, _, h2⟩ := h
    rw [List.length_cons, List.length_cons, DtL.len h2]
theorem DtL.get {H : Hp} : ∀ {ds : List PyData} {vs : List V} {i : Nat} {v : V}, DtL H ds vs → vs[i]? = some v → ∃ d, ds[i]? = some d ∧ Dt H d v
  | [], _, i, v, h, e => by unfold DtL at h; rw [h] at e; simp at e
  | d :: r, _, 0, v, h, e => by
    unfold DtL at h
    obtain ⟨v, t, rfl, h1, h2⟩ := h
    simp only [List.getElem?_cons_zero, Option.some.injEq] at e
    subst e
    exact ⟨d, rfl, h1⟩
  | d :: r, _, i + 1, v, h, e => by
    unfold DtL at h
    obtain ⟨v, t, rfl, h1, h2⟩ := h
    rw [List.getElem?_cons_succ] at e ⊢
    exact DtL.get h2 e
theorem DtL.nil {H : Hp} : DtL H [] [] := by unfold DtL; rfl
theorem DtL.cons {H : Hp} {d : PyData} {v : V} {ds : List PyData} {vs : List V} (h : Dt H d v) (t : DtL H ds vs) : DtL H (d :: ds) (v :: vs) := by
  unfold DtL
  exact ⟨v, vs, rfl, h, t⟩
theorem DtL.app {H : Hp} : ∀ {ds es : List PyData} {vs us : List V}, DtL H ds vs → DtL H es us → DtL H (ds ++ es) (vs ++ us)
  | [], _, _, _, h, t => by unfold DtL at h; rw [h]; exact t
  | d :: r, _, _, _, h, t => by
    unfold DtL at h
    obtain ⟨v, q, rfl, h1, h2⟩ := h
    exact DtL.cons h1 (DtL.app h2 t)
/-! ### what the true heap reads -/
theorem keyIs_reads {h : Heap} {k : Key} {v : Value} (e : keyIs k v = true) : Reads h v (kD k) [] := by
  rcases keyIs_shape e with ⟨i, t, rfl, rfl⟩ | ⟨x, t, rfl, rfl⟩
  · exact .int i t
  · exact .str x t
mutual
theorem Dt.reads {P : Program} {w : World} {H : Hp} {h : Heap} (ok : HOk P w H h) (ns : ∀ a o, H a = some o → a ≠ sysModules) : ∀ {d : PyData} {v : V} {u : Value}, Dt H d v → RelV v u → ∃ as, Reads h u d as ∧ sysModules ∉ as
  | .none, v, u, q, r => by
    unfold Dt at q
    subst q
    cases (show u = Value.none from r)
    exact ⟨_, .none, nofun⟩
  | .bool b, v, u, q, r => by
    unfold Dt at q
    subst q
    cases (show u = Value.bool b from r)
    exact ⟨_, .bool b, nofun⟩
  | .int i, v, u, q, r => by
    unfold Dt at q
    subst q
    obtain ⟨t, rfl⟩ := r
    exact ⟨_, .int i t, nofun⟩
  | .str x, v, u, q, r => by
    unfold Dt at q
    subst q
    obtain ⟨t, rfl⟩ := r
    exact ⟨_, .str x t, nofun⟩
  | .list ds, v, u, q, r => by
    unfold Dt at q
    obtain ⟨a, vs, rfl, ha, hl⟩ := q
    cases (show u = Value.ref a from r)
    obtain ⟨_, its, n, rv, e⟩ := ha.ok ok
    obtain ⟨as, hr, hn⟩ := DtL.reads ok ns hl rv
    refine ⟨a :: as, .list e rfl rfl (by simpa using hr), fun z => ?_⟩
    rcases List.mem_cons.mp z with z | z
    · exact (rd_some ha).elim fun _ q => ns a _ q z.symm
    · exact hn z
  | .tuple ds, v, u, q, r => by
    unfold Dt at q
    obtain ⟨a, vs, rfl, ha, hl⟩ := q
    cases (show u = Value.ref a from r)
    obtain ⟨_, its, rv, o, e, hc, n, hd⟩ := ha.ok ok
    obtain ⟨as, hr, hn⟩ := DtL.reads ok ns hl rv
    exact ⟨as, .tuple e hc hd (by simpa using hr), hn⟩
  | .dict kvs, v, u, q, r => by
    unfold Dt at q
    obtain ⟨a, rfl, ⟨es, ha, nd, hl⟩ | ⟨k, x, ha, hl⟩⟩ := q
    · cases (show u = Value.ref a from r)
      obtain ⟨_, hs, vs, rk, o, rs, ep, e, hx, hd, _, pr, _⟩ := ha.ok ok
      obtain ⟨bs, hr, h2, hn⟩ := DtK.reads ok ns hl rk pr
      refine ⟨a :: [] ++ bs, .dict e hx.1 hd hr h2, fun z => ?_⟩
      rcases List.mem_cons.mp z with z | z
      · exact (rd_some ha).elim fun _ q => ns a _ q z.symm
      · exact hn z
    · cases (show u = Value.ref a from r)
      obtain ⟨⟨o, rs, ep, e, hs, e1, hx, hd, e2, rk, rv⟩, _, _⟩ := (show ObjOk P w H h a (.ext fun h => ∃ (o : Obj) (es : Array DictEntry) (ep : Nat) (e : DictEntry), (a == sysModules) = false ∧ h.get? a = some o ∧ o.ExactDict ∧ o.data = .dict es ep ∧ es.toList = [e] ∧ RelV k e.key ∧ RelV x e.val) from ha.ok ok)
      obtain ⟨as, bs, h1, h2, n1, n2⟩ := DtO.reads ok ns hl rk rv
      refine ⟨a :: as ++ bs, .dict e1 hx.1 hd (by rw [e2]; exact h1) (by rw [e2]; exact h2), fun z => ?_⟩
      rcases List.mem_cons.mp z with z | z
      · exact (rd_some ha).elim fun _ q => ns a _ q z.symm
      · rcases List.mem_append.mp z with z | z
        · exact n1 z
        · exact n2 z
theorem DtL.reads {P : Program} {w : World} {H : Hp} {h : Heap} (ok : HOk P w H h) (ns : ∀ a o, H a = some o → a ≠ sysModules) : ∀ {ds : List PyData} {vs : List V} {us : List Value}, DtL H ds vs → Vals vs us → ∃ as, ReadsAll h us ds as ∧ sysModules ∉ as
  | [], _, _, q, r => by
    unfold DtL at q
    subst q
    cases r
    exact ⟨_, .nil, nofun⟩
  | d :: ds, _, _, q, r => by
    unfold DtL at q
    obtain ⟨v, t, rfl, h1, h2⟩ := q
    cases r with
    | cons r1 r2 =>
      obtain ⟨as, a1, n1⟩ := Dt.reads ok ns h1 r1
      obtain ⟨bs, a2, n2⟩ := DtL.reads ok ns h2 r2
      exact ⟨_, .cons a1 a2, fun z => (List.mem_append.mp z).elim n1 n2⟩
theorem DtK.reads {P : Program} {w : World} {H : Hp} {h : Heap} (ok : HOk P w H h) (ns : ∀ a o, H a = some o → a ≠ sysModules) : ∀ {ds : List (PyData × PyData)} {es : List (Key × V)} {vs : List (Key × Value)} {rs : List DictEntry}, DtK H ds es → KV es vs → Pairs (mixKind P w) rs vs →
    ∃ bs, ReadsAll h (rs.map (·.key)) (ds.map (·.1)) [] ∧ ReadsAll h (rs.map (·.val)) (ds.map (·.2)) bs ∧ sysModules ∉ bs
  | [], _, _, rs, q, r, pr => by
    unfold DtK at q
    subst q
    cases r
    cases pr
    exact ⟨_, .nil, .nil, nofun⟩
  | (k, d) :: ds, _, _, rs, q, r, pr => by
    unfold DtK at q
    obtain ⟨x, v, t, rfl, rfl, h1, h2⟩ := q
    cases r with
    | cons r1 r2 =>
      rename_i y ys
      cases pr with
      | @cons e _ rs _ p1 p2 p3 =>
        obtain ⟨y1, y2⟩ := y
        obtain ⟨rk, rv⟩ := r1
        cases (show x = y1 from rk)
        obtain ⟨as, a1, n1⟩ := Dt.reads ok ns h1 (show RelV v e.val by rw [p2]; exact rv)
        obtain ⟨bs, b1, b2, n2⟩ := DtK.reads ok ns h2 r2 p3
        exact ⟨_, .cons (as := []) (bs := []) (keyIs_reads p1) b1, .cons a1 b2, fun z => (List.mem_append.mp z).elim n1 n2⟩
theorem DtO.reads {P : Program} {w : World} {H : Hp} {h : Heap} (ok : HOk P w H h) (ns : ∀ a o, H a = some o → a ≠ sysModules) : ∀ {ds : List (PyData × PyData)} {k v : V} {ku vu : Value}, DtO H ds k v → RelV k ku → RelV v vu →
    ∃ as bs, ReadsAll h [ku] (ds.map (·.1)) as ∧ ReadsAll h [vu] (ds.map (·.2)) bs ∧ sysModules ∉ as ∧ sysModules ∉ bs
  | [], _, _, _, _, q, _, _ => by
    unfold DtO at q
    exact q.elim
  | (k, d) :: ds, _, _, _, _, q, r1, r2 => by
    unfold DtO at q
    obtain ⟨rfl, _, h1, h2⟩ := q
    obtain ⟨as, a1, n1⟩ := Dt.reads ok ns h1 r1
    obtain ⟨bs, a2, n2⟩ := Dt.reads ok ns h2 r2
    refine ⟨_, _, .cons a1 .nil, .cons a2 .nil, ?_, ?_⟩
    · rw [List.append_nil]
      exact n1
    · rw [List.append_nil]
      exact n2
end
end LW

namespace LW
open PySem PySem.Spec PyProof.Rows L2
open Evl (Ex)
/-! ### repr of data -/
structure Calm (X : Cx) : Prop where
  gd : X.A.guards = some []
  sy : ∃ mm, X.base.Ns sysModules mm
  un : X.A.units + 180 < cLine
theorem Calm.of {X : Cx} {k : Nat} (gd : X.A.guards = some []) (sy : ∃ mm, X.base.Ns sysModules mm) (hr : Room k X.A) : Calm X := ⟨gd, sy, by have := hr.un; omega⟩
theorem inv_sys {X : Cx} {pins : List (Addr × Obj)} {σ : L2.St} {H : Hp} {s : Shared} (sy : ∃ mm, X.base.Ns sysModules mm) (I : Inv X pins σ H s) : ∀ a o, H a = some o → a ≠ sysModules := by
  intro a o h e
  subst e
  obtain ⟨mm, ob, es, ep, e, _⟩ := sy
  have q := (I.bs _ _ e).2
  rw [q] at h
  cases h
def rRep : List V → Hp → VK → Prop := fun xs H Q => ∃ v d, xs = [v] ∧ Dt H d v ∧ d.showable = true ∧ d.shown.length ≤ sizeLine ∧ d.depth ≤ 150 ∧ Q (.str d.shown) H
theorem call_repr {X : Cx} (c : Calm X) : CallR X (.builtin "repr") rRep := by
  intro pins s σ H xs us Q I r h
  obtain ⟨v, d, rfl, hd, hs, hz, hdp, q⟩ := h
  obtain ⟨u, rfl, ru⟩ := vals1 r
  have un := c.un
  obtain ⟨as, hr, hn⟩ := Dt.reads I.hok (inv_sys c.sy I) hd ru
  cases hr with
  | none =>
    simp only [PyData.shown] at q
    exact PySem.P.repr_of_none ⟨.str _, H, I.tok _, ⟨_, rfl⟩, q⟩
  | bool b =>
    simp only [PyData.shown] at q
    exact PySem.P.repr_of_bool ⟨.str _, H, I.tok _, ⟨_, rfl⟩, q⟩
  | int i t =>
    simp only [PyData.shown] at q
    exact PySem.P.repr_of_int (by simpa [PyData.showable] using hs) ⟨.str _, H, I.tok _, ⟨_, rfl⟩, q⟩
  | str x t =>
    simp only [PyData.shown] at q hz
    exact PySem.P.repr_of_str ⟨.str _, H, I.tok _, ⟨_, rfl⟩, q⟩ hz
  | list h1 h2 h3 h4 => exact repr_of_reads' (.list h1 h2 h3 h4) hs (fun _ => hn) c.gd (by omega) (fun _ _ e => e) (fun h' u tk k => ⟨.str _, H, I.kept (t' := tk) k, ⟨_, rfl⟩, q⟩) hz
  | tuple h1 h2 h3 h4 => exact repr_of_reads' (.tuple h1 h2 h3 h4) hs (fun _ => hn) c.gd (by omega) (fun _ _ e => e) (fun h' u tk k => ⟨.str _, H, I.kept (t' := tk) k, ⟨_, rfl⟩, q⟩) hz
  | dict h1 h2 h3 h4 h5 => exact repr_of_reads' (.dict h1 h2 h3 h4 h5) hs (fun _ => hn) c.gd (by omega) (fun _ _ e => e) (fun h' u tk k => ⟨.str _, H, I.kept (t' := tk) k, ⟨_, rfl⟩, q⟩) hz
end LW

namespace LW
open PySem PySem.Spec PyProof.Rows L2
open Evl (Ex)
/-! ### isinstance of data -/
def tyD : PyData → String
  | .none => "NoneType"
  | .bool _ => "bool"
  | .int _ => "int"
  | .str _ => "str"
  | .list _ => "list"
  | .tuple _ => "tuple"
  | .dict _ => "dict"
theorem rd_odd {P : Program} {w : World} {H : Hp} {h : Heap} {a : Addr} {k v : V} (ok : HOk P w H h) (r : L2.Rd H a (odd1 a k v)) :
    ∃ (o : Obj) (es : Array DictEntry) (ep : Nat) (e : DictEntry), (a == sysModules) = false ∧ h.get? a = some o ∧ o.ExactDict ∧ o.data = .dict es ep ∧ es.toList = [e] ∧ RelV k e.key ∧ RelV v e.val := (show ObjOk P w H h a (.ext fun h => ∃ (o : Obj) (es : Array DictEntry) (ep : Nat) (e : DictEntry), (a == sysModules) = false ∧ h.get? a = some o ∧ o.ExactDict ∧ o.data = .dict es ep ∧ es.toList = [e] ∧ RelV k e.key ∧ RelV v e.val) from r.ok ok).1
def rIsD (K : PySem.W.Frag) : List V → Hp → VK → Prop := fun xs H Q => ∃ (v : V) (d : PyData) (n : String) (b : Bool), xs = [v, .ty n] ∧ Dt H d v ∧ PySem.W.kitOne K (.type (tyD d)) (.type n) = some b ∧ Q (.bl b) H
theorem isD {X : Cx} (K : PySem.W.Frag) (hK : X.K = K := by rfl) : CallR X (.builtin "isinstance") (rIsD K) := by
  subst hK
  intro pins s σ H xs us Q I r h
  obtain ⟨v, d, n, b, rfl, hd, e, q⟩ := h
  have main : ∀ t, TyX X.K H v (.type t) → tyD d = t → wpAny (model X.prog X.w) X.A (call (.builtin "isinstance") us) (EP X pins σ Q) X.xe s := by
    intro t ht et
    refine call_isi pins s σ H _ us Q I r ⟨v, .ty n, .type t, .type n, b, rfl, .ty n, ht, ?_, q⟩
    rw [← et]
    exact e
  cases d with
  | none => unfold Dt at hd; subst hd; exact main _ (.base .non) rfl
  | bool y => unfold Dt at hd; subst hd; exact main _ (.base (.bl y)) rfl
  | int y => unfold Dt at hd; subst hd; exact main _ (.base (.int y)) rfl
  | str y => unfold Dt at hd; subst hd; exact main _ (.base (.str y)) rfl
  | list ds =>
    unfold Dt at hd
    obtain ⟨a, vs, rfl, ha | ⟨o, ha⟩, _⟩ := hd
    · exact main _ (.base (.lst ha)) rfl
    · exact main _ (.base (.frz ha)) rfl
  | tuple ds =>
    unfold Dt at hd
    obtain ⟨a, vs, rfl, ha | ⟨o, ha⟩, _⟩ := hd
    · exact main _ (.base (.tup ha)) rfl
    · exact main _ (.fTuple ha) rfl
  | dict kvs =>
    unfold Dt at hd
    obtain ⟨a, rfl, ⟨es, ha | ⟨o, ha⟩, _⟩ | ⟨k, u, ha, _⟩⟩ := hd
    · exact main _ (.base (.dK ha)) rfl
    · exact main _ (.fDict ha) rfl
    · obtain ⟨u1, u2, rfl, r1, r2⟩ := vals2 r
      cases (show u1 = Value.ref a from r1)
      cases (show u2 = Value.type n from r2)
      obtain ⟨o, es, ep, en, hs, e1, hx, _⟩ := rd_odd I.hok ha
      exact PySem.W.kia_one PySem.W.kitx_dict I.kIn (show ∃ o, _ from ⟨o, e1, hx.1⟩) e (fun z => nomatch z) fun tk => ⟨.bl b, H, I.tok tk, rfl, q⟩
/-! ### len of a dict -/
section
variable {prog : Program} {w : World} {A : Around} {E : Value → Shared → Prop} {s : Shared}
theorem len_raw {d : Addr} {o : Obj} {es : Array DictEntry} {ep : Nat} {Q : Value → Shared → Prop} (hd : (d == sysModules) = false) (ho : s.heap.get? d = some o) (hc : o.ExactDict) (hdat : o.data = .dict es ep) (hfit : (es.size : Int) < 2 ^ 63)
    (h : Q (.int es.size (s.toks + 1)) { s with toks := s.toks + 1 + 1 }) : wpAny (model prog w) A (call (.builtin "len") [.ref d]) Q E s := by
  have hT : s.TypeIs (.ref d) "dict" := ⟨o, ho, hc.1⟩
  have mt : MeetsIn prog w (Builtin.«dict.__len__» ⟨[.ref d], []⟩) (fun _ R s => s.heap.get? d = some o ∧ R (.ok (.ret (.int es.size s.toks))) { s with toks := s.toks + 1 }) :=
    .of_wp fun A R s q => by
      obtain ⟨ho, q⟩ := q
      show wpAny _ _ (dictSize d >>= _) _ _ s
      unfold dictSize
      apply wpAny_bind
      apply wpAny_bind
      apply wpAny_dictEntries ho hdat
      apply wpAny_pure
      show wpAny _ _ (Builtin.Dict.pendingCount d >>= _) _ _ s
      apply wpAny_bind
      apply wpAny_pendingCount_other hd
      apply wpAny_ret_mkInt
      exact q
  apply Calls.call_function_entry kind_len plain_len entry_len (args_len1 _)
  unfold Builtin.«len»
  refine wpAny_bind (m := oneArg "len" _) (wpAny_pure ?_)
  refine wpAny_bind (m := callSpecial? (.ref d) (Str.ofString "__len__")) (wpAny_callSpecial?_slot (name := Str.ofString "__len__") hT PySem.F.slot_dict_len (call_meetsIn PySem.F.slot_dict_len hT PySem.F.entry_dict_len (PySem.F.args_dict_len_1 _) mt ⟨ho, ?_⟩))
  show wpAny _ _ _ _ _ { s with toks := s.toks + 1 }
  apply wpAny_bind
  apply wpAny_holding
  apply wpAny_pure
  apply wpAny_bind
  apply wpAny_letGo
  show wpAny _ _ (if ((es.size : Nat) : Int) < 0 then _ else _) _ _ _
  rw [if_neg (by omega)]
  show wpAny _ _ (if ((es.size : Nat) : Int) ≥ 2 ^ 63 then _ else _) _ _ _
  rw [if_neg (by omega)]
  apply wpAny_bind
  apply wpAny_mkInt
  exact wpAny_pure ⟨_, rfl, h⟩
end
def rLnD : List V → Hp → VK → Prop := fun xs H Q => ∃ a, xs = [.ref a] ∧ ((∃ kvs, L2.Rd H a (.dK kvs) ∧ Q (.int kvs.length) H) ∨ ∃ k v, L2.Rd H a (odd1 a k v) ∧ Q (.int 1) H)
theorem lnD {X : Cx} : CallR X (.builtin "len") rLnD := by
  intro pins s σ H xs us Q I r h
  obtain ⟨a, rfl, ⟨kvs, ha, q⟩ | ⟨k, v, ha, q⟩⟩ := h
  · obtain ⟨u, rfl, ru⟩ := vals1 r
    cases (show u = Value.ref a from ru)
    exact d_len I ha fun t s' I' => ⟨.int kvs.length, H, I', ⟨_, rfl⟩, q⟩
  · obtain ⟨u, rfl, ru⟩ := vals1 r
    cases (show u = Value.ref a from ru)
    obtain ⟨o, es, ep, en, hs, e1, hx, hd, hl, _⟩ := rd_odd I.hok ha
    have hz : es.size = 1 := by
      rw [← Array.length_toList, hl]
      rfl
    refine len_raw hs e1 hx hd (by rw [hz]; decide) ?_
    rw [hz]
    exact ⟨.int 1, H, I.tok _, ⟨_, rfl⟩, q⟩
end LW

namespace LW
open PySem PySem.Spec PyProof.Rows L2
open Evl (Ex)
/-! ### for x in a dict, whatever its keys -/
def KeysAre (d : Addr) (u : HO) (ks : List V) : Prop := (∃ kvs : List (Key × V), u = .dK kvs ∧ ks = kvs.map fun p => kV p.1) ∨ ∃ k v, u = odd1 d k v ∧ ks = [k]
theorem pairs_at {P : Program} {w : World} : ∀ {rs : List DictEntry} {vs : List (Key × Value)} {kvs : List (Key × V)}, Pairs (mixKind P w) rs vs → KV kvs vs → rs.length = kvs.length ∧ ∀ (i : Nat) (x : V), (kvs.map fun p => kV p.1)[i]? = some x → ∃ en, rs[i]? = some en ∧ RelV x en.key := by
  intro rs vs kvs pr
  induction pr generalizing kvs with
  | nil =>
    intro r
    cases r
    exact ⟨rfl, fun i x e => by simp at e⟩
  | @cons en kv es vs h1 h2 h3 ih =>
    intro r
    cases r with
    | @cons p _ ps _ r1 r2 =>
      obtain ⟨l, g⟩ := ih r2
      refine ⟨by rw [List.length_cons, List.length_cons, l], ?_⟩
      intro i x e
      cases i with
      | zero =>
        rw [List.map_cons, List.getElem?_cons_zero] at e
        cases e
        refine ⟨en, rfl, relV_key ?_⟩
        rw [r1.1]
        exact h1
      | succ j =>
        rw [List.map_cons, List.getElem?_cons_succ] at e
        exact g j x e
section
variable {X : Cx} {pins : List (Addr × Obj)} {σ : L2.St} {H : Hp} {s : Shared} {d : Addr} {o : Obj}
theorem frz_keys {u : HO} {ks : List V} (I : Inv X pins σ H s) (h : H d = some (.frz o u)) (k : KeysAre d u ks) :
    (d == sysModules) = false ∧ s.heap.get? d = some o ∧ o.ExactDict ∧ ∃ (es : Array DictEntry) (ep : Nat), o.data = .dict es ep ∧ es.size = ks.length ∧ ∀ (i : Nat) (x : V), ks[i]? = some x → ∃ en, es[i]? = some en ∧ RelV x en.key := by
  rcases k with ⟨kvs, rfl, rfl⟩ | ⟨k, v, rfl, rfl⟩
  · obtain ⟨hd, _, hs, vs, kv, o', es, ep, ho, hx, hdt, _, pr, _⟩ := I.hok d _ h
    rw [hd] at ho
    cases ho
    obtain ⟨l, g⟩ := pairs_at pr kv
    refine ⟨hs, hd, hx, es, ep, hdt, ?_, fun i x e => ?_⟩
    · rw [← Array.length_toList, l, List.length_map]
    · obtain ⟨en, e1, e2⟩ := g i x e
      exact ⟨en, by rw [← Array.getElem?_toList]; exact e1, e2⟩
  · obtain ⟨hd, _⟩ := I.hok d _ h
    obtain ⟨o', es, ep, en, hs, e1, hx, hdt, hl, rk, _⟩ := rd_odd I.hok (.inr ⟨o, h⟩)
    rw [hd] at e1
    cases e1
    refine ⟨hs, hd, hx, es, ep, hdt, ?_, fun i x e => ?_⟩
    · rw [← Array.length_toList, hl]
      rfl
    · cases i with
      | zero =>
        cases e
        exact ⟨en, by rw [← Array.getElem?_toList, hl] <;> rfl, rk⟩
      | succ j => cases e
end
def Itka (d : Addr) (o : Obj) (u : HO) (ks : List V) : It :=
  ⟨fun i H => H d = some (.frz o u) ∧ i < ks.length, fun i H x H' => H' = H ∧ ks[i]? = some x, fun i H => H d = some (.frz o u) ∧ ks.length ≤ i⟩
theorem turn_ka {P : Program} {w : World} {K : PySem.W.Frag} {tg : Expr} {d : Addr} {o : Obj} {es : Array DictEntry} {ep : Nat} {u : HO} {ks : List V} (it : Addr) (hod : o.data = .dict es ep) (hk : KeysAre d u ks) :
    Turn P w K tg (Itka d o u ks) [it] it (fun i h => h.IsKeyIter it d i ks.length ep) where
  mem := List.mem_cons_self
  obj := by
    intro i h st b hb
    cases List.mem_singleton.mp hb
    obtain ⟨oi, e, c, dd⟩ := st
    refine ⟨oi, e, fun v z => ?_⟩
    rw [dd] at z
    cases z
  keep := by
    intro i h h' st k
    exact st.at fun oi e => k it List.mem_cons_self oi e
  item := by
    intro X hP hw hK hc i pins s σ H E I hf st hg
    subst hP hw hK
    obtain ⟨f0, f1, f2, f3, f4, f5⟩ := hf it List.mem_cons_self
    obtain ⟨hs, hgd, hx, es', ep', hdt, hsz, ent⟩ := frz_keys I hg.1 hk
    obtain ⟨rfl, rfl⟩ := dict_ep hod hdt
    obtain ⟨en, hen, rx⟩ := ent i _ (List.getElem?_eq_getElem hg.2)
    refine next_key_item st hgd hdt hsz hen ?_
    intro h' st' sb
    have I1 : Inv X pins σ H { s with heap := h' } := I.turned (t' := s.toks) (fun b ob hb e => (sb.2 b hb).trans e) f0 f1 f3 f4 f5
    obtain ⟨oi, e, c, dd⟩ := id st'
    exact ⟨en.key, rfl, go_of (s := { s with heap := h' }) e c dd (by decide) ⟨_, H, I1, rx, ⟨rfl, List.getElem?_eq_getElem hg.2⟩, st', fun b hb => (hf b hb).1⟩⟩
  done := by
    intro X hP hw hK hc i pins s σ H E I hf st hg
    subst hP hw hK
    obtain ⟨f0, f1, f2, f3, f4, f5⟩ := hf it List.mem_cons_self
    obtain ⟨hs, hgd, hx, es', ep', hdt, hsz, ent⟩ := frz_keys I hg.1 hk
    obtain ⟨rfl, rfl⟩ := dict_ep hod hdt
    refine next_key_end (I.ok.hd hc) st hgd hdt hsz hg.2 ?_
    intro h' eb
    exact ⟨rfl, I.turned (t' := s.toks) (fun b ob hb e => eb b ob hb e) f0 f1 f3 f4 f5⟩
  self := fun A i s Q E st h => wpAny_pyIter_keyiter st h
def iKa (td : TE) : TI := fun σ H R => td σ H fun x H1 => ∃ d o u ks, x = .ref d ∧ H1 d = some (.frz o u) ∧ KeysAre d u ks ∧ R (Itka d o u ks) H1
theorem pi_ka {X : Cx} {tg e : Expr} {td : TE} (he : PE X e td) : PI X tg e (iKa td) := by
  constructor
  intro pins s σ H R I h
  refine thn (he.run pins s σ H _ I h) ?_
  rintro v s1 ⟨x, H1, I1, rx, d, o, u, ks, rfl, hd, hk, q⟩
  cases (show v = Value.ref d from rx)
  obtain ⟨hs, hgd, hx, es, ep, hdt, hsz, _⟩ := frz_keys I1 hd hk
  refine iter_keys hs hgd hx hdt (pi_one (tk := s1.toks) I1 _ (turn_ka _ hdt hk) ⟨_, Heap.get?_push_size _ rfl, rfl, ?_⟩ q)
  rw [hsz] <;> rfl
/-! ### a loop over such keys -/
end LW

namespace LW
open PySem PySem.Spec PyProof.Rows L2
open Evl (Ex)
theorem walk_ka {d : Addr} {o : Obj} {u : HO} {ks : List V} : Walk (Itka d o u ks) ks.length (fun H => H d = some (.frz o u)) (YAt ks) :=
  ⟨fun _ _ hi q => ⟨q, hi⟩, fun _ q => ⟨q, Nat.le_refl _⟩, fun _ _ _ _ _ _ y => y⟩
/-! ### a dict of one entry, its key None or a tuple -/
def OddKey (H : Hp) (k : V) : Prop := k = .non ∨ ∃ t ks, k = .ref t ∧ H t = some (.tup (List.map kV ks))
def tOdd (tk tv : TE) : TE := fun σ H Q => ∀ p, H p = none → tPairs [(tk, tv)] σ (upd H p (.dK [])) fun ps H2 => ∃ k v, ps = [(k, v)] ∧ H2 p = some (.dK []) ∧ OddKey H2 k ∧ Q (.ref p) (upd H2 p (odd1 p k v))
theorem odd_ok {P : Program} {w : World} {H : Hp} {h : Heap} {a : Addr} {k v : V} {o : Obj} {es : Array DictEntry} {ep : Nat} {e : DictEntry} (hs : (a == sysModules) = false) (ho : h.get? a = some o) (hx : o.ExactDict) (hd : o.data = .dict es ep) (hl : es.toList = [e]) (rk : RelV k e.key) (rv : RelV v e.val) : ObjOk P w H h a (odd1 a k v) :=
  ⟨⟨o, es, ep, e, hs, ho, hx, hd, hl, rk, rv⟩, ⟨o, ho⟩, fun h1 h2 z kp => by
    obtain ⟨o, es, ep, e, hs, ho, q⟩ := z
    exact ⟨o, es, ep, e, hs, kp _ ho, q⟩⟩
theorem pe_odd {X : Cx} {k v : Expr} {tk tv : TE} {pos : Pos} (hu : X.A.units + 64 < cLine) (hk : PE X k tk) (hv : PE X v tv) : PE X (.Dict [some k] [v] pos) (tOdd tk tv) := by
  constructor
  intro pins s σ H Q I q
  have hn := I.hok.fresh (Nat.le_refl s.heap.objs.size)
  have I1 := I.laid (a := s.heap.objs.size) (o := .dK []) (h' := s.heap.push { cls := .type "dict", data := .dict #[] }) (t' := s.toks) (fun _ _ q => Heap.get?_push_of_some _ q) (Nat.le_refl _) (dk_empty s.heap I.big)
  refine wpAny_Dict_any (keys := [some k]) (values := [v]) rfl rfl nofun (by show 1 ≤ 15; decide) ?_
  refine thn ((pps_cons (pos := pos) hk hv pps_nil).run pins _ σ _ _ I1 (q _ hn)) ?_
  rintro ws s2 ⟨ps, H2, I2, rel, kk, vv, rfl, e, ok, q2⟩
  obtain ⟨_, hd, vs0, r0, dd⟩ := dk_of I2.hok e
  cases r0
  have fin : ∀ (h' : Heap) (tk' : Nat) (o : Obj) (es : Array DictEntry) (ep : Nat) (en : DictEntry), Heap.SameBut s.heap.objs.size s2.heap h' → h'.get? s.heap.objs.size = some o → o.ExactDict → o.data = .dict es ep → es.toList = [en] → RelV kk en.key → RelV vv en.val →
      EP X pins σ Q (.ref s.heap.objs.size) { s2 with heap := h', toks := tk' } := by
    intro h' tk' o es ep en hs ho hx hdt hl rk rv
    refine ⟨.ref s.heap.objs.size, _, ?_, rfl, q2⟩
    exact d_write I2 (by rw [e]; exact True.intro) hs ⟨o, ho⟩ (odd_ok hd ho hx hdt hl rk rv)
  cases rel with
  | @cons a b as bs r1 r2 =>
    cases r2
    obtain ⟨b1, b2⟩ := b
    obtain ⟨rk, rv⟩ := r1
    rcases ok with rfl | ⟨t, ks, rfl, ht⟩
    · cases (show b1 = Value.none from rk)
      have em : s2.heap.DictOf (noneKind X.prog X.w) s.heap.objs.size [] := by
        obtain ⟨o, es, ep, h1, h2, h3, h4, h5, h6⟩ := dd
        have he : es = #[] := by
          have : es.toList = [] := by
            cases h7 : es.toList with
            | nil => rfl
            | cons a b =>
              rw [h7] at h5
              cases h5
          exact Array.toList_eq_nil_iff.mp this
        subst he
        exact ⟨o, _, ep, h1, h2, h3, (by intro i hi; simp at hi), .nil, List.nodup_nil⟩
      refine wpAny_storeAll (knd := noneKind X.prog X.w) [(.none, b2)] [(none, b2)] [] s2 _ ⟨rfl, rfl, True.intro⟩ em (by show 0 + 1 ≤ sizeLine; decide) ?_
      intro h' dd' hs
      obtain ⟨o, es, ep, h1, h2, h3, h4, h5, h6⟩ := dd'
      have h5' : Pairs (noneKind X.prog X.w) es.toList [(none, b2)] := h5
      cases hh : es.toList with
      | nil =>
        rw [hh] at h5'
        cases h5'
      | cons en r =>
        rw [hh] at h5'
        cases h5' with
        | cons p1 p2 p3 =>
          cases p3
          refine fin h' _ o es ep en hs h1 h2 h3 hh ?_ ?_
          · exact nk_none p1
          · rw [p2]
            exact rv
    · cases (show b1 = Value.ref t from rk)
      have em : s2.heap.DictOfH (tupleKind (mixKind X.prog X.w)) s.heap.objs.size [] := by
        obtain ⟨o, es, ep, h1, h2, h3, h4, h5, h6⟩ := dd
        refine ⟨o, es, ep, h1, h2, h3, ?_, nofun, List.nodup_nil⟩
        cases h7 : es.toList with
        | nil => rfl
        | cons a b =>
          rw [h7] at h5
          cases h5
      refine PySem.wpAny_storeAllH (knd := tupleKind (mixKind X.prog X.w)) (show X.A.units < cLine by omega) [(.ref t, b2)] [(ks, t, b2)] [] s2 _ ⟨rfl, rfl, key_of I2.hok ht, True.intro⟩ em (by show 0 + 1 ≤ sizeLine; decide) ?_
      intro h' tk' dd' hs
      obtain ⟨o, es, ep, h1, h2, h3, h4, h5, h6⟩ := dd'
      exact fin h' tk' o es ep _ hs h1 h2 h3 h4 rfl rv
end LW

namespace LW
open PySem PySem.Spec PyProof.Rows L2
open Evl (Ex)
/-! ### o[i], o a list or a dict -/
def rIxA (K : PySem.W.Frag) : R2 := fun x y H Q => rIxL K x y H Q ∨ ∃ a kvs k v, x = .ref a ∧ y = kV k ∧ L2.Rd H a (.dK kvs) ∧ valV kvs k = some v ∧ Q v H
theorem ixA {X : Cx} (K : PySem.W.Frag) (hK : X.K = K := by rfl) : IxR X (rIxA K) := by
  subst hK
  intro value slice pins s σ H x y v u Q I rx ry h hs
  rcases h with h | ⟨a, kvs, k, z, rfl, rfl, ha, e, q⟩
  · exact ix_list value slice pins s σ H x y v u Q I rx ry h hs
  · cases (show v = Value.ref a from rx)
    obtain ⟨_, hd, vs, rel, dd⟩ := dk_rd I.hok ha
    obtain ⟨w', hw, rw'⟩ := RelO.some_of (v := z) (o := valueAt vs k) (by rw [← e]; exact rel.val k)
    exact subscriptTail_builtinR (x := w') dd.typeIs PySem.F.slot_dict_getitem.lookup (wpAny_getItem_of (Q := fun r s' => r = w' ∧ EP X pins σ Q r s') (kV_is ry) dd.mapOf hw ⟨rfl, z, H, I.tok _, rw', q⟩) hs
/-! ### o[i] = v, o a list or a dict -/
def rSetA : TSet := fun o i v H Q => rSetL o i v H Q ∨ rSetD o i v H Q
theorem setA {X : Cx} (hu : X.A.units + 1 < cLine) : PSet X rSetA := by
  intro pins s σ H o i v ov iv u Q I ro ri rv h
  rcases h with h | h
  · exact set_list pins s σ H o i v ov iv u Q I ro ri rv h
  · exact set_dict hu pins s σ H o i v ov iv u Q I ro ri rv h
end LW

namespace LW
open PySem PySem.Spec PyProof.Rows L2
open Evl (Ex)
/-! ### a comprehension without a test while the heap only grows: R by the turn, what was gathered, the heap without the new list -/
def LcP (R : Nat → List V → Hp → Prop) (H1 : Hp) (D : Addr) (i : Nat) (H : Hp) : Prop := ∃ acc, Ex H1 (del H D) ∧ H D = some (.lst acc) ∧ acc.length = i ∧ R i acc (del H D)
theorem lc_put {R : Nat → List V → Hp → Prop} {H1 H H4 : Hp} {D : Addr} {i : Nat} {acc : List V} {y : V} (e1 : Ex H1 (del H D)) (hD : H D = some (.lst acc)) (hl : acc.length = i) (hi : i < 100000) (e : Ex H H4) (r : R (i + 1) (acc ++ [y]) (del H4 D)) :
    ∃ acc, H4 D = some (.lst acc) ∧ acc.length < sizeLine ∧ LcP R H1 D (i + 1) (upd H4 D (.lst (acc ++ [y]))) := by
  refine ⟨acc, e _ _ hD, szlt (by omega), acc ++ [y], ?_, upd_same, ?_, ?_⟩
  · exact e1.trans (del_grow e)
  · rw [List.length_append, hl]
    rfl
  · rw [show del (upd H4 D (.lst (acc ++ [y]))) D = del H4 D from ?_]
    · exact r
    · funext b
      by_cases hb : b = D
      · rw [hb, del_same, del_same]
      · rw [del_ne hb, del_ne hb, upd_ne hb]
theorem del_none {H : Hp} {D : Addr} {o : HO} (h : H D = none) : del (upd H D o) D = H := by
  funext b
  by_cases hb : b = D
  · rw [hb, del_same, h]
  · rw [del_ne hb, upd_ne hb]
theorem lc_gr {J : It} {n : Nat} {G : Hp → Prop} {Y : Nat → Hp → V → Hp → Prop} (w : Walk J n G Y) {g : TG} {tt : TT} {te : TE} {vs : List Nat} {σ : L2.St} {H1 : Hp} {D : Addr} {Qd : Hp → Prop} (R : Nat → List V → Hp → Prop)
    (np : H1 D = none) (hn : n ≤ 100000) (h0 : R 0 [] H1) (hG : ∀ H, Ex H1 H → G H)
    (hs : ∀ i x acc H H', i < n → Ex H1 H → Ex H1 (del H D) → H D = some (.lst acc) → acc.length = i → R i acc (del H D) → Y i H x H' → g x (wipe σ vs) H' fun σ2 H2 => wipe σ2 vs = wipe σ vs ∧ tt σ2 H2 fun b H3 =>
      if b = true then te σ2 H3 fun y H4 => ∃ acc, H4 D = some (.lst acc) ∧ acc.length < sizeLine ∧ LcP R H1 D (i + 1) (upd H4 D (.lst (acc ++ [y]))) else LcP R H1 D (i + 1) H3)
    (hd : ∀ acc H, Ex H1 H → Ex H1 (del H D) → H D = some (.lst acc) → acc.length = n → R n acc (del H D) → Qd H) :
    ∃ W : Nat → Nat → Hp → Prop, (∃ m, W 0 m (upd H1 D (.lst []))) ∧ ∀ i m H, W i m H →
      (J.stop i H ∧ Qd H) ∨ (J.go i H ∧ ∃ Nx : Hp → Prop, (∀ H', Nx H' → ∃ m', m' < m ∧ W (i + 1) m' H') ∧ ∀ x H', J.yld i H x H' → g x (wipe σ vs) H' fun σ2 H2 => wipe σ2 vs = wipe σ vs ∧ tt σ2 H2 fun b H3 =>
        if b = true then te σ2 H3 fun y H4 => ∃ acc, H4 D = some (.lst acc) ∧ acc.length < sizeLine ∧ Nx (upd H4 D (.lst (acc ++ [y]))) else Nx H3) := by
  refine lc_it w (LcP R H1 D) ⟨[], ?_, upd_same, rfl, ?_⟩ ?_ ?_ ?_
  · rw [del_none np]
    exact fun _ _ h => h
  · rw [del_none np]
    exact h0
  · rintro i H hi ⟨acc, e, _⟩
    exact hG _ (e.trans ex_del)
  · rintro i x H H' hi ⟨acc, e, hD, hl, r⟩ y
    exact hs i x acc H H' hi (e.trans ex_del) e hD hl r y
  · rintro H ⟨acc, e, hD, hl, r⟩
    exact hd acc H (e.trans ex_del) e hD hl r
end LW

namespace LW
open PySem PySem.Spec L2
open Evl (Ex)
/-! ### small words -/
theorem if_t {c : Bool} {A B : Prop} (hc : c = true) (h : A) : if c = true then A else B := by
  rw [if_pos hc]
  exact h
theorem if_f {c : Bool} {A B : Prop} (hc : c = false) (h : B) : if c = true then A else B := by
  rw [hc, if_neg Bool.false_ne_true]
  exact h
theorem if_b {c : Bool} {A B : Prop} (h1 : c = true → A) (h2 : c = false → B) : if c = true then A else B := by
  cases c with
  | true => exact if_t rfl (h1 rfl)
  | false => exact if_f rfl (h2 rfl)
theorem at_some {α : Type} {xs : List α} {v : Int} (h0 : 0 ≤ v) (h1 : v < xs.length) : ∃ x, atI xs v = some x ∧ x ∈ xs ∧ xs[v.toNat]? = some x := by
  have hj : v.toNat < xs.length := by omega
  refine ⟨xs[v.toNat], ?_, List.getElem_mem hj, by simp [hj]⟩
  have e : ((v.toNat : Nat) : Int) = v := by omega
  have q : atI xs ((v.toNat : Nat) : Int) = some xs[v.toNat] := atI_nat (by simp [hj])
  rw [e] at q
  exact q
abbrev SqLo {K : PySem.W.Frag} {H : Hp} {a : Addr} {xs : List V} (h : H a = some (.lst xs)) : SqL K H a xs := Evl.sq_of h
abbrev SqTo {K : PySem.W.Frag} {H : Hp} {a : Addr} {xs : List V} (h : H a = some (.tup xs)) : SqT K H a xs := Evl.st_of h
/-! ### a statement while a dict is locked, or was locked already -/
def tLockA (t : TS) : TS := fun D σ H => tLock t D σ H ∨ t D σ H
theorem ps_lockA {X : Cx} {st : Stmt} {t : TS} (h : PS X st t) : PS X st (tLockA t) := by
  constructor
  intro pins s σ H D I hw
  rcases hw with hw | hw
  · exact (ps_lock h).run pins s σ H D I hw
  · exact h.run pins s σ H D I hw
theorem ex_unlock {H H' : Hp} {a : Addr} {o : Obj} {u : HO} (h : H a = some u) (e : Ex (upd H a (.frz o u)) H') : Ex H (upd H' a u) := fun b x q => by
  by_cases hb : b = a
  · subst hb
    rw [h] at q
    cases q
    exact upd_same
  · rw [upd_ne hb]
    exact e b x (by rw [upd_ne hb]; exact q)
/-- a returning statement over a dict that is locked or gets locked -/
theorem lockA_ret {t : TS} {D : Ends} {σ : L2.St} {H : Hp} {a : Addr} {u : HO} {y : V} (hu : L2.Rd H a u) (mu : Mut (some u)) (k : ∀ H', Ex H H' → D.rt y H')
    (body : ∀ (Hf : Hp) (o : Obj) (D' : Ends), RdX H Hf → Hf a = some (.frz o u) → (∀ H', Ex Hf H' → D'.rt y H') → t D' σ Hf) : tLockA t D σ H := by
  rcases hu with h | ⟨o, h⟩
  · left
    have nf : NF u := fun o' u' z => by
      rw [z] at mu
      exact mu
    refine ⟨a, u, h, mu, fun od => body _ od _ (rdx_lock h nf) upd_same ?_⟩
    intro H' e
    exact ⟨e _ _ upd_same, k _ (ex_unlock h e)⟩
  · right
    exact body H o D (fun _ _ _ h => h) h k
/-- the same, any result: th H' is the heap behind the unlocking -/
theorem lockA_any {t : TS} {D : Ends} {σ : L2.St} {H : Hp} {a : Addr} {u : HO} (hu : L2.Rd H a u) (mu : Mut (some u))
    (body : ∀ (Hf : Hp) (o : Obj) (D' : Ends) (th : Hp → Hp), RdX H Hf → Hf a = some (.frz o u) → (∀ b, Hf b = none → H b = none) → (∀ H', Ex Hf H' → Ex H (th H') ∧ RdX H' (th H') ∧ ∀ b, b ≠ a → th H' b = H' b) →
      (∀ v H', Ex Hf H' → D.rt v (th H') → D'.rt v H') → (∀ σ' H', Ex Hf H' → D.nx σ' (th H') → D'.nx σ' H') → t D' σ Hf) : tLockA t D σ H := by
  rcases hu with h | ⟨o, h⟩
  · left
    have nf : NF u := fun o' u' z => by
      rw [z] at mu
      exact mu
    refine ⟨a, u, h, mu, fun od => body _ od _ (fun H' => upd H' a u) (rdx_lock h nf) upd_same ?_ ?_ ?_ ?_⟩
    · intro b hb
      by_cases e : b = a
      · rw [e, upd_same] at hb
        cases hb
      · rw [upd_ne e] at hb
        exact hb
    · intro H' e
      exact ⟨ex_unlock h e, rdx_free (e _ _ upd_same), fun b hb => upd_ne hb⟩
    · intro v H' e q
      exact ⟨e _ _ upd_same, q⟩
    · intro v H' e q
      exact ⟨e _ _ upd_same, q⟩
  · right
    exact body H o D (fun H' => H') (fun _ _ _ h => h) h (fun _ h => h) (fun H' e => ⟨e, fun _ _ _ h => h, fun _ _ => rfl⟩) (fun _ _ _ q => q) (fun _ _ _ q => q)
theorem srK {X : Cx} (K : PySem.W.Frag) (h : X.K = K := by rfl) : CallR X (.builtin "sorted") (rSortedS K) := by
  subst h
  exact cr_sortedS
def rStrS : List V → Hp → VK → Prop := fun xs H Q => ∃ a, xs = [.str a] ∧ Q (.str a) H
theorem strS {X : Cx} : CallR X (.type "str") rStrS := SkE.call_str_str
def rLnA (K : PySem.W.Frag) : List V → Hp → VK → Prop := fun xs H Q => rLn K xs H Q ∨ rLnD xs H Q
theorem lnA {X : Cx} (K : PySem.W.Frag) (hK : X.K = K := by rfl) : CallR X (.builtin "len") (rLnA K) := by
  intro pins s σ H xs us Q I r h
  rcases h with h | h
  · exact lnK K hK pins s σ H xs us Q I r h
  · exact lnD pins s σ H xs us Q I r h
theorem pgc {X : Cx} {x : Str} {pos : Pos} {v : V} (hg : Gl X x) (h : ∃ u, X.mg x = some u ∧ RelV v u) (hd : (x == ("__debug__" : Str)) = false := by decide) : PE X (.Name x pos) (tC v) := by
  obtain ⟨u, hm, r⟩ := h
  exact pe_glob hg hm r hd
/-! ### pairs of lists -/
section
variable {α β : Type} {R S : α → β → Prop}
theorem Paired.imp (f : ∀ a b, R a b → S a b) : ∀ {l : List α} {m : List β}, Paired R l m → Paired S l m
  | _, _, .nil => .nil
  | _, _, .cons r t => .cons (f _ _ r) (Paired.imp f t)
theorem Paired.app : ∀ {l l' : List α} {m m' : List β}, Paired R l m → Paired R l' m' → Paired R (l ++ l') (m ++ m')
  | _, _, _, _, .nil, s => s
  | _, _, _, _, .cons r t, s => .cons r (Paired.app t s)
theorem Paired.get : ∀ {l : List α} {m : List β} {i : Nat} {a : α}, Paired R l m → l[i]? = some a → ∃ b, m[i]? = some b ∧ R a b
  | _, _, _, _, .nil, e => by simp at e
  | _, _, 0, _, .cons r _, e => by
    simp at e
    subst e
    exact ⟨_, rfl, r⟩
  | _, _, i + 1, a, .cons _ t, e => by
    obtain ⟨b, h1, h2⟩ := Paired.get (i := i) (a := a) t (by simpa using e)
    exact ⟨b, by simpa using h1, h2⟩
theorem Paired.get' : ∀ {l : List α} {m : List β} {i : Nat} {b : β}, Paired R l m → m[i]? = some b → ∃ a, l[i]? = some a ∧ R a b
  | _, _, _, _, .nil, e => by simp at e
  | _, _, 0, _, .cons r _, e => by
    simp at e
    subst e
    exact ⟨_, rfl, r⟩
  | _, _, i + 1, a, .cons _ t, e => by
    obtain ⟨b, h1, h2⟩ := Paired.get' (i := i) (b := a) t (by simpa using e)
    exact ⟨b, by simpa using h1, h2⟩
theorem Paired.len : ∀ {l : List α} {m : List β}, Paired R l m → l.length = m.length
  | _, _, .nil => rfl
  | _, _, .cons _ t => by simp [Paired.len t]
theorem Paired.of_get : ∀ {l : List α} {m : List β}, l.length = m.length → (∀ (i : Nat) (a : α) (b : β), l[i]? = some a → m[i]? = some b → R a b) → Paired R l m
  | [], [], _, _ => .nil
  | a :: l, b :: m, h, f => .cons (f 0 a b rfl rfl) (Paired.of_get (by simpa using h) fun i x y h1 h2 => f (i + 1) x y (by simpa using h1) (by simpa using h2))
end
end LW

namespace VL
open PySem L2 LW
/-! ### values, plainly -/
mutual
def cnt : PyData → Nat
  | .list ds => 1 + cntL ds
  | .dict kvs => 1 + cntK kvs
  | _ => 1
def cntL : List PyData → Nat
  | [] => 0
  | d :: r => cnt d + cntL r
def cntK : List (PyData × PyData) → Nat
  | [] => 0
  | (_, d) :: r => cnt d + cntK r
end
def low (x : Str) : Bool := x.cps.toList.all fun c => decide (97 ≤ c) && decide (c ≤ 122)
def lets (x : Str) (a b : Nat) : Bool := decide (a ≤ x.length) && decide (x.length ≤ b) && low x
def big : Int := 1000000000000000000000000000000
def fld : PyData → Bool
  | .str x => lets x 1 8
  | _ => false
def okP : PyData → Bool
  | .int i => decide (-big < i) && decide (i < big)
  | .str x => lets x 0 20
  | .list ds => decide (ds.length < 60)
  | .dict kvs => decide (kvs.length ≤ 8) && kvs.all fun p => fld p.1
  | _ => false
mutual
def okA : PyData → Bool
  | .list ds => okP (.list ds) && okL ds
  | .dict kvs => okP (.dict kvs) && okK kvs
  | .none => false
  | .bool _ => false
  | .int i => okP (.int i)
  | .str x => okP (.str x)
  | .tuple _ => false
def okL : List PyData → Bool
  | [] => true
  | d :: r => okA d && okL r
def okK : List (PyData × PyData) → Bool
  | [] => true
  | (_, d) :: r => okA d && okK r
end
def kids : PyData → List PyData
  | .list ds => ds
  | .dict kvs => kvs.map (·.2)
  | _ => []
theorem cntK_eq : ∀ kvs : List (PyData × PyData), cntK kvs = cntL (kvs.map (·.2))
  | [] => by simp [cntK, cntL]
  | (k, d) :: r => by simp [cntK, cntL, cntK_eq r]
theorem okK_eq : ∀ kvs : List (PyData × PyData), okK kvs = okL (kvs.map (·.2))
  | [] => by simp [okK, okL]
  | (k, d) :: r => by simp [okK, okL, okK_eq r]
theorem okL_all : ∀ ds : List PyData, okL ds = ds.all okA
  | [] => by simp [okL]
  | d :: r => by simp [okL, okL_all r]
theorem cntL_sum : ∀ ds : List PyData, cntL ds = (ds.map cnt).sum
  | [] => by simp [cntL]
  | d :: r => by simp [cntL, cntL_sum r]
theorem cnt_kids (d : PyData) : cnt d = 1 + cntL (kids d) := by
  cases d <;> simp [cnt, kids, cntL, cntK_eq]
theorem okA_kids (d : PyData) : okA d = (okP d && okL (kids d)) := by
  cases d <;> simp [okA, okP, kids, okL, okK_eq]
theorem cnt_pos (d : PyData) : 1 ≤ cnt d := by
  rw [cnt_kids]
  omega
theorem cntL_app (xs ys : List PyData) : cntL (xs ++ ys) = cntL xs + cntL ys := by
  rw [cntL_sum, cntL_sum, cntL_sum, List.map_append, List.sum_append]
theorem okL_app (xs ys : List PyData) : okL (xs ++ ys) = (okL xs && okL ys) := by
  rw [okL_all, okL_all, okL_all, List.all_append]
theorem cntL_perm {xs ys : List PyData} (p : xs.Perm ys) : cntL xs = cntL ys := by
  induction p with
  | nil => rfl
  | cons x _ ih => rw [cntL, cntL, ih]
  | swap x y l => simp only [cntL]; omega
  | trans _ _ a b => exact a.trans b
theorem okL_perm {xs ys : List PyData} (p : xs.Perm ys) : okL xs = okL ys := by
  rw [okL_all, okL_all]
  exact p.all_eq
theorem cnt_kid {d c : PyData} (h : c ∈ kids d) : cnt c < cnt d := by
  rw [cnt_kids d]
  have : ∀ (l : List PyData), c ∈ l → cnt c ≤ cntL l := by
    intro l
    induction l with
    | nil => intro h; cases h
    | cons a r ih =>
      intro h
      rw [cntL]
      rcases List.mem_cons.mp h with rfl | h
      · omega
      · have := ih h
        omega
  have := this _ h
  omega
end VL

namespace VL
open PySem L2 LW
open Evl (Ex)
/-! ### records by their names -/
def nm : PyData → Str
  | .str x => x
  | _ => ""
def names (kvs : List (PyData × PyData)) : List Str := kvs.map fun p => nm p.1
def AllStr (kvs : List (PyData × PyData)) : Prop := ∀ p ∈ kvs, p.1 = .str (nm p.1)
def getN : List (PyData × PyData) → Str → PyData
  | [], _ => .none
  | (k, d) :: r, y => if nm k = y then d else getN r y
theorem getN_self : ∀ {kvs : List (PyData × PyData)}, AllStr kvs → (names kvs).Nodup → (names kvs).map (fun y => (PyData.str y, getN kvs y)) = kvs
  | [], _, _ => rfl
  | (k, d) :: r, ha, hn => by
    have hn' : (nm k :: names r).Nodup := hn
    obtain ⟨h1, h2⟩ := List.nodup_cons.mp hn'
    have ih := getN_self (fun p hp => ha p (List.mem_cons_of_mem _ hp)) h2
    show (PyData.str (nm k), getN ((k, d) :: r) (nm k)) :: (names r).map (fun y => (PyData.str y, getN ((k, d) :: r) y)) = (k, d) :: r
    have e1 : getN ((k, d) :: r) (nm k) = d := by
      unfold getN
      rw [if_pos rfl]
    have e2 : PyData.str (nm k) = k := (ha (k, d) List.mem_cons_self).symm
    rw [e1, e2]
    congr 1
    refine Eq.trans ?_ ih
    · apply List.map_congr_left
      intro y hy
      have : nm k ≠ y := fun e => h1 (e ▸ hy)
      show (PyData.str y, if nm k = y then d else getN r y) = _
      rw [if_neg this]
theorem allStr_of {kvs : List (PyData × PyData)} (h : okP (.dict kvs) = true) : AllStr kvs ∧ kvs.length ≤ 8 := by
  have h' : (decide (kvs.length ≤ 8) && kvs.all fun p => fld p.1) = true := h
  rw [Bool.and_eq_true] at h'
  refine ⟨fun p hp => ?_, of_decide_eq_true h'.1⟩
  have q := List.all_eq_true.mp h'.2 p hp
  cases e : p.1 with
  | str x => rfl
  | _ => rw [e] at q; cases q
/-- the names of a tracked dict -/
theorem dtk_names {H : Hp} : ∀ {kvs : List (PyData × PyData)} {es : List (Key × V)}, DtK H kvs es → AllStr kvs → es.map (·.1) = (names kvs).map fun y => (Sum.inr y : Key)
  | [], _, h, _ => by
    unfold DtK at h
    subst h
    rfl
  | (k, d) :: r, _, h, ha => by
    unfold DtK at h
    obtain ⟨x, v, t, rfl, hk, _, h2⟩ := h
    have ih := dtk_names h2 (fun p hp => ha p (List.mem_cons_of_mem _ hp))
    show x :: t.map (·.1) = Sum.inr (nm k) :: (names r).map fun y => (Sum.inr y : Key)
    rw [ih]
    have e := ha (k, d) List.mem_cons_self
    have e' : k = .str (nm k) := e
    congr 1
    cases x with
    | inl i =>
      rw [hk] at e'
      cases e'
    | inr z =>
      rw [hk]
      rfl
theorem nodup_names {H : Hp} {kvs : List (PyData × PyData)} {es : List (Key × V)} (h : DtK H kvs es) (ha : AllStr kvs) (nd : (es.map (·.1)).Nodup) : (names kvs).Nodup := by
  rw [dtk_names h ha] at nd
  exact List.Pairwise.imp (fun h e => h (by rw [e])) (List.pairwise_map.mp nd)
theorem dtk_get {H : Hp} : ∀ {kvs : List (PyData × PyData)} {es : List (Key × V)}, DtK H kvs es → AllStr kvs → ∀ y ∈ names kvs, ∃ v, valV es (Sum.inr y : Key) = some v ∧ Dt H (getN kvs y) v
  | [], _, _, _, y, hy => by cases hy
  | (k, d) :: r, _, h, ha, y, hy => by
    unfold DtK at h
    obtain ⟨x, v, t, rfl, hk, h1, h2⟩ := h
    have e' : k = .str (nm k) := ha (k, d) List.mem_cons_self
    have hx : x = Sum.inr (nm k) := by
      cases x with
      | inl i => rw [hk] at e'; cases e'
      | inr z => rw [hk]; rfl
    by_cases e : nm k = y
    · refine ⟨v, ?_, ?_⟩
      · unfold valV
        rw [List.find?_cons_of_pos (by rw [hx, e]; exact decide_eq_true rfl)]
        rfl
      · unfold getN
        rw [if_pos e]
        exact h1
    · have hy' : y ∈ names r := by
        rcases List.mem_cons.mp (show y ∈ nm k :: names r from hy) with q | q
        · exact (e q.symm).elim
        · exact q
      obtain ⟨u, h3, h4⟩ := dtk_get h2 (fun p hp => ha p (List.mem_cons_of_mem _ hp)) y hy'
      refine ⟨u, ?_, ?_⟩
      · unfold valV at h3 ⊢
        rw [List.find?_cons_of_neg (by rw [hx]; intro q; exact e (Sum.inr.inj (of_decide_eq_true q)))]
        exact h3
      · unfold getN
        rw [if_neg e]
        exact h4
/-! ### the children, step by step -/
def KidsAre (d : PyData) (cs : List (V × PyData)) : Prop := match d with
  | .list ds => cs = (List.range ds.length).zipWith (fun (i : Nat) c => (V.int i, c)) ds
  | .dict kvs => ∃ ys : List Str, ys.Perm (names kvs) ∧ PyProof.Rows.sortedS ys = true ∧ cs = ys.map fun y => (V.str y, getN kvs y)
  | _ => cs = []
theorem kids_perm {d : PyData} {cs : List (V × PyData)} (h : KidsAre d cs) (hn : ∀ kvs, d = .dict kvs → AllStr kvs ∧ (names kvs).Nodup) : (cs.map (·.2)).Perm (kids d) := by
  cases d with
  | list ds =>
    have h : cs = (List.range ds.length).zipWith (fun (i : Nat) c => (V.int i, c)) ds := h
    have e : cs.map (·.2) = ds := by
      rw [h, List.map_zipWith]
      apply List.ext_getElem?
      intro i
      rw [List.getElem?_zipWith]
      by_cases hi : i < ds.length
      · rw [List.getElem?_range hi, List.getElem?_eq_getElem hi]
      · rw [List.getElem?_eq_none (l := ds) (by omega)]
        cases (List.range ds.length)[i]? <;> rfl
    rw [e]
    exact List.Perm.refl _
  | dict kvs =>
    obtain ⟨ys, p, _, rfl⟩ := h
    obtain ⟨ha, nd⟩ := hn kvs rfl
    have q := (p.map (fun y => (PyData.str y, getN kvs y))).trans (List.Perm.of_eq (getN_self ha nd))
    have q2 := q.map (·.2)
    rw [List.map_map] at q2
    rw [List.map_map]
    exact q2
  | _ =>
    have h : cs = [] := h
    subst h
    exact List.Perm.refl _
end VL

namespace VL
open PySem PySem.Spec L2 LW
open Evl (Ex)
def top (i : Nat) : Stmt := PySem.Challenge.pw_latechecks_k01_values.main.body.getD i (.Pass ⟨0, 0, 0, 0⟩)
abbrev s_InvalidValue___init__ : Stmt := inClass (top 2) 0
abbrev s_InvalidPlace___init__ : Stmt := inClass (top 3) 0
abbrev s_InvalidSeen___init__ : Stmt := inClass (top 4) 0
abbrev s_is_integer : Stmt := top 12
abbrev s_is_letters : Stmt := top 13
abbrev s_is_field : Stmt := top 14
abbrev s_is_leaf : Stmt := top 15
abbrev s_is_part : Stmt := top 16
abbrev s_children : Stmt := top 17
abbrev s_is_value : Stmt := top 18
abbrev s_check_value : Stmt := top 19
abbrev s_count : Stmt := top 20
abbrev s_size : Stmt := top 21
abbrev s__law_hand : Stmt := top 23
abbrev s__law_draw : Stmt := top 24
abbrev s__law_word : Stmt := top 25
abbrev s__law_leaf : Stmt := top 26
abbrev s__law_value : Stmt := top 27
abbrev s__law_below : Stmt := top 28
abbrev s__law_part : Stmt := top 29
abbrev s__law_top : Stmt := top 30
abbrev s__law_twin : Stmt := top 31
abbrev s__law_odd : Stmt := top 32
abbrev s__law_put : Stmt := top 33
abbrev s__law_many : Stmt := top 34
abbrev s__law_refused : Stmt := top 35
abbrev s_law : Stmt := top 36
structure Txt (K : PySem.W.Frag) (mg : Str → Option Value) : Prop where
  b_len : mg "len" = none
  b_range : mg "range" = none
  b_isinstance : mg "isinstance" = none
  b_int : mg "int" = none
  b_str : mg "str" = none
  b_bool : mg "bool" = none
  b_list : mg "list" = none
  b_dict : mg "dict" = none
  b_tuple : mg "tuple" = none
  b_all : mg "all" = none
  b_enumerate : mg "enumerate" = none
  b_max : mg "max" = none
  b_min : mg "min" = none
  b_sum : mg "sum" = none
  b_sorted : mg "sorted" = none
  b_repr : mg "repr" = none
  g_LETTERS : ∃ u, mg "LETTERS" = some u ∧ RelV (.str "abcdefghijklmnopqrstuvwxyz") u
  g_GREATEST : ∃ u, mg "GREATEST" = some u ∧ RelV (.int 1000000000000000000000000000000) u
  g_LONGEST_TEXT : ∃ u, mg "LONGEST_TEXT" = some u ∧ RelV (.int 20) u
  g_LONGEST_NAME : ∃ u, mg "LONGEST_NAME" = some u ∧ RelV (.int 8) u
  g_MOST_FIELDS : ∃ u, mg "MOST_FIELDS" = some u ∧ RelV (.int 8) u
  g_MOST_PLACES : ∃ u, mg "MOST_PLACES" = some u ∧ RelV (.int 60) u
section
variable {P : Program} {w : World} {K : PySem.W.Frag} {mg : Str → Option Value} {base : Heap}
/-! ### _law_draw -/
def spDraw : Sp := fun vs H Q _ => ∃ (p : Addr) (n : Int), vs = [.ref p, .int n] ∧ Pool H p ∧ 0 < n ∧ n ≤ 10000000000000000000000000000000 ∧ ∀ v : Int, 0 ≤ v → v < n → Q (.int v) H
theorem sc__law_draw : FnScope ["_law_pool", "_law_many_here", "_law_found"] ["_law_pool", "_law_many_here"] (defScope s__law_draw) := ⟨rfl, rfl, rfl, by decide +kernel, rfl, by decide +kernel, by decide +kernel⟩
theorem bi__law_draw : BindsEq "_law_draw" s__law_draw ["_law_pool", "_law_many_here"] := fun _ _ _ _ _ _ us hl => match us, hl with | [_, _], _ => rfl
theorem ok_draw (F : Df K mg "_law_draw" s__law_draw) (T : Txt K mg) : Cal P w K mg base CX0 1 "_law_draw" spDraw := by
  refine cal0 F sc__law_draw bi__law_draw (fun vs H Q E h => ?_) (fun f cdv A outer s H vs Q E hr h => ?_)
  · obtain ⟨p, n, rfl, _⟩ := h
    rfl
  · obtain ⟨p, n, rfl, hp, n0, n1, k⟩ := h
    refine ⟨_, pss_focus (pss_cons (ps_if (pt_cmpR op_gt (pe_ix (ixl K) (pv 0) pe_int (fun _ _ => rfl)) pe_int (nomark _)) (pss_cons (ps_set (i := 2) sc__law_draw.nd rfl (Or.inl rfl) (pe_op op_mod (pe_callTy call_int1 rfl T.b_int (by decide +kernel) (pa_cons (pe_ix (ixl K) (pv 0) pe_int (fun _ _ => rfl)) pa_nil)) (pv 1)))
 (pss_cons (ps_asg (pe_op op_fdivW (pe_ix (ixl K) (pv 0) pe_int (fun _ _ => rfl)) (pv 1)) (pg_sub (pv 0) pe_int set_list))
 (pss_one (ps_ret (pv 2))))) pss_nil)
 (pss_cons (ps_asg (pe_op op_mod (pe_callTy call_int1 rfl T.b_int (by decide +kernel) (pa_cons (pe_op op_add (pe_op op_mul (pe_ix (ixl K) (pv 0) pe_int (fun _ _ => rfl)) pe_int) pe_int) pa_nil)) pe_int) (pg_sub (pv 0) pe_int set_list))
 (pss_one (ps_ret (pe_op op_mod (pe_op op_fdivW (pe_op op_mod (pe_callTy call_int1 rfl T.b_int (by decide +kernel) (pa_cons (pe_op op_mul (pe_ix (ixl K) (pv 0) pe_int (fun _ _ => rfl)) (pe_ix (ixl K) (pv 0) pe_int (fun _ _ => rfl))) pa_nil)) pe_int) pe_int) (pv 1)))))), ?_⟩
    refine ⟨p, hp, fun a b a0 b0 b1 => ?_⟩
    have hd : CDivW a n := wide_div (b := 110) n0 (by omega) (by decide) (by decide)
    have sq : ∀ x y : Int, SqL K (upd H p (.lst [.int x, .int y])) p [.int x, .int y] := fun x y => Evl.sq_of upd_same
    have a0' : ∀ x y : V, atI [x, y] 0 = some x := fun _ _ => rfl
    have a1' : ∀ x y : V, atI [x, y] 1 = some y := fun _ _ => rfl
    refine ⟨_, rfl, p, _, _, _, rfl, rfl, sq a b, a0' _ _, _, _, rfl, rfl, _, rfl, ?_⟩
    refine ite2 (fun h => ?_) (fun h => ?_)
    · have h : 0 < a := of_decide_eq_true h
      refine ⟨_, rfl, p, _, _, _, rfl, rfl, sq a b, a0' _ _, .inl ⟨_, rfl, _, rfl, _, _, rfl, rfl, n0, ?_⟩⟩
      refine ⟨_, rfl, p, _, _, _, rfl, rfl, sq a b, a0' _ _, _, rfl, _, _, rfl, rfl, hd, _, rfl, p, _, _, 0, rfl, rfl, upd_same, rfl, ?_⟩
      refine ⟨_, rfl, a / n, b, upd_same, ?_, b0, b1, ?_⟩
      · exact Int.ediv_nonneg a0 (by omega)
      · rw [upd_upd, upd_back hp]
        exact k _ (Int.emod_nonneg _ (by omega)) (Int.emod_lt_of_pos _ n0)
    · refine ⟨_, rfl, p, _, _, _, rfl, rfl, sq a b, a1' _ _, _, _, rfl, rfl, .inl ⟨by omega, by omega⟩, _, _, rfl, rfl, .inl ⟨_, rfl, _, _, rfl, rfl, (by show (0 : Int) < 2147483647; decide), ?_⟩⟩
      have c0 : 0 ≤ (b * 48271 + 11) % 2147483647 := Int.emod_nonneg _ (by decide)
      have c1 : (b * 48271 + 11) % 2147483647 < 2147483647 := Int.emod_lt_of_pos _ (by decide)
      refine ⟨_, rfl, p, _, _, 1, rfl, rfl, upd_same, rfl, ?_⟩
      rw [upd_upd]
      refine ⟨_, rfl, p, _, _, _, rfl, rfl, sq a ((b * 48271 + 11) % 2147483647), a1' _ _, _, rfl, p, _, _, _, rfl, rfl, sq a ((b * 48271 + 11) % 2147483647), a1' _ _, _, _, rfl, rfl, .inl ⟨by omega, by omega⟩, .inl ⟨_, rfl, _, _, rfl, rfl, (by show (0 : Int) < 2147483629; decide), _, _, rfl, rfl, ⟨by decide, by decide⟩, _, rfl, _, _, rfl, rfl, n0, ?_⟩⟩
      refine ⟨a, _, upd_same, a0, c0, c1, ?_⟩
      rw [upd_back hp]
      exact k _ (Int.emod_nonneg _ (by omega)) (Int.emod_lt_of_pos _ n0)
/-! ### _law_hand -/
theorem cut_mem {xs : List V} {lo hi : Option Int} {v : V} (h : v ∈ cutV xs lo hi) : v ∈ xs := List.mem_of_mem_drop (List.mem_of_mem_take h)
def spHand (K : PySem.W.Frag) : Sp := fun vs H Q _ => ∃ (a : Addr) (ns : List Int) (k : Int), vs = [.ref a, .int k] ∧ SqL K H a (ns.map V.int) ∧ ns.length ≤ 63 ∧ 0 ≤ k ∧ k ≤ 63 ∧ ∀ p H', H p = none → Ex H H' → Pool H' p → Q (.ref p) H'
theorem sc__law_hand : FnScope ["_law_script", "_law_k", "_law_cell", "_law_seed"] ["_law_script", "_law_k"] (defScope s__law_hand) := ⟨rfl, rfl, rfl, by decide +kernel, rfl, by decide +kernel, by decide +kernel⟩
theorem bi__law_hand : BindsEq "_law_hand" s__law_hand ["_law_script", "_law_k"] := fun _ _ _ _ _ _ us hl => match us, hl with | [_, _], _ => rfl
theorem ok_hand (F : Df K mg "_law_hand" s__law_hand) (T : Txt K mg) : Cal P w K mg base CX0 1 "_law_hand" (spHand K) := by
  refine cal0 F sc__law_hand bi__law_hand (fun vs H Q E h => ?_) (fun f cdv A outer s H vs Q E hr h => ?_)
  · obtain ⟨a, ns, j, rfl, _⟩ := h
    rfl
  · obtain ⟨a, ns, j, rfl, hS, hl, j0, j1, k⟩ := h
    refine ⟨_, (pss_cons (ps_set (i := 2) sc__law_hand.nd rfl (Or.inl rfl) (pe_ix (ixl K) (pe_op op_cat (pe_slice (slK K) (pv 0) (po_some (pv 1)) (po_some (pe_op op_add (pv 1) pe_int))) (pe_lst (pa_cons pe_int pa_nil))) pe_int (fun _ _ => rfl)))
 (pss_cons (ps_set (i := 3) sc__law_hand.nd rfl (Or.inl rfl) (pe_op op_mod (pe_op op_mul (pe_op op_add (pe_op op_add (pe_op op_mod (pe_callTy call_int1 rfl T.b_int (by decide +kernel) (pa_cons (pv 2) pa_nil)) pe_int) (pe_op op_mul pe_int (pv 1))) pe_int) pe_int) pe_int))
 (pss_one (ps_retPool (pe_lst (pa_cons (pe_op op_mul (pe_callTy call_int1 rfl T.b_int (by decide +kernel) (pa_cons (pe_cmpR op_ge (pv 2) (pe_op op_pow pe_int pe_int) (nomark _)) pa_nil)) (pv 2)) (pa_cons (pv 3) pa_nil))))))), ?_⟩
    refine ⟨_, rfl, _, rfl, _, rfl, _, rfl, _, _, rfl, rfl, _, rfl, a, _, rfl, hS, fun p1 np1 => ?_⟩
    obtain ⟨H1, hH1, x0_1, h1⟩ := newH _ np1
    rw [hH1]
    clear hH1
    have f1 := np1
    refine ⟨szl (by show 1 ≤ 100000; decide), fun p2 np2 => ?_⟩
    obtain ⟨H2, hH2, x1_2, h2⟩ := newH _ np2
    rw [hH2]
    clear hH2
    have x0_2 := x0_1.trans x1_2
    have f2 := ex_free x0_1 np2
    have hlen := cutV_length (ns.map V.int) (some j) (some (j + 1))
    rw [List.length_map] at hlen
    refine ⟨p1, p2, _, _, rfl, rfl, x1_2 _ _ h1, h2, szl (by show _ + 1 ≤ 100000; omega), fun p3 np3 => ?_⟩
    obtain ⟨H3, hH3, x2_3, h3⟩ := newH _ np3
    rw [hH3]
    clear hH3
    have x0_3 := x0_2.trans x2_3
    have x1_3 := x1_2.trans x2_3
    have f3 := ex_free x0_2 np3
    obtain ⟨c, hc⟩ : ∃ c : Int, atI (cutV (ns.map V.int) (some j) (some (j + 1)) ++ [V.int 0]) 0 = some (V.int c) := by
      obtain ⟨x, hx, hm, _⟩ := at_some (xs := cutV (ns.map V.int) (some j) (some (j + 1)) ++ [V.int 0]) (v := 0) (by decide) (by rw [List.length_append]; show (0 : Int) < ((_ + 1 : Nat) : Int); omega)
      rcases List.mem_append.mp hm with q | q
      · obtain ⟨c, _, e⟩ := List.mem_map.mp (cut_mem q)
        exact ⟨c, by rw [hx, e]⟩
      · have e : x = V.int 0 := by simpa using q
        exact ⟨0, by rw [hx, e]⟩
    refine ⟨p3, _, _, _, rfl, rfl, SqLo h3, hc, ?_⟩
    -- _law_seed
    refine ⟨_, rfl, .inl ⟨_, rfl, _, _, rfl, rfl, (by show (0 : Int) < 2147483647; decide), ?_⟩⟩
    have m0 : 0 ≤ c % 2147483647 := Int.emod_nonneg _ (by decide)
    have m1 : c % 2147483647 < 2147483647 := Int.emod_lt_of_pos _ (by decide)
    refine ⟨_, rfl, _, _, rfl, rfl, .inl ⟨by decide, by decide⟩, _, _, rfl, rfl, _, _, rfl, rfl, _, _, rfl, rfl, .inr ⟨by decide, by decide⟩, _, _, rfl, rfl, (by show (0 : Int) < 2147483629; decide), ?_⟩
    -- return
    refine ⟨_, rfl, _, _, rfl, rfl, ⟨by decide, by decide, by decide⟩, _, _, rfl, rfl, .inr ⟨_, rfl, _, rfl, _, _, rfl, rfl, .inl ?_, ?_⟩⟩
    · split <;> exact ⟨by decide, by decide⟩
    refine ⟨_, rfl, szl (by show 2 ≤ 100000; decide), fun p4 np4 => ?_⟩
    obtain ⟨H4, hH4, x3_4, h4⟩ := newH _ np4
    rw [hH4]
    clear hH4
    have x0_4 := x0_3.trans x3_4
    have x1_4 := x1_3.trans x3_4
    have x2_4 := x2_3.trans x3_4
    have f4 := ex_free x0_3 np4
    have np : H p4 = none := ex_free x0_3 np4
    refine ⟨p4, _, _, rfl, h4, ?_, ?_, ?_, k p4 _ np ?_ upd_same⟩
    · by_cases hb : (10 : Int) ^ (18 : Int).toNat ≤ c
      · rw [decide_eq_true hb]
        show 0 ≤ 1 * c
        have : (0 : Int) ≤ 10 ^ (18 : Int).toNat := by decide
        omega
      · rw [decide_eq_false hb]
        show 0 ≤ 0 * c
        omega
    · exact Int.emod_nonneg _ (by decide)
    · exact Int.lt_trans (Int.emod_lt_of_pos _ (by decide)) (by decide)
    · exact Ex.mut x0_4 np
/-! ### is_integer -/
def isI : PyData → Bool
  | .int _ => true
  | _ => false
def spIsInt : Sp := fun vs H Q _ => ∃ v d, vs = [v] ∧ Dt H d v ∧ Q (.bl (isI d)) H
theorem sc_is_integer : FnScope ["thing"] ["thing"] (defScope s_is_integer) := ⟨rfl, rfl, rfl, by decide +kernel, rfl, by decide +kernel, by decide +kernel⟩
theorem bi_is_integer : BindsEq "is_integer" s_is_integer ["thing"] := fun _ _ _ _ _ _ us hl => match us, hl with | [_], _ => rfl
theorem ok_isint (F : Df K mg "is_integer" s_is_integer) (T : Txt K mg) : Cal P w K mg base CX0 1 "is_integer" spIsInt := by
  refine cal0 F sc_is_integer bi_is_integer (fun vs H Q E h => ?_) (fun f cdv A outer s H vs Q E hr h => ?_)
  · obtain ⟨v, d, rfl, _⟩ := h
    rfl
  · obtain ⟨v, d, rfl, hd, k⟩ := h
    refine ⟨_, (pss_one (ps_ret (pe_and (pe_callB (isD K) rfl T.b_isinstance (by decide +kernel) (pa_cons (pv 0) (pa_cons (pe_bltn (v := .ty "int") rfl T.b_int (by decide +kernel) rfl) pa_nil))) (pe_one (pe_not (pe_callB (isD K) rfl T.b_isinstance (by decide +kernel) (pa_cons (pv 0) (pa_cons (pe_bltn (v := .ty "bool") rfl T.b_bool (by decide +kernel) rfl) pa_nil)))))))), ?_⟩
    cases d with
    | bool b => exact ⟨v, rfl, v, _, _, true, rfl, hd, rfl, _, rfl, if_t rfl ⟨v, rfl, v, _, _, true, rfl, hd, rfl, _, rfl, k⟩⟩
    | int i => exact ⟨v, rfl, v, _, _, true, rfl, hd, rfl, _, rfl, if_t rfl ⟨v, rfl, v, _, _, false, rfl, hd, rfl, _, rfl, k⟩⟩
    | none => exact ⟨v, rfl, v, _, _, false, rfl, hd, rfl, _, rfl, if_f rfl k⟩
    | str x => exact ⟨v, rfl, v, _, _, false, rfl, hd, rfl, _, rfl, if_f rfl k⟩
    | list x => exact ⟨v, rfl, v, _, _, false, rfl, hd, rfl, _, rfl, if_f rfl k⟩
    | tuple x => exact ⟨v, rfl, v, _, _, false, rfl, hd, rfl, _, rfl, if_f rfl k⟩
    | dict x => exact ⟨v, rfl, v, _, _, false, rfl, hd, rfl, _, rfl, if_f rfl k⟩
/-! ### is_letters -/
def letD (d : PyData) (a b : Nat) : Bool := match d with
  | .str x => lets x a b
  | _ => false
def spLets : Sp := fun vs H Q _ => ∃ (v : V) (d : PyData) (a b : Nat), vs = [v, .int a, .int b] ∧ Dt H d v ∧ b ≤ 1000 ∧ (∀ x, d = .str x → x.length ≤ sizeLine) ∧ ∀ H', Ex H H' → Q (.bl (letD d a b)) H'
theorem sc_is_letters : FnScope ["thing", "least", "most", "sign"] ["thing", "least", "most"] (defScope s_is_letters) := ⟨rfl, rfl, rfl, by decide +kernel, rfl, by decide +kernel, by decide +kernel⟩
theorem bi_is_letters : BindsEq "is_letters" s_is_letters ["thing", "least", "most"] := fun _ _ _ _ _ _ us hl => match us, hl with | [_, _, _], _ => rfl
theorem letters_mem (c : Nat) : decide (c ∈ ("abcdefghijklmnopqrstuvwxyz" : Str).cps.toList) = (decide (97 ≤ c) && decide (c ≤ 122)) := by
  have e : ("abcdefghijklmnopqrstuvwxyz" : Str).cps.toList = (List.range 26).map (· + 97) := by decide +kernel
  rw [e]
  by_cases h : 97 ≤ c ∧ c ≤ 122
  · rw [decide_eq_true h.1, decide_eq_true h.2]
    exact decide_eq_true (List.mem_map.mpr ⟨c - 97, List.mem_range.mpr (by omega), by omega⟩)
  · have : ¬ c ∈ (List.range 26).map (· + 97) := fun hm => by
      obtain ⟨a, h1, h2⟩ := List.mem_map.mp hm
      have := List.mem_range.mp h1
      omega
    rw [decide_eq_false this]
    by_cases h1 : 97 ≤ c
    · rw [decide_eq_true h1, decide_eq_false (by omega)]
      rfl
    · rw [decide_eq_false h1]
      rfl
theorem ok_lets (F : Df K mg "is_letters" s_is_letters) (T : Txt K mg) : Cal P w K mg base CX0 1 "is_letters" spLets := by
  refine cal0 F sc_is_letters bi_is_letters (fun vs H Q E h => ?_) (fun f cdv A outer s H vs Q E hr h => ?_)
  · obtain ⟨v, d, a, b, rfl, _⟩ := h
    rfl
  · obtain ⟨v, d, a, b, rfl, hd, hb, hx, k⟩ := h
    refine ⟨_, (pss_cons (ps_if (PW.pt (pw_or (pt_not (pt_val (pe_callB (isD K) rfl T.b_isinstance (by decide +kernel) (pa_cons (pv 0) (pa_cons (pe_bltn (v := .ty "str") rfl T.b_str (by decide +kernel) rfl) pa_nil))))) (pw_or1 (pt_not (pt_chain op_le op_le (pv 1) (pe_callB (lnK K) rfl T.b_len (by decide +kernel) (pa_cons (pv 0) pa_nil)) (pv 2)))))) (pss_one (ps_ret pe_bl)) pss_nil)
 (pss_one (ps_ret (pe_callB (allK K rfl) rfl T.b_all (by decide +kernel) (pa_cons (pe_lc (own := [("sign", 3)]) (by rfl) sc_is_letters.nd (pi_str (pv 0)) (blkOk_by (own := [("sign", 3)]) (N := ["thing", "least", "most", "sign"]) (sc := defScope s_is_letters) (by decide +kernel)) (fun _ _ _ _ _ => (pg_name (i := 3) sc_is_letters.nd rfl (Or.inl rfl))) (fun _ _ _ _ _ => pts_nil) (fun _ _ _ _ _ => (pe_cmpR op_in_sign (pv 3) (pgc rfl T.g_LETTERS) (by rfl)))) pa_nil))))), ?_⟩
    cases d with
    | str x =>
      have hv : v = .str x := by unfold Dt at hd; exact hd
      have hz := hx x rfl
      refine ⟨v, rfl, v, _, _, true, rfl, hd, rfl, _, rfl, if_f rfl ?_⟩
      subst hv
      refine ⟨_, rfl, _, rfl, .str x, x.length, rfl, ⟨hz, rfl⟩, _, _, rfl, rfl, _, rfl, if_b (fun h1 => ?_) (fun h1 => ?_)⟩
      · refine ⟨_, rfl, _, _, rfl, rfl, _, rfl, if_b (fun h2 => ?_) (fun h2 => ?_)⟩
        · have e : letD (.str x) a b = false := by
            have h2 : ¬ x.length ≤ b := fun q => by
              rw [decide_eq_true (show (x.length : Int) ≤ b by omega)] at h2
              cases h2
            show (decide (a ≤ x.length) && decide (x.length ≤ b) && low x) = false
            rw [decide_eq_false h2, Bool.and_false, Bool.false_and]
          have q := k H (fun _ _ h => h)
          rw [e] at q
          exact q
        · have h1 : a ≤ x.length := by
            have := of_decide_eq_true h1
            omega
          have h2 : x.length ≤ b := by
            have h2 : decide ((x.length : Int) ≤ b) = true := by simpa using h2
            have := of_decide_eq_true h2
            omega
          refine ⟨_, rfl, x, rfl, fun D nD => lc_gr walk_str (fun i acc _ => acc = (x.cps.toList.take i).map fun c => V.bl (decide (97 ≤ c) && decide (c ≤ 122))) nD (by show x.length ≤ 100000; omega) rfl (fun _ _ => True.intro) ?_ ?_⟩
          · rintro i v acc H1 H2 hi e e' hD hl rfl ⟨rfl, c, hc, rfl⟩
            refine ⟨rfl, _, rfl, c, _, rfl, rfl, lc_put e' hD hl (by have : i < x.length := hi; omega) (fun _ _ h => h) ?_⟩
            rw [letters_mem, List.take_add_one, List.map_append, Array.getElem?_toList, hc]
            rfl
          · rintro acc H1 e e' hD hl rfl
            refine ⟨D, x.cps.toList.map fun c => decide (97 ≤ c) && decide (c ≤ 122), rfl, ?_, ?_⟩
            · have e1 : x.cps.toList.take x.cps.size = x.cps.toList := List.take_of_length_le (by simp)
              rw [e1] at hD
              rw [List.map_map]
              exact SqLo hD
            · have q := k _ e
              have e2 : letD (.str x) a b = ((x.cps.toList.map fun c => decide (97 ≤ c) && decide (c ≤ 122)).all id) := by
                show (decide (a ≤ x.length) && decide (x.length ≤ b) && low x) = _
                rw [decide_eq_true h1, decide_eq_true h2, List.all_map]
                rfl
              rw [e2] at q
              exact q
      · refine ⟨_, rfl, if_t rfl ?_⟩
        have e : letD (.str x) a b = false := by
          have h1 : ¬ a ≤ x.length := fun q => by
            rw [decide_eq_true (show (a : Int) ≤ x.length by omega)] at h1
            cases h1
          show (decide (a ≤ x.length) && decide (x.length ≤ b) && low x) = false
          rw [decide_eq_false h1, Bool.false_and, Bool.false_and]
        have q := k H (fun _ _ h => h)
        rw [e] at q
        exact q
    | _ => exact ⟨v, rfl, v, _, _, false, rfl, hd, rfl, _, rfl, if_t rfl (if_t rfl (k H (fun _ _ h => h)))⟩
end
end VL

namespace VL
open PySem PySem.Spec L2 LW
open Evl (Ex)
section
variable {P : Program} {w : World} {K : PySem.W.Frag} {mg : Str → Option Value} {base : Heap}
/-! ### is_field -/
def spField : Sp := fun vs H Q _ => ∃ (v : V) (d : PyData), vs = [v] ∧ Dt H d v ∧ (∀ x, d = .str x → x.length ≤ sizeLine) ∧ ∀ H', Ex H H' → Q (.bl (fld d)) H'
theorem fld_eq (d : PyData) : letD d 1 8 = fld d := by cases d <;> rfl
theorem sc_is_field : FnScope ["thing"] ["thing"] (defScope s_is_field) := ⟨rfl, rfl, rfl, by decide +kernel, rfl, by decide +kernel, by decide +kernel⟩
theorem bi_is_field : BindsEq "is_field" s_is_field ["thing"] := fun _ _ _ _ _ _ us hl => match us, hl with | [_], _ => rfl
theorem ok_field (F : Df K mg "is_field" s_is_field) (T : Txt K mg) (C_is_letters : Cal P w K mg base CX0 1 "is_letters" spLets) : Cal P w K mg base CX0 2 "is_field" spField := by
  refine cal0 F sc_is_field bi_is_field (fun vs H Q E h => ?_) (fun f cdv A outer s H vs Q E hr h => ?_)
  · obtain ⟨v, d, rfl, _⟩ := h
    rfl
  · obtain ⟨v, d, rfl, hd, hx, k⟩ := h
    refine ⟨_, (pss_one (ps_ret (pe_k C_is_letters hr (by decide) rfl (pa_cons (pv 0) (pa_cons pe_int (pa_cons (pgc rfl T.g_LONGEST_NAME) pa_nil)))))), ?_⟩
    refine ⟨v, rfl, v, d, 1, 8, rfl, hd, by decide, hx, fun H' e => ?_⟩
    rw [fld_eq]
    exact k H' e
/-! ### is_leaf -/
def leafD (d : PyData) : Bool := match d with
  | .int i => okP (.int i)
  | .str x => okP (.str x)
  | _ => false
def spIsLeaf : Sp := fun vs H Q _ => ∃ (v : V) (d : PyData), vs = [v] ∧ Dt H d v ∧ (∀ x, d = .str x → x.length ≤ sizeLine) ∧ ∀ H', Ex H H' → Q (.bl (leafD d)) H'
theorem sc_is_leaf : FnScope ["thing"] ["thing"] (defScope s_is_leaf) := ⟨rfl, rfl, rfl, by decide +kernel, rfl, by decide +kernel, by decide +kernel⟩
theorem bi_is_leaf : BindsEq "is_leaf" s_is_leaf ["thing"] := fun _ _ _ _ _ _ us hl => match us, hl with | [_], _ => rfl
theorem ok_isleaf (F : Df K mg "is_leaf" s_is_leaf) (T : Txt K mg) (C_is_integer : Cal P w K mg base CX0 1 "is_integer" spIsInt) (C_is_letters : Cal P w K mg base CX0 1 "is_letters" spLets) : Cal P w K mg base CX0 2 "is_leaf" spIsLeaf := by
  refine cal0 F sc_is_leaf bi_is_leaf (fun vs H Q E h => ?_) (fun f cdv A outer s H vs Q E hr h => ?_)
  · obtain ⟨v, d, rfl, _⟩ := h
    rfl
  · obtain ⟨v, d, rfl, hd, hx, k⟩ := h
    refine ⟨_, (pss_cons (ps_if (pt_val (pe_k C_is_integer hr (by decide) rfl (pa_cons (pv 0) pa_nil))) (pss_one (ps_ret (pe_chain op_lt op_lt (pe_un un_neg (pgc rfl T.g_GREATEST)) (pv 0) (pgc rfl T.g_GREATEST)))) pss_nil)
 (pss_one (ps_ret (pe_k C_is_letters hr (by decide) rfl (pa_cons (pv 0) (pa_cons pe_int (pa_cons (pgc rfl T.g_LONGEST_TEXT) pa_nil))))))), ?_⟩
    refine ⟨v, rfl, v, d, rfl, hd, _, rfl, ?_⟩
    cases d with
    | int i =>
      have hv : v = .int i := by unfold Dt at hd; exact hd
      subst hv
      refine if_t rfl ?_
      have e : leafD (.int i) = (decide (-big < i) && decide (i < big)) := rfl
      have q := k H (fun _ _ h => h)
      rw [e] at q
      refine ⟨_, rfl, _, rfl, _, _, rfl, rfl, _, rfl, if_b (fun h1 => ?_) (fun h1 => ?_)⟩
      · refine ⟨_, _, rfl, rfl, ?_⟩
        rw [show decide (-big < i) = true from h1, Bool.true_and] at q
        exact q
      · rw [show decide (-big < i) = false from h1, Bool.false_and] at q
        exact q
    | _ =>
      refine if_f rfl ?_
      refine ⟨v, rfl, v, _, 0, 20, rfl, hd, by decide, hx, fun H' e => ?_⟩
      exact k H' e
/-! ### is_part -/
theorem dt_key {H : Hp} (k : Key) : Dt H (kD k) (kV k) := by
  cases k <;> (unfold kD kV Dt; rfl)
theorem DtK.keys {H : Hp} : ∀ {kvs : List (PyData × PyData)} {es : List (Key × V)}, DtK H kvs es → DtL H (kvs.map (·.1)) (es.map fun p => kV p.1)
  | [], _, h => by
    unfold DtK at h
    subst h
    exact DtL.nil
  | (k, d) :: r, _, h => by
    unfold DtK at h
    obtain ⟨x, v, t, rfl, rfl, _, h2⟩ := h
    exact DtL.cons (dt_key x) (DtK.keys h2)
theorem DtK.len {H : Hp} : ∀ {kvs : List (PyData × PyData)} {es : List (Key × V)}, DtK H kvs es → es.length = kvs.length
  | [], _, h => by
    unfold DtK at h
    subst h
    rfl
  | (k, d) :: r, _, h => by
    unfold DtK at h
    obtain ⟨x, v, t, rfl, rfl, _, h2⟩ := h
    rw [List.length_cons, List.length_cons, DtK.len h2]
/-- a dict's object and its keys -/
theorem dict_keys {H : Hp} {kvs : List (PyData × PyData)} {v : V} (h : Dt H (.dict kvs) v) : ∃ a u ks, v = .ref a ∧ L2.Rd H a u ∧ Mut (some u) ∧ KeysAre a u ks ∧ ks.length = kvs.length ∧ (∀ Hf, RdX H Hf → DtL Hf (kvs.map (·.1)) ks) ∧
    ∀ (Hf : Hp) (Q : VK), L2.Rd Hf a u → Q (.int kvs.length) Hf → rLnD [.ref a] Hf Q := by
  unfold Dt at h
  obtain ⟨a, rfl, ⟨es, ha, nd, hl⟩ | ⟨k, x, ha, hl⟩⟩ := h
  · refine ⟨a, _, _, rfl, ha, True.intro, .inl ⟨es, rfl, rfl⟩, ?_, fun Hf e => (DtK.keys hl).rdx e, fun Hf Q hf q => ⟨a, rfl, .inl ⟨es, hf, ?_⟩⟩⟩
    · rw [List.length_map, DtK.len hl]
    · rw [DtK.len hl]
      exact q
  · match kvs, hl with
    | [], hl =>
      unfold DtO at hl
      exact hl.elim
    | (kd, vd) :: r, hl =>
      unfold DtO at hl
      obtain ⟨rfl, _, h1, h2⟩ := hl
      exact ⟨a, _, _, rfl, ha, True.intro, .inr ⟨k, x, rfl, rfl⟩, rfl, fun Hf e => DtL.cons (h1.rdx e) DtL.nil, fun Hf Q hf q => ⟨a, rfl, .inr ⟨k, x, hf, q⟩⟩⟩
def SzD (d : PyData) : Prop := (∀ x, d = .str x → x.length ≤ sizeLine) ∧ ∀ kvs, d = .dict kvs → ∀ p ∈ kvs, ∀ x, p.1 = .str x → x.length ≤ sizeLine
def spPart : Sp := fun vs H Q _ => ∃ (v : V) (d : PyData), vs = [v] ∧ Dt H d v ∧ SzD d ∧ ∀ H', Ex H H' → Q (.bl (okP d)) H'
theorem sc_is_part : FnScope ["thing", "name"] ["thing"] (defScope s_is_part) := ⟨rfl, rfl, rfl, by decide +kernel, rfl, by decide +kernel, by decide +kernel⟩
theorem bi_is_part : BindsEq "is_part" s_is_part ["thing"] := fun _ _ _ _ _ _ us hl => match us, hl with | [_], _ => rfl
theorem ok_part (F : Df K mg "is_part" s_is_part) (T : Txt K mg) (C_is_leaf : Cal P w K mg base CX0 2 "is_leaf" spIsLeaf) (C_is_field : Cal P w K mg base CX0 2 "is_field" spField) : Cal P w K mg base CX0 3 "is_part" spPart := by
  refine cal0 F sc_is_part bi_is_part (fun vs H Q E h => ?_) (fun f cdv A outer s H vs Q E hr h => ?_)
  · obtain ⟨v, d, rfl, _⟩ := h
    rfl
  · obtain ⟨v, d, rfl, hd, hx, k⟩ := h
    refine ⟨_, (pss_cons (ps_if (pt_val (pe_callB (isD K) rfl T.b_isinstance (by decide +kernel) (pa_cons (pv 0) (pa_cons (pe_bltn (v := .ty "list") rfl T.b_list (by decide +kernel) rfl) pa_nil)))) (pss_one (ps_ret (pe_cmpR op_lt (pe_callB (lnA K) rfl T.b_len (by decide +kernel) (pa_cons (pv 0) pa_nil)) (pgc rfl T.g_MOST_PLACES) (nomark _)))) pss_nil)
 (pss_cons (ps_if (pt_val (pe_callB (isD K) rfl T.b_isinstance (by decide +kernel) (pa_cons (pv 0) (pa_cons (pe_bltn (v := .ty "dict") rfl T.b_dict (by decide +kernel) rfl) pa_nil)))) (pss_one (ps_lockA (ps_ret (pe_and (pe_cmpR op_le (pe_callB (lnA K) rfl T.b_len (by decide +kernel) (pa_cons (pv 0) pa_nil)) (pgc rfl T.g_MOST_FIELDS) (nomark _)) (pe_one (pe_callB (allK K rfl) rfl T.b_all (by decide +kernel) (pa_cons (pe_lc (own := [("name", 1)]) (by rfl) sc_is_part.nd (pi_ka (pv 0)) (blkOk_by (own := [("name", 1)]) (N := ["thing", "name"]) (sc := defScope s_is_part) (by decide +kernel)) (fun _ _ _ _ _ => (pg_name (i := 1) sc_is_part.nd rfl (Or.inl rfl))) (fun _ _ _ _ _ => pts_nil) (fun _ _ _ _ _ => (pe_k C_is_field hr (by decide) rfl (pa_cons (pv 1) pa_nil)))) pa_nil))))))) pss_nil)
 (pss_one (ps_ret (pe_k C_is_leaf hr (by decide) rfl (pa_cons (pv 0) pa_nil)))))), ?_⟩
    cases d with
    | list ds =>
      refine ⟨v, rfl, v, _, _, true, rfl, hd, rfl, _, rfl, if_t rfl ?_⟩
      unfold Dt at hd
      obtain ⟨a, vs, rfl, ha, hl⟩ := hd
      refine ⟨_, rfl, .inl ⟨_, vs.length, rfl, .inl ⟨vs, .inl ha, rfl⟩, _, _, rfl, rfl, ?_⟩⟩
      have q := k H (fun _ _ h => h)
      have e : okP (.list ds) = decide ((vs.length : Int) < 60) := by
        show decide (ds.length < 60) = _
        rw [hl.len]
        exact decide_eq_decide.mpr (by omega)
      rw [e] at q
      exact q
    | dict kvs =>
      refine ⟨v, rfl, v, _, _, false, rfl, hd, rfl, _, rfl, if_f rfl ?_⟩
      refine ⟨v, rfl, v, _, _, true, rfl, hd, rfl, _, rfl, if_t rfl ?_⟩
      obtain ⟨a, u, ks, rfl, ha, mu, hk, hlen, hkd, hln⟩ := dict_keys hd
      refine lockA_ret (y := .bl (okP (.dict kvs))) ha mu (fun H' e => k H' e) ?_
      intro Hf o D' rx hf kf
      refine ⟨_, rfl, .inr (hln Hf _ (.inr ⟨o, hf⟩) ⟨_, _, rfl, rfl, _, rfl, if_b (fun h1 => ?_) (fun h1 => ?_)⟩)⟩
      · have h1 : kvs.length ≤ 8 := by
          have := of_decide_eq_true h1
          omega
        refine ⟨_, rfl, a, o, u, ks, rfl, hf, hk, fun D nD => lc_gr walk_ka (fun i acc _ => acc = (kvs.take i).map fun p => V.bl (fld p.1)) nD (by omega) rfl (fun H' e => e _ _ hf) ?_ ?_⟩
        · rintro i x acc H1 H2 hi e e' hD hl rfl ⟨rfl, hx1⟩
          obtain ⟨kd, hkd1, hkd2⟩ := (hkd Hf rx).get hx1
          obtain ⟨p, hp1, rfl⟩ : ∃ p, kvs[i]? = some p ∧ p.1 = kd := by
            rw [List.getElem?_map] at hkd1
            cases hp : kvs[i]? with
            | none => rw [hp] at hkd1; cases hkd1
            | some p => rw [hp] at hkd1; exact ⟨p, rfl, Option.some.inj hkd1⟩
          refine ⟨rfl, _, rfl, x, p.1, rfl, hkd2.ex e, hx.2 kvs rfl p (List.mem_of_getElem? hp1), fun H4 e4 => lc_put e' hD hl (by omega) e4 ?_⟩
          rw [List.take_add_one, List.map_append, hp1]
          rfl
        · rintro acc H1 e e' hD hl rfl
          refine ⟨D, kvs.map fun p => fld p.1, rfl, ?_, ?_⟩
          · have e1 : kvs.take ks.length = kvs := List.take_of_length_le (by omega)
            rw [e1] at hD
            rw [List.map_map]
            exact SqLo hD
          · have q := kf _ e
            have e2 : okP (.dict kvs) = ((kvs.map fun p => fld p.1).all id) := by
              show (decide (kvs.length ≤ 8) && kvs.all fun p => fld p.1) = _
              rw [decide_eq_true h1, List.all_map]
              rfl
            rw [e2] at q
            exact q
      · have e2 : okP (.dict kvs) = false := by
          have h1 : ¬ kvs.length ≤ 8 := fun q => by
            rw [decide_eq_true (show (kvs.length : Int) ≤ 8 by omega)] at h1
            cases h1
          show (decide (kvs.length ≤ 8) && kvs.all fun p => fld p.1) = _
          rw [decide_eq_false h1, Bool.false_and]
        have q := kf Hf (fun _ _ h => h)
        rw [e2] at q
        exact q
    | _ =>
      refine ⟨v, rfl, v, _, _, false, rfl, hd, rfl, _, rfl, if_f rfl ?_⟩
      refine ⟨v, rfl, v, _, _, false, rfl, hd, rfl, _, rfl, if_f rfl ?_⟩
      exact ⟨v, rfl, v, _, rfl, hd, hx.1, k⟩
end
end VL

namespace VL
open PySem PySem.Spec L2 LW
open Evl (Ex)
/-! ### a dict of a value -/
theorem dict_val {H : Hp} {kvs : List (PyData × PyData)} {v : V} (h : Dt H (.dict kvs) v) (ok : AllStr kvs) : ∃ a es, v = .ref a ∧ L2.Rd H a (.dK es) ∧ (es.map (·.1)).Nodup ∧ DtK H kvs es := by
  unfold Dt at h
  obtain ⟨a, rfl, ⟨es, ha, nd, hl⟩ | ⟨k, x, ha, hl⟩⟩ := h
  · exact ⟨a, es, rfl, ha, nd, hl⟩
  · match kvs, hl with
    | [], hl =>
      unfold DtO at hl
      exact hl.elim
    | (kd, vd) :: r, hl =>
      unfold DtO at hl
      exact (hl.2.1 _ (ok (kd, vd) List.mem_cons_self)).elim
theorem names_kV {kvs : List (PyData × PyData)} {es : List (Key × V)} (e : es.map (·.1) = (names kvs).map fun y => (Sum.inr y : Key)) : (es.map fun p => kV p.1) = (names kvs).map V.str := by
  have q := congrArg (List.map kV) e
  rw [List.map_map, List.map_map] at q
  exact q
def RPair (H0 H : Hp) (v : V) (c : V × PyData) : Prop := ∃ t x, v = .ref t ∧ L2.Rd H t (.tup [c.1, x]) ∧ Dt H0 c.2 x
theorem RPair.rdx {H0 H H' : Hp} (e : RdX H H') {v : V} {c : V × PyData} (h : RPair H0 H v c) : RPair H0 H' v c := by
  obtain ⟨t, x, rfl, h1, h2⟩ := h
  exact ⟨t, x, rfl, e _ _ nf_tup h1, h2⟩
theorem RPair.ex {H0 H H' : Hp} (e : Ex H H') {v : V} {c : V × PyData} (h : RPair H0 H v c) : RPair H0 H' v c := h.rdx (rdx_ex e)
theorem pairs_ex {H0 H H' : Hp} (e : Ex H H') {vs : List V} {cs : List (V × PyData)} (h : Paired (RPair H0 H) vs cs) : Paired (RPair H0 H') vs cs := Paired.imp (fun _ _ q => RPair.ex e q) h
section
variable {P : Program} {w : World} {K : PySem.W.Frag} {mg : Str → Option Value} {base : Heap}
/-! ### children -/
def spKids : Sp := fun vs H Q _ => ∃ (v : V) (d : PyData) (H0 : Hp), vs = [v] ∧ Dt H0 d v ∧ Ex H0 H ∧ okP d = true ∧ ∀ p H' ts cs, Ex H H' → H p = none → H' p = some (.lst ts) → Paired (RPair H0 H') ts cs → KidsAre d cs → Q (.ref p) H'
theorem sc_children : FnScope ["value", "name", "index", "child", "field"] ["value"] (defScope s_children) := ⟨rfl, rfl, rfl, by decide +kernel, rfl, by decide +kernel, by decide +kernel⟩
theorem bi_children : BindsEq "children" s_children ["value"] := fun _ _ _ _ _ _ us hl => match us, hl with | [_], _ => rfl
theorem ok_kids (F : Df K mg "children" s_children) (T : Txt K mg) : Cal P w K mg base CX0 1 "children" spKids := by
  refine cal0 F sc_children bi_children (fun vs H Q E h => ?_) (fun f cdv A outer s H vs Q E hr h => ?_)
  · obtain ⟨v, d, H0, rfl, _⟩ := h
    rfl
  · obtain ⟨v, d, H0, rfl, hd0, x00, ho, k⟩ := h
    have hd := hd0.ex x00
    refine ⟨_, (pss_cons (ps_if (pt_val (pe_callB (isD K) rfl T.b_isinstance (by decide +kernel) (pa_cons (pv 0) (pa_cons (pe_bltn (v := .ty "dict") rfl T.b_dict (by decide +kernel) rfl) pa_nil)))) (pss_one (ps_lockA (ps_ret (pe_lc (own := [("name", 1)]) (by rfl) sc_children.nd (pil K (pe_callB (srK K) rfl T.b_sorted (by decide +kernel) (pa_cons (pe_lc (own := [("field", 4)]) (by rfl) sc_children.nd (pi_ka (pv 0)) (blkOk_by (own := [("field", 4)]) (N := ["value", "name", "index", "child", "field"]) (sc := defScope s_children) (by decide +kernel)) (fun _ _ _ _ _ => (pg_name (i := 4) sc_children.nd rfl (Or.inl rfl))) (fun _ _ _ _ _ => pts_nil) (fun _ _ _ _ _ => (pe_callTy strS rfl T.b_str (by decide +kernel) (pa_cons (pv 4) pa_nil)))) pa_nil))) (blkOk_by (own := [("name", 1)]) (N := ["value", "name", "index", "child", "field"]) (sc := defScope s_children) (by decide +kernel)) (fun _ _ _ _ _ => (pg_name (i := 1) sc_children.nd rfl (Or.inl rfl))) (fun _ _ _ _ _ => pts_nil) (fun _ _ _ _ _ => (pe_tup (pa_cons (pv 1) (pa_cons (pe_ix (ixA K) (pv 0) (pv 1) (fun _ _ => rfl)) pa_nil)))))))) pss_nil)
 (pss_cons (ps_if (pt_val (pe_callB (isD K) rfl T.b_isinstance (by decide +kernel) (pa_cons (pv 0) (pa_cons (pe_bltn (v := .ty "list") rfl T.b_list (by decide +kernel) rfl) pa_nil)))) (pss_one (ps_ret (pe_lc (own := [("index", 2), ("child", 3)]) (by rfl) sc_children.nd (pi_enum rfl T.b_enumerate (pa_cons (pv 0) pa_nil)) (blkOk_by (own := [("index", 2), ("child", 3)]) (N := ["value", "name", "index", "child", "field"]) (sc := defScope s_children) (by decide +kernel)) (fun _ _ _ _ _ => (pgt (n := 2) K rfl (pgs_cons (pg_name (i := 2) sc_children.nd rfl (Or.inl rfl)) (pgs_cons (pg_name (i := 3) sc_children.nd rfl (Or.inl rfl)) pgs_nil)))) (fun _ _ _ _ _ => pts_nil) (fun _ _ _ _ _ => (pe_tup (pa_cons (pv 2) (pa_cons (pv 3) pa_nil))))))) pss_nil)
 (pss_one (ps_ret (pe_lst pa_nil))))), ?_⟩
    cases d with
    | dict kvs =>
      refine ⟨v, rfl, v, _, _, true, rfl, hd, rfl, _, rfl, if_t rfl ?_⟩
      obtain ⟨ha, hlen⟩ := allStr_of ho
      obtain ⟨a, es, rfl, hae0, nd, hk⟩ := dict_val hd0 ha
      have hae := rd_ex x00 hae0
      have hnm := dtk_names hk ha
      have hks := names_kV hnm
      have hln : (names kvs).length = kvs.length := by
        unfold names
        rw [List.length_map]
      refine lockA_any hae True.intro ?_
      intro Hf o D' th rx hf hno hth kf _
      refine ⟨_, rfl, a, o, _, (names kvs).map V.str, rfl, hf, .inl ⟨es, rfl, hks.symm⟩, fun D1 nD1 => lc_gr walk_ka (fun i acc _ => acc = ((names kvs).take i).map V.str) nD1 (by rw [List.length_map]; omega) rfl (fun H' e => e _ _ hf) ?_ ?_⟩
      · rintro i x acc H1 H2 hi e e' hD hl rfl ⟨rfl, hx1⟩
        obtain ⟨y, hy, rfl⟩ : ∃ y, (names kvs)[i]? = some y ∧ V.str y = x := by
          rw [List.getElem?_map] at hx1
          cases hp : (names kvs)[i]? with
          | none => rw [hp] at hx1; cases hx1
          | some p => rw [hp] at hx1; exact ⟨p, rfl, Option.some.inj hx1⟩
        refine ⟨rfl, _, rfl, y, rfl, lc_put e' hD hl (by rw [List.length_map] at hi; omega) (fun _ _ h => h) ?_⟩
        rw [List.take_add_one, List.map_append, hy]
        rfl
      · rintro acc H1 e e' hD hl rfl
        have e1 : (names kvs).take ((names kvs).map V.str).length = names kvs := List.take_of_length_le (by rw [List.length_map]; exact Nat.le_refl _)
        rw [e1] at hD
        refine ⟨D1, names kvs, rfl, SqLo hD, by omega, fun ys p py sy np => ?_⟩
        have x1 : Ex H1 (upd H1 p (.lst (ys.map V.str))) := Ex.new np
        have hyl : ys.length = kvs.length := by rw [py.length_eq, hln]
        refine ⟨p, rfl, ⟨_, SqLo upd_same⟩, fun D2 nD2 => lc_gr (walk_list (xs := ys.map V.str)) (fun i acc Hc => Paired (RPair H0 Hc) acc ((ys.take i).map fun y => (V.str y, getN kvs y))) nD2 (by rw [List.length_map]; omega) .nil (fun H' e => SqLo (e _ _ upd_same)) ?_ ?_⟩
        · rintro i x acc H2 H3 hi g g' gD gl gr ⟨rfl, hx1⟩
          obtain ⟨y, hy, rfl⟩ : ∃ y, ys[i]? = some y ∧ V.str y = x := by
            rw [List.getElem?_map] at hx1
            cases hp : ys[i]? with
            | none => rw [hp] at hx1; cases hx1
            | some p => rw [hp] at hx1; exact ⟨p, rfl, Option.some.inj hx1⟩
          obtain ⟨u, hu1, hu2⟩ := dtk_get hk ha y (py.mem_iff.mp (List.mem_of_getElem? hy))
          have xf : Ex Hf H3 := e.trans (x1.trans g)
          have xf' : Ex Hf (del H3 D2) := e.trans (x1.trans g')
          refine ⟨rfl, _, rfl, _, rfl, _, rfl, .inr ⟨a, es, .inr y, u, rfl, rfl, .inr ⟨o, xf _ _ hf⟩, hu1, szl (by show 2 ≤ 100000; decide), fun q nq => ?_⟩⟩
          refine lc_put g' gD gl (by rw [List.length_map] at hi; omega) (Ex.new nq) ?_
          have ne : q ≠ D2 := fun z => by
            rw [z, gD] at nq
            cases nq
          have gx : Ex (del H3 D2) (del (upd H3 q (.tup [V.str y, u])) D2) := del_grow' (Ex.new nq)
          rw [List.take_add_one, List.map_append, hy]
          refine Paired.app (pairs_ex gx gr) (.cons ⟨q, u, rfl, .inl ?_, hu2⟩ .nil)
          rw [del_ne ne]
          exact upd_same
        · rintro acc H2 g g' gD gl gr
          have xf : Ex Hf H2 := e.trans (x1.trans g)
          refine kf _ H2 xf ?_
          obtain ⟨t1, t2, t3⟩ := hth H2 xf
          have nD : H D2 = none := hno _ (ex_free e (ex_free x1 nD2))
          have ne : D2 ≠ a := fun z => by
            obtain ⟨w, hw⟩ := rd_some hae
            rw [z, hw] at nD
            cases nD
          have e3 : ys.take (ys.map V.str).length = ys := List.take_of_length_le (by rw [List.length_map]; exact Nat.le_refl _)
          rw [e3] at gr
          refine k D2 _ acc _ t1 nD (by rw [t3 _ ne]; exact gD) (Paired.imp (fun _ _ q => (q.ex ex_del).rdx t2) gr) ⟨ys, py, sy, rfl⟩
    | list ds =>
      refine ⟨v, rfl, v, _, _, false, rfl, hd, rfl, _, rfl, if_f rfl ?_⟩
      refine ⟨v, rfl, v, _, _, true, rfl, hd, rfl, _, rfl, if_t rfl ?_⟩
      unfold Dt at hd0
      obtain ⟨a, xs, rfl, hax0, hl⟩ := hd0
      have hax := rd_ex x00 hax0
      have hlen := hl.len
      have h60 : ds.length < 60 := of_decide_eq_true ho
      refine ⟨_, rfl, a, xs, rfl, .inl hax, fun D nD => lc_gr (walk_enum (K := K) (a := a) (xs := xs)) (fun i acc Hc => Paired (RPair H0 Hc) acc (((List.range ds.length).zipWith (fun (i : Nat) c => (V.int i, c)) ds).take i)) nD (by omega) .nil (fun H' e => .inl (rd_ex e hax)) ?_ ?_⟩
      · rintro i x acc H1 H2 hi g g' gD gl gr ⟨q, y, z, rfl, nq, rfl, hy, hz⟩
        cases hy
        obtain ⟨dc, hdc, hdt⟩ := hl.get hz
        have gq : Ex H1 (upd H1 q (.tup [V.int i, z])) := Ex.new nq
        refine ⟨q, _, rfl, SqTo upd_same, rfl, _, _, rfl, _, _, rfl, rfl, rfl, _, rfl, _, rfl, szl (by show 2 ≤ 100000; decide), fun t nt => ?_⟩
        have gt : Ex H1 (upd (upd H1 q (.tup [V.int i, z])) t (.tup [V.int i, z])) := gq.trans (Ex.new nt)
        refine lc_put g' gD gl (by omega) gt ?_
        have ne : t ≠ D := fun e => by
          rw [e, gq _ _ gD] at nt
          cases nt
        have gx := del_grow' (p := D) gt
        rw [List.take_add_one]
        have e3 : ((List.range ds.length).zipWith (fun (i : Nat) c => (V.int i, c)) ds)[i]? = some (V.int i, dc) := by
          rw [List.getElem?_zipWith, List.getElem?_range (by omega), hdc]
        rw [e3]
        refine Paired.app (pairs_ex gx gr) (.cons ⟨t, z, rfl, .inl ?_, hdt⟩ .nil)
        rw [del_ne ne]
        exact upd_same
      · rintro acc H1 g g' gD gl gr
        refine k D H1 acc _ g nD gD (pairs_ex ex_del gr) ?_
        show _ = _
        exact List.take_of_length_le (by rw [List.length_zipWith, List.length_range]; omega)
    | _ =>
      refine ⟨v, rfl, v, _, _, false, rfl, hd, rfl, _, rfl, if_f rfl ?_⟩
      refine ⟨v, rfl, v, _, _, false, rfl, hd, rfl, _, rfl, if_f rfl ?_⟩
      refine ⟨szl (by decide), fun p np => k p _ [] [] (Ex.new np) np upd_same .nil rfl⟩
end
end VL

namespace VL
open PySem PySem.Spec L2 LW
open Evl (Ex)
/-! ### texts are short -/
mutual
def szA : PyData → Prop
  | .str x => x.length ≤ 1000
  | .list ds => szL ds
  | .dict kvs => szK kvs
  | _ => True
def szL : List PyData → Prop
  | [] => True
  | d :: r => szA d ∧ szL r
def szK : List (PyData × PyData) → Prop
  | [] => True
  | (k, d) :: r => szA k ∧ szA d ∧ szK r
end
theorem szL_mem : ∀ {ds : List PyData} {d : PyData}, szL ds → d ∈ ds → szA d
  | c :: r, d, h, m => by
    unfold szL at h
    rcases List.mem_cons.mp m with rfl | m
    · exact h.1
    · exact szL_mem h.2 m
theorem szL_of : ∀ {ds : List PyData}, (∀ d ∈ ds, szA d) → szL ds
  | [], _ => by unfold szL; trivial
  | c :: r, h => by
    unfold szL
    exact ⟨h c List.mem_cons_self, szL_of fun d m => h d (List.mem_cons_of_mem _ m)⟩
theorem szK_mem : ∀ {ds : List (PyData × PyData)} {p : PyData × PyData}, szK ds → p ∈ ds → szA p.1 ∧ szA p.2
  | c :: r, d, h, m => by
    unfold szK at h
    rcases List.mem_cons.mp m with rfl | m
    · exact ⟨h.1, h.2.1⟩
    · exact szK_mem h.2.2 m
theorem szK_of : ∀ {ds : List (PyData × PyData)}, (∀ p ∈ ds, szA p.1 ∧ szA p.2) → szK ds
  | [], _ => by unfold szK; trivial
  | c :: r, h => by
    unfold szK
    exact ⟨(h c List.mem_cons_self).1, (h c List.mem_cons_self).2, szK_of fun d m => h d (List.mem_cons_of_mem _ m)⟩
theorem szA_str {x : Str} (h : szA (.str x)) : x.length ≤ 1000 := by unfold szA at h; exact h
theorem szD_of {d : PyData} (h : szA d) : SzD d := by
  refine ⟨fun x e => ?_, fun kvs e p hp x ex => ?_⟩
  · subst e
    have := szA_str h
    exact szl (by omega)
  · subst e
    unfold szA at h
    have q := (szK_mem h hp).1
    rw [ex] at q
    have := szA_str q
    exact szl (by omega)
theorem szA_kids {d : PyData} (h : szA d) : szL (kids d) := by
  cases d with
  | list ds => unfold szA at h; exact h
  | dict kvs =>
    unfold szA at h
    refine szL_of fun c hc => ?_
    obtain ⟨p, hp, rfl⟩ := List.mem_map.mp hc
    exact (szK_mem h hp).2
  | _ => exact szL_of nofun
theorem kids_len {d : PyData} (h : okP d = true) : (kids d).length ≤ 60 := by
  cases d with
  | list ds =>
    have : ds.length < 60 := of_decide_eq_true h
    show ds.length ≤ 60
    omega
  | dict kvs =>
    obtain ⟨_, h8⟩ := allStr_of h
    show (kvs.map (·.2)).length ≤ 60
    rw [List.length_map]
    omega
  | _ => exact Nat.zero_le _
theorem kids_ns {H : Hp} {d : PyData} {v : V} (hd : Dt H d v) (h : okP d = true) : ∀ kvs, d = .dict kvs → AllStr kvs ∧ (names kvs).Nodup := by
  rintro kvs rfl
  obtain ⟨ha, _⟩ := allStr_of h
  obtain ⟨a, es, rfl, _, nd, hk⟩ := dict_val hd ha
  exact ⟨ha, nodup_names hk ha nd⟩
theorem dtl_drop {H : Hp} : ∀ {ds : List PyData} {vs : List V} {y : V}, DtL H ds vs → vs[vs.length - 1]? = some y → ∃ d, ds = ds.dropLast ++ [d] ∧ Dt H d y ∧ DtL H ds.dropLast vs.dropLast
  | [], _, y, h, e => by
    unfold DtL at h
    subst h
    cases e
  | [d], _, y, h, e => by
    unfold DtL at h
    obtain ⟨v, t, rfl, h1, h2⟩ := h
    unfold DtL at h2
    subst h2
    cases e
    exact ⟨d, rfl, h1, DtL.nil⟩
  | d :: c :: r, _, y, h, e => by
    unfold DtL at h
    obtain ⟨v, t, rfl, h1, h2⟩ := h
    have h2' := h2
    unfold DtL at h2'
    obtain ⟨u, t', rfl, _, _⟩ := h2'
    have e' : (u :: t')[(u :: t').length - 1]? = some y := by
      simpa using e
    obtain ⟨x, q1, q2, q3⟩ := dtl_drop h2 e'
    refine ⟨x, ?_, q2, ?_⟩
    · show d :: c :: r = (d :: (c :: r).dropLast) ++ [x]
      rw [List.cons_append, ← q1]
    · exact DtL.cons h1 q3
theorem dtl_of_pairs {H : Hp} : ∀ {ts : List V} {cs : List (V × PyData)} {us : List V}, (∀ (i : Nat) c, cs[i]? = some c → ∃ u, us[i]? = some u ∧ Dt H c.2 u) → us.length = cs.length → DtL H (cs.map (·.2)) us
  | _, [], us, _, e => by
    have : us = [] := List.length_eq_zero_iff.mp e
    subst this
    exact DtL.nil
  | ts, c :: r, us, h, e => by
    obtain ⟨u, h1, h2⟩ := h 0 c rfl
    match us, h1, e with
    | u' :: t, h1, e =>
      cases h1
      exact DtL.cons h2 (dtl_of_pairs (ts := ts) (fun i c hc => h (i + 1) c (by simpa using hc)) (by simpa using e))
def isV (d : PyData) : Bool := okA d && decide (cnt d ≤ 60)
theorem del_upd {H : Hp} {p : Addr} {o : HO} : del (upd H p o) p = del H p := by
  funext b
  by_cases hb : b = p
  · rw [hb, del_same, del_same]
  · rw [del_ne hb, del_ne hb, upd_ne hb]
theorem ex_del_upd {H : Hp} {p : Addr} {o : HO} : Ex (del H p) (upd H p o) := fun b u q => by
  by_cases hb : b = p
  · rw [hb, del_same] at q
    cases q
  · rw [del_ne hb] at q
    rw [upd_ne hb]
    exact q
/-! ### is_value -/
def spIsVal : Sp := fun vs H Q _ => ∃ (v : V) (d : PyData), vs = [v] ∧ Dt H d v ∧ szA d ∧ ∀ H', Ex H H' → Q (.bl (isV d)) H'
def IsVW (H : Hp) (v : V) (d : PyData) (p : Addr) (m : Nat) (σ : L2.St) (H' : Hp) : Prop := ∃ (many : Nat) (ws : List V) (ds : List PyData) (o3 o4 o5 : Option V), σ = [some v, some (.ref p), some (.int many), o3, o4, o5] ∧ m = cntL ds ∧ Ex H (del H' p) ∧ H' p = some (.lst ws) ∧ DtL (del H' p) ds ws ∧ szL ds ∧ many ≤ 60 ∧ ws.length ≤ 1 + 60 * many ∧ isV d = (okL ds && decide (many + cntL ds ≤ 60))
section
variable {P : Program} {w : World} {K : PySem.W.Frag} {mg : Str → Option Value} {base : Heap}
theorem sc_is_value : FnScope ["thing", "waiting", "many", "one", "step", "child"] ["thing"] (defScope s_is_value) := ⟨rfl, rfl, rfl, by decide +kernel, rfl, by decide +kernel, by decide +kernel⟩
theorem bi_is_value : BindsEq "is_value" s_is_value ["thing"] := fun _ _ _ _ _ _ us hl => match us, hl with | [_], _ => rfl
theorem ok_isval (F : Df K mg "is_value" s_is_value) (T : Txt K mg) (C_is_part : Cal P w K mg base CX0 3 "is_part" spPart) (C_children : Cal P w K mg base CX0 1 "children" spKids) : Cal P w K mg base CX0 4 "is_value" spIsVal := by
  refine cal0 F sc_is_value bi_is_value (fun vs H Q E h => ?_) (fun f cdv A outer s H vs Q E hr h => ?_)
  · obtain ⟨v, d, rfl, _⟩ := h
    rfl
  · obtain ⟨v, d, rfl, hd, hz, k⟩ := h
    refine ⟨_, (pss_cons (ps_set (i := 1) sc_is_value.nd rfl (Or.inl rfl) (pe_lst (pa_cons (pv 0) pa_nil)))
 (pss_cons (ps_set (i := 2) sc_is_value.nd rfl (Or.inl rfl) pe_int)
 (pss_cons (ps_while PassesOwn.never (pt_cmpR op_gt (pe_callB (lnK K) rfl T.b_len (by decide +kernel) (pa_cons (pv 1) pa_nil)) pe_int (nomark _)) (pss_cons (ps_set (i := 3) sc_is_value.nd rfl (Or.inl rfl) (pe_bm0 PySem.F.plainAttrs_list PySem.F.slot_list_pop PySem.F.type_list_pop mt_pop (pv 1)))
 (pss_cons (ps_aug (i := 2) sc_is_value.nd rfl (.inl rfl) pe_int ip_add)
 (pss_cons (ps_if (PW.pt (pw_or (pt_cmpR op_gt (pv 2) (pgc rfl T.g_MOST_PLACES) (nomark _)) (pw_or1 (pt_not (pt_val (pe_k C_is_part hr (by decide) rfl (pa_cons (pv 3) pa_nil))))))) (pss_one (ps_ret pe_bl)) pss_nil)
 (pss_one (ps_expr (pe_bm PySem.F.plainAttrs_list PySem.F.slot_list_extend PySem.F.type_list_extend mt_extend (pv 1) (pa_cons (pe_lc (own := [("step", 4), ("child", 5)]) (by rfl) sc_is_value.nd (pil K (pe_k C_children hr (by decide) rfl (pa_cons (pv 3) pa_nil))) (blkOk_by (own := [("step", 4), ("child", 5)]) (N := ["thing", "waiting", "many", "one", "step", "child"]) (sc := defScope s_is_value) (by decide +kernel)) (fun _ _ _ _ _ => (pgt (n := 2) K rfl (pgs_cons (pg_name (i := 4) sc_is_value.nd rfl (Or.inl rfl)) (pgs_cons (pg_name (i := 5) sc_is_value.nd rfl (Or.inl rfl)) pgs_nil)))) (fun _ _ _ _ _ => pts_nil) (fun _ _ _ _ _ => (pv 5))) pa_nil))))))))
 (pss_one (ps_ret pe_bl))))), ?_⟩
    refine ⟨_, rfl, szl (by show 1 ≤ 100000; decide), fun p np => ?_⟩
    refine ⟨IsVW H v d p, ?_, ?_⟩
    · refine ⟨_, 0, [v], [d], none, none, none, rfl, rfl, ?_, upd_same, ?_, ?_, by omega, by show 1 ≤ _; omega, ?_⟩
      · rw [del_none np]
        exact fun _ _ h => h
      · rw [del_none np]
        exact DtL.cons hd DtL.nil
      · exact szL_of fun c hc => by
          cases List.mem_singleton.mp hc
          exact hz
      · unfold isV okL okL cntL cntL
        rw [Bool.and_true, Nat.zero_add, Nat.add_zero]
    · rintro m σ H1 ⟨many, ws, ds, o3, o4, o5, rfl, rfl, e1, hp, hds, hsz, hm, hwl, hval⟩
      have e0 : Ex H H1 := e1.trans ex_del
      have hlen := hds.len
      refine ⟨_, rfl, .ref p, ws.length, rfl, .inl ⟨ws, .inl (.inl hp), rfl⟩, _, _, rfl, rfl, _, rfl, if_b (fun hc => ?_) (fun hc => ?_)⟩
      · have hw0 : 0 < ws.length := by
          have := of_decide_eq_true hc
          omega
        obtain ⟨y, hy⟩ : ∃ y, ws[ws.length - 1]? = some y := ⟨_, List.getElem?_eq_getElem (by omega)⟩
        obtain ⟨dd, hdd, hdy, hdl'⟩ := dtl_drop hds hy
        have hcl : cntL ds = cntL ds.dropLast + cnt dd := by
          conv => lhs; rw [hdd]
          rw [cntL_app]
          unfold cntL cntL
          omega
        have hol : okL ds = (okL ds.dropLast && okA dd) := by
          conv => lhs; rw [hdd]
          rw [okL_app]
          unfold okL okL
          rw [Bool.and_true]
        have hsd : szA dd := szL_mem hsz (by rw [hdd]; simp)
        have hpos := cnt_pos dd
        refine ⟨fun σ' H' => ∃ m', m' < cntL ds ∧ IsVW H v d p m' σ' H', fun _ _ h => h, ?_⟩
        refine ⟨_, rfl, .inl ⟨rfl, _, SqLo hp⟩, p, ws, y, rfl, rfl, hp, hy, ?_⟩
        have exA : Ex (del H1 p) (upd H1 p (.lst ws.dropLast)) := ex_del_upd
        generalize hA : upd H1 p (.lst ws.dropLast) = HA at exA ⊢
        have hpA : HA p = some (.lst ws.dropLast) := by rw [← hA]; exact upd_same
        have hdelA : del HA p = del H1 p := by rw [← hA]; exact del_upd
        refine ⟨_, rfl, _, _, rfl, rfl, ?_⟩
        refine ⟨_, rfl, _, _, rfl, rfl, _, rfl, if_b (fun h1 => ?_) (fun h1 => ?_)⟩
        · -- too many places
          have h1 : (60 : Int) < many + 1 := of_decide_eq_true h1
          have e : isV d = false := by
            rw [hval, decide_eq_false (by omega), Bool.and_false]
          have q := k HA (e1.trans exA)
          rw [e] at q
          exact q
        · have h1' : many < 60 := by
            have : ¬ (60 : Int) < many + 1 := of_decide_eq_false h1
            omega
          refine ⟨_, rfl, y, dd, rfl, hdy.ex exA, szD_of hsd, fun H2 x2 => ⟨_, rfl, if_b (fun h2 => ?_) (fun h2 => ?_)⟩⟩
          · -- no part
            have h2 : okP dd = false := by simpa using h2
            have e : isV d = false := by
              rw [hval, hol, okA_kids, h2, Bool.false_and, Bool.and_false, Bool.false_and]
            have q := k H2 (e1.trans (exA.trans x2))
            rw [e] at q
            exact q
          · have h2 : okP dd = true := by simpa using h2
            have ex2 : Ex (del H1 p) H2 := exA.trans x2
            have ex2' : Ex (del H1 p) (del H2 p) := by
              rw [← hdelA]
              exact del_grow' x2
            refine ⟨_, rfl, .inl ⟨rfl, _, SqLo (x2 _ _ hpA)⟩, _, rfl, y, dd, _, rfl, hdy, ex2, h2, fun q H3 ts cs x3 nq hq hts hcs => ?_⟩
            have hkp := kids_perm hcs (kids_ns hdy h2)
            have hkl : cs.length ≤ 60 := by
              have := kids_len h2
              have := hkp.length_eq
              rw [List.length_map] at this
              omega
            have htl : ts.length = cs.length := Paired.len hts
            refine ⟨q, rfl, ⟨_, SqLo hq⟩, fun D nD => lc_gr (walk_list (xs := ts)) (fun i acc _ => DtL (del H1 p) ((cs.take i).map (·.2)) acc) nD (by omega) DtL.nil (fun H' e => SqLo (e _ _ hq)) ?_ ?_⟩
            · rintro i x acc H4 H5 hi g g' gD gl gr ⟨rfl, hx1⟩
              obtain ⟨c, hc1, t, u, rfl, ht, hu⟩ := Paired.get hts hx1
              refine ⟨t, _, rfl, .inl (rd_ex g ht), rfl, _, _, rfl, _, _, rfl, rfl, rfl, _, rfl, lc_put g' gD gl (by omega) (fun _ _ h => h) ?_⟩
              rw [List.take_add_one, List.map_append, hc1]
              exact DtL.app gr (DtL.cons hu DtL.nil)
            · rintro acc H4 g g' gD gl gr
              have e3 : cs.take ts.length = cs := List.take_of_length_le (by omega)
              rw [e3] at gr
              have pD : p ≠ D := fun z => by
                rw [← z, x3 _ _ (x2 _ _ hpA)] at nD
                cases nD
              have hp4 : H4 p = some (.lst ws.dropLast) := g _ _ (x3 _ _ (x2 _ _ hpA))
              have hdl : ws.dropLast.length = ws.length - 1 := List.length_dropLast
              refine ⟨p, D, ws.dropLast, acc, rfl, rfl, hp4, gD, szl (by omega), ?_⟩
              have ex4 : Ex (del H1 p) (del H4 p) := ex2'.trans (del_grow' (x3.trans g))
              have hcc : cntL (cs.map (·.2)) + 1 = cnt dd := by
                rw [cntL_perm hkp, cnt_kids dd]
                omega
              refine ⟨cntL (ds.dropLast ++ cs.map (·.2)), ?_, many + 1, ws.dropLast ++ acc, ds.dropLast ++ cs.map (·.2), _, _, _, rfl, rfl, ?_, upd_same, ?_, ?_, by omega, ?_, ?_⟩
              · rw [cntL_app]
                omega
              · rw [del_upd]
                exact e1.trans ex4
              · rw [del_upd]
                exact (DtL.app hdl' gr).ex ex4
              · refine szL_of fun c hc => ?_
                rcases List.mem_append.mp hc with hc | hc
                · exact szL_mem hsz (List.dropLast_subset _ hc)
                · exact szL_mem (szA_kids hsd) (hkp.mem_iff.mp hc)
              · rw [List.length_append]
                omega
              · rw [hval, hol, okL_app, okL_perm hkp, okA_kids dd, h2, Bool.true_and, cntL_app]
                congr 1
                exact decide_eq_decide.mpr (by omega)
      · -- nothing waits
        have hw0 : ws = [] := by
          have : ¬ (0 : Int) < ws.length := of_decide_eq_false hc
          exact List.length_eq_zero_iff.mp (by omega)
        have hd0 : ds = [] := List.length_eq_zero_iff.mp (by rw [← hlen, hw0]; rfl)
        have e : isV d = true := by
          rw [hval, hd0]
          unfold okL cntL
          rw [Bool.true_and]
          exact decide_eq_true (by omega)
        have q := k H1 e0
        rw [e] at q
        exact q
end
end VL

namespace VL
open PySem L2 LW
/-! ### small data: what repr can show -/
mutual
def lim : PyData → Prop
  | .none => True
  | .bool _ => True
  | .int i => -big ≤ i ∧ i ≤ big
  | .str x => x.length ≤ 21 ∧ ∀ c ∈ x.cps.toList, c < 128
  | .list ds => limL ds
  | .tuple ds => limL ds
  | .dict kvs => limK kvs
def limL : List PyData → Prop
  | [] => True
  | d :: r => lim d ∧ limL r
def limK : List (PyData × PyData) → Prop
  | [] => True
  | (k, d) :: r => lim k ∧ lim d ∧ limK r
end
mutual
def nod : PyData → Nat
  | .list ds => 1 + nodL ds
  | .tuple ds => 1 + nodL ds
  | .dict kvs => 1 + nodK kvs
  | .none => 1
  | .bool _ => 1
  | .int _ => 1
  | .str _ => 1
def nodL : List PyData → Nat
  | [] => 0
  | d :: r => nod d + nodL r
def nodK : List (PyData × PyData) → Nat
  | [] => 0
  | (k, d) :: r => nod k + nod d + nodK r
end
theorem big_abs {i : Int} (h : -big ≤ i ∧ i ≤ big) : i.natAbs < 10 ^ 31 := by
  unfold big at h
  omega
mutual
theorem lim_short : ∀ d : PyData, lim d → d.leavesShort 40 = true
  | .none, _ => rfl
  | .bool _, _ => rfl
  | .int i, h => by
    unfold lim at h
    have e := int_text_length_le10 (a := i) (k := 31) (by decide) (big_abs h)
    simp only [PyData.leavesShort, PyData.shown, ofString_length]
    exact decide_eq_true (by omega)
  | .str x, h => by
    unfold lim at h
    simp only [PyData.leavesShort]
    exact List.all_eq_true.mpr fun c hc => decide_eq_true (Nat.lt_trans (h.2 c hc) (by decide))
  | .list ds, h => by
    unfold lim at h
    simp only [PyData.leavesShort]
    exact limL_short ds h
  | .tuple ds, h => by
    unfold lim at h
    simp only [PyData.leavesShort]
    exact limL_short ds h
  | .dict kvs, h => by
    unfold lim at h
    simp only [PyData.leavesShort]
    exact limK_short kvs h
theorem limL_short : ∀ ds : List PyData, limL ds → PyData.leavesShortAll 40 ds = true
  | [], _ => rfl
  | d :: r, h => by
    unfold limL at h
    simp only [PyData.leavesShortAll, lim_short d h.1, limL_short r h.2, Bool.and_self]
theorem limK_short : ∀ ds : List (PyData × PyData), limK ds → PyData.leavesShortKv 40 ds = true
  | [], _ => rfl
  | (k, d) :: r, h => by
    unfold limK at h
    simp only [PyData.leavesShortKv, lim_short k h.1, lim_short d h.2.1, limK_short r h.2.2, Bool.and_self]
end
mutual
theorem lim_show : ∀ d : PyData, lim d → d.showable = true
  | .none, _ => rfl
  | .bool _, _ => rfl
  | .int i, h => by
    unfold lim at h
    simp only [PyData.showable]
    refine decide_eq_true ?_
    have q := big_abs h
    by_cases h0 : i.natAbs = 0
    · rw [h0]
      decide
    · have q1 : i.natAbs.log2 < 104 := (Nat.log2_lt h0).mpr (Nat.lt_trans q (by decide))
      omega
  | .str x, h => rfl
  | .list ds, h => by
    unfold lim at h
    simp only [PyData.showable]
    exact limL_show ds h
  | .tuple ds, h => by
    unfold lim at h
    simp only [PyData.showable]
    exact limL_show ds h
  | .dict kvs, h => by
    unfold lim at h
    simp only [PyData.showable]
    exact limK_show kvs h
theorem limL_show : ∀ ds : List PyData, limL ds → PyData.showableAll ds = true
  | [], _ => rfl
  | d :: r, h => by
    unfold limL at h
    simp only [PyData.showableAll, lim_show d h.1, limL_show r h.2, Bool.and_self]
theorem limK_show : ∀ ds : List (PyData × PyData), limK ds → PyData.showableKv ds = true
  | [], _ => rfl
  | (k, d) :: r, h => by
    unfold limK at h
    simp only [PyData.showableKv, lim_show k h.1, lim_show d h.2.1, limK_show r h.2.2, Bool.and_self]
end
theorem nod_pos : ∀ d : PyData, 1 ≤ nod d
  | .none => by simp [nod]
  | .bool _ => by simp [nod]
  | .int i => by simp [nod]
  | .str x => by simp [nod]
  | .list ds => by simp only [nod]; omega
  | .tuple ds => by simp only [nod]; omega
  | .dict kvs => by simp only [nod]; omega
mutual
theorem bulk_le : ∀ d : PyData, lim d → d.bulk + 1 ≤ 24 * nod d
  | .none, _ => by simp [PyData.bulk, nod]
  | .bool _, _ => by simp [PyData.bulk, nod]
  | .int i, h => by simp [PyData.bulk, nod]
  | .str x, h => by
    unfold lim at h
    simp only [PyData.bulk, nod]
    have : x.cps.size ≤ 21 := h.1
    omega
  | .list ds, h => by
    unfold lim at h
    have := bulkL_le ds h
    simp only [PyData.bulk, nod]
    omega
  | .tuple ds, h => by
    unfold lim at h
    have := bulkL_le ds h
    simp only [PyData.bulk, nod]
    omega
  | .dict kvs, h => by
    unfold lim at h
    have := bulkK_le kvs h
    simp only [PyData.bulk, nod]
    omega
theorem bulkL_le : ∀ ds : List PyData, limL ds → PyData.bulkAll ds ≤ 24 * nodL ds
  | [], _ => by simp [PyData.bulkAll, nodL]
  | d :: r, h => by
    unfold limL at h
    have h1 := bulk_le d h.1
    have h2 := bulkL_le r h.2
    simp only [PyData.bulkAll, nodL]
    omega
theorem bulkK_le : ∀ ds : List (PyData × PyData), limK ds → PyData.bulkKv ds ≤ 24 * nodK ds
  | [], _ => by simp [PyData.bulkKv, nodK]
  | (k, d) :: r, h => by
    unfold limK at h
    have h1 := bulk_le k h.1
    have h2 := bulk_le d h.2.1
    have h3 := bulkK_le r h.2.2
    simp only [PyData.bulkKv, nodK]
    omega
end
mutual
theorem depth_le : ∀ d : PyData, d.depth ≤ nod d
  | .none => by simp [PyData.depth]
  | .bool _ => by simp [PyData.depth]
  | .int i => by simp [PyData.depth]
  | .str x => by simp [PyData.depth]
  | .list ds => by
    have := depthL_le ds
    simp only [PyData.depth, nod]
    omega
  | .tuple ds => by
    have := depthL_le ds
    simp only [PyData.depth, nod]
    omega
  | .dict kvs => by
    have := depthK_le kvs
    simp only [PyData.depth, nod]
    omega
theorem depthL_le : ∀ ds : List PyData, PyData.depthAll ds ≤ nodL ds
  | [] => by simp [PyData.depthAll]
  | d :: r => by
    have h1 := depth_le d
    have h2 := depthL_le r
    simp only [PyData.depthAll, nodL]
    omega
theorem depthK_le : ∀ ds : List (PyData × PyData), PyData.depthKv ds ≤ nodK ds
  | [] => by simp [PyData.depthKv]
  | (k, d) :: r => by
    have h1 := depth_le k
    have h2 := depth_le d
    have h3 := depthK_le r
    simp only [PyData.depthKv, nodK]
    omega
end
/-- data that repr shows -/
structure Sm (d : PyData) : Prop where
  l : lim d
  n : nod d ≤ 140
theorem Sm.show {d : PyData} (h : Sm d) : d.showable = true := lim_show d h.l
theorem Sm.depth {d : PyData} (h : Sm d) : d.depth ≤ 150 := Nat.le_trans (depth_le d) (Nat.le_trans h.n (by decide))
theorem Sm.size {d : PyData} (h : Sm d) : d.shown.length ≤ sizeLine := by
  have h1 := PyData.shown_le_bulk 40 (by decide) d (lim_short d h.l)
  have h2 := bulk_le d h.l
  have h3 := h.n
  refine Nat.le_trans (m := 200000) ?_ (by decide)
  have h4 : d.bulk ≤ 3360 := by omega
  have h5 : (40 + 2) * d.bulk ≤ (40 + 2) * 3360 := Nat.mul_le_mul_left _ h4
  omega
mutual
theorem lim_sz : ∀ d : PyData, lim d → szA d
  | .none, _ => by unfold szA; trivial
  | .bool _, _ => by unfold szA; trivial
  | .int i, h => by unfold szA; trivial
  | .tuple i, h => by unfold szA; trivial
  | .str x, h => by
    unfold lim at h
    unfold szA
    have := h.1
    omega
  | .list ds, h => by
    unfold lim at h
    unfold szA
    exact limL_sz ds h
  | .dict kvs, h => by
    unfold lim at h
    unfold szA
    exact limK_sz kvs h
theorem limL_sz : ∀ ds : List PyData, limL ds → szL ds
  | [], _ => by unfold szL; trivial
  | d :: r, h => by
    unfold limL at h
    unfold szL
    exact ⟨lim_sz d h.1, limL_sz r h.2⟩
theorem limK_sz : ∀ ds : List (PyData × PyData), limK ds → szK ds
  | [], _ => by unfold szK; trivial
  | (k, d) :: r, h => by
    unfold limK at h
    unfold szK
    exact ⟨lim_sz k h.1, lim_sz d h.2.1, limK_sz r h.2.2⟩
end
theorem low_lim {x : Str} {a b : Nat} (h : lets x a b = true) (hb : b ≤ 21) : lim (.str x) := by
  unfold lets at h
  rw [Bool.and_eq_true, Bool.and_eq_true] at h
  unfold lim
  refine ⟨Nat.le_trans (of_decide_eq_true h.1.2) hb, fun c hc => ?_⟩
  have q := List.all_eq_true.mp h.2 c hc
  rw [Bool.and_eq_true] at q
  have := of_decide_eq_true q.2
  omega
theorem fld_lim {k : PyData} (h : fld k = true) : lim k ∧ nod k = 1 := by
  cases k with
  | str x => exact ⟨low_lim h (by decide), rfl⟩
  | _ => cases h
mutual
/-- a value is small -/
theorem ok_lim : ∀ d : PyData, okA d = true → lim d ∧ nod d + 1 ≤ 2 * cnt d
  | .none, h => by cases h
  | .bool _, h => by cases h
  | .tuple _, h => by cases h
  | .int i, h => by
    have h' : (decide (-big < i) && decide (i < big)) = true := h
    rw [Bool.and_eq_true] at h'
    refine ⟨?_, by simp [nod, cnt]⟩
    unfold lim
    exact ⟨Int.le_of_lt (of_decide_eq_true h'.1), Int.le_of_lt (of_decide_eq_true h'.2)⟩
  | .str x, h => ⟨low_lim (a := 0) (b := 20) h (by decide), by simp [nod, cnt]⟩
  | .list ds, h => by
    unfold okA at h
    rw [Bool.and_eq_true] at h
    have q := okL_lim ds h.2
    unfold lim nod cnt
    exact ⟨q.1, by omega⟩
  | .dict kvs, h => by
    unfold okA at h
    rw [Bool.and_eq_true] at h
    have h1 : (decide (kvs.length ≤ 8) && kvs.all fun p => fld p.1) = true := h.1
    rw [Bool.and_eq_true] at h1
    have q := okK_lim kvs h.2 (fun p hp => List.all_eq_true.mp h1.2 p hp)
    unfold lim nod cnt
    exact ⟨q.1, by omega⟩
theorem okL_lim : ∀ ds : List PyData, okL ds = true → limL ds ∧ nodL ds ≤ 2 * cntL ds
  | [], _ => by unfold limL nodL cntL; exact ⟨trivial, by omega⟩
  | d :: r, h => by
    unfold okL at h
    rw [Bool.and_eq_true] at h
    have q1 := ok_lim d h.1
    have q2 := okL_lim r h.2
    unfold limL nodL cntL
    exact ⟨⟨q1.1, q2.1⟩, by omega⟩
theorem okK_lim : ∀ ds : List (PyData × PyData), okK ds = true → (∀ p ∈ ds, fld p.1 = true) → limK ds ∧ nodK ds ≤ 2 * cntK ds
  | [], _, _ => by unfold limK nodK cntK; exact ⟨trivial, by omega⟩
  | (k, d) :: r, h, hf => by
    unfold okK at h
    rw [Bool.and_eq_true] at h
    have q1 := ok_lim d h.1
    have q2 := okK_lim r h.2 (fun p hp => hf p (List.mem_cons_of_mem _ hp))
    have q3 : lim k ∧ nod k = 1 := fld_lim (hf (k, d) List.mem_cons_self)
    unfold limK nodK cntK
    exact ⟨⟨q3.1, q1.1, q2.1⟩, by have := q3.2; omega⟩
end
theorem ok_sm {d : PyData} (h : okA d = true) (hc : cnt d ≤ 60) : Sm d := ⟨(ok_lim d h).1, by have := (ok_lim d h).2; omega⟩
end VL

namespace VL
open PySem L2 LW
open Evl (Ex)
/-! ### trees: data no part of which lies twice -/
def Apart (A B : Hp) : Prop := ∀ b, A b = none ∨ B b = none
theorem Apart.sub {A A' B B' : Hp} (h : Apart A B) (e : Ex A' A) (g : Ex B' B) : Apart A' B' := fun b => by
  rcases h b with q | q
  · exact .inl (ex_free e q)
  · exact .inr (ex_free g q)
def un (A B : Hp) : Hp := fun b => match A b with
  | some o => some o
  | none => B b
theorem un_l {A B : Hp} : Ex A (un A B) := fun b o h => by
  unfold un
  rw [h]
theorem un_r {A B : Hp} (h : Apart A B) : Ex B (un A B) := fun b o q => by
  unfold un
  rcases h b with e | e
  · rw [e]
    exact q
  · rw [e] at q
    cases q
theorem un_le {A B H : Hp} (h : Ex A H) (g : Ex B H) : Ex (un A B) H := fun b o q => by
  unfold un at q
  cases e : A b with
  | none =>
    rw [e] at q
    exact g b o q
  | some u =>
    rw [e] at q
    cases q
    exact h b _ e
theorem un_apart {A B C : Hp} (h : Apart C A) (g : Apart C B) : Apart C (un A B) := fun b => by
  rcases h b with q | q
  · exact .inl q
  · rcases g b with q' | q'
    · exact .inl q'
    · right
      unfold un
      rw [q]
      exact q'
mutual
def Tr : PyData → Hp → V → Prop
  | .none, _, v => v = .non
  | .bool b, _, v => v = .bl b
  | .int i, _, v => v = .int i
  | .str x, _, v => v = .str x
  | .tuple _, _, _ => False
  | .list ds, H, v => ∃ a vs, v = .ref a ∧ H a = some (.lst vs) ∧ TrL ds (del H a) vs
  | .dict kvs, H, v => ∃ a es, v = .ref a ∧ H a = some (.dK es) ∧ (es.map (·.1)).Nodup ∧ TrK kvs (del H a) es
def TrL : List PyData → Hp → List V → Prop
  | [], _, vs => vs = []
  | d :: r, H, vs => ∃ v t A B, vs = v :: t ∧ Ex A H ∧ Ex B H ∧ Apart A B ∧ Tr d A v ∧ TrL r B t
def TrK : List (PyData × PyData) → Hp → List (Key × V) → Prop
  | [], _, es => es = []
  | (k, d) :: r, H, es => ∃ x v t A B, es = (x, v) :: t ∧ k = kD x ∧ Ex A H ∧ Ex B H ∧ Apart A B ∧ Tr d A v ∧ TrK r B t
end
mutual
theorem Tr.ex : ∀ {d : PyData} {H H' : Hp} {v : V}, Ex H H' → Tr d H v → Tr d H' v
  | .none, _, _, _, _, h => h
  | .bool _, _, _, _, _, h => h
  | .int _, _, _, _, _, h => h
  | .str _, _, _, _, _, h => h
  | .tuple _, _, _, _, _, h => h
  | .list ds, _, _, _, e, h => by
    unfold Tr at h ⊢
    obtain ⟨a, vs, rfl, ha, hl⟩ := h
    exact ⟨a, vs, rfl, e _ _ ha, TrL.ex (del_grow' e) hl⟩
  | .dict kvs, _, _, _, e, h => by
    unfold Tr at h ⊢
    obtain ⟨a, es, rfl, ha, nd, hl⟩ := h
    exact ⟨a, es, rfl, e _ _ ha, nd, TrK.ex (del_grow' e) hl⟩
theorem TrL.ex : ∀ {ds : List PyData} {H H' : Hp} {vs : List V}, Ex H H' → TrL ds H vs → TrL ds H' vs
  | [], _, _, _, _, h => h
  | d :: r, _, _, _, e, h => by
    unfold TrL at h ⊢
    obtain ⟨v, t, A, B, rfl, h1, h2, h3, h4, h5⟩ := h
    exact ⟨v, t, A, B, rfl, h1.trans e, h2.trans e, h3, h4, h5⟩
theorem TrK.ex : ∀ {ds : List (PyData × PyData)} {H H' : Hp} {vs : List (Key × V)}, Ex H H' → TrK ds H vs → TrK ds H' vs
  | [], _, _, _, _, h => h
  | (k, d) :: r, _, _, _, e, h => by
    unfold TrK at h ⊢
    obtain ⟨x, v, t, A, B, rfl, hk, h1, h2, h3, h4, h5⟩ := h
    exact ⟨x, v, t, A, B, rfl, hk, h1.trans e, h2.trans e, h3, h4, h5⟩
end
mutual
theorem Tr.dt : ∀ {d : PyData} {H : Hp} {v : V}, Tr d H v → Dt H d v
  | .none, _, _, h => h
  | .bool _, _, _, h => h
  | .int _, _, _, h => h
  | .str _, _, _, h => h
  | .tuple _, _, _, h => by unfold Tr at h; exact h.elim
  | .list ds, _, _, h => by
    unfold Tr at h
    unfold Dt
    obtain ⟨a, vs, rfl, ha, hl⟩ := h
    exact ⟨a, vs, rfl, .inl ha, (TrL.dt hl).ex ex_del⟩
  | .dict kvs, _, _, h => by
    unfold Tr at h
    unfold Dt
    obtain ⟨a, es, rfl, ha, nd, hl⟩ := h
    exact ⟨a, rfl, .inl ⟨es, .inl ha, nd, (TrK.dt hl).ex ex_del⟩⟩
theorem TrL.dt : ∀ {ds : List PyData} {H : Hp} {vs : List V}, TrL ds H vs → DtL H ds vs
  | [], _, _, h => by
    unfold TrL at h
    unfold DtL
    exact h
  | d :: r, _, _, h => by
    unfold TrL at h
    unfold DtL
    obtain ⟨v, t, A, B, rfl, h1, h2, h3, h4, h5⟩ := h
    exact ⟨v, t, rfl, (Tr.dt h4).ex h1, (TrL.dt h5).ex h2⟩
theorem TrK.dt : ∀ {ds : List (PyData × PyData)} {H : Hp} {vs : List (Key × V)}, TrK ds H vs → DtK H ds vs
  | [], _, _, h => by
    unfold TrK at h
    unfold DtK
    exact h
  | (k, d) :: r, _, _, h => by
    unfold TrK at h
    unfold DtK
    obtain ⟨x, v, t, A, B, rfl, hk, h1, h2, h3, h4, h5⟩ := h
    exact ⟨x, v, t, rfl, hk, (Tr.dt h4).ex h1, (TrK.dt h5).ex h2⟩
end
theorem TrL.snoc : ∀ {ds : List PyData} {d : PyData} {A B H : Hp} {vs : List V} {v : V}, TrL ds A vs → Tr d B v → Apart A B → Ex A H → Ex B H → TrL (ds ++ [d]) H (vs ++ [v])
  | [], d, A, B, H, _, v, h, q, ap, eA, eB => by
    unfold TrL at h
    subst h
    show TrL [d] H [v]
    unfold TrL
    exact ⟨v, [], B, fun _ => none, rfl, eB, fun _ _ z => (by cases z), fun _ => .inr rfl, q, by unfold TrL; rfl⟩
  | c :: r, d, A, B, H, _, v, h, q, ap, eA, eB => by
    unfold TrL at h
    obtain ⟨u, t, A0, B0, rfl, h1, h2, h3, h4, h5⟩ := h
    show TrL (c :: (r ++ [d])) H (u :: (t ++ [v]))
    unfold TrL
    have ab : Apart B0 B := ap.sub h2 (fun _ _ z => z)
    exact ⟨u, t ++ [v], A0, un B0 B, rfl, h1.trans eA, un_le (h2.trans eA) eB, un_apart h3 (ap.sub h1 (fun _ _ z => z)), h4, TrL.snoc h5 q ab un_l (un_r ab)⟩
theorem TrK.snoc : ∀ {ds : List (PyData × PyData)} {k d : PyData} {x : Key} {A B H : Hp} {vs : List (Key × V)} {v : V}, TrK ds A vs → Tr d B v → k = kD x → Apart A B → Ex A H → Ex B H → TrK (ds ++ [(k, d)]) H (vs ++ [(x, v)])
  | [], k, d, x, A, B, H, _, v, h, q, hk, ap, eA, eB => by
    unfold TrK at h
    subst h
    show TrK [(k, d)] H [(x, v)]
    unfold TrK
    exact ⟨x, v, [], B, fun _ => none, rfl, hk, eB, fun _ _ z => (by cases z), fun _ => .inr rfl, q, by unfold TrK; rfl⟩
  | (k0, c) :: r, k, d, x, A, B, H, _, v, h, q, hk, ap, eA, eB => by
    unfold TrK at h
    obtain ⟨x0, u, t, A0, B0, rfl, hk0, h1, h2, h3, h4, h5⟩ := h
    show TrK ((k0, c) :: (r ++ [(k, d)])) H ((x0, u) :: (t ++ [(x, v)]))
    unfold TrK
    have ab : Apart B0 B := ap.sub h2 (fun _ _ z => z)
    exact ⟨x0, u, t ++ [(x, v)], A0, un B0 B, rfl, hk0, h1.trans eA, un_le (h2.trans eA) eB, un_apart h3 (ap.sub h1 (fun _ _ z => z)), h4, TrK.snoc h5 q hk ab un_l (un_r ab)⟩
/-! ### parts by steps -/
def setM (kvs : List (PyData × PyData)) (y : Str) (x : PyData) : List (PyData × PyData) := kvs.map fun p => if nm p.1 = y then (p.1, x) else p
theorem setM_no : ∀ {kvs : List (PyData × PyData)} {y : Str} {x : PyData}, y ∉ names kvs → setM kvs y x = kvs
  | [], _, _, _ => rfl
  | (k, d) :: r, y, x, h => by
    have h' : y ∉ nm k :: names r := h
    rw [List.mem_cons, not_or] at h'
    show (if nm k = y then (k, x) else (k, d)) :: setM r y x = (k, d) :: r
    rw [if_neg (fun e => h'.1 e.symm), setM_no h'.2]
theorem setM_names (kvs : List (PyData × PyData)) (y : Str) (x : PyData) : names (setM kvs y x) = names kvs := by
  unfold names setM
  rw [List.map_map]
  apply List.map_congr_left
  intro p _
  show nm (if nm p.1 = y then (p.1, x) else p).1 = nm p.1
  split <;> rfl
def stepD : PyData → V → Option PyData
  | .list ds, .int i => if 0 ≤ i then ds[i.toNat]? else none
  | .dict kvs, .str y => if y ∈ names kvs then some (getN kvs y) else none
  | _, _ => none
def setD : PyData → V → PyData → PyData
  | .list ds, .int i, x => .list (ds.set i.toNat x)
  | .dict kvs, .str y, x => .dict (setM kvs y x)
  | d, _, _ => d
def At : PyData → List V → PyData → Prop
  | d, [], c => c = d
  | d, s :: p, c => ∃ e, stepD d s = some e ∧ At e p c
def putAt : PyData → List V → PyData → PyData
  | _, [], x => x
  | d, s :: p, x => match stepD d s with
    | some e => setD d s (putAt e p x)
    | none => d
theorem at_snoc : ∀ {p : List V} {d c : PyData} {s : V}, At d (p ++ [s]) c → ∃ e, At d p e ∧ stepD e s = some c
  | [], d, c, s, h => by
    obtain ⟨e, h1, h2⟩ := h
    have h2 : c = e := h2
    subst h2
    exact ⟨d, rfl, h1⟩
  | t :: p, d, c, s, h => by
    obtain ⟨e, h1, h2⟩ := h
    obtain ⟨g, h3, h4⟩ := at_snoc h2
    exact ⟨g, ⟨e, h1, h3⟩, h4⟩
theorem put_snoc : ∀ {p : List V} {d e c x : PyData} {s : V}, At d p e → stepD e s = some c → putAt d (p ++ [s]) x = putAt d p (setD e s x)
  | [], d, e, c, x, s, h, hs => by
    have h : e = d := h
    subst h
    show (match stepD e s with | some e' => setD e s (putAt e' [] x) | none => e) = setD e s x
    rw [hs]
    rfl
  | t :: p, d, e, c, x, s, h, hs => by
    obtain ⟨g, h1, h2⟩ := h
    show (match stepD d t with | some e' => setD d t (putAt e' (p ++ [s]) x) | none => d) = (match stepD d t with | some e' => setD d t (putAt e' p (setD e s x)) | none => d)
    rw [h1]
    show setD d t (putAt g (p ++ [s]) x) = setD d t (putAt g p (setD e s x))
    rw [put_snoc h2 hs]
/-- a step is into a list or a record -/
theorem step_cases {d c : PyData} {s : V} (h : stepD d s = some c) : (∃ ds i, d = .list ds ∧ s = .int i ∧ 0 ≤ i ∧ ds[i.toNat]? = some c) ∨ ∃ kvs y, d = .dict kvs ∧ s = .str y ∧ y ∈ names kvs ∧ getN kvs y = c := by
  cases d with
  | list ds =>
    cases s with
    | int i =>
      have h : (if 0 ≤ i then ds[i.toNat]? else none) = some c := h
      by_cases e : 0 ≤ i
      · rw [if_pos e] at h
        exact .inl ⟨ds, i, rfl, rfl, e, h⟩
      · rw [if_neg e] at h
        cases h
    | _ => cases h
  | dict kvs =>
    cases s with
    | str y =>
      have h : (if y ∈ names kvs then some (getN kvs y) else none) = some c := h
      by_cases e : y ∈ names kvs
      · rw [if_pos e] at h
        exact .inr ⟨kvs, y, rfl, rfl, e, Option.some.inj h⟩
      · rw [if_neg e] at h
        cases h
    | _ => cases h
  | _ => cases h
theorem getN_mem : ∀ {kvs : List (PyData × PyData)} {y : Str}, y ∈ names kvs → ∃ k, (k, getN kvs y) ∈ kvs ∧ nm k = y
  | (k, d) :: r, y, h => by
    have h' : y ∈ nm k :: names r := h
    by_cases e : nm k = y
    · refine ⟨k, ?_, e⟩
      unfold getN
      rw [if_pos e]
      exact List.mem_cons_self
    · rcases List.mem_cons.mp h' with q | q
      · exact (e q.symm).elim
      · obtain ⟨k', h1, h2⟩ := getN_mem q
        refine ⟨k', ?_, h2⟩
        unfold getN
        rw [if_neg e]
        exact List.mem_cons_of_mem _ h1
theorem step_kid {d c : PyData} {s : V} (h : stepD d s = some c) : c ∈ kids d := by
  rcases step_cases h with ⟨ds, i, rfl, rfl, h0, e⟩ | ⟨kvs, y, rfl, rfl, hy, rfl⟩
  · exact List.mem_of_getElem? e
  · obtain ⟨k, hk, _⟩ := getN_mem hy
    exact List.mem_map.mpr ⟨_, hk, rfl⟩
theorem okL_mem {ds : List PyData} (h : okL ds = true) {d : PyData} (m : d ∈ ds) : okA d = true := by
  rw [okL_all] at h
  exact List.all_eq_true.mp h d m
theorem okL_no {ds : List PyData} {d : PyData} (m : d ∈ ds) (h : okA d = false) : okL ds = false := by
  rw [okL_all]
  refine List.all_eq_false.mpr ⟨d, m, ?_⟩
  rw [h]
  exact Bool.false_ne_true
theorem step_ok {d c : PyData} {s : V} (h : stepD d s = some c) (o : okA d = true) : okA c = true := by
  rw [okA_kids, Bool.and_eq_true] at o
  exact okL_mem o.2 (step_kid h)
theorem at_ok : ∀ {p : List V} {d c : PyData}, At d p c → okA d = true → okA c = true
  | [], d, c, h, o => by
    have h : c = d := h
    rw [h]
    exact o
  | s :: p, d, c, h, o => by
    obtain ⟨e, h1, h2⟩ := h
    exact at_ok h2 (step_ok h1 o)
theorem setD_kid {d c x : PyData} {s : V} (h : stepD d s = some c) : x ∈ kids (setD d s x) := by
  rcases step_cases h with ⟨ds, i, rfl, rfl, h0, e⟩ | ⟨kvs, y, rfl, rfl, hy, rfl⟩
  · show x ∈ ds.set i.toNat x
    obtain ⟨hi, _⟩ := List.getElem?_eq_some_iff.mp e
    exact List.mem_of_getElem? (i := i.toNat) (by rw [List.getElem?_set_self hi])
  · obtain ⟨k, hk, he⟩ := getN_mem hy
    show x ∈ (setM kvs y x).map (·.2)
    refine List.mem_map.mpr ⟨(k, x), List.mem_map.mpr ⟨_, hk, ?_⟩, rfl⟩
    show (if nm k = y then (k, x) else _) = _
    rw [if_pos he]
theorem setD_bad {d c x : PyData} {s : V} (h : stepD d s = some c) (hx : okA x = false) : okA (setD d s x) = false := by
  rw [okA_kids, okL_no (setD_kid h) hx, Bool.and_false]
theorem putAt_bad : ∀ {p : List V} {d c x : PyData}, At d p c → okA x = false → okA (putAt d p x) = false
  | [], d, c, x, _, hx => hx
  | s :: p, d, c, x, h, hx => by
    obtain ⟨e, h1, h2⟩ := h
    show okA (match stepD d s with | some e => setD d s (putAt e p x) | none => d) = false
    rw [h1]
    exact setD_bad h1 (putAt_bad h2 hx)
/-! ### bounds of what is put -/
theorem nod_list (ds : List PyData) : nod (.list ds) = 1 + nodL ds := by rw [nod]
theorem nod_dict (ds : List (PyData × PyData)) : nod (.dict ds) = 1 + nodK ds := by rw [nod]
theorem limL_of : ∀ {ds : List PyData}, limL ds ↔ ∀ d ∈ ds, lim d
  | [] => ⟨fun _ d h => (by cases h), fun _ => by unfold limL; trivial⟩
  | c :: r => by
    unfold limL
    rw [limL_of (ds := r)]
    constructor
    · rintro ⟨h1, h2⟩ d hd
      rcases List.mem_cons.mp hd with rfl | hd
      · exact h1
      · exact h2 d hd
    · exact fun h => ⟨h c List.mem_cons_self, fun d hd => h d (List.mem_cons_of_mem _ hd)⟩
theorem limK_of : ∀ {ds : List (PyData × PyData)}, limK ds ↔ ∀ p ∈ ds, lim p.1 ∧ lim p.2
  | [] => ⟨fun _ d h => (by cases h), fun _ => by unfold limK; trivial⟩
  | (k, c) :: r => by
    unfold limK
    rw [limK_of (ds := r)]
    constructor
    · rintro ⟨h1, h2, h3⟩ d hd
      rcases List.mem_cons.mp hd with rfl | hd
      · exact ⟨h1, h2⟩
      · exact h3 d hd
    · exact fun h => ⟨(h (k, c) List.mem_cons_self).1, (h (k, c) List.mem_cons_self).2, fun d hd => h d (List.mem_cons_of_mem _ hd)⟩
theorem nodL_set : ∀ (ds : List PyData) (i : Nat) (x c : PyData), ds[i]? = some c → nodL (ds.set i x) + nod c = nodL ds + nod x
  | [], i, x, c, h => by simp at h
  | d :: r, 0, x, c, h => by
    simp only [List.getElem?_cons_zero, Option.some.injEq] at h
    subst h
    show nodL (x :: r) + _ = _
    unfold nodL
    omega
  | d :: r, i + 1, x, c, h => by
    rw [List.getElem?_cons_succ] at h
    have := nodL_set r i x c h
    show nodL (d :: r.set i x) + _ = _
    unfold nodL
    omega
theorem nodK_set : ∀ (kvs : List (PyData × PyData)) (y : Str) (x : PyData), (names kvs).Nodup → y ∈ names kvs → nodK (setM kvs y x) + nod (getN kvs y) = nodK kvs + nod x
  | [], y, x, _, h => by cases h
  | (k, d) :: r, y, x, nd, h => by
    have nd' : (nm k :: names r).Nodup := nd
    obtain ⟨n1, n2⟩ := List.nodup_cons.mp nd'
    have h' : y ∈ nm k :: names r := h
    show nodK ((if nm k = y then (k, x) else (k, d)) :: setM r y x) + nod (if nm k = y then d else getN r y) = _
    by_cases e : nm k = y
    · rw [if_pos e, if_pos e, setM_no (e ▸ n1)]
      unfold nodK
      omega
    · rw [if_neg e, if_neg e]
      have hy : y ∈ names r := by
        rcases List.mem_cons.mp h' with q | q
        · exact (e q.symm).elim
        · exact q
      have := nodK_set r y x n2 hy
      unfold nodK
      omega
/-! ### what a tree's part may be exchanged for -/
theorem DtL.set {H : Hp} : ∀ {ds : List PyData} {vs : List V} {i : Nat} {x : PyData} {u : V}, DtL H ds vs → Dt H x u → DtL H (ds.set i x) (vs.set i u)
  | [], _, i, x, u, h, q => by
    unfold DtL at h
    subst h
    exact DtL.nil
  | d :: r, _, 0, x, u, h, q => by
    unfold DtL at h
    obtain ⟨v, t, rfl, h1, h2⟩ := h
    exact DtL.cons q h2
  | d :: r, _, i + 1, x, u, h, q => by
    unfold DtL at h
    obtain ⟨v, t, rfl, h1, h2⟩ := h
    exact DtL.cons h1 (DtL.set h2 q)
theorem DtK.cons {H : Hp} {k d : PyData} {x : Key} {v : V} {r : List (PyData × PyData)} {t : List (Key × V)} (hk : k = kD x) (h : Dt H d v) (q : DtK H r t) : DtK H ((k, d) :: r) ((x, v) :: t) := by
  unfold DtK
  exact ⟨x, v, t, rfl, hk, h, q⟩
theorem key_nm {k : PyData} {x : Key} (hk : k = kD x) (h : k = .str (nm k)) : x = Sum.inr (nm k) := by
  cases x with
  | inl i =>
    rw [hk] at h
    cases h
  | inr z =>
    rw [hk]
    rfl
theorem DtK.setm {H : Hp} {y : Str} {x : PyData} {u : V} (q : Dt H x u) : ∀ {kvs : List (PyData × PyData)} {es : List (Key × V)}, DtK H kvs es → AllStr kvs → DtK H (setM kvs y x) (es.map fun kv => if kv.1 = (Sum.inr y : Key) then (kv.1, u) else kv)
  | [], _, h, _ => by
    unfold DtK at h
    subst h
    unfold setM DtK
    rfl
  | (k, d) :: r, _, h, ha => by
    unfold DtK at h
    obtain ⟨z, v, t, rfl, hk, h1, h2⟩ := h
    have hz := key_nm hk (ha (k, d) List.mem_cons_self)
    have ih := DtK.setm (y := y) q h2 (fun p hp => ha p (List.mem_cons_of_mem _ hp))
    show DtK H ((if nm k = y then (k, x) else (k, d)) :: setM r y x) ((if z = (Sum.inr y : Key) then (z, u) else (z, v)) :: _)
    by_cases e : nm k = y
    · rw [if_pos e, if_pos (by rw [hz, e])]
      exact DtK.cons hk q ih
    · rw [if_neg e, if_neg (by rw [hz]; exact fun w => e (Sum.inr.inj w))]
      exact DtK.cons hk h1 ih
theorem DtK.put {H : Hp} {y : Str} {x : PyData} {u : V} {kvs : List (PyData × PyData)} {es : List (Key × V)} (q : Dt H x u) (h : DtK H kvs es) (ha : AllStr kvs) (hy : y ∈ names kvs) : DtK H (setM kvs y x) (putK es (Sum.inr y) u) := by
  obtain ⟨v, hv, _⟩ := dtk_get h ha y hy
  unfold putK
  rw [valV_any, hv]
  exact DtK.setm q h ha
theorem putK_keys {es : List (Key × V)} {k : Key} {u : V} (h : (valV es k).isSome = true) : (putK es k u).map (·.1) = es.map (·.1) := by
  unfold putK
  rw [valV_any, h, if_pos rfl, List.map_map]
  apply List.map_congr_left
  intro p _
  show (if p.1 = k then (p.1, u) else p).1 = p.1
  split <;> rfl
theorem TrL.pick : ∀ {ds : List PyData} {H : Hp} {vs : List V} {i : Nat} {d : PyData}, TrL ds H vs → ds[i]? = some d → ∃ v A, vs[i]? = some v ∧ Ex A H ∧ Tr d A v ∧ ∀ H'' : Hp, (∀ b o, A b = none → H b = some o → H'' b = some o) → ∀ x, Dt H'' x v → DtL H'' (ds.set i x) vs
  | [], _, _, i, d, h, e => by simp at e
  | c :: r, H, _, 0, d, h, e => by
    unfold TrL at h
    obtain ⟨v, t, A, B, rfl, h1, h2, h3, h4, h5⟩ := h
    simp only [List.getElem?_cons_zero, Option.some.injEq] at e
    subst e
    refine ⟨v, A, rfl, h1, h4, fun H'' g x q => DtL.cons q ((TrL.dt h5).ex fun b o w => g b o ?_ (h2 b o w))⟩
    rcases h3 b with z | z
    · exact z
    · rw [z] at w
      cases w
  | c :: r, H, _, i + 1, d, h, e => by
    unfold TrL at h
    obtain ⟨v, t, A, B, rfl, h1, h2, h3, h4, h5⟩ := h
    rw [List.getElem?_cons_succ] at e
    obtain ⟨u, A', g1, g2, g3, g4⟩ := TrL.pick h5 e
    refine ⟨u, A', by rw [List.getElem?_cons_succ]; exact g1, g2.trans h2, g3, fun H'' g x q => DtL.cons ((Tr.dt h4).ex fun b o w => g b o ?_ (h1 b o w)) (g4 H'' (fun b o w w' => g b o w (h2 b o w')) x q)⟩
    rcases h3 b with z | z
    · rw [z] at w
      cases w
    · exact ex_free g2 z
theorem TrK.pick : ∀ {ds : List (PyData × PyData)} {H : Hp} {vs : List (Key × V)} {y : Str}, TrK ds H vs → AllStr ds → (names ds).Nodup → y ∈ names ds → ∃ v A, valV vs (Sum.inr y : Key) = some v ∧ Ex A H ∧ Tr (getN ds y) A v ∧
    ∀ H'' : Hp, (∀ b o, A b = none → H b = some o → H'' b = some o) → ∀ x, Dt H'' x v → DtK H'' (setM ds y x) vs
  | [], _, _, y, h, _, _, e => by cases e
  | (k, c) :: r, H, _, y, h, ha, nd, e => by
    unfold TrK at h
    obtain ⟨z, v, t, A, B, rfl, hk, h1, h2, h3, h4, h5⟩ := h
    have hz := key_nm hk (ha (k, c) List.mem_cons_self)
    have nd' : (nm k :: names r).Nodup := nd
    obtain ⟨n1, n2⟩ := List.nodup_cons.mp nd'
    have e' : y ∈ nm k :: names r := e
    by_cases ek : nm k = y
    · refine ⟨v, A, valV_pos (p := (z, v)) (by rw [← ek]; exact hz), h1, ?_, fun H'' g x q => ?_⟩
      · unfold getN
        rw [if_pos ek]
        exact h4
      · show DtK H'' ((if nm k = y then (k, x) else (k, c)) :: setM r y x) _
        rw [if_pos ek, setM_no (ek ▸ n1)]
        refine DtK.cons hk q ((TrK.dt h5).ex fun b o w => g b o ?_ (h2 b o w))
        rcases h3 b with z | z
        · exact z
        · rw [z] at w
          cases w
    · have hy : y ∈ names r := by
        rcases List.mem_cons.mp e' with q | q
        · exact (ek q.symm).elim
        · exact q
      obtain ⟨u, A', g1, g2, g3, g4⟩ := TrK.pick h5 (fun p hp => ha p (List.mem_cons_of_mem _ hp)) n2 hy
      refine ⟨u, A', ?_, g2.trans h2, ?_, fun H'' g x q => ?_⟩
      · rw [valV_neg (p := (z, v)) (by rw [hz]; exact fun w => ek (Sum.inr.inj w))]
        exact g1
      · unfold getN
        rw [if_neg ek]
        exact g3
      · show DtK H'' ((if nm k = y then (k, x) else (k, c)) :: setM r y x) _
        rw [if_neg ek]
        refine DtK.cons hk ((Tr.dt h4).ex fun b o w => g b o ?_ (h1 b o w)) (g4 H'' (fun b o w w' => g b o w (h2 b o w')) x q)
        rcases h3 b with z | z
        · rw [z] at w
          cases w
        · exact ex_free g2 z
/-- steps in the heap -/
def StepV (H : Hp) (v s u : V) : Prop := ∃ a, v = .ref a ∧ ((∃ vs i, L2.Rd H a (.lst vs) ∧ s = .int i ∧ atI vs i = some u) ∨ ∃ es k, L2.Rd H a (.dK es) ∧ s = kV k ∧ valV es k = some u)
def Wk (H : Hp) : V → List V → V → Prop
  | v, [], w => w = v
  | v, s :: p, w => ∃ u, StepV H v s u ∧ Wk H u p w
theorem StepV.ex {H H' : Hp} (e : Ex H H') {v s u : V} (h : StepV H v s u) : StepV H' v s u := by
  obtain ⟨a, rfl, ⟨vs, i, h1, h2, h3⟩ | ⟨es, k, h1, h2, h3⟩⟩ := h
  · exact ⟨a, rfl, .inl ⟨vs, i, rd_ex e h1, h2, h3⟩⟩
  · exact ⟨a, rfl, .inr ⟨es, k, rd_ex e h1, h2, h3⟩⟩
theorem Wk.ex {H H' : Hp} (e : Ex H H') : ∀ {p : List V} {v w : V}, Wk H v p w → Wk H' v p w
  | [], _, _, h => h
  | s :: p, _, _, ⟨u, h1, h2⟩ => ⟨u, h1.ex e, Wk.ex e h2⟩
theorem atI_of {xs : List V} {i : Int} {v : V} (h0 : 0 ≤ i) (h : xs[i.toNat]? = some v) : atI xs i = some v := by
  have e : ((i.toNat : Nat) : Int) = i := by omega
  have q : atI xs ((i.toNat : Nat) : Int) = some v := atI_nat h
  rw [e] at q
  exact q
theorem tr_ns {H : Hp} {kvs : List (PyData × PyData)} {es : List (Key × V)} (h : TrK kvs H es) (ho : okA (.dict kvs) = true) (nd : (es.map (·.1)).Nodup) : AllStr kvs ∧ (names kvs).Nodup := by
  rw [okA_kids, Bool.and_eq_true] at ho
  obtain ⟨ha, _⟩ := allStr_of ho.1
  exact ⟨ha, nodup_names (TrK.dt h) ha nd⟩
/-- exchanging one part of a tree -/
theorem hole : ∀ {p : List V} {d c : PyData} {H : Hp} {v : V}, Tr d H v → okA d = true → At d p c → ∃ w A, Wk H v p w ∧ Ex A H ∧ Tr c A w ∧
    (∀ a, w = .ref a → (∃ o, A a = some o) → ∀ H'' : Hp, (∀ b o, b ≠ a → H b = some o → H'' b = some o) → ∀ x, Dt H'' x w → Dt H'' (putAt d p x) v) ∧
    ∀ x, lim x → lim (putAt d p x) ∧ nod (putAt d p x) + nod c = nod d + nod x
  | [], d, c, H, v, h, ho, e => by
    have e : c = d := e
    subst e
    exact ⟨v, H, rfl, fun _ _ z => z, h, fun a _ _ H'' _ x q => q, fun x hx => ⟨hx, by show nod x + _ = _; omega⟩⟩
  | s :: p, d, c, H, v, h, ho, e => by
    obtain ⟨g, hs, he⟩ := e
    have hpa : ∀ x, putAt d (s :: p) x = setD d s (putAt g p x) := fun x => by
      show (match stepD d s with | some e' => setD d s (putAt e' p x) | none => d) = _
      rw [hs]
    have hlim := (ok_lim d ho).1
    have hog := step_ok hs ho
    rcases step_cases hs with ⟨ds, i, rfl, rfl, h0, hi⟩ | ⟨kvs, y, rfl, rfl, hy, rfl⟩
    · unfold Tr at h
      obtain ⟨b, vs, rfl, hb, hl⟩ := h
      obtain ⟨u, A, k1, k2, k3, k4⟩ := TrL.pick hl hi
      obtain ⟨w, A', m1, m2, m3, m4, m5⟩ := hole k3 hog he
      refine ⟨w, A', ⟨u, ⟨b, rfl, .inl ⟨vs, i, .inl hb, rfl, atI_of h0 k1⟩⟩, m1.ex (k2.trans ex_del)⟩, m2.trans (k2.trans ex_del), m3, ?_, ?_⟩
      · rintro a ea ⟨o, hao⟩ H'' hH x hx
        rw [hpa]
        have haA := m2 _ _ hao
        have hab : a ≠ b := fun z => by
          have := k2 _ _ haA
          rw [z, del_same] at this
          cases this
        have q := m4 a ea ⟨o, hao⟩ H'' (fun b' o' n w' => hH b' o' n (ex_del _ _ (k2 _ _ w'))) x hx
        show Dt H'' (.list (ds.set i.toNat (putAt g p x))) (.ref b)
        unfold Dt
        refine ⟨b, vs, rfl, .inl (hH b _ (fun z => hab z.symm) hb), k4 H'' (fun b' o' n w' => hH b' o' (fun z => ?_) (ex_del _ _ w')) _ q⟩
        rw [z, haA] at n
        cases n
      · intro x hx
        rw [hpa]
        obtain ⟨q1, q2⟩ := m5 x hx
        show lim (.list (ds.set i.toNat (putAt g p x))) ∧ nod (.list (ds.set i.toNat (putAt g p x))) + _ = _
        have q3 := nodL_set ds i.toNat (putAt g p x) g hi
        rw [nod_list, nod_list]
        unfold lim
        unfold lim at hlim
        refine ⟨limL_of.mpr fun z hz => ?_, by omega⟩
        rcases List.mem_or_eq_of_mem_set hz with hz | rfl
        · exact limL_of.mp hlim z hz
        · exact q1
    · unfold Tr at h
      obtain ⟨b, es, rfl, hb, nd, hl⟩ := h
      obtain ⟨ha, nds⟩ := tr_ns hl ho nd
      obtain ⟨u, A, k1, k2, k3, k4⟩ := TrK.pick hl ha nds hy
      obtain ⟨w, A', m1, m2, m3, m4, m5⟩ := hole k3 hog he
      refine ⟨w, A', ⟨u, ⟨b, rfl, .inr ⟨es, Sum.inr y, .inl hb, rfl, k1⟩⟩, m1.ex (k2.trans ex_del)⟩, m2.trans (k2.trans ex_del), m3, ?_, ?_⟩
      · rintro a ea ⟨o, hao⟩ H'' hH x hx
        rw [hpa]
        have haA := m2 _ _ hao
        have hab : a ≠ b := fun z => by
          have := k2 _ _ haA
          rw [z, del_same] at this
          cases this
        have q := m4 a ea ⟨o, hao⟩ H'' (fun b' o' n w' => hH b' o' n (ex_del _ _ (k2 _ _ w'))) x hx
        show Dt H'' (.dict (setM kvs y (putAt (getN kvs y) p x))) (.ref b)
        unfold Dt
        refine ⟨b, rfl, .inl ⟨es, .inl (hH b _ (fun z => hab z.symm) hb), nd, k4 H'' (fun b' o' n w' => hH b' o' (fun z => ?_) (ex_del _ _ w')) _ q⟩⟩
        rw [z, haA] at n
        cases n
      · intro x hx
        rw [hpa]
        obtain ⟨q1, q2⟩ := m5 x hx
        show lim (.dict (setM kvs y (putAt (getN kvs y) p x))) ∧ nod (.dict (setM kvs y (putAt (getN kvs y) p x))) + _ = _
        have q3 := nodK_set kvs y (putAt (getN kvs y) p x) nds hy
        rw [nod_dict, nod_dict]
        unfold lim
        unfold lim at hlim
        refine ⟨limK_of.mpr fun z hz => ?_, by omega⟩
        obtain ⟨z0, hz0, rfl⟩ := List.mem_map.mp hz
        have hz1 := limK_of.mp hlim z0 hz0
        by_cases ez : nm z0.1 = y
        · rw [if_pos ez]
          exact ⟨hz1.1, q1⟩
        · rw [if_neg ez]
          exact hz1
end VL

namespace LW
open PySem PySem.Spec L2
section
variable {X : Cx} {k j : Nat} {x : Str} {sp : Sp} {p pos : Pos} {e : Expr} {es : List Expr} {t : TA} {E : XK}
theorem pe_kP (c : Cal X.prog X.w X.K X.mg X.base (L2.CX X.prog X.w) k x sp) (hr : Room j X.A) (hk : k ≤ j) (hx : Passes (L2.CX X.prog X.w) X E) (hg : Gl X x) (ha : PA X (e :: es) t)
    (hdb : (x == ("__debug__" : Str)) = false := by decide) (he : starEach (e :: es) X.env = (false, eval e X.env) :: starEach es X.env := by rfl) (hpl : (backTo pos (starEach es X.env)).any (·.1) = false := by rfl) :
    PE X (.Call (.Name x p) (e :: es) [] pos) (tCall sp [] E t) := by
  obtain ⟨f, fd, ps, F, hm, kp, b⟩ := c.ex
  exact pe_call F (hr.mono hk) hg hm kp b .nil hx ha hdb he hpl
theorem smK {X : Cx} (K : PySem.W.Frag) (hc : X.calm = true) (h : X.K = K := by rfl) : CallR X (.builtin "sum") (rSum K) := by
  subst h
  exact cr_sum hc
end
/-- a def of which nothing is asked -/
theorem cal_no {P : Program} {w : World} {K : PySem.W.Frag} {mg : Str → Option Value} {base : Heap} {x : Str} {st : Stmt} {N ps : List Str} {k : Nat} {sp : Sp} (F : Df K mg x st) (S : FnScope N ps (defScope st)) (hb : BindsEq x st ps) (no : ∀ vs H Q E, sp vs H Q E → False) : Cal P w K mg base CX0 (k + 1) x sp :=
  cal0 F S hb (fun vs H Q E h => (no vs H Q E h).elim) (fun f cdv A outer s H vs Q E hr h => (no vs H Q E h).elim)
end LW
namespace VL
open PySem PySem.Spec L2 LW
open Evl (Ex)
section
variable {P : Program} {w : World} {K : PySem.W.Frag} {mg : Str → Option Value} {base : Heap} {CI : Addr}
/-! ### InvalidValue -/
theorem sc_InvalidValue___init__ : FnScope ["self", "value"] ["self", "value"] (defScope s_InvalidValue___init__) := ⟨rfl, rfl, rfl, by decide +kernel, rfl, by decide +kernel, by decide +kernel⟩
theorem bi_InvalidValue___init__ : BindsM "__init__" "InvalidValue.__init__" s_InvalidValue___init__ ["self", "value"] := fun _ _ _ _ _ _ us hl => match us, hl with | [_, _], _ => rfl
theorem ok_iinit {f0 : Addr} {fd0 : FuncData} (F : FunD K "__init__" "InvalidValue.__init__" (defArgs s_InvalidValue___init__) (defBody s_InvalidValue___init__) (defScope s_InvalidValue___init__) [] [] f0 fd0) (ox : OexC K CI) (no : PySem.W.findIn K (.ref CI) "value" = some none) :
    FnOk P w K mg base CX0 1 f0 fd0 ["self", "value"] (spXI K CI "value") := by
  refine F.ok sc_InvalidValue___init__ (fun vs H Q E h => ?_) (fun cdv A outer s H vs Q E hr h => ?_)
  · obtain ⟨a, v, rfl, _⟩ := h
    rfl
  · obtain ⟨a, v, rfl, ha, k⟩ := h
    refine ⟨_, PSs.nox (pss_one (ps_ost (pv 0) (pv 1))), ?_⟩
    exact ⟨_, rfl, _, rfl, a, CI, rfl, ox, no, .inl ⟨ha, fun dx h1 h2 => k dx h1 h2⟩⟩
/-! ### check_value -/
def spCheckV (CI : Addr) : Sp := fun vs H Q E => ∃ (v : V) (d : PyData), vs = [v] ∧ Dt H d v ∧ szA d ∧ (isV d = true → ∀ H', Ex H H' → Q .non H') ∧
  (isV d = false → ∀ dd H', Ex H H' → H' dd = some (.xd [("value", v)]) → E (.ref CI) (some dd) H')
theorem sc_check_value : FnScope ["thing"] ["thing"] (defScope s_check_value) := ⟨rfl, rfl, rfl, by decide +kernel, rfl, by decide +kernel, by decide +kernel⟩
theorem bi_check_value : BindsEq "check_value" s_check_value ["thing"] := fun _ _ _ _ _ _ us hl => match us, hl with | [_], _ => rfl
theorem ok_checkv (F : Df K mg "check_value" s_check_value) (T : Txt K mg) (C_is_value : Cal P w K mg base CX0 4 "is_value" spIsVal) (X_InvalidValue : XMk P w K mg base 1 "InvalidValue" CI "value") : Cal P w K mg base (L2.CX P w) 5 "check_value" (spCheckV CI) := by
  refine calX F sc_check_value bi_check_value (fun vs H Q E h => ?_) (fun f cdv A outer s H vs Q E hr h => ?_)
  · obtain ⟨v, d, rfl, _⟩ := h
    rfl
  · obtain ⟨v, d, rfl, hd, hz, k1, k2⟩ := h
    refine ⟨_, (pss_one (ps_if (pt_not (pt_val (pe_k C_is_value hr (by decide) rfl (pa_cons (pv 0) pa_nil)))) (pss_one (ps_raise rfl (takes_of rfl rfl rfl rfl) (pmk_x X_InvalidValue hr (by decide) rfl (pa_cons (pv 0) pa_nil)))) pss_nil)), ?_⟩
    refine ⟨_, rfl, v, d, rfl, hd, hz, fun H1 e1 => ⟨_, rfl, if_b (fun h => ?_) (fun h => ?_)⟩⟩
    · exact ⟨_, rfl, xmk_go fun dd H2 _ e2 hdd => k2 (by simpa using h) dd H2 (e1.trans e2) hdd⟩
    · exact k1 (by simpa using h) H1 e1
/-! ### count -/
def spCount (n : Nat) : Sp := fun vs H Q _ => ∃ (v : V) (d : PyData), vs = [v] ∧ Dt H d v ∧ okA d = true ∧ cnt d ≤ n ∧ ∀ H', Ex H H' → Q (.int (cnt d)) H'
theorem sc_count : FnScope ["value", "step", "child"] ["value"] (defScope s_count) := ⟨rfl, rfl, rfl, by decide +kernel, rfl, by decide +kernel, by decide +kernel⟩
theorem bi_count : BindsEq "count" s_count ["value"] := fun _ _ _ _ _ _ us hl => match us, hl with | [_], _ => rfl
theorem cntL_sum' (ds : List PyData) : ((ds.map fun d => (cnt d : Int)).sum : Int) = (cntL ds : Int) := by
  induction ds with
  | nil => unfold cntL; rfl
  | cons d r ih =>
    rw [List.map_cons, List.sum_cons, ih, show cntL (d :: r) = cnt d + cntL r from by rw [cntL]]
    omega
theorem ok_count (F : Df K mg "count" s_count) (T : Txt K mg) (C_children : Cal P w K mg base CX0 1 "children" spKids) : ∀ n, Cal P w K mg base CX0 (n + 2) "count" (spCount n)
  | 0 => cal_no F sc_count bi_count fun vs H Q E h => by
    obtain ⟨v, d, _, _, _, hc, _⟩ := h
    have := cnt_pos d
    omega
  | n + 1 => by
    have C_count := ok_count F T C_children n
    refine cal0 F sc_count bi_count (fun vs H Q E h => ?_) (fun f cdv A outer s H vs Q E hr h => ?_)
    · obtain ⟨v, d, rfl, _⟩ := h
      rfl
    · obtain ⟨v, d, rfl, hd, ho, hc, k⟩ := h
      refine ⟨_, (pss_one (ps_ret (pe_op op_add pe_int (pe_callB (smK K rfl) rfl T.b_sum (by decide +kernel) (pa_cons (pe_lc (own := [("step", 1), ("child", 2)]) (by rfl) sc_count.nd (pil K (pe_k C_children hr (by omega) rfl (pa_cons (pv 0) pa_nil))) (blkOk_by (own := [("step", 1), ("child", 2)]) (N := ["value", "step", "child"]) (sc := defScope s_count) (by decide +kernel)) (fun _ _ _ _ _ => (pgt (n := 2) K rfl (pgs_cons (pg_name (i := 1) sc_count.nd rfl (Or.inl rfl)) (pgs_cons (pg_name (i := 2) sc_count.nd rfl (Or.inl rfl)) pgs_nil)))) (fun _ _ _ _ _ => pts_nil) (fun _ _ _ _ _ => (pe_k C_count hr (Nat.le_refl _) rfl (pa_cons (pv 2) pa_nil)))) pa_nil))))), ?_⟩
      have ho' := ho
      rw [okA_kids, Bool.and_eq_true] at ho'
      refine ⟨_, rfl, v, d, H, rfl, hd, (fun _ _ h => h), ho'.1, fun q H3 ts cs x3 nq hq hts hcs => ?_⟩
      have hkp := kids_perm hcs (kids_ns hd ho'.1)
      have hkl : cs.length ≤ 60 := by
        have := kids_len ho'.1
        have := hkp.length_eq
        rw [List.length_map] at this
        omega
      have htl : ts.length = cs.length := Paired.len hts
      refine ⟨q, rfl, ⟨_, SqLo hq⟩, fun D nD => lc_gr (walk_list (xs := ts)) (fun i acc _ => acc = (cs.take i).map fun c => V.int (cnt c.2)) nD (by omega) rfl (fun H' e => SqLo (e _ _ hq)) ?_ ?_⟩
      · rintro i x acc H4 H5 hi g g' gD gl rfl ⟨rfl, hx1⟩
        obtain ⟨c, hc1, t, u, rfl, ht, hu⟩ := Paired.get hts hx1
        have hck : c.2 ∈ kids d := hkp.mem_iff.mp (List.mem_map_of_mem (List.mem_of_getElem? hc1))
        refine ⟨t, _, rfl, .inl (rd_ex g ht), rfl, _, _, rfl, _, _, rfl, rfl, rfl, _, rfl, u, c.2, rfl, hu.ex (x3.trans g), okL_mem ho'.2 hck, ?_, fun H6 x6 => lc_put g' gD gl (by omega) x6 ?_⟩
        · have := cnt_kid hck
          omega
        · rw [List.take_add_one, List.map_append, hc1]
          rfl
      · rintro acc H4 g g' gD gl rfl
        have e3 : cs.take ts.length = cs := List.take_of_length_le (by omega)
        rw [e3] at gD
        refine ⟨D, cs.map fun c => (cnt c.2 : Int), rfl, ?_, _, _, rfl, rfl, ?_⟩
        · rw [List.map_map]
          exact SqLo gD
        · have e4 : (1 : Int) + (cs.map fun c => (cnt c.2 : Int)).sum = (cnt d : Int) := by
            have := cntL_sum' (cs.map (·.2))
            rw [List.map_map] at this
            rw [show (cs.map fun c => (cnt c.2 : Int)) = cs.map ((fun d => (cnt d : Int)) ∘ fun x => x.2) from rfl, this, cntL_perm hkp, cnt_kids d]
            omega
          have q := k H4 (x3.trans g)
          rw [← e4] at q
          exact q
/-! ### size -/
def spSize (CI : Addr) : Sp := fun vs H Q E => ∃ (v : V) (d : PyData), vs = [v] ∧ Dt H d v ∧ szA d ∧ (isV d = true → ∀ H', Ex H H' → Q (.int (cnt d)) H') ∧
  (isV d = false → ∀ dd H', Ex H H' → H' dd = some (.xd [("value", v)]) → E (.ref CI) (some dd) H')
theorem sc_size : FnScope ["value"] ["value"] (defScope s_size) := ⟨rfl, rfl, rfl, by decide +kernel, rfl, by decide +kernel, by decide +kernel⟩
theorem bi_size : BindsEq "size" s_size ["value"] := fun _ _ _ _ _ _ us hl => match us, hl with | [_], _ => rfl
theorem ok_size (F : Df K mg "size" s_size) (T : Txt K mg) (C_check_value : Cal P w K mg base (L2.CX P w) 5 "check_value" (spCheckV CI)) (C_count : Cal P w K mg base CX0 62 "count" (spCount 60)) : Cal P w K mg base (L2.CX P w) 63 "size" (spSize CI) := by
  refine calX F sc_size bi_size (fun vs H Q E h => ?_) (fun f cdv A outer s H vs Q E hr h => ?_)
  · obtain ⟨v, d, rfl, _⟩ := h
    rfl
  · obtain ⟨v, d, rfl, hd, hz, k1, k2⟩ := h
    refine ⟨_, (pss_cons (ps_expr (pe_kP C_check_value hr (by decide) (passes_call (takes_of rfl rfl rfl rfl) (fun _ _ _ _ h => h)) rfl (pa_cons (pv 0) pa_nil)))
 (pss_one (ps_ret (pe_k C_count hr (by decide) rfl (pa_cons (pv 0) pa_nil))))), ?_⟩
    refine ⟨_, rfl, v, d, rfl, hd, hz, fun hv H1 e1 => ?_, k2⟩
    have hv' := hv
    unfold isV at hv'
    rw [Bool.and_eq_true] at hv'
    exact ⟨_, rfl, v, d, rfl, hd.ex e1, hv'.1, of_decide_eq_true hv'.2, fun H2 e2 => k1 hv H2 (e1.trans e2)⟩
end
end VL

namespace VL
open PySem PySem.Spec L2 LW
open Evl (Ex)
/-! ### words -/
def low1 (c : Nat) : Prop := 97 ≤ c ∧ c ≤ 122
theorem join_low : ∀ cs : List Nat, (Str.join "" (cs.map fun c => (⟨#[c]⟩ : Str))).cps.toList = cs
  | [] => rfl
  | [c] => rfl
  | c :: d :: r => by
    have ih := join_low (d :: r)
    show ((⟨#[c]⟩ : Str) ++ "" ++ Str.join "" ((d :: r).map fun c => (⟨#[c]⟩ : Str))).cps.toList = _
    rw [Str.cps_append, Array.toList_append, ih]
    rfl
theorem lets_of {x : Str} {a b : Nat} (h1 : a ≤ x.cps.toList.length) (h2 : x.cps.toList.length ≤ b) (h : ∀ c ∈ x.cps.toList, low1 c) : lets x a b = true := by
  rw [Array.length_toList] at h1 h2
  have e1 : a ≤ x.length := h1
  have e2 : x.length ≤ b := h2
  unfold lets low
  rw [decide_eq_true e1, decide_eq_true e2]
  show (true && _) = true
  rw [Bool.true_and]
  refine List.all_eq_true.mpr fun c hc => ?_
  rw [decide_eq_true (h c hc).1, decide_eq_true (h c hc).2]
  rfl
theorem sum_ones (cs : List Nat) : ((cs.map fun c => (⟨#[c]⟩ : Str)).map (·.length)).sum = cs.length := by
  induction cs with
  | nil => rfl
  | cons c r ih =>
    rw [List.map_cons, List.map_cons, List.sum_cons, ih, List.length_cons]
    show 1 + _ = _
    omega
section
variable {P : Program} {w : World} {K : PySem.W.Frag} {mg : Str → Option Value} {base : Heap}
def spWord : Sp := fun vs H Q _ => ∃ (p : Addr) (n : Nat), vs = [.ref p, .int n] ∧ Pool H p ∧ n ≤ 100 ∧ ∀ x H', Ex H H' → lets x n n = true → Q (.str x) H'
theorem sc__law_word : FnScope ["_law_pool", "_law_longest", "_law_letters", "_law_k"] ["_law_pool", "_law_longest"] (defScope s__law_word) := ⟨rfl, rfl, rfl, by decide +kernel, rfl, by decide +kernel, by decide +kernel⟩
theorem bi__law_word : BindsEq "_law_word" s__law_word ["_law_pool", "_law_longest"] := fun _ _ _ _ _ _ us hl => match us, hl with | [_, _], _ => rfl
theorem ok_word (F : Df K mg "_law_word" s__law_word) (T : Txt K mg) (C__law_draw : Cal P w K mg base CX0 1 "_law_draw" spDraw) : Cal P w K mg base CX0 2 "_law_word" spWord := by
  refine cal0 F sc__law_word bi__law_word (fun vs H Q E h => ?_) (fun f cdv A outer s H vs Q E hr h => ?_)
  · obtain ⟨p, n, rfl, _⟩ := h
    rfl
  · obtain ⟨p, n, rfl, hp, hn, k⟩ := h
    refine ⟨_, (pss_cons (ps_set (i := 2) sc__law_word.nd rfl (Or.inr rfl) pe_str)
 (pss_one (ps_ret (pe_join pe_str (pe_lc (own := [("_law_k", 3)]) (by rfl) sc__law_word.nd (pi_range1 rfl T.b_range (pa_cons (pv 1) pa_nil)) (blkOk_by (own := [("_law_k", 3)]) (N := ["_law_pool", "_law_longest", "_law_letters", "_law_k"]) (sc := defScope s__law_word) (by decide +kernel)) (fun _ _ _ _ _ => (pg_name (i := 3) sc__law_word.nd rfl (Or.inl rfl))) (fun _ _ _ _ _ => pts_nil) (fun _ _ _ _ _ => (pe_ix ix_str (pv 2) (pe_k C__law_draw hr (by decide) rfl (pa_cons (pv 0) (pa_cons pe_int pa_nil))) (fun _ _ => rfl)))))))), ?_⟩
    refine ⟨⟨_, rfl⟩, _, rfl, (n : Int), rfl, by omega, by omega, fun D nD => lc_gr walk_range (fun i acc _ => ∃ cs : List Nat, acc = cs.map (fun c => V.str ⟨#[c]⟩) ∧ cs.length = i ∧ ∀ c ∈ cs, low1 c) nD (by omega) ⟨[], rfl, rfl, nofun⟩ (fun _ _ => True.intro) ?_ ?_⟩
    · rintro i x acc H1 H2 hi e e' hD hl ⟨cs, rfl, hcs, hlo⟩ ⟨rfl, rfl⟩
      refine ⟨rfl, _, rfl, _, rfl, p, 26, rfl, hp.ex e, by decide, by decide, fun v v0 v1 => ?_⟩
      obtain ⟨c, hc1, hc2, _⟩ := at_some (xs := ("abcdefghijklmnopqrstuvwxyz" : Str).cps.toList) (v := v) v0 (by
        have e : ("abcdefghijklmnopqrstuvwxyz" : Str).cps.toList.length = 26 := by decide +kernel
        rw [e]
        exact v1)
      have hlow : low1 c := by
        have q := letters_mem c
        rw [decide_eq_true hc2] at q
        have q := (Bool.and_eq_true _ _).mp q.symm
        exact ⟨of_decide_eq_true q.1, of_decide_eq_true q.2⟩
      refine ⟨_, _, c, rfl, rfl, szl (by decide +kernel), hc1, lc_put e' hD hl (by omega) (fun _ _ h => h) ⟨cs ++ [c], ?_, ?_, ?_⟩⟩
      · rw [List.map_append]
        rfl
      · rw [List.length_append, hcs]
        rfl
      · intro z hz
        rcases List.mem_append.mp hz with hz | hz
        · exact hlo z hz
        · cases List.mem_singleton.mp hz
          exact hlow
    · rintro acc H1 e e' hD hl ⟨cs, rfl, hcs, hlo⟩
      have hj := join_low cs
      have hlen : cs.length = n := by omega
      refine ⟨_, D, cs.map fun c => (⟨#[c]⟩ : Str), rfl, rfl, .inl ?_, ?_, ?_⟩
      · rw [List.map_map]
        exact SqLo hD
      · rw [sum_ones, List.length_map]
        show cs.length + cs.length * 0 ≤ _
        omega
      · rw [show Txt.join "" (cs.map fun c => (⟨#[c]⟩ : Str)) = Str.join "" (cs.map fun c => (⟨#[c]⟩ : Str)) from TL.join_eq _ _]
        exact k _ _ e (lets_of (by rw [hj]; omega) (by rw [hj]; omega) (by rw [hj]; exact hlo))
/-! ### leaves -/
def Lf (d : PyData) (v : V) : Prop := (∃ i, d = .int i ∧ v = .int i) ∨ ∃ x, d = .str x ∧ v = .str x
theorem Lf.dt {H : Hp} {d : PyData} {v : V} (h : Lf d v) : Dt H d v := by
  rcases h with ⟨i, rfl, rfl⟩ | ⟨i, rfl, rfl⟩ <;> (unfold Dt; rfl)
theorem Lf.cnt {d : PyData} {v : V} (h : Lf d v) : cnt d = 1 := by
  rcases h with ⟨i, rfl, rfl⟩ | ⟨i, rfl, rfl⟩ <;> rfl
def spLeafV : Sp := fun vs H Q _ => ∃ (p : Addr), vs = [.ref p] ∧ Pool H p ∧ ∀ v d H', Ex H H' → Lf d v → okA d = true → Q v H'
theorem sc__law_leaf : FnScope ["_law_pool", "_law_way"] ["_law_pool"] (defScope s__law_leaf) := ⟨rfl, rfl, rfl, by decide +kernel, rfl, by decide +kernel, by decide +kernel⟩
theorem bi__law_leaf : BindsEq "_law_leaf" s__law_leaf ["_law_pool"] := fun _ _ _ _ _ _ us hl => match us, hl with | [_], _ => rfl
theorem int_ok {i : Int} (h1 : -big < i) (h2 : i < big) : okA (.int i) = true := by
  unfold okA
  show (decide (-big < i) && decide (i < big)) = true
  rw [decide_eq_true h1, decide_eq_true h2]
  rfl
theorem ok_leafv (F : Df K mg "_law_leaf" s__law_leaf) (T : Txt K mg) (C__law_draw : Cal P w K mg base CX0 1 "_law_draw" spDraw) (C__law_word : Cal P w K mg base CX0 2 "_law_word" spWord) : Cal P w K mg base CX0 3 "_law_leaf" spLeafV := by
  refine cal0 F sc__law_leaf bi__law_leaf (fun vs H Q E h => ?_) (fun f cdv A outer s H vs Q E hr h => ?_)
  · obtain ⟨p, rfl, _⟩ := h
    rfl
  · obtain ⟨p, rfl, hp, k⟩ := h
    refine ⟨_, (pss_cons (ps_set (i := 1) sc__law_leaf.nd rfl (Or.inl rfl) (pe_k C__law_draw hr (by decide) rfl (pa_cons (pv 0) (pa_cons pe_int pa_nil))))
 (pss_cons (ps_if (pt_cmpR op_lt (pv 1) pe_int (nomark _)) (pss_one (ps_ret (pe_op op_sub (pe_k C__law_draw hr (by decide) rfl (pa_cons (pv 0) (pa_cons pe_int pa_nil))) pe_int))) pss_nil)
 (pss_cons (ps_if (pt_cmpR op_eq (pv 1) pe_int (nomark _)) (pss_one (ps_ret (pe_op op_add (pe_op op_mul (pe_op op_sub (pe_k C__law_draw hr (by decide) rfl (pa_cons (pv 0) (pa_cons (pe_op op_mul pe_int (pe_op op_pow pe_int pe_int)) pa_nil))) (pe_op op_pow pe_int pe_int)) (pe_op op_pow pe_int pe_int)) (pe_k C__law_draw hr (by decide) rfl (pa_cons (pv 0) (pa_cons (pe_op op_pow pe_int pe_int) pa_nil)))))) pss_nil)
 (pss_cons (ps_if (pt_cmpR op_eq (pv 1) pe_int (nomark _)) (pss_one (ps_ret (pe_ix (ixl K) (pe_lst (pa_cons (pe_op op_sub (pe_op op_pow pe_int pe_int) pe_int) (pa_cons (pe_op op_sub pe_int (pe_op op_pow pe_int pe_int)) pa_nil))) (pe_k C__law_draw hr (by decide) rfl (pa_cons (pv 0) (pa_cons pe_int pa_nil))) (fun _ _ => rfl)))) pss_nil)
 (pss_one (ps_ret (pe_k C__law_word hr (by decide) rfl (pa_cons (pv 0) (pa_cons (pe_ix (ixl K) (pe_lst (pa_cons pe_int (pa_cons pe_int (pa_cons pe_int (pa_cons pe_int (pa_cons pe_int pa_nil)))))) (pe_k C__law_draw hr (by decide) rfl (pa_cons (pv 0) (pa_cons pe_int pa_nil))) (fun _ _ => rfl)) pa_nil))))))))), ?_⟩
    refine ⟨_, rfl, p, 8, rfl, hp, by decide, by decide, fun wy w0 w1 => ?_⟩
    refine ⟨_, rfl, _, _, rfl, rfl, _, rfl, if_b (fun h => ?_) (fun h => ?_)⟩
    · refine ⟨_, rfl, p, 7, rfl, hp, by decide, by decide, fun x x0 x1 => ⟨_, _, rfl, rfl, ?_⟩⟩
      exact k _ _ H (fun _ _ h => h) (.inl ⟨_, rfl, rfl⟩) (int_ok (by unfold big; omega) (by unfold big; omega))
    · refine ⟨_, rfl, rfl, _, rfl, if_b (fun h2 => ?_) (fun h2 => ?_)⟩
      · have c9 : (10 : Int) ^ (9 : Int).toNat = 1000000000 := by decide
        have c20 : (10 : Int) ^ (20 : Int).toNat = 100000000000000000000 := by decide
        have cp : CPow 10 9 := ⟨by decide, by decide, by decide⟩
        have cp2 : CPow 10 20 := ⟨by decide, by decide, by decide⟩
        refine ⟨_, rfl, _, _, rfl, rfl, cp, _, _, rfl, rfl, .inl ⟨by decide, by decide⟩, p, _, rfl, hp, by decide, by decide, fun x x0 x1 => ?_⟩
        refine ⟨_, _, rfl, rfl, cp, _, _, rfl, rfl, _, _, rfl, rfl, cp2, _, _, rfl, rfl, ?_, _, rfl, _, _, rfl, rfl, cp, p, _, rfl, hp, by decide, by decide, fun y y0 y1 => ⟨_, _, rfl, rfl, ?_⟩⟩
        · rw [c9]
          rw [c9] at x1
          exact .inl ⟨by omega, by omega⟩
        · rw [c9] at x1 y1
          rw [c9, c20]
          exact k _ _ H (fun _ _ h => h) (.inl ⟨_, rfl, rfl⟩) (int_ok (by unfold big; omega) (by unfold big; omega))
      · refine ⟨_, rfl, rfl, _, rfl, if_b (fun h3 => ?_) (fun h3 => ?_)⟩
        · have c30 : (10 : Int) ^ (30 : Int).toNat = big := by decide
          have cp3 : CPow 10 30 := ⟨by decide, by decide, by decide⟩
          refine ⟨_, _, rfl, rfl, cp3, _, _, rfl, rfl, _, _, rfl, rfl, cp3, _, _, rfl, rfl, szl (by show 2 ≤ 100000; decide), fun p1 np1 => ?_⟩
          obtain ⟨H1, hH1, x0_1, h1⟩ := newH _ np1
          rw [hH1]
          clear hH1
          have f1 := np1
          refine ⟨_, rfl, p, 2, rfl, hp.ex x0_1, by decide, by decide, fun x x0 x1 => ?_⟩
          obtain ⟨z, hz1, hz2, _⟩ := at_some (xs := [V.int ((10 : Int) ^ (30 : Int).toNat - 1), V.int (1 - (10 : Int) ^ (30 : Int).toNat)]) (v := x) x0 x1
          refine ⟨p1, _, _, _, rfl, rfl, SqLo h1, hz1, ?_⟩
          rw [c30] at hz2
          rcases List.mem_cons.mp hz2 with rfl | hz2
          · exact k _ _ _ x0_1 (.inl ⟨_, rfl, rfl⟩) (int_ok (by unfold big; omega) (by unfold big; omega))
          · cases List.mem_singleton.mp hz2
            exact k _ _ _ x0_1 (.inl ⟨_, rfl, rfl⟩) (int_ok (by unfold big; omega) (by unfold big; omega))
        · refine ⟨_, rfl, szl (by show 5 ≤ 100000; decide), fun p1 np1 => ?_⟩
          obtain ⟨H1, hH1, x0_1, h1⟩ := newH _ np1
          rw [hH1]
          clear hH1
          have f1 := np1
          refine ⟨_, rfl, p, 5, rfl, hp.ex x0_1, by decide, by decide, fun x x0 x1 => ?_⟩
          obtain ⟨z, hz1, hz2, _⟩ := at_some (xs := [V.int 0, V.int 1, V.int 2, V.int 3, V.int 20]) (v := x) x0 x1
          have hz3 : ∃ n : Nat, z = .int n ∧ n ≤ 20 := by
            simp only [List.mem_cons, List.not_mem_nil, or_false] at hz2
            rcases hz2 with rfl | rfl | rfl | rfl | rfl
            · exact ⟨0, rfl, by decide⟩
            · exact ⟨1, rfl, by decide⟩
            · exact ⟨2, rfl, by decide⟩
            · exact ⟨3, rfl, by decide⟩
            · exact ⟨20, rfl, by decide⟩
          obtain ⟨n, rfl, hn⟩ := hz3
          refine ⟨p1, _, _, _, rfl, rfl, SqLo h1, hz1, p, n, rfl, hp.ex x0_1, by omega, fun x H' e hx => ?_⟩
          refine k _ _ _ (x0_1.trans e) (.inr ⟨x, rfl, rfl⟩) ?_
          unfold okA
          unfold lets at hx
          rw [Bool.and_eq_true, Bool.and_eq_true] at hx
          have hx1 := of_decide_eq_true hx.1.2
          show (decide (0 ≤ x.length) && decide (x.length ≤ 20) && low x) = true
          rw [decide_eq_true (Nat.zero_le _), decide_eq_true (by omega), hx.2]
          rfl
end
end VL

namespace VL
open PySem PySem.Spec L2 LW
open Evl (Ex)
/-! ### putting into a record -/
def putP (kvs : List (PyData × PyData)) (y : Str) (x : PyData) : List (PyData × PyData) := if y ∈ names kvs then setM kvs y x else kvs ++ [(.str y, x)]
theorem cntK_set : ∀ (kvs : List (PyData × PyData)) (y : Str) (x : PyData), (names kvs).Nodup → y ∈ names kvs → cntK (setM kvs y x) + cnt (getN kvs y) = cntK kvs + cnt x
  | [], y, x, _, h => by cases h
  | (k, d) :: r, y, x, nd, h => by
    have nd' : (nm k :: names r).Nodup := nd
    obtain ⟨n1, n2⟩ := List.nodup_cons.mp nd'
    have h' : y ∈ nm k :: names r := h
    show cntK ((if nm k = y then (k, x) else (k, d)) :: setM r y x) + cnt (if nm k = y then d else getN r y) = _
    by_cases e : nm k = y
    · rw [if_pos e, if_pos e, setM_no (e ▸ n1)]
      rw [cntK, cntK]
      omega
    · rw [if_neg e, if_neg e]
      have hy : y ∈ names r := by
        rcases List.mem_cons.mp h' with q | q
        · exact (e q.symm).elim
        · exact q
      have := cntK_set r y x n2 hy
      rw [cntK, cntK]
      omega
theorem cntK_app (xs : List (PyData × PyData)) (k d : PyData) : cntK (xs ++ [(k, d)]) = cntK xs + cnt d := by
  rw [cntK_eq, cntK_eq, List.map_append, cntL_app]
  show _ + cntL [d] = _
  rw [cntL, cntL]
  omega
theorem putP_cnt (kvs : List (PyData × PyData)) (y : Str) (x : PyData) (nd : (names kvs).Nodup) : cntK (putP kvs y x) ≤ cntK kvs + cnt x := by
  unfold putP
  split
  · rename_i h
    have := cntK_set kvs y x nd h
    omega
  · rw [cntK_app]
    omega
theorem putP_len (kvs : List (PyData × PyData)) (y : Str) (x : PyData) : (putP kvs y x).length ≤ kvs.length + 1 := by
  unfold putP
  split
  · unfold setM
    rw [List.length_map]
    omega
  · rw [List.length_append]
    exact Nat.le_refl _
theorem putP_fld {kvs : List (PyData × PyData)} {y : Str} {x : PyData} (h : ∀ p ∈ kvs, fld p.1 = true) (hy : fld (.str y) = true) : ∀ p ∈ putP kvs y x, fld p.1 = true := by
  intro p hp
  unfold putP at hp
  split at hp
  · obtain ⟨z, hz, rfl⟩ := List.mem_map.mp hp
    split <;> exact h z hz
  · rcases List.mem_append.mp hp with hp | hp
    · exact h p hp
    · cases List.mem_singleton.mp hp
      exact hy
theorem okK_mem {kvs : List (PyData × PyData)} : okK kvs = true ↔ ∀ p ∈ kvs, okA p.2 = true := by
  rw [okK_eq, okL_all, List.all_eq_true]
  constructor
  · exact fun h p hp => h p.2 (List.mem_map_of_mem hp)
  · intro h d hd
    obtain ⟨p, hp, rfl⟩ := List.mem_map.mp hd
    exact h p hp
theorem putP_ok {kvs : List (PyData × PyData)} {y : Str} {x : PyData} (h : okK kvs = true) (hx : okA x = true) : okK (putP kvs y x) = true := by
  rw [okK_mem] at h ⊢
  intro p hp
  unfold putP at hp
  split at hp
  · obtain ⟨z, hz, rfl⟩ := List.mem_map.mp hp
    split
    · exact hx
    · exact h z hz
  · rcases List.mem_append.mp hp with hp | hp
    · exact h p hp
    · cases List.mem_singleton.mp hp
      exact hx
theorem allStr_fld {kvs : List (PyData × PyData)} (h : ∀ p ∈ kvs, fld p.1 = true) : AllStr kvs := fun p hp => by
  have q := h p hp
  cases e : p.1 with
  | str x => rfl
  | _ => rw [e] at q; cases q
theorem DtK.app1 {H : Hp} {k d : PyData} {x : Key} {v : V} (hk : k = kD x) (q : Dt H d v) : ∀ {kvs : List (PyData × PyData)} {es : List (Key × V)}, DtK H kvs es → DtK H (kvs ++ [(k, d)]) (es ++ [(x, v)])
  | [], _, h => by
    unfold DtK at h
    subst h
    refine DtK.cons hk q ?_
    unfold DtK
    rfl
  | (k0, d0) :: r, _, h => by
    unfold DtK at h
    obtain ⟨z, u, t, rfl, hk0, h1, h2⟩ := h
    exact DtK.cons hk0 h1 (DtK.app1 hk q h2)
theorem val_no {H : Hp} {kvs : List (PyData × PyData)} {es : List (Key × V)} (h : DtK H kvs es) (ha : AllStr kvs) {y : Str} (hy : y ∉ names kvs) : valV es (Sum.inr y : Key) = none := by
  have e := dtk_names h ha
  cases q : valV es (Sum.inr y : Key) with
  | none => rfl
  | some v =>
    exfalso
    unfold valV at q
    cases f : es.find? fun kv => decide (kv.1 = (Sum.inr y : Key)) with
    | none =>
      rw [f] at q
      cases q
    | some p =>
      have h1 := List.mem_of_find?_eq_some f
      have h2 := List.find?_some f
      have h3 : p.1 = (Sum.inr y : Key) := of_decide_eq_true h2
      have h4 : (Sum.inr y : Key) ∈ es.map (·.1) := by
        rw [← h3]
        exact List.mem_map_of_mem h1
      rw [e] at h4
      obtain ⟨z, hz, hz2⟩ := List.mem_map.mp h4
      cases hz2
      exact hy hz
theorem dtk_putP {H : Hp} {y : Str} {x : PyData} {u : V} {kvs : List (PyData × PyData)} {es : List (Key × V)} (q : Dt H x u) (h : DtK H kvs es) (ha : AllStr kvs) (nd : (es.map (·.1)).Nodup) :
    DtK H (putP kvs y x) (putK es (Sum.inr y) u) ∧ ((putK es (Sum.inr y : Key) u).map (·.1)).Nodup := by
  unfold putP
  by_cases hy : y ∈ names kvs
  · rw [if_pos hy]
    obtain ⟨v, hv, _⟩ := dtk_get h ha y hy
    refine ⟨DtK.put q h ha hy, ?_⟩
    rw [putK_keys (by rw [hv]; rfl)]
    exact nd
  · rw [if_neg hy]
    have hv := val_no h ha hy
    rw [putK_new u hv]
    refine ⟨DtK.app1 (k := .str y) (x := Sum.inr y) rfl q h, ?_⟩
    rw [List.map_append, List.nodup_append]
    refine ⟨nd, by simp, fun a ha' b hb => ?_⟩
    cases List.mem_singleton.mp hb
    rw [dtk_names h ha] at ha'
    obtain ⟨z, hz, rfl⟩ := List.mem_map.mp ha'
    exact fun e => hy (Sum.inr.inj e ▸ hz)
/-! ### _law_value -/
section
variable {P : Program} {w : World} {K : PySem.W.Frag} {mg : Str → Option Value} {base : Heap}
def spValue (n : Nat) : Sp := fun vs H Q _ => ∃ (pl ro : Addr) (r dp : Nat), vs = [.ref pl, .ref ro, .int dp] ∧ dp < n ∧ Pool H pl ∧ H ro = some (.lst [.int r]) ∧ r ≤ 59 ∧
  ∀ v d (r' : Nat) H', Ex (upd H ro (.lst [.int r'])) H' → Dt (fr H H') d v → okA d = true → cnt d + r' ≤ 1 + r → Q v H'
/-- the heap of the run: the room has changed, a new object stands at D -/
structure Rm (H Hi : Hp) (ro D : Addr) (o : HO) (r : Nat) : Prop where
  ex : Ex (upd H ro (.lst [.int r])) (del Hi D)
  hD : Hi D = some o
theorem Rm.next {H Hi H4 : Hp} {ro D : Addr} {o o' : HO} {r r' : Nat} {u : HO} (h : Rm H Hi ro D o r) (hro : H ro = some u) (nD : H D = none) (e : Ex (upd Hi ro (.lst [.int r'])) H4) : Rm H (upd H4 D o') ro D o' r' ∧ Ex (fr H (del Hi D)) (fr H (del (upd H4 D o') D)) ∧ Ex (fr Hi H4) (fr H (del (upd H4 D o') D)) ∧ H4 D = some o := by
  have ne : D ≠ ro := fun z => by rw [z, hro] at nD; cases nD
  have dm : ∀ b, Hi b = none → H b = none := fun b hb => by
    cases q : H b with
    | none => rfl
    | some x =>
      by_cases eb : b = ro
      · have := h.ex ro _ upd_same
        rw [eb] at hb
        rw [ex_del _ _ this] at hb
        cases hb
      · have := ex_del _ _ (h.ex b x (by rw [upd_ne eb]; exact q))
        rw [hb] at this
        cases this
  refine ⟨⟨fun b x q => ?_, upd_same⟩, fun b x q => ?_, fun b x q => ?_, ?_⟩
  · rw [del_upd]
    by_cases eb : b = ro
    · subst eb
      rw [upd_same] at q
      cases q
      exact del_get (e _ _ upd_same) (fun z => ne z.symm)
    · rw [upd_ne eb] at q
      have q1 := h.ex b x (by rw [upd_ne eb]; exact q)
      have eD : b ≠ D := fun z => by rw [z, del_same] at q1; cases q1
      exact del_get (e b x (by rw [upd_ne eb]; exact ex_del _ _ q1)) eD
  · obtain ⟨n, q⟩ := fr_some q
    have eD : b ≠ D := fun z => by rw [z, del_same] at q; cases q
    have eb : b ≠ ro := fun z => by rw [z, hro] at n; cases n
    rw [del_upd]
    exact fr_get n (del_get (e b x (by rw [upd_ne eb]; exact ex_del _ _ q)) eD)
  · obtain ⟨n, q⟩ := fr_some q
    have eD : b ≠ D := fun z => by rw [z, h.hD] at n; cases n
    rw [del_upd]
    exact fr_get (dm b n) (del_get q eD)
  · exact e _ _ (by rw [upd_ne ne]; exact h.hD)
theorem Rm.grow {H Hi H4 : Hp} {ro D : Addr} {o : HO} {r : Nat} (h : Rm H Hi ro D o r) (e : Ex Hi H4) : Rm H H4 ro D o r := ⟨h.ex.trans (del_grow' e), e _ _ h.hD⟩
theorem Rm.ro {H Hi : Hp} {ro D : Addr} {o : HO} {r : Nat} (h : Rm H Hi ro D o r) : Hi ro = some (.lst [.int r]) := ex_del _ _ (h.ex _ _ upd_same)
theorem Rm.old {H Hi : Hp} {ro D a : Addr} {o u : HO} {r : Nat} (h : Rm H Hi ro D o r) (q : H a = some u) (ne : a ≠ ro) : Hi a = some u := ex_del _ _ (h.ex _ _ (by rw [upd_ne ne]; exact q))
theorem upd_id {H : Hp} {a : Addr} {o : HO} (h : H a = some o) : upd H a o = H := by
  funext b
  by_cases hb : b = a
  · rw [hb, upd_same, h]
  · rw [upd_ne hb]
theorem at_heap {f : Hp → Prop} {A B : Hp} (e : A = B) (h : f B) : f A := e ▸ h
theorem fld_str {y : Str} (h : lets y 1 8 = true) : fld (.str y) = true := h
theorem sc__law_value : FnScope ["_law_pool", "_law_room", "_law_deep", "_law_way", "_law_many_here", "_law_k", "_law_found", "_law_name"] ["_law_pool", "_law_room", "_law_deep"] (defScope s__law_value) := ⟨rfl, rfl, rfl, by decide +kernel, rfl, by decide +kernel, by decide +kernel⟩
theorem bi__law_value : BindsEq "_law_value" s__law_value ["_law_pool", "_law_room", "_law_deep"] := fun _ _ _ _ _ _ us hl => match us, hl with | [_, _, _], _ => rfl
theorem ok_value (F : Df K mg "_law_value" s__law_value) (T : Txt K mg) (C__law_draw : Cal P w K mg base CX0 1 "_law_draw" spDraw) (C__law_word : Cal P w K mg base CX0 2 "_law_word" spWord) (C__law_leaf : Cal P w K mg base CX0 3 "_law_leaf" spLeafV) :
    ∀ n, Cal P w K mg base CX0 (n + 4) "_law_value" (spValue n)
  | 0 => cal_no F sc__law_value bi__law_value fun vs H Q E h => by
    obtain ⟨pl, ro, r, dp, _, hc, _⟩ := h
    omega
  | n + 1 => by
    have C__law_value := ok_value F T C__law_draw C__law_word C__law_leaf n
    refine cal0 F sc__law_value bi__law_value (fun vs H Q E h => ?_) (fun f cdv A outer s H vs Q E hr h => ?_)
    · obtain ⟨pl, ro, r, dp, rfl, _⟩ := h
      rfl
    · obtain ⟨pl, ro, r, dp, rfl, hdp, hp, hro, hr59, k⟩ := h
      have hu : (A.deeper (PyProof.Rows.envOfC "_law_value" (defScope s__law_value) s.heap.objs.size f cdv)).units + 1 < cLine := by have := hr.un; omega
      refine ⟨_, (pss_cons (ps_set (i := 3) sc__law_value.nd rfl (Or.inl rfl) (pe_k C__law_draw hr (by omega) rfl (pa_cons (pv 0) (pa_cons pe_int pa_nil))))
 (pss_cons (ps_set (i := 4) sc__law_value.nd rfl (Or.inl rfl) (pe_callB (call_min2 rfl) rfl T.b_min (by decide +kernel) (pa_cons (pe_callTy call_int1 rfl T.b_int (by decide +kernel) (pa_cons (pe_k C__law_draw hr (by omega) rfl (pa_cons (pv 0) (pa_cons pe_int pa_nil))) pa_nil)) (pa_cons (pe_callTy call_int1 rfl T.b_int (by decide +kernel) (pa_cons (pe_ix (ixl K) (pv 1) pe_int (fun _ _ => rfl)) pa_nil)) pa_nil))))
 (pss_cons (ps_if (PW.pt (pw_or (pt_cmpR op_eq (pv 2) pe_int (nomark _)) (pw_or1 (pt_cmpR op_lt (pv 3) pe_int (nomark _))))) (pss_one (ps_ret (pe_k C__law_leaf hr (by omega) rfl (pa_cons (pv 0) pa_nil)))) pss_nil)
 (pss_cons (ps_asg (pe_op op_sub (pe_ix (ixl K) (pv 1) pe_int (fun _ _ => rfl)) (pv 4)) (pg_sub (pv 1) pe_int set_list))
 (pss_cons (ps_if (pt_cmpR op_eq (pv 3) pe_int (nomark _)) (pss_one (ps_ret (pe_lc (own := [("_law_k", 5)]) (by rfl) sc__law_value.nd (pi_range1 rfl T.b_range (pa_cons (pv 4) pa_nil)) (blkOk_by (own := [("_law_k", 5)]) (N := ["_law_pool", "_law_room", "_law_deep", "_law_way", "_law_many_here", "_law_k", "_law_found", "_law_name"]) (sc := defScope s__law_value) (by decide +kernel)) (fun _ _ _ _ _ => (pg_name (i := 5) sc__law_value.nd rfl (Or.inl rfl))) (fun _ _ _ _ _ => pts_nil) (fun _ _ _ _ _ => (pe_k C__law_value hr (by omega) rfl (pa_cons (pv 0) (pa_cons (pv 1) (pa_cons (pe_op op_sub (pv 2) pe_int) pa_nil)))))))) pss_nil)
 (pss_cons (ps_set (i := 6) sc__law_value.nd rfl (Or.inl rfl) pe_dnewK)
 (pss_cons (ps_for PassesOwn.never rfl (pi_range1 rfl T.b_range (pa_cons (pv 4) pa_nil)) (pg_name (i := 5) sc__law_value.nd rfl (Or.inl rfl)) (pss_cons (ps_set (i := 7) sc__law_value.nd rfl (Or.inl rfl) (pe_ix (ixl K) (pe_lst (pa_cons (pe_ix (ixl K) (pe_lst (pa_cons pe_str (pa_cons pe_str (pa_cons pe_str (pa_cons pe_str pa_nil))))) (pv 5) (fun _ _ => rfl)) (pa_cons (pe_k C__law_word hr (by omega) rfl (pa_cons (pv 0) (pa_cons pe_int pa_nil))) pa_nil))) (pe_k C__law_draw hr (by omega) rfl (pa_cons (pv 0) (pa_cons pe_int pa_nil))) (fun _ _ => rfl)))
 (pss_one (ps_dput hu (pv 6) (pv 7) (pe_k C__law_value hr (by omega) rfl (pa_cons (pv 0) (pa_cons (pv 1) (pa_cons (pe_op op_sub (pv 2) pe_int) pa_nil)))) rfl))))
 (pss_one (ps_ret (pv 6)))))))))), ?_⟩
      refine ⟨_, rfl, pl, 4, rfl, hp, by decide, by decide, fun wy w0 w1 => ?_⟩
      refine ⟨_, rfl, pl, 5, rfl, hp, by decide, by decide, fun my m0 m1 => ?_⟩
      refine .inl ⟨_, rfl, _, rfl, ro, _, _, _, rfl, rfl, SqLo hro, (show atI [V.int r] 0 = some (.int r) from rfl), .inl ⟨_, rfl, _, _, rfl, ?_⟩⟩
      obtain ⟨m, hm, hm4, hmr⟩ : ∃ m : Nat, (if (r : Int) < my then (r : Int) else my) = m ∧ m ≤ 4 ∧ m ≤ r := by
        split
        · exact ⟨r, rfl, by omega, Nat.le_refl _⟩
        · exact ⟨my.toNat, by omega, by omega, by omega⟩
      rw [hm]
      have pr : pl ≠ ro := fun z => by
        have q := hp
        rw [z] at q
        rw [show H ro = some (poolO ro) from q] at hro
        cases hro
      have cast : dp ≠ 0 → (dp : Int) - 1 = ((dp - 1 : Nat) : Int) := fun h => by omega
      have leafGo : ∀ v d H', Ex H H' → Lf d v → okA d = true → Q v H' := fun v d H' e hl ho => k v d r H' (by rw [upd_id hro]; exact e) hl.dt ho (by rw [hl.cnt]; omega)
      refine ⟨_, rfl, rfl, _, rfl, if_b (fun h => ?_) (fun h => ?_)⟩
      · exact if_t rfl ⟨_, rfl, pl, rfl, hp, leafGo⟩
      · have dp0 : dp ≠ 0 := fun z => by
          rw [z] at h
          cases h
        refine ⟨_, rfl, _, _, rfl, rfl, _, rfl, if_b (fun h1 => ?_) (fun h1 => ?_)⟩
        · exact ⟨_, rfl, pl, rfl, hp, leafGo⟩
        refine ⟨_, rfl, ro, _, _, _, rfl, rfl, SqLo hro, (show atI [V.int r] 0 = some (.int r) from rfl), _, rfl, _, _, rfl, rfl, _, rfl, ro, _, _, 0, rfl, rfl, hro, rfl, ?_⟩
        refine at_heap (B := upd H ro (.lst [.int ((r - m : Nat) : Int)])) ?_ ?_
        · show upd H ro (HO.lst [V.int ((r : Int) - (m : Int))]) = _
          rw [show ((r : Int) - (m : Int)) = ((r - m : Nat) : Int) by omega]
        refine ⟨_, rfl, rfl, _, rfl, if_b (fun h2 => ?_) (fun h2 => ?_)⟩
        · -- a list
          refine ⟨_, rfl, (m : Int), rfl, by omega, by omega, fun D nD => ?_⟩
          have nD0 : H D = none := by
            by_cases e : D = ro
            · rw [e, upd_same] at nD
              cases nD
            · rw [upd_ne e] at nD
              exact nD
          refine lc_it walk_range (fun i Hi => ∃ acc ds ri, Rm H Hi ro D (.lst acc) ri ∧ DtL (fr H (del Hi D)) ds acc ∧ okL ds = true ∧ ds.length = i ∧ cntL ds + ri ≤ i + (r - m)) ?_ (fun _ _ _ _ => True.intro) ?_ ?_
          · refine ⟨[], [], r - m, ⟨?_, upd_same⟩, DtL.nil, rfl, rfl, by rw [cntL]; omega⟩
            rw [del_none nD]
            exact fun _ _ h => h
          · rintro i x Hi H2 hi ⟨acc, ds, ri, rm, hdl, hok, hlen, hcn⟩ ⟨rfl, rfl⟩
            have hl := hdl.len
            refine ⟨rfl, _, rfl, _, rfl, _, rfl, _, _, rfl, rfl, pl, ro, ri, dp - 1, ?_, by omega, rm.old hp pr, rm.ro, by omega, fun v d r'' H4 e4 hdt ho hc => ?_⟩
            · show [V.ref pl, V.ref ro, V.int ((dp : Int) - 1)] = _
              rw [cast dp0]
            · obtain ⟨n1, n2, n3, n4⟩ := rm.next (o' := .lst (acc ++ [v])) hro nD0 e4
              refine ⟨acc, n4, szlt (by omega), acc ++ [v], ds ++ [d], r'', n1, ?_, ?_, ?_, ?_⟩
              · exact DtL.app (hdl.ex n2) (DtL.cons (hdt.ex n3) DtL.nil)
              · rw [okL_app, hok, Bool.true_and, okL, okL, ho]
                rfl
              · rw [List.length_append, hlen]
                rfl
              · rw [cntL_app, cntL, cntL]
                omega
          · rintro Hi ⟨acc, ds, ri, rm, hdl, hok, hlen, hcn⟩
            refine k _ (.list ds) ri Hi (rm.ex.trans ex_del) ?_ ?_ ?_
            · unfold Dt
              exact ⟨D, acc, rfl, .inl (fr_get nD0 rm.hD), hdl.ex (fr_mono ex_del)⟩
            · unfold okA
              rw [hok, Bool.and_true]
              exact decide_eq_true (by omega)
            · rw [cnt]
              omega
        · -- a record
          intro D nD
          have nD0 : H D = none := by
            by_cases e : D = ro
            · rw [e, upd_same] at nD
              cases nD
            · rw [upd_ne e] at nD
              exact nD
          refine ⟨_, rfl, (m : Int), rfl, by omega, by omega, for_it walk_range (fun i σ' Hi => ∃ es kvs ri o5 o7, σ' = [some (.ref pl), some (.ref ro), some (.int dp), some (.int wy), some (.int m), o5, some (.ref D), o7] ∧ Rm H Hi ro D (.dK es) ri ∧ DtK (fr H (del Hi D)) kvs es ∧ (es.map (·.1)).Nodup ∧ (∀ p ∈ kvs, fld p.1 = true) ∧ okK kvs = true ∧ kvs.length ≤ i ∧ cntK kvs + ri ≤ i + (r - m)) ?_ (fun _ _ _ _ _ => True.intro) ?_ ?_⟩
          · refine ⟨[], [], r - m, none, none, rfl, ⟨?_, upd_same⟩, by unfold DtK; rfl, List.nodup_nil, nofun, rfl, Nat.le_refl _, by rw [cntK]; omega⟩
            rw [del_none nD]
            exact fun _ _ h => h
          · rintro i x σ' Hi H2 hi ⟨es, kvs, ri, o5, o7, rfl, rm, hdk, hnd, hfl, hok, hlen, hcn⟩ ⟨rfl, rfl⟩
            have hpi := rm.old hp pr
            refine ⟨szl (by show 4 ≤ 100000; decide), fun p1 np1 => ?_⟩
            obtain ⟨Ha, hHa, xa, ha⟩ := newH _ np1
            rw [hHa]
            clear hHa
            obtain ⟨z, hz1, hz2, _⟩ := at_some (xs := [V.str "b", V.str "a", V.str "ab", V.str "zz"]) (v := 0 + (i : Int)) (by omega) (by show (0 + (i : Int)) < 4; omega)
            have hz3 : ∃ y : Str, z = .str y ∧ fld (.str y) = true := by
              simp only [List.mem_cons, List.not_mem_nil, or_false] at hz2
              rcases hz2 with rfl | rfl | rfl | rfl
              · exact ⟨_, rfl, by decide +kernel⟩
              · exact ⟨_, rfl, by decide +kernel⟩
              · exact ⟨_, rfl, by decide +kernel⟩
              · exact ⟨_, rfl, by decide +kernel⟩
            obtain ⟨y1, rfl, hy1⟩ := hz3
            refine ⟨_, rfl, p1, _, _, _, rfl, rfl, SqLo ha, hz1, _, rfl, pl, 8, rfl, Pool.ex hpi xa, by decide, fun y2 Hb xb hy2 => ?_⟩
            have hf2 : fld (.str y2) = true := by
              unfold lets at hy2
              rw [Bool.and_eq_true, Bool.and_eq_true] at hy2
              have a1 := of_decide_eq_true hy2.1.1
              show (decide (1 ≤ y2.length) && decide (y2.length ≤ 8) && low y2) = true
              rw [decide_eq_true (by omega), hy2.1.2, hy2.2]
              rfl
            refine ⟨szl (by show 2 ≤ 100000; decide), fun p2 np2 => ?_⟩
            obtain ⟨Hc, hHc, xc, hc2⟩ := newH _ np2
            rw [hHc]
            clear hHc
            refine ⟨_, rfl, pl, 2, rfl, Pool.ex hpi (xa.trans (xb.trans xc)), by decide, by decide, fun u u0 u1 => ?_⟩
            obtain ⟨z, hz1, hz2, _⟩ := at_some (xs := [V.str y1, V.str y2]) (v := u) u0 u1
            have hz3 : ∃ y : Str, z = .str y ∧ fld (.str y) = true := by
              simp only [List.mem_cons, List.not_mem_nil, or_false] at hz2
              rcases hz2 with rfl | rfl
              · exact ⟨_, rfl, hy1⟩
              · exact ⟨_, rfl, hf2⟩
            obtain ⟨y, rfl, hy⟩ := hz3
            refine ⟨p2, _, _, _, rfl, rfl, SqLo hc2, hz1, ?_⟩
            have xi := xa.trans (xb.trans xc)
            have rmc := rm.grow xi
            refine ⟨_, rfl, _, rfl, _, rfl, _, _, rfl, rfl, pl, ro, ri, dp - 1, ?_, by omega, rmc.old hp pr, rmc.ro, by omega, fun v d r'' H4 e4 hdt ho hc => ?_⟩
            · show [V.ref pl, V.ref ro, V.int ((dp : Int) - 1)] = _
              rw [cast dp0]
            · obtain ⟨n1, n2, n3, n4⟩ := rmc.next (o' := .dK (putK es (Sum.inr y) v)) hro nD0 e4
              have hal := allStr_fld hfl
              have n2' := (fr_mono (H := H) (del_grow' (p := D) xi)).trans n2
              obtain ⟨q1, q2⟩ := dtk_putP (y := y) (hdt.ex n3) (hdk.ex n2') hal hnd
              have hkl : es.length = kvs.length := DtK.len hdk
              refine ⟨_, rfl, _, rfl, D, _, rfl, DPut.k (k := Sum.inr y) n4 (szlt (by omega)), _, putP kvs y d, r'', _, _, rfl, n1, q1, q2, putP_fld hfl hy, putP_ok hok ho, ?_, ?_⟩
              · have := putP_len kvs y d
                omega
              · have := putP_cnt kvs y d (nodup_names hdk hal hnd)
                omega
          · rintro σ' Hi ⟨es, kvs, ri, o5, o7, rfl, rm, hdk, hnd, hfl, hok, hlen, hcn⟩
            refine ⟨_, rfl, k _ (.dict kvs) ri Hi (rm.ex.trans ex_del) ?_ ?_ ?_⟩
            · unfold Dt
              exact ⟨D, rfl, .inl ⟨es, .inl (fr_get nD0 rm.hD), hnd, hdk.ex (fr_mono ex_del)⟩⟩
            · unfold okA
              rw [hok, Bool.and_true]
              show (decide (kvs.length ≤ 8) && kvs.all fun p => fld p.1) = true
              rw [decide_eq_true (by omega), Bool.true_and]
              exact List.all_eq_true.mpr hfl
            · rw [cnt]
              omega
end
end VL

namespace VL
open PySem PySem.Spec L2 LW
open Evl (Ex)
/-- a statement while a dict is locked: the heaps agree but there -/
theorem lockA_eq {t : TS} {D : Ends} {σ : L2.St} {H : Hp} {a : Addr} {u : HO} (hu : L2.Rd H a u) (mu : Mut (some u))
    (body : ∀ (Hf : Hp) (o : Obj) (D' : Ends) (th : Hp → Hp), (∀ b, b ≠ a → Hf b = H b) → Hf a = some (.frz o u) → RdX H Hf → (∀ H' b, b ≠ a → th H' b = H' b) → (∀ H', H' a = some (.frz o u) → th H' a = H a ∧ RdX H' (th H')) →
      (∀ v H', H' a = some (.frz o u) → D.rt v (th H') → D'.rt v H') → (∀ σ' H', H' a = some (.frz o u) → D.nx σ' (th H') → D'.nx σ' H') → t D' σ Hf) : tLockA t D σ H := by
  rcases hu with h | ⟨o, h⟩
  · left
    have nf : NF u := fun o' u' z => by
      rw [z] at mu
      exact mu
    refine ⟨a, u, h, mu, fun od => body _ od _ (fun H' => upd H' a u) (fun b hb => upd_ne hb) upd_same (rdx_lock h nf) (fun H' b hb => upd_ne hb) ?_ ?_ ?_⟩
    · intro H' e
      exact ⟨upd_same.trans h.symm, rdx_free e⟩
    · intro v H' e q
      exact ⟨e, q⟩
    · intro v H' e q
      exact ⟨e, q⟩
  · right
    exact body H o D (fun H' => H') (fun _ _ => rfl) h (fun _ _ _ h => h) (fun _ _ _ => rfl) (fun H' e => ⟨e.trans h.symm, fun _ _ _ h => h⟩) (fun _ _ _ q => q) (fun _ _ _ q => q)
theorem catA_of {K : PySem.W.Frag} {H : Hp} {Q : VK} {a b : Addr} {xs ys : List V} (hx : L2.Rd H a (.tup xs)) (hy : L2.Rd H b (.tup ys)) (ny : ys ≠ []) (hz : xs.length + ys.length ≤ 100000) (k : ∀ p H', Ex H H' → L2.Rd H' p (.tup (xs ++ ys)) → Q (.ref p) H') : rCatA K (.ref a) (.ref b) H Q := by
  refine ⟨a, b, xs, ys, rfl, rfl, .inl hx, .inl hy, szl hz, fun e => ?_, fun _ e => (ny e).elim, fun _ _ p np => k p _ (Ex.new np) (.inl upd_same)⟩
  subst e
  exact k b H (fun _ _ h => h) hy
/-- a place told below another -/
def PlaceAt (H : Hp) (p0 : List V) (d : PyData) (x : V) : Prop := ∃ b p c, x = .ref b ∧ L2.Rd H b (.tup (p0 ++ p)) ∧ At d p c
theorem PlaceAt.rdx {H H' : Hp} (e : RdX H H') {p0 : List V} {d : PyData} {x : V} (h : PlaceAt H p0 d x) : PlaceAt H' p0 d x := by
  obtain ⟨b, p, c, rfl, h1, h2⟩ := h
  exact ⟨b, p, c, rfl, e _ _ nf_tup h1, h2⟩
theorem PlaceAt.ex {H H' : Hp} (e : Ex H H') {p0 : List V} {d : PyData} {x : V} (h : PlaceAt H p0 d x) : PlaceAt H' p0 d x := h.rdx (rdx_ex e)
theorem PlaceAt.up {H : Hp} {p0 : List V} {d c : PyData} {s x : V} (hs : stepD d s = some c) (h : PlaceAt H (p0 ++ [s]) c x) : PlaceAt H p0 d x := by
  obtain ⟨b, p, e, rfl, h1, h2⟩ := h
  refine ⟨b, s :: p, e, rfl, ?_, ⟨c, hs, h2⟩⟩
  rw [List.append_assoc] at h1
  exact h1
section
variable {P : Program} {w : World} {K : PySem.W.Frag} {mg : Str → Option Value} {base : Heap}
/-! ### _law_below -/
def spBelow (n : Nat) : Sp := fun vs H Q _ => ∃ (v : V) (d : PyData) (t : Addr) (p0 : List V), vs = [v, .ref t] ∧ L2.Rd H t (.tup p0) ∧ Dt H d v ∧ okA d = true ∧ cnt d ≤ n ∧ p0.length + cnt d ≤ 200 ∧
  ∀ q H' ts, Ex H H' → H' q = some (.lst ts) → ts.length = cnt d → (∀ x ∈ ts, PlaceAt H' p0 d x) → Q (.ref q) H'
theorem sc__law_below : FnScope ["_law_value_here", "_law_spot", "_law_found", "_law_k", "_law_name", "_law_one"] ["_law_value_here", "_law_spot"] (defScope s__law_below) := ⟨rfl, rfl, rfl, by decide +kernel, rfl, by decide +kernel, by decide +kernel⟩
theorem bi__law_below : BindsEq "_law_below" s__law_below ["_law_value_here", "_law_spot"] := fun _ _ _ _ _ _ us hl => match us, hl with | [_, _], _ => rfl
theorem ok_below (F : Df K mg "_law_below" s__law_below) (T : Txt K mg) : ∀ n, Cal P w K mg base CX0 (n + 1) "_law_below" (spBelow n)
  | 0 => cal_no F sc__law_below bi__law_below fun vs H Q E h => by
    obtain ⟨v, d, t, p0, _, _, _, _, hc, _⟩ := h
    have := cnt_pos d
    omega
  | n + 1 => by
    have C__law_below := ok_below F T n
    refine cal0 F sc__law_below bi__law_below (fun vs H Q E h => ?_) (fun f cdv A outer s H vs Q E hr h => ?_)
    · obtain ⟨v, d, t, p0, rfl, _⟩ := h
      rfl
    · obtain ⟨v, d, t, p0, rfl, ht, hd, ho, hc, hpl, k⟩ := h
      refine ⟨_, (pss_cons (ps_set (i := 2) sc__law_below.nd rfl (Or.inl rfl) (pe_lst (pa_cons (pv 1) pa_nil)))
 (pss_cons (ps_if (pt_val (pe_callB (isD K) rfl T.b_isinstance (by decide +kernel) (pa_cons (pv 0) (pa_cons (pe_bltn (v := .ty "list") rfl T.b_list (by decide +kernel) rfl) pa_nil)))) (pss_one (ps_for PassesOwn.never rfl (pi_range1 rfl T.b_range (pa_cons (pe_callB (lnA K) rfl T.b_len (by decide +kernel) (pa_cons (pv 0) pa_nil)) pa_nil)) (pg_name (i := 3) sc__law_below.nd rfl (Or.inl rfl)) (pss_one (ps_set (i := 2) sc__law_below.nd rfl (Or.inl rfl) (pe_op op_cat (pv 2) (pe_k C__law_below hr (by omega) rfl (pa_cons (pe_ix (ixA K) (pv 0) (pv 3) (fun _ _ => rfl)) (pa_cons (pe_op op_catA (pv 1) (pe_tup (pa_cons (pv 3) pa_nil))) pa_nil)))))))) pss_nil)
 (pss_cons (ps_if (pt_val (pe_callB (isD K) rfl T.b_isinstance (by decide +kernel) (pa_cons (pv 0) (pa_cons (pe_bltn (v := .ty "dict") rfl T.b_dict (by decide +kernel) rfl) pa_nil)))) (pss_one (ps_lockA (ps_for PassesOwn.never rfl (pil K (pe_callB (srK K) rfl T.b_sorted (by decide +kernel) (pa_cons (pe_lc (own := [("_law_one", 5)]) (by rfl) sc__law_below.nd (pi_ka (pv 0)) (blkOk_by (own := [("_law_one", 5)]) (N := ["_law_value_here", "_law_spot", "_law_found", "_law_k", "_law_name", "_law_one"]) (sc := defScope s__law_below) (by decide +kernel)) (fun _ _ _ _ _ => (pg_name (i := 5) sc__law_below.nd rfl (Or.inl rfl))) (fun _ _ _ _ _ => pts_nil) (fun _ _ _ _ _ => (pe_callTy strS rfl T.b_str (by decide +kernel) (pa_cons (pv 5) pa_nil)))) pa_nil))) (pg_name (i := 4) sc__law_below.nd rfl (Or.inl rfl)) (pss_one (ps_set (i := 2) sc__law_below.nd rfl (Or.inl rfl) (pe_op op_cat (pv 2) (pe_k C__law_below hr (by omega) rfl (pa_cons (pe_ix (ixA K) (pv 0) (pv 4) (fun _ _ => rfl)) (pa_cons (pe_op op_catA (pv 1) (pe_tup (pa_cons (pv 4) pa_nil))) pa_nil))))))))) pss_nil)
 (pss_one (ps_ret (pv 2)))))), ?_⟩
      refine ⟨_, rfl, szl (by show 1 ≤ 100000; decide), fun p1 np1 => ?_⟩
      obtain ⟨H1, hH1, x0_1, h1⟩ := newH _ np1
      rw [hH1]
      clear hH1
      have f1 := np1
      have ho' := ho
      rw [okA_kids, Bool.and_eq_true] at ho'
      have hsp : PlaceAt H1 p0 d (.ref t) := ⟨t, [], d, rfl, by rw [List.append_nil]; exact rd_ex x0_1 ht, rfl⟩
      cases d with
      | list ds =>
        refine ⟨v, rfl, v, _, _, true, rfl, hd.ex x0_1, rfl, _, rfl, if_t rfl ?_⟩
        have hd2 := hd
        unfold Dt at hd2
        obtain ⟨a, xs, rfl, hax, hl⟩ := hd2
        have hlen := hl.len
        have h60 : ds.length < 60 := of_decide_eq_true ho'.1
        refine ⟨_, rfl, .inl ⟨_, xs.length, rfl, .inl ⟨xs, .inl (rd_ex x0_1 hax), rfl⟩, _, rfl, by omega, by omega, for_it walk_range (fun i σ' Hi => ∃ q ts o3, σ' = [some (.ref a), some (.ref t), some (.ref q), o3, none, none] ∧ Ex H1 Hi ∧ Hi q = some (.lst ts) ∧ ts.length = 1 + cntL (ds.take i) ∧ ∀ x ∈ ts, PlaceAt Hi p0 (.list ds) x) ?_ (fun _ _ _ _ _ => True.intro) ?_ ?_⟩⟩
        · exact ⟨p1, _, none, rfl, fun _ _ h => h, h1, rfl, fun x hx => by
            cases List.mem_singleton.mp hx
            exact hsp⟩
        · rintro i x σ' Ho Hi hi ⟨q, ts, o3, rfl, e, hq, htl, hts⟩ ⟨rfl, rfl⟩
          have hi' : i < xs.length := by
            have : i < ((xs.length : Nat) : Int).toNat := hi
            omega
          obtain ⟨u, hu1, _, hu3⟩ := at_some (xs := xs) (v := 0 + (i : Int)) (by omega) (by omega)
          have hti : (0 + (i : Int)).toNat = i := by omega
          rw [hti] at hu3
          obtain ⟨c, hc1, hcd⟩ := hl.get hu3
          have x0i : Ex H Hi := x0_1.trans e
          have hstep : stepD (.list ds) (V.int (0 + (i : Int))) = some c := by
            show (if (0 : Int) ≤ 0 + (i : Int) then ds[(0 + (i : Int)).toNat]? else none) = some c
            rw [if_pos (by omega), hti]
            exact hc1
          have hkid : c ∈ ds := List.mem_of_getElem? hc1
          have hcc : cnt c < cnt (.list ds) := cnt_kid (d := .list ds) hkid
          have htk : cntL (ds.take (i + 1)) = cntL (ds.take i) + cnt c := by
            rw [List.take_add_one, hc1, cntL_app]
            show _ + cntL [c] = _
            rw [cntL, cntL]
            omega
          have hsub : cntL (ds.take (i + 1)) ≤ cntL ds := by
            conv => rhs; rw [← List.take_append_drop (i + 1) ds]
            rw [cntL_app]
            omega
          have hcl : cnt (.list ds) = 1 + cntL ds := by rw [cnt]
          refine ⟨_, rfl, _, rfl, _, rfl, .inl ⟨a, xs, _, u, rfl, rfl, .inl (rd_ex x0i hax), hu1, _, rfl, _, rfl, szl (by show 1 ≤ 100000; decide), fun p2 np2 => ?_⟩⟩
          have x2 : Ex Hi (upd Hi p2 (.tup [V.int (0 + (i : Int))])) := Ex.new np2
          refine catA_of (rd_ex (x0i.trans x2) ht) (.inl upd_same) (by simp) (by show p0.length + 1 ≤ 100000; omega) fun z Hz xz hz => ?_
          have x0z := x0i.trans (x2.trans xz)
          refine ⟨u, c, z, _, rfl, hz, hcd.ex x0z, okL_mem ho'.2 hkid, by omega, by rw [List.length_append]; show p0.length + 1 + _ ≤ _; omega, fun q2 H4 ts2 x4 hq2 hl2 hp2 => ?_⟩
          have xi4 := x2.trans (xz.trans x4)
          refine ⟨q, q2, ts, ts2, rfl, rfl, xi4 _ _ hq, hq2, szl (by omega), fun p3 np3 => ?_⟩
          refine ⟨p3, ts ++ ts2, _, rfl, e.trans (xi4.trans (Ex.new np3)), upd_same, ?_, fun x hx => ?_⟩
          · rw [List.length_append, htl, hl2, htk]
            omega
          · rcases List.mem_append.mp hx with hx | hx
            · exact (hts x hx).ex (xi4.trans (Ex.new np3))
            · exact ((hp2 x hx).up hstep).ex (Ex.new np3)
        · rintro σ' Hi ⟨q, ts, o3, rfl, e, hq, htl, hts⟩
          refine ⟨_, rfl, .ref a, _, _, false, rfl, hd.ex (x0_1.trans e), rfl, _, rfl, if_f rfl ⟨_, rfl, k q Hi ts (x0_1.trans e) hq ?_ hts⟩⟩
          rw [htl, cnt]
          have e3 : ds.take ((xs.length : Nat) : Int).toNat = ds := List.take_of_length_le (by omega)
          have e4 : ds.take (Int.toNat (xs.length : Int)) = ds := e3
          rw [e4]
      | dict kvs =>
        refine ⟨v, rfl, v, _, _, false, rfl, hd.ex x0_1, rfl, _, rfl, if_f rfl ?_⟩
        refine ⟨v, rfl, v, _, _, true, rfl, hd.ex x0_1, rfl, _, rfl, if_t rfl ?_⟩
        obtain ⟨ha, hlen⟩ := allStr_of ho'.1
        obtain ⟨a, es, rfl, hae, nd, hk⟩ := dict_val hd ha
        have hnm := dtk_names hk ha
        have hks := names_kV hnm
        have hln : (names kvs).length = kvs.length := by
          unfold names
          rw [List.length_map]
        have hae1 := rd_ex x0_1 hae
        have na : p1 ≠ a := fun z => by
          obtain ⟨oo, q⟩ := rd_some hae
          rw [← z, f1] at q
          cases q
        refine lockA_eq hae1 True.intro ?_
        intro Hf o D' th hof hf rx hth hta _ kn
        have rx0 : RdX H Hf := (rdx_ex x0_1).trans rx
        have hkf := hk.rdx rx0
        have h1f : Hf p1 = some (.lst [.ref t]) := by
          rw [hof _ na]
          exact h1
        have htf : L2.Rd Hf t (.tup p0) := rx0 _ _ nf_tup ht
        refine ⟨_, rfl, a, o, _, (names kvs).map V.str, rfl, hf, .inl ⟨es, rfl, hks.symm⟩, fun D1 nD1 => lc_gr walk_ka (fun i acc _ => acc = ((names kvs).take i).map V.str) nD1 (by rw [List.length_map]; omega) rfl (fun H' e => e _ _ hf) ?_ ?_⟩
        · rintro i x acc Ho Hi hi e e' hD hl rfl ⟨rfl, hx1⟩
          obtain ⟨y, hy, rfl⟩ : ∃ y, (names kvs)[i]? = some y ∧ V.str y = x := by
            rw [List.getElem?_map] at hx1
            cases hp : (names kvs)[i]? with
            | none => rw [hp] at hx1; cases hx1
            | some p => rw [hp] at hx1; exact ⟨p, rfl, Option.some.inj hx1⟩
          refine ⟨rfl, _, rfl, y, rfl, lc_put e' hD hl (by rw [List.length_map] at hi; omega) (fun _ _ h => h) ?_⟩
          rw [List.take_add_one, List.map_append, hy]
          rfl
        · rintro acc H2 e e' hD hl rfl
          have e1 : (names kvs).take ((names kvs).map V.str).length = names kvs := List.take_of_length_le (by rw [List.length_map]; exact Nat.le_refl _)
          rw [e1] at hD
          refine ⟨D1, names kvs, rfl, SqLo hD, by omega, fun ys py pp sy np => ?_⟩
          have xf3 : Ex Hf (upd H2 py (.lst (ys.map V.str))) := e.trans (Ex.new np)
          have hyl : ys.length = kvs.length := by rw [pp.length_eq, hln]
          have hkp : (ys.map fun y => getN kvs y).Perm (kvs.map (·.2)) := by
            have q := kids_perm (d := .dict kvs) (cs := ys.map fun y => (V.str y, getN kvs y)) ⟨ys, pp, sy, rfl⟩ (fun kvs' e => by cases e; exact ⟨ha, nodup_names hk ha nd⟩)
            rw [List.map_map] at q
            exact q
          refine ⟨py, rfl, ⟨_, SqLo upd_same⟩, for_it (walk_list (K := K) (a := py) (xs := ys.map V.str)) (fun i σ' Hi => ∃ q ts o4, σ' = [some (.ref a), some (.ref t), some (.ref q), none, o4, none] ∧ Ex (upd H2 py (.lst (ys.map V.str))) Hi ∧ Hi q = some (.lst ts) ∧ ts.length = 1 + cntL ((ys.take i).map fun y => getN kvs y) ∧ ∀ x ∈ ts, PlaceAt Hi p0 (.dict kvs) x) ?_ ?_ ?_ ?_⟩
          · refine ⟨p1, _, none, rfl, fun _ _ h => h, xf3 _ _ h1f, rfl, fun x hx => ?_⟩
            cases List.mem_singleton.mp hx
            exact (hsp.rdx rx).ex xf3
          · rintro i σ' Hi _ ⟨q, ts, o4, _, x3, _⟩
            exact SqLo (x3 _ _ upd_same)
          · rintro i x σ' Ho Hi hi ⟨q, ts, o4, rfl, x3, hq, htl, hts⟩ ⟨rfl, hx1⟩
            obtain ⟨y, hy, rfl⟩ : ∃ y, ys[i]? = some y ∧ V.str y = x := by
              rw [List.getElem?_map] at hx1
              cases hp : ys[i]? with
              | none => rw [hp] at hx1; cases hx1
              | some p => rw [hp] at hx1; exact ⟨p, rfl, Option.some.inj hx1⟩
            have hym : y ∈ names kvs := pp.mem_iff.mp (List.mem_of_getElem? hy)
            obtain ⟨u, hu1, hu2⟩ := dtk_get hkf ha y hym
            have xfi : Ex Hf Hi := xf3.trans x3
            have hstep : stepD (.dict kvs) (V.str y) = some (getN kvs y) := by
              show (if y ∈ names kvs then some (getN kvs y) else none) = _
              rw [if_pos hym]
            have hkid := step_kid hstep
            have hcc : cnt (getN kvs y) < cnt (.dict kvs) := cnt_kid hkid
            have htk : cntL ((ys.take (i + 1)).map fun y => getN kvs y) = cntL ((ys.take i).map fun y => getN kvs y) + cnt (getN kvs y) := by
              rw [List.take_add_one, hy, List.map_append, cntL_app]
              show _ + cntL [getN kvs y] = _
              rw [cntL, cntL]
              omega
            have hsub : cntL ((ys.take (i + 1)).map fun y => getN kvs y) ≤ cntK kvs := by
              rw [cntK_eq, ← cntL_perm hkp]
              conv => rhs; rw [← List.take_append_drop (i + 1) ys]
              rw [List.map_append, cntL_app]
              omega
            have hcl : cnt (.dict kvs) = 1 + cntK kvs := by rw [cnt]
            refine ⟨_, rfl, _, rfl, _, rfl, .inr ⟨a, es, Sum.inr y, u, rfl, rfl, .inr ⟨o, xfi _ _ hf⟩, hu1, _, rfl, _, rfl, szl (by show 1 ≤ 100000; decide), fun p2 np2 => ?_⟩⟩
            have x2 : Ex Hi (upd Hi p2 (.tup [V.str y])) := Ex.new np2
            refine catA_of (rd_ex (xfi.trans x2) htf) (.inl upd_same) (by simp) (by show p0.length + 1 ≤ 100000; omega) fun z Hz xz hz => ?_
            refine ⟨u, _, z, _, rfl, hz, hu2.ex (xfi.trans (x2.trans xz)), okL_mem ho'.2 hkid, by omega, by rw [List.length_append]; show p0.length + 1 + _ ≤ _; omega, fun q2 H4 ts2 x4 hq2 hl2 hp2 => ?_⟩
            have xi4 := x2.trans (xz.trans x4)
            refine ⟨q, q2, ts, ts2, rfl, rfl, xi4 _ _ hq, hq2, szl (by omega), fun p3 np3 => ?_⟩
            refine ⟨p3, ts ++ ts2, _, rfl, x3.trans (xi4.trans (Ex.new np3)), upd_same, ?_, fun x hx => ?_⟩
            · rw [List.length_append, htl, hl2, htk]
              omega
            · rcases List.mem_append.mp hx with hx | hx
              · exact (hts x hx).ex (xi4.trans (Ex.new np3))
              · exact ((hp2 x hx).up hstep).ex (Ex.new np3)
          · rintro σ' Hi ⟨q, ts, o4, rfl, x3, hq, htl, hts⟩
            have xfi : Ex Hf Hi := xf3.trans x3
            have hai := xfi _ _ hf
            refine kn _ Hi hai ?_
            obtain ⟨t1, t2⟩ := hta Hi hai
            have hqa : q ≠ a := fun z => by
              rw [z, hai] at hq
              cases hq
            refine ⟨_, rfl, k q _ ts ?_ ?_ ?_ fun x hx => (hts x hx).rdx t2⟩
            · intro b oo hb
              by_cases eb : b = a
              · rw [eb, t1]
                rw [eb] at hb
                exact x0_1 _ _ hb
              · rw [hth _ _ eb]
                exact xfi _ _ (by rw [hof _ eb]; exact x0_1 _ _ hb)
            · rw [hth _ _ hqa]
              exact hq
            · rw [htl, cnt]
              have e3 : ys.take (ys.map V.str).length = ys := List.take_of_length_le (by rw [List.length_map]; exact Nat.le_refl _)
              rw [e3, cntL_perm hkp, cntK_eq]
      | _ =>
        refine ⟨v, rfl, v, _, _, false, rfl, hd.ex x0_1, rfl, _, rfl, if_f rfl ?_⟩
        refine ⟨v, rfl, v, _, _, false, rfl, hd.ex x0_1, rfl, _, rfl, if_f rfl ⟨_, rfl, k p1 _ _ x0_1 h1 rfl fun x hx => ?_⟩⟩
        cases List.mem_singleton.mp hx
        exact hsp
end
end VL

namespace VL
open PySem PySem.Spec L2 LW
open Evl (Ex)
/-! ### _law_twin -/
theorem tr_leaf {H : Hp} {d : PyData} {v : V} (h : Dt H d v) (ho : okA d = true) (h1 : ∀ ds, d ≠ .list ds) (h2 : ∀ kvs, d ≠ .dict kvs) (A : Hp) : Tr d A v := by
  cases d with
  | list ds => exact (h1 ds rfl).elim
  | dict kvs => exact (h2 kvs rfl).elim
  | int i =>
    unfold Dt at h
    unfold Tr
    exact h
  | str i =>
    unfold Dt at h
    unfold Tr
    exact h
  | _ => cases ho
theorem fr_out {H Hc : Hp} {D : Addr} : Ex (fr H (del Hc D)) (del (fr H Hc) D) := fun b o q => by
  obtain ⟨n, q⟩ := fr_some q
  have e : b ≠ D := fun z => by
    rw [z, del_same] at q
    cases q
  exact del_get (fr_get n (ex_del _ _ q)) e
theorem fr_apart {H H3 H4 : Hp} {D : Addr} : Apart (fr H (del H3 D)) (fr H3 H4) := fun b => by
  cases e : fr H (del H3 D) b with
  | none => exact .inl rfl
  | some o =>
    right
    have q := ex_del _ _ (fr_some e).2
    cases e2 : fr H3 H4 b with
    | none => rfl
    | some o2 =>
      rw [(fr_some e2).1] at q
      cases q
theorem fr_in {H H3 H4 : Hp} {D : Addr} {o : HO} (hD : H3 D = some o) (dm : ∀ b, H3 b = none → H b = none) : Ex (fr H3 H4) (fr H (del H4 D)) := fun b x q => by
  obtain ⟨n, q⟩ := fr_some q
  refine fr_get (dm b n) (del_get q fun z => ?_)
  rw [z, hD] at n
  cases n
theorem val_keys {es : List (Key × V)} {k : Key} (h : k ∉ es.map (·.1)) : valV es k = none := by
  unfold valV
  rw [List.find?_eq_none.mpr fun p hp q => h (List.mem_map.mpr ⟨p, hp, of_decide_eq_true q⟩)]
  rfl
theorem kvs_at {kvs : List (PyData × PyData)} (ha : AllStr kvs) (nd : (names kvs).Nodup) {i : Nat} {y : Str} (h : (names kvs)[i]? = some y) : kvs[i]? = some (.str y, getN kvs y) := by
  conv => lhs; rw [← getN_self ha nd]
  rw [List.getElem?_map, h]
  rfl
theorem nodup_take {ys : List Str} (nd : ys.Nodup) {i : Nat} {y : Str} (h : ys[i]? = some y) : y ∉ ys.take i := by
  intro hm
  obtain ⟨j, hj⟩ := List.mem_iff_getElem?.mp hm
  have hji : j < i := by
    by_cases q : j < i
    · exact q
    · rw [List.getElem?_eq_none (by rw [List.length_take]; omega)] at hj
      cases hj
  rw [List.getElem?_take_of_lt hji] at hj
  obtain ⟨h1, e1⟩ := List.getElem?_eq_some_iff.mp h
  obtain ⟨h2, e2⟩ := List.getElem?_eq_some_iff.mp hj
  exact (List.pairwise_iff_getElem.mp nd) j i h2 h1 hji (by rw [e1, e2])
section
variable {P : Program} {w : World} {K : PySem.W.Frag} {mg : Str → Option Value} {base : Heap}
def spTwin (n : Nat) : Sp := fun vs H Q _ => ∃ (v : V) (d : PyData), vs = [v] ∧ Dt H d v ∧ okA d = true ∧ cnt d ≤ n ∧ ∀ u H', Ex H H' → Tr d (fr H H') u → Q u H'
theorem sc__law_twin : FnScope ["_law_value_here", "_law_found", "_law_name", "_law_one"] ["_law_value_here"] (defScope s__law_twin) := ⟨rfl, rfl, rfl, by decide +kernel, rfl, by decide +kernel, by decide +kernel⟩
theorem bi__law_twin : BindsEq "_law_twin" s__law_twin ["_law_value_here"] := fun _ _ _ _ _ _ us hl => match us, hl with | [_], _ => rfl
theorem ok_twin (F : Df K mg "_law_twin" s__law_twin) (T : Txt K mg) : ∀ n, Cal P w K mg base CX0 (n + 1) "_law_twin" (spTwin n)
  | 0 => cal_no F sc__law_twin bi__law_twin fun vs H Q E h => by
    obtain ⟨v, d, _, _, _, hc, _⟩ := h
    have := cnt_pos d
    omega
  | n + 1 => by
    have C__law_twin := ok_twin F T n
    refine cal0 F sc__law_twin bi__law_twin (fun vs H Q E h => ?_) (fun f cdv A outer s H vs Q E hr h => ?_)
    · obtain ⟨v, d, rfl, _⟩ := h
      rfl
    · obtain ⟨v, d, rfl, hd, ho, hc, k⟩ := h
      have hu : (A.deeper (PyProof.Rows.envOfC "_law_twin" (defScope s__law_twin) s.heap.objs.size f cdv)).units + 1 < cLine := by have := hr.un; omega
      refine ⟨_, (pss_cons (ps_if (pt_val (pe_callB (isD K) rfl T.b_isinstance (by decide +kernel) (pa_cons (pv 0) (pa_cons (pe_bltn (v := .ty "list") rfl T.b_list (by decide +kernel) rfl) pa_nil)))) (pss_one (ps_ret (pe_lc (own := [("_law_one", 3)]) (by rfl) sc__law_twin.nd (pil K (pv 0)) (blkOk_by (own := [("_law_one", 3)]) (N := ["_law_value_here", "_law_found", "_law_name", "_law_one"]) (sc := defScope s__law_twin) (by decide +kernel)) (fun _ _ _ _ _ => (pg_name (i := 3) sc__law_twin.nd rfl (Or.inl rfl))) (fun _ _ _ _ _ => pts_nil) (fun _ _ _ _ _ => (pe_k C__law_twin hr (by omega) rfl (pa_cons (pv 3) pa_nil)))))) pss_nil)
 (pss_cons (ps_if (pt_val (pe_callB (isD K) rfl T.b_isinstance (by decide +kernel) (pa_cons (pv 0) (pa_cons (pe_bltn (v := .ty "dict") rfl T.b_dict (by decide +kernel) rfl) pa_nil)))) (pss_cons (ps_set (i := 1) sc__law_twin.nd rfl (Or.inl rfl) pe_dnewK)
 (pss_cons (ps_lockA (ps_for PassesOwn.never rfl (pi_ka (pv 0)) (pg_name (i := 2) sc__law_twin.nd rfl (Or.inl rfl)) (pss_one (ps_dput hu (pv 1) (pv 2) (pe_k C__law_twin hr (by omega) rfl (pa_cons (pe_ix (ixA K) (pv 0) (pv 2) (fun _ _ => rfl)) pa_nil)) rfl))))
 (pss_one (ps_ret (pv 1))))) pss_nil)
 (pss_one (ps_ret (pv 0))))), ?_⟩
      have ho' := ho
      rw [okA_kids, Bool.and_eq_true] at ho'
      cases d with
      | list ds =>
        refine ⟨v, rfl, v, _, _, true, rfl, hd, rfl, _, rfl, if_t rfl ?_⟩
        unfold Dt at hd
        obtain ⟨a, xs, rfl, hax, hl⟩ := hd
        have hlen := hl.len
        have h60 : ds.length < 60 := of_decide_eq_true ho'.1
        refine ⟨_, rfl, a, rfl, ⟨_, .inl hax⟩, fun D nD => lc_gr (walk_list (K := K) (a := a) (xs := xs)) (fun i acc Hc => TrL (ds.take i) (fr H Hc) acc) nD (by omega) (by unfold TrL; rfl) (fun H' e => .inl (rd_ex e hax)) ?_ ?_⟩
        · rintro i x acc Ho Hi hi e e' hD hl' hr' ⟨rfl, hx1⟩
          obtain ⟨c, hc1, hcd⟩ := hl.get hx1
          have hkid : c ∈ ds := List.mem_of_getElem? hc1
          have hcc : cnt c < cnt (.list ds) := cnt_kid (d := .list ds) hkid
          refine ⟨rfl, _, rfl, x, c, rfl, hcd.ex e, okL_mem ho'.2 hkid, by omega, fun u H4 e4 htr => lc_put e' hD hl' (by omega) e4 ?_⟩
          rw [List.take_add_one, hc1]
          exact TrL.snoc hr' htr fr_apart (fr_mono (del_grow' e4)) (fr_in hD (fun b hb => ex_free e hb))
        · rintro acc Hi e e' hD hl' hr'
          have e3 : ds.take xs.length = ds := List.take_of_length_le (by omega)
          rw [e3] at hr'
          refine k (.ref D) Hi e ?_
          unfold Tr
          exact ⟨D, acc, rfl, fr_get nD hD, hr'.ex fr_out⟩
      | dict kvs =>
        refine ⟨v, rfl, v, _, _, false, rfl, hd, rfl, _, rfl, if_f rfl ?_⟩
        refine ⟨v, rfl, v, _, _, true, rfl, hd, rfl, _, rfl, if_t rfl ?_⟩
        obtain ⟨ha, hlen⟩ := allStr_of ho'.1
        obtain ⟨a, es, rfl, hae, nd, hk⟩ := dict_val hd ha
        have hnm := dtk_names hk ha
        have hks := names_kV hnm
        have nds := nodup_names hk ha nd
        have hln : (names kvs).length = kvs.length := by
          unfold names
          rw [List.length_map]
        intro D nD
        have x01 : Ex H (upd H D (.dK [])) := Ex.new nD
        have na : D ≠ a := fun z => by
          obtain ⟨oo, q⟩ := rd_some hae
          rw [← z, nD] at q
          cases q
        refine lockA_eq (rd_ex x01 hae) True.intro ?_
        intro Hf o D' th hof hf rx hth hta _ kn
        have rx0 : RdX H Hf := (rdx_ex x01).trans rx
        have hDf : Hf D = some (.dK []) := by
          rw [hof _ na]
          exact upd_same
        have dmf : ∀ b x, H b = some x → ∃ y, Hf b = some y := fun b x q => by
          by_cases e : b = a
          · rw [e]
            exact ⟨_, hf⟩
          · rw [hof _ e]
            exact ⟨x, x01 _ _ q⟩
        refine ⟨_, rfl, a, o, _, (names kvs).map V.str, rfl, hf, .inl ⟨es, rfl, hks.symm⟩, for_it walk_ka (fun i σ' Hi => ∃ es' o2, σ' = [some (.ref a), some (.ref D), o2, none] ∧ (∀ b x, b ≠ D → Hf b = some x → Hi b = some x) ∧ Hi D = some (.dK es') ∧ TrK (kvs.take i) (fr H (del Hi D)) es' ∧ es'.map (·.1) = ((names kvs).take i).map fun y => (Sum.inr y : Key)) ?_ ?_ ?_ ?_⟩
        · exact ⟨[], none, rfl, fun _ _ _ h => h, hDf, by unfold TrK; rfl, rfl⟩
        · rintro i σ' Hi _ ⟨es', o2, _, h1, _⟩
          exact h1 _ _ (fun z => na z.symm) hf
        · rintro i x σ' Ho Hi hi ⟨es', o2, rfl, g1, gD, gt, gk⟩ ⟨rfl, hx1⟩
          obtain ⟨y, hy, rfl⟩ : ∃ y, (names kvs)[i]? = some y ∧ V.str y = x := by
            rw [List.getElem?_map] at hx1
            cases hp : (names kvs)[i]? with
            | none => rw [hp] at hx1; cases hx1
            | some p => rw [hp] at hx1; exact ⟨p, rfl, Option.some.inj hx1⟩
          have hym := List.mem_of_getElem? hy
          have hkat := kvs_at ha nds hy
          have hkid : getN kvs y ∈ kids (.dict kvs) := List.mem_map.mpr ⟨_, List.mem_of_getElem? hkat, rfl⟩
          have hcc : cnt (getN kvs y) < cnt (.dict kvs) := cnt_kid hkid
          obtain ⟨u, hu1, hu2⟩ := dtk_get hk ha y hym
          have hri : RdX H Hi := fun b x nx q => by
            have q1 := rx0 b x nx q
            have nb : b ≠ D := fun z => by
              obtain ⟨oo, q2⟩ := rd_some q
              rw [z, nD] at q2
              cases q2
            rcases q1 with q1 | ⟨o', q1⟩
            · exact .inl (g1 _ _ nb q1)
            · exact .inr ⟨o', g1 _ _ nb q1⟩
          have hai := g1 _ _ (fun z => na z.symm) hf
          have dmi : ∀ b, Hi b = none → H b = none := fun b hb => by
            cases q : H b with
            | none => rfl
            | some x =>
              obtain ⟨z, hz⟩ := dmf b x q
              have nb : b ≠ D := fun e => by
                rw [e, nD] at q
                cases q
              rw [g1 _ _ nb hz] at hb
              cases hb
          refine ⟨_, rfl, _, rfl, .inr ⟨a, es, Sum.inr y, u, rfl, rfl, .inr ⟨o, hai⟩, hu1, u, _, rfl, hu2.rdx hri, okL_mem ho'.2 hkid, by omega, fun w' H4 e4 htr => ?_⟩⟩
          have hl5 : es'.length ≤ 8 := by
            have := congrArg List.length gk
            rw [List.length_map, List.length_map, List.length_take] at this
            omega
          have hno : valV es' (Sum.inr y : Key) = none := val_keys (by
            rw [gk]
            intro hm
            obtain ⟨z, hz, hz2⟩ := List.mem_map.mp hm
            cases hz2
            exact nodup_take nds hy hz)
          refine ⟨_, rfl, _, rfl, D, _, rfl, DPut.k (k := Sum.inr y) (e4 _ _ gD) (szlt (by omega)), _, _, rfl, fun b x nb q => ?_, upd_same, ?_, ?_⟩
          · rw [upd_ne nb]
            exact e4 _ _ (g1 b x nb q)
          · rw [putK_new _ hno, del_upd, List.take_add_one, hkat]
            exact TrK.snoc gt htr rfl fr_apart (fr_mono (del_grow' e4)) (fr_in gD dmi)
          · rw [putK_new _ hno, List.map_append, gk, List.take_add_one, hy, List.map_append]
            rfl
        · rintro σ' Hi ⟨es', o2, rfl, g1, gD, gt, gk⟩
          have hai := g1 _ _ (fun z => na z.symm) hf
          obtain ⟨t1, t2⟩ := hta Hi hai
          refine kn _ Hi hai ⟨_, rfl, k (.ref D) _ ?_ ?_⟩
          · intro b x q
            by_cases eb : b = a
            · rw [eb, t1]
              rw [eb] at q
              exact x01 _ _ q
            · rw [hth _ _ eb]
              have nb : b ≠ D := fun e => by
                rw [e, nD] at q
                cases q
              exact g1 b x nb (by rw [hof _ eb]; exact x01 _ _ q)
          · have e3 : kvs.take ((names kvs).map V.str).length = kvs := List.take_of_length_le (by rw [List.length_map]; omega)
            have e4 : (names kvs).take ((names kvs).map V.str).length = names kvs := List.take_of_length_le (by rw [List.length_map]; omega)
            rw [e3] at gt
            rw [e4, ← hnm] at gk
            unfold Tr
            refine ⟨D, es', rfl, fr_get nD (by rw [hth _ _ na]; exact gD), by rw [gk]; exact nd, gt.ex fun b x q => ?_⟩
            obtain ⟨n1, q⟩ := fr_some q
            have nb : b ≠ D := fun e => by
              rw [e, del_same] at q
              cases q
            have nba : b ≠ a := fun e => by
              obtain ⟨oo, q2⟩ := rd_some hae
              rw [e, q2] at n1
              cases n1
            exact del_get (fr_get n1 (by rw [hth _ _ nba]; exact ex_del _ _ q)) nb
      | _ =>
        refine ⟨v, rfl, v, _, _, false, rfl, hd, rfl, _, rfl, if_f rfl ?_⟩
        refine ⟨v, rfl, v, _, _, false, rfl, hd, rfl, _, rfl, if_f rfl ⟨_, rfl, k _ H (fun _ _ h => h) (tr_leaf hd ho (fun _ z => nomatch z) (fun _ z => nomatch z) _)⟩⟩
end
end VL

namespace LW
open PySem PySem.Spec L2
theorem op_mulS {X : Cx} : OpR X (binaryOp .Mult) (fun x y H Q => ∃ z n, x = .str z ∧ y = .int n ∧ MulOk z n ∧ Q (.str (Txt.mul z n)) H) := by
  intro pins s σ H x y v u Q I rx ry h
  obtain ⟨z, n, rfl, rfl, ok, q⟩ := h
  obtain ⟨t, rfl⟩ := rx
  obtain ⟨t', rfl⟩ := ry
  exact SB.mul ok fun t'' k => ⟨.str _, H, I.tok _, ⟨_, rfl⟩, q⟩
end LW
namespace VL
open PySem PySem.Spec L2 LW
open Evl (Ex)
mutual
def limB : PyData → Bool
  | .none => true
  | .bool _ => true
  | .int i => decide (-big ≤ i) && decide (i ≤ big)
  | .str x => decide (x.length ≤ 21) && x.cps.toList.all fun c => decide (c < 128)
  | .list ds => limLB ds
  | .tuple ds => limLB ds
  | .dict kvs => limKB kvs
def limLB : List PyData → Bool
  | [] => true
  | d :: r => limB d && limLB r
def limKB : List (PyData × PyData) → Bool
  | [] => true
  | (k, d) :: r => limB k && (limB d && limKB r)
end
mutual
theorem limB_ok : ∀ d, limB d = true → lim d
  | .none, _ => by unfold lim; trivial
  | .bool _, _ => by unfold lim; trivial
  | .int i, h => by
    unfold limB at h
    rw [Bool.and_eq_true] at h
    unfold lim
    exact ⟨of_decide_eq_true h.1, of_decide_eq_true h.2⟩
  | .str x, h => by
    unfold limB at h
    rw [Bool.and_eq_true] at h
    unfold lim
    exact ⟨of_decide_eq_true h.1, fun c hc => of_decide_eq_true (List.all_eq_true.mp h.2 c hc)⟩
  | .list ds, h => by
    unfold limB at h
    unfold lim
    exact limLB_ok ds h
  | .tuple ds, h => by
    unfold limB at h
    unfold lim
    exact limLB_ok ds h
  | .dict ds, h => by
    unfold limB at h
    unfold lim
    exact limKB_ok ds h
theorem limLB_ok : ∀ ds, limLB ds = true → limL ds
  | [], _ => by unfold limL; trivial
  | d :: r, h => by
    unfold limLB at h
    rw [Bool.and_eq_true] at h
    unfold limL
    exact ⟨limB_ok d h.1, limLB_ok r h.2⟩
theorem limKB_ok : ∀ ds, limKB ds = true → limK ds
  | [], _ => by unfold limK; trivial
  | (k, d) :: r, h => by
    unfold limKB at h
    rw [Bool.and_eq_true, Bool.and_eq_true] at h
    unfold limK
    exact ⟨limB_ok k h.1, limB_ok d h.2.1, limKB_ok r h.2.2⟩
end
section
variable {P : Program} {w : World} {K : PySem.W.Frag} {mg : Str → Option Value} {base : Heap}
/-! ### _law_part -/
def spPartL : Sp := fun vs H Q _ => ∃ (v : V) (t : Addr) (p : List V) (u : V), vs = [v, .ref t] ∧ L2.Rd H t (.tup p) ∧ Wk H v p u ∧ Q u H
theorem sc__law_part : FnScope ["_law_value_here", "_law_spot", "_law_step"] ["_law_value_here", "_law_spot"] (defScope s__law_part) := ⟨rfl, rfl, rfl, by decide +kernel, rfl, by decide +kernel, by decide +kernel⟩
theorem bi__law_part : BindsEq "_law_part" s__law_part ["_law_value_here", "_law_spot"] := fun _ _ _ _ _ _ us hl => match us, hl with | [_, _], _ => rfl
theorem ok_partL (F : Df K mg "_law_part" s__law_part) (T : Txt K mg) : Cal P w K mg base CX0 1 "_law_part" spPartL := by
  refine cal0 F sc__law_part bi__law_part (fun vs H Q E h => ?_) (fun f cdv A outer s H vs Q E hr h => ?_)
  · obtain ⟨v, t, p, u, rfl, _⟩ := h
    rfl
  · obtain ⟨v, t, p, u, rfl, ht, hw, k⟩ := h
    refine ⟨_, (pss_cons (ps_for PassesOwn.never rfl (pit K (pv 1)) (pg_name (i := 2) sc__law_part.nd rfl (Or.inl rfl)) (pss_one (ps_set (i := 0) sc__law_part.nd rfl (Or.inl rfl) (pe_ix (ixA K) (pv 0) (pv 2) (fun _ _ => rfl)))))
 (pss_one (ps_ret (pv 0)))), ?_⟩
    refine ⟨_, rfl, t, rfl, ⟨_, .inl ht⟩, for_it (walk_tup (K := K) (a := t) (xs := p)) (fun i σ' Hi => Hi = H ∧ ∃ x o2, σ' = [some x, some (.ref t), o2] ∧ Wk H x (p.drop i) u) ?_ ?_ ?_ ?_⟩
    · exact ⟨rfl, v, none, rfl, hw⟩
    · rintro i σ' Hi _ ⟨rfl, _⟩
      exact .inl ht
    · rintro i y σ' Ho Hi hi ⟨rfl, x, o2, rfl, hx⟩ ⟨rfl, hy⟩
      have hdr : p.drop i = y :: p.drop (i + 1) := by
        obtain ⟨h1, h2⟩ := List.getElem?_eq_some_iff.mp hy
        rw [List.drop_eq_getElem_cons h1, h2]
      rw [hdr] at hx
      obtain ⟨z, ⟨a, rfl, hs⟩, hz⟩ := hx
      refine ⟨_, rfl, _, rfl, ?_⟩
      rcases hs with ⟨vs, j, h1, rfl, h3⟩ | ⟨es, j, h1, rfl, h3⟩
      · exact .inl ⟨a, vs, _, z, rfl, rfl, .inl h1, h3, rfl, z, _, rfl, hz⟩
      · exact .inr ⟨a, es, j, z, rfl, rfl, h1, h3, rfl, z, _, rfl, hz⟩
    · rintro σ' Hi ⟨rfl, x, o2, rfl, hx⟩
      rw [List.drop_length] at hx
      have hx : u = x := hx
      subst hx
      exact ⟨_, rfl, k⟩
/-! ### _law_odd -/
def OddV (H : Hp) (z : V) : Prop := ∃ d, Dt H d z ∧ okA d = false ∧ lim d ∧ nod d ≤ 4
def spOdd : Sp := fun vs H Q _ => ∃ (pl : Addr), vs = [.ref pl] ∧ Pool H pl ∧ ∀ z H', Ex H H' → OddV H' z → Q z H'
theorem odd_s {H : Hp} {d : PyData} {z : V} (h : Dt H d z) (h1 : okA d = false) (h2 : limB d = true) (h3 : nod d ≤ 4) : OddV H z := ⟨d, h, h1, limB_ok d h2, h3⟩
theorem dt_int {H : Hp} (i : Int) : Dt H (.int i) (.int i) := by unfold Dt; rfl
theorem dt_str {H : Hp} (i : Str) : Dt H (.str i) (.str i) := by unfold Dt; rfl
theorem dt_bl {H : Hp} (i : Bool) : Dt H (.bool i) (.bl i) := by unfold Dt; rfl
theorem dt_non {H : Hp} : Dt H .none .non := by unfold Dt; rfl
theorem dt_tup {H : Hp} {a : Addr} {ds : List PyData} {vs : List V} (h : H a = some (.tup vs)) (t : DtL H ds vs) : Dt H (.tuple ds) (.ref a) := by
  unfold Dt
  exact ⟨a, vs, rfl, .inl h, t⟩
theorem dt_lst {H : Hp} {a : Addr} {ds : List PyData} {vs : List V} (h : H a = some (.lst vs)) (t : DtL H ds vs) : Dt H (.list ds) (.ref a) := by
  unfold Dt
  exact ⟨a, vs, rfl, .inl h, t⟩
theorem dt_dk {H : Hp} {a : Addr} {ds : List (PyData × PyData)} {es : List (Key × V)} (h : H a = some (.dK es)) (nd : (es.map (·.1)).Nodup) (t : DtK H ds es) : Dt H (.dict ds) (.ref a) := by
  unfold Dt
  exact ⟨a, rfl, .inl ⟨es, .inl h, nd, t⟩⟩
theorem dt_dk1 {H : Hp} {a : Addr} {d : PyData} {k : Key} {v : V} (h : H a = some (.dK [(k, v)])) (t : Dt H d v) : Dt H (.dict [(kD k, d)]) (.ref a) := dt_dk h (by simp) (DtK.cons rfl t (by unfold DtK; rfl))
theorem dt_odd {H : Hp} {a : Addr} {kd d : PyData} {k v : V} (h : H a = some (odd1 a k v)) (hk : ∀ z, kd ≠ .str z) (h1 : Dt H kd k) (t : Dt H d v) : Dt H (.dict [(kd, d)]) (.ref a) := by
  unfold Dt
  exact ⟨a, rfl, .inr ⟨k, v, .inl h, by unfold DtO; exact ⟨rfl, hk, h1, t⟩⟩⟩
theorem lst_of {t : TA} {σ : L2.St} {H : Hp} {Q : VK} (h : t σ H fun xs H1 => xs.length ≤ sizeLine ∧ ∀ p, H1 p = none → Q (.ref p) (upd H1 p (.lst xs))) : tLst t σ H Q := h
theorem cons_of {te : TE} {t : TA} {σ : L2.St} {H : Hp} {Q : List V → Hp → Prop} (h : te σ H fun x H1 => t σ H1 fun xs H2 => Q (x :: xs) H2) : tCons te t σ H Q := h
theorem consC {x : V} {t : TA} {σ : L2.St} {H : Hp} {Q : List V → Hp → Prop} (h : t σ H fun xs H2 => Q (x :: xs) H2) : tCons (tC x) t σ H Q := h
theorem disp1 {k : Key} {kv v : V} {σ : L2.St} {H : Hp} {Q : VK} (hk : kv = kV k) (h : ∀ p H', H p = none → Ex H H' → H' p = some (.dK [(k, v)]) → Q (.ref p) H') : tDisp [(tC kv, tC v)] σ H Q := by
  intro p np
  refine ⟨upd_same, [(k, v)], ?_, by show 1 ≤ 15; decide, ?_⟩
  · rw [hk]
    rfl
  · rw [upd_upd]
    exact h p _ np (Ex.new np) upd_same
theorem oddN {v : V} {σ : L2.St} {H : Hp} {Q : VK} (h : ∀ p H', H p = none → Ex H H' → H' p = some (odd1 p .non v) → Q (.ref p) H') : tOdd (tC .non) (tC v) σ H Q := by
  intro p np
  refine ⟨.non, v, rfl, upd_same, .inl rfl, ?_⟩
  rw [upd_upd]
  exact h p _ np (Ex.new np) upd_same
theorem oddT {a : Str} {v : V} {σ : L2.St} {H : Hp} {Q : VK} (h : ∀ p t H', H p = none → Ex H H' → H' t = some (.tup [.str a]) → H' p = some (odd1 p (.ref t) v) → Q (.ref p) H') : tOdd (tTup (tCons (tC (.str a)) tNil)) (tC v) σ H Q := by
  intro p np
  refine ⟨szl (by show 1 ≤ 100000; decide), fun t nt => ?_⟩
  have ne : t ≠ p := fun z => by
    rw [z, upd_same] at nt
    cases nt
  refine ⟨.ref t, v, rfl, by rw [upd_ne (fun z => ne z.symm)]; exact upd_same, .inr ⟨t, [Sum.inr a], rfl, upd_same⟩, ?_⟩
  refine h p t _ np ?_ ?_ upd_same
  · exact Ex.mut ((Ex.new np).trans (Ex.new nt)) np
  · rw [upd_ne ne]
    exact upd_same
theorem sc__law_odd : FnScope ["_law_pool", "_law_some"] ["_law_pool"] (defScope s__law_odd) := ⟨rfl, rfl, rfl, by decide +kernel, rfl, by decide +kernel, by decide +kernel⟩
theorem bi__law_odd : BindsEq "_law_odd" s__law_odd ["_law_pool"] := fun _ _ _ _ _ _ us hl => match us, hl with | [_], _ => rfl
theorem ok_odd (F : Df K mg "_law_odd" s__law_odd) (T : Txt K mg) (C__law_draw : Cal P w K mg base CX0 1 "_law_draw" spDraw) : Cal P w K mg base CX0 2 "_law_odd" spOdd := by
  refine cal0 F sc__law_odd bi__law_odd (fun vs H Q E h => ?_) (fun f cdv A outer s H vs Q E hr h => ?_)
  · obtain ⟨pl, rfl, _⟩ := h
    rfl
  · obtain ⟨pl, rfl, hp, k⟩ := h
    refine ⟨_, (pss_cons (ps_set (i := 1) sc__law_odd.nd rfl (Or.inl rfl) (pe_lst (pa_cons pe_bl (pa_cons pe_bl (pa_cons pe_non (pa_cons (pe_op op_pow pe_int pe_int) (pa_cons (pe_op op_sub pe_int (pe_op op_pow pe_int pe_int)) (pa_cons pe_str (pa_cons pe_str (pa_cons (pe_op op_mulS pe_str pe_int) (pa_cons (pe_tup pa_nil) (pa_cons (pe_tup (pa_cons pe_int pa_nil)) (pa_cons (pe_lst (pa_cons pe_non pa_nil)) (pa_cons (pe_disp (pps_cons pe_str pe_int pps_nil) (by rfl) (by rfl) (fun z => by cases z) (by decide)) (pa_cons (pe_disp (pps_cons pe_str pe_int pps_nil) (by rfl) (by rfl) (fun z => by cases z) (by decide)) pa_nil)))))))))))))))
 (pss_cons (ps_set (i := 1) sc__law_odd.nd rfl (Or.inl rfl) (pe_op op_cat (pv 1) (pe_lst (pa_cons (pe_disp (pps_cons pe_str pe_int pps_nil) (by rfl) (by rfl) (fun z => by cases z) (by decide)) (pa_cons (pe_disp (pps_cons pe_int pe_int pps_nil) (by rfl) (by rfl) (fun z => by cases z) (by decide)) (pa_cons (pe_odd hr.units (pe_tup (pa_cons pe_str pa_nil)) pe_int) (pa_cons pe_str (pa_cons (pe_odd hr.units pe_non pe_int) (pa_cons (pe_lst (pa_cons pe_bl pa_nil)) (pa_cons (pe_disp (pps_cons pe_str pe_bl pps_nil) (by rfl) (by rfl) (fun z => by cases z) (by decide)) pa_nil))))))))))
 (pss_one (ps_ret (pe_ix (ixl K) (pv 1) (pe_k C__law_draw hr (by decide) rfl (pa_cons (pv 0) (pa_cons (pe_callB (lnK K) rfl T.b_len (by decide +kernel) (pa_cons (pv 1) pa_nil)) pa_nil))) (fun _ _ => rfl)))))), ?_⟩
    have cp3 : CPow 10 30 := ⟨by decide, by decide, by decide⟩
    have c30 : (10 : Int) ^ (30 : Int).toNat = big := by decide
    have mo : MulOk "a" 21 := by
      refine ⟨by decide, fun _ _ => by decide, fun _ _ => by decide⟩
    refine ⟨_, _, rfl, rfl, cp3, _, _, rfl, rfl, cp3, _, _, rfl, rfl, _, _, rfl, rfl, mo, szl (by show 0 ≤ 100000; decide), fun p1 np1 => ?_⟩
    obtain ⟨H1, hH1, x0_1, h1⟩ := newH _ np1
    rw [hH1]
    clear hH1
    have f1 := np1
    refine ⟨szl (by show 1 ≤ 100000; decide), fun p2 np2 => ?_⟩
    obtain ⟨H2, hH2, x1_2, h2⟩ := newH _ np2
    rw [hH2]
    clear hH2
    have x0_2 := x0_1.trans x1_2
    have f2 := ex_free x0_1 np2
    refine ⟨szl (by show 1 ≤ 100000; decide), fun p3 np3 => ?_⟩
    obtain ⟨H3, hH3, x2_3, h3⟩ := newH _ np3
    rw [hH3]
    clear hH3
    have x0_3 := x0_2.trans x2_3
    have x1_3 := x1_2.trans x2_3
    have f3 := ex_free x0_2 np3
    refine disp1 (k := Sum.inr "") rfl fun p4 H4 np4 x3_4 h4 => ?_
    have x0_4 := x0_3.trans x3_4
    have x1_4 := x1_3.trans x3_4
    have x2_4 := x2_3.trans x3_4
    refine disp1 (k := Sum.inr "A") rfl fun p5 H5 np5 x4_5 h5 => ?_
    have x0_5 := x0_4.trans x4_5
    have x1_5 := x1_4.trans x4_5
    have x2_5 := x2_4.trans x4_5
    have x3_5 := x3_4.trans x4_5
    refine ⟨szl (by show 13 ≤ 100000; decide), fun p6 np6 => ?_⟩
    obtain ⟨H6, hH6, x5_6, h6⟩ := newH _ np6
    rw [hH6]
    clear hH6
    have x0_6 := x0_5.trans x5_6
    have x1_6 := x1_5.trans x5_6
    have x2_6 := x2_5.trans x5_6
    have x3_6 := x3_5.trans x5_6
    have x4_6 := x4_5.trans x5_6
    have f6 := ex_free x0_5 np6
    refine ⟨_, rfl, ?_⟩
    refine lst_of (cons_of (disp1 (k := Sum.inr "aaaaaaaaa") rfl fun p7 H7 np7 x6_7 h7 => ?_))
    have x0_7 := x0_6.trans x6_7
    have x1_7 := x1_6.trans x6_7
    have x2_7 := x2_6.trans x6_7
    have x3_7 := x3_6.trans x6_7
    have x4_7 := x4_6.trans x6_7
    have x5_7 := x5_6.trans x6_7
    refine disp1 (k := Sum.inl 1) rfl fun p8 H8 np8 x7_8 h8 => ?_
    have x0_8 := x0_7.trans x7_8
    have x1_8 := x1_7.trans x7_8
    have x2_8 := x2_7.trans x7_8
    have x3_8 := x3_7.trans x7_8
    have x4_8 := x4_7.trans x7_8
    have x5_8 := x5_7.trans x7_8
    have x6_8 := x6_7.trans x7_8
    refine oddT fun p9 t9 H9 np9 x8_9 g9 h9 => ?_
    have x0_9 := x0_8.trans x8_9
    have x1_9 := x1_8.trans x8_9
    have x2_9 := x2_8.trans x8_9
    have x3_9 := x3_8.trans x8_9
    have x4_9 := x4_8.trans x8_9
    have x5_9 := x5_8.trans x8_9
    have x6_9 := x6_8.trans x8_9
    have x7_9 := x7_8.trans x8_9
    refine consC (cons_of (oddN fun p10 H10 np10 x9_10 h10 => ?_))
    have x0_10 := x0_9.trans x9_10
    have x1_10 := x1_9.trans x9_10
    have x2_10 := x2_9.trans x9_10
    have x3_10 := x3_9.trans x9_10
    have x4_10 := x4_9.trans x9_10
    have x5_10 := x5_9.trans x9_10
    have x6_10 := x6_9.trans x9_10
    have x7_10 := x7_9.trans x9_10
    have x8_10 := x8_9.trans x9_10
    refine ⟨szl (by show 1 ≤ 100000; decide), fun p11 np11 => ?_⟩
    obtain ⟨H11, hH11, x10_11, h11⟩ := newH _ np11
    rw [hH11]
    clear hH11
    have x0_11 := x0_10.trans x10_11
    have x1_11 := x1_10.trans x10_11
    have x2_11 := x2_10.trans x10_11
    have x3_11 := x3_10.trans x10_11
    have x4_11 := x4_10.trans x10_11
    have x5_11 := x5_10.trans x10_11
    have x6_11 := x6_10.trans x10_11
    have x7_11 := x7_10.trans x10_11
    have x8_11 := x8_10.trans x10_11
    have x9_11 := x9_10.trans x10_11
    have f11 := ex_free x0_10 np11
    refine disp1 (k := Sum.inr "a") rfl fun p12 H12 np12 x11_12 h12 => ?_
    have x0_12 := x0_11.trans x11_12
    have x1_12 := x1_11.trans x11_12
    have x2_12 := x2_11.trans x11_12
    have x3_12 := x3_11.trans x11_12
    have x4_12 := x4_11.trans x11_12
    have x5_12 := x5_11.trans x11_12
    have x6_12 := x6_11.trans x11_12
    have x7_12 := x7_11.trans x11_12
    have x8_12 := x8_11.trans x11_12
    have x9_12 := x9_11.trans x11_12
    have x10_12 := x10_11.trans x11_12
    refine ⟨szl (by show 7 ≤ 100000; decide), fun p13 np13 => ?_⟩
    obtain ⟨H13, hH13, x12_13, h13⟩ := newH _ np13
    rw [hH13]
    clear hH13
    have x0_13 := x0_12.trans x12_13
    have x1_13 := x1_12.trans x12_13
    have x2_13 := x2_12.trans x12_13
    have x3_13 := x3_12.trans x12_13
    have x4_13 := x4_12.trans x12_13
    have x5_13 := x5_12.trans x12_13
    have x6_13 := x6_12.trans x12_13
    have x7_13 := x7_12.trans x12_13
    have x8_13 := x8_12.trans x12_13
    have x9_13 := x9_12.trans x12_13
    have x10_13 := x10_12.trans x12_13
    have x11_13 := x11_12.trans x12_13
    have f13 := ex_free x0_12 np13
    refine ⟨p6, p13, _, _, rfl, rfl, x6_13 _ _ h6, h13, szl (by show 13 + 7 ≤ 100000; decide), fun p14 np14 => ?_⟩
    obtain ⟨H14, hH14, x13_14, h14⟩ := newH _ np14
    rw [hH14]
    clear hH14
    have x0_14 := x0_13.trans x13_14
    have x1_14 := x1_13.trans x13_14
    have x2_14 := x2_13.trans x13_14
    have x3_14 := x3_13.trans x13_14
    have x4_14 := x4_13.trans x13_14
    have x5_14 := x5_13.trans x13_14
    have x6_14 := x6_13.trans x13_14
    have x7_14 := x7_13.trans x13_14
    have x8_14 := x8_13.trans x13_14
    have x9_14 := x9_13.trans x13_14
    have x10_14 := x10_13.trans x13_14
    have x11_14 := x11_13.trans x13_14
    have x12_14 := x12_13.trans x13_14
    have f14 := ex_free x0_13 np14
    refine ⟨_, rfl, _, rfl, _, rfl, .ref p14, 20, rfl, .inl ⟨_, SqLo h14, rfl⟩, pl, _, rfl, hp.ex x0_14, by decide, by decide, fun x x0 x1 => ?_⟩
    obtain ⟨z, hz1, hz2, _⟩ := at_some (xs := [V.bl true, V.bl false, V.non, V.int (10 ^ (30 : Int).toNat), V.int (0 - 10 ^ (30 : Int).toNat), V.str "A", V.str "a b", V.str (Txt.mul "a" 21), .ref p1, .ref p2, .ref p3, .ref p4, .ref p5] ++ [.ref p7, .ref p8, .ref p9, V.str "ab\n", .ref p10, .ref p11, .ref p12]) (v := x) x0 x1
    refine ⟨p14, _, _, _, rfl, rfl, SqLo h14, hz1, k z H14 x0_14 ?_⟩
    rw [c30] at hz2
    simp only [List.mem_append, List.mem_cons, List.not_mem_nil, or_false] at hz2
    have o1 : OddV H14 (V.bl true) := odd_s (dt_bl true) rfl rfl (by decide)
    have o2 : OddV H14 (V.bl false) := odd_s (dt_bl false) rfl rfl (by decide)
    have o3 : OddV H14 V.non := odd_s dt_non rfl rfl (by decide)
    have o4 : OddV H14 (V.int big) := odd_s (dt_int _) (by decide +kernel) (by decide +kernel) (by decide)
    have o5 : OddV H14 (V.int (0 - big)) := odd_s (dt_int _) (by decide +kernel) (by decide +kernel) (by decide)
    have o6 : OddV H14 (V.str "A") := odd_s (dt_str _) (by decide +kernel) (by decide +kernel) (by decide)
    have o7 : OddV H14 (V.str "a b") := odd_s (dt_str _) (by decide +kernel) (by decide +kernel) (by decide)
    have o8 : OddV H14 (V.str (Txt.mul "a" 21)) := odd_s (dt_str _) (by decide +kernel) (by decide +kernel) (by decide)
    have o9 : OddV H14 (.ref p1) := odd_s (dt_tup (x1_14 _ _ h1) DtL.nil) rfl rfl (by decide)
    have o10 : OddV H14 (.ref p2) := odd_s (dt_tup (x2_14 _ _ h2) (DtL.cons (dt_int 1) DtL.nil)) rfl (by decide +kernel) (by decide)
    have o11 : OddV H14 (.ref p3) := odd_s (dt_lst (x3_14 _ _ h3) (DtL.cons dt_non DtL.nil)) rfl (by decide +kernel) (by decide)
    have o12 : OddV H14 (.ref p4) := odd_s (dt_dk1 (x4_14 _ _ h4) (dt_int 1)) (by decide +kernel) (by decide +kernel) (by decide)
    have o13 : OddV H14 (.ref p5) := odd_s (dt_dk1 (x5_14 _ _ h5) (dt_int 1)) (by decide +kernel) (by decide +kernel) (by decide)
    have o14 : OddV H14 (.ref p7) := odd_s (dt_dk1 (x7_14 _ _ h7) (dt_int 1)) (by decide +kernel) (by decide +kernel) (by decide)
    have o15 : OddV H14 (.ref p8) := odd_s (dt_dk1 (x8_14 _ _ h8) (dt_int 1)) (by decide +kernel) (by decide +kernel) (by decide)
    have o16 : OddV H14 (.ref p9) := odd_s (dt_odd (kd := .tuple [.str "a"]) (x9_14 _ _ h9) (fun _ z => nomatch z) (dt_tup (x9_14 _ _ g9) (DtL.cons (dt_str "a") DtL.nil)) (dt_int 1)) (by decide +kernel) (by decide +kernel) (by decide)
    have o17 : OddV H14 (V.str "ab\n") := odd_s (dt_str _) (by decide +kernel) (by decide +kernel) (by decide)
    have o18 : OddV H14 (.ref p10) := odd_s (dt_odd (kd := .none) (x10_14 _ _ h10) (fun _ z => nomatch z) dt_non (dt_int 0)) (by decide +kernel) (by decide +kernel) (by decide)
    have o19 : OddV H14 (.ref p11) := odd_s (dt_lst (x11_14 _ _ h11) (DtL.cons (dt_bl true) DtL.nil)) rfl (by decide +kernel) (by decide)
    have o20 : OddV H14 (.ref p12) := odd_s (dt_dk1 (x12_14 _ _ h12) (dt_bl false)) (by decide +kernel) (by decide +kernel) (by decide)
    rcases hz2 with (rfl | rfl | rfl | rfl | rfl | rfl | rfl | rfl | rfl | rfl | rfl | rfl | rfl) | (rfl | rfl | rfl | rfl | rfl | rfl | rfl)
    all_goals assumption
end
end VL

namespace VL
open PySem PySem.Spec L2 LW
open Evl (Ex)
/-! ### steps as data -/
def stV : V → PyData
  | .int i => .int i
  | .str y => .str y
  | _ => .none
def StOk (s : V) : Prop := (∃ i, s = .int i) ∨ ∃ y, s = .str y ∧ fld (.str y) = true
theorem step_st {d c : PyData} {s : V} (h : stepD d s = some c) (ho : okA d = true) : StOk s := by
  rcases step_cases h with ⟨ds, i, rfl, rfl, h0, e⟩ | ⟨kvs, y, rfl, rfl, hy, rfl⟩
  · exact .inl ⟨i, rfl⟩
  · refine .inr ⟨y, rfl, ?_⟩
    rw [okA_kids, Bool.and_eq_true] at ho
    have h1 : (decide (kvs.length ≤ 8) && kvs.all fun p => fld p.1) = true := ho.1
    rw [Bool.and_eq_true] at h1
    obtain ⟨ha, _⟩ := allStr_of ho.1
    obtain ⟨k, hk, he⟩ := getN_mem hy
    have q := List.all_eq_true.mp h1.2 _ hk
    have e := ha _ hk
    have e' : k = .str (nm k) := e
    rw [← he, ← e']
    exact q
theorem at_st : ∀ {p : List V} {d c : PyData}, At d p c → okA d = true → ∀ s ∈ p, StOk s
  | [], _, _, _, _ => nofun
  | s :: p, d, c, h, ho => by
    obtain ⟨e, h1, h2⟩ := h
    intro x hx
    rcases List.mem_cons.mp hx with rfl | hx
    · exact step_st h1 ho
    · exact at_st h2 (step_ok h1 ho) x hx
theorem fld_cps {y : Str} (h : fld (.str y) = true) : y.cps.all (· < 0x110000) = true := by
  have h : (decide (1 ≤ y.length) && decide (y.length ≤ 8) && low y) = true := h
  rw [Bool.and_eq_true] at h
  rw [Array.all_eq_true_iff_forall_mem]
  intro c hc
  have q := List.all_eq_true.mp h.2 c (Array.mem_toList_iff.mpr hc)
  rw [Bool.and_eq_true] at q
  have := of_decide_eq_true q.2
  exact decide_eq_true (by omega)
theorem st_dp {K : PySem.W.Frag} {H : Hp} {s : V} (h : StOk s) : Dp K H s (stV s) ∧ PyData.canLay0 (stV s) = true ∧ (stV s).depth = 0 := by
  rcases h with ⟨i, rfl⟩ | ⟨y, rfl, hy⟩
  · exact ⟨.int i, rfl, rfl⟩
  · refine ⟨.str y, ?_, rfl⟩
    show PyData.canLay0 (.str y) = true
    rw [PyData.canLay0]
    exact fld_cps hy
theorem st_all {K : PySem.W.Frag} {H : Hp} : ∀ {p : List V}, (∀ s ∈ p, StOk s) → DpAll K H p (p.map stV) ∧ PyData.canLayAll0 (p.map stV) = true ∧ PyData.depthAll (p.map stV) = 0
  | [], _ => ⟨.nil, rfl, rfl⟩
  | s :: p, h => by
    obtain ⟨h1, h2, h3⟩ := st_dp (K := K) (H := H) (h s List.mem_cons_self)
    obtain ⟨g1, g2, g3⟩ := st_all (K := K) (H := H) (p := p) fun x hx => h x (List.mem_cons_of_mem _ hx)
    refine ⟨.cons h1 g1, ?_, ?_⟩
    · rw [List.map_cons, PyData.canLayAll0, h2, g2]
      rfl
    · rw [List.map_cons, PyData.depthAll, h3, g3]
      rfl
theorem st_shaped {p : List V} (h : ∀ s ∈ p, StOk s) : SeqAt.shaped (.tuple (p.map stV)) = true := by
  obtain ⟨_, h2, h3⟩ := st_all (K := []) (H := fun _ => none) h
  unfold SeqAt.shaped
  rw [PyData.canLay0, PyData.depth, h2, h3]
  rfl
theorem eqv_nil (p : List V) : PyData.eqv (.tuple (p.map stV)) (.tuple []) = p.isEmpty := by
  cases p with
  | nil => rw [List.map_nil, PyData.eqv, PyData.eqvAll]; rfl
  | cons a b => rw [List.map_cons, PyData.eqv, PyData.eqvAll]; rfl
theorem six_last (p : List V) (s : V) : HT.sIx (p ++ [s]).length (p ++ [s]).length (some (-1)) = p.length := by
  show (if (-1 : Int) < 0 then (-1 + ((p ++ [s]).length : Int)).toNat else min (-1 : Int).toNat (p ++ [s]).length) = p.length
  rw [if_pos (by decide), List.length_append]
  show (-1 + ((p.length + 1 : Nat) : Int)).toNat = _
  omega
theorem cut_last (p : List V) (s : V) : cutV (p ++ [s]) none (some (-1)) = p := by
  unfold cutV
  rw [six_last]
  show ((p ++ [s]).drop 0).take (p.length - 0) = p
  rw [List.drop_zero, Nat.sub_zero, List.take_left']
  rfl
section
variable {P : Program} {w : World} {K : PySem.W.Frag} {mg : Str → Option Value} {base : Heap}
/-! ### _law_put -/
def spPut : Sp := fun vs H Q _ => ∃ (v : V) (d : PyData) (t : Addr) (p : List V) (c : PyData) (th : V), vs = [v, .ref t, th] ∧ Dt H d v ∧ okA d = true ∧ cnt d ≤ 60 ∧ L2.Rd H t (.tup p) ∧ At d p c ∧ OddV H th ∧
  ∀ u e H', Ex H H' → Dt H' e u → okA e = false → Sm e → Q u H'
theorem sc__law_put : FnScope ["_law_value_here", "_law_spot", "_law_thing", "_law_found", "_law_part_here"] ["_law_value_here", "_law_spot", "_law_thing"] (defScope s__law_put) := ⟨rfl, rfl, rfl, by decide +kernel, rfl, by decide +kernel, by decide +kernel⟩
theorem bi__law_put : BindsEq "_law_put" s__law_put ["_law_value_here", "_law_spot", "_law_thing"] := fun _ _ _ _ _ _ us hl => match us, hl with | [_, _, _], _ => rfl
theorem ok_put (F : Df K mg "_law_put" s__law_put) (T : Txt K mg) (C__law_twin : Cal P w K mg base CX0 61 "_law_twin" (spTwin 60)) (C__law_part : Cal P w K mg base CX0 1 "_law_part" spPartL) : Cal P w K mg base CX0 62 "_law_put" spPut := by
  refine cal0 F sc__law_put bi__law_put (fun vs H Q E h => ?_) (fun f cdv A outer s H vs Q E hr h => ?_)
  · obtain ⟨v, d, t, p, c, th, rfl, _⟩ := h
    rfl
  · obtain ⟨v, d, t, p, c, th, rfl, hd, ho, hc, ht, hat, ⟨td, htd, hbad, hlim, hnod⟩, k⟩ := h
    have hu : (A.deeper (PyProof.Rows.envOfC "_law_put" (defScope s__law_put) s.heap.objs.size f cdv)).units + 1 < cLine := by have := hr.un; omega
    refine ⟨_, (pss_cons (ps_if (pt_cmpR (eqDK K hr.units) (pv 1) (pe_tup pa_nil) (nomark _)) (pss_one (ps_ret (pv 2))) pss_nil)
 (pss_cons (ps_set (i := 3) sc__law_put.nd rfl (Or.inl rfl) (pe_k C__law_twin hr (by decide) rfl (pa_cons (pv 0) pa_nil)))
 (pss_cons (ps_set (i := 4) sc__law_put.nd rfl (Or.inl rfl) (pe_k C__law_part hr (by decide) rfl (pa_cons (pv 3) (pa_cons (pe_slice sl_tup (pv 1) po_none (po_some (pe_un un_neg pe_int))) pa_nil))))
 (pss_cons (ps_asg (pv 2) (pg_sub (pv 4) (pe_ix (ixt K) (pv 1) (pe_un un_neg pe_int) (fun _ _ => rfl)) (setA hu)))
 (pss_one (ps_ret (pv 3))))))), ?_⟩
    have hst := at_st hat ho
    refine ⟨_, rfl, szl (by show 0 ≤ 100000; decide), fun p1 np1 => ?_⟩
    obtain ⟨H1, hH1, x0_1, h1⟩ := newH _ np1
    rw [hH1]
    clear hH1
    have f1 := np1
    refine ⟨.tuple (p.map stV), .tuple [], .tup (.inl (rd_ex x0_1 ht)) (st_all hst).1, .tup (SqTo h1) .nil, st_shaped hst, rfl, _, rfl, if_b (fun h => ?_) (fun h => ?_)⟩
    · exact ⟨_, rfl, k th td H1 x0_1 (htd.ex x0_1) hbad ⟨hlim, by omega⟩⟩
    · rw [eqv_nil] at h
      obtain ⟨p', s', rfl⟩ : ∃ p' s', p = p' ++ [s'] := by
        cases p with
        | nil => cases h
        | cons a b => exact ⟨(a :: b).dropLast, (a :: b).getLast (by simp), (List.dropLast_concat_getLast (by simp)).symm⟩
      obtain ⟨e, hae, hse⟩ := at_snoc hat
      refine ⟨_, rfl, v, d, rfl, hd.ex x0_1, ho, hc, fun u H2 x1_2 htr => ?_⟩
      have x0_2 := x0_1.trans x1_2
      refine ⟨_, rfl, _, rfl, _, rfl, _, rfl, t, _, rfl, .inl (rd_ex x0_2 ht), fun z => ?_, fun p3 np3 => ?_⟩
      · have z2 := z.2
        rw [six_last, List.length_append] at z2
        have z2 : p'.length = p'.length + 1 := z2
        omega
      obtain ⟨H3, hH3, x2_3, h3⟩ := newH _ np3
      rw [hH3]
      clear hH3
      have h3 : H3 p3 = some (.tup (cutV (p' ++ [s']) none (some (-1)))) := h3
      rw [cut_last] at h3
      have x0_3 := x0_2.trans x2_3
      have x1_3 := x1_2.trans x2_3
      obtain ⟨wv, A', m1, m2, m3, m4, _⟩ := hole htr ho hae
      obtain ⟨_, _, _, _, _, _, n5⟩ := hole htr ho hat
      have hoe := at_ok hae ho
      have hst' : okA (putAt d p' (setD e s' td)) = false := putAt_bad hae (setD_bad hse hbad)
      have hsm : Sm (putAt d p' (setD e s' td)) := by
        rw [← put_snoc hae hse]
        obtain ⟨q1, q2⟩ := n5 td hlim
        refine ⟨q1, ?_⟩
        have := (ok_lim d ho).2
        have := nod_pos c
        omega
      have xf3 : Ex (fr H1 H2) H3 := fr_sub.trans x2_3
      refine ⟨u, p3, p', wv, rfl, .inl h3, m1.ex xf3, ?_⟩
      -- the end, the part's address and its new object told
      have fin : ∀ (a : Addr) (o o' : HO), wv = .ref a → A' a = some o → (Ex (del A' a) (upd H3 a o') → Dt (upd H3 a o') td th → Dt (upd H3 a o') (setD e s' td) wv) → Q u (upd H3 a o') := by
        intro a o o' ea ha hnew
        have hfa : H1 a = none := (fr_some (m2 _ _ ha)).1
        have e3 : Ex H (upd H3 a o') := Ex.mut x0_3 (ex_free x0_1 hfa)
        refine k u _ _ e3 (m4 a ea ⟨o, ha⟩ _ (fun b x nb q => ?_) _ (hnew (fun b x q => ?_) (htd.ex e3))) hst' hsm
        · rw [upd_ne nb]
          exact xf3 _ _ q
        · have nb : b ≠ a := fun z => by
            rw [z, del_same] at q
            cases q
          rw [upd_ne nb]
          exact xf3 _ _ (m2 _ _ (ex_del _ _ q))
      refine ⟨_, rfl, _, rfl, _, rfl, _, rfl, t, _, _, s', rfl, rfl, .inl (rd_ex x0_3 ht), atI_last _ _, ?_⟩
      rcases step_cases hse with ⟨ds, i, rfl, rfl, h0, hi⟩ | ⟨kvs, y, rfl, rfl, hy, rfl⟩
      · have m3' := m3
        unfold Tr at m3'
        obtain ⟨a, vs, rfl, ha, hl⟩ := m3'
        have hlen := (TrL.dt hl).len
        have hil : i.toNat < vs.length := by
          rw [hlen]
          exact (List.getElem?_eq_some_iff.mp hi).1
        refine .inl ⟨a, vs, i, i.toNat, rfl, rfl, xf3 _ _ (m2 _ _ ha), ?_, _, rfl, fin a _ _ rfl ha fun q1 q2 => ?_⟩
        · unfold ixN
          rw [if_pos h0, if_pos (by omega)]
        · show Dt _ (.list (ds.set i.toNat td)) _
          exact dt_lst upd_same (DtL.set ((TrL.dt hl).ex q1) q2)
      · have m3' := m3
        unfold Tr at m3'
        obtain ⟨a, es, rfl, ha, nd, hl⟩ := m3'
        obtain ⟨hal, nds⟩ := tr_ns hl hoe nd
        have hel : es.length ≤ 8 := by
          rw [okA_kids, Bool.and_eq_true] at hoe
          have := (allStr_of hoe.1).2
          rw [DtK.len (TrK.dt hl)]
          exact this
        obtain ⟨v0, hv0, _⟩ := dtk_get (TrK.dt hl) hal y hy
        refine .inr ⟨a, _, rfl, DPut.k (k := Sum.inr y) (xf3 _ _ (m2 _ _ ha)) (szlt (by omega)), _, rfl, fin a _ _ rfl ha fun q1 q2 => ?_⟩
        show Dt _ (.dict (setM kvs y td)) _
        refine dt_dk upd_same ?_ (DtK.put q2 ((TrK.dt hl).ex q1) hal hy)
        rw [putK_keys (by rw [hv0]; rfl)]
        exact nd
end
end VL

namespace VL
open PySem PySem.Spec L2 LW
open Evl (Ex)
/-! ### full and too full -/
def nest : Nat → PyData
  | 0 => .int 7
  | i + 1 => if i % 2 = 0 then .list [nest i] else .dict [(.str "a", nest i)]
theorem nest_facts : ∀ i, okA (nest i) = true ∧ cnt (nest i) = 1 + i ∧ nod (nest i) ≤ 1 + 2 * i
  | 0 => by
    refine ⟨by decide +kernel, rfl, by decide⟩
  | i + 1 => by
    obtain ⟨h1, h2, h3⟩ := nest_facts i
    show okA (if i % 2 = 0 then .list [nest i] else .dict [(.str "a", nest i)]) = true ∧ cnt (if i % 2 = 0 then .list [nest i] else .dict [(.str "a", nest i)]) = _ ∧ nod (if i % 2 = 0 then .list [nest i] else .dict [(.str "a", nest i)]) ≤ _
    split
    · refine ⟨?_, ?_, ?_⟩
      · rw [okA, okL, okL, h1]
        rfl
      · rw [cnt, cntL, cntL, h2]
        omega
      · rw [nod_list, nodL, nodL]
        omega
    · refine ⟨?_, ?_, ?_⟩
      · rw [okA, okK, okK, h1]
        have e : fld (.str "a") = true := by decide +kernel
        show ((decide (1 ≤ 8) && (fld (.str "a") && true)) && (true && true)) = true
        rw [e]
        rfl
      · rw [cnt, cntK, cntK, h2]
        omega
      · rw [nod_dict, nodK, nodK]
        have : nod (.str "a") = 1 := rfl
        omega
def zeros (n : Nat) : PyData := .list (List.replicate n (.int 0))
theorem zeros_dt {H : Hp} {a : Addr} {n : Nat} (h : H a = some (.lst (List.replicate n (V.int 0)))) : Dt H (zeros n) (.ref a) := by
  refine dt_lst h ?_
  clear h
  induction n with
  | zero => exact DtL.nil
  | succ n ih => exact DtL.cons (dt_int 0) ih
def sixes : PyData := .list (List.replicate 6 (.str ""))
def abc : List Str := ["a", "b", "c", "d", "e", "f", "g", "h", "i"]
def boxes (n : Nat) : List (PyData × PyData) := (abc.take n).map fun y => (.str y, sixes)
theorem six_dt {H : Hp} {a : Addr} (h : H a = some (.lst (List.replicate 6 (V.str "")))) : Dt H sixes (.ref a) :=
  dt_lst h (DtL.cons (dt_str _) (DtL.cons (dt_str _) (DtL.cons (dt_str _) (DtL.cons (dt_str _) (DtL.cons (dt_str _) (DtL.cons (dt_str _) DtL.nil))))))
theorem rep1 {n : Nat} {x : V} : (List.replicate n [x]).flatten = List.replicate n x := by
  induction n with
  | zero => rfl
  | succ n ih => rw [List.replicate_succ, List.replicate_succ, List.flatten_cons, ih]; rfl
theorem disp1v {k : Key} {kv v : V} {j : Nat} {σ : L2.St} {H : Hp} {Q : VK} (hk : kv = kV k) (hv : σ[j]? = some (some v)) (h : ∀ p H', H p = none → Ex H H' → H' p = some (.dK [(k, v)]) → Q (.ref p) H') : tDisp [(tC kv, tVar j)] σ H Q := by
  intro p np
  refine ⟨v, hv, upd_same, [(k, v)], ?_, by show 1 ≤ 15; decide, ?_⟩
  · rw [hk]
    rfl
  · rw [upd_upd]
    exact h p _ np (Ex.new np) upd_same
section
variable {P : Program} {w : World} {K : PySem.W.Frag} {mg : Str → Option Value} {base : Heap}
def spMany : Sp := fun vs H Q _ => ∃ (pl : Addr) (m : Nat), vs = [.ref pl, .int m] ∧ m ≤ 1 ∧ Pool H pl ∧
  ∀ v d H', Ex H H' → Dt H' d v → Sm d → (m = 0 → okA d = true ∧ cnt d ≤ 60) → (m = 1 → isV d = false) → Q v H'
theorem many_go {v : V} {d : PyData} {H' : Hp} {Q : VK} {m : Nat} (k : Sm d → (m = 0 → okA d = true ∧ cnt d ≤ 60) → (m = 1 → isV d = false) → Q v H') (h1 : limB d = true) (h2 : nod d ≤ 140)
    (h3 : m = 0 → okA d = true ∧ cnt d ≤ 60) (h4 : m = 1 → isV d = false) : Q v H' := k ⟨limB_ok d h1, h2⟩ h3 h4
theorem sc__law_many : FnScope ["_law_pool", "_law_more", "_law_fields", "_law_way", "_law_whole", "_law_k", "_law_name"] ["_law_pool", "_law_more"] (defScope s__law_many) := ⟨rfl, rfl, rfl, by decide +kernel, rfl, by decide +kernel, by decide +kernel⟩
theorem bi__law_many : BindsEq "_law_many" s__law_many ["_law_pool", "_law_more"] := fun _ _ _ _ _ _ us hl => match us, hl with | [_, _], _ => rfl
theorem ok_many (F : Df K mg "_law_many" s__law_many) (T : Txt K mg) (C__law_draw : Cal P w K mg base CX0 1 "_law_draw" spDraw) : Cal P w K mg base CX0 2 "_law_many" spMany := by
  refine cal0 F sc__law_many bi__law_many (fun vs H Q E h => ?_) (fun f cdv A outer s H vs Q E hr h => ?_)
  · obtain ⟨pl, m, rfl, _⟩ := h
    rfl
  · obtain ⟨pl, m, rfl, hm, hp, k⟩ := h
    have hu : (A.deeper (PyProof.Rows.envOfC "_law_many" (defScope s__law_many) s.heap.objs.size f cdv)).units + 1 < cLine := by have := hr.un; omega
    refine ⟨_, (pss_cons (ps_set (i := 2) sc__law_many.nd rfl (Or.inl rfl) (pe_lst (pa_cons pe_str (pa_cons pe_str (pa_cons pe_str (pa_cons pe_str (pa_cons pe_str (pa_cons pe_str (pa_cons pe_str (pa_cons pe_str (pa_cons pe_str pa_nil)))))))))))
 (pss_cons (ps_set (i := 3) sc__law_many.nd rfl (Or.inl rfl) (pe_k C__law_draw hr (by decide) rfl (pa_cons (pv 0) (pa_cons pe_int pa_nil))))
 (pss_cons (ps_if (pt_cmpR op_eq (pv 3) pe_int (nomark _)) (pss_one (ps_ret (pe_op op_rep (pe_lst (pa_cons pe_int pa_nil)) (pe_op op_add pe_int (pv 1))))) pss_nil)
 (pss_cons (ps_if (pt_cmpR op_eq (pv 3) pe_int (nomark _)) (pss_cons (ps_set (i := 4) sc__law_many.nd rfl (Or.inl rfl) pe_int)
 (pss_cons (ps_for PassesOwn.never rfl (pi_range1 rfl T.b_range (pa_cons (pe_op op_add pe_int (pv 1)) pa_nil)) (pg_name (i := 5) sc__law_many.nd rfl (Or.inl rfl)) (pss_one (ps_set (i := 4) sc__law_many.nd rfl (Or.inl rfl) (pe_ix (ixl K) (pe_lst (pa_cons (pe_lst (pa_cons (pv 4) pa_nil)) (pa_cons (pe_disp (pps_cons pe_str (pv 4) pps_nil) (by rfl) (by rfl) (fun z => by cases z) (by decide)) pa_nil))) (pe_op op_mod (pv 5) pe_int) (fun _ _ => rfl)))))
 (pss_one (ps_ret (pv 4))))) pss_nil)
 (pss_cons (ps_set (i := 4) sc__law_many.nd rfl (Or.inl rfl) pe_dnewK)
 (pss_cons (ps_for PassesOwn.never rfl (pil K (pe_slice (slK K) (pv 2) po_none (po_some (pe_op op_add pe_int (pv 1))))) (pg_name (i := 6) sc__law_many.nd rfl (Or.inl rfl)) (pss_one (ps_dput hu (pv 4) (pv 6) (pe_op op_rep (pe_lst (pa_cons pe_str pa_nil)) pe_int) rfl)))
 (pss_one (ps_ret (pv 4))))))))), ?_⟩
    refine ⟨szl (by show 9 ≤ 100000; decide), fun p1 np1 => ?_⟩
    obtain ⟨H1, hH1, x0_1, h1⟩ := newH _ np1
    rw [hH1]
    clear hH1
    have f1 := np1
    refine ⟨_, rfl, pl, 3, rfl, hp.ex x0_1, by decide, by decide, fun wy w0 w1 => ?_⟩
    refine ⟨_, rfl, rfl, _, rfl, if_b (fun h => ?_) (fun h => ?_)⟩
    · refine ⟨szl (by show 1 ≤ 100000; decide), fun p2 np2 => ?_⟩
      obtain ⟨H2, hH2, x1_2, h2⟩ := newH _ np2
      rw [hH2]
      clear hH2
      have x0_2 := x0_1.trans x1_2
      have f2 := ex_free x0_1 np2
      refine ⟨_, rfl, _, _, rfl, rfl, p2, _, _, rfl, rfl, h2, by omega, by omega, szl (by show 1 * (59 + (m : Int)).toNat ≤ 100000; omega), fun p3 np3 => ?_⟩
      rw [rep1, show (59 + (m : Int)).toNat = 59 + m by omega]
      have x3 := x0_2.trans (Ex.new (o := .lst (List.replicate (59 + m) (V.int 0))) np3)
      refine k _ (zeros (59 + m)) _ x3 (zeros_dt upd_same) ?_ ?_ ?_
      · have : m = 0 ∨ m = 1 := by omega
        rcases this with rfl | rfl
        · exact ⟨limB_ok _ (by decide +kernel), by decide +kernel⟩
        · exact ⟨limB_ok _ (by decide +kernel), by decide +kernel⟩
      · rintro rfl
        exact ⟨by decide +kernel, by decide +kernel⟩
      · rintro rfl
        decide +kernel
    · refine ⟨_, rfl, rfl, _, rfl, if_b (fun h' => ?_) (fun h' => ?_)⟩
      · -- a tower
        refine ⟨_, rfl, _, _, rfl, rfl, _, rfl, by omega, by omega, for_it walk_range (fun i σ' Hi => ∃ u o5, σ' = [some (.ref pl), some (.int m), some (.ref p1), some (.int wy), some u, o5, none] ∧ Ex H1 Hi ∧ Dt Hi (nest i) u) ?_ (fun _ _ _ _ _ => True.intro) ?_ ?_⟩
        · exact ⟨_, none, rfl, fun _ _ h => h, dt_int 7⟩
        · rintro i x σ' Ho Hi hi ⟨u, o5, rfl, e, hd⟩ ⟨rfl, rfl⟩
          refine ⟨_, rfl, szl (by show 1 ≤ 100000; decide), fun p2 np2 => ?_⟩
          obtain ⟨Ha, hHa, xa, ha⟩ := newH _ np2
          rw [hHa]
          clear hHa
          refine cons_of (disp1v (k := Sum.inr "a") rfl rfl fun p3 Hb np3 xb hb => ?_)
          refine ⟨szl (by show 2 ≤ 100000; decide), fun p4 np4 => ?_⟩
          obtain ⟨Hc, hHc, xc, hc⟩ := newH _ np4
          rw [hHc]
          clear hHc
          have xi := xa.trans (xb.trans xc)
          have hat : atI [V.ref p2, V.ref p3] ((0 + (i : Int)) % 2) = some (if i % 2 = 0 then V.ref p2 else V.ref p3) := by
            have : i % 2 = 0 ∨ i % 2 = 1 := by omega
            rcases this with h | h
            · rw [if_pos h, show (0 + (i : Int)) % 2 = 0 by omega]
              rfl
            · rw [if_neg (by omega), show (0 + (i : Int)) % 2 = 1 by omega]
              rfl
          refine ⟨_, rfl, _, _, rfl, rfl, (by show (0 : Int) < 2; decide), p4, _, _, _, rfl, rfl, SqLo hc, hat, _, _, rfl, e.trans xi, ?_⟩
          show Dt Hc (if i % 2 = 0 then .list [nest i] else .dict [(.str "a", nest i)]) _
          by_cases h2 : i % 2 = 0
          · rw [if_pos h2, if_pos h2]
            exact dt_lst ((xb.trans xc) _ _ ha) (DtL.cons (hd.ex xi) DtL.nil)
          · rw [if_neg h2, if_neg h2]
            exact dt_dk1 (k := Sum.inr "a") (xc _ _ hb) (hd.ex xi)
        · rintro σ' Hi ⟨u, o5, rfl, e, hd⟩
          have en : (59 + (m : Int)).toNat = 59 + m := by omega
          obtain ⟨n1, n2, n3⟩ := nest_facts (59 + m)
          have hd : Dt Hi (nest (59 + m)) u := by
            rw [← en]
            exact hd
          refine ⟨_, rfl, k u (nest (59 + m)) Hi (x0_1.trans e) hd ⟨(ok_lim _ n1).1, by omega⟩ (fun z => ⟨n1, by omega⟩) fun z => ?_⟩
          unfold isV
          rw [decide_eq_false (by omega), Bool.and_false]
      · -- records
        intro p2 np2
        have np2' : H p2 = none := ex_free x0_1 np2
        obtain ⟨H2, hH2, x1_2, h2⟩ := newH _ np2
        rw [hH2]
        clear hH2
        have hcut : cutV [V.str "a", V.str "b", V.str "c", V.str "d", V.str "e", V.str "f", V.str "g", V.str "h", V.str "i"] none (some (8 + (m : Int))) = (abc.take (8 + m)).map V.str := by
          have : m = 0 ∨ m = 1 := by omega
          rcases this with rfl | rfl <;> rfl
        have hab : (abc.take (8 + m)).Nodup := by
          have : m = 0 ∨ m = 1 := by omega
          rcases this with rfl | rfl <;> decide +kernel
        have hal : (abc.take (8 + m)).length = 8 + m := by
          have : m = 0 ∨ m = 1 := by omega
          rcases this with rfl | rfl <;> rfl
        refine ⟨_, rfl, _, rfl, _, _, rfl, rfl, _, rfl, p1, _, rfl, SqLo (x1_2 _ _ h1), fun p3 np3 => ?_⟩
        rw [hcut]
        obtain ⟨H3, hH3, x2_3, h3⟩ := newH _ np3
        rw [hH3]
        clear hH3
        have n32 : p3 ≠ p2 := fun z => by
          rw [z, h2] at np3
          cases np3
        have xH3 : Ex H (del H3 p2) := ex_of_del (x0_1.trans (x1_2.trans x2_3)) np2'
        have h3d : del H3 p2 p3 = some (.lst ((abc.take (8 + m)).map V.str)) := del_get h3 n32
        refine ⟨p3, rfl, ⟨_, SqLo h3⟩, for_it (walk_list (K := K) (a := p3) (xs := (abc.take (8 + m)).map V.str)) (fun i σ' Hi => ∃ es o6, σ' = [some (.ref pl), some (.int m), some (.ref p1), some (.int wy), some (.ref p2), none, o6] ∧ Ex (del H3 p2) (del Hi p2) ∧ Hi p2 = some (.dK es) ∧ DtK (del Hi p2) (((abc.take (8 + m)).take i).map fun y => (.str y, sixes)) es ∧ es.map (·.1) = ((abc.take (8 + m)).take i).map fun y => (Sum.inr y : Key)) ?_ ?_ ?_ ?_⟩
        · exact ⟨[], none, rfl, fun _ _ h => h, x2_3 _ _ h2, by unfold DtK; rfl, rfl⟩
        · rintro i σ' Hi _ ⟨es, o6, _, e, _⟩
          exact SqLo (ex_del _ _ (e _ _ h3d))
        · rintro i x σ' Ho Hi hi ⟨es, o6, rfl, e, hD, hk, hks⟩ ⟨rfl, hx1⟩
          obtain ⟨y, hy, rfl⟩ : ∃ y, (abc.take (8 + m))[i]? = some y ∧ V.str y = x := by
            rw [List.getElem?_map] at hx1
            cases hp : (abc.take (8 + m))[i]? with
            | none => rw [hp] at hx1; cases hx1
            | some p => rw [hp] at hx1; exact ⟨p, rfl, Option.some.inj hx1⟩
          refine ⟨szl (by show 1 ≤ 100000; decide), fun p4 np4 => ?_⟩
          obtain ⟨Ha, hHa, xa, ha⟩ := newH _ np4
          rw [hHa]
          clear hHa
          refine ⟨p4, _, _, rfl, rfl, ha, by decide, by decide, szl (by show 1 * 6 ≤ 100000; decide), fun p5 np5 => ?_⟩
          obtain ⟨Hb, hHb, xb, hb⟩ := newH _ np5
          rw [hHb]
          clear hHb
          have hb : Hb p5 = some (.lst (List.replicate 6 (V.str ""))) := hb
          have xi := xa.trans xb
          have n52 : p5 ≠ p2 := fun z => by
            rw [z, xa _ _ hD] at np5
            cases np5
          have hlen : es.length ≤ 9 := by
            have := congrArg List.length hks
            rw [List.length_map, List.length_map, List.length_take, hal] at this
            omega
          have hno : valV es (Sum.inr y : Key) = none := val_keys (by
            rw [hks]
            intro hm'
            obtain ⟨z, hz, hz2⟩ := List.mem_map.mp hm'
            cases hz2
            exact nodup_take hab hy hz)
          refine ⟨_, rfl, _, rfl, p2, _, rfl, DPut.k (k := Sum.inr y) (xi _ _ hD) (szlt (by omega)), _, _, rfl, ?_, upd_same, ?_, ?_⟩
          · rw [del_upd]
            exact e.trans (del_grow' xi)
          · rw [putK_new _ hno, del_upd, List.take_add_one, hy, List.map_append]
            exact DtK.app1 (k := .str y) (x := Sum.inr y) rfl (six_dt (del_get hb n52)) (hk.ex (del_grow' xi))
          · rw [putK_new _ hno, List.map_append, hks, List.take_add_one, hy, List.map_append]
            rfl
        · rintro σ' Hi ⟨es, o6, rfl, e, hD, hk, hks⟩
          have e1 : (abc.take (8 + m)).take ((abc.take (8 + m)).map V.str).length = abc.take (8 + m) := List.take_of_length_le (by rw [List.length_map]; exact Nat.le_refl _)
          rw [e1] at hk hks
          have nd : (es.map (·.1)).Nodup := by
            rw [hks]
            exact List.Pairwise.map _ (fun a b h z => h (Sum.inr.inj z)) hab
          refine ⟨_, rfl, k _ (.dict (boxes (8 + m))) Hi ((xH3.trans e).trans ex_del) (dt_dk hD nd (hk.ex ex_del)) ?_ ?_ ?_⟩
          · have : m = 0 ∨ m = 1 := by omega
            rcases this with rfl | rfl
            · exact ⟨limB_ok _ (by decide +kernel), by decide +kernel⟩
            · exact ⟨limB_ok _ (by decide +kernel), by decide +kernel⟩
          · rintro rfl
            exact ⟨by decide +kernel, by decide +kernel⟩
          · rintro rfl
            decide +kernel
end
end VL

namespace LW
open PySem PySem.Spec L2
section
variable {X : Cx} {k j : Nat} {x : Str} {sp : Sp} {p pos : Pos} {e : Expr} {es : List Expr} {t : TA}
theorem pe_kL (c : Cal X.prog X.w X.K X.mg X.base (L2.CX X.prog X.w) k x sp) (hr : Room j X.A) (hk : k ≤ j) (hg : Gl X x) (ha : PA X (e :: es) t)
    (hdb : (x == ("__debug__" : Str)) = false := by decide) (he : starEach (e :: es) X.env = (false, eval e X.env) :: starEach es X.env := by rfl) (hpl : (backTo pos (starEach es X.env)).any (·.1) = false := by rfl) :
    PE X (.Call (.Name x p) (e :: es) [] pos) (tCall sp [] E0 t) := by
  obtain ⟨f, fd, ps, F, hm, kp, b⟩ := c.ex
  exact pe_call F (hr.mono hk) hg hm kp b .nil passL ha hdb he hpl
end
end LW
namespace VL
open PySem PySem.Spec L2 LW
open Evl (Ex)
section
variable {P : Program} {w : World} {K : PySem.W.Frag} {mg : Str → Option Value} {base : Heap} {CC CI CP CS : Addr}
/-! ### _law_refused -/
structure TxE (K : PySem.W.Frag) (mg : Str → Option Value) (CC CI CP CS : Addr) : Prop where
  gC : mg "CheckError" = some (.ref CC)
  gI : mg "InvalidValue" = some (.ref CI)
  gP : mg "InvalidPlace" = some (.ref CP)
  gS : mg "InvalidSeen" = some (.ref CS)
  xd : ExcD K CI
  no : PySem.W.findIn K (.ref CI) "value" = some none
  ee : PySem.W.exmOne K (.ref CI) (.ref CC) = some true
  kI : PySem.W.kitOne K (.ref CI) (.ref CI) = some true
  kP : PySem.W.kitOne K (.ref CI) (.ref CP) = some false
  kS : PySem.W.kitOne K (.ref CI) (.ref CS) = some false
def tIsX (K : PySem.W.Frag) (C : Addr) (a : Addr) (cls : Value) (d : Option Addr) : TE := tCB (rIsX K cls d a) (tCons (tVar 1) (tCons (tC (.ref C)) tNil))
def tSuiteR (K : PySem.W.Frag) (CI CP CS : Addr) : Addr → Value → Option Addr → TS := fun a cls d =>
  tSeq (tAsg (tLst (tCons (tIsX K CP a cls d) (tCons (tIsX K CS a cls d) tNil))) (gName 2))
    (tRet (tAndV (tIsX K CI a cls d) (tAndV (tOp (rIn K true) (tC (.bl true)) (tVar 2)) (tOp rEq (tCB rRep (tCons (tXg K a cls d "value" (tVar 1)) tNil)) (tCB rRep (tCons (tVar 0) tNil))))))
def spRefused : Sp := fun vs H Q _ => ∃ (v : V) (d : PyData), vs = [v] ∧ Dt H d v ∧ Sm d ∧ isV d = false ∧ ∀ H', Ex H H' → Q (.bl true) H'
theorem sc__law_refused : FnScope ["_law_thing", "e", "_law_foreign"] ["_law_thing"] (defScope s__law_refused) := ⟨rfl, rfl, rfl, by decide +kernel, rfl, by decide +kernel, by decide +kernel⟩
theorem bi__law_refused : BindsEq "_law_refused" s__law_refused ["_law_thing"] := fun _ _ _ _ _ _ us hl => match us, hl with | [_], _ => rfl
theorem ok_refused (F : Df K mg "_law_refused" s__law_refused) (T : Txt K mg) (Te : TxE K mg CC CI CP CS) (sy : ∃ mm, base.Ns sysModules mm) (C_size : Cal P w K mg base (L2.CX P w) 63 "size" (spSize CI)) : CalG P w K mg base CX0 64 "_law_refused" spRefused := by
  refine calG F sc__law_refused bi__law_refused (fun vs H Q E h => ?_) (fun f cdv A outer s H vs Q E gd hr h => ?_)
  · obtain ⟨v, d, rfl, _⟩ := h
    rfl
  · obtain ⟨v, d, rfl, hd, hs, hv, k⟩ := h
    have un := hr.un
    have un2 : (A.deeper (PyProof.Rows.envOfC "_law_refused" (defScope s__law_refused) s.heap.objs.size f cdv)).units + 180 < cLine := by omega
    refine ⟨_, PSs.nox (pss_cons (ps_try_as (i := 1) (tb := fun W => tDrop (tCallS (spSize CI) (WE W) (tCons (tVar 0) tNil))) (ts := tSuiteR K CI CP CS) (Wout := fun _ _ _ _ => False) rfl rfl sc__law_refused.nd rfl rfl ⟨rfl, by decide, Or.inl Te.gC⟩ takes0
        (fun W pn xe tk _ => pss_one (ps_expr (pe_kS C_size hr (by decide) tk rfl (pa_cons (pv 0) pa_nil))))
        (fun a oe cls dd pn hz hf => pss_cons (ps_set (i := 2) sc__law_refused.nd rfl (Or.inl rfl) (pe_lst (pa_cons (pe_callB (call_isX hz hf) rfl T.b_isinstance (by decide +kernel) (pa_cons (pv 1) (pa_cons (pe_glob rfl Te.gP rfl) pa_nil))) (pa_cons (pe_callB (call_isX hz hf) rfl T.b_isinstance (by decide +kernel) (pa_cons (pv 1) (pa_cons (pe_glob rfl Te.gS rfl) pa_nil))) pa_nil))))
          (pss_one (ps_ret (pe_and (pe_callB (call_isX hz hf) rfl T.b_isinstance (by decide +kernel) (pa_cons (pv 1) (pa_cons (pe_glob rfl Te.gI rfl) pa_nil))) (pe_and (pe_cmpR (ninq K) pe_bl (pv 2) (by rfl))
            (pe_one (pe_cmpR op_eq (pe_callB (call_repr ⟨gd, sy, un2⟩) rfl T.b_repr (by decide +kernel) (pa_cons (pe_xg hz hf (pv 1)) pa_nil))
              (pe_callB (call_repr ⟨gd, sy, un2⟩) rfl T.b_repr (by decide +kernel) (pa_cons (pv 0) pa_nil)) (nomark _)))))))))
      (pss_one (ps_ret pe_bl))), ?_⟩
    refine ⟨_, rfl, v, d, rfl, hd, lim_sz d hs.l, fun z => ?_, fun _ dd H1 x0_1 hdd => ?_⟩
    · rw [hv] at z
      cases z
    refine ⟨true, Te.ee, fun _ a ha => ?_, fun q => Bool.noConfusion q⟩
    have hx : ∀ d', some dd = some d' → ∃ fs, H1 d' = some (.xd fs) := fun d' e => by cases e; exact ⟨_, hdd⟩
    refine ⟨_, rfl, CI, _, _, _, rfl, rfl, Te.xd, hx, .own CP, Te.kP, _, rfl, CI, _, _, _, rfl, rfl, Te.xd, hx, .own CS, Te.kS, szl (by show 2 ≤ 100000; decide), fun p2 np2 => ?_⟩
    obtain ⟨H2, hH2, x1_2, h2⟩ := newH _ np2
    rw [hH2]
    clear hH2
    have x0_2 := x0_1.trans x1_2
    have hx2 : ∀ d', some dd = some d' → ∃ fs, H2 d' = some (.xd fs) := fun d' e => by cases e; exact ⟨_, x1_2 _ _ hdd⟩
    refine ⟨_, rfl, CI, _, _, _, rfl, rfl, Te.xd, hx2, .own CI, Te.kI, _, rfl, if_t rfl ?_⟩
    refine ⟨_, rfl, p2, _, rfl, .inl (SqLo h2), rfl, rfl, _, rfl, if_t rfl ?_⟩
    refine ⟨_, rfl, rfl, CI, dd, _, _, rfl, Te.xd.xf, Te.no, rfl, x1_2 _ _ hdd, rfl, v, d, rfl, hd.ex x0_2, hs.show, hs.size, hs.depth, ?_⟩
    refine ⟨_, rfl, v, d, rfl, hd.ex x0_2, hs.show, hs.size, hs.depth, rfl, ?_⟩
    have q := k H2 x0_2
    rw [decide_eq_true rfl]
    exact q
end
end VL

namespace VL
open PySem PySem.Spec L2 LW
open Evl (Ex)
theorem ex_room {H H1 H' : Hp} {ro : Addr} {o o' : HO} (h : H ro = none) (e1 : upd H ro o = H1) (e : Ex (upd H1 ro o') H') : Ex H H' := fun b x q => by
  have nb : b ≠ ro := fun z => by
    rw [z, h] at q
    cases q
  refine e b x ?_
  rw [upd_ne nb, ← e1, upd_ne nb]
  exact q
theorem isV_t {d : PyData} (h1 : okA d = true) (h2 : cnt d ≤ 60) : isV d = true := by
  unfold isV
  rw [h1, decide_eq_true h2]
  rfl
theorem isV_f {d : PyData} (h1 : okA d = false) : isV d = false := by
  unfold isV
  rw [h1]
  rfl
section
variable {P : Program} {w : World} {K : PySem.W.Frag} {mg : Str → Option Value} {base : Heap} {CC CI CP CS : Addr}
def spLaw (K : PySem.W.Frag) : Sp := fun vs H Q _ => ∃ (a : Addr) (ns : List Int), vs = [.ref a] ∧ SqL K H a (ns.map V.int) ∧ ns.length ≤ 63 ∧ ∀ H', Q (.bl true) H'
theorem sc_law : FnScope ["_law_script", "_law_k", "_law_pool", "_law_whole", "_law_spots", "_law_kept", "_law_bad", "_law_full"] ["_law_script"] (defScope s_law) := ⟨rfl, rfl, rfl, by decide +kernel, rfl, by decide +kernel, by decide +kernel⟩
theorem bi_law : BindsEq "law" s_law ["_law_script"] := fun _ _ _ _ _ _ us hl => match us, hl with | [_], _ => rfl
theorem ok_law {f : Addr} {fd : FuncData} (F : FnP K "law" s_law f fd) (T : Txt K mg) (sy : ∃ mm, base.Ns sysModules mm) (C__law_hand : Cal P w K mg base CX0 1 "_law_hand" (spHand K)) (C__law_draw : Cal P w K mg base CX0 1 "_law_draw" spDraw)
    (C__law_value : Cal P w K mg base CX0 11 "_law_value" (spValue 7)) (C__law_below : Cal P w K mg base CX0 61 "_law_below" (spBelow 60)) (C__law_twin : Cal P w K mg base CX0 61 "_law_twin" (spTwin 60)) (C_is_value : Cal P w K mg base CX0 4 "is_value" spIsVal)
    (C_size : Cal P w K mg base (L2.CX P w) 63 "size" (spSize CI)) (C__law_put : Cal P w K mg base CX0 62 "_law_put" spPut) (C__law_odd : Cal P w K mg base CX0 2 "_law_odd" spOdd) (C__law_many : Cal P w K mg base CX0 2 "_law_many" spMany)
    (C__law_refused : CalG P w K mg base CX0 64 "_law_refused" spRefused) : FnG P w K mg base CX0 65 f fd ["_law_script"] (spLaw K) := by
  refine FnG.of F sc_law (fun vs H Q E h => ?_) (fun cdv A outer s H vs Q E gd hr h => ?_)
  · obtain ⟨a, ns, rfl, _⟩ := h
    rfl
  · obtain ⟨a, ns, rfl, hS, hl, k⟩ := h
    have un := hr.un
    have un2 : (A.deeper (PyProof.Rows.envOfC "law" (defScope s_law) s.heap.objs.size f cdv)).units + 180 < cLine := by omega
    have cm : Calm (cxOf CX0 P w K mg base ["_law_script", "_law_k", "_law_pool", "_law_whole", "_law_spots", "_law_kept", "_law_bad", "_law_full"] "law" (defScope s_law) f cdv A outer s H E).nox := ⟨gd, sy, un2⟩
    refine ⟨_, PSs.nox (pss_cons (ps_for PassesOwn.never rfl (pi_range1 rfl T.b_range (pa_cons (pe_callB (call_max2 rfl) rfl T.b_max (by decide +kernel) (pa_cons pe_int (pa_cons (pe_callB (call_min2 rfl) rfl T.b_min (by decide +kernel) (pa_cons (pe_callB (lnK K) rfl T.b_len (by decide +kernel) (pa_cons (pv 0) pa_nil)) (pa_cons pe_int pa_nil))) pa_nil))) pa_nil)) (pg_name (i := 1) sc_law.nd rfl (Or.inl rfl)) (pss_cons (ps_set (i := 2) sc_law.nd rfl (Or.inl rfl) (pe_k C__law_hand hr (by decide) rfl (pa_cons (pv 0) (pa_cons (pv 1) pa_nil))))
 (pss_cons (ps_set (i := 3) sc_law.nd rfl (Or.inl rfl) (pe_k C__law_value hr (by decide) rfl (pa_cons (pv 2) (pa_cons (pe_lst (pa_cons pe_int pa_nil)) (pa_cons pe_int pa_nil)))))
 (pss_cons (ps_set (i := 4) sc_law.nd rfl (Or.inl rfl) (pe_k C__law_below hr (by decide) rfl (pa_cons (pv 3) (pa_cons (pe_tup pa_nil) pa_nil))))
 (pss_cons (ps_set (i := 5) sc_law.nd rfl (Or.inl rfl) (pe_k C__law_twin hr (by decide) rfl (pa_cons (pv 3) pa_nil)))
 (pss_cons (ps_if (PW.pt (pw_or (pt_cmpR op_isnot_bl (pe_k C_is_value hr (by decide) rfl (pa_cons (pv 3) pa_nil)) pe_bl (nomark _)) (pw_or (pt_cmpR op_ne (pe_kL C_size hr (by decide) rfl (pa_cons (pv 3) pa_nil)) (pe_callB (lnK K) rfl T.b_len (by decide +kernel) (pa_cons (pv 4) pa_nil)) (nomark _)) (pw_or1 (pt_cmpR op_ne (pe_callB (call_repr cm) rfl T.b_repr (by decide +kernel) (pa_cons (pv 3) pa_nil)) (pe_callB (call_repr cm) rfl T.b_repr (by decide +kernel) (pa_cons (pv 5) pa_nil)) (nomark _)))))) (pss_one (ps_ret pe_bl)) pss_nil)
 (pss_cons (ps_set (i := 6) sc_law.nd rfl (Or.inl rfl) (pe_k C__law_put hr (by decide) rfl (pa_cons (pv 3) (pa_cons (pe_ix (ixl K) (pv 4) (pe_k C__law_draw hr (by decide) rfl (pa_cons (pv 2) (pa_cons (pe_callB (lnK K) rfl T.b_len (by decide +kernel) (pa_cons (pv 4) pa_nil)) pa_nil))) (fun _ _ => rfl)) (pa_cons (pe_k C__law_odd hr (by decide) rfl (pa_cons (pv 2) pa_nil)) pa_nil)))))
 (pss_cons (ps_if (PW.pt (pw_or (pt_cmpR op_isnot_bl (pe_k C_is_value hr (by decide) rfl (pa_cons (pv 6) pa_nil)) pe_bl (nomark _)) (pw_or1 (pt_not (pt_val (pe_kG C__law_refused gd hr (by decide) rfl (pa_cons (pv 6) pa_nil))))))) (pss_one (ps_ret pe_bl)) pss_nil)
 (pss_cons (ps_set (i := 7) sc_law.nd rfl (Or.inl rfl) (pe_k C__law_many hr (by decide) rfl (pa_cons (pv 2) (pa_cons pe_int pa_nil))))
 (pss_cons (ps_if (PW.pt (pw_or (pt_cmpR op_isnot_bl (pe_k C_is_value hr (by decide) rfl (pa_cons (pv 7) pa_nil)) pe_bl (nomark _)) (pw_or1 (pt_cmpR op_ne (pe_kL C_size hr (by decide) rfl (pa_cons (pv 7) pa_nil)) (pe_callB (lnK K) rfl T.b_len (by decide +kernel) (pa_cons (pe_k C__law_below hr (by decide) rfl (pa_cons (pv 7) (pa_cons (pe_tup pa_nil) pa_nil))) pa_nil)) (nomark _))))) (pss_one (ps_ret pe_bl)) pss_nil)
 (pss_one (ps_if (PW.pt (pw_or (pt_cmpR op_isnot_bl (pe_k C_is_value hr (by decide) rfl (pa_cons (pe_k C__law_many hr (by decide) rfl (pa_cons (pv 2) (pa_cons pe_int pa_nil))) pa_nil)) pe_bl (nomark _)) (pw_or1 (pt_not (pt_val (pe_kG C__law_refused gd hr (by decide) rfl (pa_cons (pe_k C__law_many hr (by decide) rfl (pa_cons (pv 2) (pa_cons pe_int pa_nil))) pa_nil))))))) (pss_one (ps_ret pe_bl)) pss_nil))))))))))))
 (pss_one (ps_ret (pe_and (pe_cmpR op_is_bl (pe_k C_is_value hr (by decide) rfl (pa_cons pe_int pa_nil)) pe_bl (nomark _)) (pe_and (pe_cmpR op_is_bl (pe_k C_is_value hr (by decide) rfl (pa_cons pe_str pa_nil)) pe_bl (nomark _)) (pe_and (pe_cmpR op_is_bl (pe_k C_is_value hr (by decide) rfl (pa_cons (pe_lst pa_nil) pa_nil)) pe_bl (nomark _)) (pe_one (pe_cmpR op_is_bl (pe_k C_is_value hr (by decide) rfl (pa_cons pe_dnewK pa_nil)) pe_bl (nomark _))))))))), ?_⟩
    have hlen : (ns.map V.int).length ≤ 63 := by rw [List.length_map]; exact hl
    generalize hn : (ns.map V.int).length = n0 at hlen
    refine ⟨_, rfl, _, n0, rfl, .inl ⟨_, hS, hn.symm⟩, _, _, rfl, _, _, rfl, _, rfl, by split <;> split <;> omega, by split <;> split <;> omega, ?_⟩
    refine for_range (lo := 0) (fun i σ' H' => ∃ v1 v2 v3 v4 v5 v6 v7 : Option V, σ' = [some (.ref a), v1, v2, v3, v4, v5, v6, v7] ∧ Ex H H') ?_ ?_ ?_
    · exact ⟨none, none, none, none, none, none, none, rfl, Ex.refl _⟩
    · rintro i σ' H0 hi ⟨v1, v2, v3, v4, v5, v6, v7, rfl, e0⟩
      have hi63 : i < 63 := by
        have : (if (if (6 : Int) < (n0 : Int) then (6 : Int) else (n0 : Int)) > 1 then (if (6 : Int) < (n0 : Int) then (6 : Int) else (n0 : Int)) else 1).toNat ≤ 63 := by split <;> split <;> omega
        exact Nat.lt_of_lt_of_le hi this
      -- _law_pool
      refine ⟨_, rfl, _, rfl, a, ns, _, rfl, Evl.ex_l e0 hS, hl, by omega, by omega, fun p H1 np x0_1 hp => ?_⟩
      -- _law_whole
      refine ⟨_, rfl, szl (by show 1 ≤ 100000; decide), fun ro nro => ?_⟩
      obtain ⟨Hr, hHr, x1_r, hro⟩ := newH _ nro
      rw [hHr]
      refine ⟨p, ro, 59, 6, rfl, by decide, hp.ex x1_r, hro, by decide, fun v d r' H2 x2 hdt ho hc => ?_⟩
      have x1_2 : Ex H1 H2 := ex_room nro hHr x2
      have hd2 := hdt.ex fr_sub
      have hc60 : cnt d ≤ 60 := by omega
      clear hdt x2 hro x1_r hHr
      have hsm := ok_sm ho hc60
      have hsz := lim_sz d hsm.l
      have hvt := isV_t ho hc60
      have hp2 := hp.ex x1_2
      -- _law_spots
      refine ⟨_, rfl, szl (by show 0 ≤ 100000; decide), fun t nt => ?_⟩
      obtain ⟨H3, hH3, x2_3, ht⟩ := newH _ nt
      rw [hH3]
      clear hH3
      refine ⟨v, d, t, [], rfl, .inl ht, hd2.ex x2_3, ho, hc60, by show 0 + cnt d ≤ 200; omega, fun q H4 ts x3_4 hq htl hts => ?_⟩
      have x2_4 := x2_3.trans x3_4
      -- _law_kept
      refine ⟨_, rfl, v, d, rfl, hd2.ex x2_4, ho, hc60, fun kp H5 x4_5 htr => ?_⟩
      have x2_5 := x2_4.trans x4_5
      have hkp := (Tr.dt htr).ex fr_sub
      refine ⟨_, rfl, v, d, rfl, hd2.ex x2_5, hsz, fun H6 x5_6 => ⟨_, _, rfl, rfl, _, rfl, if_f (by rw [hvt]; rfl) ?_⟩⟩
      have x2_6 := x2_5.trans x5_6
      refine ⟨_, rfl, v, d, rfl, hd2.ex x2_6, hsz, fun _ H7 x6_7 => ?_, fun z => ?_⟩
      rotate_left
      · rw [hvt] at z
        cases z
      have x2_7 := x2_6.trans x6_7
      have x4_7 := x4_5.trans (x5_6.trans x6_7)
      refine ⟨_, rfl, .ref q, ts.length, rfl, .inl ⟨ts, SqLo (x4_7 _ _ hq), rfl⟩, rfl, _, rfl, if_f (by rw [htl, decide_eq_true rfl]; rfl) ?_⟩
      refine ⟨_, rfl, v, d, rfl, hd2.ex x2_7, hsm.show, hsm.size, hsm.depth, _, rfl, kp, d, rfl, hkp.ex (x5_6.trans x6_7), hsm.show, hsm.size, hsm.depth, rfl, _, rfl, if_f (by rw [decide_eq_true rfl]; rfl) ?_⟩
      -- _law_bad
      have hpos := cnt_pos d
      refine ⟨_, rfl, _, rfl, _, rfl, _, rfl, .ref q, ts.length, rfl, .inl ⟨ts, SqLo (x4_7 _ _ hq), rfl⟩, p, _, rfl, hp2.ex x2_7, by omega, by omega, fun y y0 y1 => ?_⟩
      obtain ⟨z, hz1, hz2, _⟩ := at_some (xs := ts) (v := y) y0 y1
      obtain ⟨b, pa, c, rfl, hb, hat⟩ := hts z hz2
      refine ⟨q, ts, _, _, rfl, rfl, SqLo (x4_7 _ _ hq), hz1, _, rfl, p, rfl, hp2.ex x2_7, fun th H8 x7_8 hodd => ?_⟩
      have x2_8 := x2_7.trans x7_8
      refine ⟨v, d, b, pa, c, th, rfl, hd2.ex x2_8, ho, hc60, rd_ex (x4_7.trans x7_8) hb, hat, hodd, fun bv bd H9 x8_9 hbd hbo hbs => ?_⟩
      have hbv := isV_f hbo
      have hp9 := hp2.ex (x2_8.trans x8_9)
      refine ⟨_, rfl, bv, bd, rfl, hbd, lim_sz bd hbs.l, fun H10 x9_10 => ⟨_, _, rfl, rfl, _, rfl, if_f (by rw [hbv]; rfl) ?_⟩⟩
      refine ⟨_, rfl, bv, bd, rfl, hbd.ex x9_10, hbs, hbv, fun H11 x10_11 => ⟨_, rfl, ?_⟩⟩
      have x9_11 := x9_10.trans x10_11
      have hp11 := hp9.ex x9_11
      -- _law_full
      refine ⟨_, rfl, p, 0, rfl, by decide, hp11, fun fv fd' H12 x11_12 hfd hfs hf0 _ => ?_⟩
      obtain ⟨hfo, hfc⟩ := hf0 rfl
      have hfv := isV_t hfo hfc
      have hfz := lim_sz _ hfs.l
      refine ⟨_, rfl, fv, fd', rfl, hfd, hfz, fun H13 x12_13 => ⟨_, _, rfl, rfl, _, rfl, if_f (by rw [hfv]; rfl) ?_⟩⟩
      refine ⟨_, rfl, fv, fd', rfl, hfd.ex x12_13, hfz, fun _ H14 x13_14 => ?_, fun z => ?_⟩
      rotate_left
      · rw [hfv] at z
        cases z
      have x12_14 := x12_13.trans x13_14
      refine ⟨_, rfl, szl (by show 0 ≤ 100000; decide), fun t2 nt2 => ?_⟩
      obtain ⟨H15, hH15, x14_15, ht2⟩ := newH _ nt2
      rw [hH15]
      clear hH15
      refine ⟨fv, fd', t2, [], rfl, .inl ht2, hfd.ex (x12_14.trans x14_15), hfo, hfc, by show 0 + cnt fd' ≤ 200; omega, fun q2 H16 ts2 x15_16 hq2 htl2 _ => ?_⟩
      refine ⟨.ref q2, ts2.length, rfl, .inl ⟨ts2, SqLo hq2, rfl⟩, rfl, _, rfl, if_f (by rw [htl2, decide_eq_true rfl]; rfl) ?_⟩
      have x11_16 := x11_12.trans (x12_14.trans (x14_15.trans x15_16))
      have hp16 := hp11.ex x11_16
      -- too many
      refine ⟨_, rfl, p, 1, rfl, by decide, hp16, fun mv md H17 x16_17 hmd hms _ hm1 => ?_⟩
      have hmv := hm1 rfl
      refine ⟨mv, md, rfl, hmd, lim_sz md hms.l, fun H18 x17_18 => ⟨_, _, rfl, rfl, _, rfl, if_f (by rw [hmv]; rfl) ?_⟩⟩
      refine ⟨_, rfl, p, 1, rfl, by decide, hp16.ex (x16_17.trans x17_18), fun mv md H19 x18_19 hmd hms _ hm1 => ?_⟩
      refine ⟨mv, md, rfl, hmd, hms, hm1 rfl, fun H20 x19_20 => ⟨_, rfl, ?_⟩⟩
      exact ⟨_, _, _, _, _, _, _, rfl, e0.trans (x0_1.trans (x1_2.trans (x2_8.trans (x8_9.trans (x9_11.trans (x11_16.trans ((x16_17.trans x17_18).trans (x18_19.trans x19_20))))))))⟩
    · rintro σ' H1 ⟨v1, v2, v3, v4, v5, v6, v7, rfl, e0⟩
      have i0 : isV (.int 0) = true := by decide +kernel
      have i1 : isV (.str "") = true := by decide +kernel
      have i2 : isV (.list []) = true := by decide +kernel
      have i3 : isV (.dict []) = true := by decide +kernel
      refine ⟨.int 0, .int 0, rfl, dt_int 0, by unfold szA; trivial, fun H2 x1_2 => ⟨_, _, rfl, rfl, _, rfl, if_t (by rw [i0]; rfl) ?_⟩⟩
      refine ⟨.str "", .str "", rfl, dt_str "", by unfold szA; decide, fun H3 x2_3 => ⟨_, _, rfl, rfl, _, rfl, if_t (by rw [i1]; rfl) ?_⟩⟩
      refine ⟨szl (by show 0 ≤ 100000; decide), fun p4 np4 => ?_⟩
      refine ⟨.ref p4, .list [], rfl, dt_lst upd_same DtL.nil, by unfold szA szL; trivial, fun H4 x3_4 => ⟨_, _, rfl, rfl, _, rfl, if_t (by rw [i2]; rfl) ?_⟩⟩
      intro p5 np5
      refine ⟨.ref p5, .dict [], rfl, dt_dk (es := []) upd_same List.nodup_nil (by unfold DtK; rfl), by unfold szA szK; trivial, fun H5 x4_5 => ⟨_, _, rfl, rfl, ?_⟩⟩
      rw [i3]
      exact k H5
end
end VL

namespace VL
open PySem PySem.Spec L2 LW
/-! ### the head: facts by names, the run -/
def d_is_integer : He.DefD := ⟨("is_integer", none), "is_integer", "is_integer", defArgs s_is_integer, defBody s_is_integer, defScope s_is_integer, [], []⟩
def d_is_letters : He.DefD := ⟨("is_letters", none), "is_letters", "is_letters", defArgs s_is_letters, defBody s_is_letters, defScope s_is_letters, [], []⟩
def d_is_field : He.DefD := ⟨("is_field", none), "is_field", "is_field", defArgs s_is_field, defBody s_is_field, defScope s_is_field, [], []⟩
def d_is_leaf : He.DefD := ⟨("is_leaf", none), "is_leaf", "is_leaf", defArgs s_is_leaf, defBody s_is_leaf, defScope s_is_leaf, [], []⟩
def d_is_part : He.DefD := ⟨("is_part", none), "is_part", "is_part", defArgs s_is_part, defBody s_is_part, defScope s_is_part, [], []⟩
def d_children : He.DefD := ⟨("children", none), "children", "children", defArgs s_children, defBody s_children, defScope s_children, [], []⟩
def d_is_value : He.DefD := ⟨("is_value", none), "is_value", "is_value", defArgs s_is_value, defBody s_is_value, defScope s_is_value, [], []⟩
def d_check_value : He.DefD := ⟨("check_value", none), "check_value", "check_value", defArgs s_check_value, defBody s_check_value, defScope s_check_value, [], []⟩
def d_count : He.DefD := ⟨("count", none), "count", "count", defArgs s_count, defBody s_count, defScope s_count, [], []⟩
def d_size : He.DefD := ⟨("size", none), "size", "size", defArgs s_size, defBody s_size, defScope s_size, [], []⟩
def d__law_hand : He.DefD := ⟨("_law_hand", none), "_law_hand", "_law_hand", defArgs s__law_hand, defBody s__law_hand, defScope s__law_hand, [], []⟩
def d__law_draw : He.DefD := ⟨("_law_draw", none), "_law_draw", "_law_draw", defArgs s__law_draw, defBody s__law_draw, defScope s__law_draw, [], []⟩
def d__law_word : He.DefD := ⟨("_law_word", none), "_law_word", "_law_word", defArgs s__law_word, defBody s__law_word, defScope s__law_word, [], []⟩
def d__law_leaf : He.DefD := ⟨("_law_leaf", none), "_law_leaf", "_law_leaf", defArgs s__law_leaf, defBody s__law_leaf, defScope s__law_leaf, [], []⟩
def d__law_value : He.DefD := ⟨("_law_value", none), "_law_value", "_law_value", defArgs s__law_value, defBody s__law_value, defScope s__law_value, [], []⟩
def d__law_below : He.DefD := ⟨("_law_below", none), "_law_below", "_law_below", defArgs s__law_below, defBody s__law_below, defScope s__law_below, [], []⟩
def d__law_part : He.DefD := ⟨("_law_part", none), "_law_part", "_law_part", defArgs s__law_part, defBody s__law_part, defScope s__law_part, [], []⟩
def d__law_twin : He.DefD := ⟨("_law_twin", none), "_law_twin", "_law_twin", defArgs s__law_twin, defBody s__law_twin, defScope s__law_twin, [], []⟩
def d__law_odd : He.DefD := ⟨("_law_odd", none), "_law_odd", "_law_odd", defArgs s__law_odd, defBody s__law_odd, defScope s__law_odd, [], []⟩
def d__law_put : He.DefD := ⟨("_law_put", none), "_law_put", "_law_put", defArgs s__law_put, defBody s__law_put, defScope s__law_put, [], []⟩
def d__law_many : He.DefD := ⟨("_law_many", none), "_law_many", "_law_many", defArgs s__law_many, defBody s__law_many, defScope s__law_many, [], []⟩
def d__law_refused : He.DefD := ⟨("_law_refused", none), "_law_refused", "_law_refused", defArgs s__law_refused, defBody s__law_refused, defScope s__law_refused, [], []⟩
def d_law : He.DefD := ⟨("law", none), "law", "law", defArgs s_law, defBody s_law, defScope s_law, [], []⟩
def d_InvalidValue___init__ : He.DefD := ⟨("InvalidValue", some "__init__"), "__init__", "InvalidValue.__init__", defArgs s_InvalidValue___init__, defBody s_InvalidValue___init__, defScope s_InvalidValue___init__, [], []⟩
def fn : List He.DefD := [d_is_integer, d_is_letters, d_is_field, d_is_leaf, d_is_part, d_children, d_is_value, d_check_value, d_count, d_size, d__law_hand, d__law_draw, d__law_word, d__law_leaf, d__law_value, d__law_below, d__law_part, d__law_twin, d__law_odd, d__law_put, d__law_many, d__law_refused, d_law, d_InvalidValue___init__]
def fa0 : List He.Fa := [.glo "is_integer", .glo "is_letters", .glo "is_field", .glo "is_leaf", .glo "is_part", .glo "children", .glo "is_value", .glo "check_value", .glo "count", .glo "size", .glo "_law_hand", .glo "_law_draw", .glo "_law_word", .glo "_law_leaf", .glo "_law_value", .glo "_law_below", .glo "_law_part", .glo "_law_twin", .glo "_law_odd", .glo "_law_put"]
def fa1 : List He.Fa := [.glo "_law_many", .glo "_law_refused", .glo "law", .glo "CheckError", .glo "InvalidValue", .glo "InvalidPlace", .glo "InvalidSeen", .free "len", .free "range", .free "isinstance", .free "int", .free "str", .free "bool", .free "list", .free "dict", .free "tuple", .free "all", .free "enumerate", .free "max", .free "min"]
def fa2 : List He.Fa := [.free "sum", .free "sorted", .free "repr", .int "GREATEST" 1000000000000000000000000000000, .int "LONGEST_TEXT" 20, .int "LONGEST_NAME" 8, .int "MOST_FIELDS" 8, .int "MOST_PLACES" 60, .str "LETTERS" "abcdefghijklmnopqrstuvwxyz", .exm "InvalidValue" "CheckError" true, .noat "InvalidValue" "value"]
def fa : List He.Fa := fa0 ++ fa1 ++ fa2
def ex (K : PySem.W.Frag) : Bool := oexB K (He.ga K "InvalidValue") && (excB K (He.ga K "InvalidValue") && (He.eqO (PySem.W.findIn K (.ref (He.ga K "InvalidValue")) "__init__") (some (some (.ref (He.ma K (He.ga K "InvalidValue") "__init__")))) && (decide (PySem.W.typeIn K (.ref (He.ma K (He.ga K "InvalidValue") "__init__")) = some (.type "function")) && (decide (PySem.W.kitOne K (.ref (He.ga K "InvalidValue")) (.ref (He.ga K "InvalidValue")) = some true) && (decide (PySem.W.kitOne K (.ref (He.ga K "InvalidValue")) (.ref (He.ga K "InvalidPlace")) = some false) && decide (PySem.W.kitOne K (.ref (He.ga K "InvalidValue")) (.ref (He.ga K "InvalidSeen")) = some false))))))
def loose0 : List Str := ["CheckError", "InvalidValue", "InvalidPlace", "InvalidSeen", "LETTERS", "GREATEST", "LONGEST_TEXT", "LONGEST_NAME", "MOST_FIELDS", "MOST_PLACES", "is_integer", "is_letters", "is_field", "is_leaf", "is_part", "children", "is_value", "check_value", "count", "size"]
def loose1 : List Str := ["_law_hand", "_law_draw", "_law_word", "_law_leaf", "_law_value", "_law_below", "_law_part", "_law_top", "_law_twin", "_law_odd", "_law_put", "_law_many", "_law_refused"]
def loose : List Str := loose0 ++ loose1
abbrev R : PySem.W.OpenRow := PySem.W.OpenLaw.row PySem.Challenge.rw_latechecks_k01_values
abbrev hk : PySem.W.Hook := LW.hookM 5 fa fn ex
def ob (s : PySem.W.SharedT) : LW.AlM := LW.obsM 5 fa fn ex (HandSHeadRun.getT s)
theorem ob_eq (s : PySem.W.SharedT) : ob s = hk.obs s.abs := LW.obsM_eq (HandSHeadRun.getT_eq s)
theorem run (w : World) : HandSHeadRun.RunEq R (PySem.W.view R.prog [36]) hk ob 6000 loose w := by
  intro os
  kernel_rfl
section
variable {P : Program} {w : World} {K : PySem.W.Frag} {mg : Str → Option Value} {h : Heap}
theorem hg_is_integer (c : SaysM fa fn ex K) : (He.Fa.glo "is_integer").ok K = true := c.d.fact 0 (f := .glo "is_integer") rfl
theorem hg_is_letters (c : SaysM fa fn ex K) : (He.Fa.glo "is_letters").ok K = true := c.d.fact 1 (f := .glo "is_letters") rfl
theorem hg_is_field (c : SaysM fa fn ex K) : (He.Fa.glo "is_field").ok K = true := c.d.fact 2 (f := .glo "is_field") rfl
theorem hg_is_leaf (c : SaysM fa fn ex K) : (He.Fa.glo "is_leaf").ok K = true := c.d.fact 3 (f := .glo "is_leaf") rfl
theorem hg_is_part (c : SaysM fa fn ex K) : (He.Fa.glo "is_part").ok K = true := c.d.fact 4 (f := .glo "is_part") rfl
theorem hg_children (c : SaysM fa fn ex K) : (He.Fa.glo "children").ok K = true := c.d.fact 5 (f := .glo "children") rfl
theorem hg_is_value (c : SaysM fa fn ex K) : (He.Fa.glo "is_value").ok K = true := c.d.fact 6 (f := .glo "is_value") rfl
theorem hg_check_value (c : SaysM fa fn ex K) : (He.Fa.glo "check_value").ok K = true := c.d.fact 7 (f := .glo "check_value") rfl
theorem hg_count (c : SaysM fa fn ex K) : (He.Fa.glo "count").ok K = true := c.d.fact 8 (f := .glo "count") rfl
theorem hg_size (c : SaysM fa fn ex K) : (He.Fa.glo "size").ok K = true := c.d.fact 9 (f := .glo "size") rfl
theorem hg__law_hand (c : SaysM fa fn ex K) : (He.Fa.glo "_law_hand").ok K = true := c.d.fact 10 (f := .glo "_law_hand") rfl
theorem hg__law_draw (c : SaysM fa fn ex K) : (He.Fa.glo "_law_draw").ok K = true := c.d.fact 11 (f := .glo "_law_draw") rfl
theorem hg__law_word (c : SaysM fa fn ex K) : (He.Fa.glo "_law_word").ok K = true := c.d.fact 12 (f := .glo "_law_word") rfl
theorem hg__law_leaf (c : SaysM fa fn ex K) : (He.Fa.glo "_law_leaf").ok K = true := c.d.fact 13 (f := .glo "_law_leaf") rfl
theorem hg__law_value (c : SaysM fa fn ex K) : (He.Fa.glo "_law_value").ok K = true := c.d.fact 14 (f := .glo "_law_value") rfl
theorem hg__law_below (c : SaysM fa fn ex K) : (He.Fa.glo "_law_below").ok K = true := c.d.fact 15 (f := .glo "_law_below") rfl
theorem hg__law_part (c : SaysM fa fn ex K) : (He.Fa.glo "_law_part").ok K = true := c.d.fact 16 (f := .glo "_law_part") rfl
theorem hg__law_twin (c : SaysM fa fn ex K) : (He.Fa.glo "_law_twin").ok K = true := c.d.fact 17 (f := .glo "_law_twin") rfl
theorem hg__law_odd (c : SaysM fa fn ex K) : (He.Fa.glo "_law_odd").ok K = true := c.d.fact 18 (f := .glo "_law_odd") rfl
theorem hg__law_put (c : SaysM fa fn ex K) : (He.Fa.glo "_law_put").ok K = true := c.d.fact 19 (f := .glo "_law_put") rfl
theorem hg__law_many (c : SaysM fa fn ex K) : (He.Fa.glo "_law_many").ok K = true := c.d.fact 20 (f := .glo "_law_many") rfl
theorem hg__law_refused (c : SaysM fa fn ex K) : (He.Fa.glo "_law_refused").ok K = true := c.d.fact 21 (f := .glo "_law_refused") rfl
theorem hg_law (c : SaysM fa fn ex K) : (He.Fa.glo "law").ok K = true := c.d.fact 22 (f := .glo "law") rfl
theorem hg_CheckError (c : SaysM fa fn ex K) : (He.Fa.glo "CheckError").ok K = true := c.d.fact 23 (f := .glo "CheckError") rfl
theorem hg_InvalidValue (c : SaysM fa fn ex K) : (He.Fa.glo "InvalidValue").ok K = true := c.d.fact 24 (f := .glo "InvalidValue") rfl
theorem hg_InvalidPlace (c : SaysM fa fn ex K) : (He.Fa.glo "InvalidPlace").ok K = true := c.d.fact 25 (f := .glo "InvalidPlace") rfl
theorem hg_InvalidSeen (c : SaysM fa fn ex K) : (He.Fa.glo "InvalidSeen").ok K = true := c.d.fact 26 (f := .glo "InvalidSeen") rfl
theorem hf_len (c : SaysM fa fn ex K) : (He.Fa.free "len").ok K = true := c.d.fact 27 (f := .free "len") rfl
theorem hf_range (c : SaysM fa fn ex K) : (He.Fa.free "range").ok K = true := c.d.fact 28 (f := .free "range") rfl
theorem hf_isinstance (c : SaysM fa fn ex K) : (He.Fa.free "isinstance").ok K = true := c.d.fact 29 (f := .free "isinstance") rfl
theorem hf_int (c : SaysM fa fn ex K) : (He.Fa.free "int").ok K = true := c.d.fact 30 (f := .free "int") rfl
theorem hf_str (c : SaysM fa fn ex K) : (He.Fa.free "str").ok K = true := c.d.fact 31 (f := .free "str") rfl
theorem hf_bool (c : SaysM fa fn ex K) : (He.Fa.free "bool").ok K = true := c.d.fact 32 (f := .free "bool") rfl
theorem hf_list (c : SaysM fa fn ex K) : (He.Fa.free "list").ok K = true := c.d.fact 33 (f := .free "list") rfl
theorem hf_dict (c : SaysM fa fn ex K) : (He.Fa.free "dict").ok K = true := c.d.fact 34 (f := .free "dict") rfl
theorem hf_tuple (c : SaysM fa fn ex K) : (He.Fa.free "tuple").ok K = true := c.d.fact 35 (f := .free "tuple") rfl
theorem hf_all (c : SaysM fa fn ex K) : (He.Fa.free "all").ok K = true := c.d.fact 36 (f := .free "all") rfl
theorem hf_enumerate (c : SaysM fa fn ex K) : (He.Fa.free "enumerate").ok K = true := c.d.fact 37 (f := .free "enumerate") rfl
theorem hf_max (c : SaysM fa fn ex K) : (He.Fa.free "max").ok K = true := c.d.fact 38 (f := .free "max") rfl
theorem hf_min (c : SaysM fa fn ex K) : (He.Fa.free "min").ok K = true := c.d.fact 39 (f := .free "min") rfl
theorem hf_sum (c : SaysM fa fn ex K) : (He.Fa.free "sum").ok K = true := c.d.fact 40 (f := .free "sum") rfl
theorem hf_sorted (c : SaysM fa fn ex K) : (He.Fa.free "sorted").ok K = true := c.d.fact 41 (f := .free "sorted") rfl
theorem hf_repr (c : SaysM fa fn ex K) : (He.Fa.free "repr").ok K = true := c.d.fact 42 (f := .free "repr") rfl
theorem hi_GREATEST (c : SaysM fa fn ex K) : (He.Fa.int "GREATEST" 1000000000000000000000000000000).ok K = true := c.d.fact 43 (f := .int "GREATEST" 1000000000000000000000000000000) rfl
theorem hi_LONGEST_TEXT (c : SaysM fa fn ex K) : (He.Fa.int "LONGEST_TEXT" 20).ok K = true := c.d.fact 44 (f := .int "LONGEST_TEXT" 20) rfl
theorem hi_LONGEST_NAME (c : SaysM fa fn ex K) : (He.Fa.int "LONGEST_NAME" 8).ok K = true := c.d.fact 45 (f := .int "LONGEST_NAME" 8) rfl
theorem hi_MOST_FIELDS (c : SaysM fa fn ex K) : (He.Fa.int "MOST_FIELDS" 8).ok K = true := c.d.fact 46 (f := .int "MOST_FIELDS" 8) rfl
theorem hi_MOST_PLACES (c : SaysM fa fn ex K) : (He.Fa.int "MOST_PLACES" 60).ok K = true := c.d.fact 47 (f := .int "MOST_PLACES" 60) rfl
theorem hs_LETTERS (c : SaysM fa fn ex K) : (He.Fa.str "LETTERS" "abcdefghijklmnopqrstuvwxyz").ok K = true := c.d.fact 48 (f := .str "LETTERS" "abcdefghijklmnopqrstuvwxyz") rfl
theorem hm_0 (c : SaysM fa fn ex K) : (He.Fa.exm "InvalidValue" "CheckError" true).ok K = true := c.d.fact 49 (f := .exm "InvalidValue" "CheckError" true) rfl
theorem hm_1 (c : SaysM fa fn ex K) : (He.Fa.noat "InvalidValue" "value").ok K = true := c.d.fact 50 (f := .noat "InvalidValue" "value") rfl
theorem df_of (X : K.In h) (G : h.Ns mainGlobals mg) (c : SaysM fa fn ex K) {x : Str} {st : Stmt} (i : Nat) {d : He.DefD} (hd : fn[i]? = some d) (e : d = ⟨(x, none), x, x, defArgs st, defBody st, defScope st, [], []⟩) (hg : (He.Fa.glo x).ok K = true) : Df K mg x st := by
  obtain ⟨fd, F⟩ := c.d.def_ i hd
  subst e
  exact ⟨_, fd, F, He.glo_ok X G hg⟩
theorem D_is_integer (X : K.In h) (G : h.Ns mainGlobals mg) (c : SaysM fa fn ex K) : Df K mg "is_integer" s_is_integer := df_of X G c 0 (d := d_is_integer) rfl rfl (hg_is_integer c)
theorem D_is_letters (X : K.In h) (G : h.Ns mainGlobals mg) (c : SaysM fa fn ex K) : Df K mg "is_letters" s_is_letters := df_of X G c 1 (d := d_is_letters) rfl rfl (hg_is_letters c)
theorem D_is_field (X : K.In h) (G : h.Ns mainGlobals mg) (c : SaysM fa fn ex K) : Df K mg "is_field" s_is_field := df_of X G c 2 (d := d_is_field) rfl rfl (hg_is_field c)
theorem D_is_leaf (X : K.In h) (G : h.Ns mainGlobals mg) (c : SaysM fa fn ex K) : Df K mg "is_leaf" s_is_leaf := df_of X G c 3 (d := d_is_leaf) rfl rfl (hg_is_leaf c)
theorem D_is_part (X : K.In h) (G : h.Ns mainGlobals mg) (c : SaysM fa fn ex K) : Df K mg "is_part" s_is_part := df_of X G c 4 (d := d_is_part) rfl rfl (hg_is_part c)
theorem D_children (X : K.In h) (G : h.Ns mainGlobals mg) (c : SaysM fa fn ex K) : Df K mg "children" s_children := df_of X G c 5 (d := d_children) rfl rfl (hg_children c)
theorem D_is_value (X : K.In h) (G : h.Ns mainGlobals mg) (c : SaysM fa fn ex K) : Df K mg "is_value" s_is_value := df_of X G c 6 (d := d_is_value) rfl rfl (hg_is_value c)
theorem D_check_value (X : K.In h) (G : h.Ns mainGlobals mg) (c : SaysM fa fn ex K) : Df K mg "check_value" s_check_value := df_of X G c 7 (d := d_check_value) rfl rfl (hg_check_value c)
theorem D_count (X : K.In h) (G : h.Ns mainGlobals mg) (c : SaysM fa fn ex K) : Df K mg "count" s_count := df_of X G c 8 (d := d_count) rfl rfl (hg_count c)
theorem D_size (X : K.In h) (G : h.Ns mainGlobals mg) (c : SaysM fa fn ex K) : Df K mg "size" s_size := df_of X G c 9 (d := d_size) rfl rfl (hg_size c)
theorem D__law_hand (X : K.In h) (G : h.Ns mainGlobals mg) (c : SaysM fa fn ex K) : Df K mg "_law_hand" s__law_hand := df_of X G c 10 (d := d__law_hand) rfl rfl (hg__law_hand c)
theorem D__law_draw (X : K.In h) (G : h.Ns mainGlobals mg) (c : SaysM fa fn ex K) : Df K mg "_law_draw" s__law_draw := df_of X G c 11 (d := d__law_draw) rfl rfl (hg__law_draw c)
theorem D__law_word (X : K.In h) (G : h.Ns mainGlobals mg) (c : SaysM fa fn ex K) : Df K mg "_law_word" s__law_word := df_of X G c 12 (d := d__law_word) rfl rfl (hg__law_word c)
theorem D__law_leaf (X : K.In h) (G : h.Ns mainGlobals mg) (c : SaysM fa fn ex K) : Df K mg "_law_leaf" s__law_leaf := df_of X G c 13 (d := d__law_leaf) rfl rfl (hg__law_leaf c)
theorem D__law_value (X : K.In h) (G : h.Ns mainGlobals mg) (c : SaysM fa fn ex K) : Df K mg "_law_value" s__law_value := df_of X G c 14 (d := d__law_value) rfl rfl (hg__law_value c)
theorem D__law_below (X : K.In h) (G : h.Ns mainGlobals mg) (c : SaysM fa fn ex K) : Df K mg "_law_below" s__law_below := df_of X G c 15 (d := d__law_below) rfl rfl (hg__law_below c)
theorem D__law_part (X : K.In h) (G : h.Ns mainGlobals mg) (c : SaysM fa fn ex K) : Df K mg "_law_part" s__law_part := df_of X G c 16 (d := d__law_part) rfl rfl (hg__law_part c)
theorem D__law_twin (X : K.In h) (G : h.Ns mainGlobals mg) (c : SaysM fa fn ex K) : Df K mg "_law_twin" s__law_twin := df_of X G c 17 (d := d__law_twin) rfl rfl (hg__law_twin c)
theorem D__law_odd (X : K.In h) (G : h.Ns mainGlobals mg) (c : SaysM fa fn ex K) : Df K mg "_law_odd" s__law_odd := df_of X G c 18 (d := d__law_odd) rfl rfl (hg__law_odd c)
theorem D__law_put (X : K.In h) (G : h.Ns mainGlobals mg) (c : SaysM fa fn ex K) : Df K mg "_law_put" s__law_put := df_of X G c 19 (d := d__law_put) rfl rfl (hg__law_put c)
theorem D__law_many (X : K.In h) (G : h.Ns mainGlobals mg) (c : SaysM fa fn ex K) : Df K mg "_law_many" s__law_many := df_of X G c 20 (d := d__law_many) rfl rfl (hg__law_many c)
theorem D__law_refused (X : K.In h) (G : h.Ns mainGlobals mg) (c : SaysM fa fn ex K) : Df K mg "_law_refused" s__law_refused := df_of X G c 21 (d := d__law_refused) rfl rfl (hg__law_refused c)
theorem D_law (X : K.In h) (G : h.Ns mainGlobals mg) (c : SaysM fa fn ex K) : Df K mg "law" s_law := df_of X G c 22 (d := d_law) rfl rfl (hg_law c)
theorem facts {f : Addr} (X : K.In h) (G : h.Ns mainGlobals mg) (hfa : mg ("law" : Str) = some (.ref f)) (c : SaysM fa fn ex K) :
    ∃ fd : FuncData, (∀ (s : Shared) (v : Value), BindsTo s fd ⟨[v], []⟩ [("_law_script", v)]) ∧ ∀ base : Heap, K.In base → base.Ns mainGlobals mg → (∃ mm, base.Ns sysModules mm) → FnG P w K mg base CX0 65 f fd ["_law_script"] (spLaw K) := by
  have gi : ∀ {x : Str} {i : Int}, (He.Fa.int x i).ok K = true → ∃ u, mg x = some u ∧ RelV (.int i) u := fun c => by
    obtain ⟨t, e⟩ := He.int_ok X G c
    exact ⟨_, e, t, rfl⟩
  have gs : ∀ {x z : Str}, (He.Fa.str x z).ok K = true → ∃ u, mg x = some u ∧ RelV (.str z) u := fun c => by
    obtain ⟨t, e⟩ := He.str_ok X G c
    exact ⟨_, e, t, rfl⟩
  have T : Txt K mg := ⟨He.free_ok X G (hf_len c), He.free_ok X G (hf_range c), He.free_ok X G (hf_isinstance c), He.free_ok X G (hf_int c), He.free_ok X G (hf_str c), He.free_ok X G (hf_bool c), He.free_ok X G (hf_list c), He.free_ok X G (hf_dict c), He.free_ok X G (hf_tuple c), He.free_ok X G (hf_all c), He.free_ok X G (hf_enumerate c), He.free_ok X G (hf_max c), He.free_ok X G (hf_min c), He.free_ok X G (hf_sum c), He.free_ok X G (hf_sorted c), He.free_ok X G (hf_repr c),
    gs (hs_LETTERS c), gi (hi_GREATEST c), gi (hi_LONGEST_TEXT c), gi (hi_LONGEST_NAME c), gi (hi_MOST_FIELDS c), gi (hi_MOST_PLACES c)⟩
  obtain ⟨m1, m⟩ := He.ba c.more
  obtain ⟨m2, m⟩ := He.ba m
  obtain ⟨m3, m⟩ := He.ba m
  obtain ⟨m4, m⟩ := He.ba m
  obtain ⟨m5, m⟩ := He.ba m
  obtain ⟨m6, m7⟩ := He.ba m
  have no : PySem.W.findIn K (.ref (He.ga K "InvalidValue")) "value" = some none := He.noat_ok (hm_1 c)
  have Te : TxE K mg (He.ga K "CheckError") (He.ga K "InvalidValue") (He.ga K "InvalidPlace") (He.ga K "InvalidSeen") := ⟨He.glo_ok X G (hg_CheckError c), He.glo_ok X G (hg_InvalidValue c), He.glo_ok X G (hg_InvalidPlace c), He.glo_ok X G (hg_InvalidSeen c), excB_ok m2, no, He.exm_ok (hm_0 c), of_decide_eq_true m5, of_decide_eq_true m6, of_decide_eq_true m7⟩
  obtain ⟨fdU, FU⟩ := c.d.def_ 23 (d := d_InvalidValue___init__) rfl
  have bU : Binds K fdU ["self", "value"] [] := FU.bindsN bi_InvalidValue___init__
  obtain ⟨fL, fdL, FL, gL⟩ := (D_law X G c).ex
  have e := hfa.symm.trans gL
  cases e
  refine ⟨fdL, fun s v => FunD.bindsA (ps := ["_law_script"]) FL bi_law s [v] rfl, fun base _ _ sy => ?_⟩
  have cDraw : Cal P w K mg base CX0 1 "_law_draw" spDraw := ok_draw (D__law_draw X G c) T
  have cHand : Cal P w K mg base CX0 1 "_law_hand" (spHand K) := ok_hand (D__law_hand X G c) T
  have cInt : Cal P w K mg base CX0 1 "is_integer" spIsInt := ok_isint (D_is_integer X G c) T
  have cLets : Cal P w K mg base CX0 1 "is_letters" spLets := ok_lets (D_is_letters X G c) T
  have cField : Cal P w K mg base CX0 2 "is_field" spField := ok_field (D_is_field X G c) T cLets
  have cLeafQ : Cal P w K mg base CX0 2 "is_leaf" spIsLeaf := ok_isleaf (D_is_leaf X G c) T cInt cLets
  have cPart : Cal P w K mg base CX0 3 "is_part" spPart := ok_part (D_is_part X G c) T cLeafQ cField
  have cKids : Cal P w K mg base CX0 1 "children" spKids := ok_kids (D_children X G c) T
  have cIsV : Cal P w K mg base CX0 4 "is_value" spIsVal := ok_isval (D_is_value X G c) T cPart cKids
  have xU : XMk P w K mg base 1 "InvalidValue" (He.ga K "InvalidValue") "value" := ⟨⟨Te.gI, oexB_ok m1, Te.xd⟩, ⟨_, fdU, _, He.eqO_ok m3, of_decide_eq_true m4, ok_iinit FU (oexB_ok m1) no, bU⟩, no⟩
  have cCheck := ok_checkv (P := P) (w := w) (base := base) (D_check_value X G c) T cIsV xU
  have cCount := ok_count (P := P) (w := w) (base := base) (D_count X G c) T cKids 60
  have cSize := ok_size (P := P) (w := w) (base := base) (D_size X G c) T cCheck cCount
  have cWord := ok_word (P := P) (w := w) (base := base) (D__law_word X G c) T cDraw
  have cLeaf := ok_leafv (P := P) (w := w) (base := base) (D__law_leaf X G c) T cDraw cWord
  have cValue := ok_value (P := P) (w := w) (base := base) (D__law_value X G c) T cDraw cWord cLeaf 7
  have cBelow := ok_below (P := P) (w := w) (base := base) (D__law_below X G c) T 60
  have cTwin := ok_twin (P := P) (w := w) (base := base) (D__law_twin X G c) T 60
  have cPartL := ok_partL (P := P) (w := w) (base := base) (D__law_part X G c) T
  have cOdd := ok_odd (P := P) (w := w) (base := base) (D__law_odd X G c) T cDraw
  have cPut := ok_put (P := P) (w := w) (base := base) (D__law_put X G c) T cTwin cPartL
  have cMany := ok_many (P := P) (w := w) (base := base) (D__law_many X G c) T cDraw
  have cRef := ok_refused (P := P) (w := w) (base := base) (D__law_refused X G c) T Te sy cSize
  exact ok_law FL T sy cHand cDraw cValue cBelow cTwin cIsV cSize cPut cOdd cMany cRef
end

end VL
open PySem PySem.W PySem.Calls PyProof.Rows
set_option maxRecDepth 100000 in
set_option maxHeartbeats 0 in
theorem PySem.Challenge.cw_latechecks_k01_values_holds : PySem.Challenge.rw_latechecks_k01_values.Holds := by
  w_on; o_law
  refine HandSHeadRun.head_any (r := OpenLaw.row PySem.Challenge.rw_latechecks_k01_values) (q := view (OpenLaw.row PySem.Challenge.rw_latechecks_k01_values).prog [36]) (H := VL.hk) (ob := VL.ob) (M := 6000) (loose := VL.loose) (d := HandSHeadRun.topDef (OpenLaw.row PySem.Challenge.rw_latechecks_k01_values).prog 36) (kwd := []) VL.ob_eq
    (by kernel_rfl) (fun s => by kernel_rfl) VL.run (by kernel_rfl) (by kernel_rfl) (by kernel_rfl) (by rfl) (by first | assumption | decide +kernel) (by decide +kernel) ⟨rfl, rfl, rfl, rfl, rfl, by decide +kernel⟩ ?hw ?hc
  case hw => w_witness2
  case hc =>
    refine LW.walkG (l := PySem.Challenge.rw_latechecks_k01_values) (n := 63) (k := 65) (x := "_law_script") (CX := L2.CX0) rfl (by decide) (by kernel_rfl) ⟨rfl, by decide, by decide⟩ (by kernel_rfl) ?F (fun _ _ _ _ z => z)
    intro w mg fa h Y G hmg0
    obtain ⟨K, KX, c⟩ := Y
    have hmg : mg ("law" : PySem.Str) = some (.ref fa) := by
      have e : (HandSHeadRun.topDef (OpenLaw.row PySem.Challenge.rw_latechecks_k01_values).prog 36).name = ("law" : PySem.Str) := by kernel_rfl
      rw [← e]
      exact hmg0
    obtain ⟨fd, hb, hF⟩ := VL.facts (P := (PySem.Challenge.rw_latechecks_k01_values).prog) (w := w) KX G hmg c
    exact ⟨K, fd, VL.spLaw K, KX, hb, fun H a ns hl _ hS => ⟨a, ns, rfl, hS, hl, fun _ => rfl⟩, hF⟩
#print axioms PySem.Challenge.cw_latechecks_k01_values_holds
