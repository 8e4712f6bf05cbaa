import PyProof.Rows.All
import Wide.All
import OpenK.AllK
import Wide.FinOn
import KE.KStateDown
import HandS.ForMost
import HandS.ForExc
import HandS.Defaults
import HandS.Head0
import HandS.Head1
import HandS.Head2
import HandS.HeadEnd
import HandS.HeadHook1
import HandS.HeadHook2
import HandS.ExcInit
import HandS.ExcField
import HandS.ExcIs
import HandS.IsInst
import HandS.Evl
import HandS.Wide
import HandS.Walk
import KE.KExcIs
import HandS.More
import PyProof.ReprRoads
import HandS.RaiseMore
import HandS.NoneIn
import PyProof.DictTruth
import KE.KDictDisplayH
import HandS.Small
import HandS.DeepEq
import HandS.Deep
import HandS.TupLe
import PyProof.NeKinds
import KE.KDictCopyH
import HandS.DictComp
import KE.KDictPairs
import HandS.Style
import HandS.TupAny
import PyProof.ReprBulk
import PyProof.StrBlock2
import HandS.TupLen
import PySem.Challenge.RW_latechecks_k06_whole_values_from_heads
set_option Elab.async false
set_option linter.all false
set_option maxRecDepth 100000
set_option maxHeartbeats 8000000
namespace LW
open PySem PySem.Spec PyProof.Rows L2
/-! ### the head's Hook: facts, defs, one more Bool -/
abbrev AlM : Type := He.AlD × Bool
def obsM (n : Nat) (fa : List He.Fa) (fn : List He.DefD) (ex : PySem.W.Frag → Bool) (g : Addr → Option Obj) : AlM := (He.obsD fa fn (He.frG g (He.asD g n)), ex (He.frG g (He.asD g n)))
structure SaysM (fa : List He.Fa) (fn : List He.DefD) (ex : PySem.W.Frag → Bool) (K : PySem.W.Frag) : Prop where
  d : He.SaysD fa fn K
  more : ex K = true
def hookM (n : Nat) (fa : List He.Fa) (fn : List He.DefD) (ex : PySem.W.Frag → Bool) : PySem.W.Hook where
  α := AlM
  obs := fun s => obsM n fa fn ex s.heap.get?
  val := fun _ => (He.valD fn, true)
  says := fun _ h => ∃ K : PySem.W.Frag, K.In h ∧ SaysM fa fn ex K
  of := fun _ _ e => ⟨_, He.frG_in, ⟨congrArg (fun z : AlM => z.1) e, congrArg (fun z : AlM => z.2) e⟩⟩
  keeps := fun _ _ _ ⟨K, hK, c⟩ k => ⟨K, PySem.W.Frag.In.keeps hK k, c⟩
theorem obsM_eq {n : Nat} {fa : List He.Fa} {fn : List He.DefD} {ex : PySem.W.Frag → Bool} {g : Addr → Option Obj} {s : Shared} (h : ∀ a, g a = s.heap.get? a) : obsM n fa fn ex g = (hookM n fa fn ex).obs s := by
  have e : g = s.heap.get? := funext h
  rw [e] <;> rfl
theorem SaysM.fact {fa : List He.Fa} {fn : List He.DefD} {ex : PySem.W.Frag → Bool} {K : PySem.W.Frag} (c : SaysM fa fn ex K) {f : He.Fa} (h : f ∈ fa) : f.ok K = true := by
  have c1 := (He.ba (show ((fa.all fun f => f.ok K) && fn.all fun d => d.ok K) = true from congrArg (fun z : He.AlD => z.1) c.d)).1
  exact List.all_eq_true.mp c1 f h
end LW

namespace LW
open PySem PySem.Spec PyProof.Rows L2
open Evl (Ex)
/-! ### heaps that grow -/
theorem new_ {H : Hp} {o : HO} {Q : VK} (k : ∀ p H1, H p = none → Ex H H1 → H1 p = some o → Q (.ref p) H1) : ∀ p, H p = none → Q (.ref p) (upd H p o) := fun p h => k p _ h (Ex.new h) upd_same
theorem newH {H : Hp} {p : Addr} (o : HO) (np : H p = none) : ∃ H1, upd H p o = H1 ∧ Ex H H1 ∧ H1 p = some o := ⟨_, rfl, Ex.new np, upd_same⟩
theorem ex_free {H H' : Hp} {p : Addr} (e : Ex H H') (h : H' p = none) : H p = none := Evl.fresh_back e h
theorem upd_back {H : Hp} {p : Addr} {o x : HO} (h : H p = some o) : upd (upd H p x) p o = H := by
  funext b
  by_cases hb : b = p
  · rw [hb, upd_same, h]
  · rw [upd_ne hb, upd_ne hb]
/-- small sizes -/
theorem szl {n : Nat} (h : n ≤ 100000) : n ≤ sizeLine := Nat.le_trans h (by decide)
theorem szlt {n : Nat} (h : n < 100000) : n < sizeLine := Nat.lt_of_lt_of_le h (by decide)

/-! ### a heap without one address -/
theorem ex_del {H : Hp} {p : Addr} : Ex (del H p) H := fun a o h => by
  by_cases e : a = p
  · rw [e, del_same] at h
    cases h
  · rw [del_ne e] at h
    exact h
theorem ex_of_del {H H' : Hp} {p : Addr} (e : Ex H H') (h : H p = none) : Ex H (del H' p) := fun a o q => by
  rw [del_ne (ne_of_none q h)]
  exact e a o q
theorem del_grow {H H1 : Hp} {p : Addr} {o : HO} (e : Ex H H1) : Ex (del H p) (del (upd H1 p o) p) := fun a u q => by
  by_cases ea : a = p
  · rw [ea, del_same] at q
    cases q
  · rw [del_ne ea] at q ⊢
    rw [upd_ne ea]
    exact e a u q
theorem del_grow' {H H1 : Hp} {p : Addr} (e : Ex H H1) : Ex (del H p) (del H1 p) := fun a u q => by
  by_cases ea : a = p
  · rw [ea, del_same] at q
    cases q
  · rw [del_ne ea] at q ⊢
    exact e a u q
theorem del_get {H : Hp} {p a : Addr} {o : HO} (h : H a = some o) (ne : a ≠ p) : del H p a = some o := by
  rw [del_ne ne]
  exact h
theorem up_ne {H : Hp} {p a : Addr} {o x : HO} (h : H a = some o) (ne : a ≠ p) : upd H p x a = some o := by
  rw [upd_ne ne]
  exact h
/-- the heap behind a change of an object that the entry does not know -/
theorem ex_mut {H H' : Hp} {p : Addr} {o : HO} (e : Ex H H') (h : H p = none) : Ex H (upd H' p o) := Ex.mut e h

/-! ### what is new since a heap -/
def fr (H H' : Hp) : Hp := fun b => match H b with
  | none => H' b
  | some _ => none
/-- what is tracked stays tracked -/
def Dm (H H' : Hp) : Prop := ∀ b, H' b = none → H b = none
theorem Dm.refl (H : Hp) : Dm H H := fun _ h => h
theorem Dm.trans {H H1 H2 : Hp} (a : Dm H H1) (b : Dm H1 H2) : Dm H H2 := fun c h => a c (b c h)
theorem dm_ex {H H' : Hp} (e : Ex H H') : Dm H H' := fun _ h => ex_free e h
theorem dm_upd {H H' : Hp} {p : Addr} {o : HO} (d : Dm H H') : Dm H (upd H' p o) := fun b h => by
  by_cases e : b = p
  · rw [e, upd_same] at h
    cases h
  · rw [upd_ne e] at h
    exact d b h
theorem fr_get {H H' : Hp} {a : Addr} {o : HO} (n : H a = none) (h : H' a = some o) : fr H H' a = some o := by
  unfold fr
  rw [n]
  exact h
theorem fr_some {H H' : Hp} {a : Addr} {o : HO} (h : fr H H' a = some o) : H a = none ∧ H' a = some o := by
  unfold fr at h
  cases e : H a with
  | none =>
    rw [e] at h
    exact ⟨rfl, h⟩
  | some u =>
    rw [e] at h
    cases h
theorem fr_sub {H H' : Hp} : Ex (fr H H') H' := fun _ _ h => (fr_some h).2
theorem fr_mono {H H' H'' : Hp} (e : Ex H' H'') : Ex (fr H H') (fr H H'') := fun _ _ h => fr_get (fr_some h).1 (e _ _ (fr_some h).2)
theorem fr_base {H0 H H' : Hp} (d : Dm H0 H) : Ex (fr H H') (fr H0 H') := fun _ _ h => fr_get (d _ (fr_some h).1) (fr_some h).2
theorem fr_upd {H H' : Hp} {p : Addr} {o u : HO} (h : H p = some u) : Ex (fr H H') (fr H (upd H' p o)) := fun a v q => by
  obtain ⟨n, q⟩ := fr_some q
  refine fr_get n ?_
  rw [upd_ne (fun e => by rw [e, h] at n; cases n)]
  exact q
theorem fr_all {H H' : Hp} (e : Ex H H') {a : Addr} {o : HO} (h : H' a = some o) (ne : H a = none) : fr H H' a = some o := fr_get ne h
theorem fr_del {H H' : Hp} {p : Addr} {u : HO} (h : H p = some u) : Ex (fr H H') (del H' p) := fun a v q => by
  obtain ⟨n, q⟩ := fr_some q
  exact del_get q (fun e => by rw [e, h] at n; cases n)

/-! ### what an object is told to be may change while it stands -/
section
variable {X : Cx} {pins : List (Addr × Obj)} {σ : L2.St} {H : Hp} {s : Shared} {p : Addr} {o : HO}
theorem inv_recast (I : L2.Inv X pins σ H s) (mu : Mut (H p)) (ob : ObjOk X.prog X.w (upd H p o) s.heap p o) : L2.Inv X pins σ (upd H p o) s := by
  have hex : ∃ u, s.heap.get? p = some u := by
    cases e : H p with
    | none => rw [e] at mu; exact mu.elim
    | some u =>
      have x := I.hok p u e
      cases u with
      | lst xs => obtain ⟨_, _, _, _, e⟩ := x; exact ⟨_, e⟩
      | dK kvs => obtain ⟨_, _, _, _, o, _, _, e, _⟩ := x; exact ⟨_, e⟩
      | dT kvs => obtain ⟨_, _, _, _, o, _, _, e, _⟩ := x; exact ⟨_, e⟩
      | set S n => obtain ⟨o, _, _, _, e, _⟩ := x; exact ⟨_, e⟩
      | ins C dx fs => obtain ⟨_, _, _, e, _⟩ := x; exact ⟨_, e⟩
      | ext φ => obtain ⟨_, ⟨o, e⟩, _⟩ := x; exact ⟨_, e⟩
      | _ => rw [e] at mu; exact mu.elim
  exact I.write (t' := s.toks) (x := p) (e := p) (o := o) mu (.inl rfl) (fun b u _ h => h) hex ob
end

/-! ### the pool of draws: a list of two ints, told by its bounds alone -/
def poolO (p : Addr) : HO := .ext fun h => ∃ (a b : Int) (ta tb : Tok) (n : Nat), 0 ≤ a ∧ 0 ≤ b ∧ b < 2147483647 ∧ h.get? p = some { cls := .type "list", data := .seq #[.int a ta, .int b tb] n }
def Pool (H : Hp) (p : Addr) : Prop := H p = some (poolO p)
theorem Pool.ex {H H' : Hp} {p : Addr} (h : Pool H p) (e : Ex H H') : Pool H' p := e _ _ h
section
variable {P : Program} {w : World} {H H' : Hp} {h : Heap} {p : Addr}
theorem pool_open (x : HOk P w H h) (hp : Pool H p) : ∃ a b : Int, 0 ≤ a ∧ 0 ≤ b ∧ b < 2147483647 ∧ ObjOk P w H' h p (.lst [.int a, .int b]) := by
  have q : ObjOk P w H h p (.ext fun h => ∃ (a b : Int) (ta tb : Tok) (n : Nat), 0 ≤ a ∧ 0 ≤ b ∧ b < 2147483647 ∧ h.get? p = some { cls := .type "list", data := .seq #[.int a ta, .int b tb] n }) := x p _ hp
  obtain ⟨⟨a, b, ta, tb, n, h0, h1, h2, e⟩, _, _⟩ := q
  exact ⟨a, b, h0, h1, h2, szl (by show 2 ≤ 100000; decide), [.int a ta, .int b tb], n, .cons ⟨ta, rfl⟩ (.cons ⟨tb, rfl⟩ .nil), e⟩
theorem pool_shut {a b : Int} (x : ObjOk P w H h p (.lst [.int a, .int b])) (h0 : 0 ≤ a) (h1 : 0 ≤ b) (h2 : b < 2147483647) : ObjOk P w H' h p (poolO p) := by
  obtain ⟨_, its, n, r, e⟩ := x
  cases r with
  | cons r1 r =>
    cases r with
    | cons r2 r =>
      cases r
      obtain ⟨ta, rfl⟩ := r1
      obtain ⟨tb, rfl⟩ := r2
      exact ⟨⟨a, b, ta, tb, n, h0, h1, h2, e⟩, ⟨_, e⟩, fun g1 g2 z k => by
        obtain ⟨a, b, ta, tb, n, q0, q1, q2, q⟩ := z
        exact ⟨a, b, ta, tb, n, q0, q1, q2, k _ q⟩⟩
end
/-- a body in which the pool is looked into and put back at a return -/
def tFocus (t : TS) : TS := fun D σ H => ∃ p, Pool H p ∧ ∀ a b : Int, 0 ≤ a → 0 ≤ b → b < 2147483647 →
  t { nx := fun _ _ => False, rt := fun v H' => ∃ a' b' : Int, H' p = some (.lst [.int a', .int b']) ∧ 0 ≤ a' ∧ 0 ≤ b' ∧ b' < 2147483647 ∧ D.rt v (upd H' p (poolO p)) } σ (upd H p (.lst [.int a, .int b]))
/-- return of a new pool -/
def tRetPool (te : TE) : TS := fun D σ H => te σ H fun v H' => ∃ (p : Addr) (a b : Int), v = .ref p ∧ H' p = some (.lst [.int a, .int b]) ∧ 0 ≤ a ∧ 0 ≤ b ∧ b < 2147483647 ∧ D.rt v (upd H' p (poolO p))
section
variable {X : Cx}
theorem pss_focus {body : List Stmt} {t : TS} (h : PSs X body t) : PSs X body (tFocus t) := by
  refine ⟨fun pins s σ H D I ht => ?_⟩
  obtain ⟨p, hp, k⟩ := ht
  obtain ⟨a, b, h0, h1, h2, ob⟩ : ∃ a b : Int, 0 ≤ a ∧ 0 ≤ b ∧ b < 2147483647 ∧ ObjOk X.prog X.w (upd H p (.lst [.int a, .int b])) s.heap p (.lst [.int a, .int b]) := by
    obtain ⟨a, b, h0, h1, h2, ob⟩ := pool_open (H' := H) I.hok hp
    exact ⟨a, b, h0, h1, h2, ob⟩
  have mu : Mut (H p) := by
    rw [show H p = some (poolO p) from hp]
    exact True.intro
  have J := inv_recast I mu ob
  refine thn (h.run pins s σ _ _ J (k a b h0 h1 h2)) fun f s' q => ?_
  cases f with
  | ret u =>
    obtain ⟨v, σ', H', I', r, a', b', e, g0, g1, g2, hD⟩ := q
    have mu' : Mut (H' p) := by
      rw [e]
      exact True.intro
    exact ⟨v, σ', _, inv_recast I' mu' (pool_shut (I'.hok p _ e) g0 g1 g2), r, hD⟩
  | next =>
    obtain ⟨_, _, _, q⟩ := q
    exact q.elim
  | brk =>
    obtain ⟨_, _, _, q⟩ := q
    exact q.elim
  | cont =>
    obtain ⟨_, _, _, q⟩ := q
    exact q.elim
theorem ps_retPool {e : Expr} {te : TE} {pos : Pos} (he : PE X e te) : PS X (.Return (some e) pos) (tRetPool te) := by
  refine ⟨fun pins s σ H D I h => ?_⟩
  refine wpAny_Return_some (thn (he.run pins s σ H _ I h) fun v s1 ⟨x, H1, I1, r1, p, a, b, ev, e, g0, g1, g2, hD⟩ => ?_)
  have mu' : Mut (H1 p) := by
    rw [e]
    exact True.intro
  exact ⟨x, σ, _, inv_recast I1 mu' (pool_shut (I1.hok p _ e) g0 g1 g2), r1, hD⟩
end

/-! ### the rules that speak of the written part, K told (for comprehensions) -/
section
variable {X : Cx}
theorem ixl (K : PySem.W.Frag) (h : X.K = K := by rfl) : IxR X (rIxL K) := by
  subst h
  exact ix_list
theorem ixt (K : PySem.W.Frag) (h : X.K = K := by rfl) : IxR X (rIxT K) := by
  subst h
  exact ix_tup
theorem inq (K : PySem.W.Frag) (h : X.K = K := by rfl) : OpR X (compareOp .In) (rIn K false) := by
  subst h
  exact op_in_seq
theorem ninq (K : PySem.W.Frag) (h : X.K = K := by rfl) : OpR X (compareOp .NotIn) (rIn K true) := by
  subst h
  exact op_notIn_seq
def rLn (K : PySem.W.Frag) : List V → Hp → VK → Prop := fun xs H Q => ∃ x n, xs = [x] ∧ LenV K x H n ∧ Q (.int n) H
theorem lnK (K : PySem.W.Frag) (h : X.K = K := by rfl) : CallR X (.builtin "len") (rLn K) := by
  subst h
  exact call_len
theorem isiK (K : PySem.W.Frag) (h : X.K = K := by rfl) : CallR X (.builtin "isinstance") (rIsi K) := by
  subst h
  exact call_isi
theorem isiTK (K : PySem.W.Frag) (h : X.K = K := by rfl) : CallR X (.builtin "isinstance") (rIsiT K) := by
  subst h
  exact call_isiT
def rLof (K : PySem.W.Frag) : List V → Hp → VK → Prop := fun xs H Q => ∃ p ys, xs = [.ref p] ∧ (SqL K H p ys ∨ SqT K H p ys) ∧ ∀ l, H l = none → Q (.ref l) (upd H l (.lst ys))
theorem lofK (K : PySem.W.Frag) (h : X.K = K := by rfl) : CallR X (.type "list") (rLof K) := by
  subst h
  exact call_list_of
theorem allK (K : PySem.W.Frag) (hc : X.calm = true) (h : X.K = K := by rfl) : CallR X (.builtin "all") (rAll K) := by
  subst h
  exact cr_all hc
theorem pgt {pos : Pos} {es : List Expr} {k : Nat} {t : TGs} {n : Nat} (K : PySem.W.Frag) (hc : X.calm = true) (h : PGs X es t) (e : X.K = K := by rfl)
    (hn : (assignEach es X.env).length = n := by rfl) (hst : (assignEach es X.env).findIdx? (·.1) = none := by rfl) : PG X (.Tuple es k pos) (gTup K n t) := by
  subst e
  exact pg_tup hc h hn hst
theorem pfl {e : Expr} {ta : TE} {f : Str} {pos : Pos} (K : PySem.W.Frag) (he : PE X e ta) (hb : attributeBase e f X.env (eval e X.env) = eval e X.env) (h : X.K = K := by rfl) : PE X (.Attribute e f pos) (tFld K ta f) := by
  subst h
  exact pe_fld he hb
theorem pil {tg l : Expr} {tl : TE} (K : PySem.W.Frag) (hl : PE X l tl) (h : X.K = K := by rfl) : PI X tg l (iList K tl) := by
  subst h
  exact pi_list hl
theorem pit {tg l : Expr} {tl : TE} (K : PySem.W.Frag) (hl : PE X l tl) (h : X.K = K := by rfl) : PI X tg l (iTup K tl) := by
  subst h
  exact pi_tup hl
theorem eqDK (K : PySem.W.Frag) (hu : X.A.units + 64 < cLine) (h : X.K = K := by rfl) : OpR X (compareOp .Eq) (rEqD K) := by
  subst h
  exact op_eqD hu
theorem neDK (K : PySem.W.Frag) (hu : X.A.units + 64 < cLine) (h : X.K = K := by rfl) : OpR X (compareOp .NotEq) (rNeD K) := by
  subst h
  exact op_neD hu
theorem slK (K : PySem.W.Frag) (h : X.K = K := by rfl) : SlR X (rSlL K) := by
  subst h
  exact sl_list
theorem units65 {A : Around} {k : Nat} (hr : Room k A) : A.units + 65 < cLine := by
  have := hr.un
  omega
end
/-! ### defs by name -/
structure Cal (P : Program) (w : World) (K : PySem.W.Frag) (mg : Str → Option Value) (base : Heap) (CX : CXT) (k : Nat) (x : Str) (sp : Sp) : Prop where
  ex : ∃ (f : Addr) (fd : FuncData) (ps : List Str), FnOk P w K mg base CX k f fd ps sp ∧ mg x = some (.ref f) ∧ PySem.W.keepIn K (.ref f) = true ∧ Binds K fd ps []
abbrev FnP (K : PySem.W.Frag) (x : Str) (st : Stmt) (f : Addr) (fd : FuncData) : Prop := FunD K x x (defArgs st) (defBody st) (defScope st) [] [] f fd
/-- a def of the module -/
structure Df (K : PySem.W.Frag) (mg : Str → Option Value) (x : Str) (st : Stmt) : Prop where
  ex : ∃ (f : Addr) (fd : FuncData), FnP K x st f fd ∧ mg x = some (.ref f)
def BindsEq (x : Str) (st : Stmt) (ps : List Str) : Prop := ∀ (kV doc pm : Value) (an : Option Addr) (cdv ct : Value) (us : List Value), us.length = ps.length →
  bindArgs (PySem.W.fnOf x x (defArgs st) (defBody st) (defScope st) .none kV doc pm an cdv ct) ⟨us, []⟩ = pure (ps.zip us)
section
variable {P : Program} {w : World} {K : PySem.W.Frag} {mg : Str → Option Value} {base : Heap}
theorem cal0 {x : Str} {st : Stmt} {N ps : List Str} {k : Nat} {sp : Sp} (F : Df K mg x st) (S : FnScope N ps (defScope st)) (hb : BindsEq x st ps) (len : ∀ vs H Q E, sp vs H Q E → vs.length = ps.length)
    (hbody : ∀ (f : Addr) (cdv : Value) (A : Around) (outer : List Env) (s : Shared) (H : Hp) (vs : List V) (Q : VK) (E : XK), Room k (A.deeper (envOfC x (defScope st) s.heap.objs.size f cdv)) → sp vs H Q E →
      ∃ t, PSs (cxOf CX0 P w K mg base N x (defScope st) f cdv A outer s H E).nox (defBody st) t ∧ t { nx := fun _ H' => Q .non H', rt := Q } (start N vs) H) : Cal P w K mg base CX0 (k + 1) x sp := by
  obtain ⟨f, fd, F, hm⟩ := F.ex
  exact ⟨f, fd, ps, F.ok S len (fun cdv A outer s H vs Q E hr h => by
    obtain ⟨t, h1, h2⟩ := hbody f cdv A outer s H vs Q E hr h
    exact ⟨t, h1.nox, h2⟩), hm, F.kp, F.bindsN hb⟩
theorem calX {x : Str} {st : Stmt} {N ps : List Str} {k : Nat} {sp : Sp} (F : Df K mg x st) (S : FnScope N ps (defScope st)) (hb : BindsEq x st ps) (len : ∀ vs H Q E, sp vs H Q E → vs.length = ps.length)
    (hbody : ∀ (f : Addr) (cdv : Value) (A : Around) (outer : List Env) (s : Shared) (H : Hp) (vs : List V) (Q : VK) (E : XK), Room k (A.deeper (envOfC x (defScope st) s.heap.objs.size f cdv)) → sp vs H Q E →
      ∃ t, PSs (cxOf (L2.CX P w) P w K mg base N x (defScope st) f cdv A outer s H E) (defBody st) t ∧ t { nx := fun _ H' => Q .non H', rt := Q } (start N vs) H) : Cal P w K mg base (L2.CX P w) (k + 1) x sp := by
  obtain ⟨f, fd, F, hm⟩ := F.ex
  exact ⟨f, fd, ps, F.ok S len (fun cdv A outer s H vs Q E hr h => hbody f cdv A outer s H vs Q E hr h), hm, F.kp, F.bindsN hb⟩
end
section
variable {X : Cx} {k j : Nat} {x : Str} {sp : Sp} {p pos : Pos} {e : Expr} {es : List Expr} {t : TA}
theorem pe_k (c : Cal X.prog X.w X.K X.mg X.base CX0 k x sp) (hr : Room j X.A) (hk : k ≤ j) (hg : Gl X x) (ha : PA X (e :: es) t)
    (hdb : (x == ("__debug__" : Str)) = false := by decide) (he : starEach (e :: es) X.env = (false, eval e X.env) :: starEach es X.env := by rfl) (hpl : (backTo pos (starEach es X.env)).any (·.1) = false := by rfl) :
    PE X (.Call (.Name x p) (e :: es) [] pos) (tCall sp [] E0 t) := by
  obtain ⟨f, fd, ps, F, hm, kp, b⟩ := c.ex
  exact pe_call F (hr.mono hk) hg hm kp b .nil pass0 ha hdb he hpl
end
end LW

namespace LW
open PySem PySem.Spec L2
open Evl (Ex)
/-! ### exception classes of the program, with an __init__ of their own -/
def oexB (K : PySem.W.Frag) (C : Addr) : Bool := (match K.lookup C with
  | some ⟨.type "type", _, .cls cd, sl⟩ => (match cd.mro, sl.toList with
    | .ref C' :: bm, [_, _, _, _, some (.builtin n), _] => C' == C && n == "ValueError.__new__" && !cd.hasDel && PySem.HandSPX.refsVE bm && cd.hasDict
    | _, _ => false)
  | _ => false) && (He.eqO (PySem.W.findIn K (.ref C) "__setattr__") (some (some (.builtin "object.__setattr__"))) && (decide (PySem.W.subIn K (.ref C) (.type "BaseException") = some true) && (decide (PySem.W.typeIn K (.ref C) = some (.type "type")) && PySem.W.keepIn K (.ref C))))
theorem oexB_ok {K : PySem.W.Frag} {C : Addr} (h : oexB K C = true) : OexC K C := by
  obtain ⟨q, h⟩ := He.ba h
  obtain ⟨h1, h⟩ := He.ba h
  obtain ⟨h2, h⟩ := He.ba h
  obtain ⟨h3, h4⟩ := He.ba h
  refine ⟨?_, He.eqO_ok h1, of_decide_eq_true h2, of_decide_eq_true h3, h4⟩
  split at q
  · rename_i dd cd sl ho
    split at q
    · rename_i C' bm k0 k1 k2 k3 n k5 hm hs
      simp only [Bool.and_eq_true, beq_iff_eq, Bool.not_eq_true'] at q
      obtain ⟨⟨⟨⟨rfl, rfl⟩, hdel⟩, ht⟩, hdd⟩ := q
      obtain ⟨nm, bs, mro, ns, qn, hd, sn, sub, ab, col, del⟩ := cd
      dsimp only at hm hdel hdd
      subst hm hdel hdd
      have hsl : sl = #[k0, k1, k2, k3, some (.builtin "ValueError.__new__"), k5] := by
        obtain ⟨l⟩ := sl
        simp only at hs
        rw [hs]
      subst hsl
      exact ⟨nm, qn, ns, bs, bm, sn, sub, ab, col, dd, k0, k1, k2, k3, k5, ho, ht⟩
    · cases q
  · cases q
def excB (K : PySem.W.Frag) (D : Addr) : Bool := xfB K D && (He.eqO (PySem.W.findIn K (.ref D) "__class__") (some (some (.builtin "object.__class__"))) && (He.eqO (PySem.W.specialIn K (.builtin "object.__class__") "__get__") (some (some (.builtin "getset_descriptor.__get__"))) &&
  (decide (PySem.W.takesIn K (.builtin "object.__class__") = some true) && (decide (PySem.W.mroIn K D (.type "object") = some true) && (PySem.W.clsIn K D).isSome))))
structure ExcD (K : PySem.W.Frag) (D : Addr) : Prop where
  xf : XfC K D
  ha : PySem.W.findIn K (.ref D) "__class__" = some (some (.builtin "object.__class__"))
  hn : PySem.W.specialIn K (.builtin "object.__class__") "__get__" = some (some (.builtin "getset_descriptor.__get__"))
  ht : PySem.W.takesIn K (.builtin "object.__class__") = some true
  hm : PySem.W.mroIn K D (.type "object") = some true
  hc : (PySem.W.clsIn K D).isSome = true
theorem excB_ok {K : PySem.W.Frag} {D : Addr} (h : excB K D = true) : ExcD K D := by
  obtain ⟨h1, h⟩ := He.ba h
  obtain ⟨h2, h⟩ := He.ba h
  obtain ⟨h3, h⟩ := He.ba h
  obtain ⟨h4, h⟩ := He.ba h
  obtain ⟨h5, h6⟩ := He.ba h
  exact ⟨xfB_ok h1, He.eqO_ok h2, He.eqO_ok h3, of_decide_eq_true h4, of_decide_eq_true h5, h6⟩
/-- isinstance(e, c), e the exception that the suite holds (with a dict of its own or without) -/
def rIsX (K : PySem.W.Frag) (cls : Value) (d : Option Addr) (a : Addr) : List V → Hp → VK → Prop := fun xs H Q => ∃ (D : Addr) (c : V) (cv : Value) (b : Bool), xs = [.ref a, c] ∧ cls = .ref D ∧ ExcD K D ∧ (∀ dd, d = some dd → ∃ fs, H dd = some (.xd fs)) ∧ ClsV c cv ∧ PySem.W.kitOne K (.ref D) cv = some b ∧ Q (.bl b) H
theorem call_isX {X : Cx} {a : Addr} {oe : Obj} {cls : Value} {d : Option Addr} {pn : List (Addr × Obj)} (hz : Zc cls d oe) (hf : ∃ vs, oe.data = .fields vs) : CallR (X.suite a ((a, oe) :: pn)) (.builtin "isinstance") (rIsX X.K cls d a) := by
  intro pins s σ H xs us Q I r h
  obtain ⟨D, c, cv, b, rfl, rfl, C, hdd, kc, e, q⟩ := h
  obtain ⟨u1, u2, rfl, r1, r2⟩ := vals2 r
  cases r1
  have ec := kc.eq r2
  subst ec
  obtain ⟨hget, _⟩ := I.pin (a, oe) (List.mem_append.mpr (.inl List.mem_cons_self))
  obtain ⟨vs, hv⟩ := hf
  have J : ∃ od, PySem.W.InstAt s.heap a oe D od := by
    cases d with
    | none => exact ⟨none, hget, hz.1, by unfold PySem.W.notCls; rw [hv] <;> rfl, by rw [hz.2]; trivial⟩
    | some dd =>
      obtain ⟨fs, hfs⟩ := hdd dd rfl
      obtain ⟨mA, hns, _⟩ := (show ObjOk X.prog X.w H s.heap dd (.xd fs) from I.hok dd _ hfs)
      obtain ⟨od, ho, _⟩ := lookIn_ns hns
      exact ⟨some od, hget, hz.1, by unfold PySem.W.notCls; rw [hv] <;> rfl, by rw [hz.2]; exact ho⟩
  obtain ⟨od, J⟩ := J
  exact PySem.W.kia_one (PySem.W.kitx_exc C.hc C.xf.ga C.xf.gg C.xf.exC C.ha C.hn C.ht C.hm) I.kIn J e (fun z => nomatch z) fun tk => ⟨.bl b, H, I.kept (t' := tk) fun _ _ z => z, rfl, q⟩
/-- e.f in the suite, K told, the class found at the reading -/
def tXg (K : PySem.W.Frag) (a : Addr) (cls : Value) (d : Option Addr) (f : Str) (te : TE) : TE := fun σ H Q => te σ H fun x H1 => x = .ref a ∧ ∃ (C dd : Addr) (fs : List (Str × V)) (v : V), cls = .ref C ∧ XfC K C ∧ PySem.W.findIn K (.ref C) f = some none ∧ d = some dd ∧ H1 dd = some (.xd fs) ∧ fs.lookup f = some v ∧ Q v H1
theorem pe_xg {X : Cx} {a : Addr} {oe : Obj} {cls : Value} {d : Option Addr} {pn : List (Addr × Obj)} {e : Expr} {te : TE} {pos : Pos} {n : Str}
    (hz : Zc cls d oe) (hf : ∃ vs, oe.data = .fields vs) (he : PE (X.suite a ((a, oe) :: pn)) e te) (hb : attributeBase e n X.env (eval e X.env) = eval e X.env := by rfl) :
    PE (X.suite a ((a, oe) :: pn)) (.Attribute e n pos) (tXg X.K a cls d n te) := by
  refine ⟨fun pins s σ H Q I h => ?_⟩
  have h' : ∃ C, te σ H fun x H1 => x = .ref a ∧ ∃ (C dd : Addr) (fs : List (Str × V)) (v : V), cls = .ref C ∧ XfC X.K C ∧ PySem.W.findIn X.K (.ref C) n = some none ∧ d = some dd ∧ H1 dd = some (.xd fs) ∧ fs.lookup n = some v ∧ Q v H1 := ⟨a, h⟩
  refine attr_of hb (thn (he.run pins s σ H _ I h) fun u s1 hh => ?_)
  obtain ⟨x, H1, I1, rx, ex, C, dd, fs, v, ec, T, hno, ed, ea, l, q⟩ := hh
  subst ex
  obtain rfl : u = Value.ref a := rx
  subst ec
  subst ed
  obtain ⟨ha, _⟩ := I1.pin (a, oe) (List.mem_append_left _ List.mem_cons_self)
  obtain ⟨vs, hd⟩ := hf
  have hx : ObjOk X.prog X.w H1 s1.heap dd (.xd fs) := I1.hok dd _ ea
  obtain ⟨mA, hns, hr⟩ := hx
  obtain ⟨od, ho, hl⟩ := lookIn_ns hns
  obtain ⟨u, hu, ru⟩ := RelO.some_of (v := v) (o := mA n) (by rw [← l]; exact hr n)
  have J : PySem.W.InstAt s1.heap a oe C (some od) := ⟨ha, hz.1, by unfold PySem.W.notCls; rw [hd] <;> rfl, by rw [hz.2]; exact ho⟩
  exact HandSPX.exc_get I1.kIn J T.ga T.gg T.exC (PySem.W.findObj_own T.hdC hno rfl (by rw [hl, hu])) (handed_of ru) ⟨v, H1, I1.tok _, ru, q⟩
/-! ### __init__ of such a class: self.f = f, one field -/
structure XCl (K : PySem.W.Frag) (mg : Str → Option Value) (x : Str) (C : Addr) : Prop where
  gC : mg x = some (.ref C)
  ox : OexC K C
  xd : ExcD K C
/-- what __init__ promises: the new exception at a gets its dict -/
def spXI (K : PySem.W.Frag) (C : Addr) (f : Str) : Sp := fun vs H Q _ => ∃ (a : Addr) (v : V), vs = [.ref a, v] ∧ H a = some (exo a C none) ∧ ∀ dx, H dx = none → dx ≠ a → Q .non (upd (upd H dx (exd dx [(f, v)])) a (exo a C (some dx)))
/-- the class's maker -/
structure XMk (P : Program) (w : World) (K : PySem.W.Frag) (mg : Str → Option Value) (base : Heap) (k : Nat) (x : Str) (C : Addr) (f : Str) : Prop where
  cl : XCl K mg x C
  ex : ∃ (fI : Addr) (fd : FuncData) (ps : List Str), PySem.W.findIn K (.ref C) "__init__" = some (some (.ref fI)) ∧ PySem.W.typeIn K (.ref fI) = some (.type "function") ∧ FnOk P w K mg base CX0 k fI fd ps (spXI K C f) ∧ Binds K fd ps []
  no : PySem.W.findIn K (.ref C) f = some none
section
variable {X : Cx} {k j : Nat} {C : Addr} {x f : Str} {e : Expr} {ta : TA} {p pos pos2 : Pos}
theorem pmk_x (M : XMk X.prog X.w X.K X.mg X.base k x C f) (hr : Room j X.A) (hj : k + 1 ≤ j) (hg : Gl X x) (ha : PA X [e] ta) (hdb : (x == ("__debug__" : Str)) = false := by decide)
    (he : starEach [e] X.env = (false, eval e X.env) :: starEach [] X.env := by rfl) (hpl : (backTo pos (starEach [] X.env)).any (·.1) = false := by rfl) : PMk X (.Call (.Name x p) [e] [] pos) (tMkO C (spXI X.K C f) [] ta) := by
  obtain ⟨fI, fd, ps, iC, tI, F1, hb⟩ := M.ex
  exact pmk_oex M.cl.ox iC tI F1 (hr.mono hj) hb .nil (pass0) hg M.cl.gC ha hdb he hpl
end
/-- what the making leaves: a new dict with the field -/
theorem xmk_go {K : PySem.W.Frag} {C : Addr} {f : Str} {v : V} {H1 : Hp} {Q : XK} (h : ∀ d H2, H1 d = none → Ex H1 H2 → H2 d = some (.xd [(f, v)]) → Q (.ref C) (some d) H2) :
    [v].length ≤ 1000 ∧ ∀ a, H1 a = none → spXI K C f (.ref a :: ([v] ++ [])) (upd H1 a (exo a C none)) (fun v' H2 => v' = .non ∧ ∃ (d : Addr) (fs : List (Str × V)), H2 a = some (exo a C (some d)) ∧ H2 d = some (exd d fs) ∧ H1 d = none ∧ Q (.ref C) (some d) (upd (del H2 a) d (.xd fs))) (fun _ _ _ => False) := by
  refine ⟨by show 1 ≤ 1000; decide, fun a na => ⟨a, v, rfl, upd_same, fun dx ndx ne => ?_⟩⟩
  rw [upd_ne ne] at ndx
  refine ⟨rfl, dx, [(f, v)], upd_same, by rw [upd_ne ne, upd_same], ndx, h dx _ ndx (fun b o q => ?_) upd_same⟩
  have hb : b ≠ a := ne_of_none q na
  rw [upd_ne (ne_of_none q ndx), del_ne hb, upd_ne hb, upd_ne (ne_of_none q ndx), upd_ne hb]
  exact q
/-! ### methods of a class -/
structure Mt (P : Program) (w : World) (K : PySem.W.Frag) (mg : Str → Option Value) (base : Heap) (CX : CXT) (k : Nat) (C : Addr) (m : Str) (sp : Sp) : Prop where
  ex : ∃ (g : Addr) (fd : FuncData) (ps : List Str), Cls K C ∧ Meth K C m g ∧ FnOk P w K mg base CX k g fd ps sp ∧ Binds K fd ps []
/-- a method as the top leaves it -/
structure Dm_ (K : PySem.W.Frag) (C : Addr) (m qual : Str) (st : Stmt) : Prop where
  ex : ∃ (g : Addr) (fd : FuncData), FunD K m qual (defArgs st) (defBody st) (defScope st) [] [] g fd ∧ Meth K C m g
def BindsM (m qual : Str) (st : Stmt) (ps : List Str) : Prop := ∀ (kV doc pm : Value) (an : Option Addr) (cdv ct : Value) (us : List Value), us.length = ps.length →
  bindArgs (PySem.W.fnOf m qual (defArgs st) (defBody st) (defScope st) .none kV doc pm an cdv ct) ⟨us, []⟩ = pure (ps.zip us)
section
variable {P : Program} {w : World} {K : PySem.W.Frag} {mg : Str → Option Value} {base : Heap} {C : Addr} {m qual : Str} {st : Stmt} {N ps : List Str} {k : Nat} {sp : Sp}
theorem mt0 (c : Cls K C) (F : Dm_ K C m qual st) (S : FnScope N ps (defScope st)) (hb : BindsM m qual st ps) (len : ∀ vs H Q E, sp vs H Q E → vs.length = ps.length)
    (hbody : ∀ (f : Addr) (cdv : Value) (A : Around) (outer : List Env) (s : Shared) (H : Hp) (vs : List V) (Q : VK) (E : XK), Room k (A.deeper (PyProof.Rows.envOfC qual (defScope st) s.heap.objs.size f cdv)) → sp vs H Q E →
      ∃ t, PSs (cxOf CX0 P w K mg base N qual (defScope st) f cdv A outer s H E).nox (defBody st) t ∧ t { nx := fun _ H' => Q .non H', rt := Q } (start N vs) H) : Mt P w K mg base CX0 (k + 1) C m sp := by
  obtain ⟨g, fd, F, hm⟩ := F.ex
  exact ⟨g, fd, ps, c, hm, F.ok S len (fun cdv A outer s H vs Q E hr h => by
    obtain ⟨t, h1, h2⟩ := hbody g cdv A outer s H vs Q E hr h
    exact ⟨t, h1.nox, h2⟩), F.bindsN hb⟩
theorem mtX (c : Cls K C) (F : Dm_ K C m qual st) (S : FnScope N ps (defScope st)) (hb : BindsM m qual st ps) (len : ∀ vs H Q E, sp vs H Q E → vs.length = ps.length)
    (hbody : ∀ (f : Addr) (cdv : Value) (A : Around) (outer : List Env) (s : Shared) (H : Hp) (vs : List V) (Q : VK) (E : XK), Room k (A.deeper (PyProof.Rows.envOfC qual (defScope st) s.heap.objs.size f cdv)) → sp vs H Q E →
      ∃ t, PSs (cxOf (L2.CX P w) P w K mg base N qual (defScope st) f cdv A outer s H E) (defBody st) t ∧ t { nx := fun _ H' => Q .non H', rt := Q } (start N vs) H) : Mt P w K mg base (L2.CX P w) (k + 1) C m sp := by
  obtain ⟨g, fd, F, hm⟩ := F.ex
  exact ⟨g, fd, ps, c, hm, F.ok S len (fun cdv A outer s H vs Q E hr h => hbody g cdv A outer s H vs Q E hr h), F.bindsN hb⟩
/-- X(e): an instance, its __init__ by the promise sp -/
structure Mkr (P : Program) (w : World) (K : PySem.W.Frag) (mg : Str → Option Value) (base : Heap) (CX : CXT) (k : Nat) (x : Str) (C : Addr) (sp : Sp) : Prop where
  ex : ∃ (f : Addr) (fd : FuncData) (ps : List Str), Mk K C f ∧ FnOk P w K mg base CX k f fd ps sp ∧ mg x = some (.ref C) ∧ Binds K fd ps []
end
section
variable {X : Cx} {CX : CXT} {k j : Nat} {C : Addr} {m x : Str} {sp : Sp} {E : XK} {o e : Expr} {es : List Expr} {to : TE} {t : TA} {p apos pos : Pos} {pl : Sem Bool}
/-- o.m(e, ..), what is raised passing as E -/
theorem pe_mx (c : Mt X.prog X.w X.K X.mg X.base CX k C m sp) (hr : Room j X.A) (hk : k ≤ j) (hx : Passes CX X E) (he : PE X o to) (ha : PA X (e :: es) t)
    (hst : starEach (e :: es) X.env = (false, eval e X.env) :: starEach es X.env := by rfl) (hpl : (backTo pos (starEach es X.env)).any (·.1) = false := by rfl)
    (ht : eval (.Call (.Attribute o m apos) (e :: es) [] pos) X.env = (do
      let ov ← eval o X.env
      standAt apos.atName
      let (f, first) ← holding [ov] (getMethod ov m pl)
      callWith pos f first (backTo pos (starEach (e :: es) X.env)) (backToKw pos (keywordEach [] X.env))) := by rfl) :
    PE X (.Call (.Attribute o m apos) (e :: es) [] pos) (tMeth C m sp [] E to t) := by
  obtain ⟨g, fd, ps, cl, hm, F, b⟩ := c.ex
  exact pe_meth (pl := pl) he cl hm F (hr.mono hk) b .nil hx ha hst hpl ht
theorem pe_mkr (c : Mkr X.prog X.w X.K X.mg X.base CX k x C sp) (hr : Room j X.A) (hk : k + 1 ≤ j) (hx : Passes CX X E) (hg : Gl X x) (ha : PA X (e :: es) t)
    (hdb : (x == ("__debug__" : Str)) = false := by decide) (he : starEach (e :: es) X.env = (false, eval e X.env) :: starEach es X.env := by rfl) (hpl : (backTo pos (starEach es X.env)).any (·.1) = false := by rfl) :
    PE X (.Call (.Name x p) (e :: es) [] pos) (tMake C sp [] E t) := by
  obtain ⟨f, fd, ps, M, F, hm, b⟩ := c.ex
  exact pe_make M F (hr.mono hk) hg hm b .nil hx ha hdb he hpl
/-- f(e, ..), what is raised wished for at the slots -/
theorem pe_kS {W : WX} (c : Cal X.prog X.w X.K X.mg X.base (L2.CX X.prog X.w) k x sp) (hr : Room j X.A) (hk : k ≤ j) (tk : Takes X W) (hg : Gl X x) (ha : PA X (e :: es) t)
    (hdb : (x == ("__debug__" : Str)) = false := by decide) (he : starEach (e :: es) X.env = (false, eval e X.env) :: starEach es X.env := by rfl) (hpl : (backTo pos (starEach es X.env)).any (·.1) = false := by rfl) :
    PE X (.Call (.Name x p) (e :: es) [] pos) (tCallS sp (WE W) t) := by
  obtain ⟨f, fd, ps, F, hm, kp, b⟩ := c.ex
  exact pe_callS F (hr.mono hk) hg hm kp b (fun σ => passAt tk σ) ha hdb he hpl
end
end LW

namespace LW
open PySem PySem.Spec PyProof.Rows L2
open Evl (Ex)
/-! ### defs that run where no repr is under way -/
structure FnG (P : Program) (w : World) (K : PySem.W.Frag) (mg : Str → Option Value) (base : Heap) (CX : CXT) (k : Nat) (f : Addr) (fd : FuncData) (ps : List Str) (sp : Sp) : Prop where
  len : ∀ (vs : List V) (H : Hp) (Q : VK) (E : XK), sp vs H Q E → vs.length = ps.length
  go : ∀ (A : Around) (outer : List Env) (s : Shared) (H : Hp) (args : Args) (us : List Value) (vs : List V) (Q : VK) (E : XK), A.guards = some [] → Room k A → Env0 P w K mg base A outer s H → BindsTo s fd args (ps.zip us) →
    Vals vs us → sp vs H Q E → codeAny (model P w) A (.call (.ref f) args) (CR CX outer P w H s Q E) s
section
variable {P : Program} {w : World} {K : PySem.W.Frag} {mg : Str → Option Value} {base : Heap} {x qual : Str} {params : Arguments} {body : List Stmt} {scope : Scope} {dvs : List V} {kws : List (Str × V)} {f : Addr} {fd : FuncData}
theorem FnG.of {CX : CXT} {N ps : List Str} {k : Nat} {sp : Sp} (F : FunD K x qual params body scope dvs kws f fd) (S : FnScope N ps scope) (len : ∀ (vs : List V) (H : Hp) (Q : VK) (E : XK), sp vs H Q E → vs.length = ps.length)
    (hbody : ∀ (cdv : Value) (A : Around) (outer : List Env) (s : Shared) (H : Hp) (vs : List V) (Q : VK) (E : XK), A.guards = some [] → Room k (A.deeper (envOfC qual scope s.heap.objs.size f cdv)) → sp vs H Q E →
      ∃ t, PSs (cxOf CX P w K mg base N qual scope f cdv A outer s H E) body t ∧ t { nx := fun _ H' => Q .non H', rt := Q } (start N vs) H) : FnG P w K mg base CX (k + 1) f fd ps sp := by
  obtain ⟨oc, od, dV, kV, doc, pm, an, cdv, ct, osl, efd, lk, hcd, _, _⟩ := F.ex
  subst efd
  refine ⟨len, ?_⟩
  intro A outer s H args us vs Q E gd hr e0 hb rv hsp
  have kp : ∀ b o, base.get? b = some o → s.heap.get? b = some o := fun b o e => (e0.bs b o e).1
  have KX : K.In s.heap := e0.mod.kin.keeps kp
  have lim : s.heap.NoLimit := e0.mod.nolimit.keeps kp
  have hkind : ∀ y ∈ ps.zip us, scope.names.lookup y.1 = some .local ∨ (scope.names.lookup y.1 = some .cell ∧ ((cellsFrom (s.heap.objs.size + 1) scope.names []).lookup y.1).isSome = true) := by
    rintro ⟨n, v⟩ hy
    rcases S.par n (List.of_mem_zip hy).1 with q | q
    · left
      exact q
    · right
      exact ⟨q, PySem.W.cellsFrom_some _ _ _ (Or.inl q)⟩
  apply codeAny_call_function hr.depth (KX _ _ lk) rfl S.co S.gen rfl (PySem.W.codeRec_of KX hcd)
  apply hb
  refine wpAny_newFunctionEnv_cells S.kind hkind ?_
  rintro env rfl s1 x
  refine ⟨lim.keeps x.toInCall.keep, ?_⟩
  apply codeAny_func
  obtain ⟨t, ht, hq⟩ := hbody cdv A outer s H vs Q E gd (hr.deeper _) hsp
  have I : Inv (cxOf CX P w K mg base N qual scope f cdv A outer s H E) [] (start N vs) H s1 := inv_start S hr.hd e0 (len _ _ _ _ hsp) rv x
  apply wpAny_mono (ht.run [] s1 (start N vs) H _ I hq)
  · intro fl s' hs
    cases fl with
    | ret u =>
      obtain ⟨v, σ', H', J, r1, q⟩ := hs
      exact ⟨v, H', J.os, J.bare, J.base, J.hok, r1, q⟩
    | next =>
      obtain ⟨σ', H', J, q⟩ := hs
      exact ⟨V.non, H', J.os, J.bare, J.base, J.hok, rfl, q⟩
    | brk => exact hs.elim fun _ h => h.elim fun _ h => h.2.elim
    | cont => exact hs.elim fun _ h => h.elim fun _ h => h.2.elim
  · intro e s' hs
    exact hs
end
/-- a def as one that asks for no repr -/
theorem FnG.ofOk {P : Program} {w : World} {K : PySem.W.Frag} {mg : Str → Option Value} {base : Heap} {CX : CXT} {k : Nat} {f : Addr} {fd : FuncData} {ps : List Str} {sp : Sp} (F : FnOk P w K mg base CX k f fd ps sp) : FnG P w K mg base CX k f fd ps sp :=
  ⟨F.len, fun A outer s H args us vs Q E _ hr => F.run A outer s H args us vs Q E hr⟩
structure CalG (P : Program) (w : World) (K : PySem.W.Frag) (mg : Str → Option Value) (base : Heap) (CX : CXT) (k : Nat) (x : Str) (sp : Sp) : Prop where
  ex : ∃ (f : Addr) (fd : FuncData) (ps : List Str), FnG P w K mg base CX k f fd ps sp ∧ mg x = some (.ref f) ∧ PySem.W.keepIn K (.ref f) = true ∧ Binds K fd ps []
section
variable {X : Cx} {k j : Nat} {x : Str} {sp : Sp} {p pos : Pos} {e : Expr} {es : List Expr} {t : TA}
theorem pe_kG (c : CalG X.prog X.w X.K X.mg X.base CX0 k x sp) (gd : X.A.guards = some []) (hr : Room j X.A) (hk : k ≤ j) (hg : Gl X x) (ha : PA X (e :: es) t)
    (hdb : (x == ("__debug__" : Str)) = false := by decide) (he : starEach (e :: es) X.env = (false, eval e X.env) :: starEach es X.env := by rfl) (hpl : (backTo pos (starEach es X.env)).any (·.1) = false := by rfl) :
    PE X (.Call (.Name x p) (e :: es) [] pos) (tCall sp [] E0 t) := by
  obtain ⟨f, fd, ps, F, hm, kp, b⟩ := c.ex
  constructor
  intro pins s σ H Q I h
  apply wpAny_Call_Name_kw
  apply ld_glob I hg hm _ hdb
  refine PySem.W.callWith_K (h₀ := X.base) I.ok.mod.kin kp (thn (ha.run pos pins s σ H _ I h) ?_) he hpl
  rintro us s1 ⟨vs, H1, I1, r, q⟩
  refine ⟨I1.kIn, ?_⟩
  have q' : sp vs H1 Q E0 := by
    have := q
    rwa [List.append_nil] at this
  have hl : us.length = ps.length := by
    rw [← r.length]
    exact F.len _ _ _ _ q'
  have bb := b s1 us I1.kIn (by rw [List.append_nil]; exact hl)
  rw [List.append_nil] at bb
  refine wpAny_call (codeAny_mono (F.go X.A X.stack s1 H1 ⟨us, []⟩ us vs Q E0 gd (hr.mono hk) I1.env0 bb r q') ?_)
  intro fl s' hq
  cases fl with
  | error e => exact pass0 pins σ H1 s1 e s' I1 hq
  | ok fl =>
    cases fl with
    | ret u => exact I1.after hq
    | next => exact hq.elim
    | brk => exact hq.elim
    | cont => exact hq.elim
end
section
variable {P : Program} {w : World} {K : PySem.W.Frag} {mg : Str → Option Value} {base : Heap}
theorem calG {CX : CXT} {x : Str} {st : Stmt} {N ps : List Str} {k : Nat} {sp : Sp} (F : Df K mg x st) (S : FnScope N ps (defScope st)) (hb : BindsEq x st ps) (len : ∀ vs H Q E, sp vs H Q E → vs.length = ps.length)
    (hbody : ∀ (f : Addr) (cdv : Value) (A : Around) (outer : List Env) (s : Shared) (H : Hp) (vs : List V) (Q : VK) (E : XK), A.guards = some [] → Room k (A.deeper (envOfC x (defScope st) s.heap.objs.size f cdv)) → sp vs H Q E →
      ∃ t, PSs (cxOf CX P w K mg base N x (defScope st) f cdv A outer s H E) (defBody st) t ∧ t { nx := fun _ H' => Q .non H', rt := Q } (start N vs) H) : CalG P w K mg base CX (k + 1) x sp := by
  obtain ⟨f, fd, F, hm⟩ := F.ex
  exact ⟨f, fd, ps, FnG.of F S len (fun cdv A outer s H vs Q E gd hr h => hbody f cdv A outer s H vs Q E gd hr h), hm, F.kp, F.bindsN hb⟩
end
end LW

namespace LW
open PySem PySem.Spec PyProof.Rows L2
open Evl (Ex)
/-! ### the law's own call, with sys.modules in the base -/
theorem call_lawG {P : Program} {w : World} {K : PySem.W.Frag} {mg mb : Str → Option Value} {CX : CXT} {k : Nat} {fa a : Addr} {fd : FuncData} {x : Str} {sp : Sp} {s₁ : Shared} {vs : List Value} {ns : List Int}
    (KX : K.In s₁.heap) (hns : s₁.heap.Ns mainGlobals mg) (hb : s₁.heap.Ns builtinsNs mb) (hbb : ∀ x : Str, x ≠ "__name__" → mb x = bootBuiltins x) (hlim : s₁.heap.NoLimit) (hsy : ∃ mm, s₁.heap.Ns sysModules mm) (hg : s₁.gens = #[])
    (ha : s₁.heap.get? a = some { cls := .type "list", data := .seq vs.toArray }) (hi : IntsAre vs ns) (hl : ns.length ≤ sizeLine) (hr : Room k callerA)
    (F : ∀ base : Heap, K.In base → base.Ns mainGlobals mg → (∃ mm, base.Ns sysModules mm) → FnG P w K mg base CX k fa fd [x] sp) (hbind : ∀ (s : Shared) (u : Value), BindsTo s fd ⟨[u], []⟩ [(x, u)])
    (hsp : ∀ H : Hp, Only H → SqL K H a (ns.map V.int) → sp [.ref a] H (fun v _ => v = .bl true) fun _ _ _ => False)
    (hCX : ∀ H e s', CX [] H s₁ (fun _ _ _ => False) e s' → False) :
    codeAny (model P w) callerA (.call (.ref fa) ⟨[.ref a], []⟩) (fun r s' => r = .ok (.ret (.bool true)) ∧ OldK s₁.heap s'.heap ∧ s'.os = s₁.os ∧ AllBare s'.gens) s₁ := by
  have lenV := hi.length
  have core : ∀ H : Hp, Only H → SqL K H a (ns.map V.int) → HOk P w H s₁.heap → (∀ b, H b ≠ none → b = a) → (H a ≠ none → K.lookup a = none) →
      codeAny (model P w) callerA (.call (.ref fa) ⟨[.ref a], []⟩) (fun r s' => r = .ok (.ret (.bool true)) ∧ OldK s₁.heap s'.heap ∧ s'.os = s₁.os ∧ AllBare s'.gens) s₁ := by
    intro H hO hS hok hA hK
    have eqa : ∀ {b : Addr} {u : HO}, H b = some u → b = a := fun {b u} q => hA b (by rw [q]; exact nofun)
    have nsK : ∀ {b : Addr} {m : Str → Option Value}, s₁.heap.Ns b m → (hidT s₁.heap H).Ns b m := by
      rintro b m ⟨o, es, ep, e, d, r⟩
      refine ⟨o, es, ep, hidT_get e ?_, d, r⟩
      cases q : H b with
      | none => rfl
      | some u =>
        cases eqa q
        rw [ha] at e
        cases e
        exact nomatch d
    have hKb : K.In (hidT s₁.heap H) := by
      intro b o e
      refine hidT_get (KX b o e) ?_
      cases q : H b with
      | none => rfl
      | some u =>
        cases eqa q
        rw [hK (by rw [q]; exact nofun)] at e
        cases e
    have hM : Mod K mg (hidT s₁.heap H) := by
      refine ⟨hKb, nsK hns, ⟨mb, nsK hb, hbb⟩, ?_⟩
      obtain ⟨mc, h1, h2⟩ := hlim
      exact ⟨mc, nsK h1, h2⟩
    have hsy' : ∃ mm, (hidT s₁.heap H).Ns sysModules mm := by
      obtain ⟨mm, h1⟩ := hsy
      exact ⟨mm, nsK h1⟩
    have e0 : Env0 P w K mg (hidT s₁.heap H) callerA [] s₁ H := ⟨rfl, hM, fun b o e => of_hidT e, Nat.le_of_eq (hidT_size _ _), trivial, (fun b hb => nomatch (show b ∈ ([] : List Addr) from hb)), hok, .of_eq hg⟩
    refine codeAny_mono ((F _ hKb (nsK hns) hsy').go callerA [] s₁ H ⟨[.ref a], []⟩ [.ref a] [.ref a] _ _ rfl hr e0 (hbind s₁ (.ref a)) (.cons rfl .nil) (hsp H hO hS)) ?_
    intro r s' h
    match r, h with
    | .error e, h => exact (hCX H e s' h).elim
    | .ok .next, h => exact h.elim
    | .ok .brk, h => exact h.elim
    | .ok .cont, h => exact h.elim
    | .ok (.ret u), h =>
      obtain ⟨v, H', os, bare, un, hok', r', q⟩ := h
      cases (show v = .bl true from q)
      cases (show u = Value.bool true from r')
      refine ⟨rfl, OldK.of_keep ?_, os, bare⟩
      intro b o e
      cases q : H b with
      | none => exact un.keep b o e q (fun z => nomatch (show b ∈ ([] : List Addr) from z)) (fun z => nomatch z)
      | some u =>
        rcases hO b with z | ⟨ob, xs, z⟩
        · rw [q] at z
          cases z
        · obtain ⟨e1, _⟩ := hok b _ z
          obtain ⟨e2, _⟩ := hok' b _ (un.frzs b ob _ z)
          rw [e] at e1
          cases e1
          exact e2
  cases hk : K.lookup a with
  | some o =>
    have e := KX a o hk
    rw [ha] at e
    cases e
    refine core (fun _ => none) (fun _ => .inl rfl) (.inr ⟨_, vs.toArray, _, hk, rfl, rfl, rfl, ?_, ?_⟩) (fun b u z => nomatch (show (none : Option HO) = some u from z)) (fun b z => (z rfl).elim) fun z => (z rfl).elim
    · rw [List.size_toArray, lenV]
      exact hl
    · exact vals_ints hi
  | none =>
    refine core (upd (fun _ => none) a (.frz { cls := .type "list", data := .seq vs.toArray } (.lst (ns.map V.int)))) (fun b => ?_) (.inl (.inr ⟨{ cls := .type "list", data := .seq vs.toArray }, upd_same⟩)) (fun b u z => ?_) (fun b z => ?_) fun _ => hk
    · by_cases hb : b = a
      · subst hb
        exact .inr ⟨_, _, upd_same⟩
      · exact .inl (upd_ne hb)
    · by_cases hb : b = a
      · subst hb
        rw [upd_same] at z
        cases z
        exact ⟨ha, by rw [List.length_map]; exact hl, vs, _, vals_ints hi, ha⟩
      · rw [upd_ne hb] at z
        cases z
    · by_cases hb : b = a
      · exact hb
      · exact (z (upd_ne hb)).elim
theorem walkG {l : PySem.W.OpenLaw} {n k : Nat} {q : Program} {loose : List Str} {XP : (Str → Option Value) → Heap → Prop} {YP : World → Heap → Prop} {d : DefRec} {CX : CXT} {x : Str}
    (hn : l.most = some n) (hn2 : n ≤ sizeLine) (hdf : d.params.defaults = []) (hr : Room k callerA) (hi : importsNone q = true)
    (F : ∀ (w : World) (mg : Str → Option Value) (fa : Addr) (h : Heap), YP w h → h.Ns mainGlobals mg → mg d.name = some (.ref fa) →
      ∃ (K : PySem.W.Frag) (fd : FuncData) (sp : Sp), K.In h ∧ (∀ (s : Shared) (u : Value), BindsTo s fd ⟨[u], []⟩ [(x, u)]) ∧
        (∀ (H : Hp) (a : Addr) (ns : List Int), ns.length ≤ n → Only H → SqL K H a (ns.map V.int) → sp [.ref a] H (fun v _ => v = .bl true) fun _ _ _ => False) ∧
        ∀ base : Heap, K.In base → base.Ns mainGlobals mg → (∃ mm, base.Ns sysModules mm) → FnG l.prog w K mg base CX k fa fd [x] sp)
    (hCX : ∀ (H : Hp) (s : Shared) (e : Value) (s' : Shared), CX [] H s (fun _ _ _ => False) e s' → False) :
    PySem.W.WalkO q loose XP YP l.row.toRowW d [] (fun f vs => PySem.call f vs) := by
  apply Att.attach_call hn hdf
  intro w s₀ s₁ mg mb fa o pm cd doc a vs ns G Y ho hd hcd hmg hobj hints hlen hg
  obtain ⟨K, fd, sp, KX, hb, hsp, hF⟩ := F w mg fa _ Y G.T.g hmg
  obtain ⟨mm, hm, _⟩ := (G.T.seer hi).mods
  exact call_lawG KX G.T.g G.T.b G.T.builtins G.T.nolimit ⟨mm, hm⟩ hg hobj hints (Nat.le_trans hlen hn2) hr hF hb (fun H hO hS => hsp H a ns hlen hO hS) fun H e s' => hCX H s₁ e s'
end LW

namespace LW
open PySem PySem.Spec PyProof.Rows L2
open Evl (Ex)
/-! ### data in the tracked heap -/
def kD : Key → PyData
  | .inl i => .int i
  | .inr x => .str x
/-- a dict of one entry, whatever its key -/
def odd1 (a : Addr) (k v : V) : HO := .ext fun h => ∃ (o : Obj) (es : Array DictEntry) (ep : Nat) (e : DictEntry), (a == sysModules) = false ∧ h.get? a = some o ∧ o.ExactDict ∧ o.data = .dict es ep ∧ es.toList = [e] ∧ RelV k e.key ∧ RelV v e.val
mutual
def Dt (H : Hp) : PyData → V → Prop
  | .none, v => v = .non
  | .bool b, v => v = .bl b
  | .int i, v => v = .int i
  | .str x, v => v = .str x
  | .list ds, v => ∃ a vs, v = .ref a ∧ L2.Rd H a (.lst vs) ∧ DtL H ds vs
  | .tuple ds, v => ∃ a vs, v = .ref a ∧ L2.Rd H a (.tup vs) ∧ DtL H ds vs
  | .dict kvs, v => ∃ a, v = .ref a ∧ ((∃ es : List (Key × V), L2.Rd H a (.dK es) ∧ (es.map (·.1)).Nodup ∧ DtK H kvs es) ∨ ∃ k u, L2.Rd H a (odd1 a k u) ∧ DtO H kvs k u)
def DtL (H : Hp) : List PyData → List V → Prop
  | [], vs => vs = []
  | d :: r, vs => ∃ v t, vs = v :: t ∧ Dt H d v ∧ DtL H r t
def DtK (H : Hp) : List (PyData × PyData) → List (Key × V) → Prop
  | [], es => es = []
  | (k, d) :: r, es => ∃ x v t, es = (x, v) :: t ∧ k = kD x ∧ Dt H d v ∧ DtK H r t
def DtO (H : Hp) : List (PyData × PyData) → V → V → Prop
  | [], _, _ => False
  | (k, d) :: r, x, v => r = [] ∧ (∀ z, k ≠ .str z) ∧ Dt H k x ∧ Dt H d v
end
theorem rd_ex {H H' : Hp} (e : Ex H H') {a : Addr} {u : HO} (h : L2.Rd H a u) : L2.Rd H' a u := by
  rcases h with h | ⟨o, h⟩
  · exact .inl (e _ _ h)
  · exact .inr ⟨o, e _ _ h⟩
theorem rd_some {H : Hp} {a : Addr} {u : HO} (h : L2.Rd H a u) : ∃ o, H a = some o := by
  rcases h with h | ⟨o, h⟩
  · exact ⟨_, h⟩
  · exact ⟨_, h⟩
/-- what is readable in the one heap is so in the other -/
def NF (u : HO) : Prop := ∀ o' u', u ≠ .frz o' u'
def RdX (H H' : Hp) : Prop := ∀ a u, NF u → L2.Rd H a u → L2.Rd H' a u
theorem nf_lst {vs : List V} : NF (.lst vs) := fun _ _ h => by cases h
theorem nf_tup {vs : List V} : NF (.tup vs) := fun _ _ h => by cases h
theorem nf_dK {vs : List (Key × V)} : NF (.dK vs) := fun _ _ h => by cases h
theorem nf_odd {a : Addr} {k v : V} : NF (odd1 a k v) := fun _ _ h => by
  unfold odd1 at h
  cases h
theorem rdx_ex {H H' : Hp} (e : Ex H H') : RdX H H' := fun _ _ _ h => rd_ex e h
theorem RdX.trans {H H1 H2 : Hp} (a : RdX H H1) (b : RdX H1 H2) : RdX H H2 := fun c u n h => b c u n (a c u n h)
theorem rdx_lock {H : Hp} {a : Addr} {o : Obj} {u : HO} (h : H a = some u) (hu : NF u) : RdX H (upd H a (.frz o u)) := fun b x nx q => by
  by_cases e : b = a
  · subst e
    rcases q with q | ⟨o', q⟩
    · rw [h] at q
      cases q
      exact .inr ⟨o, upd_same⟩
    · rw [h] at q
      cases q
      exact (hu _ _ rfl).elim
  · rcases q with q | ⟨o', q⟩
    · exact .inl (by rw [upd_ne e]; exact q)
    · exact .inr ⟨o', by rw [upd_ne e]; exact q⟩
theorem rdx_free {H : Hp} {a : Addr} {o : Obj} {u : HO} (h : H a = some (.frz o u)) : RdX H (upd H a u) := fun b x nx q => by
  by_cases e : b = a
  · subst e
    rcases q with q | ⟨o', q⟩
    · rw [h] at q
      cases q
      exact (nx _ _ rfl).elim
    · rw [h] at q
      cases q
      exact .inl upd_same
  · rcases q with q | ⟨o', q⟩
    · exact .inl (by rw [upd_ne e]; exact q)
    · exact .inr ⟨o', by rw [upd_ne e]; exact q⟩
theorem rdx_upd {H : Hp} {a : Addr} {o : HO} (h : H a = none) : RdX H (upd H a o) := rdx_ex (Ex.new h)
mutual
theorem Dt.rdx {H H' : Hp} (e : RdX H H') : ∀ {d : PyData} {v : V}, Dt H d v → Dt H' d v
  | .none, _, h => h
  | .bool _, _, h => h
  | .int _, _, h => h
  | .str _, _, h => h
  | .list ds, _, h => by
    unfold Dt at h ⊢
    obtain ⟨a, vs, rfl, ha, hl⟩ := h
    exact ⟨a, vs, rfl, e _ _ nf_lst ha, DtL.rdx e hl⟩
  | .tuple ds, _, h => by
    unfold Dt at h ⊢
    obtain ⟨a, vs, rfl, ha, hl⟩ := h
    exact ⟨a, vs, rfl, e _ _ nf_tup ha, DtL.rdx e hl⟩
  | .dict kvs, _, h => by
    unfold Dt at h ⊢
    obtain ⟨a, rfl, ⟨es, ha, nd, hl⟩ | ⟨k, u, ha, hl⟩⟩ := h
    · exact ⟨a, rfl, .inl ⟨es, e _ _ nf_dK ha, nd, DtK.rdx e hl⟩⟩
    · exact ⟨a, rfl, .inr ⟨k, u, e _ _ nf_odd ha, DtO.rdx e hl⟩⟩
theorem DtL.rdx {H H' : Hp} (e : RdX H H') : ∀ {ds : List PyData} {vs : List V}, DtL H ds vs → DtL H' ds vs
  | [], _, h => h
  | d :: r, _, h => by
    unfold DtL at h ⊢
    obtain ⟨v, t, rfl, h1, h2⟩ := h
    exact ⟨v, t, rfl, Dt.rdx e h1, DtL.rdx e h2⟩
theorem DtK.rdx {H H' : Hp} (e : RdX H H') : ∀ {ds : List (PyData × PyData)} {es : List (Key × V)}, DtK H ds es → DtK H' ds es
  | [], _, h => h
  | (k, d) :: r, _, h => by
    unfold DtK at h ⊢
    obtain ⟨x, v, t, rfl, hk, h1, h2⟩ := h
    exact ⟨x, v, t, rfl, hk, Dt.rdx e h1, DtK.rdx e h2⟩
theorem DtO.rdx {H H' : Hp} (e : RdX H H') : ∀ {ds : List (PyData × PyData)} {k v : V}, DtO H ds k v → DtO H' ds k v
  | [], _, _, h => h
  | (k, d) :: r, _, _, h => by
    unfold DtO at h ⊢
    obtain ⟨hr, hz, h1, h2⟩ := h
    exact ⟨hr, hz, Dt.rdx e h1, Dt.rdx e h2⟩
end
theorem Dt.ex {H H' : Hp} (e : Ex H H') {d : PyData} {v : V} (h : Dt H d v) : Dt H' d v := h.rdx (rdx_ex e)
theorem DtL.ex {H H' : Hp} (e : Ex H H') {d : List PyData} {v : List V} (h : DtL H d v) : DtL H' d v := h.rdx (rdx_ex e)
theorem DtK.ex {H H' : Hp} (e : Ex H H') {d : List (PyData × PyData)} {v : List (Key × V)} (h : DtK H d v) : DtK H' d v := h.rdx (rdx_ex e)
/-! ### lists of data -/
theorem DtL.len {H : Hp} : ∀ {ds : List PyData} {vs : List V}, DtL H ds vs → vs.length = ds.length
  | [], _, h => by unfold DtL at h; rw [h] <;> rfl
  | d :: r, _, h => by
    unfold DtL at h
    obtain ⟨v, t, rfl, _, h2⟩ := h
    rw [List.length_cons, List.length_cons, DtL.len h2]
theorem DtL.get {H : Hp} : ∀ {ds : List PyData} {vs : List V} {i : Nat} {v : V}, DtL H ds vs → vs[i]? = some v → ∃ d, ds[i]? = some d ∧ Dt H d v
  | [], _, i, v, h, e => by unfold DtL at h; rw [h] at e; simp at e
  | d :: r, _, 0, v, h, e => by
    unfold DtL at h
    obtain ⟨v, t, rfl, h1, h2⟩ := h
    simp only [List.getElem?_cons_zero, Option.some.injEq] at e
    subst e
    exact ⟨d, rfl, h1⟩
  | d :: r, _, i + 1, v, h, e => by
    unfold DtL at h
    obtain ⟨v, t, rfl, h1, h2⟩ := h
    rw [List.getElem?_cons_succ] at e ⊢
    exact DtL.get h2 e
theorem DtL.nil {H : Hp} : DtL H [] [] := by unfold DtL; rfl
theorem DtL.cons {H : Hp} {d : PyData} {v : V} {ds : List PyData} {vs : List V} (h : Dt H d v) (t : DtL H ds vs) : DtL H (d :: ds) (v :: vs) := by
  unfold DtL
  exact ⟨v, vs, rfl, h, t⟩
theorem DtL.app {H : Hp} : ∀ {ds es : List PyData} {vs us : List V}, DtL H ds vs → DtL H es us → DtL H (ds ++ es) (vs ++ us)
  | [], _, _, _, h, t => by unfold DtL at h; rw [h]; exact t
  | d :: r, _, _, _, h, t => by
    unfold DtL at h
    obtain ⟨v, q, rfl, h1, h2⟩ := h
    exact DtL.cons h1 (DtL.app h2 t)
/-! ### what the true heap reads -/
theorem keyIs_reads {h : Heap} {k : Key} {v : Value} (e : keyIs k v = true) : Reads h v (kD k) [] := by
  rcases keyIs_shape e with ⟨i, t, rfl, rfl⟩ | ⟨x, t, rfl, rfl⟩
  · exact .int i t
  · exact .str x t
mutual
theorem Dt.reads {P : Program} {w : World} {H : Hp} {h : Heap} (ok : HOk P w H h) (ns : ∀ a o, H a = some o → a ≠ sysModules) : ∀ {d : PyData} {v : V} {u : Value}, Dt H d v → RelV v u → ∃ as, Reads h u d as ∧ sysModules ∉ as
  | .none, v, u, q, r => by
    unfold Dt at q
    subst q
    cases (show u = Value.none from r)
    exact ⟨_, .none, nofun⟩
  | .bool b, v, u, q, r => by
    unfold Dt at q
    subst q
    cases (show u = Value.bool b from r)
    exact ⟨_, .bool b, nofun⟩
  | .int i, v, u, q, r => by
    unfold Dt at q
    subst q
    obtain ⟨t, rfl⟩ := r
    exact ⟨_, .int i t, nofun⟩
  | .str x, v, u, q, r => by
    unfold Dt at q
    subst q
    obtain ⟨t, rfl⟩ := r
    exact ⟨_, .str x t, nofun⟩
  | .list ds, v, u, q, r => by
    unfold Dt at q
    obtain ⟨a, vs, rfl, ha, hl⟩ := q
    cases (show u = Value.ref a from r)
    obtain ⟨_, its, n, rv, e⟩ := ha.ok ok
    obtain ⟨as, hr, hn⟩ := DtL.reads ok ns hl rv
    refine ⟨a :: as, .list e rfl rfl (by simpa using hr), fun z => ?_⟩
    rcases List.mem_cons.mp z with z | z
    · exact (rd_some ha).elim fun _ q => ns a _ q z.symm
    · exact hn z
  | .tuple ds, v, u, q, r => by
    unfold Dt at q
    obtain ⟨a, vs, rfl, ha, hl⟩ := q
    cases (show u = Value.ref a from r)
    obtain ⟨_, its, rv, o, e, hc, n, hd⟩ := ha.ok ok
    obtain ⟨as, hr, hn⟩ := DtL.reads ok ns hl rv
    exact ⟨as, .tuple e hc hd (by simpa using hr), hn⟩
  | .dict kvs, v, u, q, r => by
    unfold Dt at q
    obtain ⟨a, rfl, ⟨es, ha, nd, hl⟩ | ⟨k, x, ha, hl⟩⟩ := q
    · cases (show u = Value.ref a from r)
      obtain ⟨_, hs, vs, rk, o, rs, ep, e, hx, hd, _, pr, _⟩ := ha.ok ok
      obtain ⟨bs, hr, h2, hn⟩ := DtK.reads ok ns hl rk pr
      refine ⟨a :: [] ++ bs, .dict e hx.1 hd hr h2, fun z => ?_⟩
      rcases List.mem_cons.mp z with z | z
      · exact (rd_some ha).elim fun _ q => ns a _ q z.symm
      · exact hn z
    · cases (show u = Value.ref a from r)
      obtain ⟨⟨o, rs, ep, e, hs, e1, hx, hd, e2, rk, rv⟩, _, _⟩ := (show ObjOk P w H h a (.ext fun h => ∃ (o : Obj) (es : Array DictEntry) (ep : Nat) (e : DictEntry), (a == sysModules) = false ∧ h.get? a = some o ∧ o.ExactDict ∧ o.data = .dict es ep ∧ es.toList = [e] ∧ RelV k e.key ∧ RelV x e.val) from ha.ok ok)
      obtain ⟨as, bs, h1, h2, n1, n2⟩ := DtO.reads ok ns hl rk rv
      refine ⟨a :: as ++ bs, .dict e1 hx.1 hd (by rw [e2]; exact h1) (by rw [e2]; exact h2), fun z => ?_⟩
      rcases List.mem_cons.mp z with z | z
      · exact (rd_some ha).elim fun _ q => ns a _ q z.symm
      · rcases List.mem_append.mp z with z | z
        · exact n1 z
        · exact n2 z
theorem DtL.reads {P : Program} {w : World} {H : Hp} {h : Heap} (ok : HOk P w H h) (ns : ∀ a o, H a = some o → a ≠ sysModules) : ∀ {ds : List PyData} {vs : List V} {us : List Value}, DtL H ds vs → Vals vs us → ∃ as, ReadsAll h us ds as ∧ sysModules ∉ as
  | [], _, _, q, r => by
    unfold DtL at q
    subst q
    cases r
    exact ⟨_, .nil, nofun⟩
  | d :: ds, _, _, q, r => by
    unfold DtL at q
    obtain ⟨v, t, rfl, h1, h2⟩ := q
    cases r with
    | cons r1 r2 =>
      obtain ⟨as, a1, n1⟩ := Dt.reads ok ns h1 r1
      obtain ⟨bs, a2, n2⟩ := DtL.reads ok ns h2 r2
      exact ⟨_, .cons a1 a2, fun z => (List.mem_append.mp z).elim n1 n2⟩
theorem DtK.reads {P : Program} {w : World} {H : Hp} {h : Heap} (ok : HOk P w H h) (ns : ∀ a o, H a = some o → a ≠ sysModules) : ∀ {ds : List (PyData × PyData)} {es : List (Key × V)} {vs : List (Key × Value)} {rs : List DictEntry}, DtK H ds es → KV es vs → Pairs (mixKind P w) rs vs →
    ∃ bs, ReadsAll h (rs.map (·.key)) (ds.map (·.1)) [] ∧ ReadsAll h (rs.map (·.val)) (ds.map (·.2)) bs ∧ sysModules ∉ bs
  | [], _, _, rs, q, r, pr => by
    unfold DtK at q
    subst q
    cases r
    cases pr
    exact ⟨_, .nil, .nil, nofun⟩
  | (k, d) :: ds, _, _, rs, q, r, pr => by
    unfold DtK at q
    obtain ⟨x, v, t, rfl, rfl, h1, h2⟩ := q
    cases r with
    | cons r1 r2 =>
      rename_i y ys
      cases pr with
      | @cons e _ rs _ p1 p2 p3 =>
        obtain ⟨y1, y2⟩ := y
        obtain ⟨rk, rv⟩ := r1
        cases (show x = y1 from rk)
        obtain ⟨as, a1, n1⟩ := Dt.reads ok ns h1 (show RelV v e.val by rw [p2]; exact rv)
        obtain ⟨bs, b1, b2, n2⟩ := DtK.reads ok ns h2 r2 p3
        exact ⟨_, .cons (as := []) (bs := []) (keyIs_reads p1) b1, .cons a1 b2, fun z => (List.mem_append.mp z).elim n1 n2⟩
theorem DtO.reads {P : Program} {w : World} {H : Hp} {h : Heap} (ok : HOk P w H h) (ns : ∀ a o, H a = some o → a ≠ sysModules) : ∀ {ds : List (PyData × PyData)} {k v : V} {ku vu : Value}, DtO H ds k v → RelV k ku → RelV v vu →
    ∃ as bs, ReadsAll h [ku] (ds.map (·.1)) as ∧ ReadsAll h [vu] (ds.map (·.2)) bs ∧ sysModules ∉ as ∧ sysModules ∉ bs
  | [], _, _, _, _, q, _, _ => by
    unfold DtO at q
    exact q.elim
  | (k, d) :: ds, _, _, _, _, q, r1, r2 => by
    unfold DtO at q
    obtain ⟨rfl, _, h1, h2⟩ := q
    obtain ⟨as, a1, n1⟩ := Dt.reads ok ns h1 r1
    obtain ⟨bs, a2, n2⟩ := Dt.reads ok ns h2 r2
    refine ⟨_, _, .cons a1 .nil, .cons a2 .nil, ?_, ?_⟩
    · rw [List.append_nil]
      exact n1
    · rw [List.append_nil]
      exact n2
end
end LW

namespace LW
open PySem PySem.Spec PyProof.Rows L2
open Evl (Ex)
/-! ### repr of data -/
structure Calm (X : Cx) : Prop where
  gd : X.A.guards = some []
  sy : ∃ mm, X.base.Ns sysModules mm
  un : X.A.units + 180 < cLine
theorem Calm.of {X : Cx} {k : Nat} (gd : X.A.guards = some []) (sy : ∃ mm, X.base.Ns sysModules mm) (hr : Room k X.A) : Calm X := ⟨gd, sy, by have := hr.un; omega⟩
theorem inv_sys {X : Cx} {pins : List (Addr × Obj)} {σ : L2.St} {H : Hp} {s : Shared} (sy : ∃ mm, X.base.Ns sysModules mm) (I : Inv X pins σ H s) : ∀ a o, H a = some o → a ≠ sysModules := by
  intro a o h e
  subst e
  obtain ⟨mm, ob, es, ep, e, _⟩ := sy
  have q := (I.bs _ _ e).2
  rw [q] at h
  cases h
def rRep : List V → Hp → VK → Prop := fun xs H Q => ∃ v d, xs = [v] ∧ Dt H d v ∧ d.showable = true ∧ d.shown.length ≤ sizeLine ∧ d.depth ≤ 150 ∧ Q (.str d.shown) H
theorem call_repr {X : Cx} (c : Calm X) : CallR X (.builtin "repr") rRep := by
  intro pins s σ H xs us Q I r h
  obtain ⟨v, d, rfl, hd, hs, hz, hdp, q⟩ := h
  obtain ⟨u, rfl, ru⟩ := vals1 r
  have un := c.un
  obtain ⟨as, hr, hn⟩ := Dt.reads I.hok (inv_sys c.sy I) hd ru
  cases hr with
  | none =>
    simp only [PyData.shown] at q
    exact PySem.P.repr_of_none ⟨.str _, H, I.tok _, ⟨_, rfl⟩, q⟩
  | bool b =>
    simp only [PyData.shown] at q
    exact PySem.P.repr_of_bool ⟨.str _, H, I.tok _, ⟨_, rfl⟩, q⟩
  | int i t =>
    simp only [PyData.shown] at q
    exact PySem.P.repr_of_int (by simpa [PyData.showable] using hs) ⟨.str _, H, I.tok _, ⟨_, rfl⟩, q⟩
  | str x t =>
    simp only [PyData.shown] at q hz
    exact PySem.P.repr_of_str ⟨.str _, H, I.tok _, ⟨_, rfl⟩, q⟩ hz
  | list h1 h2 h3 h4 => exact repr_of_reads' (.list h1 h2 h3 h4) hs (fun _ => hn) c.gd (by omega) (fun _ _ e => e) (fun h' u tk k => ⟨.str _, H, I.kept (t' := tk) k, ⟨_, rfl⟩, q⟩) hz
  | tuple h1 h2 h3 h4 => exact repr_of_reads' (.tuple h1 h2 h3 h4) hs (fun _ => hn) c.gd (by omega) (fun _ _ e => e) (fun h' u tk k => ⟨.str _, H, I.kept (t' := tk) k, ⟨_, rfl⟩, q⟩) hz
  | dict h1 h2 h3 h4 h5 => exact repr_of_reads' (.dict h1 h2 h3 h4 h5) hs (fun _ => hn) c.gd (by omega) (fun _ _ e => e) (fun h' u tk k => ⟨.str _, H, I.kept (t' := tk) k, ⟨_, rfl⟩, q⟩) hz
end LW

namespace LW
open PySem PySem.Spec PyProof.Rows L2
open Evl (Ex)
/-! ### isinstance of data -/
def tyD : PyData → String
  | .none => "NoneType"
  | .bool _ => "bool"
  | .int _ => "int"
  | .str _ => "str"
  | .list _ => "list"
  | .tuple _ => "tuple"
  | .dict _ => "dict"
theorem rd_odd {P : Program} {w : World} {H : Hp} {h : Heap} {a : Addr} {k v : V} (ok : HOk P w H h) (r : L2.Rd H a (odd1 a k v)) :
    ∃ (o : Obj) (es : Array DictEntry) (ep : Nat) (e : DictEntry), (a == sysModules) = false ∧ h.get? a = some o ∧ o.ExactDict ∧ o.data = .dict es ep ∧ es.toList = [e] ∧ RelV k e.key ∧ RelV v e.val := (show ObjOk P w H h a (.ext fun h => ∃ (o : Obj) (es : Array DictEntry) (ep : Nat) (e : DictEntry), (a == sysModules) = false ∧ h.get? a = some o ∧ o.ExactDict ∧ o.data = .dict es ep ∧ es.toList = [e] ∧ RelV k e.key ∧ RelV v e.val) from r.ok ok).1
def rIsD (K : PySem.W.Frag) : List V → Hp → VK → Prop := fun xs H Q => ∃ (v : V) (d : PyData) (n : String) (b : Bool), xs = [v, .ty n] ∧ Dt H d v ∧ PySem.W.kitOne K (.type (tyD d)) (.type n) = some b ∧ Q (.bl b) H
theorem isD {X : Cx} (K : PySem.W.Frag) (hK : X.K = K := by rfl) : CallR X (.builtin "isinstance") (rIsD K) := by
  subst hK
  intro pins s σ H xs us Q I r h
  obtain ⟨v, d, n, b, rfl, hd, e, q⟩ := h
  have main : ∀ t, TyX X.K H v (.type t) → tyD d = t → wpAny (model X.prog X.w) X.A (call (.builtin "isinstance") us) (EP X pins σ Q) X.xe s := by
    intro t ht et
    refine call_isi pins s σ H _ us Q I r ⟨v, .ty n, .type t, .type n, b, rfl, .ty n, ht, ?_, q⟩
    rw [← et]
    exact e
  cases d with
  | none => unfold Dt at hd; subst hd; exact main _ (.base .non) rfl
  | bool y => unfold Dt at hd; subst hd; exact main _ (.base (.bl y)) rfl
  | int y => unfold Dt at hd; subst hd; exact main _ (.base (.int y)) rfl
  | str y => unfold Dt at hd; subst hd; exact main _ (.base (.str y)) rfl
  | list ds =>
    unfold Dt at hd
    obtain ⟨a, vs, rfl, ha | ⟨o, ha⟩, _⟩ := hd
    · exact main _ (.base (.lst ha)) rfl
    · exact main _ (.base (.frz ha)) rfl
  | tuple ds =>
    unfold Dt at hd
    obtain ⟨a, vs, rfl, ha | ⟨o, ha⟩, _⟩ := hd
    · exact main _ (.base (.tup ha)) rfl
    · exact main _ (.fTuple ha) rfl
  | dict kvs =>
    unfold Dt at hd
    obtain ⟨a, rfl, ⟨es, ha | ⟨o, ha⟩, _⟩ | ⟨k, u, ha, _⟩⟩ := hd
    · exact main _ (.base (.dK ha)) rfl
    · exact main _ (.fDict ha) rfl
    · obtain ⟨u1, u2, rfl, r1, r2⟩ := vals2 r
      cases (show u1 = Value.ref a from r1)
      cases (show u2 = Value.type n from r2)
      obtain ⟨o, es, ep, en, hs, e1, hx, _⟩ := rd_odd I.hok ha
      exact PySem.W.kia_one PySem.W.kitx_dict I.kIn (show ∃ o, _ from ⟨o, e1, hx.1⟩) e (fun z => nomatch z) fun tk => ⟨.bl b, H, I.tok tk, rfl, q⟩
/-! ### len of a dict -/
section
variable {prog : Program} {w : World} {A : Around} {E : Value → Shared → Prop} {s : Shared}
theorem len_raw {d : Addr} {o : Obj} {es : Array DictEntry} {ep : Nat} {Q : Value → Shared → Prop} (hd : (d == sysModules) = false) (ho : s.heap.get? d = some o) (hc : o.ExactDict) (hdat : o.data = .dict es ep) (hfit : (es.size : Int) < 2 ^ 63)
    (h : Q (.int es.size (s.toks + 1)) { s with toks := s.toks + 1 + 1 }) : wpAny (model prog w) A (call (.builtin "len") [.ref d]) Q E s := by
  have hT : s.TypeIs (.ref d) "dict" := ⟨o, ho, hc.1⟩
  have mt : MeetsIn prog w (Builtin.«dict.__len__» ⟨[.ref d], []⟩) (fun _ R s => s.heap.get? d = some o ∧ R (.ok (.ret (.int es.size s.toks))) { s with toks := s.toks + 1 }) :=
    .of_wp fun A R s q => by
      obtain ⟨ho, q⟩ := q
      show wpAny _ _ (dictSize d >>= _) _ _ s
      unfold dictSize
      apply wpAny_bind
      apply wpAny_bind
      apply wpAny_dictEntries ho hdat
      apply wpAny_pure
      show wpAny _ _ (Builtin.Dict.pendingCount d >>= _) _ _ s
      apply wpAny_bind
      apply wpAny_pendingCount_other hd
      apply wpAny_ret_mkInt
      exact q
  apply Calls.call_function_entry kind_len plain_len entry_len (args_len1 _)
  unfold Builtin.«len»
  refine wpAny_bind (m := oneArg "len" _) (wpAny_pure ?_)
  refine wpAny_bind (m := callSpecial? (.ref d) (Str.ofString "__len__")) (wpAny_callSpecial?_slot (name := Str.ofString "__len__") hT PySem.F.slot_dict_len (call_meetsIn PySem.F.slot_dict_len hT PySem.F.entry_dict_len (PySem.F.args_dict_len_1 _) mt ⟨ho, ?_⟩))
  show wpAny _ _ _ _ _ { s with toks := s.toks + 1 }
  apply wpAny_bind
  apply wpAny_holding
  apply wpAny_pure
  apply wpAny_bind
  apply wpAny_letGo
  show wpAny _ _ (if ((es.size : Nat) : Int) < 0 then _ else _) _ _ _
  rw [if_neg (by omega)]
  show wpAny _ _ (if ((es.size : Nat) : Int) ≥ 2 ^ 63 then _ else _) _ _ _
  rw [if_neg (by omega)]
  apply wpAny_bind
  apply wpAny_mkInt
  exact wpAny_pure ⟨_, rfl, h⟩
end
def rLnD : List V → Hp → VK → Prop := fun xs H Q => ∃ a, xs = [.ref a] ∧ ((∃ kvs, L2.Rd H a (.dK kvs) ∧ Q (.int kvs.length) H) ∨ ∃ k v, L2.Rd H a (odd1 a k v) ∧ Q (.int 1) H)
theorem lnD {X : Cx} : CallR X (.builtin "len") rLnD := by
  intro pins s σ H xs us Q I r h
  obtain ⟨a, rfl, ⟨kvs, ha, q⟩ | ⟨k, v, ha, q⟩⟩ := h
  · obtain ⟨u, rfl, ru⟩ := vals1 r
    cases (show u = Value.ref a from ru)
    exact d_len I ha fun t s' I' => ⟨.int kvs.length, H, I', ⟨_, rfl⟩, q⟩
  · obtain ⟨u, rfl, ru⟩ := vals1 r
    cases (show u = Value.ref a from ru)
    obtain ⟨o, es, ep, en, hs, e1, hx, hd, hl, _⟩ := rd_odd I.hok ha
    have hz : es.size = 1 := by
      rw [← Array.length_toList, hl]
      rfl
    refine len_raw hs e1 hx hd (by rw [hz]; decide) ?_
    rw [hz]
    exact ⟨.int 1, H, I.tok _, ⟨_, rfl⟩, q⟩
end LW

namespace LW
open PySem PySem.Spec PyProof.Rows L2
open Evl (Ex)
/-! ### for x in a dict, whatever its keys -/
def KeysAre (d : Addr) (u : HO) (ks : List V) : Prop := (∃ kvs : List (Key × V), u = .dK kvs ∧ ks = kvs.map fun p => kV p.1) ∨ ∃ k v, u = odd1 d k v ∧ ks = [k]
theorem pairs_at {P : Program} {w : World} : ∀ {rs : List DictEntry} {vs : List (Key × Value)} {kvs : List (Key × V)}, Pairs (mixKind P w) rs vs → KV kvs vs → rs.length = kvs.length ∧ ∀ (i : Nat) (x : V), (kvs.map fun p => kV p.1)[i]? = some x → ∃ en, rs[i]? = some en ∧ RelV x en.key := by
  intro rs vs kvs pr
  induction pr generalizing kvs with
  | nil =>
    intro r
    cases r
    exact ⟨rfl, fun i x e => by simp at e⟩
  | @cons en kv es vs h1 h2 h3 ih =>
    intro r
    cases r with
    | @cons p _ ps _ r1 r2 =>
      obtain ⟨l, g⟩ := ih r2
      refine ⟨by rw [List.length_cons, List.length_cons, l], ?_⟩
      intro i x e
      cases i with
      | zero =>
        rw [List.map_cons, List.getElem?_cons_zero] at e
        cases e
        refine ⟨en, rfl, relV_key ?_⟩
        rw [r1.1]
        exact h1
      | succ j =>
        rw [List.map_cons, List.getElem?_cons_succ] at e
        exact g j x e
section
variable {X : Cx} {pins : List (Addr × Obj)} {σ : L2.St} {H : Hp} {s : Shared} {d : Addr} {o : Obj}
theorem frz_keys {u : HO} {ks : List V} (I : Inv X pins σ H s) (h : H d = some (.frz o u)) (k : KeysAre d u ks) :
    (d == sysModules) = false ∧ s.heap.get? d = some o ∧ o.ExactDict ∧ ∃ (es : Array DictEntry) (ep : Nat), o.data = .dict es ep ∧ es.size = ks.length ∧ ∀ (i : Nat) (x : V), ks[i]? = some x → ∃ en, es[i]? = some en ∧ RelV x en.key := by
  rcases k with ⟨kvs, rfl, rfl⟩ | ⟨k, v, rfl, rfl⟩
  · obtain ⟨hd, _, hs, vs, kv, o', es, ep, ho, hx, hdt, _, pr, _⟩ := I.hok d _ h
    rw [hd] at ho
    cases ho
    obtain ⟨l, g⟩ := pairs_at pr kv
    refine ⟨hs, hd, hx, es, ep, hdt, ?_, fun i x e => ?_⟩
    · rw [← Array.length_toList, l, List.length_map]
    · obtain ⟨en, e1, e2⟩ := g i x e
      exact ⟨en, by rw [← Array.getElem?_toList]; exact e1, e2⟩
  · obtain ⟨hd, _⟩ := I.hok d _ h
    obtain ⟨o', es, ep, en, hs, e1, hx, hdt, hl, rk, _⟩ := rd_odd I.hok (.inr ⟨o, h⟩)
    rw [hd] at e1
    cases e1
    refine ⟨hs, hd, hx, es, ep, hdt, ?_, fun i x e => ?_⟩
    · rw [← Array.length_toList, hl]
      rfl
    · cases i with
      | zero =>
        cases e
        exact ⟨en, by rw [← Array.getElem?_toList, hl] <;> rfl, rk⟩
      | succ j => cases e
end
def Itka (d : Addr) (o : Obj) (u : HO) (ks : List V) : It :=
  ⟨fun i H => H d = some (.frz o u) ∧ i < ks.length, fun i H x H' => H' = H ∧ ks[i]? = some x, fun i H => H d = some (.frz o u) ∧ ks.length ≤ i⟩
theorem turn_ka {P : Program} {w : World} {K : PySem.W.Frag} {tg : Expr} {d : Addr} {o : Obj} {es : Array DictEntry} {ep : Nat} {u : HO} {ks : List V} (it : Addr) (hod : o.data = .dict es ep) (hk : KeysAre d u ks) :
    Turn P w K tg (Itka d o u ks) [it] it (fun i h => h.IsKeyIter it d i ks.length ep) where
  mem := List.mem_cons_self
  obj := by
    intro i h st b hb
    cases List.mem_singleton.mp hb
    obtain ⟨oi, e, c, dd⟩ := st
    refine ⟨oi, e, fun v z => ?_⟩
    rw [dd] at z
    cases z
  keep := by
    intro i h h' st k
    exact st.at fun oi e => k it List.mem_cons_self oi e
  item := by
    intro X hP hw hK hc i pins s σ H E I hf st hg
    subst hP hw hK
    obtain ⟨f0, f1, f2, f3, f4, f5⟩ := hf it List.mem_cons_self
    obtain ⟨hs, hgd, hx, es', ep', hdt, hsz, ent⟩ := frz_keys I hg.1 hk
    obtain ⟨rfl, rfl⟩ := dict_ep hod hdt
    obtain ⟨en, hen, rx⟩ := ent i _ (List.getElem?_eq_getElem hg.2)
    refine next_key_item st hgd hdt hsz hen ?_
    intro h' st' sb
    have I1 : Inv X pins σ H { s with heap := h' } := I.turned (t' := s.toks) (fun b ob hb e => (sb.2 b hb).trans e) f0 f1 f3 f4 f5
    obtain ⟨oi, e, c, dd⟩ := id st'
    exact ⟨en.key, rfl, go_of (s := { s with heap := h' }) e c dd (by decide) ⟨_, H, I1, rx, ⟨rfl, List.getElem?_eq_getElem hg.2⟩, st', fun b hb => (hf b hb).1⟩⟩
  done := by
    intro X hP hw hK hc i pins s σ H E I hf st hg
    subst hP hw hK
    obtain ⟨f0, f1, f2, f3, f4, f5⟩ := hf it List.mem_cons_self
    obtain ⟨hs, hgd, hx, es', ep', hdt, hsz, ent⟩ := frz_keys I hg.1 hk
    obtain ⟨rfl, rfl⟩ := dict_ep hod hdt
    refine next_key_end (I.ok.hd hc) st hgd hdt hsz hg.2 ?_
    intro h' eb
    exact ⟨rfl, I.turned (t' := s.toks) (fun b ob hb e => eb b ob hb e) f0 f1 f3 f4 f5⟩
  self := fun A i s Q E st h => wpAny_pyIter_keyiter st h
def iKa (td : TE) : TI := fun σ H R => td σ H fun x H1 => ∃ d o u ks, x = .ref d ∧ H1 d = some (.frz o u) ∧ KeysAre d u ks ∧ R (Itka d o u ks) H1
theorem pi_ka {X : Cx} {tg e : Expr} {td : TE} (he : PE X e td) : PI X tg e (iKa td) := by
  constructor
  intro pins s σ H R I h
  refine thn (he.run pins s σ H _ I h) ?_
  rintro v s1 ⟨x, H1, I1, rx, d, o, u, ks, rfl, hd, hk, q⟩
  cases (show v = Value.ref d from rx)
  obtain ⟨hs, hgd, hx, es, ep, hdt, hsz, _⟩ := frz_keys I1 hd hk
  refine iter_keys hs hgd hx hdt (pi_one (tk := s1.toks) I1 _ (turn_ka _ hdt hk) ⟨_, Heap.get?_push_size _ rfl, rfl, ?_⟩ q)
  rw [hsz] <;> rfl
/-! ### a loop over such keys -/
end LW

namespace LW
open PySem PySem.Spec PyProof.Rows L2
open Evl (Ex)
theorem walk_ka {d : Addr} {o : Obj} {u : HO} {ks : List V} : Walk (Itka d o u ks) ks.length (fun H => H d = some (.frz o u)) (YAt ks) :=
  ⟨fun _ _ hi q => ⟨q, hi⟩, fun _ q => ⟨q, Nat.le_refl _⟩, fun _ _ _ _ _ _ y => y⟩
/-! ### a dict of one entry, its key None or a tuple -/
def OddKey (H : Hp) (k : V) : Prop := k = .non ∨ ∃ t ks, k = .ref t ∧ H t = some (.tup (List.map kV ks))
def tOdd (tk tv : TE) : TE := fun σ H Q => ∀ p, H p = none → tPairs [(tk, tv)] σ (upd H p (.dK [])) fun ps H2 => ∃ k v, ps = [(k, v)] ∧ H2 p = some (.dK []) ∧ OddKey H2 k ∧ Q (.ref p) (upd H2 p (odd1 p k v))
theorem odd_ok {P : Program} {w : World} {H : Hp} {h : Heap} {a : Addr} {k v : V} {o : Obj} {es : Array DictEntry} {ep : Nat} {e : DictEntry} (hs : (a == sysModules) = false) (ho : h.get? a = some o) (hx : o.ExactDict) (hd : o.data = .dict es ep) (hl : es.toList = [e]) (rk : RelV k e.key) (rv : RelV v e.val) : ObjOk P w H h a (odd1 a k v) :=
  ⟨⟨o, es, ep, e, hs, ho, hx, hd, hl, rk, rv⟩, ⟨o, ho⟩, fun h1 h2 z kp => by
    obtain ⟨o, es, ep, e, hs, ho, q⟩ := z
    exact ⟨o, es, ep, e, hs, kp _ ho, q⟩⟩
theorem pe_odd {X : Cx} {k v : Expr} {tk tv : TE} {pos : Pos} (hu : X.A.units + 64 < cLine) (hk : PE X k tk) (hv : PE X v tv) : PE X (.Dict [some k] [v] pos) (tOdd tk tv) := by
  constructor
  intro pins s σ H Q I q
  have hn := I.hok.fresh (Nat.le_refl s.heap.objs.size)
  have I1 := I.laid (a := s.heap.objs.size) (o := .dK []) (h' := s.heap.push { cls := .type "dict", data := .dict #[] }) (t' := s.toks) (fun _ _ q => Heap.get?_push_of_some _ q) (Nat.le_refl _) (dk_empty s.heap I.big)
  refine wpAny_Dict_any (keys := [some k]) (values := [v]) rfl rfl nofun (by show 1 ≤ 15; decide) ?_
  refine thn ((pps_cons (pos := pos) hk hv pps_nil).run pins _ σ _ _ I1 (q _ hn)) ?_
  rintro ws s2 ⟨ps, H2, I2, rel, kk, vv, rfl, e, ok, q2⟩
  obtain ⟨_, hd, vs0, r0, dd⟩ := dk_of I2.hok e
  cases r0
  have fin : ∀ (h' : Heap) (tk' : Nat) (o : Obj) (es : Array DictEntry) (ep : Nat) (en : DictEntry), Heap.SameBut s.heap.objs.size s2.heap h' → h'.get? s.heap.objs.size = some o → o.ExactDict → o.data = .dict es ep → es.toList = [en] → RelV kk en.key → RelV vv en.val →
      EP X pins σ Q (.ref s.heap.objs.size) { s2 with heap := h', toks := tk' } := by
    intro h' tk' o es ep en hs ho hx hdt hl rk rv
    refine ⟨.ref s.heap.objs.size, _, ?_, rfl, q2⟩
    exact d_write I2 (by rw [e]; exact True.intro) hs ⟨o, ho⟩ (odd_ok hd ho hx hdt hl rk rv)
  cases rel with
  | @cons a b as bs r1 r2 =>
    cases r2
    obtain ⟨b1, b2⟩ := b
    obtain ⟨rk, rv⟩ := r1
    rcases ok with rfl | ⟨t, ks, rfl, ht⟩
    · cases (show b1 = Value.none from rk)
      have em : s2.heap.DictOf (noneKind X.prog X.w) s.heap.objs.size [] := by
        obtain ⟨o, es, ep, h1, h2, h3, h4, h5, h6⟩ := dd
        have he : es = #[] := by
          have : es.toList = [] := by
            cases h7 : es.toList with
            | nil => rfl
            | cons a b =>
              rw [h7] at h5
              cases h5
          exact Array.toList_eq_nil_iff.mp this
        subst he
        exact ⟨o, _, ep, h1, h2, h3, (by intro i hi; simp at hi), .nil, List.nodup_nil⟩
      refine wpAny_storeAll (knd := noneKind X.prog X.w) [(.none, b2)] [(none, b2)] [] s2 _ ⟨rfl, rfl, True.intro⟩ em (by show 0 + 1 ≤ sizeLine; decide) ?_
      intro h' dd' hs
      obtain ⟨o, es, ep, h1, h2, h3, h4, h5, h6⟩ := dd'
      have h5' : Pairs (noneKind X.prog X.w) es.toList [(none, b2)] := h5
      cases hh : es.toList with
      | nil =>
        rw [hh] at h5'
        cases h5'
      | cons en r =>
        rw [hh] at h5'
        cases h5' with
        | cons p1 p2 p3 =>
          cases p3
          refine fin h' _ o es ep en hs h1 h2 h3 hh ?_ ?_
          · exact nk_none p1
          · rw [p2]
            exact rv
    · cases (show b1 = Value.ref t from rk)
      have em : s2.heap.DictOfH (tupleKind (mixKind X.prog X.w)) s.heap.objs.size [] := by
        obtain ⟨o, es, ep, h1, h2, h3, h4, h5, h6⟩ := dd
        refine ⟨o, es, ep, h1, h2, h3, ?_, nofun, List.nodup_nil⟩
        cases h7 : es.toList with
        | nil => rfl
        | cons a b =>
          rw [h7] at h5
          cases h5
      refine PySem.wpAny_storeAllH (knd := tupleKind (mixKind X.prog X.w)) (show X.A.units < cLine by omega) [(.ref t, b2)] [(ks, t, b2)] [] s2 _ ⟨rfl, rfl, key_of I2.hok ht, True.intro⟩ em (by show 0 + 1 ≤ sizeLine; decide) ?_
      intro h' tk' dd' hs
      obtain ⟨o, es, ep, h1, h2, h3, h4, h5, h6⟩ := dd'
      exact fin h' tk' o es ep _ hs h1 h2 h3 h4 rfl rv
end LW

namespace LW
open PySem PySem.Spec PyProof.Rows L2
open Evl (Ex)
/-! ### o[i], o a list or a dict -/
def rIxA (K : PySem.W.Frag) : R2 := fun x y H Q => rIxL K x y H Q ∨ ∃ a kvs k v, x = .ref a ∧ y = kV k ∧ L2.Rd H a (.dK kvs) ∧ valV kvs k = some v ∧ Q v H
theorem ixA {X : Cx} (K : PySem.W.Frag) (hK : X.K = K := by rfl) : IxR X (rIxA K) := by
  subst hK
  intro value slice pins s σ H x y v u Q I rx ry h hs
  rcases h with h | ⟨a, kvs, k, z, rfl, rfl, ha, e, q⟩
  · exact ix_list value slice pins s σ H x y v u Q I rx ry h hs
  · cases (show v = Value.ref a from rx)
    obtain ⟨_, hd, vs, rel, dd⟩ := dk_rd I.hok ha
    obtain ⟨w', hw, rw'⟩ := RelO.some_of (v := z) (o := valueAt vs k) (by rw [← e]; exact rel.val k)
    exact subscriptTail_builtinR (x := w') dd.typeIs PySem.F.slot_dict_getitem.lookup (wpAny_getItem_of (Q := fun r s' => r = w' ∧ EP X pins σ Q r s') (kV_is ry) dd.mapOf hw ⟨rfl, z, H, I.tok _, rw', q⟩) hs
/-! ### o[i] = v, o a list or a dict -/
def rSetA : TSet := fun o i v H Q => rSetL o i v H Q ∨ rSetD o i v H Q
theorem setA {X : Cx} (hu : X.A.units + 1 < cLine) : PSet X rSetA := by
  intro pins s σ H o i v ov iv u Q I ro ri rv h
  rcases h with h | h
  · exact set_list pins s σ H o i v ov iv u Q I ro ri rv h
  · exact set_dict hu pins s σ H o i v ov iv u Q I ro ri rv h
end LW

namespace LW
open PySem PySem.Spec PyProof.Rows L2
open Evl (Ex)
/-! ### a comprehension without a test while the heap only grows: R by the turn, what was gathered, the heap without the new list -/
def LcP (R : Nat → List V → Hp → Prop) (H1 : Hp) (D : Addr) (i : Nat) (H : Hp) : Prop := ∃ acc, Ex H1 (del H D) ∧ H D = some (.lst acc) ∧ acc.length = i ∧ R i acc (del H D)
theorem lc_put {R : Nat → List V → Hp → Prop} {H1 H H4 : Hp} {D : Addr} {i : Nat} {acc : List V} {y : V} (e1 : Ex H1 (del H D)) (hD : H D = some (.lst acc)) (hl : acc.length = i) (hi : i < 100000) (e : Ex H H4) (r : R (i + 1) (acc ++ [y]) (del H4 D)) :
    ∃ acc, H4 D = some (.lst acc) ∧ acc.length < sizeLine ∧ LcP R H1 D (i + 1) (upd H4 D (.lst (acc ++ [y]))) := by
  refine ⟨acc, e _ _ hD, szlt (by omega), acc ++ [y], ?_, upd_same, ?_, ?_⟩
  · exact e1.trans (del_grow e)
  · rw [List.length_append, hl]
    rfl
  · rw [show del (upd H4 D (.lst (acc ++ [y]))) D = del H4 D from ?_]
    · exact r
    · funext b
      by_cases hb : b = D
      · rw [hb, del_same, del_same]
      · rw [del_ne hb, del_ne hb, upd_ne hb]
theorem del_none {H : Hp} {D : Addr} {o : HO} (h : H D = none) : del (upd H D o) D = H := by
  funext b
  by_cases hb : b = D
  · rw [hb, del_same, h]
  · rw [del_ne hb, upd_ne hb]
theorem lc_gr {J : It} {n : Nat} {G : Hp → Prop} {Y : Nat → Hp → V → Hp → Prop} (w : Walk J n G Y) {g : TG} {tt : TT} {te : TE} {vs : List Nat} {σ : L2.St} {H1 : Hp} {D : Addr} {Qd : Hp → Prop} (R : Nat → List V → Hp → Prop)
    (np : H1 D = none) (hn : n ≤ 100000) (h0 : R 0 [] H1) (hG : ∀ H, Ex H1 H → G H)
    (hs : ∀ i x acc H H', i < n → Ex H1 H → Ex H1 (del H D) → H D = some (.lst acc) → acc.length = i → R i acc (del H D) → Y i H x H' → g x (wipe σ vs) H' fun σ2 H2 => wipe σ2 vs = wipe σ vs ∧ tt σ2 H2 fun b H3 =>
      if b = true then te σ2 H3 fun y H4 => ∃ acc, H4 D = some (.lst acc) ∧ acc.length < sizeLine ∧ LcP R H1 D (i + 1) (upd H4 D (.lst (acc ++ [y]))) else LcP R H1 D (i + 1) H3)
    (hd : ∀ acc H, Ex H1 H → Ex H1 (del H D) → H D = some (.lst acc) → acc.length = n → R n acc (del H D) → Qd H) :
    ∃ W : Nat → Nat → Hp → Prop, (∃ m, W 0 m (upd H1 D (.lst []))) ∧ ∀ i m H, W i m H →
      (J.stop i H ∧ Qd H) ∨ (J.go i H ∧ ∃ Nx : Hp → Prop, (∀ H', Nx H' → ∃ m', m' < m ∧ W (i + 1) m' H') ∧ ∀ x H', J.yld i H x H' → g x (wipe σ vs) H' fun σ2 H2 => wipe σ2 vs = wipe σ vs ∧ tt σ2 H2 fun b H3 =>
        if b = true then te σ2 H3 fun y H4 => ∃ acc, H4 D = some (.lst acc) ∧ acc.length < sizeLine ∧ Nx (upd H4 D (.lst (acc ++ [y]))) else Nx H3) := by
  refine lc_it w (LcP R H1 D) ⟨[], ?_, upd_same, rfl, ?_⟩ ?_ ?_ ?_
  · rw [del_none np]
    exact fun _ _ h => h
  · rw [del_none np]
    exact h0
  · rintro i H hi ⟨acc, e, _⟩
    exact hG _ (e.trans ex_del)
  · rintro i x H H' hi ⟨acc, e, hD, hl, r⟩ y
    exact hs i x acc H H' hi (e.trans ex_del) e hD hl r y
  · rintro H ⟨acc, e, hD, hl, r⟩
    exact hd acc H (e.trans ex_del) e hD hl r
end LW

namespace LW
open PySem PySem.Spec L2
open Evl (Ex)
/-! ### small words -/
theorem if_t {c : Bool} {A B : Prop} (hc : c = true) (h : A) : if c = true then A else B := by
  rw [if_pos hc]
  exact h
theorem if_f {c : Bool} {A B : Prop} (hc : c = false) (h : B) : if c = true then A else B := by
  rw [hc, if_neg Bool.false_ne_true]
  exact h
theorem if_b {c : Bool} {A B : Prop} (h1 : c = true → A) (h2 : c = false → B) : if c = true then A else B := by
  cases c with
  | true => exact if_t rfl (h1 rfl)
  | false => exact if_f rfl (h2 rfl)
theorem at_some {α : Type} {xs : List α} {v : Int} (h0 : 0 ≤ v) (h1 : v < xs.length) : ∃ x, atI xs v = some x ∧ x ∈ xs ∧ xs[v.toNat]? = some x := by
  have hj : v.toNat < xs.length := by omega
  refine ⟨xs[v.toNat], ?_, List.getElem_mem hj, by simp [hj]⟩
  have e : ((v.toNat : Nat) : Int) = v := by omega
  have q : atI xs ((v.toNat : Nat) : Int) = some xs[v.toNat] := atI_nat (by simp [hj])
  rw [e] at q
  exact q
abbrev SqLo {K : PySem.W.Frag} {H : Hp} {a : Addr} {xs : List V} (h : H a = some (.lst xs)) : SqL K H a xs := Evl.sq_of h
abbrev SqTo {K : PySem.W.Frag} {H : Hp} {a : Addr} {xs : List V} (h : H a = some (.tup xs)) : SqT K H a xs := Evl.st_of h
/-! ### a statement while a dict is locked, or was locked already -/
def tLockA (t : TS) : TS := fun D σ H => tLock t D σ H ∨ t D σ H
theorem ps_lockA {X : Cx} {st : Stmt} {t : TS} (h : PS X st t) : PS X st (tLockA t) := by
  constructor
  intro pins s σ H D I hw
  rcases hw with hw | hw
  · exact (ps_lock h).run pins s σ H D I hw
  · exact h.run pins s σ H D I hw
theorem ex_unlock {H H' : Hp} {a : Addr} {o : Obj} {u : HO} (h : H a = some u) (e : Ex (upd H a (.frz o u)) H') : Ex H (upd H' a u) := fun b x q => by
  by_cases hb : b = a
  · subst hb
    rw [h] at q
    cases q
    exact upd_same
  · rw [upd_ne hb]
    exact e b x (by rw [upd_ne hb]; exact q)
/-- a returning statement over a dict that is locked or gets locked -/
theorem lockA_ret {t : TS} {D : Ends} {σ : L2.St} {H : Hp} {a : Addr} {u : HO} {y : V} (hu : L2.Rd H a u) (mu : Mut (some u)) (k : ∀ H', Ex H H' → D.rt y H')
    (body : ∀ (Hf : Hp) (o : Obj) (D' : Ends), RdX H Hf → Hf a = some (.frz o u) → (∀ H', Ex Hf H' → D'.rt y H') → t D' σ Hf) : tLockA t D σ H := by
  rcases hu with h | ⟨o, h⟩
  · left
    have nf : NF u := fun o' u' z => by
      rw [z] at mu
      exact mu
    refine ⟨a, u, h, mu, fun od => body _ od _ (rdx_lock h nf) upd_same ?_⟩
    intro H' e
    exact ⟨e _ _ upd_same, k _ (ex_unlock h e)⟩
  · right
    exact body H o D (fun _ _ _ h => h) h k
/-- the same, any result: th H' is the heap behind the unlocking -/
theorem lockA_any {t : TS} {D : Ends} {σ : L2.St} {H : Hp} {a : Addr} {u : HO} (hu : L2.Rd H a u) (mu : Mut (some u))
    (body : ∀ (Hf : Hp) (o : Obj) (D' : Ends) (th : Hp → Hp), RdX H Hf → Hf a = some (.frz o u) → (∀ b, Hf b = none → H b = none) → (∀ H', Ex Hf H' → Ex H (th H') ∧ RdX H' (th H') ∧ ∀ b, b ≠ a → th H' b = H' b) →
      (∀ v H', Ex Hf H' → D.rt v (th H') → D'.rt v H') → (∀ σ' H', Ex Hf H' → D.nx σ' (th H') → D'.nx σ' H') → t D' σ Hf) : tLockA t D σ H := by
  rcases hu with h | ⟨o, h⟩
  · left
    have nf : NF u := fun o' u' z => by
      rw [z] at mu
      exact mu
    refine ⟨a, u, h, mu, fun od => body _ od _ (fun H' => upd H' a u) (rdx_lock h nf) upd_same ?_ ?_ ?_ ?_⟩
    · intro b hb
      by_cases e : b = a
      · rw [e, upd_same] at hb
        cases hb
      · rw [upd_ne e] at hb
        exact hb
    · intro H' e
      exact ⟨ex_unlock h e, rdx_free (e _ _ upd_same), fun b hb => upd_ne hb⟩
    · intro v H' e q
      exact ⟨e _ _ upd_same, q⟩
    · intro v H' e q
      exact ⟨e _ _ upd_same, q⟩
  · right
    exact body H o D (fun H' => H') (fun _ _ _ h => h) h (fun _ h => h) (fun H' e => ⟨e, fun _ _ _ h => h, fun _ _ => rfl⟩) (fun _ _ _ q => q) (fun _ _ _ q => q)
theorem srK {X : Cx} (K : PySem.W.Frag) (h : X.K = K := by rfl) : CallR X (.builtin "sorted") (rSortedS K) := by
  subst h
  exact cr_sortedS
def rStrS : List V → Hp → VK → Prop := fun xs H Q => ∃ a, xs = [.str a] ∧ Q (.str a) H
theorem strS {X : Cx} : CallR X (.type "str") rStrS := SkE.call_str_str
def rLnA (K : PySem.W.Frag) : List V → Hp → VK → Prop := fun xs H Q => rLn K xs H Q ∨ rLnD xs H Q
theorem lnA {X : Cx} (K : PySem.W.Frag) (hK : X.K = K := by rfl) : CallR X (.builtin "len") (rLnA K) := by
  intro pins s σ H xs us Q I r h
  rcases h with h | h
  · exact lnK K hK pins s σ H xs us Q I r h
  · exact lnD pins s σ H xs us Q I r h
theorem pgc {X : Cx} {x : Str} {pos : Pos} {v : V} (hg : Gl X x) (h : ∃ u, X.mg x = some u ∧ RelV v u) (hd : (x == ("__debug__" : Str)) = false := by decide) : PE X (.Name x pos) (tC v) := by
  obtain ⟨u, hm, r⟩ := h
  exact pe_glob hg hm r hd
/-! ### pairs of lists -/
section
variable {α β : Type} {R S : α → β → Prop}
theorem Paired.imp (f : ∀ a b, R a b → S a b) : ∀ {l : List α} {m : List β}, Paired R l m → Paired S l m
  | _, _, .nil => .nil
  | _, _, .cons r t => .cons (f _ _ r) (Paired.imp f t)
theorem Paired.app : ∀ {l l' : List α} {m m' : List β}, Paired R l m → Paired R l' m' → Paired R (l ++ l') (m ++ m')
  | _, _, _, _, .nil, s => s
  | _, _, _, _, .cons r t, s => .cons r (Paired.app t s)
theorem Paired.get : ∀ {l : List α} {m : List β} {i : Nat} {a : α}, Paired R l m → l[i]? = some a → ∃ b, m[i]? = some b ∧ R a b
  | _, _, _, _, .nil, e => by simp at e
  | _, _, 0, _, .cons r _, e => by
    simp at e
    subst e
    exact ⟨_, rfl, r⟩
  | _, _, i + 1, a, .cons _ t, e => by
    obtain ⟨b, h1, h2⟩ := Paired.get (i := i) (a := a) t (by simpa using e)
    exact ⟨b, by simpa using h1, h2⟩
theorem Paired.get' : ∀ {l : List α} {m : List β} {i : Nat} {b : β}, Paired R l m → m[i]? = some b → ∃ a, l[i]? = some a ∧ R a b
  | _, _, _, _, .nil, e => by simp at e
  | _, _, 0, _, .cons r _, e => by
    simp at e
    subst e
    exact ⟨_, rfl, r⟩
  | _, _, i + 1, a, .cons _ t, e => by
    obtain ⟨b, h1, h2⟩ := Paired.get' (i := i) (b := a) t (by simpa using e)
    exact ⟨b, by simpa using h1, h2⟩
theorem Paired.len : ∀ {l : List α} {m : List β}, Paired R l m → l.length = m.length
  | _, _, .nil => rfl
  | _, _, .cons _ t => by simp [Paired.len t]
theorem Paired.of_get : ∀ {l : List α} {m : List β}, l.length = m.length → (∀ (i : Nat) (a : α) (b : β), l[i]? = some a → m[i]? = some b → R a b) → Paired R l m
  | [], [], _, _ => .nil
  | a :: l, b :: m, h, f => .cons (f 0 a b rfl rfl) (Paired.of_get (by simpa using h) fun i x y h1 h2 => f (i + 1) x y (by simpa using h1) (by simpa using h2))
end
end LW

namespace LW
open PySem PySem.Spec L2 PySem.SeqAt
open AutoSeq1 (wpAny_loadPart')
open MeetsSeq MeetsSeq2 MeetsSeq3 SeqRoads2
section
variable {prog : Program} {w : World}
/-- list != over items that are equal, one by one -/
theorem ne_same {p q : Addr} {xs ys : Array Value} {n m : Nat} {dp dq : Option Addr} {sp sq : Array (Option Value)} (hz : xs.size = ys.size) (left : Nat) :
    ∀ i : Nat, xs.size - i = left → MeetsIn prog w (Builtin.«list.__eq__.loop» ⟨[.ref p, .ref q, rawInt i, rawInt 3], []⟩) (fun A R s => s.heap.get? p = some ⟨.type "list", dp, .seq xs n, sp⟩ ∧ s.heap.get? q = some ⟨.type "list", dq, .seq ys m, sq⟩ ∧
        (∀ j (h1 : j < xs.size) (h2 : j < ys.size), EqP prog w A.in1 s xs[j] ys[j] true) ∧ R (.ok (.ret (.bool false))) s) := by
  induction left with
  | zero =>
    rintro i hi A R ⟨hp, g, d, tk, os⟩ ⟨ha, hb, he, h⟩
    wp_walk using wpAny_loadPart' ha, wpAny_loadPart' hb
    rw [show xs[((i : Nat) : Int).toNat]? = none by simp; omega, show ys[((i : Nat) : Int).toNat]? = none by simp; omega]
    wp_walk using wpAny_loadPart' ha, wpAny_loadPart' hb
    show R (.ok (.ret (.bool (xs.size != ys.size)))) _
    rw [hz, bne_self_eq_false]
    exact h
  | succ left ih =>
    rintro i hi A R ⟨hp, g, d, tk, os⟩ ⟨ha, hb, he, h⟩
    wp_walk using wpAny_loadPart' ha, wpAny_loadPart' hb
    have l1 : i < xs.size := by omega
    have l2 : i < ys.size := by omega
    rw [show xs[((i : Nat) : Int).toNat]? = some xs[i] by simp [l1], show ys[((i : Nat) : Int).toNat]? = some ys[i] by simp [l2]]
    refine wpAny_bind (he i l1 l2 _ _ ?_)
    wp_walk
    rw [show ((i : Int) + 1) = ((i + 1 : Nat) : Int) by omega]
    refine ⟨plainId_quiet plain_eq_loop _, codeAny_builtin entry_eq_loop ?_⟩
    rw [Around.under_plainId plain_eq_loop _]
    exact ih (i + 1) (by omega) A R _ ⟨ha, hb, he, h⟩
theorem list_ne_same {p q : Addr} {xs ys : Array Value} {n m : Nat} {dp dq : Option Addr} {sp sq : Array (Option Value)} (hz : xs.size = ys.size) :
    MeetsIn prog w (Builtin.«list.__ne__» ⟨[.ref p, .ref q], []⟩) (fun A R s => s.heap.get? p = some ⟨.type "list", dp, .seq xs n, sp⟩ ∧ s.heap.get? q = some ⟨.type "list", dq, .seq ys m, sq⟩ ∧
        (∀ j (h1 : j < xs.size) (h2 : j < ys.size), EqP prog w A.in1 s xs[j] ys[j] true) ∧ R (.ok (.ret (.bool false))) s) := by
  rintro A R ⟨hp, g, d, tk, os⟩ ⟨ha, hb, he, h⟩
  have sub := AutoSeq1.sub_list_list
  have lens : ¬ (xs.size != ys.size) = true := by simp [hz]
  wp_walk using wpAny_loadPart' ha, wpAny_loadPart' hb
  refine ⟨plainId_quiet plain_eq_loop _, codeAny_builtin entry_eq_loop ?_⟩
  rw [Around.under_plainId plain_eq_loop _]
  exact ne_same hz _ 0 rfl A R _ ⟨ha, hb, he, h⟩
theorem rcne_lists {A : Around} {s : Shared} {p q : Addr} {xs ys : Array Value} (ha : s.heap.IsList p xs) (hb : s.heap.IsList q ys) (hz : xs.size = ys.size) (hu : A.units < cLine)
    (he : ∀ j (h1 : j < xs.size) (h2 : j < ys.size), EqP prog w A.in1 s xs[j] ys[j] true) (E Q : Value → Shared → Prop) (h : Q (.bool false) s) : wpAny (model prog w) A (richCompare .NotEq (.ref p) (.ref q)) Q E s := by
  obtain ⟨⟨c1, d1, da1, s1⟩, o1, e1, n, e2⟩ := id ha
  obtain ⟨⟨c2, d2, da2, s2⟩, o2, e3, m, e4⟩ := id hb
  simp only at e1 e2 e3 e4
  subst e1 e2 e3 e4
  have t1 : s.TypeIs (.ref p) "list" := ⟨_, o1, rfl⟩
  have t2 : s.TypeIs (.ref q) "list" := ⟨_, o2, rfl⟩
  refine wpAny_richCompare_same_room (op := .NotEq) t1 t2 F.slot_list_ne (call_meetsIn F.slot_list_ne t1 F.entry_list_ne (F.args_list_ne_2 _ _) (list_ne_same hz) ⟨o1, o2, he, ?_⟩) hu
  exact ⟨(fun z => nomatch z), h⟩
theorem rcne_dicts {A : Around} {s : Shared} {κ : Type} [DecidableEq κ] {knd : KeyKind prog w κ} {a b : Addr} {ka kb : List (κ × Value)} (ha : (a == sysModules) = false) (hb : (b == sysModules) = false)
    (da : s.heap.DictOf knd a ka) (db : s.heap.DictOf knd b kb) (hu : A.units < cLine) (hl : ka.length = kb.length) (hits : PySem.W.KeqHitsP prog w A.in1 s kb ka true) (E Q : Value → Shared → Prop) (h : Q (.bool false) s) :
    wpAny (model prog w) A (richCompare .NotEq (.ref a) (.ref b)) Q E s := by
  refine wpAny_richCompare_same_room (op := .NotEq) da.typeIs db.typeIs F.slot_dict_ne (wpAny_call_entry F.slot_dict_ne da.typeIs F.entry_dict_ne ?_ (F.args_dict_ne_2 _ _)) hu
  show wpAny _ _ (Builtin.Dict.dictSlotArgs "__ne__" ⟨[Value.ref a, Value.ref b], []⟩ >>= _) _ _ s
  apply wpAny_bind
  unfold Builtin.Dict.dictSlotArgs
  refine wpAny_bind (wpAny_notOrdered_dict da.typeIs (show wpAny _ _ (pure (Value.ref a, Value.ref b)) _ _ s from wpAny_pure (wpAny_bind (wpAny_isInstance (T := "dict") db.typeIs F.sub_dict_dict ?_))))
  simp only [Bool.not_true, Bool.false_eq_true, if_false]
  refine wpAny_bind (wpAny_pure (wpAny_bind (wpAny_pure (wpAny_bind (PySem.W.samePairsP ha hb da db (fun _ => hits) ?_)))))
  refine wpAny_pure ⟨_, rfl, (fun z => nomatch z), ?_⟩
  rw [hl]
  simpa using h
end
/-! ### values with the same data are equal -/
mutual
def plainD : PyData → Prop
  | .int _ => True
  | .str _ => True
  | .list ds => plainL ds
  | .dict kvs => plainK kvs
  | _ => False
def plainL : List PyData → Prop
  | [] => True
  | d :: r => plainD d ∧ plainL r
def plainK : List (PyData × PyData) → Prop
  | [] => True
  | (k, d) :: r => (∃ x, k = .str x) ∧ plainD d ∧ plainK r
end
def Same (H : Hp) (n : Nat) (x y : V) : Prop := ∃ d, plainD d ∧ d.depth ≤ n ∧ Dt H d x ∧ Dt H d y
theorem same_list {H : Hp} {n : Nat} : ∀ {ds : List PyData} {xs ys : List V}, plainL ds → PyData.depthAll ds ≤ n → DtL H ds xs → DtL H ds ys → Paired (Same H n) xs ys
  | [], _, _, _, _, h, g => by
    unfold DtL at h g
    subst h g
    exact .nil
  | d :: r, _, _, hp, hd, h, g => by
    unfold plainL at hp
    unfold DtL at h g
    rw [PyData.depthAll] at hd
    obtain ⟨v, t, rfl, h1, h2⟩ := h
    obtain ⟨v', t', rfl, g1, g2⟩ := g
    exact .cons ⟨d, hp.1, by omega, h1, g1⟩ (same_list (n := n) hp.2 (by omega) h2 g2)
theorem same_keys {H : Hp} : ∀ {ds : List (PyData × PyData)} {xs ys : List (Key × V)}, plainK ds → DtK H ds xs → DtK H ds ys → xs.map (·.1) = ys.map (·.1)
  | [], _, _, _, h, g => by
    unfold DtK at h g
    subst h g
    rfl
  | (k, d) :: r, _, _, hp, h, g => by
    unfold plainK at hp
    unfold DtK at h g
    obtain ⟨x, v, t, rfl, hk, h1, h2⟩ := h
    obtain ⟨x', v', t', rfl, hk', g1, g2⟩ := g
    have e : x = x' := by
      rw [hk] at hk'
      cases x with
      | inl i => cases x' with
        | inl j => cases hk'; rfl
        | inr j => cases hk'
      | inr i => cases x' with
        | inl j => cases hk'
        | inr j => cases hk'; rfl
    rw [List.map_cons, List.map_cons, same_keys hp.2.2 h2 g2, e]
theorem val_cons {ls : List (Key × V)} {p : Key × V} {k : Key} {u : V} (h : valV ls k = some u) (hn : p.1 ∉ ls.map (·.1)) : valV (p :: ls) k = some u := by
  rw [valV_neg (p := p) fun e => ?_]
  · exact h
  · unfold valV at h
    cases f : ls.find? fun kv => decide (kv.1 = k) with
    | none =>
      rw [f] at h
      cases h
    | some q =>
      have h1 := List.mem_of_find?_eq_some f
      have h2 := List.find?_some f
      have h2 : q.1 = k := of_decide_eq_true h2
      exact hn (by rw [e, ← h2]; exact List.mem_map_of_mem h1)
theorem same_dict {H : Hp} {n : Nat} : ∀ {ds : List (PyData × PyData)} {xs ys : List (Key × V)}, plainK ds → PyData.depthKv ds ≤ n → (xs.map (·.1)).Nodup → DtK H ds xs → DtK H ds ys → ∀ p ∈ xs, ∃ u, valV ys p.1 = some u ∧ Same H n p.2 u
  | [], _, _, _, _, _, h, _ => by
    unfold DtK at h
    subst h
    exact nofun
  | (k, d) :: r, _, _, hp, hd, nd, h, g => by
    have hkeys := same_keys hp h g
    unfold plainK at hp
    unfold DtK at h g
    rw [PyData.depthKv] at hd
    obtain ⟨x, v, t, rfl, hk, h1, h2⟩ := h
    obtain ⟨x', v', t', rfl, hk', g1, g2⟩ := g
    rw [List.map_cons, List.map_cons] at hkeys
    have ex : x = x' := (List.cons.inj hkeys).1
    have et : t.map (·.1) = t'.map (·.1) := (List.cons.inj hkeys).2
    subst ex
    rw [List.map_cons, List.nodup_cons] at nd
    intro p hpm
    rcases List.mem_cons.mp hpm with rfl | hpm
    · exact ⟨v', valV_pos (p := (x, v')) rfl, d, hp.2.1, by omega, h1, g1⟩
    · obtain ⟨u, hu1, hu2⟩ := same_dict (n := n) hp.2.2 (by omega) nd.2 h2 g2 p hpm
      exact ⟨u, val_cons hu1 (by show x ∉ _; rw [← et]; exact nd.1), hu2⟩
theorem plain_no_odd {H : Hp} {ds : List (PyData × PyData)} {k v : V} (hp : plainK ds) (h : DtO H ds k v) : False := by
  match ds, hp, h with
  | [], _, h => unfold DtO at h; exact h
  | (kd, d) :: r, hp, h =>
    unfold DtO at h
    unfold plainK at hp
    obtain ⟨x, e⟩ := hp.1
    exact h.2.1 x e
section
variable {X : Cx} {pins : List (Addr × Obj)} {σ : L2.St} {H : Hp} {s : Shared}
theorem rd_list (I : L2.Inv X pins σ H s) {a : Addr} {xs : List V} (h : L2.Rd H a (.lst xs)) : ∃ us, Vals xs us ∧ s.heap.IsList a us.toArray := by
  obtain ⟨us, r, p, _⟩ := I.list (.inl h)
  exact ⟨us, r, p.isList⟩
/-- equality, and inequality, of two places with the same data -/
theorem same_run (I : L2.Inv X pins σ H s) : ∀ (n : Nat) (A : Around), A.units + n + 1 < cLine → ∀ (x y : V) (v u : Value), Same H n x y → RelV x v → RelV y u → EqP X.prog X.w A s v u true
  | n, A, hu, x, y, v, u, ⟨d, hp, hd, h, g⟩, rx, ry => by
    cases d with
    | int i =>
      unfold Dt at h g
      subst h g
      exact (eqAt_same rx ry rfl).eqP
    | str i =>
      unfold Dt at h g
      subst h g
      exact (eqAt_same rx ry rfl).eqP
    | list ds =>
      unfold plainD at hp
      rw [PyData.depth] at hd
      match n, hd with
      | n + 1, hd =>
      unfold Dt at h g
      obtain ⟨a, xs, rfl, ha, hl⟩ := h
      obtain ⟨b, ys, rfl, hb, gl⟩ := g
      cases (show v = Value.ref a from rx)
      cases (show u = Value.ref b from ry)
      by_cases e : a = b
      · subst e
        exact (SeqAt.EqAt.same _).eqP
      obtain ⟨us, r1, p1⟩ := rd_list I ha
      obtain ⟨ws, r2, p2⟩ := rd_list I hb
      have pr := same_list (n := n) hp (by omega) hl gl
      have hsz : us.toArray.size = ws.toArray.size := by
        rw [List.size_toArray, List.size_toArray, ← r1.length, ← r2.length]
        exact Paired.length pr
      refine SeqAt.eqP_refs e fun E Q q => SeqAt.rcP_lists (e := fun _ => true) p1 p2 hsz (by omega) (fun j h1 h2 => ?_) E Q ?_
      · have k := items_run (same_run I n A.in1 (by show A.units + 1 + n + 1 < cLine; omega)) pr r1 r2 j (by simpa using h1) (by simpa using h2)
        simpa using k
      · rw [show ((List.range us.toArray.size).all fun _ => true) = true from List.all_eq_true.mpr fun _ _ => rfl]
        exact q
    | dict kvs =>
      unfold plainD at hp
      rw [PyData.depth] at hd
      match n, hd with
      | n + 1, hd =>
      unfold Dt at h g
      obtain ⟨a, rfl, ⟨es, ha, nd, hl⟩ | ⟨k1, k2, _, hl⟩⟩ := h
      rotate_left
      · exact (plain_no_odd hp hl).elim
      obtain ⟨b, rfl, ⟨fs, hb, nd', gl⟩ | ⟨k1, k2, _, gl⟩⟩ := g
      rotate_left
      · exact (plain_no_odd hp gl).elim
      cases (show v = Value.ref a from rx)
      cases (show u = Value.ref b from ry)
      by_cases e : a = b
      · subst e
        exact (SeqAt.EqAt.same _).eqP
      obtain ⟨_, ya, va, ra, da⟩ := (show ObjOk X.prog X.w H s.heap a (.dK es) from ha.ok I.hok)
      obtain ⟨_, yb, vb, rb, db⟩ := (show ObjOk X.prog X.w H s.heap b (.dK fs) from hb.ok I.hok)
      have hlen : va.length = vb.length := by
        rw [← ra.length, ← rb.length]
        have := congrArg List.length (same_keys hp hl gl)
        rw [List.length_map, List.length_map] at this
        exact this
      refine SeqAt.eqP_refs e fun E Q q => PySem.W.rcP_dicts (knd := mixKind X.prog X.w) (r := true) ya yb da db (by omega) (fun _ => hits_run (same_run I n A.in1 (by show A.units + 1 + n + 1 < cLine; omega)) rb ra (same_dict (n := n) hp (by omega) nd hl gl)) E Q ?_
      rw [hlen]
      simpa using q
    | _ => unfold plainD at hp; exact hp.elim
end
/-- a != b of two with the same data -/
def rNeS : R2 := fun x y H Q => ∃ n, n ≤ 100 ∧ Same H n x y ∧ Q (.bl false) H
theorem op_neS {X : Cx} (hu : X.A.units + 180 < cLine) : OpR X (compareOp .NotEq) rNeS := by
  intro pins s σ H x y v u Q I rx ry h
  obtain ⟨n, hn, ⟨d, hp, hd, h, g⟩, q⟩ := h
  cases d with
  | int i =>
    unfold Dt at h g
    subst h g
    exact op_ne pins s σ H _ _ v u Q I rx ry ⟨rfl, by rw [decide_eq_true rfl]; exact q⟩
  | str i =>
    unfold Dt at h g
    subst h g
    exact op_ne pins s σ H _ _ v u Q I rx ry ⟨rfl, by rw [decide_eq_true rfl]; exact q⟩
  | list ds =>
    unfold plainD at hp
    rw [PyData.depth] at hd
    unfold Dt at h g
    obtain ⟨a, xs, rfl, ha, hl⟩ := h
    obtain ⟨b, ys, rfl, hb, gl⟩ := g
    cases (show v = Value.ref a from rx)
    cases (show u = Value.ref b from ry)
    obtain ⟨us, r1, p1⟩ := rd_list I ha
    obtain ⟨ws, r2, p2⟩ := rd_list I hb
    have pr := same_list (n := n) hp (by omega) hl gl
    have hsz : us.toArray.size = ws.toArray.size := by
      rw [List.size_toArray, List.size_toArray, ← r1.length, ← r2.length]
      exact Paired.length pr
    refine rcne_lists p1 p2 hsz (by omega) (fun j h1 h2 => ?_) _ _ ⟨.bl false, H, I, rfl, q⟩
    have k := items_run (same_run I n X.A.in1 (by show X.A.units + 1 + n + 1 < cLine; omega)) pr r1 r2 j (by simpa using h1) (by simpa using h2)
    simpa using k
  | dict kvs =>
    unfold plainD at hp
    rw [PyData.depth] at hd
    unfold Dt at h g
    obtain ⟨a, rfl, ⟨es, ha, nd, hl⟩ | ⟨k1, k2, _, hl⟩⟩ := h
    rotate_left
    · exact (plain_no_odd hp hl).elim
    obtain ⟨b, rfl, ⟨fs, hb, nd', gl⟩ | ⟨k1, k2, _, gl⟩⟩ := g
    rotate_left
    · exact (plain_no_odd hp gl).elim
    cases (show v = Value.ref a from rx)
    cases (show u = Value.ref b from ry)
    obtain ⟨_, ya, va, ra, da⟩ := (show ObjOk X.prog X.w H s.heap a (.dK es) from ha.ok I.hok)
    obtain ⟨_, yb, vb, rb, db⟩ := (show ObjOk X.prog X.w H s.heap b (.dK fs) from hb.ok I.hok)
    have hlen : va.length = vb.length := by
      rw [← ra.length, ← rb.length]
      have := congrArg List.length (same_keys hp hl gl)
      rw [List.length_map, List.length_map] at this
      exact this
    exact rcne_dicts (knd := mixKind X.prog X.w) ya yb da db (by omega) hlen (hits_run (same_run I n X.A.in1 (by show X.A.units + 1 + n + 1 < cLine; omega)) rb ra (same_dict (n := n) hp (by omega) nd hl gl)) _ _ ⟨.bl false, H, I, rfl, q⟩
  | _ => unfold plainD at hp; exact hp.elim
end LW

namespace LW
open PySem PySem.Spec L2 PySem.SeqAt
open AutoSeq1 (wpAny_loadPart')
open MeetsSeq MeetsSeq2 MeetsSeq3 SeqRoads2
theorem tuple_no_dict (p a : Addr) (xs : Array Value) (n : Nat) (dp dq : Option Addr) (sp sq : Array (Option Value)) (da : Data) :
    Meets (Builtin.«tuple.__eq__» ⟨[.ref p, .ref a], []⟩) (fun _ R s => s.heap.get? p = some ⟨.type "tuple", dp, .seq xs n, sp⟩ ∧ s.heap.get? a = some ⟨.type "dict", dq, da, sq⟩ ∧ R (.ok (.ret .notImplemented)) s) :=
  .of_wp fun prog w A R s h => by
    obtain ⟨hp, g, d, tk, os⟩ := s
    obtain ⟨h1, h2, h⟩ := h
    have sub := F.sub_dict_tuple
    wp_walk using wpAny_loadPart' h1, wpAny_loadPart' h2
    exact ⟨_, rfl, h⟩
theorem int_no_dict (i : Int) (u : Tok) (a : Addr) (dq : Option Addr) (sq : Array (Option Value)) (da : Data) :
    Meets (Builtin.«int.__eq__» ⟨[.int i u, .ref a], []⟩) (fun _ R s => s.heap.get? a = some ⟨.type "dict", dq, da, sq⟩ ∧ (∀ k es, da ≠ .seq k es) ∧ (∃ es ep, da = .dict es ep) ∧ R (.ok (.ret .notImplemented)) s) :=
  .of_wp fun prog w A R s h => by
    obtain ⟨hp, g, d, tk, os⟩ := s
    obtain ⟨h2, _, ⟨es, ep, rfl⟩, h⟩ := h
    wp_walk using wpAny_loadPart' h2, wpAny_load h2
    exact ⟨_, rfl, h⟩
theorem str_no_dict (i : Str) (u : Tok) (a : Addr) (dq : Option Addr) (sq : Array (Option Value)) (da : Data) :
    Meets (Builtin.«str.__eq__» ⟨[.str i u, .ref a], []⟩) (fun _ R s => s.heap.get? a = some ⟨.type "dict", dq, da, sq⟩ ∧ (∃ es ep, da = .dict es ep) ∧ R (.ok (.ret .notImplemented)) s) :=
  .of_wp fun prog w A R s h => by
    obtain ⟨hp, g, d, tk, os⟩ := s
    obtain ⟨h2, ⟨es, ep, rfl⟩, h⟩ := h
    wp_walk using wpAny_loadPart' h2, wpAny_load h2
    exact ⟨_, rfl, h⟩
section
variable {prog : Program} {w : World} {A : Around} {E : Value → Shared → Prop} {s : Shared}
theorem dict_no {a : Addr} {x : Value} {T : String} {Q : Value → Shared → Prop} (ta : s.TypeIs (.ref a) "dict") (tx : s.TypeIs x T) (hs : isSubtype (.type T) (.type "dict") = pure false) (h : Q .notImplemented s) :
    wpAny (model prog w) A (call (.builtin "dict.__eq__") [.ref a, x]) Q E s := by
  refine wpAny_call_entry F.slot_dict_eq ta F.entry_dict_eq ?_ (F.args_dict_eq_2 _ _)
  show wpAny _ _ (Builtin.Dict.dictSlotArgs "__eq__" ⟨[Value.ref a, x], []⟩ >>= _) _ _ s
  apply wpAny_bind
  unfold Builtin.Dict.dictSlotArgs
  refine wpAny_bind (wpAny_notOrdered_dict ta (show wpAny _ _ (pure (Value.ref a, x)) _ _ s from wpAny_pure (wpAny_bind (wpAny_isInstance (T := T) tx hs ?_))))
  simp only [Bool.not_false, if_true]
  refine wpAny_bind (wpAny_rule ?_)
  exact wpAny_bind (wpAny_pure (wpAny_pure ⟨_, rfl, h⟩))
end
section
variable {A : Around} {s : Shared} {a : Addr} {o : Obj} {es : Array DictEntry} {ep : Nat}
theorem eqAt_int_dict {i : Int} {t : Tok} (ho : s.heap.get? a = some o) (hx : o.ExactDict) (hd : o.data = .dict es ep) (hu : A.units < cLine) : EqAt A s (.int i t) (.ref a) false := by
  intro prog w E Q h
  obtain ⟨c, dq, da, sq⟩ := o
  have hc : c = .type "dict" := hx.1
  subst hc
  simp only at hd
  unfold eqBool
  refine wpAny_holding (wpAny_ite_split (fun hab => absurd (eq_of_beq hab) nofun) fun _ => wpAny_bind ?_)
  refine rc_eq_decline_or (k := false) rfl ⟨_, ho, rfl⟩ (by decide) F.sub_dict_int F.slot_int_eq F.slot_dict_eq_refl (fun _ hq => ?_) (fun _ hq => ?_) (fun _ hq => wpAny_of_eq (rfl : isSame (.int i t) (.ref a) = pure false) hq) (.inr hu) (wpAny_truthy_bool h)
  · exact call_meets F.slot_int_eq rfl F.entry_int_eq (F.args_int_eq_2 _ _) (int_no_dict i t a dq sq da) ⟨ho, (fun _ _ z => by rw [hd] at z; cases z), ⟨es, ep, hd⟩, hq⟩
  · exact dict_no ⟨_, ho, rfl⟩ (T := "int") rfl F.sub_int_dict hq
theorem eqAt_str_dict {i : Str} {t : Tok} (ho : s.heap.get? a = some o) (hx : o.ExactDict) (hd : o.data = .dict es ep) (hu : A.units < cLine) : EqAt A s (.str i t) (.ref a) false := by
  intro prog w E Q h
  obtain ⟨c, dq, da, sq⟩ := o
  have hc : c = .type "dict" := hx.1
  subst hc
  simp only at hd
  unfold eqBool
  refine wpAny_holding (wpAny_ite_split (fun hab => absurd (eq_of_beq hab) nofun) fun _ => wpAny_bind ?_)
  refine rc_eq_decline_or (k := false) rfl ⟨_, ho, rfl⟩ (by decide) F.sub_dict_str F.slot_str_eq F.slot_dict_eq_refl (fun _ hq => ?_) (fun _ hq => ?_) (fun _ hq => wpAny_of_eq (rfl : isSame (.str i t) (.ref a) = pure false) hq) (.inr hu) (wpAny_truthy_bool h)
  · exact call_meets F.slot_str_eq rfl F.entry_str_eq (F.args_str_eq_2 _ _) (str_no_dict i t a dq sq da) ⟨ho, ⟨es, ep, hd⟩, hq⟩
  · exact dict_no ⟨_, ho, rfl⟩ (T := "str") rfl F.sub_str_dict hq
theorem eqAt_tuple_dict {p : Addr} {xs : Array Value} (hp : s.heap.IsTuple p xs) (ho : s.heap.get? a = some o) (hx : o.ExactDict) (hu : A.units < cLine) : EqAt A s (.ref p) (.ref a) false := by
  have ne : p ≠ a := fun e => by
    obtain ⟨o2, h2, hc2, _⟩ := hp
    rw [e, ho] at h2
    cases h2
    have h1 : o.cls = .type "dict" := hx.1
    rw [h1] at hc2
    exact absurd hc2 (by simp)
  obtain ⟨⟨c, dp, dd, sp⟩, hp2, hc, n, hd⟩ := hp
  simp only at hc hd
  subst hc hd
  obtain ⟨c, dq, da, sq⟩ := o
  have hc : c = .type "dict" := hx.1
  subst hc
  refine .of_refs ne fun prog w E Q h => ?_
  refine rc_eq_decline_or (k := false) ⟨_, hp2, rfl⟩ ⟨_, ho, rfl⟩ (by decide) F.sub_dict_tuple F.slot_tuple_eq F.slot_dict_eq_refl (fun _ hq => ?_) (fun _ hq => ?_) (fun _ hq => wpAny_isSame_ref_other' ne hp2 ho (by simp) hq) (.inr hu) h
  · exact call_meets F.slot_tuple_eq ⟨_, hp2, rfl⟩ F.entry_tuple_eq (F.args_tuple_eq_2 _ _) (tuple_no_dict p a xs n dp dq sp sq da) ⟨hp2, ho, hq⟩
  · exact dict_no ⟨_, ho, rfl⟩ (T := "tuple") ⟨_, hp2, rfl⟩ F.sub_tuple_dict hq
end
/-- texts and ints -/
def flat2 (x : V) : Prop := (∃ i, x = .int i) ∨ ∃ y, x = .str y
/-- x not in l, x a dict or a tuple of one dict, l a list of tuples of ints and texts -/
def rNotO (K : PySem.W.Frag) : R2 := fun x y H Q => ∃ (l : Addr) (ts : List V), y = .ref l ∧ SqL K H l ts ∧ (∀ t ∈ ts, ∃ b vs, t = .ref b ∧ L2.Rd H b (.tup vs) ∧ ∀ u ∈ vs, flat2 u) ∧
  ((∃ a ks, x = .ref a ∧ L2.Rd H a (.dK ks)) ∨ ∃ p a ks, x = .ref p ∧ L2.Rd H p (.tup [.ref a]) ∧ L2.Rd H a (.dK ks)) ∧ Q (.bl true) H
theorem vals_mem {xs : List V} {us : List Value} (r : Vals xs us) {u : Value} (h : u ∈ us) : ∃ x ∈ xs, RelV x u := by
  obtain ⟨i, hi⟩ := List.mem_iff_getElem?.mp h
  obtain ⟨x, h1, h2⟩ := Paired.get' r hi
  exact ⟨x, List.mem_of_getElem? h1, h2⟩
section
variable {X : Cx} {pins : List (Addr × Obj)} {σ : L2.St} {H : Hp} {s : Shared}
theorem rd_tup (I : L2.Inv X pins σ H s) {a : Addr} {xs : List V} (h : L2.Rd H a (.tup xs)) : ∃ us, Vals xs us ∧ s.heap.IsTuple a us.toArray := by
  obtain ⟨_, us, r, o, e, hc, n, hd⟩ := (show ObjOk X.prog X.w H s.heap a (.tup xs) from h.ok I.hok)
  exact ⟨us, r, o, e, hc, n, hd⟩
theorem rd_dk (I : L2.Inv X pins σ H s) {a : Addr} {ks : List (Key × V)} (h : L2.Rd H a (.dK ks)) : ∃ o es ep, s.heap.get? a = some o ∧ o.ExactDict ∧ o.data = .dict es ep := by
  obtain ⟨_, _, _, _, o, es, ep, e, hx, hd, _⟩ := (show ObjOk X.prog X.w H s.heap a (.dK ks) from h.ok I.hok)
  exact ⟨o, es, ep, e, hx, hd⟩
end
theorem op_notO {X : Cx} (K : PySem.W.Frag) (hu : X.A.units + 64 < cLine) (hK : X.K = K := by rfl) : OpR X (compareOp .NotIn) (rNotO K) := by
  subst hK
  intro pins s σ H x y v u Q I rx ry h
  obtain ⟨l, ts, rfl, hl, hts, hx, q⟩ := h
  cases (show u = Value.ref l from ry)
  obtain ⟨us, r1, p1, _⟩ := I.list hl
  refine notIn_listAt (fun _ => false) p1.isList (fun yv hy => ?_) ?_
  · obtain ⟨t, htm, rt⟩ := vals_mem r1 (u := yv) (by simpa using hy)
    obtain ⟨b, vs, rfl, hb, hfl⟩ := hts t htm
    cases (show yv = Value.ref b from rt)
    obtain ⟨ws, r2, p2⟩ := rd_tup I hb
    rcases hx with ⟨a, ks, rfl, ha⟩ | ⟨p, a, ks, rfl, hp, ha⟩
    · cases (show v = Value.ref a from rx)
      obtain ⟨o, es, ep, ho, hx, hd⟩ := rd_dk I ha
      exact eqAt_tuple_dict p2 ho hx (by show X.A.units + 1 < cLine; omega)
    · cases (show v = Value.ref p from rx)
      obtain ⟨o, es, ep, ho, hx, hd⟩ := rd_dk I ha
      obtain ⟨zs, r3, p3⟩ := rd_tup I hp
      cases r3 with
      | @cons _ z _ _ rz rn =>
        cases rn
        cases (show z = Value.ref a from rz)
        by_cases e : b = p
        · subst e
          obtain ⟨o1, h1, h2, n1, h3⟩ := p2
          obtain ⟨o2, g1, g2, n2, g3⟩ := p3
          rw [h1] at g1
          cases g1
          rw [h3] at g3
          have g4 : ws.toArray = #[Value.ref a] := by
            cases g3
            rfl
          have g5 : ws = [Value.ref a] := by simpa using congrArg Array.toList g4
          subst g5
          cases r2 with
          | @cons v1 _ _ _ rv rn =>
            rcases hfl v1 List.mem_cons_self with ⟨i, rfl⟩ | ⟨i, rfl⟩
            · obtain ⟨t, ht⟩ := rv
              cases ht
            · obtain ⟨t, ht⟩ := rv
              cases ht
        · have rt := RcAt.tuples (A := X.A.in1) (e := fun _ => false) p2 p3 (by show X.A.units + 1 < cLine; omega) (fun j h1 h2 => by
            have hj : j = 0 := by
              have : j < 1 := by simpa using h2
              omega
            subst hj
            have h1' : 0 < ws.length := by simpa using h1
            obtain ⟨v1, hv1, rv1⟩ := vals_mem r2 (u := ws[0]) (List.getElem_mem h1')
            have e1 : (#[Value.ref a] : Array Value)[0] = .ref a := rfl
            have e2 : ws.toArray[0] = ws[0] := by simp
            rw [e2]
            show EqAt _ _ _ (.ref a) false
            rcases hfl v1 hv1 with ⟨i, rfl⟩ | ⟨i, rfl⟩
            · obtain ⟨t, ht⟩ := rv1
              rw [ht]
              exact eqAt_int_dict ho hx hd (by show X.A.units + 1 + 1 < cLine; omega)
            · obtain ⟨t, ht⟩ := rv1
              rw [ht]
              exact eqAt_str_dict ho hx hd (by show X.A.units + 1 + 1 < cLine; omega))
          have er : ((List.range (min ws.toArray.size (#[Value.ref a] : Array Value).size)).all (fun _ => false) && ws.toArray.size == (#[Value.ref a] : Array Value).size) = false := by
            cases ws with
            | nil => rfl
            | cons w1 wr =>
              have : min (w1 :: wr).toArray.size (#[Value.ref a] : Array Value).size = 1 := by simp
              rw [this]
              rfl
          have rt' : RcAt X.A.in1 s (.ref b) (.ref p) false := by
            rw [← er]
            exact rt
          exact .of_refs e rt'
  · have e : (us.toArray.any fun _ => false) = false := by simp
    rw [e]
    exact ⟨.bl true, H, I, rfl, q⟩
end LW

namespace LW
open PySem PySem.Spec L2 PySem.SeqAt
/-- x != y, two pairs of the same two texts -/
def rNe2 : R2 := fun x y H Q => ∃ (p q : Addr) (a b : Str), x = .ref p ∧ y = .ref q ∧ L2.Rd H p (.tup [.str a, .str b]) ∧ L2.Rd H q (.tup [.str a, .str b]) ∧ Q (.bl false) H
theorem op_ne2 {X : Cx} (hu : X.A.units + 64 < cLine) : OpR X (compareOp .NotEq) rNe2 := by
  intro pins s σ H x y v u Q I rx ry h
  obtain ⟨p, q, a, b, rfl, rfl, hp, hq, k⟩ := h
  cases (show v = Value.ref p from rx)
  cases (show u = Value.ref q from ry)
  obtain ⟨us, r1, p1⟩ := rd_tup I hp
  obtain ⟨ws, r2, p2⟩ := rd_tup I hq
  cases r1 with
  | cons a1 r1 => cases r1 with
    | cons a2 r1 =>
      cases r1
      cases r2 with
      | cons b1 r2 => cases r2 with
        | cons b2 r2 =>
          cases r2
          obtain ⟨t1, rfl⟩ := a1
          obtain ⟨t2, rfl⟩ := a2
          obtain ⟨t3, rfl⟩ := b1
          obtain ⟨t4, rfl⟩ := b2
          have rt := RcNeAt.tuples (A := X.A) (e := fun _ => true) p1 p2 (by omega) (fun j h1 h2 => by
            have : j = 0 ∨ j = 1 := by
              have : j < 2 := by simpa using h1
              omega
            rcases this with rfl | rfl
            · have q := EqAt.str_str (A := X.A.in1) (s := s) a t1 a t3
              rw [beq_self_eq_true] at q
              exact q
            · have q := EqAt.str_str (A := X.A.in1) (s := s) b t2 b t4
              rw [beq_self_eq_true] at q
              exact q)
          refine rt _ _ _ _ ?_
          exact ⟨.bl false, H, I, rfl, k⟩
def rNotA (K : PySem.W.Frag) : R2 := fun x y H Q => rNotInD K x y H Q ∨ rNotO K x y H Q
theorem op_notA {X : Cx} (K : PySem.W.Frag) (hu : X.A.units + 180 < cLine) (hK : X.K = K := by rfl) : OpR X (compareOp .NotIn) (rNotA K) := by
  subst hK
  intro pins s σ H x y v u Q I rx ry h
  rcases h with h | h
  · exact op_notInD (by omega) pins s σ H x y v u Q I rx ry h
  · exact op_notO _ (by omega) rfl pins s σ H x y v u Q I rx ry h
end LW

namespace LW
open PySem PySem.Spec L2 PySem.SeqAt
section
variable {prog : Program} {w : World} {κ : Type} [DecidableEq κ] {knd : HeapKind prog w κ} {A : Around} {E : Value → Shared → Prop} {s : Shared}
theorem at_entries {es : Array DictEntry} {xs : List (κ × Addr × Value)} (he : es.toList = xs.map (entryOfKey knd)) (i : Nat) : es[i]? = xs[i]?.map (entryOfKey knd) := by
  rw [← Array.getElem?_toList, he, List.getElem?_map]
/-- two dicts of keys in the heap, each entry of the one equal to one of the other -/
theorem samePairsH {nm : String} {a b : Addr} {xs ys : List (κ × Addr × Value)} {Q : Bool → Shared → Prop} (ha : (a == sysModules) = false) (hb : (b == sysModules) = false) (da : s.heap.DictOfH knd a xs) (db : s.heap.DictOfH knd b ys)
    (hu : knd.room A) (hl : xs.length = ys.length) (hits : ∀ x ∈ xs, ∃ p : Addr × Value, (x.1, p) ∈ ys ∧ EqP prog w A s x.2.2 p.2 true) (h : Q true s) : wpAny (model prog w) A (Builtin.Dict.samePairs nm a b) Q E s := by
  obtain ⟨oa, es, ep, hoa, _, hda, hea, hia, hna⟩ := da
  obtain ⟨ob, fs, fp, hob, _, hdb, heb, hib, hnb⟩ := db
  have la : es.size = xs.length := by rw [← Array.length_toList, hea, List.length_map]
  have lb : fs.size = ys.length := by rw [← Array.length_toList, heb, List.length_map]
  have hsz : es.size = fs.size := by omega
  unfold Builtin.Dict.samePairs Builtin.Dict.showsAll
  rw [if_neg (show ¬ (a == sysModules) = true by rw [ha]; decide), if_neg (show ¬ (b == sysModules) = true by rw [hb]; decide)]
  refine wpAny_bind (wpAny_pure (wpAny_bind (wpAny_pure (wpAny_bind (wpAny_dictEntries hoa hda ?_)))))
  dsimp only
  refine wpAny_bind (wpAny_dictEntries hob hdb ?_)
  rw [if_neg (by rw [hsz]; simp)]
  refine wpAny_bind (wpAny_dictEpoch hoa hda (wpAny_bind ?_))
  rw [Std.Legacy.Range.forIn_eq_forIn_range']
  simp only [Std.Legacy.Range.size, Nat.sub_zero, Nat.add_sub_cancel, Nat.div_one]
  refine wpAny_forIn_list _ (fun rest q t => t = s ∧ q = (none, ()) ∧ ∃ i, rest = List.range' i (es.size - i) ∧ i ≤ es.size) _ ?_ ?_ _ _ ⟨rfl, rfl, 0, by simp, Nat.zero_le _⟩
  · rintro x rest q t ⟨rfl, rfl, i, hr, hi⟩
    have hlt : i < es.size := by
      by_cases z : i < es.size
      · exact z
      · rw [show es.size - i = 0 by omega] at hr
        cases hr
    have e1 : es.size - i = (es.size - (i + 1)) + 1 := by omega
    rw [e1, List.range'_succ] at hr
    obtain ⟨rfl, rfl⟩ := List.cons.inj hr
    refine wpAny_bind (wpAny_dictEntries hoa hda ?_)
    obtain ⟨⟨k, ka, v⟩, hx⟩ : ∃ y, xs[x]? = some y := ⟨_, List.getElem?_eq_getElem (by omega)⟩
    have hex : es[x]? = some ⟨knd.hash k, .ref ka, v⟩ := by
      rw [at_entries hea, hx]
      rfl
    rw [hex]
    obtain ⟨p, hp, heq⟩ := hits _ (List.mem_of_getElem? hx)
    show wpAny _ _ (holding [Value.ref ka, v] _ >>= _) _ _ _
    refine wpAny_bind (wpAny_holding (wpAny_bind (wpAny_dictFind_heap hu (hia _ (List.mem_of_getElem? hx)) hob hdb heb hib hnb (fun hno => ?_) (fun j p' hj => ?_))))
    · obtain ⟨j, hj⟩ := List.mem_iff_getElem?.mp hp
      exact (hno j p hj).elim
    · have hpp : p' = p := by
        obtain ⟨j2, hj2⟩ := List.mem_iff_getElem?.mp hp
        have : j = j2 := idxH_unique hnb hj hj2
        subst this
        rw [hj] at hj2
        cases hj2
        rfl
      subst hpp
      refine wpAny_bind (wpAny_dictEntries hob hdb ?_)
      rw [at_entries heb, hj]
      refine wpAny_holding (heq _ _ ?_)
      show wpAny _ _ (if (!true) = true then _ else _) _ _ _
      rw [if_neg (by decide)]
      refine wpAny_bind (wpAny_dictEpoch hoa hda ?_)
      rw [if_neg (by simp)]
      exact wpAny_pure ⟨rfl, rfl, x + 1, rfl, hlt⟩
  · rintro q t ⟨rfl, rfl, i, hr, hi⟩
    exact wpAny_pure h
theorem rcH_dicts {a b : Addr} {xs ys : List (κ × Addr × Value)} (ha : (a == sysModules) = false) (hb : (b == sysModules) = false) (da : s.heap.DictOfH knd a xs) (db : s.heap.DictOfH knd b ys) (hu : A.units < cLine)
    (hr : knd.room A.in1) (hl : xs.length = ys.length) (hits : ∀ x ∈ xs, ∃ p : Addr × Value, (x.1, p) ∈ ys ∧ EqP prog w A.in1 s x.2.2 p.2 true) (E Q : Value → Shared → Prop) (h : Q (.bool true) s) : wpAny (model prog w) A (richCompare .Eq (.ref a) (.ref b)) Q E s := by
  refine wpAny_richCompare_same_room (op := .Eq) da.typeIs db.typeIs F.slot_dict_eq (wpAny_call_entry F.slot_dict_eq da.typeIs F.entry_dict_eq ?_ (F.args_dict_eq_2 _ _)) hu
  show wpAny _ _ (Builtin.Dict.dictSlotArgs "__eq__" ⟨[Value.ref a, Value.ref b], []⟩ >>= _) _ _ s
  apply wpAny_bind
  unfold Builtin.Dict.dictSlotArgs
  refine wpAny_bind (wpAny_notOrdered_dict da.typeIs (show wpAny _ _ (pure (Value.ref a, Value.ref b)) _ _ s from wpAny_pure (wpAny_bind (wpAny_isInstance (T := "dict") db.typeIs F.sub_dict_dict ?_))))
  simp only [Bool.not_true, Bool.false_eq_true, if_false]
  refine wpAny_bind (wpAny_pure (wpAny_bind (wpAny_pure (wpAny_bind (samePairsH ha hb da db hr hl hits ?_)))))
  refine wpAny_pure ⟨_, rfl, (fun z => nomatch z), ?_⟩
  simpa using h
end
open AutoSeq1 (wpAny_loadPart')
open MeetsSeq MeetsSeq2 MeetsSeq3 SeqRoads2
section
variable {prog : Program} {w : World}
theorem tup_ne_same {p q : Addr} {xs ys : Array Value} {n m : Nat} {dp dq : Option Addr} {sp sq : Array (Option Value)} (hz : xs.size = ys.size) :
    MeetsIn prog w (Builtin.«tuple.__ne__» ⟨[.ref p, .ref q], []⟩) (fun A R s => s.heap.get? p = some ⟨.type "tuple", dp, .seq xs n, sp⟩ ∧ s.heap.get? q = some ⟨.type "tuple", dq, .seq ys m, sq⟩ ∧
        (∀ j (h1 : j < xs.size) (h2 : j < ys.size), EqP prog w A.in1 s xs[j] ys[j] true) ∧ R (.ok (.ret (.bool false))) s) :=
  .of_wp fun A R s h => by
    obtain ⟨hp, g, d, tk, os⟩ := s
    obtain ⟨h1, h2, he, h⟩ := h
    have sub := AutoSeq1.sub_tuple_tuple
    have hlen : (xs.toList.zip ys.toList).length = xs.size := by simp [hz]
    wp_walk using wpAny_loadPart' h1, wpAny_loadPart' h2, wpAny_forIn_list _ (fun rest b t => b.1 = none ∧ t = ⟨hp, g, d, tk, os⟩ ∧ ∃ i, rest = (xs.toList.zip ys.toList).drop i) _
    case turn =>
      rintro ⟨y, x⟩ rest b t ⟨hb, rfl, i, hr⟩
      have hlt : i < (xs.toList.zip ys.toList).length := by
        by_cases z : i < (xs.toList.zip ys.toList).length
        · exact z
        · rw [List.drop_of_length_le (by omega)] at hr
          cases hr
      rw [List.drop_eq_getElem_cons hlt] at hr
      obtain ⟨hyx, hrest⟩ := List.cons.inj hr
      have hi1 : i < xs.size := by omega
      have hi2 : i < ys.size := by omega
      have ey : y = xs[i] := by simpa using congrArg Prod.fst hyx
      have ex : x = ys[i] := by simpa using congrArg Prod.snd hyx
      subst ey ex
      refine wpAny_bind (he i hi1 hi2 _ _ ?_)
      wp_walk
      exact ⟨rfl, rfl, i + 1, hrest⟩
    case fin =>
      rintro ⟨b1, b2⟩ t ⟨hb, rfl, i, hr⟩
      simp only at hb
      subst hb
      wp_walk
      exact ⟨_, rfl, by simpa [Builtin.Tuple.tupleCompareSizes, bne, hz] using h⟩
    case h => exact ⟨rfl, rfl, 0, rfl⟩
theorem rcne_tups {A : Around} {s : Shared} {p q : Addr} {xs ys : Array Value} (ha : s.heap.IsTuple p xs) (hb : s.heap.IsTuple q ys) (hz : xs.size = ys.size) (hu : A.units < cLine)
    (he : ∀ j (h1 : j < xs.size) (h2 : j < ys.size), EqP prog w A.in1 s xs[j] ys[j] true) (E Q : Value → Shared → Prop) (h : Q (.bool false) s) : wpAny (model prog w) A (richCompare .NotEq (.ref p) (.ref q)) Q E s := by
  obtain ⟨⟨c1, d1, da1, s1⟩, o1, e1, n, e2⟩ := id ha
  obtain ⟨⟨c2, d2, da2, s2⟩, o2, e3, m, e4⟩ := id hb
  simp only at e1 e2 e3 e4
  subst e1 e2 e3 e4
  have t1 : s.TypeIs (.ref p) "tuple" := ⟨_, o1, rfl⟩
  have t2 : s.TypeIs (.ref q) "tuple" := ⟨_, o2, rfl⟩
  refine wpAny_richCompare_same_room (op := .NotEq) t1 t2 F.slot_tuple_ne (call_meetsIn F.slot_tuple_ne t1 F.entry_tuple_ne (F.args_tuple_ne_2 _ _) (tup_ne_same hz) ⟨o1, o2, he, ?_⟩) hu
  exact ⟨(fun z => nomatch z), h⟩
end
/-- the pairs of two tables, one by one: the same keys, values with the same shaped data -/
def TabS (K : PySem.W.Frag) (H : Hp) (p q : List Key × V) : Prop := p.1 = q.1 ∧ ∃ d, Dp K H p.2 d ∧ Dp K H q.2 d ∧ SeqAt.shaped d = true
/-- x != y, two pairs of a text and a table, both alike -/
def rNeT (K : PySem.W.Frag) : R2 := fun x y H Q => ∃ (p q a b : Addr) (z : Str) (ks ls : List (List Key × V)), x = .ref p ∧ y = .ref q ∧ L2.Rd H p (.tup [.str z, .ref a]) ∧ L2.Rd H q (.tup [.str z, .ref b]) ∧ L2.Rd H a (.dT ks) ∧ L2.Rd H b (.dT ls) ∧ Paired (TabS K H) ks ls ∧ Q (.bl false) H
theorem op_neT {X : Cx} (K : PySem.W.Frag) (hu : X.A.units + 180 < cLine) (hK : X.K = K := by rfl) : OpR X (compareOp .NotEq) (rNeT K) := by
  subst hK
  intro pins s σ H x y v u Q I rx ry h
  obtain ⟨p, q, a, b, z, ks, ls, rfl, rfl, hp, hq, ha, hb, hpr, k⟩ := h
  cases (show v = Value.ref p from rx)
  cases (show u = Value.ref q from ry)
  obtain ⟨us, r1, p1⟩ := rd_tup I hp
  obtain ⟨ws, r2, p2⟩ := rd_tup I hq
  cases r1 with
  | cons a1 r1 => cases r1 with
    | cons a2 r1 =>
      cases r1
      cases r2 with
      | cons b1 r2 => cases r2 with
        | @cons _ w2 _ _ b2 r2 =>
          cases r2
          obtain ⟨t1, rfl⟩ := a1
          obtain ⟨t3, rfl⟩ := b1
          rename_i w1
          cases (show w1 = Value.ref a from a2)
          cases (show w2 = Value.ref b from b2)
          refine rcne_tups p1 p2 rfl (by omega) (fun j h1 h2 => ?_) _ _ ⟨.bl false, H, I, rfl, k⟩
          have : j = 0 ∨ j = 1 := by
            have : j < 2 := by simpa using h1
            omega
          rcases this with rfl | rfl
          · have q := EqAt.str_str (A := X.A.in1) (s := s) z t1 z t3
            rw [beq_self_eq_true] at q
            exact q.eqP
          · show EqP X.prog X.w X.A.in1 s (.ref a) (.ref b) true
            by_cases e : a = b
            · subst e
              exact (SeqAt.EqAt.same _).eqP
            · obtain ⟨_, ya, xs, kx, dx⟩ := dt_rd I.hok ha
              obtain ⟨_, yb, ys, ky, dy⟩ := dt_rd I.hok hb
              refine SeqAt.eqP_refs e fun E Q q => rcH_dicts ya yb dx dy (by show X.A.units + 1 < cLine; omega) (by show X.A.units + 1 + 1 < cLine; omega) ?_ ?_ E Q q
              · rw [← Paired.len kx, ← Paired.len ky]
                exact Paired.len hpr
              · intro x hx
                obtain ⟨i, hi⟩ := List.mem_iff_getElem?.mp hx
                obtain ⟨k1, hk1, e1, _, rv1⟩ := Paired.get' kx hi
                obtain ⟨k2, hk2, e2, d, d1, d2, sh⟩ := Paired.get hpr hk1
                obtain ⟨y, hy, e3, _, rv2⟩ := Paired.get ky hk2
                refine ⟨y.2, ?_, ?_⟩
                · have : (x.1, y.2) = y := by rw [← e1, e2, e3]
                  rw [this]
                  exact List.mem_of_getElem? hy
                · obtain ⟨as, ra⟩ := Dp.reads I d _ _ d1 rv1
                  obtain ⟨bs, rb⟩ := Dp.reads I d _ _ d2 rv2
                  have q := SeqAt.eqAt_reads d d X.A.in1.in1 s _ _ as bs ra rb (SeqAt.canLay_of_shaped sh) (SeqAt.canLay_of_shaped sh) (SeqAt.room_of_shaped sh (by show X.A.units + 1 + 1 + 64 < cLine; omega))
                  rw [SeqAt.eqv_refl _ (SeqAt.canLay_of_shaped sh)] at q
                  exact q.eqP
end LW

namespace LW
open PySem PySem.Spec L2 PySem.SeqAt
section
variable {prog : Program} {w : World} {A : Around} {E : Value → Shared → Prop} {s : Shared}
/-- a text is no key of a table with tuples as keys -/
theorem find_str {d : Addr} {xs : List (List Key × Addr × Value)} {y : Str} {t : Tok} {h : Int} {Q : Option Nat → Shared → Prop} (hm : s.heap.DictOfH (tupleKind (mixKind prog w)) d xs) (hu : A.units < cLine) (hq : Q none s) :
    wpAny (model prog w) A (dictFind d (.str y t) h) Q E s := by
  obtain ⟨o, es, ep, ho, hc, hd, he, his, hn⟩ := hm
  have hkeys : ∀ e ∈ es, ∃ (k : List Key) (b : Addr), e.key = .ref b ∧ (tupleKind (mixKind prog w)).is s.heap k b := fun e hin => by
    have : e ∈ xs.map (entryOfKey (tupleKind (mixKind prog w))) := he ▸ Array.mem_toList_iff.mpr hin
    obtain ⟨x, hx, rfl⟩ := List.mem_map.mp this
    exact ⟨x.1, x.2.1, rfl, his x hx⟩
  unfold dictFind
  refine wpAny_holding (wpAny_bind (wpAny_dictEntries ho hd ?_))
  dsimp only
  by_cases hall : (es.all fun e => isExactStrKey e.key) = true
  · have hem : es = #[] := by
      cases hz : es.toList with
      | nil => exact Array.toList_eq_nil_iff.mp hz
      | cons e r =>
        have hin : e ∈ es := Array.mem_toList_iff.mp (by rw [hz]; exact List.mem_cons_self)
        obtain ⟨k, b, hk, _⟩ := hkeys e hin
        have := (Array.all_eq_true_iff_forall_mem.mp hall) e hin
        rw [hk] at this
        cases this
    subst hem
    rw [if_pos hall]
    unfold foundByValue
    rw [show Array.findIdx? (fun e : DictEntry => e.key.isStr y) #[] = none by simp]
    exact wpAny_pure hq
  · rw [if_neg hall]
    have hst : ∀ v ∈ (placesWithHash es.size (fun i => es[i]?.map (·.hash)) h).filterMap (fun i => es[i]?.map (·.key)), ∃ (k : List Key) (b : Addr), v = .ref b ∧ (tupleKind (mixKind prog w)).is s.heap k b := fun v hv => by
      obtain ⟨i, _, hi⟩ := List.mem_filterMap.mp hv
      cases hei : es[i]? with
      | none => rw [hei] at hi; cases hi
      | some e =>
        rw [hei] at hi
        have ev : e.key = v := by simpa using hi
        obtain ⟨k, b, hk, hb⟩ := hkeys e (Array.mem_of_getElem? hei)
        exact ⟨k, b, ev.symm.trans hk, hb⟩
    have heq : ∀ e ∈ es, ∀ Q' : Bool → Shared → Prop, Q' false s → wpAny (model prog w) A (eqBool e.key (.str y t)) Q' E s := fun e hin Q' q => by
      obtain ⟨k, b, hk, hb⟩ := hkeys e hin
      obtain ⟨ob, its, n, g1, g2, g3, _⟩ := hb
      rw [hk]
      exact EqAt.tuple_str y t ⟨ob, g1, g2, n, g3⟩ hu prog w E Q' q
    generalize hpl : placesWithHash es.size (fun i => es[i]?.map (·.hash)) h = pl at hst ⊢
    by_cases hc1 : ((Value.str y t :: pl.filterMap fun i => es[i]?.map (·.key)).all carriedByValue) = true
    · rw [if_pos hc1]
      unfold dictWalkPlain
      refine wpAny_bind (wpAny_forIn_list _ (fun rest b s' => s' = s ∧ b = (none, ())) _ ?_ ?_ _ _ ⟨rfl, rfl⟩)
      · rintro x rest b s' ⟨rfl, rfl⟩
        cases hx : es[x]? with
        | none => exact wpAny_pure ⟨rfl, rfl⟩
        | some e =>
          dsimp only
          by_cases hh : (e.hash == h) = true
          · rw [if_pos hh]
            refine wpAny_bind (wpAny_dictEpoch ho hd (wpAny_bind (heq e (Array.mem_of_getElem? hx) _ (wpAny_bind (wpAny_dictEpoch ho hd ?_)))))
            rw [if_neg (by simp)]
            simp only [Bool.false_eq_true, if_false]
            exact wpAny_bind (wpAny_rule (wpAny_pure ⟨rfl, rfl⟩))
          · rw [if_neg hh]
            exact wpAny_pure ⟨rfl, rfl⟩
      · rintro b s' ⟨rfl, rfl⟩
        exact wpAny_pure hq
    · rw [if_neg hc1]
      have hne : ¬ ((pl.filterMap fun i => es[i]?.map (·.key)) == [Value.str y t]) = true := fun z => by
        have z := eq_of_beq z
        obtain ⟨k, b, hb, _⟩ := hst (.str y t) (by rw [z]; exact List.mem_cons_self)
        cases hb
      rw [if_neg hne]
      have tells : ∀ Q' : Bool → Shared → Prop, Q' false s → wpAny (model prog w) A (tableMayTell (.str y t) (pl.filterMap fun i => es[i]?.map (·.key))) Q' E s := fun Q' q => by
        unfold tableMayTell
        split
        · exact wpAny_pure q
        · refine wpAny_bind (show wpAny _ _ (pure true) _ _ _ from wpAny_pure ?_)
          simp only [Bool.not_true, Bool.false_eq_true, if_false]
          refine wpAny_bind (wpAny_forIn_list _ (fun rest r s' => s' = s ∧ r = (none, ()) ∧ ∀ v ∈ rest, ∃ (k : List Key) (b : Addr), v = .ref b ∧ (tupleKind (mixKind prog w)).is s.heap k b) _ ?_ ?_ _ _ ⟨rfl, rfl, hst⟩)
          · rintro x rest r s' ⟨rfl, rfl, hr⟩
            obtain ⟨k, b, rfl, hb⟩ := hr x List.mem_cons_self
            refine wpAny_bind ((tupleKind (mixKind prog w)).quiet hb ?_)
            simp only [Bool.not_true, Bool.false_eq_true, if_false]
            exact wpAny_pure ⟨rfl, rfl, fun v hv => hr v (List.mem_cons_of_mem _ hv)⟩
          · rintro r s' ⟨rfl, rfl, _⟩
            exact wpAny_pure q
      refine wpAny_bind (tells _ ?_)
      rw [if_neg (by simp)]
      refine wpAny_bind (wpAny_forIn_list _ (fun rest b s' => s' = s ∧ b = (none, none)) _ ?_ ?_ _ _ ⟨rfl, rfl⟩)
      · rintro x rest b s' ⟨rfl, rfl⟩
        cases hx : es[x]? with
        | none => exact wpAny_pure ⟨rfl, rfl⟩
        | some e =>
          dsimp only
          by_cases hh : (e.hash == h) = true
          · rw [if_pos hh]
            refine wpAny_bind (wpAny_dictEpoch ho hd (wpAny_bind (heq e (Array.mem_of_getElem? hx) _ (wpAny_bind (wpAny_dictEpoch ho hd ?_)))))
            rw [if_neg (by simp)]
            simp only [Bool.false_eq_true, if_false, Bool.false_and]
            exact wpAny_bind (wpAny_rule (wpAny_pure ⟨rfl, rfl⟩))
          · rw [if_neg hh]
            exact wpAny_pure ⟨rfl, rfl⟩
      · rintro b s' ⟨rfl, rfl⟩
        exact wpAny_pure hq
/-- a text as a new key of such a table -/
theorem set_str {a : Addr} {xs : List (List Key × Addr × Value)} {y : Str} {t : Tok} {v : Value} {Q : Unit → Shared → Prop} (hm : s.heap.DictOfH (tupleKind (mixKind prog w)) a xs) (hu : A.units + 1 < cLine) (hsz : xs.length < sizeLine)
    (h : ∀ h' tk, (∃ o, h'.get? a = some o) → Heap.SameBut a s.heap h' → Q () { s with heap := h', toks := tk }) : wpAny (model prog w) A (setItem (.ref a) (.str y t) v) Q E s := by
  unfold setItem
  refine wpAny_holding (wpAny_bind (wpAny_sequenceKey hm.typeIs (by decide) ?_))
  refine wpAny_bind (wpAny_callSpecial?_slot (name := Str.ofString "__setitem__") hm.typeIs slot_dict_setitem (wpAny_call_entry slot_dict_setitem hm.typeIs entry_dict_setitem ?_ (args_dict_setitem _ _ _)))
  show wpAny _ _ (Builtin.Dict.notOrdered "__setitem__" ⟨[Value.ref a, Value.str y t, v], []⟩ >>= _) _ _ s
  refine wpAny_bind (wpAny_notOrdered_dict hm.typeIs (show wpAny _ _ (dictSet a (.str y t) v >>= _) _ _ s from wpAny_bind ?_))
  unfold dictSet
  refine wpAny_holding (wpAny_bind ((mixKind prog w).pyHash (k := (Sum.inr y : Key)) (v := .str y t) ?_ ?_))
  · show Value.isStrOf y (.str y t) = true
    simp [Value.isStrOf]
  · unfold dictSetHashed
    refine wpAny_holding (wpAny_bind (find_str (s := { s with toks := s.toks + 1 }) hm (by show A.units + 1 < cLine; omega) ?_))
    obtain ⟨o, es, ep, ho, hc, hd, he, his, hn⟩ := hm
    have hes : es.size = xs.length := by rw [← Array.length_toList, he, List.length_map]
    refine wpAny_bind (wpAny_rule (wpAny_updateDictKeys (hz := by omega) (s := { s with toks := s.toks + 1 }) ho hd ?_))
    refine wpAny_pure ⟨.none, rfl, wpAny_pure (h _ _ ?_ (Heap.SameBut.update ..))⟩
    exact ⟨_, Heap.get?_update_self _ ho (Obj.isFreed_of_dict (Obj.data_mapDictKeys hd _))⟩
end
/-- an object of which nothing is told any more -/
def junk (a : Addr) : HO := .ext fun h => ∃ o, h.get? a = some o
theorem junk_ok {P : Program} {w : World} {H : Hp} {h : Heap} {a : Addr} {o : Obj} (e : h.get? a = some o) : ObjOk P w H h a (junk a) := ⟨⟨o, e⟩, ⟨o, e⟩, fun h1 h2 z k => by
  obtain ⟨o, e⟩ := z
  exact ⟨o, k _ e⟩⟩
/-- o[y] = v, y a text, o a table with tuples as keys -/
def rSetS : TSet := fun o i v H Q => ∃ (a : Addr) (kvs : List (List Key × V)) (y : Str), o = .ref a ∧ i = .str y ∧ H a = some (.dT kvs) ∧ kvs.length < sizeLine ∧ Q (upd H a (junk a))
theorem setS {X : Cx} (hu : X.A.units + 1 < cLine) : PSet X rSetS := by
  intro pins s σ H o i v ov iv u Q I ro ri rv h
  obtain ⟨a, kvs, y, rfl, rfl, ha, hl, q⟩ := h
  cases (show ov = Value.ref a from ro)
  obtain ⟨t, rfl⟩ := ri
  obtain ⟨_, _, xs, kx, dx⟩ := dt_of I.hok ha
  refine set_str dx hu (by rw [← Paired.len kx]; exact hl) fun h' tk he hs => ⟨_, ?_, q⟩
  obtain ⟨o', he'⟩ := he
  exact d_write I (by rw [ha]; exact True.intro) hs ⟨o', he'⟩ (junk_ok he')
end LW

namespace LW
open PySem PySem.Spec PyProof.Rows L2 PySem.SeqAt
open Evl (Ex)
/-! ### data that the true heap reads, tables with it -/
def Rdb (H : Hp) (d : PyData) (v : V) : Prop := ∀ (P : Program) (w : World) (h : Heap), HOk P w H h → (∀ a o, H a = some o → a ≠ sysModules) → ∀ u, RelV v u → ∃ as, Reads h u d as ∧ sysModules ∉ as
theorem rdb_dt {H : Hp} {d : PyData} {v : V} (q : Dt H d v) : Rdb H d v := fun _ _ _ ok ns _ r => Dt.reads ok ns q r
def TabD (H : Hp) (p : List Key × V) (q : PyData × PyData) : Prop := q.1 = .tuple (p.1.map kD) ∧ Rdb H q.2 p.2
theorem key_dt {H : Hp} (k : Key) : Dt H (kD k) (kV k) := by
  cases k with
  | inl i =>
    show Dt H (.int i) (.int i)
    unfold Dt
    rfl
  | inr i =>
    show Dt H (.str i) (.str i)
    unfold Dt
    rfl
theorem keys_dt {H : Hp} : ∀ (k : List Key), DtL H (k.map kD) (k.map kV)
  | [] => DtL.nil
  | a :: k => DtL.cons (key_dt a) (keys_dt k)
theorem tab_reads {P : Program} {w : World} {H : Hp} {h : Heap} (ok : HOk P w H h) (ns : ∀ a o, H a = some o → a ≠ sysModules) : ∀ {kvs : List (List Key × V)} {xs : List (List Key × Addr × Value)} {ds : List (PyData × PyData)}, KT H kvs xs → Paired (TabD H) kvs ds →
    ∃ as bs, ReadsAll h ((xs.map (entryOfKey (tupleKind (mixKind P w)))).map (·.key)) (ds.map (·.1)) as ∧ ReadsAll h ((xs.map (entryOfKey (tupleKind (mixKind P w)))).map (·.val)) (ds.map (·.2)) bs ∧ sysModules ∉ as ∧ sysModules ∉ bs
  | _, _, _, .nil, .nil => ⟨[], [], .nil, .nil, nofun, nofun⟩
  | p :: _, (k, a, v) :: _, (kd, vd) :: _, .cons h1 t1, .cons h2 t2 => by
    obtain ⟨as, bs, g1, g2, n1, n2⟩ := tab_reads ok ns t1 t2
    obtain ⟨e1, e2, rv⟩ := h1
    obtain ⟨e3, rd⟩ := h2
    have e3 : kd = .tuple (p.1.map kD) := e3
    have e2 : H a = some (.tup (p.1.map kV)) := e2
    have dk : Dt H (.tuple (p.1.map kD)) (.ref a) := by
      unfold Dt
      exact ⟨a, _, rfl, .inl e2, keys_dt p.1⟩
    obtain ⟨cs, rk, n3⟩ := Dt.reads ok ns dk (show RelV (.ref a) (Value.ref a) from rfl)
    obtain ⟨es, rr, n4⟩ := rd P w h ok ns v rv
    refine ⟨cs ++ as, es ++ bs, ?_, .cons rr g2, fun z => (List.mem_append.mp z).elim n3 n1, fun z => (List.mem_append.mp z).elim n4 n2⟩
    refine .cons ?_ g1
    show Reads h (Value.ref a) kd cs
    rw [e3]
    exact rk
theorem rdb_tab {H : Hp} {a : Addr} {kvs : List (List Key × V)} {ds : List (PyData × PyData)} (ha : L2.Rd H a (.dT kvs)) (hp : Paired (TabD H) kvs ds) : Rdb H (.dict ds) (.ref a) := by
  intro P w h ok ns u r
  cases (show u = Value.ref a from r)
  obtain ⟨_, hs, xs, kt, o, es, ep, h1, h2, h3, h4, h5, h6⟩ := dt_rd ok ha
  obtain ⟨as, bs, g1, g2, n1, n2⟩ := tab_reads ok ns kt hp
  refine ⟨a :: as ++ bs, .dict h1 h2.1 h3 (by rw [h4]; exact g1) (by rw [h4]; exact g2), fun z => ?_⟩
  rcases List.mem_cons.mp z with z | z
  · exact (rd_some ha).elim fun _ q => ns a _ q z.symm
  · exact (List.mem_append.mp z).elim n1 n2
theorem rdb_two {H : Hp} {a : Addr} {x y : V} {d e : PyData} (ha : H a = some (.lst [x, y])) (hx : Rdb H d x) (hy : Rdb H e y) : Rdb H (.list [d, e]) (.ref a) := by
  intro P w h ok ns u r
  cases (show u = Value.ref a from r)
  obtain ⟨_, its, n, rv, eh⟩ := (show ObjOk P w H h a (.lst [x, y]) from ok a _ ha)
  cases rv with
  | cons r1 rv => cases rv with
    | cons r2 rv =>
      cases rv
      obtain ⟨as, a1, n1⟩ := hx P w h ok ns _ r1
      obtain ⟨bs, a2, n2⟩ := hy P w h ok ns _ r2
      refine ⟨a :: (as ++ (bs ++ [])), .list eh rfl rfl (.cons a1 (.cons a2 .nil)), fun z => ?_⟩
      rcases List.mem_cons.mp z with z | z
      · exact ns a _ ha z.symm
      · rw [List.append_nil] at z
        exact (List.mem_append.mp z).elim n1 n2
/-- repr of what is read -/
def rRepU : List V → Hp → VK → Prop := fun xs H Q => ∃ v d, xs = [v] ∧ Rdb H d v ∧ d.showable = true ∧ d.shown.length ≤ sizeLine ∧ d.depth ≤ 150 ∧ Q (.str d.shown) H
theorem call_reprU {X : Cx} (c : Calm X) : CallR X (.builtin "repr") rRepU := by
  intro pins s σ H xs us Q I r h
  obtain ⟨v, d, rfl, hd, hs, hz, hdp, q⟩ := h
  obtain ⟨u, rfl, ru⟩ := vals1 r
  have un := c.un
  obtain ⟨as, hr, hn⟩ := hd _ _ _ I.hok (inv_sys c.sy I) u ru
  cases hr with
  | none =>
    simp only [PyData.shown] at q
    exact PySem.P.repr_of_none ⟨.str _, H, I.tok _, ⟨_, rfl⟩, q⟩
  | bool b =>
    simp only [PyData.shown] at q
    exact PySem.P.repr_of_bool ⟨.str _, H, I.tok _, ⟨_, rfl⟩, q⟩
  | int i t =>
    simp only [PyData.shown] at q
    exact PySem.P.repr_of_int (by simpa [PyData.showable] using hs) ⟨.str _, H, I.tok _, ⟨_, rfl⟩, q⟩
  | str x t =>
    simp only [PyData.shown] at q hz
    exact PySem.P.repr_of_str ⟨.str _, H, I.tok _, ⟨_, rfl⟩, q⟩ hz
  | list h1 h2 h3 h4 => exact repr_of_reads' (.list h1 h2 h3 h4) hs (fun _ => hn) c.gd (by omega) (fun _ _ e => e) (fun h' u tk k => ⟨.str _, H, I.kept (t' := tk) k, ⟨_, rfl⟩, q⟩) hz
  | tuple h1 h2 h3 h4 => exact repr_of_reads' (.tuple h1 h2 h3 h4) hs (fun _ => hn) c.gd (by omega) (fun _ _ e => e) (fun h' u tk k => ⟨.str _, H, I.kept (t' := tk) k, ⟨_, rfl⟩, q⟩) hz
  | dict h1 h2 h3 h4 h5 => exact repr_of_reads' (.dict h1 h2 h3 h4 h5) hs (fun _ => hn) c.gd (by omega) (fun _ _ e => e) (fun h' u tk k => ⟨.str _, H, I.kept (t' := tk) k, ⟨_, rfl⟩, q⟩) hz
/-! ### two tables -/
section
variable {prog : Program} {w : World} {κ : Type} [DecidableEq κ] {knd : HeapKind prog w κ} {A : Around} {s : Shared}
theorem rcneH_dicts {a b : Addr} {xs ys : List (κ × Addr × Value)} (ha : (a == sysModules) = false) (hb : (b == sysModules) = false) (da : s.heap.DictOfH knd a xs) (db : s.heap.DictOfH knd b ys) (hu : A.units < cLine)
    (hr : knd.room A.in1) (hl : xs.length = ys.length) (hits : ∀ x ∈ xs, ∃ p : Addr × Value, (x.1, p) ∈ ys ∧ EqP prog w A.in1 s x.2.2 p.2 true) (E Q : Value → Shared → Prop) (h : Q (.bool false) s) : wpAny (model prog w) A (richCompare .NotEq (.ref a) (.ref b)) Q E s := by
  refine wpAny_richCompare_same_room (op := .NotEq) da.typeIs db.typeIs F.slot_dict_ne (wpAny_call_entry F.slot_dict_ne da.typeIs F.entry_dict_ne ?_ (F.args_dict_ne_2 _ _)) hu
  show wpAny _ _ (Builtin.Dict.dictSlotArgs "__ne__" ⟨[Value.ref a, Value.ref b], []⟩ >>= _) _ _ s
  apply wpAny_bind
  unfold Builtin.Dict.dictSlotArgs
  refine wpAny_bind (wpAny_notOrdered_dict da.typeIs (show wpAny _ _ (pure (Value.ref a, Value.ref b)) _ _ s from wpAny_pure (wpAny_bind (wpAny_isInstance (T := "dict") db.typeIs F.sub_dict_dict ?_))))
  simp only [Bool.not_true, Bool.false_eq_true, if_false]
  refine wpAny_bind (wpAny_pure (wpAny_bind (wpAny_pure (wpAny_bind (samePairsH ha hb da db hr hl hits ?_)))))
  refine wpAny_pure ⟨_, rfl, (fun z => nomatch z), ?_⟩
  simpa using h
end
def rNeTT (K : PySem.W.Frag) : R2 := fun x y H Q => ∃ (a b : Addr) (ks ls : List (List Key × V)), x = .ref a ∧ y = .ref b ∧ a ≠ b ∧ L2.Rd H a (.dT ks) ∧ L2.Rd H b (.dT ls) ∧ Paired (TabS K H) ks ls ∧ Q (.bl false) H
theorem op_neTT {X : Cx} (K : PySem.W.Frag) (hu : X.A.units + 180 < cLine) (hK : X.K = K := by rfl) : OpR X (compareOp .NotEq) (rNeTT K) := by
  subst hK
  intro pins s σ H x y v u Q I rx ry h
  obtain ⟨a, b, ks, ls, rfl, rfl, ne, ha, hb, hpr, k⟩ := h
  cases (show v = Value.ref a from rx)
  cases (show u = Value.ref b from ry)
  obtain ⟨_, ya, xs, kx, dx⟩ := dt_rd I.hok ha
  obtain ⟨_, yb, ys, ky, dy⟩ := dt_rd I.hok hb
  refine rcneH_dicts ya yb dx dy (by omega) (by show X.A.units + 1 < cLine; omega) ?_ ?_ _ _ ⟨.bl false, H, I, rfl, k⟩
  · rw [← Paired.len kx, ← Paired.len ky]
    exact Paired.len hpr
  · intro x hx
    obtain ⟨i, hi⟩ := List.mem_iff_getElem?.mp hx
    obtain ⟨k1, hk1, e1, _, rv1⟩ := Paired.get' kx hi
    obtain ⟨k2, hk2, e2, d, d1, d2, sh⟩ := Paired.get hpr hk1
    obtain ⟨y, hy, e3, _, rv2⟩ := Paired.get ky hk2
    refine ⟨y.2, ?_, ?_⟩
    · have : (x.1, y.2) = y := by rw [← e1, e2, e3]
      rw [this]
      exact List.mem_of_getElem? hy
    · obtain ⟨as, ra⟩ := Dp.reads I d _ _ d1 rv1
      obtain ⟨bs, rb⟩ := Dp.reads I d _ _ d2 rv2
      have q := SeqAt.eqAt_reads d d X.A.in1 s _ _ as bs ra rb (SeqAt.canLay_of_shaped sh) (SeqAt.canLay_of_shaped sh) (SeqAt.room_of_shaped sh (by show X.A.units + 1 + 64 < cLine; omega))
      rw [SeqAt.eqv_refl _ (SeqAt.canLay_of_shaped sh)] at q
      exact q.eqP
/-! ### d.clear(), d a table: nothing is told of it behind that -/
def rClrT : V → List V → Hp → VK → Prop := fun x vs H Q => ∃ (a : Addr) (kvs : List (List Key × V)), x = .ref a ∧ vs = [] ∧ H a = some (.dT kvs) ∧ Q .non (upd H a (junk a))
theorem mt_clrT {X : Cx} : MtR X "dict.clear" rClrT := by
  intro pins s σ H x vs v us Q I rx rv h
  obtain ⟨a, kvs, rfl, rfl, ha, q⟩ := h
  cases (show v = Value.ref a from rx)
  cases rv
  obtain ⟨hz, hs, xs, kx, o, es, ep, h1, h2, h3, h4, h5, h6⟩ := dt_of I.hok ha
  have hes : es.size ≤ sizeLine := by
    rw [← Array.length_toList, h4, List.length_map, ← Paired.len kx]
    exact hz
  have hm : s.heap.DictRaw a es ep := ⟨o, h1, h2, h3⟩
  refine call_meetsIn F.slot_dict_clear hm.typeIs F.entry_dict_clear (F.args_dict_clear_1 _) (meets_dict_clear_raw a) ⟨es, ep, hm, hes, fun h' hr hsb => ⟨.non, _, ?_, rfl, q⟩⟩
  obtain ⟨o', ho', _⟩ := hr
  exact d_write I (by rw [ha]; exact True.intro) hsb ⟨o', ho'⟩ (junk_ok ho')
/-! ### is not, of two bools -/
def rIsNB : R2 := fun x y H Q => ∃ a b, x = .bl a ∧ y = .bl b ∧ Q (.bl (a != b)) H
theorem op_isNB {X : Cx} : OpR X (compareOp .IsNot) rIsNB := by
  intro pins s σ H x y v u Q I rx ry h
  obtain ⟨a, b, rfl, rfl, q⟩ := h
  cases (show v = Value.bool a from rx)
  cases (show u = Value.bool b from ry)
  exact PyProof.Rows.isnot_bool ⟨.bl _, H, I, rfl, q⟩
/-! ### three of a kind -/
def rNe3 : R2 := fun x y H Q => ∃ (p q : Addr) (a b : Str) (c : Bool), x = .ref p ∧ y = .ref q ∧ L2.Rd H p (.tup [.str a, .str b, .bl c]) ∧ L2.Rd H q (.tup [.str a, .str b, .bl c]) ∧ Q (.bl false) H
theorem op_ne3 {X : Cx} (hu : X.A.units + 64 < cLine) : OpR X (compareOp .NotEq) rNe3 := by
  intro pins s σ H x y v u Q I rx ry h
  obtain ⟨p, q, a, b, c, rfl, rfl, hp, hq, k⟩ := h
  cases (show v = Value.ref p from rx)
  cases (show u = Value.ref q from ry)
  obtain ⟨us, r1, p1⟩ := rd_tup I hp
  obtain ⟨ws, r2, p2⟩ := rd_tup I hq
  cases r1 with
  | cons a1 r1 => cases r1 with
    | cons a2 r1 => cases r1 with
      | @cons _ w1 _ _ a3 r1 =>
        cases r1
        cases r2 with
        | cons b1 r2 => cases r2 with
          | cons b2 r2 => cases r2 with
            | @cons _ w2 _ _ b3 r2 =>
              cases r2
              obtain ⟨t1, rfl⟩ := a1
              obtain ⟨t2, rfl⟩ := a2
              obtain ⟨t3, rfl⟩ := b1
              obtain ⟨t4, rfl⟩ := b2
              cases (show w1 = Value.bool c from a3)
              cases (show w2 = Value.bool c from b3)
              refine rcne_tups p1 p2 rfl (by omega) (fun j h1 h2 => ?_) _ _ ⟨.bl false, H, I, rfl, k⟩
              have : j = 0 ∨ j = 1 ∨ j = 2 := by
                have : j < 3 := by simpa using h1
                omega
              rcases this with rfl | rfl | rfl
              · have q := EqAt.str_str (A := X.A.in1) (s := s) a t1 a t3
                rw [beq_self_eq_true] at q
                exact q.eqP
              · have q := EqAt.str_str (A := X.A.in1) (s := s) b t2 b t4
                rw [beq_self_eq_true] at q
                exact q.eqP
              · exact (SeqAt.EqAt.same _).eqP
/-! ### a dict of one entry, its key a tuple: as a table -/
def tDispT (tk tv : TE) : TE := fun σ H Q => ∀ p, H p = none → tPairs [(tk, tv)] σ (upd H p (.dK [])) fun ps H2 => ∃ t ks v, ps = [(.ref t, v)] ∧ H2 p = some (.dK []) ∧ H2 t = some (.tup (List.map kV ks)) ∧ Q (.ref p) (upd H2 p (.dT [(ks, v)]))
theorem pe_dispT {X : Cx} {k v : Expr} {tk tv : TE} {pos : Pos} (hu : X.A.units + 64 < cLine) (hk : PE X k tk) (hv : PE X v tv) : PE X (.Dict [some k] [v] pos) (tDispT tk tv) := by
  constructor
  intro pins s σ H Q I q
  have hn := I.hok.fresh (Nat.le_refl s.heap.objs.size)
  have I1 := I.laid (a := s.heap.objs.size) (o := .dK []) (h' := s.heap.push { cls := .type "dict", data := .dict #[] }) (t' := s.toks) (fun _ _ q => Heap.get?_push_of_some _ q) (Nat.le_refl _) (dk_empty s.heap I.big)
  refine wpAny_Dict_any (keys := [some k]) (values := [v]) rfl rfl nofun (by show 1 ≤ 15; decide) ?_
  refine thn ((pps_cons (pos := pos) hk hv pps_nil).run pins _ σ _ _ I1 (q _ hn)) ?_
  rintro ws s2 ⟨ps, H2, I2, rel, t, ks, vv, rfl, e, ht, q2⟩
  obtain ⟨_, hd, vs0, r0, dd⟩ := dk_of I2.hok e
  cases r0
  have nt : t ≠ s.heap.objs.size := fun z => by
    rw [z, e] at ht
    cases ht
  cases rel with
  | @cons a b as bs r1 r2 =>
    cases r2
    obtain ⟨b1, b2⟩ := b
    obtain ⟨rk, rv⟩ := r1
    cases (show b1 = Value.ref t from rk)
    have em : s2.heap.DictOfH (tupleKind (mixKind X.prog X.w)) s.heap.objs.size [] := by
      obtain ⟨o, es, ep, h1, h2, h3, h4, h5, h6⟩ := dd
      refine ⟨o, es, ep, h1, h2, h3, ?_, nofun, List.nodup_nil⟩
      cases h7 : es.toList with
      | nil => rfl
      | cons a b =>
        rw [h7] at h5
        cases h5
    refine PySem.wpAny_storeAllH (knd := tupleKind (mixKind X.prog X.w)) (show X.A.units < cLine by omega) [(.ref t, b2)] [(ks, t, b2)] [] s2 _ ⟨rfl, rfl, key_of I2.hok ht, True.intro⟩ em (by show 0 + 1 ≤ sizeLine; decide) ?_
    intro h' tk' dd' hs
    obtain ⟨o, es, ep, h1, h2, h3, h4, h5, h6⟩ := dd'
    refine ⟨.ref s.heap.objs.size, _, ?_, rfl, q2⟩
    refine d_write I2 (by rw [e]; exact True.intro) hs ⟨o, h1⟩ ?_
    refine ⟨by show 1 ≤ sizeLine; decide, hd, [(ks, t, b2)], .cons ⟨rfl, ?_, rv⟩ .nil, o, es, ep, h1, h2, h3, h4, h6⟩
    rw [upd_ne nt]
    exact ht
end LW

namespace LW
open PySem PySem.Spec PyProof.Rows L2
/-! ### a dict comprehension whose keys are tuples of ints and texts -/
theorem d_dictSetT {X : Cx} {pins : List (Addr × Obj)} {σ : L2.St} {H : Hp} {s : Shared} {E : Value → Shared → Prop} {D b : Addr} {kvs : List (List Key × V)} {k : List Key} {v : V} {r : Value} {Q : Unit → Shared → Prop} (hu : X.A.units + 1 < cLine) (I : L2.Inv X pins σ H s)
    (hD : H D = some (.dT kvs)) (hb : H b = some (.tup (k.map kV))) (hz : kvs.length < sizeLine) (rv : RelV v r) (h : ∀ s', L2.Inv X pins σ (upd H D (.dT (putK kvs k v))) s' → Q () s') : wpAny (model X.prog X.w) X.A (dictSet D (.ref b) r) Q E s := by
  obtain ⟨z, hd, xs, rel, dd⟩ := dt_of I.hok hD
  have hx : xs.length ≤ sizeLine := by rw [← Paired.len rel]; exact z
  have hl : (putK kvs k v).length ≤ sizeLine := by have := length_putK kvs k v; omega
  refine wpAny_dictSet_heap (hsz := hx) (show X.A.units < cLine by omega) (key_of I.hok hb) dd fun h' dd' hs => h _ ?_
  obtain ⟨q, es, ep, hq, h2, h3, h4, _, h5⟩ := dd'
  refine d_write I (by rw [hD]; exact True.intro) hs ⟨q, hq⟩ ⟨hl, hd, _, (rel.put k hb rv).keeps fun c ys ec => ?_, q, es, ep, hq, h2, h3, h4, h5⟩
  have nc : c ≠ D := fun e => by
    rw [e, hD] at ec
    cases ec
  rw [upd_ne nc]
  exact ec
section
variable {X : Cx}
/-- one turn's end: the table with the new entry -/
def PutT (D : Addr) (y z : V) (H : Hp) (Nx : Hp → Prop) : Prop := ∃ kvs k b, y = .ref b ∧ H b = some (.tup (List.map kV k)) ∧ H D = some (.dT kvs) ∧ kvs.length < sizeLine ∧ Nx (upd H D (.dT (putK kvs k z)))
def tDcT (wi : TI) (g : TG) (tk tv : TE) (vs : List Nat) : TE := fun σ H Q => wi σ H fun J H1 => ∀ D, H1 D = none → ∃ W : Nat → Nat → Hp → Prop, (∃ m, W 0 m (upd H1 D (.dT []))) ∧ ∀ i m H, W i m H →
  (J.stop i H ∧ Q (.ref D) H) ∨ (J.go i H ∧ ∃ Nx : Hp → Prop, (∀ H', Nx H' → ∃ m', m' < m ∧ W (i + 1) m' H') ∧ ∀ x H', J.yld i H x H' → g x (wipe σ vs) H' fun σ2 H2 => wipe σ2 vs = wipe σ vs ∧ tk σ2 H2 fun y H4 => tv σ2 H4 fun z H5 => PutT D y z H5 Nx)
theorem pe_dcT {kx vx tg iter : Expr} {scope : Scope} {own : List (Str × Nat)} {pos : Pos} {wi : TI} {g : TG} {tk tv : TE} (hu : X.A.units + 1 < cLine) (hc : X.calm = true) (hN : X.N.Nodup) (hi : PI X tg iter wi) (ok : BlkOk X.N X.env.scope scope own)
    (hg : ∀ (s : Shared) (H : Hp) (C : Addr) (cl : List (Str × Addr)) (fp : List Addr), PG (X.blk s H scope (compEnvC scope cl C X.env) fp) tg g)
    (hk : ∀ (s : Shared) (H : Hp) (C : Addr) (cl : List (Str × Addr)) (fp : List Addr), PE (X.blk s H scope (compEnvC scope cl C X.env) fp) kx tk)
    (he : ∀ (s : Shared) (H : Hp) (C : Addr) (cl : List (Str × Addr)) (fp : List Addr), PE (X.blk s H scope (compEnvC scope cl C X.env) fp) vx tv) (hs : ∀ x, foldedSetIterable iter X.env x = pure x := by intro _; rfl) :
    PE X (.DictComp kx vx [⟨tg, iter, [], 0⟩] scope pos) (tDcT wi g tk tv (own.map (·.2))) := by
  refine ⟨fun pins s σ H Q I h => ?_⟩
  rw [arm_eval_DictComp]
  have hfree : ∀ y ∈ scope.names, y.2 = .free → ∃ c, X.env.cells.lookup y.1 = some c := fun y hy e => (ok.free y hy e).elim (fun k => I.ok.has _ (.inl k)) fun k => I.ok.has _ (.inr k)
  refine wpAny_comprehension_free rfl hs (closure_ok hfree) ok.kind (fun y hy e => by rw [ok.uniq y hy, e]) (thn (hi.run pins s σ H _ I h) fun xv s1 hx => thn hx fun itv s2 h2 => ?_)
  obtain ⟨it, fp, tn, J, H2, rfl, I2, T, st2, f2, q⟩ := h2
  refine wpAny_newObj_type (newEnv_comp ?_)
  generalize hD : s2.heap.objs.size = D
  obtain ⟨W, ⟨m0, w0⟩, turn⟩ := q D (I2.hok.fresh (Nat.le_of_eq hD))
  generalize hs3 : ({ s2 with heap := s2.heap.push { cls := .type "dict", data := .dict #[] } } : Shared) = s3
  have h3 : s3.heap = s2.heap.push { cls := .type "dict", data := .dict #[] } := by rw [← hs3]
  have I3 : L2.Inv X pins σ (upd H2 D (.dT [])) s3 := by
    rw [← hs3]
    exact I2.laid (t' := s2.toks) (fun b o e => Heap.get?_push_of_some _ e) (Nat.le_of_eq hD) (by rw [← hD]; exact dt_empty s2.heap I2.big)
  have f3 : ∀ b ∈ fp, FpOk X pins (upd H2 D (.dT [])) b ∧ b < s3.heap.objs.size := fun b hb => by
    obtain ⟨o, e, _⟩ := T.obj _ _ st2 b hb
    have hlt := Heap.lt_size e
    refine ⟨⟨?_, (f2 b hb).2⟩, by rw [h3, Heap.size_push]; exact Nat.lt_succ_of_lt hlt⟩
    rw [upd_ne (by rw [← hD]; exact Nat.ne_of_lt hlt)]
    exact (f2 b hb).1
  have st3 : tn 0 s3.heap := T.keep _ _ _ st2 fun b _ o e => by rw [h3]; exact Heap.get?_push_of_some _ e
  have I4 := block_start I3 ok hN f3
  generalize hH3 : upd H2 D (.dT []) = H3 at I3 I4 w0 f3
  show codeAny _ _ (.compStart (.DictComp kx vx [⟨tg, iter, [], 0⟩] scope pos) 0 (.ref it) (.ref D) (compEnvC scope (cellsFrom (s3.heap.objs.size + 1) scope.names (cloFrom X.env.cells scope.names [])) s3.heap.objs.size X.env)) (compPost (model X.prog X.w) X.A X.xe none _ (.ref D) s3.heap.objs.size) { s3 with heap := pushCells (s3.heap.push { cls := .type "dict", data := .dict #[] }) scope.names }
  have pg := hg s3 H3 s3.heap.objs.size (cellsFrom (s3.heap.objs.size + 1) scope.names (cloFrom X.env.cells scope.names [])) fp
  have pk := hk s3 H3 s3.heap.objs.size (cellsFrom (s3.heap.objs.size + 1) scope.names (cloFrom X.env.cells scope.names [])) fp
  have pe := he s3 H3 s3.heap.objs.size (cellsFrom (s3.heap.objs.size + 1) scope.names (cloFrom X.env.cells scope.names [])) fp
  generalize hce : compEnvC scope (cellsFrom (s3.heap.objs.size + 1) scope.names (cloFrom X.env.cells scope.names [])) s3.heap.objs.size X.env = ce at I4 pg pk pe ⊢
  have cL : ce.locals = s3.heap.objs.size := by subst hce; rfl
  generalize hs4 : ({ s3 with heap := pushCells (s3.heap.push { cls := .type "dict", data := .dict #[] }) scope.names } : Shared) = s4 at I4 ⊢
  have st4 : tn 0 s4.heap := T.keep _ _ _ st3 fun b _ o e => by rw [← hs4]; exact pushCells_keeps _ _ _ _ (Heap.get?_push_of_some _ e)
  have stat : ∀ {σ' : L2.St} {H' : Hp} {s' : Shared}, L2.Inv (X.blk s3 H3 scope ce fp) [] σ' H' s' → (∀ b ∈ fp, H' b = none) → ∀ b ∈ fp, FpOk (X.blk s3 H3 scope ce fp) [] H' b := fun {σ' H' s'} I' hn b hb =>
    ⟨hn b hb, (I'.ok.exf b hb).1, I'.ok.exfs b hb, .inl hb, fun x c e => (I'.ok.exf b hb).2 x c e, fun p hp => absurd (show p ∈ ([] : List (Addr × Obj)) ++ [] from hp) (by simp)⟩
  suffices loop : codeAny (model X.prog X.w) X.A (.compLoop (.DictComp kx vx [⟨tg, iter, [], 0⟩] scope pos) 0 (.ref it) (.ref D) ce) (compPost (model X.prog X.w) X.A X.xe none (EP X pins σ Q) (.ref D) s3.heap.objs.size) s4 from
    codeAny_compStart_dict loop (T.self X.A 0 _ _ _ st4 loop)
  refine compLoop_anyD (fun n s' => ∃ i H', L2.Inv (X.blk s3 H3 scope ce fp) [] (wipe σ (own.map (·.2))) H' s' ∧ tn i s'.heap ∧ (∀ b ∈ fp, H' b = none) ∧ W i n H') ?_ m0 ⟨0, H3, I4, st4, fun b hb => (f3 b hb).1.1, w0⟩
  rintro n s5 ⟨i, H5, I5, st5, n5, w5⟩
  rcases turn i n H5 w5 with ⟨stop, qq⟩ | ⟨go, Nx, hNx, step⟩
  · -- the end
    refine thnF (T.done (X.blk s3 H3 scope ce fp) rfl rfl rfl hc i [] s5 _ H5 (fun _ _ => False) I5 (stat I5 n5) st5 stop) fun r s6 ⟨hr, I6⟩ => ?_
    subst hr
    have I7 : L2.Inv X pins σ H5 s6 := I3.call' (ch := fp) I6.os I6.base I6.hok I6.bare fun b hb => ⟨(f3 b hb).1.2.2.2.1, (f3 b hb).1.2.1, (f3 b hb).1.2.2.2.2.1, (f3 b hb).1.2.2.2.2.2⟩
    have nC : H5 s3.heap.objs.size = none := by
      have z : H5 ce.locals = none := I6.free
      rw [cL] at z
      exact z
    obtain ⟨m, hn, _⟩ := I6.loc
    have hn : s6.heap.Ns ce.locals m := hn
    rw [cL] at hn
    obtain ⟨f0, f1, f2, f3, f4, f5⟩ := I3.fpOk (Nat.le_refl _) nC
    exact ⟨m, hn, fun h'' sb => ⟨.ref D, H5, I7.turned (t' := s6.toks) (fun b o hb e => (sb.2 b hb).trans e) f0 f1 f3 f4 f5, rfl, qq⟩⟩
  · -- a turn
    refine thnF (T.item (X.blk s3 H3 scope ce fp) rfl rfl rfl hc i [] s5 _ H5 (fun _ _ => False) I5 (stat I5 n5) st5 go) fun r s6 ⟨u, hr, h6⟩ => ?_
    subst hr
    refine thnF h6 fun _ s7 ⟨x, H7, I7, r7, y7, st7, n7⟩ => ?_
    refine thnF (pg.run _ s7 _ H7 x u _ (I7.pinned (stat I7 n7) (T.obj _ _ st7)) r7 (step x H7 y7)) fun _ s8 ⟨σ8, H8, I8, hw8, q8⟩ => ?_
    rw [List.forIn_nil]
    refine wpAny_pure ?_
    simp only [if_true]
    refine thnF (pk.run _ s8 σ8 H8 _ I8 q8) fun z s10 ⟨yk, H10, I10, r10, q10⟩ => ?_
    refine thnF (pe.run _ s10 σ8 H10 _ I10 q10) fun z2 s11 ⟨yv, H11, I11, r11, kvs, k, b, ek, hb11, hD11, hz11, nx⟩ => ?_
    subst ek
    cases (show z = Value.ref b from r10)
    refine d_dictSetT (X := X.blk s3 H3 scope ce fp) hu I11 hD11 hb11 hz11 r11 fun s' I' => ?_
    obtain ⟨m', hm, w'⟩ := hNx _ nx
    have pin' : ∀ b ∈ fp, ∀ o, s7.heap.get? b = some o → s'.heap.get? b = some o ∧ (upd H11 D (.dT (putK kvs k yv))) b = none := fun b hb o e =>
      let z := I'.pin (b, o) (List.mem_append_right _ (List.mem_append_right _ (mem_pinsAt hb e)))
      ⟨z.1, z.2.1⟩
    have hl : (wipe σ (own.map (·.2))).length = σ8.length := by rw [← hw8, wipe_length]
    refine ⟨m', hm, i + 1, _, (I'.unpinned (pins := [])).weak hl (fun j v e => ?_), T.keep _ _ _ st7 fun b hb o e => (pin' b hb o e).1, fun b hb => ?_, w'⟩
    · rw [← hw8] at e
      exact (wipe_some e).1
    · obtain ⟨o, e, _⟩ := T.obj _ _ st7 b hb
      exact (pin' b hb o e).2
end
/-- such a comprehension over any walk -/
theorem dcT_it {J : It} {n : Nat} {G : Hp → Prop} {Y : Nat → Hp → V → Hp → Prop} (wk : Walk J n G Y) {g : TG} {tk tv : TE} {vs : List Nat} {σ : L2.St} {H1 : Hp} {D : Addr} {Qd : Hp → Prop} (Pv : Nat → Hp → Prop)
    (h0 : Pv 0 (upd H1 D (.dT []))) (hG : ∀ i H, i ≤ n → Pv i H → G H)
    (step : ∀ i x H H', i < n → Pv i H → Y i H x H' → g x (wipe σ vs) H' fun σ2 H2 => wipe σ2 vs = wipe σ vs ∧ tk σ2 H2 fun y H4 => tv σ2 H4 fun z H5 => PutT D y z H5 (Pv (i + 1)))
    (fin : ∀ H, Pv n H → Qd H) :
    ∃ W : Nat → Nat → Hp → Prop, (∃ m, W 0 m (upd H1 D (.dT []))) ∧ ∀ i m H, W i m H →
      (J.stop i H ∧ Qd H) ∨ (J.go i H ∧ ∃ Nx : Hp → Prop, (∀ H', Nx H' → ∃ m', m' < m ∧ W (i + 1) m' H') ∧ ∀ x H', J.yld i H x H' → g x (wipe σ vs) H' fun σ2 H2 => wipe σ2 vs = wipe σ vs ∧ tk σ2 H2 fun y H4 => tv σ2 H4 fun z H5 => PutT D y z H5 Nx) := by
  refine ⟨fun i m H => m + i = n ∧ Pv i H, ⟨n, by omega, h0⟩, ?_⟩
  rintro i m H ⟨e, pv⟩
  have gh := hG i H (by omega) pv
  by_cases lt : i < n
  · right
    exact ⟨wk.goes i H lt gh, Pv (i + 1), fun H' p' => ⟨n - (i + 1), by omega, by omega, p'⟩, fun x H' y => step i x H H' lt pv (wk.yields i H x H' lt gh y)⟩
  · left
    have en : n = i := by omega
    subst en
    exact ⟨wk.stops H gh, fin H pv⟩
end LW

namespace LW
open PySem PySem.Spec PyProof.Rows L2 PySem.SeqAt HT
open Evl (Ex)
/-! ### cuts of tuples: a whole one is the tuple itself; t[::-1] -/
section
variable {prog : Program} {w : World} {A : Around} {E : Value → Shared → Prop} {s : Shared}
theorem getItem_tuple_all {t sl : Addr} {items : Array Value} {vl vu : Value} {lo hi : Option Int} {Q : Value → Shared → Prop} (ht : IsTup s.heap t items) (hs : s.heap.IsSliceOf sl vl vu .none) (pl : IsPart vl lo) (pu : IsPart vu hi)
    (hw : sIx items.size 0 lo = 0 ∧ sIx items.size items.size hi = items.size) (h : Q (.ref t) s) : wpAny (model prog w) A (getItem (.ref t) (.ref sl)) Q E s := by
  obtain ⟨os, hos, hcs, hds⟩ := id hs
  have hTs : s.TypeIs (.ref sl) "slice" := ⟨os, hos, hcs⟩
  unfold getItem
  try with_reducible refine wpAny_holding ?_
  first | refine wpAny_bind (wpAny_pure ?_) | skip
  refine wpAny_bind (wpAny_sequenceKey ht.typeIs (by decide) ?_)
  refine wpAny_bind (wpAny_callSpecial?_slot (name := Str.ofString "__getitem__") ht.typeIs PyProof.Rows.slot_tuple_getitem
    (wpAny_call_entry PyProof.Rows.slot_tuple_getitem ht.typeIs entry_tuple_getitem ?_ (args_tuple_getitem _ _)))
  show wpAny _ _ (Builtin.Tuple.tupleItemsOf (.ref t) >>= _) _ _ s
  refine wpAny_bind (tupleItemsOf_ ht ?_)
  refine wpAny_bind (wpAny_typeOf hTs ?_)
  rw [if_pos (by decide)]
  refine wpAny_bind (sliceApplied_gen hs pl pu ?_)
  show wpAny _ _ (if (((sIx items.size 0 lo : Nat) : Int) == 0 && (1 : Int) == 1 && (sIx items.size items.size hi - sIx items.size 0 lo) == items.size) = true then _ else _) _ _ s
  rw [if_pos (by rw [hw.1, hw.2]; simp)]
  refine wpAny_bind ?_
  unfold Builtin.Tuple.tupleIsExact
  refine wpAny_bind (wpAny_typeOf ht.typeIs (wpAny_pure ?_))
  show wpAny _ _ (if (true : Bool) = true then _ else _) _ _ s
  rw [if_pos rfl]
  refine wpAny_bind (wpAny_rule ?_)
  first
    | exact wpAny_pure ⟨_, rfl, wpAny_pure h⟩
    | exact wpAny_bind (wpAny_pure ⟨_, rfl, wpAny_pure h⟩)
    | exact wpAny_bind (wpAny_pure (wpAny_pure ⟨_, rfl, wpAny_pure h⟩))
theorem fm_congr {f g : Nat → Option Value} : ∀ {l : List Nat}, (∀ m ∈ l, f m = g m) → l.filterMap f = l.filterMap g
  | [], _ => rfl
  | a :: l, h => by simp only [List.filterMap_cons, h a List.mem_cons_self, fm_congr fun m hm => h m (List.mem_cons_of_mem _ hm)]
theorem pick_rev (xs : Array Value) : ((List.range xs.size).filterMap fun (m : Nat) => xs[(((xs.size : Int) - 1) + (m : Int) * (-1)).toNat]?).toArray = xs.toList.reverse.toArray := by
  have h := PySem.W.krv_pick xs
  unfold slicePick at h
  rw [PySem.W.krv_bounds] at h
  have h : ((sliceRange ((xs.size : Int) - 1) (-1) (-1)).filterMap (xs[·]?)).toArray = _ := h
  rw [PySem.W.krv_sliceRange, List.filterMap_map] at h
  rw [← h]
  refine congrArg List.toArray (fm_congr fun m hm => ?_)
  have := List.mem_range.mp hm
  show xs[(((xs.size : Int) - 1) + (m : Int) * (-1)).toNat]? = xs[xs.size - 1 - m]?
  rw [show (((xs.size : Int) - 1) + (m : Int) * (-1)).toNat = xs.size - 1 - m by omega]
theorem getItem_tuple_rev {t sl : Addr} {items : Array Value} {vl vu vs : Value} {Q : Value → Shared → Prop} (ht : IsTup s.heap t items) (hs : s.heap.IsSliceOf sl vl vu vs) (pl : IsPart vl none) (pu : IsPart vu none) (ps : IsPart vs (some (-1)))
    (h : Q (.ref s.heap.objs.size) { s with heap := s.heap.push { cls := .type "tuple", data := .seq items.toList.reverse.toArray } })
    (hsz : items.size ≤ sizeLine) : wpAny (model prog w) A (getItem (.ref t) (.ref sl)) Q E s := by
  have htake : sizeOk (.seq items.toList.reverse.toArray) := by
    show items.toList.reverse.toArray.size ≤ sizeLine
    rw [List.size_toArray, List.length_reverse, Array.length_toList]
    exact hsz
  obtain ⟨os, hos, hcs, hds⟩ := id hs
  have hTs : s.TypeIs (.ref sl) "slice" := ⟨os, hos, hcs⟩
  unfold getItem
  try with_reducible refine wpAny_holding ?_
  first | refine wpAny_bind (wpAny_pure ?_) | skip
  refine wpAny_bind (wpAny_sequenceKey ht.typeIs (by decide) ?_)
  refine wpAny_bind (wpAny_callSpecial?_slot (name := Str.ofString "__getitem__") ht.typeIs PyProof.Rows.slot_tuple_getitem
    (wpAny_call_entry PyProof.Rows.slot_tuple_getitem ht.typeIs entry_tuple_getitem ?_ (args_tuple_getitem _ _)))
  show wpAny _ _ (Builtin.Tuple.tupleItemsOf (.ref t) >>= _) _ _ s
  refine wpAny_bind (tupleItemsOf_ ht ?_)
  refine wpAny_bind (wpAny_typeOf hTs ?_)
  rw [if_pos (by decide)]
  refine wpAny_bind ?_
  unfold Builtin.Slice.sliceApplied Builtin.Slice.sliceFields
  refine wpAny_bind (wpAny_bind (wpAny_field hos hds (x := vl) rfl (wpAny_bind (wpAny_field hos hds (x := vu) rfl (wpAny_bind (wpAny_field hos hds (x := vs) rfl (wpAny_pure ?_)))))))
  refine wpAny_bind (slicePart_ ps ?_)
  show wpAny _ _ (if ((-1 : Int) == 0) = true then _ else _) _ _ s
  rw [if_neg (by decide)]
  refine wpAny_bind (slicePart_ pl (wpAny_bind (slicePart_ pu (wpAny_bind (wpAny_pure ?_)))))
  have hadj : Builtin.Slice.sliceAdjust none none (-1) (items.size : Int) = ((items.size : Int) - 1, -1) := by
    unfold Builtin.Slice.sliceAdjust
    simp
  have hpl : Builtin.Slice.slicePlaces ((items.size : Int) - 1) (-1) (-1) = items.size := by
    unfold Builtin.Slice.slicePlaces
    rw [if_neg (by decide)]
    by_cases h0 : (items.size : Int) - 1 > -1
    · rw [if_pos h0, show (-(-1) : Int) = 1 by decide, Int.ediv_one]
      omega
    · rw [if_neg h0]
      omega
  show wpAny _ _ (match Builtin.Slice.sliceAdjust none none (-1) (items.size : Int) with | (lo, hi) => pure (lo, (-1 : Int), Builtin.Slice.slicePlaces lo hi (-1))) _ _ s
  rw [hadj]
  show wpAny _ _ (pure ((items.size : Int) - 1, (-1 : Int), Builtin.Slice.slicePlaces ((items.size : Int) - 1) (-1) (-1))) _ _ s
  rw [hpl]
  refine wpAny_pure ?_
  show wpAny _ _ (if (((items.size : Int) - 1) == 0 && (-1 : Int) == 1 && items.size == items.size) = true then _ else _) _ _ s
  rw [if_neg (by simp), pick_rev]
  first
    | exact wpAny_bind (m := Builtin.Tuple.tupleExact _) (wpAny_newObj_type (wpAny_pure ⟨_, rfl, wpAny_pure h⟩) htake)
    | exact wpAny_bind (m := Builtin.Tuple.tupleExact _) (wpAny_newObj_type (wpAny_bind (wpAny_pure (wpAny_pure ⟨_, rfl, wpAny_pure h⟩))) htake)
    | exact wpAny_bind (wpAny_bind (m := Builtin.Tuple.tupleExact _) (wpAny_newObj_type (wpAny_pure (wpAny_pure ⟨_, rfl, wpAny_pure h⟩)) htake))
    | exact wpAny_bind (wpAny_bind (m := Builtin.Tuple.tupleExact _) (wpAny_newObj_type (wpAny_pure ⟨_, rfl, wpAny_pure h⟩) htake))
end
section
variable {X : Cx}
/-- t[lo:hi], whole or not -/
def rSlB (K : PySem.W.Frag) : V → Option Int → Option Int → Hp → VK → Prop := fun x lo hi H Q => ∃ a xs, x = .ref a ∧ SqT K H a xs ∧
  ((sIx xs.length 0 lo = 0 ∧ sIx xs.length xs.length hi = xs.length) → Q (.ref a) H) ∧
  (¬ (sIx xs.length 0 lo = 0 ∧ sIx xs.length xs.length hi = xs.length) → ∀ p, H p = none → Q (.ref p) (upd H p (.tup (cutV xs lo hi))))
theorem slB (K : PySem.W.Frag) (hK : X.K = K := by rfl) : SlR X (rSlB K) := by
  subst hK
  intro pins s σ H x v vl vu lo hi sl Q I rx hs pl pu h
  obtain ⟨a, xs, rfl, hx, q1, q2⟩ := h
  by_cases hw : sIx xs.length 0 lo = 0 ∧ sIx xs.length xs.length hi = xs.length
  · cases rx
    obtain ⟨its, r, ht, hz⟩ := I.tuple hx
    have hlen : its.toArray.size = xs.length := by rw [List.size_toArray]; exact r.length.symm
    refine ⟨"tuple", _, PyProof.Rows.slot_tuple_getitem.lookup, ht.typeIs, ?_⟩
    exact getItem_tuple_all ht hs pl pu (by rw [hlen]; exact hw) ⟨.ref a, H, I, rfl, q1 hw⟩
  · exact sl_tup pins s σ H _ v vl vu lo hi sl Q I rx hs pl pu ⟨a, xs, rfl, hx, hw, q2 hw⟩
def tRevT (K : PySem.W.Frag) (te : TE) : TE := fun σ H Q => te σ H fun x H1 => ∃ a xs, x = .ref a ∧ SqT K H1 a xs ∧ ∀ p, H1 p = none → Q (.ref p) (upd H1 p (.tup xs.reverse))
theorem pe_revT {e : Expr} {te : TE} {k : Nat} {p1 p2 p3 pos : Pos} (he : PE X e te) : PE X (.Subscript e (.Slice none none (some (.UnaryOp .USub (.Constant (.int 1) k p1) p2)) p3) pos) (tRevT X.K te) := by
  refine ⟨fun pins s σ H Q I h => ?_⟩
  refine Subscript_ (thn (he.run pins s σ H _ I h) fun v s1 ⟨x, H1, I1, r1, q1⟩ => ?_)
  obtain ⟨a, xs, ex, hx, q⟩ := q1
  subst ex
  cases r1
  have hst : PO X (some (.UnaryOp .USub (.Constant (.int 1) k p1) p2)) (tPart (tUn (rU fun i => .int (-i)) (tC (.int 1)))) := po_some (pe_un un_neg pe_int)
  refine wpAny_Slice (thn (po_none.run pins s1 σ H1 (fun o H2 => o = none ∧ H2 = H1) I1 ⟨rfl, rfl⟩) fun vl s2 ⟨l, H2, I2, pl, el, e2⟩ => ?_)
  subst el e2
  refine thn (po_none.run pins s2 σ H2 (fun o H3 => o = none ∧ H3 = H2) I2 ⟨rfl, rfl⟩) fun vu s3 ⟨u, H3, I3, pu, eu, e3⟩ => ?_
  subst eu e3
  refine thn (hst.run pins s3 σ H3 (fun o H4 => o = some (-1) ∧ H4 = H3) I3 ⟨1, rfl, -1, rfl, rfl, rfl⟩) fun vs s4 ⟨o, H4, I4, ps, eo, e4⟩ => ?_
  subst eo e4
  have I5 : Inv X pins σ H4 { s4 with heap := s4.heap.push { cls := .type "slice", data := .fields #[vl, vu, vs] } } := I4.kept (t' := s4.toks) fun b ob q => Heap.get?_push_of_some _ q
  obtain ⟨its, r, ht, hz⟩ := I5.tuple hx
  have hlen := r.length
  show wpAny (model X.prog X.w) X.A (subscriptTail e (.Slice none none (some (.UnaryOp .USub (.Constant (.int 1) k p1) p2)) p3) (.ref a) (.ref s4.heap.objs.size)) (EP X pins σ Q) X.xe { s4 with heap := s4.heap.push { cls := .type "slice", data := .fields #[vl, vu, vs] } }
  refine tail_any (ops := [.ref a, .ref s4.heap.objs.size]) ht.typeIs (PyProof.Rows.slot_tuple_getitem.lookup) ?_ (by with_unfolding_all rfl)
  refine getItem_tuple_rev ht (Heap.IsSliceOf.new _ vl vu vs) pl pu ps ?_ (by rw [List.size_toArray]; omega)
  refine ⟨.ref _, _, I5.laid (t' := s4.toks) (o := .tup xs.reverse) (fun b ob q => Heap.get?_push_of_some _ q) (Nat.le_refl _) ?_, rfl, q _ (I5.hok.fresh (Nat.le_refl _))⟩
  exact ⟨by rw [List.length_reverse]; exact hz, _, r.reverse, IsTup.new _ _⟩
end
end LW

namespace LW
open PySem PySem.Spec PyProof.Rows L2 PySem.SeqAt
open Evl (Ex)
/-! ### nested lists and dicts, alike but for the order of the keys -/
def SameV (Hl Hr : Hp) : Nat → V → V → Prop
  | 0 => fun _ _ => False
  | n + 1 => fun x y => (x = y ∧ flatB x = true) ∨ (∃ a b xs ys, x = .ref a ∧ y = .ref b ∧ L2.Rd Hl a (.lst xs) ∧ L2.Rd Hr b (.lst ys) ∧ Paired (SameV Hl Hr n) xs ys) ∨
      ∃ a b ks ls, x = .ref a ∧ y = .ref b ∧ L2.Rd Hl a (.dK ks) ∧ L2.Rd Hr b (.dK ls) ∧ ks.length = ls.length ∧ ∀ p ∈ ks, ∃ u, valV ls p.1 = some u ∧ SameV Hl Hr n p.2 u
theorem SameV.ex {H H' G G' : Hp} (e : Ex H H') (f : Ex G G') : ∀ {n : Nat} {x y : V}, SameV H G n x y → SameV H' G' n x y
  | 0, _, _, h => h
  | n + 1, x, y, h => by
    rcases h with h | ⟨a, b, xs, ys, rfl, rfl, ha, hb, hp⟩ | ⟨a, b, ks, ls, rfl, rfl, ha, hb, hl, hp⟩
    · exact .inl h
    · exact .inr (.inl ⟨a, b, xs, ys, rfl, rfl, rd_ex e ha, rd_ex f hb, Paired.imp (fun _ _ q => SameV.ex e f q) hp⟩)
    · refine .inr (.inr ⟨a, b, ks, ls, rfl, rfl, rd_ex e ha, rd_ex f hb, hl, fun p hm => ?_⟩)
      obtain ⟨u, h1, h2⟩ := hp p hm
      exact ⟨u, h1, SameV.ex e f h2⟩
section
variable {X : Cx} {pins : List (Addr × Obj)} {σ : L2.St} {H : Hp} {s : Shared}
theorem sameV_run (I : L2.Inv X pins σ H s) : ∀ (n : Nat) (A : Around), A.units + n < cLine → ∀ (x y : V) (v u : Value), SameV H H n x y → RelV x v → RelV y u → EqP X.prog X.w A s v u true
  | 0, _, _, _, _, _, _, h, _, _ => (show False from h).elim
  | n + 1, A, hu, x, y, v, u, h, rx, ry => by
    rcases h with ⟨rfl, f⟩ | ⟨a, b, xs, ys, rfl, rfl, ha, hb, pr⟩ | ⟨a, b, ks, ls, rfl, rfl, ha, hb, hl, hp⟩
    · exact (eqAt_same rx ry f).eqP
    · cases (show v = Value.ref a from rx)
      cases (show u = Value.ref b from ry)
      by_cases e : a = b
      · subst e
        exact (SeqAt.EqAt.same _).eqP
      obtain ⟨us, r1, p1⟩ := rd_list I ha
      obtain ⟨ws, r2, p2⟩ := rd_list I hb
      have hsz : us.toArray.size = ws.toArray.size := by
        rw [List.size_toArray, List.size_toArray, ← r1.length, ← r2.length]
        exact Paired.length pr
      refine SeqAt.eqP_refs e fun E Q q => SeqAt.rcP_lists (e := fun _ => true) p1 p2 hsz (by omega) (fun j h1 h2 => ?_) E Q ?_
      · have k := items_run (sameV_run I n A.in1 (by show A.units + 1 + n < cLine; omega)) pr r1 r2 j (by simpa using h1) (by simpa using h2)
        simpa using k
      · rw [show ((List.range us.toArray.size).all fun _ => true) = true from List.all_eq_true.mpr fun _ _ => rfl]
        exact q
    · cases (show v = Value.ref a from rx)
      cases (show u = Value.ref b from ry)
      by_cases e : a = b
      · subst e
        exact (SeqAt.EqAt.same _).eqP
      obtain ⟨_, ya, va, ra, da⟩ := (show ObjOk X.prog X.w H s.heap a (.dK ks) from ha.ok I.hok)
      obtain ⟨_, yb, vb, rb, db⟩ := (show ObjOk X.prog X.w H s.heap b (.dK ls) from hb.ok I.hok)
      have hlen : va.length = vb.length := by
        rw [← ra.length, ← rb.length]
        exact hl
      refine SeqAt.eqP_refs e fun E Q q => PySem.W.rcP_dicts (knd := mixKind X.prog X.w) (r := true) ya yb da db (by omega) (fun _ => hits_run (sameV_run I n A.in1 (by show A.units + 1 + n < cLine; omega)) rb ra hp) E Q ?_
      rw [hlen]
      simpa using q
end
/-- a != b of two that are alike -/
def rNeV : R2 := fun x y H Q => ∃ n, n ≤ 100 ∧ SameV H H n x y ∧ Q (.bl false) H
theorem op_neV {X : Cx} (hu : X.A.units + 180 < cLine) : OpR X (compareOp .NotEq) rNeV := by
  intro pins s σ H x y v u Q I rx ry h
  obtain ⟨n, hn, h, q⟩ := h
  match n, hn, h with
  | n + 1, hn, h =>
  rcases h with ⟨rfl, f⟩ | ⟨a, b, xs, ys, rfl, rfl, ha, hb, pr⟩ | ⟨a, b, ks, ls, rfl, rfl, ha, hb, hl, hp⟩
  · refine op_ne pins s σ H _ _ v u Q I rx ry ⟨?_, by rw [decide_eq_true rfl]; exact q⟩
    cases x <;> first | rfl | cases f
  · cases (show v = Value.ref a from rx)
    cases (show u = Value.ref b from ry)
    obtain ⟨us, r1, p1⟩ := rd_list I ha
    obtain ⟨ws, r2, p2⟩ := rd_list I hb
    have hsz : us.toArray.size = ws.toArray.size := by
      rw [List.size_toArray, List.size_toArray, ← r1.length, ← r2.length]
      exact Paired.length pr
    refine rcne_lists p1 p2 hsz (by omega) (fun j h1 h2 => ?_) _ _ ⟨.bl false, H, I, rfl, q⟩
    have k := items_run (sameV_run I n X.A.in1 (by show X.A.units + 1 + n < cLine; omega)) pr r1 r2 j (by simpa using h1) (by simpa using h2)
    simpa using k
  · cases (show v = Value.ref a from rx)
    cases (show u = Value.ref b from ry)
    obtain ⟨_, ya, va, ra, da⟩ := (show ObjOk X.prog X.w H s.heap a (.dK ks) from ha.ok I.hok)
    obtain ⟨_, yb, vb, rb, db⟩ := (show ObjOk X.prog X.w H s.heap b (.dK ls) from hb.ok I.hok)
    have hlen : va.length = vb.length := by
      rw [← ra.length, ← rb.length]
      exact hl
    exact rcne_dicts (knd := mixKind X.prog X.w) ya yb da db (by omega) hlen (hits_run (sameV_run I n X.A.in1 (by show X.A.units + 1 + n < cLine; omega)) rb ra hp) _ _ ⟨.bl false, H, I, rfl, q⟩
theorem catAK {X : Cx} (K : PySem.W.Frag) (h : X.K = K := by rfl) : OpR X (binaryOp .Add) (rCatA K) := by
  subst h
  exact op_catA
/-! ### tables: == -/
section
variable {prog : Program} {w : World} {κ : Type} [DecidableEq κ] {knd : HeapKind prog w κ} {A : Around} {E : Value → Shared → Prop} {s : Shared}
theorem samePairs_len {nm : String} {a b : Addr} {xs ys : List (κ × Addr × Value)} {Q : Bool → Shared → Prop} (ha : (a == sysModules) = false) (hb : (b == sysModules) = false) (da : s.heap.DictOfH knd a xs) (db : s.heap.DictOfH knd b ys)
    (hl : xs.length ≠ ys.length) (h : Q false s) : wpAny (model prog w) A (Builtin.Dict.samePairs nm a b) Q E s := by
  obtain ⟨oa, es, ep, hoa, _, hda, hea, hia, hna⟩ := da
  obtain ⟨ob, fs, fp, hob, _, hdb, heb, hib, hnb⟩ := db
  have la : es.size = xs.length := by rw [← Array.length_toList, hea, List.length_map]
  have lb : fs.size = ys.length := by rw [← Array.length_toList, heb, List.length_map]
  have hsz : es.size ≠ fs.size := by omega
  unfold Builtin.Dict.samePairs Builtin.Dict.showsAll
  rw [if_neg (show ¬ (a == sysModules) = true by rw [ha]; decide), if_neg (show ¬ (b == sysModules) = true by rw [hb]; decide)]
  refine wpAny_bind (wpAny_pure (wpAny_bind (wpAny_pure (wpAny_bind (wpAny_dictEntries hoa hda ?_)))))
  dsimp only
  refine wpAny_bind (wpAny_dictEntries hob hdb ?_)
  rw [if_pos (by simpa using hsz)]
  exact wpAny_bind (wpAny_rule (wpAny_pure h))
theorem rcH_len {a b : Addr} {xs ys : List (κ × Addr × Value)} (ha : (a == sysModules) = false) (hb : (b == sysModules) = false) (da : s.heap.DictOfH knd a xs) (db : s.heap.DictOfH knd b ys) (hu : A.units < cLine)
    (hl : xs.length ≠ ys.length) (E Q : Value → Shared → Prop) (h : Q (.bool false) s) : wpAny (model prog w) A (richCompare .Eq (.ref a) (.ref b)) Q E s := by
  refine wpAny_richCompare_same_room (op := .Eq) da.typeIs db.typeIs F.slot_dict_eq (wpAny_call_entry F.slot_dict_eq da.typeIs F.entry_dict_eq ?_ (F.args_dict_eq_2 _ _)) hu
  show wpAny _ _ (Builtin.Dict.dictSlotArgs "__eq__" ⟨[Value.ref a, Value.ref b], []⟩ >>= _) _ _ s
  apply wpAny_bind
  unfold Builtin.Dict.dictSlotArgs
  refine wpAny_bind (wpAny_notOrdered_dict da.typeIs (show wpAny _ _ (pure (Value.ref a, Value.ref b)) _ _ s from wpAny_pure (wpAny_bind (wpAny_isInstance (T := "dict") db.typeIs F.sub_dict_dict ?_))))
  simp only [Bool.not_true, Bool.false_eq_true, if_false]
  refine wpAny_bind (wpAny_pure (wpAny_bind (wpAny_pure (wpAny_bind (samePairs_len ha hb da db hl ?_)))))
  refine wpAny_pure ⟨_, rfl, (fun z => nomatch z), ?_⟩
  simpa using h
end
def rEqTA (K : PySem.W.Frag) : R2 := fun x y H Q => ∃ (a b : Addr) (ks ls : List (List Key × V)), x = .ref a ∧ y = .ref b ∧ L2.Rd H a (.dT ks) ∧ L2.Rd H b (.dT ls) ∧ ((Paired (TabS K H) ks ls ∧ Q (.bl true) H) ∨ (ks.length ≠ ls.length ∧ Q (.bl false) H))
theorem op_eqTA {X : Cx} (K : PySem.W.Frag) (hu : X.A.units + 180 < cLine) (hK : X.K = K := by rfl) : OpR X (compareOp .Eq) (rEqTA K) := by
  subst hK
  intro pins s σ H x y v u Q I rx ry h
  obtain ⟨a, b, ks, ls, rfl, rfl, ha, hb, h⟩ := h
  cases (show v = Value.ref a from rx)
  cases (show u = Value.ref b from ry)
  obtain ⟨_, ya, xs, kx, dx⟩ := dt_rd I.hok ha
  obtain ⟨_, yb, ys, ky, dy⟩ := dt_rd I.hok hb
  rcases h with ⟨hpr, k⟩ | ⟨hne, k⟩
  · refine rcH_dicts ya yb dx dy (by omega) (by show X.A.units + 1 < cLine; omega) ?_ ?_ _ _ ⟨.bl true, H, I, rfl, k⟩
    · rw [← Paired.len kx, ← Paired.len ky]
      exact Paired.len hpr
    · intro x hx
      obtain ⟨i, hi⟩ := List.mem_iff_getElem?.mp hx
      obtain ⟨k1, hk1, e1, _, rv1⟩ := Paired.get' kx hi
      obtain ⟨k2, hk2, e2, d, d1, d2, sh⟩ := Paired.get hpr hk1
      obtain ⟨y, hy, e3, _, rv2⟩ := Paired.get ky hk2
      refine ⟨y.2, ?_, ?_⟩
      · have : (x.1, y.2) = y := by rw [← e1, e2, e3]
        rw [this]
        exact List.mem_of_getElem? hy
      · obtain ⟨as, ra⟩ := Dp.reads I d _ _ d1 rv1
        obtain ⟨bs, rb⟩ := Dp.reads I d _ _ d2 rv2
        have q := SeqAt.eqAt_reads d d X.A.in1 s _ _ as bs ra rb (SeqAt.canLay_of_shaped sh) (SeqAt.canLay_of_shaped sh) (SeqAt.room_of_shaped sh (by show X.A.units + 1 + 64 < cLine; omega))
        rw [SeqAt.eqv_refl _ (SeqAt.canLay_of_shaped sh)] at q
        exact q.eqP
  · refine rcH_len ya yb dx dy (by omega) ?_ _ _ ⟨.bl false, H, I, rfl, k⟩
    rw [← Paired.len kx, ← Paired.len ky]
    exact hne
/-! ### dict(pairs), the keys tuples of ints and texts -/
def mergeT (kvs more : List (List Key × V)) : List (List Key × V) := more.foldl (fun acc kv => putK acc kv.1 kv.2) kvs
/-- a pair (key, value) at p: its key at b -/
structure PrT (H : Hp) (p b : Addr) (k : List Key) (v : V) : Prop where
  pr : H p = some (.tup [.ref b, v])
  ky : H b = some (.tup (k.map kV))
def rDictT (K : PySem.W.Frag) : List V → Hp → VK → Prop := fun xs H Q => ∃ (a : Addr) (zs : List (Addr × Addr × List Key × V)), xs = [.ref a] ∧ H a = some (.lst (zs.map fun z => .ref z.1)) ∧ (∀ z ∈ zs, PrT H z.1 z.2.1 z.2.2.1 z.2.2.2) ∧
  ∀ p, H p = none → Q (.ref p) (upd H p (.dT (mergeT [] (zs.map fun z => z.2.2))))
theorem kt_merge {H : Hp} : ∀ {zs : List (Addr × Addr × List Key × V)} {ws : List (List Key × Addr × Value)} {kvs : List (List Key × V)} {xs : List (List Key × Addr × Value)}, Paired (fun z w => w.1 = z.2.2.1 ∧ w.2.1 = z.2.1 ∧ RelV z.2.2.2 w.2.2) zs ws → (∀ z ∈ zs, PrT H z.1 z.2.1 z.2.2.1 z.2.2.2) → KT H kvs xs → KT H (mergeT kvs (zs.map fun z => z.2.2)) (storedAllH xs ws)
  | _, _, _, _, .nil, _, r => r
  | z :: zs, w :: ws, kvs, xs, .cons h t, hz, r => by
    obtain ⟨h1, h2, h3⟩ := h
    have q := hz z List.mem_cons_self
    have r2 := r.put z.2.2.1 q.ky h3
    have ih := kt_merge t (fun x hx => hz x (List.mem_cons_of_mem _ hx)) r2
    unfold mergeT storedAllH at ih ⊢
    rw [List.map_cons, List.foldl_cons, List.foldl_cons, h1, h2]
    exact ih
theorem mergeT_len : ∀ (more kvs : List (List Key × V)), (mergeT kvs more).length ≤ kvs.length + more.length
  | [], kvs => Nat.le_refl _
  | p :: r, kvs => by
    have h1 := mergeT_len r (putK kvs p.1 p.2)
    have h2 := length_putK kvs p.1 p.2
    unfold mergeT at h1 ⊢
    rw [List.foldl_cons, List.length_cons]
    omega
theorem pairs_rel {X : Cx} {pins : List (Addr × Obj)} {σ : L2.St} {H : Hp} {s : Shared} (I : L2.Inv X pins σ H s) : ∀ {zs : List (Addr × Addr × List Key × V)}, (∀ z ∈ zs, PrT H z.1 z.2.1 z.2.2.1 z.2.2.2) →
    ∃ ws : List (List Key × Addr × Value), Paired (fun z w => w.1 = z.2.2.1 ∧ w.2.1 = z.2.1 ∧ RelV z.2.2.2 w.2.2) zs ws ∧ ∀ (j : Nat) (z : Addr × Addr × List Key × V) (w : List Key × Addr × Value), zs[j]? = some z → ws[j]? = some w → s.heap.IsTuple z.1 #[.ref w.2.1, w.2.2]
  | [], _ => ⟨[], .nil, fun j z w h _ => by simp at h⟩
  | z :: zs, h => by
    obtain ⟨ws, g1, g2⟩ := pairs_rel I (zs := zs) fun x hx => h x (List.mem_cons_of_mem _ hx)
    have q := h z List.mem_cons_self
    obtain ⟨its, rv, ht, _⟩ := I.tuple (xs := [.ref z.2.1, z.2.2.2]) (SqTo q.pr)
    obtain ⟨u, y, rfl, ru, ry⟩ := vals2 rv
    cases (show u = Value.ref z.2.1 from ru)
    refine ⟨(z.2.2.1, z.2.1, y) :: ws, .cons ⟨rfl, rfl, ry⟩ g1, fun j z' w' e1 e2 => ?_⟩
    cases j with
    | zero =>
      cases e1
      cases e2
      obtain ⟨o, h1, h2, n, h3⟩ := ht
      exact ⟨o, h1, h2, n, h3⟩
    | succ j => exact g2 j z' w' (by simpa using e1) (by simpa using e2)
theorem call_dictT {X : Cx} (K : PySem.W.Frag) (hcalm : X.calm = true) (hu : X.A.units + 64 < cLine) (hK : X.K = K := by rfl) : CallR X (.type "dict") (rDictT K) := by
  subst hK
  intro pins s σ H xs us Q I r h
  obtain ⟨a, zs, rfl, ha, hz, q⟩ := h
  obtain ⟨u, rfl, rx⟩ := vals1 r
  cases (show u = Value.ref a from rx)
  obtain ⟨its, rv, pl, hln⟩ := I.list (xs := zs.map fun z => .ref z.1) (SqLo ha)
  rw [List.length_map] at hln
  have ei : its = (zs.map fun z => z.1).map Value.ref := by
    refine refs_at ?_
    rw [List.map_map]
    exact rv
  subst ei
  obtain ⟨ws, hw1, hw2⟩ := pairs_rel I hz
  have hlw := Paired.len hw1
  obtain ⟨o, n, ho, hc, hd, hdat⟩ := pl
  have P := PairArg.list (prog := X.prog) (w := X.w) a (((zs.map fun z => z.1).map Value.ref).toArray) (fun j => ((zs.map fun z => z.1)[j]?).getD 0) (ws.map fun w => (Value.ref w.2.1, w.2.2))
  refine PySem.call_dict_pairsH (knd := tupleKind (mixKind X.prog X.w)) (ps := ws) P (I.ok.hd hcalm) (by show X.A.units + 1 + 1 < cLine; omega) ⟨⟨o, n, ho, hc, hd, hdat⟩, ?_⟩ ?_ ?_ ?_ ?_
  · refine ⟨by simp [hlw], fun j k v hj => ?_⟩
    rw [List.getElem?_map] at hj
    cases hwj : ws[j]? with
    | none => rw [hwj] at hj; cases hj
    | some wv =>
      rw [hwj] at hj
      cases hj
      obtain ⟨z, hzj, _⟩ := Paired.get' hw1 hwj
      refine ⟨by simp [hzj], .inl ?_⟩
      have := hw2 j z wv hzj hwj
      simpa [hzj] using this
  · refine ⟨by simp, fun i key v hr => ?_⟩
    have hr : (ws.map fun w => (Value.ref w.2.1, w.2.2))[i]? = some (key, v) := hr
    rw [List.getElem?_map] at hr
    cases hwj : ws[i]? with
    | none => rw [hwj] at hr; cases hr
    | some wv =>
      rw [hwj] at hr
      cases hr
      exact ⟨wv.1, wv.2.1, rfl, rfl⟩
  · intro h' hk x hx
    obtain ⟨j, hj⟩ := List.mem_iff_getElem?.mp hx
    obtain ⟨z, hzj, e1, e2, _⟩ := Paired.get' hw1 hj
    have hq := hz z (List.mem_of_getElem? hzj)
    have hkey := key_of I.hok hq.ky
    rw [← e1, ← e2] at hkey
    refine tupleKind_stays.stays (fun b ob vs n e _ => ?_) hkey
    exact hk b ob (Nat.ne_of_lt (Heap.lt_size e)) (by simp) e
  · simp only [List.length_map]
    omega
  · intro h' tk hd' hk
    have hm : (s.heap.objs.size == sysModules) = false := beq_eq_false_iff_ne.mpr (Nat.ne_of_gt I.big)
    have hlen : (mergeT [] (zs.map fun z => z.2.2)).length ≤ sizeLine := by
      have := mergeT_len (zs.map fun z => z.2.2) []
      rw [List.length_map] at this
      have e0 : ([] : List (List Key × V)).length = 0 := rfl
      omega
    have nH := I.hok.fresh (Nat.le_refl s.heap.objs.size)
    obtain ⟨o2, es, ep, h1, h2, h3, h4, _, h5⟩ := hd'
    refine ⟨.ref s.heap.objs.size, upd H s.heap.objs.size (.dT (mergeT [] (zs.map fun z => z.2.2))), I.laid (t' := tk) (fun b o e => hk b o (by simp) e) (Nat.le_refl _) ?_, rfl, q _ nH⟩
    refine ⟨hlen, hm, storedAllH [] ws, (kt_merge hw1 hz .nil).keeps fun c ys ec => ?_, o2, es, ep, h1, h2, h3, h4, h5⟩
    rw [upd_ne (ne_of_none ec nH)]
    exact ec
/-! ### a comprehension with a test while the heap only grows -/
def LcF (R : Nat → List V → Hp → Prop) (H1 : Hp) (D : Addr) (i : Nat) (H : Hp) : Prop := ∃ acc, Ex H1 (del H D) ∧ H D = some (.lst acc) ∧ acc.length ≤ i ∧ R i acc (del H D)
theorem lcf_put {R : Nat → List V → Hp → Prop} {H1 H H4 : Hp} {D : Addr} {i : Nat} {acc : List V} {y : V} (e1 : Ex H1 (del H D)) (hD : H D = some (.lst acc)) (hl : acc.length ≤ i) (hi : i < 100000) (e : Ex H H4) (r : R (i + 1) (acc ++ [y]) (del H4 D)) :
    ∃ acc, H4 D = some (.lst acc) ∧ acc.length < sizeLine ∧ LcF R H1 D (i + 1) (upd H4 D (.lst (acc ++ [y]))) := by
  refine ⟨acc, e _ _ hD, szlt (by omega), acc ++ [y], ?_, upd_same, ?_, ?_⟩
  · exact e1.trans (del_grow e)
  · rw [List.length_append]
    show acc.length + 1 ≤ _
    omega
  · rw [show del (upd H4 D (.lst (acc ++ [y]))) D = del H4 D from ?_]
    · exact r
    · funext b
      by_cases hb : b = D
      · rw [hb, del_same, del_same]
      · rw [del_ne hb, del_ne hb, upd_ne hb]
theorem lcf_skip {R : Nat → List V → Hp → Prop} {H1 H H4 : Hp} {D : Addr} {i : Nat} {acc : List V} (e1 : Ex H1 (del H D)) (hD : H D = some (.lst acc)) (hl : acc.length ≤ i) (e : Ex H H4) (r : R (i + 1) acc (del H4 D)) : LcF R H1 D (i + 1) H4 :=
  ⟨acc, e1.trans (del_grow' e), e _ _ hD, by omega, r⟩
theorem lc_fl {J : It} {n : Nat} {G : Hp → Prop} {Y : Nat → Hp → V → Hp → Prop} (w : Walk J n G Y) {g : TG} {tt : TT} {te : TE} {vs : List Nat} {σ : L2.St} {H1 : Hp} {D : Addr} {Qd : Hp → Prop} (R : Nat → List V → Hp → Prop)
    (np : H1 D = none) (h0 : R 0 [] H1) (hG : ∀ H, Ex H1 H → G H)
    (hs : ∀ i x acc H H', i < n → Ex H1 H → Ex H1 (del H D) → H D = some (.lst acc) → acc.length ≤ i → R i acc (del H D) → Y i H x H' → g x (wipe σ vs) H' fun σ2 H2 => wipe σ2 vs = wipe σ vs ∧ tt σ2 H2 fun b H3 =>
      if b = true then te σ2 H3 fun y H4 => ∃ acc, H4 D = some (.lst acc) ∧ acc.length < sizeLine ∧ LcF R H1 D (i + 1) (upd H4 D (.lst (acc ++ [y]))) else LcF R H1 D (i + 1) H3)
    (hd : ∀ acc H, Ex H1 H → Ex H1 (del H D) → H D = some (.lst acc) → acc.length ≤ n → R n acc (del H D) → Qd H) :
    ∃ W : Nat → Nat → Hp → Prop, (∃ m, W 0 m (upd H1 D (.lst []))) ∧ ∀ i m H, W i m H →
      (J.stop i H ∧ Qd H) ∨ (J.go i H ∧ ∃ Nx : Hp → Prop, (∀ H', Nx H' → ∃ m', m' < m ∧ W (i + 1) m' H') ∧ ∀ x H', J.yld i H x H' → g x (wipe σ vs) H' fun σ2 H2 => wipe σ2 vs = wipe σ vs ∧ tt σ2 H2 fun b H3 =>
        if b = true then te σ2 H3 fun y H4 => ∃ acc, H4 D = some (.lst acc) ∧ acc.length < sizeLine ∧ Nx (upd H4 D (.lst (acc ++ [y]))) else Nx H3) := by
  refine lc_it w (LcF R H1 D) ⟨[], ?_, upd_same, Nat.le_refl _, ?_⟩ ?_ ?_ ?_
  · rw [del_none np]
    exact fun _ _ h => h
  · rw [del_none np]
    exact h0
  · rintro i H hi ⟨acc, e, _⟩
    exact hG _ (e.trans ex_del)
  · rintro i x H H' hi ⟨acc, e, hD, hl, r⟩ y
    exact hs i x acc H H' hi (e.trans ex_del) e hD hl r y
  · rintro H ⟨acc, e, hD, hl, r⟩
    exact hd acc H (e.trans ex_del) e hD hl r
end LW

namespace VL
open PySem L2 LW
/-! ### values, plainly -/
mutual
def cnt : PyData → Nat
  | .list ds => 1 + cntL ds
  | .dict kvs => 1 + cntK kvs
  | _ => 1
def cntL : List PyData → Nat
  | [] => 0
  | d :: r => cnt d + cntL r
def cntK : List (PyData × PyData) → Nat
  | [] => 0
  | (_, d) :: r => cnt d + cntK r
end
def low (x : Str) : Bool := x.cps.toList.all fun c => decide (97 ≤ c) && decide (c ≤ 122)
def lets (x : Str) (a b : Nat) : Bool := decide (a ≤ x.length) && decide (x.length ≤ b) && low x
def big : Int := 1000000000000000000000000000000
def fld : PyData → Bool
  | .str x => lets x 1 8
  | _ => false
def okP : PyData → Bool
  | .int i => decide (-big < i) && decide (i < big)
  | .str x => lets x 0 20
  | .list ds => decide (ds.length < 60)
  | .dict kvs => decide (kvs.length ≤ 8) && kvs.all fun p => fld p.1
  | _ => false
mutual
def okA : PyData → Bool
  | .list ds => okP (.list ds) && okL ds
  | .dict kvs => okP (.dict kvs) && okK kvs
  | .none => false
  | .bool _ => false
  | .int i => okP (.int i)
  | .str x => okP (.str x)
  | .tuple _ => false
def okL : List PyData → Bool
  | [] => true
  | d :: r => okA d && okL r
def okK : List (PyData × PyData) → Bool
  | [] => true
  | (_, d) :: r => okA d && okK r
end
def kids : PyData → List PyData
  | .list ds => ds
  | .dict kvs => kvs.map (·.2)
  | _ => []
theorem cntK_eq : ∀ kvs : List (PyData × PyData), cntK kvs = cntL (kvs.map (·.2))
  | [] => by simp [cntK, cntL]
  | (k, d) :: r => by simp [cntK, cntL, cntK_eq r]
theorem okK_eq : ∀ kvs : List (PyData × PyData), okK kvs = okL (kvs.map (·.2))
  | [] => by simp [okK, okL]
  | (k, d) :: r => by simp [okK, okL, okK_eq r]
theorem okL_all : ∀ ds : List PyData, okL ds = ds.all okA
  | [] => by simp [okL]
  | d :: r => by simp [okL, okL_all r]
theorem cntL_sum : ∀ ds : List PyData, cntL ds = (ds.map cnt).sum
  | [] => by simp [cntL]
  | d :: r => by simp [cntL, cntL_sum r]
theorem cnt_kids (d : PyData) : cnt d = 1 + cntL (kids d) := by
  cases d <;> simp [cnt, kids, cntL, cntK_eq]
theorem okA_kids (d : PyData) : okA d = (okP d && okL (kids d)) := by
  cases d <;> simp [okA, okP, kids, okL, okK_eq]
theorem cnt_pos (d : PyData) : 1 ≤ cnt d := by
  rw [cnt_kids]
  omega
theorem cntL_app (xs ys : List PyData) : cntL (xs ++ ys) = cntL xs + cntL ys := by
  rw [cntL_sum, cntL_sum, cntL_sum, List.map_append, List.sum_append]
theorem okL_app (xs ys : List PyData) : okL (xs ++ ys) = (okL xs && okL ys) := by
  rw [okL_all, okL_all, okL_all, List.all_append]
theorem cntL_perm {xs ys : List PyData} (p : xs.Perm ys) : cntL xs = cntL ys := by
  induction p with
  | nil => rfl
  | cons x _ ih => rw [cntL, cntL, ih]
  | swap x y l => simp only [cntL]; omega
  | trans _ _ a b => exact a.trans b
theorem okL_perm {xs ys : List PyData} (p : xs.Perm ys) : okL xs = okL ys := by
  rw [okL_all, okL_all]
  exact p.all_eq
theorem cnt_kid {d c : PyData} (h : c ∈ kids d) : cnt c < cnt d := by
  rw [cnt_kids d]
  have : ∀ (l : List PyData), c ∈ l → cnt c ≤ cntL l := by
    intro l
    induction l with
    | nil => intro h; cases h
    | cons a r ih =>
      intro h
      rw [cntL]
      rcases List.mem_cons.mp h with rfl | h
      · omega
      · have := ih h
        omega
  have := this _ h
  omega
end VL

namespace VL
open PySem L2 LW
open Evl (Ex)
/-! ### records by their names -/
def nm : PyData → Str
  | .str x => x
  | _ => ""
def names (kvs : List (PyData × PyData)) : List Str := kvs.map fun p => nm p.1
def AllStr (kvs : List (PyData × PyData)) : Prop := ∀ p ∈ kvs, p.1 = .str (nm p.1)
def getN : List (PyData × PyData) → Str → PyData
  | [], _ => .none
  | (k, d) :: r, y => if nm k = y then d else getN r y
theorem getN_self : ∀ {kvs : List (PyData × PyData)}, AllStr kvs → (names kvs).Nodup → (names kvs).map (fun y => (PyData.str y, getN kvs y)) = kvs
  | [], _, _ => rfl
  | (k, d) :: r, ha, hn => by
    have hn' : (nm k :: names r).Nodup := hn
    obtain ⟨h1, h2⟩ := List.nodup_cons.mp hn'
    have ih := getN_self (fun p hp => ha p (List.mem_cons_of_mem _ hp)) h2
    show (PyData.str (nm k), getN ((k, d) :: r) (nm k)) :: (names r).map (fun y => (PyData.str y, getN ((k, d) :: r) y)) = (k, d) :: r
    have e1 : getN ((k, d) :: r) (nm k) = d := by
      unfold getN
      rw [if_pos rfl]
    have e2 : PyData.str (nm k) = k := (ha (k, d) List.mem_cons_self).symm
    rw [e1, e2]
    congr 1
    refine Eq.trans ?_ ih
    · apply List.map_congr_left
      intro y hy
      have : nm k ≠ y := fun e => h1 (e ▸ hy)
      show (PyData.str y, if nm k = y then d else getN r y) = _
      rw [if_neg this]
theorem allStr_of {kvs : List (PyData × PyData)} (h : okP (.dict kvs) = true) : AllStr kvs ∧ kvs.length ≤ 8 := by
  have h' : (decide (kvs.length ≤ 8) && kvs.all fun p => fld p.1) = true := h
  rw [Bool.and_eq_true] at h'
  refine ⟨fun p hp => ?_, of_decide_eq_true h'.1⟩
  have q := List.all_eq_true.mp h'.2 p hp
  cases e : p.1 with
  | str x => rfl
  | _ => rw [e] at q; cases q
/-- the names of a tracked dict -/
theorem dtk_names {H : Hp} : ∀ {kvs : List (PyData × PyData)} {es : List (Key × V)}, DtK H kvs es → AllStr kvs → es.map (·.1) = (names kvs).map fun y => (Sum.inr y : Key)
  | [], _, h, _ => by
    unfold DtK at h
    subst h
    rfl
  | (k, d) :: r, _, h, ha => by
    unfold DtK at h
    obtain ⟨x, v, t, rfl, hk, _, h2⟩ := h
    have ih := dtk_names h2 (fun p hp => ha p (List.mem_cons_of_mem _ hp))
    show x :: t.map (·.1) = Sum.inr (nm k) :: (names r).map fun y => (Sum.inr y : Key)
    rw [ih]
    have e := ha (k, d) List.mem_cons_self
    have e' : k = .str (nm k) := e
    congr 1
    cases x with
    | inl i =>
      rw [hk] at e'
      cases e'
    | inr z =>
      rw [hk]
      rfl
theorem nodup_names {H : Hp} {kvs : List (PyData × PyData)} {es : List (Key × V)} (h : DtK H kvs es) (ha : AllStr kvs) (nd : (es.map (·.1)).Nodup) : (names kvs).Nodup := by
  rw [dtk_names h ha] at nd
  exact List.Pairwise.imp (fun h e => h (by rw [e])) (List.pairwise_map.mp nd)
theorem dtk_get {H : Hp} : ∀ {kvs : List (PyData × PyData)} {es : List (Key × V)}, DtK H kvs es → AllStr kvs → ∀ y ∈ names kvs, ∃ v, valV es (Sum.inr y : Key) = some v ∧ Dt H (getN kvs y) v
  | [], _, _, _, y, hy => by cases hy
  | (k, d) :: r, _, h, ha, y, hy => by
    unfold DtK at h
    obtain ⟨x, v, t, rfl, hk, h1, h2⟩ := h
    have e' : k = .str (nm k) := ha (k, d) List.mem_cons_self
    have hx : x = Sum.inr (nm k) := by
      cases x with
      | inl i => rw [hk] at e'; cases e'
      | inr z => rw [hk]; rfl
    by_cases e : nm k = y
    · refine ⟨v, ?_, ?_⟩
      · unfold valV
        rw [List.find?_cons_of_pos (by rw [hx, e]; exact decide_eq_true rfl)]
        rfl
      · unfold getN
        rw [if_pos e]
        exact h1
    · have hy' : y ∈ names r := by
        rcases List.mem_cons.mp (show y ∈ nm k :: names r from hy) with q | q
        · exact (e q.symm).elim
        · exact q
      obtain ⟨u, h3, h4⟩ := dtk_get h2 (fun p hp => ha p (List.mem_cons_of_mem _ hp)) y hy'
      refine ⟨u, ?_, ?_⟩
      · unfold valV at h3 ⊢
        rw [List.find?_cons_of_neg (by rw [hx]; intro q; exact e (Sum.inr.inj (of_decide_eq_true q)))]
        exact h3
      · unfold getN
        rw [if_neg e]
        exact h4
/-! ### the children, step by step -/
def KidsAre (d : PyData) (cs : List (V × PyData)) : Prop := match d with
  | .list ds => cs = (List.range ds.length).zipWith (fun (i : Nat) c => (V.int i, c)) ds
  | .dict kvs => ∃ ys : List Str, ys.Perm (names kvs) ∧ PyProof.Rows.sortedS ys = true ∧ cs = ys.map fun y => (V.str y, getN kvs y)
  | _ => cs = []
theorem kids_perm {d : PyData} {cs : List (V × PyData)} (h : KidsAre d cs) (hn : ∀ kvs, d = .dict kvs → AllStr kvs ∧ (names kvs).Nodup) : (cs.map (·.2)).Perm (kids d) := by
  cases d with
  | list ds =>
    have h : cs = (List.range ds.length).zipWith (fun (i : Nat) c => (V.int i, c)) ds := h
    have e : cs.map (·.2) = ds := by
      rw [h, List.map_zipWith]
      apply List.ext_getElem?
      intro i
      rw [List.getElem?_zipWith]
      by_cases hi : i < ds.length
      · rw [List.getElem?_range hi, List.getElem?_eq_getElem hi]
      · rw [List.getElem?_eq_none (l := ds) (by omega)]
        cases (List.range ds.length)[i]? <;> rfl
    rw [e]
    exact List.Perm.refl _
  | dict kvs =>
    obtain ⟨ys, p, _, rfl⟩ := h
    obtain ⟨ha, nd⟩ := hn kvs rfl
    have q := (p.map (fun y => (PyData.str y, getN kvs y))).trans (List.Perm.of_eq (getN_self ha nd))
    have q2 := q.map (·.2)
    rw [List.map_map] at q2
    rw [List.map_map]
    exact q2
  | _ =>
    have h : cs = [] := h
    subst h
    exact List.Perm.refl _
end VL

namespace VL
open PySem PySem.Spec L2 LW
open Evl (Ex)
def top (i : Nat) : Stmt := PySem.Challenge.pw_latechecks_k06_whole_values_from_heads.main.body.getD i (.Pass ⟨0, 0, 0, 0⟩)
abbrev s_InvalidValue___init__ : Stmt := inClass (top 2) 0
abbrev s_InvalidPlace___init__ : Stmt := inClass (top 3) 0
abbrev s_InvalidSeen___init__ : Stmt := inClass (top 4) 0
abbrev s_InvalidLooks___init__ : Stmt := inClass (top 5) 0
abbrev s_is_integer : Stmt := top 13
abbrev s_is_letters : Stmt := top 14
abbrev s_is_field : Stmt := top 15
abbrev s_is_leaf : Stmt := top 16
abbrev s_is_part : Stmt := top 17
abbrev s_children : Stmt := top 18
abbrev s_is_value : Stmt := top 19
abbrev s_check_value : Stmt := top 20
abbrev s_count : Stmt := top 21
abbrev s_size : Stmt := top 22
abbrev s_copy_of : Stmt := top 23
abbrev s_places_below : Stmt := top 24
abbrev s_places : Stmt := top 25
abbrev s_has_step : Stmt := top 26
abbrev s_has_place : Stmt := top 27
abbrev s_part_at : Stmt := top 28
abbrev s_at : Stmt := top 29
abbrev s_head_of : Stmt := top 30
abbrev s_are_fields : Stmt := top 33
abbrev s_is_head : Stmt := top 34
abbrev s_shows_step : Stmt := top 35
abbrev s_is_place : Stmt := top 36
abbrev s_is_seen : Stmt := top 37
abbrev s_look_at_seen : Stmt := top 38
abbrev s_seen_of : Stmt := top 39
abbrev s_whole_seen : Stmt := top 40
abbrev s_has_heads : Stmt := top 41
abbrev s_fits : Stmt := top 42
abbrev s__law_hand : Stmt := top 44
abbrev s__law_draw : Stmt := top 45
abbrev s__law_word : Stmt := top 46
abbrev s__law_leaf : Stmt := top 47
abbrev s__law_value : Stmt := top 48
abbrev s__law_below : Stmt := top 49
abbrev s__law_part : Stmt := top 50
abbrev s__law_top : Stmt := top 51
abbrev s__law_twin : Stmt := top 52
abbrev s__law_built : Stmt := top 53
abbrev s__law_part_right : Stmt := top 54
abbrev s_law : Stmt := top 55
structure Txt (K : PySem.W.Frag) (mg : Str → Option Value) : Prop where
  b_len : mg "len" = none
  b_range : mg "range" = none
  b_isinstance : mg "isinstance" = none
  b_int : mg "int" = none
  b_str : mg "str" = none
  b_bool : mg "bool" = none
  b_list : mg "list" = none
  b_dict : mg "dict" = none
  b_tuple : mg "tuple" = none
  b_all : mg "all" = none
  b_enumerate : mg "enumerate" = none
  b_max : mg "max" = none
  b_min : mg "min" = none
  b_sum : mg "sum" = none
  b_sorted : mg "sorted" = none
  b_repr : mg "repr" = none
  g_LETTERS : ∃ u, mg "LETTERS" = some u ∧ RelV (.str "abcdefghijklmnopqrstuvwxyz") u
  g_GREATEST : ∃ u, mg "GREATEST" = some u ∧ RelV (.int 1000000000000000000000000000000) u
  g_LONGEST_TEXT : ∃ u, mg "LONGEST_TEXT" = some u ∧ RelV (.int 20) u
  g_LONGEST_NAME : ∃ u, mg "LONGEST_NAME" = some u ∧ RelV (.int 8) u
  g_MOST_FIELDS : ∃ u, mg "MOST_FIELDS" = some u ∧ RelV (.int 8) u
  g_MOST_PLACES : ∃ u, mg "MOST_PLACES" = some u ∧ RelV (.int 60) u
section
variable {P : Program} {w : World} {K : PySem.W.Frag} {mg : Str → Option Value} {base : Heap}
/-! ### _law_draw -/
def spDraw : Sp := fun vs H Q _ => ∃ (p : Addr) (n : Int), vs = [.ref p, .int n] ∧ Pool H p ∧ 0 < n ∧ n ≤ 10000000000000000000000000000000 ∧ ∀ v : Int, 0 ≤ v → v < n → Q (.int v) H
theorem sc__law_draw : FnScope ["_law_pool", "_law_many", "_law_found"] ["_law_pool", "_law_many"] (defScope s__law_draw) := ⟨rfl, rfl, rfl, by decide +kernel, rfl, by decide +kernel, by decide +kernel⟩
theorem bi__law_draw : BindsEq "_law_draw" s__law_draw ["_law_pool", "_law_many"] := fun _ _ _ _ _ _ us hl => match us, hl with | [_, _], _ => rfl
theorem ok_draw (F : Df K mg "_law_draw" s__law_draw) (T : Txt K mg) : Cal P w K mg base CX0 1 "_law_draw" spDraw := by
  refine cal0 F sc__law_draw bi__law_draw (fun vs H Q E h => ?_) (fun f cdv A outer s H vs Q E hr h => ?_)
  · obtain ⟨p, n, rfl, _⟩ := h
    rfl
  · obtain ⟨p, n, rfl, hp, n0, n1, k⟩ := h
    refine ⟨_, pss_focus (pss_cons (ps_if (pt_cmpR op_gt (pe_ix (ixl K) (pv 0) pe_int (fun _ _ => rfl)) pe_int (nomark _)) (pss_cons (ps_set (i := 2) sc__law_draw.nd rfl (Or.inl rfl) (pe_op op_mod (pe_callTy call_int1 rfl T.b_int (by decide +kernel) (pa_cons (pe_ix (ixl K) (pv 0) pe_int (fun _ _ => rfl)) pa_nil)) (pv 1)))
 (pss_cons (ps_asg (pe_op op_fdivW (pe_ix (ixl K) (pv 0) pe_int (fun _ _ => rfl)) (pv 1)) (pg_sub (pv 0) pe_int set_list))
 (pss_one (ps_ret (pv 2))))) pss_nil)
 (pss_cons (ps_asg (pe_op op_mod (pe_callTy call_int1 rfl T.b_int (by decide +kernel) (pa_cons (pe_op op_add (pe_op op_mul (pe_ix (ixl K) (pv 0) pe_int (fun _ _ => rfl)) pe_int) pe_int) pa_nil)) pe_int) (pg_sub (pv 0) pe_int set_list))
 (pss_one (ps_ret (pe_op op_mod (pe_op op_fdivW (pe_op op_mod (pe_callTy call_int1 rfl T.b_int (by decide +kernel) (pa_cons (pe_op op_mul (pe_ix (ixl K) (pv 0) pe_int (fun _ _ => rfl)) (pe_ix (ixl K) (pv 0) pe_int (fun _ _ => rfl))) pa_nil)) pe_int) pe_int) (pv 1)))))), ?_⟩
    refine ⟨p, hp, fun a b a0 b0 b1 => ?_⟩
    have hd : CDivW a n := wide_div (b := 110) n0 (by omega) (by decide) (by decide)
    have sq : ∀ x y : Int, SqL K (upd H p (.lst [.int x, .int y])) p [.int x, .int y] := fun x y => Evl.sq_of upd_same
    have a0' : ∀ x y : V, atI [x, y] 0 = some x := fun _ _ => rfl
    have a1' : ∀ x y : V, atI [x, y] 1 = some y := fun _ _ => rfl
    refine ⟨_, rfl, p, _, _, _, rfl, rfl, sq a b, a0' _ _, _, _, rfl, rfl, _, rfl, ?_⟩
    refine ite2 (fun h => ?_) (fun h => ?_)
    · have h : 0 < a := of_decide_eq_true h
      refine ⟨_, rfl, p, _, _, _, rfl, rfl, sq a b, a0' _ _, .inl ⟨_, rfl, _, rfl, _, _, rfl, rfl, n0, ?_⟩⟩
      refine ⟨_, rfl, p, _, _, _, rfl, rfl, sq a b, a0' _ _, _, rfl, _, _, rfl, rfl, hd, _, rfl, p, _, _, 0, rfl, rfl, upd_same, rfl, ?_⟩
      refine ⟨_, rfl, a / n, b, upd_same, ?_, b0, b1, ?_⟩
      · exact Int.ediv_nonneg a0 (by omega)
      · rw [upd_upd, upd_back hp]
        exact k _ (Int.emod_nonneg _ (by omega)) (Int.emod_lt_of_pos _ n0)
    · refine ⟨_, rfl, p, _, _, _, rfl, rfl, sq a b, a1' _ _, _, _, rfl, rfl, .inl ⟨by omega, by omega⟩, _, _, rfl, rfl, .inl ⟨_, rfl, _, _, rfl, rfl, (by show (0 : Int) < 2147483647; decide), ?_⟩⟩
      have c0 : 0 ≤ (b * 48271 + 11) % 2147483647 := Int.emod_nonneg _ (by decide)
      have c1 : (b * 48271 + 11) % 2147483647 < 2147483647 := Int.emod_lt_of_pos _ (by decide)
      refine ⟨_, rfl, p, _, _, 1, rfl, rfl, upd_same, rfl, ?_⟩
      rw [upd_upd]
      refine ⟨_, rfl, p, _, _, _, rfl, rfl, sq a ((b * 48271 + 11) % 2147483647), a1' _ _, _, rfl, p, _, _, _, rfl, rfl, sq a ((b * 48271 + 11) % 2147483647), a1' _ _, _, _, rfl, rfl, .inl ⟨by omega, by omega⟩, .inl ⟨_, rfl, _, _, rfl, rfl, (by show (0 : Int) < 2147483629; decide), _, _, rfl, rfl, ⟨by decide, by decide⟩, _, rfl, _, _, rfl, rfl, n0, ?_⟩⟩
      refine ⟨a, _, upd_same, a0, c0, c1, ?_⟩
      rw [upd_back hp]
      exact k _ (Int.emod_nonneg _ (by omega)) (Int.emod_lt_of_pos _ n0)
/-! ### _law_hand -/
theorem cut_mem {xs : List V} {lo hi : Option Int} {v : V} (h : v ∈ cutV xs lo hi) : v ∈ xs := List.mem_of_mem_drop (List.mem_of_mem_take h)
def spHand (K : PySem.W.Frag) : Sp := fun vs H Q _ => ∃ (a : Addr) (ns : List Int) (k : Int), vs = [.ref a, .int k] ∧ SqL K H a (ns.map V.int) ∧ ns.length ≤ 63 ∧ 0 ≤ k ∧ k ≤ 63 ∧ ∀ p H', H p = none → Ex H H' → Pool H' p → Q (.ref p) H'
theorem sc__law_hand : FnScope ["_law_script", "_law_k", "_law_cell", "_law_seed"] ["_law_script", "_law_k"] (defScope s__law_hand) := ⟨rfl, rfl, rfl, by decide +kernel, rfl, by decide +kernel, by decide +kernel⟩
theorem bi__law_hand : BindsEq "_law_hand" s__law_hand ["_law_script", "_law_k"] := fun _ _ _ _ _ _ us hl => match us, hl with | [_, _], _ => rfl
theorem ok_hand (F : Df K mg "_law_hand" s__law_hand) (T : Txt K mg) : Cal P w K mg base CX0 1 "_law_hand" (spHand K) := by
  refine cal0 F sc__law_hand bi__law_hand (fun vs H Q E h => ?_) (fun f cdv A outer s H vs Q E hr h => ?_)
  · obtain ⟨a, ns, j, rfl, _⟩ := h
    rfl
  · obtain ⟨a, ns, j, rfl, hS, hl, j0, j1, k⟩ := h
    refine ⟨_, (pss_cons (ps_set (i := 2) sc__law_hand.nd rfl (Or.inl rfl) (pe_ix (ixl K) (pe_op op_cat (pe_slice (slK K) (pv 0) (po_some (pv 1)) (po_some (pe_op op_add (pv 1) pe_int))) (pe_lst (pa_cons pe_int pa_nil))) pe_int (fun _ _ => rfl)))
 (pss_cons (ps_set (i := 3) sc__law_hand.nd rfl (Or.inl rfl) (pe_op op_mod (pe_op op_mul (pe_op op_add (pe_op op_add (pe_op op_mod (pe_callTy call_int1 rfl T.b_int (by decide +kernel) (pa_cons (pv 2) pa_nil)) pe_int) (pe_op op_mul pe_int (pv 1))) pe_int) pe_int) pe_int))
 (pss_one (ps_retPool (pe_lst (pa_cons (pe_op op_mul (pe_callTy call_int1 rfl T.b_int (by decide +kernel) (pa_cons (pe_cmpR op_ge (pv 2) (pe_op op_pow pe_int pe_int) (nomark _)) pa_nil)) (pv 2)) (pa_cons (pv 3) pa_nil))))))), ?_⟩
    refine ⟨_, rfl, _, rfl, _, rfl, _, rfl, _, _, rfl, rfl, _, rfl, a, _, rfl, hS, fun p1 np1 => ?_⟩
    obtain ⟨H1, hH1, x0_1, h1⟩ := newH _ np1
    rw [hH1]
    clear hH1
    have f1 := np1
    refine ⟨szl (by show 1 ≤ 100000; decide), fun p2 np2 => ?_⟩
    obtain ⟨H2, hH2, x1_2, h2⟩ := newH _ np2
    rw [hH2]
    clear hH2
    have x0_2 := x0_1.trans x1_2
    have f2 := ex_free x0_1 np2
    have hlen := cutV_length (ns.map V.int) (some j) (some (j + 1))
    rw [List.length_map] at hlen
    refine ⟨p1, p2, _, _, rfl, rfl, x1_2 _ _ h1, h2, szl (by show _ + 1 ≤ 100000; omega), fun p3 np3 => ?_⟩
    obtain ⟨H3, hH3, x2_3, h3⟩ := newH _ np3
    rw [hH3]
    clear hH3
    have x0_3 := x0_2.trans x2_3
    have x1_3 := x1_2.trans x2_3
    have f3 := ex_free x0_2 np3
    obtain ⟨c, hc⟩ : ∃ c : Int, atI (cutV (ns.map V.int) (some j) (some (j + 1)) ++ [V.int 0]) 0 = some (V.int c) := by
      obtain ⟨x, hx, hm, _⟩ := at_some (xs := cutV (ns.map V.int) (some j) (some (j + 1)) ++ [V.int 0]) (v := 0) (by decide) (by rw [List.length_append]; show (0 : Int) < ((_ + 1 : Nat) : Int); omega)
      rcases List.mem_append.mp hm with q | q
      · obtain ⟨c, _, e⟩ := List.mem_map.mp (cut_mem q)
        exact ⟨c, by rw [hx, e]⟩
      · have e : x = V.int 0 := by simpa using q
        exact ⟨0, by rw [hx, e]⟩
    refine ⟨p3, _, _, _, rfl, rfl, SqLo h3, hc, ?_⟩
    -- _law_seed
    refine ⟨_, rfl, .inl ⟨_, rfl, _, _, rfl, rfl, (by show (0 : Int) < 2147483647; decide), ?_⟩⟩
    have m0 : 0 ≤ c % 2147483647 := Int.emod_nonneg _ (by decide)
    have m1 : c % 2147483647 < 2147483647 := Int.emod_lt_of_pos _ (by decide)
    refine ⟨_, rfl, _, _, rfl, rfl, .inl ⟨by decide, by decide⟩, _, _, rfl, rfl, _, _, rfl, rfl, _, _, rfl, rfl, .inr ⟨by decide, by decide⟩, _, _, rfl, rfl, (by show (0 : Int) < 2147483629; decide), ?_⟩
    -- return
    refine ⟨_, rfl, _, _, rfl, rfl, ⟨by decide, by decide, by decide⟩, _, _, rfl, rfl, .inr ⟨_, rfl, _, rfl, _, _, rfl, rfl, .inl ?_, ?_⟩⟩
    · split <;> exact ⟨by decide, by decide⟩
    refine ⟨_, rfl, szl (by show 2 ≤ 100000; decide), fun p4 np4 => ?_⟩
    obtain ⟨H4, hH4, x3_4, h4⟩ := newH _ np4
    rw [hH4]
    clear hH4
    have x0_4 := x0_3.trans x3_4
    have x1_4 := x1_3.trans x3_4
    have x2_4 := x2_3.trans x3_4
    have f4 := ex_free x0_3 np4
    have np : H p4 = none := ex_free x0_3 np4
    refine ⟨p4, _, _, rfl, h4, ?_, ?_, ?_, k p4 _ np ?_ upd_same⟩
    · by_cases hb : (10 : Int) ^ (18 : Int).toNat ≤ c
      · rw [decide_eq_true hb]
        show 0 ≤ 1 * c
        have : (0 : Int) ≤ 10 ^ (18 : Int).toNat := by decide
        omega
      · rw [decide_eq_false hb]
        show 0 ≤ 0 * c
        omega
    · exact Int.emod_nonneg _ (by decide)
    · exact Int.lt_trans (Int.emod_lt_of_pos _ (by decide)) (by decide)
    · exact Ex.mut x0_4 np
/-! ### is_integer -/
def isI : PyData → Bool
  | .int _ => true
  | _ => false
def spIsInt : Sp := fun vs H Q _ => ∃ v d, vs = [v] ∧ Dt H d v ∧ Q (.bl (isI d)) H
theorem sc_is_integer : FnScope ["thing"] ["thing"] (defScope s_is_integer) := ⟨rfl, rfl, rfl, by decide +kernel, rfl, by decide +kernel, by decide +kernel⟩
theorem bi_is_integer : BindsEq "is_integer" s_is_integer ["thing"] := fun _ _ _ _ _ _ us hl => match us, hl with | [_], _ => rfl
theorem ok_isint (F : Df K mg "is_integer" s_is_integer) (T : Txt K mg) : Cal P w K mg base CX0 1 "is_integer" spIsInt := by
  refine cal0 F sc_is_integer bi_is_integer (fun vs H Q E h => ?_) (fun f cdv A outer s H vs Q E hr h => ?_)
  · obtain ⟨v, d, rfl, _⟩ := h
    rfl
  · obtain ⟨v, d, rfl, hd, k⟩ := h
    refine ⟨_, (pss_one (ps_ret (pe_and (pe_callB (isD K) rfl T.b_isinstance (by decide +kernel) (pa_cons (pv 0) (pa_cons (pe_bltn (v := .ty "int") rfl T.b_int (by decide +kernel) rfl) pa_nil))) (pe_one (pe_not (pe_callB (isD K) rfl T.b_isinstance (by decide +kernel) (pa_cons (pv 0) (pa_cons (pe_bltn (v := .ty "bool") rfl T.b_bool (by decide +kernel) rfl) pa_nil)))))))), ?_⟩
    cases d with
    | bool b => exact ⟨v, rfl, v, _, _, true, rfl, hd, rfl, _, rfl, if_t rfl ⟨v, rfl, v, _, _, true, rfl, hd, rfl, _, rfl, k⟩⟩
    | int i => exact ⟨v, rfl, v, _, _, true, rfl, hd, rfl, _, rfl, if_t rfl ⟨v, rfl, v, _, _, false, rfl, hd, rfl, _, rfl, k⟩⟩
    | none => exact ⟨v, rfl, v, _, _, false, rfl, hd, rfl, _, rfl, if_f rfl k⟩
    | str x => exact ⟨v, rfl, v, _, _, false, rfl, hd, rfl, _, rfl, if_f rfl k⟩
    | list x => exact ⟨v, rfl, v, _, _, false, rfl, hd, rfl, _, rfl, if_f rfl k⟩
    | tuple x => exact ⟨v, rfl, v, _, _, false, rfl, hd, rfl, _, rfl, if_f rfl k⟩
    | dict x => exact ⟨v, rfl, v, _, _, false, rfl, hd, rfl, _, rfl, if_f rfl k⟩
/-! ### is_letters -/
def letD (d : PyData) (a b : Nat) : Bool := match d with
  | .str x => lets x a b
  | _ => false
def spLets : Sp := fun vs H Q _ => ∃ (v : V) (d : PyData) (a b : Nat), vs = [v, .int a, .int b] ∧ Dt H d v ∧ b ≤ 1000 ∧ (∀ x, d = .str x → x.length ≤ sizeLine) ∧ ∀ H', Ex H H' → Q (.bl (letD d a b)) H'
theorem sc_is_letters : FnScope ["thing", "least", "most", "sign"] ["thing", "least", "most"] (defScope s_is_letters) := ⟨rfl, rfl, rfl, by decide +kernel, rfl, by decide +kernel, by decide +kernel⟩
theorem bi_is_letters : BindsEq "is_letters" s_is_letters ["thing", "least", "most"] := fun _ _ _ _ _ _ us hl => match us, hl with | [_, _, _], _ => rfl
theorem letters_mem (c : Nat) : decide (c ∈ ("abcdefghijklmnopqrstuvwxyz" : Str).cps.toList) = (decide (97 ≤ c) && decide (c ≤ 122)) := by
  have e : ("abcdefghijklmnopqrstuvwxyz" : Str).cps.toList = (List.range 26).map (· + 97) := by decide +kernel
  rw [e]
  by_cases h : 97 ≤ c ∧ c ≤ 122
  · rw [decide_eq_true h.1, decide_eq_true h.2]
    exact decide_eq_true (List.mem_map.mpr ⟨c - 97, List.mem_range.mpr (by omega), by omega⟩)
  · have : ¬ c ∈ (List.range 26).map (· + 97) := fun hm => by
      obtain ⟨a, h1, h2⟩ := List.mem_map.mp hm
      have := List.mem_range.mp h1
      omega
    rw [decide_eq_false this]
    by_cases h1 : 97 ≤ c
    · rw [decide_eq_true h1, decide_eq_false (by omega)]
      rfl
    · rw [decide_eq_false h1]
      rfl
theorem ok_lets (F : Df K mg "is_letters" s_is_letters) (T : Txt K mg) : Cal P w K mg base CX0 1 "is_letters" spLets := by
  refine cal0 F sc_is_letters bi_is_letters (fun vs H Q E h => ?_) (fun f cdv A outer s H vs Q E hr h => ?_)
  · obtain ⟨v, d, a, b, rfl, _⟩ := h
    rfl
  · obtain ⟨v, d, a, b, rfl, hd, hb, hx, k⟩ := h
    refine ⟨_, (pss_cons (ps_if (PW.pt (pw_or (pt_not (pt_val (pe_callB (isD K) rfl T.b_isinstance (by decide +kernel) (pa_cons (pv 0) (pa_cons (pe_bltn (v := .ty "str") rfl T.b_str (by decide +kernel) rfl) pa_nil))))) (pw_or1 (pt_not (pt_chain op_le op_le (pv 1) (pe_callB (lnK K) rfl T.b_len (by decide +kernel) (pa_cons (pv 0) pa_nil)) (pv 2)))))) (pss_one (ps_ret pe_bl)) pss_nil)
 (pss_one (ps_ret (pe_callB (allK K rfl) rfl T.b_all (by decide +kernel) (pa_cons (pe_lc (own := [("sign", 3)]) (by rfl) sc_is_letters.nd (pi_str (pv 0)) (blkOk_by (own := [("sign", 3)]) (N := ["thing", "least", "most", "sign"]) (sc := defScope s_is_letters) (by decide +kernel)) (fun _ _ _ _ _ => (pg_name (i := 3) sc_is_letters.nd rfl (Or.inl rfl))) (fun _ _ _ _ _ => pts_nil) (fun _ _ _ _ _ => (pe_cmpR op_in_sign (pv 3) (pgc rfl T.g_LETTERS) (by rfl)))) pa_nil))))), ?_⟩
    cases d with
    | str x =>
      have hv : v = .str x := by unfold Dt at hd; exact hd
      have hz := hx x rfl
      refine ⟨v, rfl, v, _, _, true, rfl, hd, rfl, _, rfl, if_f rfl ?_⟩
      subst hv
      refine ⟨_, rfl, _, rfl, .str x, x.length, rfl, ⟨hz, rfl⟩, _, _, rfl, rfl, _, rfl, if_b (fun h1 => ?_) (fun h1 => ?_)⟩
      · refine ⟨_, rfl, _, _, rfl, rfl, _, rfl, if_b (fun h2 => ?_) (fun h2 => ?_)⟩
        · have e : letD (.str x) a b = false := by
            have h2 : ¬ x.length ≤ b := fun q => by
              rw [decide_eq_true (show (x.length : Int) ≤ b by omega)] at h2
              cases h2
            show (decide (a ≤ x.length) && decide (x.length ≤ b) && low x) = false
            rw [decide_eq_false h2, Bool.and_false, Bool.false_and]
          have q := k H (fun _ _ h => h)
          rw [e] at q
          exact q
        · have h1 : a ≤ x.length := by
            have := of_decide_eq_true h1
            omega
          have h2 : x.length ≤ b := by
            have h2 : decide ((x.length : Int) ≤ b) = true := by simpa using h2
            have := of_decide_eq_true h2
            omega
          refine ⟨_, rfl, x, rfl, fun D nD => lc_gr walk_str (fun i acc _ => acc = (x.cps.toList.take i).map fun c => V.bl (decide (97 ≤ c) && decide (c ≤ 122))) nD (by show x.length ≤ 100000; omega) rfl (fun _ _ => True.intro) ?_ ?_⟩
          · rintro i v acc H1 H2 hi e e' hD hl rfl ⟨rfl, c, hc, rfl⟩
            refine ⟨rfl, _, rfl, c, _, rfl, rfl, lc_put e' hD hl (by have : i < x.length := hi; omega) (fun _ _ h => h) ?_⟩
            rw [letters_mem, List.take_add_one, List.map_append, Array.getElem?_toList, hc]
            rfl
          · rintro acc H1 e e' hD hl rfl
            refine ⟨D, x.cps.toList.map fun c => decide (97 ≤ c) && decide (c ≤ 122), rfl, ?_, ?_⟩
            · have e1 : x.cps.toList.take x.cps.size = x.cps.toList := List.take_of_length_le (by simp)
              rw [e1] at hD
              rw [List.map_map]
              exact SqLo hD
            · have q := k _ e
              have e2 : letD (.str x) a b = ((x.cps.toList.map fun c => decide (97 ≤ c) && decide (c ≤ 122)).all id) := by
                show (decide (a ≤ x.length) && decide (x.length ≤ b) && low x) = _
                rw [decide_eq_true h1, decide_eq_true h2, List.all_map]
                rfl
              rw [e2] at q
              exact q
      · refine ⟨_, rfl, if_t rfl ?_⟩
        have e : letD (.str x) a b = false := by
          have h1 : ¬ a ≤ x.length := fun q => by
            rw [decide_eq_true (show (a : Int) ≤ x.length by omega)] at h1
            cases h1
          show (decide (a ≤ x.length) && decide (x.length ≤ b) && low x) = false
          rw [decide_eq_false h1, Bool.false_and, Bool.false_and]
        have q := k H (fun _ _ h => h)
        rw [e] at q
        exact q
    | _ => exact ⟨v, rfl, v, _, _, false, rfl, hd, rfl, _, rfl, if_t rfl (if_t rfl (k H (fun _ _ h => h)))⟩
end
end VL

namespace VL
open PySem PySem.Spec L2 LW
open Evl (Ex)
section
variable {P : Program} {w : World} {K : PySem.W.Frag} {mg : Str → Option Value} {base : Heap}
/-! ### is_field -/
def spField : Sp := fun vs H Q _ => ∃ (v : V) (d : PyData), vs = [v] ∧ Dt H d v ∧ (∀ x, d = .str x → x.length ≤ sizeLine) ∧ ∀ H', Ex H H' → Q (.bl (fld d)) H'
theorem fld_eq (d : PyData) : letD d 1 8 = fld d := by cases d <;> rfl
theorem sc_is_field : FnScope ["thing"] ["thing"] (defScope s_is_field) := ⟨rfl, rfl, rfl, by decide +kernel, rfl, by decide +kernel, by decide +kernel⟩
theorem bi_is_field : BindsEq "is_field" s_is_field ["thing"] := fun _ _ _ _ _ _ us hl => match us, hl with | [_], _ => rfl
theorem ok_field (F : Df K mg "is_field" s_is_field) (T : Txt K mg) (C_is_letters : Cal P w K mg base CX0 1 "is_letters" spLets) : Cal P w K mg base CX0 2 "is_field" spField := by
  refine cal0 F sc_is_field bi_is_field (fun vs H Q E h => ?_) (fun f cdv A outer s H vs Q E hr h => ?_)
  · obtain ⟨v, d, rfl, _⟩ := h
    rfl
  · obtain ⟨v, d, rfl, hd, hx, k⟩ := h
    refine ⟨_, (pss_one (ps_ret (pe_k C_is_letters hr (by decide) rfl (pa_cons (pv 0) (pa_cons pe_int (pa_cons (pgc rfl T.g_LONGEST_NAME) pa_nil)))))), ?_⟩
    refine ⟨v, rfl, v, d, 1, 8, rfl, hd, by decide, hx, fun H' e => ?_⟩
    rw [fld_eq]
    exact k H' e
/-! ### is_leaf -/
def leafD (d : PyData) : Bool := match d with
  | .int i => okP (.int i)
  | .str x => okP (.str x)
  | _ => false
def spIsLeaf : Sp := fun vs H Q _ => ∃ (v : V) (d : PyData), vs = [v] ∧ Dt H d v ∧ (∀ x, d = .str x → x.length ≤ sizeLine) ∧ ∀ H', Ex H H' → Q (.bl (leafD d)) H'
theorem sc_is_leaf : FnScope ["thing"] ["thing"] (defScope s_is_leaf) := ⟨rfl, rfl, rfl, by decide +kernel, rfl, by decide +kernel, by decide +kernel⟩
theorem bi_is_leaf : BindsEq "is_leaf" s_is_leaf ["thing"] := fun _ _ _ _ _ _ us hl => match us, hl with | [_], _ => rfl
theorem ok_isleaf (F : Df K mg "is_leaf" s_is_leaf) (T : Txt K mg) (C_is_integer : Cal P w K mg base CX0 1 "is_integer" spIsInt) (C_is_letters : Cal P w K mg base CX0 1 "is_letters" spLets) : Cal P w K mg base CX0 2 "is_leaf" spIsLeaf := by
  refine cal0 F sc_is_leaf bi_is_leaf (fun vs H Q E h => ?_) (fun f cdv A outer s H vs Q E hr h => ?_)
  · obtain ⟨v, d, rfl, _⟩ := h
    rfl
  · obtain ⟨v, d, rfl, hd, hx, k⟩ := h
    refine ⟨_, (pss_cons (ps_if (pt_val (pe_k C_is_integer hr (by decide) rfl (pa_cons (pv 0) pa_nil))) (pss_one (ps_ret (pe_chain op_lt op_lt (pe_un un_neg (pgc rfl T.g_GREATEST)) (pv 0) (pgc rfl T.g_GREATEST)))) pss_nil)
 (pss_one (ps_ret (pe_k C_is_letters hr (by decide) rfl (pa_cons (pv 0) (pa_cons pe_int (pa_cons (pgc rfl T.g_LONGEST_TEXT) pa_nil))))))), ?_⟩
    refine ⟨v, rfl, v, d, rfl, hd, _, rfl, ?_⟩
    cases d with
    | int i =>
      have hv : v = .int i := by unfold Dt at hd; exact hd
      subst hv
      refine if_t rfl ?_
      have e : leafD (.int i) = (decide (-big < i) && decide (i < big)) := rfl
      have q := k H (fun _ _ h => h)
      rw [e] at q
      refine ⟨_, rfl, _, rfl, _, _, rfl, rfl, _, rfl, if_b (fun h1 => ?_) (fun h1 => ?_)⟩
      · refine ⟨_, _, rfl, rfl, ?_⟩
        rw [show decide (-big < i) = true from h1, Bool.true_and] at q
        exact q
      · rw [show decide (-big < i) = false from h1, Bool.false_and] at q
        exact q
    | _ =>
      refine if_f rfl ?_
      refine ⟨v, rfl, v, _, 0, 20, rfl, hd, by decide, hx, fun H' e => ?_⟩
      exact k H' e
/-! ### is_part -/
theorem dt_key {H : Hp} (k : Key) : Dt H (kD k) (kV k) := by
  cases k <;> (unfold kD kV Dt; rfl)
theorem DtK.keys {H : Hp} : ∀ {kvs : List (PyData × PyData)} {es : List (Key × V)}, DtK H kvs es → DtL H (kvs.map (·.1)) (es.map fun p => kV p.1)
  | [], _, h => by
    unfold DtK at h
    subst h
    exact DtL.nil
  | (k, d) :: r, _, h => by
    unfold DtK at h
    obtain ⟨x, v, t, rfl, rfl, _, h2⟩ := h
    exact DtL.cons (dt_key x) (DtK.keys h2)
theorem DtK.len {H : Hp} : ∀ {kvs : List (PyData × PyData)} {es : List (Key × V)}, DtK H kvs es → es.length = kvs.length
  | [], _, h => by
    unfold DtK at h
    subst h
    rfl
  | (k, d) :: r, _, h => by
    unfold DtK at h
    obtain ⟨x, v, t, rfl, rfl, _, h2⟩ := h
    rw [List.length_cons, List.length_cons, DtK.len h2]
/-- a dict's object and its keys -/
theorem dict_keys {H : Hp} {kvs : List (PyData × PyData)} {v : V} (h : Dt H (.dict kvs) v) : ∃ a u ks, v = .ref a ∧ L2.Rd H a u ∧ Mut (some u) ∧ KeysAre a u ks ∧ ks.length = kvs.length ∧ (∀ Hf, RdX H Hf → DtL Hf (kvs.map (·.1)) ks) ∧
    ∀ (Hf : Hp) (Q : VK), L2.Rd Hf a u → Q (.int kvs.length) Hf → rLnD [.ref a] Hf Q := by
  unfold Dt at h
  obtain ⟨a, rfl, ⟨es, ha, nd, hl⟩ | ⟨k, x, ha, hl⟩⟩ := h
  · refine ⟨a, _, _, rfl, ha, True.intro, .inl ⟨es, rfl, rfl⟩, ?_, fun Hf e => (DtK.keys hl).rdx e, fun Hf Q hf q => ⟨a, rfl, .inl ⟨es, hf, ?_⟩⟩⟩
    · rw [List.length_map, DtK.len hl]
    · rw [DtK.len hl]
      exact q
  · match kvs, hl with
    | [], hl =>
      unfold DtO at hl
      exact hl.elim
    | (kd, vd) :: r, hl =>
      unfold DtO at hl
      obtain ⟨rfl, _, h1, h2⟩ := hl
      exact ⟨a, _, _, rfl, ha, True.intro, .inr ⟨k, x, rfl, rfl⟩, rfl, fun Hf e => DtL.cons (h1.rdx e) DtL.nil, fun Hf Q hf q => ⟨a, rfl, .inr ⟨k, x, hf, q⟩⟩⟩
def SzD (d : PyData) : Prop := (∀ x, d = .str x → x.length ≤ sizeLine) ∧ ∀ kvs, d = .dict kvs → ∀ p ∈ kvs, ∀ x, p.1 = .str x → x.length ≤ sizeLine
def spPart : Sp := fun vs H Q _ => ∃ (v : V) (d : PyData), vs = [v] ∧ Dt H d v ∧ SzD d ∧ ∀ H', Ex H H' → Q (.bl (okP d)) H'
theorem sc_is_part : FnScope ["thing", "name"] ["thing"] (defScope s_is_part) := ⟨rfl, rfl, rfl, by decide +kernel, rfl, by decide +kernel, by decide +kernel⟩
theorem bi_is_part : BindsEq "is_part" s_is_part ["thing"] := fun _ _ _ _ _ _ us hl => match us, hl with | [_], _ => rfl
theorem ok_part (F : Df K mg "is_part" s_is_part) (T : Txt K mg) (C_is_leaf : Cal P w K mg base CX0 2 "is_leaf" spIsLeaf) (C_is_field : Cal P w K mg base CX0 2 "is_field" spField) : Cal P w K mg base CX0 3 "is_part" spPart := by
  refine cal0 F sc_is_part bi_is_part (fun vs H Q E h => ?_) (fun f cdv A outer s H vs Q E hr h => ?_)
  · obtain ⟨v, d, rfl, _⟩ := h
    rfl
  · obtain ⟨v, d, rfl, hd, hx, k⟩ := h
    refine ⟨_, (pss_cons (ps_if (pt_val (pe_callB (isD K) rfl T.b_isinstance (by decide +kernel) (pa_cons (pv 0) (pa_cons (pe_bltn (v := .ty "list") rfl T.b_list (by decide +kernel) rfl) pa_nil)))) (pss_one (ps_ret (pe_cmpR op_lt (pe_callB (lnA K) rfl T.b_len (by decide +kernel) (pa_cons (pv 0) pa_nil)) (pgc rfl T.g_MOST_PLACES) (nomark _)))) pss_nil)
 (pss_cons (ps_if (pt_val (pe_callB (isD K) rfl T.b_isinstance (by decide +kernel) (pa_cons (pv 0) (pa_cons (pe_bltn (v := .ty "dict") rfl T.b_dict (by decide +kernel) rfl) pa_nil)))) (pss_one (ps_lockA (ps_ret (pe_and (pe_cmpR op_le (pe_callB (lnA K) rfl T.b_len (by decide +kernel) (pa_cons (pv 0) pa_nil)) (pgc rfl T.g_MOST_FIELDS) (nomark _)) (pe_one (pe_callB (allK K rfl) rfl T.b_all (by decide +kernel) (pa_cons (pe_lc (own := [("name", 1)]) (by rfl) sc_is_part.nd (pi_ka (pv 0)) (blkOk_by (own := [("name", 1)]) (N := ["thing", "name"]) (sc := defScope s_is_part) (by decide +kernel)) (fun _ _ _ _ _ => (pg_name (i := 1) sc_is_part.nd rfl (Or.inl rfl))) (fun _ _ _ _ _ => pts_nil) (fun _ _ _ _ _ => (pe_k C_is_field hr (by decide) rfl (pa_cons (pv 1) pa_nil)))) pa_nil))))))) pss_nil)
 (pss_one (ps_ret (pe_k C_is_leaf hr (by decide) rfl (pa_cons (pv 0) pa_nil)))))), ?_⟩
    cases d with
    | list ds =>
      refine ⟨v, rfl, v, _, _, true, rfl, hd, rfl, _, rfl, if_t rfl ?_⟩
      unfold Dt at hd
      obtain ⟨a, vs, rfl, ha, hl⟩ := hd
      refine ⟨_, rfl, .inl ⟨_, vs.length, rfl, .inl ⟨vs, .inl ha, rfl⟩, _, _, rfl, rfl, ?_⟩⟩
      have q := k H (fun _ _ h => h)
      have e : okP (.list ds) = decide ((vs.length : Int) < 60) := by
        show decide (ds.length < 60) = _
        rw [hl.len]
        exact decide_eq_decide.mpr (by omega)
      rw [e] at q
      exact q
    | dict kvs =>
      refine ⟨v, rfl, v, _, _, false, rfl, hd, rfl, _, rfl, if_f rfl ?_⟩
      refine ⟨v, rfl, v, _, _, true, rfl, hd, rfl, _, rfl, if_t rfl ?_⟩
      obtain ⟨a, u, ks, rfl, ha, mu, hk, hlen, hkd, hln⟩ := dict_keys hd
      refine lockA_ret (y := .bl (okP (.dict kvs))) ha mu (fun H' e => k H' e) ?_
      intro Hf o D' rx hf kf
      refine ⟨_, rfl, .inr (hln Hf _ (.inr ⟨o, hf⟩) ⟨_, _, rfl, rfl, _, rfl, if_b (fun h1 => ?_) (fun h1 => ?_)⟩)⟩
      · have h1 : kvs.length ≤ 8 := by
          have := of_decide_eq_true h1
          omega
        refine ⟨_, rfl, a, o, u, ks, rfl, hf, hk, fun D nD => lc_gr walk_ka (fun i acc _ => acc = (kvs.take i).map fun p => V.bl (fld p.1)) nD (by omega) rfl (fun H' e => e _ _ hf) ?_ ?_⟩
        · rintro i x acc H1 H2 hi e e' hD hl rfl ⟨rfl, hx1⟩
          obtain ⟨kd, hkd1, hkd2⟩ := (hkd Hf rx).get hx1
          obtain ⟨p, hp1, rfl⟩ : ∃ p, kvs[i]? = some p ∧ p.1 = kd := by
            rw [List.getElem?_map] at hkd1
            cases hp : kvs[i]? with
            | none => rw [hp] at hkd1; cases hkd1
            | some p => rw [hp] at hkd1; exact ⟨p, rfl, Option.some.inj hkd1⟩
          refine ⟨rfl, _, rfl, x, p.1, rfl, hkd2.ex e, hx.2 kvs rfl p (List.mem_of_getElem? hp1), fun H4 e4 => lc_put e' hD hl (by omega) e4 ?_⟩
          rw [List.take_add_one, List.map_append, hp1]
          rfl
        · rintro acc H1 e e' hD hl rfl
          refine ⟨D, kvs.map fun p => fld p.1, rfl, ?_, ?_⟩
          · have e1 : kvs.take ks.length = kvs := List.take_of_length_le (by omega)
            rw [e1] at hD
            rw [List.map_map]
            exact SqLo hD
          · have q := kf _ e
            have e2 : okP (.dict kvs) = ((kvs.map fun p => fld p.1).all id) := by
              show (decide (kvs.length ≤ 8) && kvs.all fun p => fld p.1) = _
              rw [decide_eq_true h1, List.all_map]
              rfl
            rw [e2] at q
            exact q
      · have e2 : okP (.dict kvs) = false := by
          have h1 : ¬ kvs.length ≤ 8 := fun q => by
            rw [decide_eq_true (show (kvs.length : Int) ≤ 8 by omega)] at h1
            cases h1
          show (decide (kvs.length ≤ 8) && kvs.all fun p => fld p.1) = _
          rw [decide_eq_false h1, Bool.false_and]
        have q := kf Hf (fun _ _ h => h)
        rw [e2] at q
        exact q
    | _ =>
      refine ⟨v, rfl, v, _, _, false, rfl, hd, rfl, _, rfl, if_f rfl ?_⟩
      refine ⟨v, rfl, v, _, _, false, rfl, hd, rfl, _, rfl, if_f rfl ?_⟩
      exact ⟨v, rfl, v, _, rfl, hd, hx.1, k⟩
end
end VL

namespace VL
open PySem PySem.Spec L2 LW
open Evl (Ex)
/-! ### a dict of a value -/
theorem dict_val {H : Hp} {kvs : List (PyData × PyData)} {v : V} (h : Dt H (.dict kvs) v) (ok : AllStr kvs) : ∃ a es, v = .ref a ∧ L2.Rd H a (.dK es) ∧ (es.map (·.1)).Nodup ∧ DtK H kvs es := by
  unfold Dt at h
  obtain ⟨a, rfl, ⟨es, ha, nd, hl⟩ | ⟨k, x, ha, hl⟩⟩ := h
  · exact ⟨a, es, rfl, ha, nd, hl⟩
  · match kvs, hl with
    | [], hl =>
      unfold DtO at hl
      exact hl.elim
    | (kd, vd) :: r, hl =>
      unfold DtO at hl
      exact (hl.2.1 _ (ok (kd, vd) List.mem_cons_self)).elim
theorem names_kV {kvs : List (PyData × PyData)} {es : List (Key × V)} (e : es.map (·.1) = (names kvs).map fun y => (Sum.inr y : Key)) : (es.map fun p => kV p.1) = (names kvs).map V.str := by
  have q := congrArg (List.map kV) e
  rw [List.map_map, List.map_map] at q
  exact q
def RPair (H0 H : Hp) (v : V) (c : V × PyData) : Prop := ∃ t x, v = .ref t ∧ L2.Rd H t (.tup [c.1, x]) ∧ Dt H0 c.2 x
theorem RPair.rdx {H0 H H' : Hp} (e : RdX H H') {v : V} {c : V × PyData} (h : RPair H0 H v c) : RPair H0 H' v c := by
  obtain ⟨t, x, rfl, h1, h2⟩ := h
  exact ⟨t, x, rfl, e _ _ nf_tup h1, h2⟩
theorem RPair.ex {H0 H H' : Hp} (e : Ex H H') {v : V} {c : V × PyData} (h : RPair H0 H v c) : RPair H0 H' v c := h.rdx (rdx_ex e)
theorem pairs_ex {H0 H H' : Hp} (e : Ex H H') {vs : List V} {cs : List (V × PyData)} (h : Paired (RPair H0 H) vs cs) : Paired (RPair H0 H') vs cs := Paired.imp (fun _ _ q => RPair.ex e q) h
section
variable {P : Program} {w : World} {K : PySem.W.Frag} {mg : Str → Option Value} {base : Heap}
/-! ### children -/
def spKids : Sp := fun vs H Q _ => ∃ (v : V) (d : PyData) (H0 : Hp), vs = [v] ∧ Dt H0 d v ∧ Ex H0 H ∧ okP d = true ∧ ∀ p H' ts cs, Ex H H' → H p = none → H' p = some (.lst ts) → Paired (RPair H0 H') ts cs → KidsAre d cs → Q (.ref p) H'
theorem sc_children : FnScope ["value", "name", "index", "child", "field"] ["value"] (defScope s_children) := ⟨rfl, rfl, rfl, by decide +kernel, rfl, by decide +kernel, by decide +kernel⟩
theorem bi_children : BindsEq "children" s_children ["value"] := fun _ _ _ _ _ _ us hl => match us, hl with | [_], _ => rfl
theorem ok_kids (F : Df K mg "children" s_children) (T : Txt K mg) : Cal P w K mg base CX0 1 "children" spKids := by
  refine cal0 F sc_children bi_children (fun vs H Q E h => ?_) (fun f cdv A outer s H vs Q E hr h => ?_)
  · obtain ⟨v, d, H0, rfl, _⟩ := h
    rfl
  · obtain ⟨v, d, H0, rfl, hd0, x00, ho, k⟩ := h
    have hd := hd0.ex x00
    refine ⟨_, (pss_cons (ps_if (pt_val (pe_callB (isD K) rfl T.b_isinstance (by decide +kernel) (pa_cons (pv 0) (pa_cons (pe_bltn (v := .ty "dict") rfl T.b_dict (by decide +kernel) rfl) pa_nil)))) (pss_one (ps_lockA (ps_ret (pe_lc (own := [("name", 1)]) (by rfl) sc_children.nd (pil K (pe_callB (srK K) rfl T.b_sorted (by decide +kernel) (pa_cons (pe_lc (own := [("field", 4)]) (by rfl) sc_children.nd (pi_ka (pv 0)) (blkOk_by (own := [("field", 4)]) (N := ["value", "name", "index", "child", "field"]) (sc := defScope s_children) (by decide +kernel)) (fun _ _ _ _ _ => (pg_name (i := 4) sc_children.nd rfl (Or.inl rfl))) (fun _ _ _ _ _ => pts_nil) (fun _ _ _ _ _ => (pe_callTy strS rfl T.b_str (by decide +kernel) (pa_cons (pv 4) pa_nil)))) pa_nil))) (blkOk_by (own := [("name", 1)]) (N := ["value", "name", "index", "child", "field"]) (sc := defScope s_children) (by decide +kernel)) (fun _ _ _ _ _ => (pg_name (i := 1) sc_children.nd rfl (Or.inl rfl))) (fun _ _ _ _ _ => pts_nil) (fun _ _ _ _ _ => (pe_tup (pa_cons (pv 1) (pa_cons (pe_ix (ixA K) (pv 0) (pv 1) (fun _ _ => rfl)) pa_nil)))))))) pss_nil)
 (pss_cons (ps_if (pt_val (pe_callB (isD K) rfl T.b_isinstance (by decide +kernel) (pa_cons (pv 0) (pa_cons (pe_bltn (v := .ty "list") rfl T.b_list (by decide +kernel) rfl) pa_nil)))) (pss_one (ps_ret (pe_lc (own := [("index", 2), ("child", 3)]) (by rfl) sc_children.nd (pi_enum rfl T.b_enumerate (pa_cons (pv 0) pa_nil)) (blkOk_by (own := [("index", 2), ("child", 3)]) (N := ["value", "name", "index", "child", "field"]) (sc := defScope s_children) (by decide +kernel)) (fun _ _ _ _ _ => (pgt (n := 2) K rfl (pgs_cons (pg_name (i := 2) sc_children.nd rfl (Or.inl rfl)) (pgs_cons (pg_name (i := 3) sc_children.nd rfl (Or.inl rfl)) pgs_nil)))) (fun _ _ _ _ _ => pts_nil) (fun _ _ _ _ _ => (pe_tup (pa_cons (pv 2) (pa_cons (pv 3) pa_nil))))))) pss_nil)
 (pss_one (ps_ret (pe_lst pa_nil))))), ?_⟩
    cases d with
    | dict kvs =>
      refine ⟨v, rfl, v, _, _, true, rfl, hd, rfl, _, rfl, if_t rfl ?_⟩
      obtain ⟨ha, hlen⟩ := allStr_of ho
      obtain ⟨a, es, rfl, hae0, nd, hk⟩ := dict_val hd0 ha
      have hae := rd_ex x00 hae0
      have hnm := dtk_names hk ha
      have hks := names_kV hnm
      have hln : (names kvs).length = kvs.length := by
        unfold names
        rw [List.length_map]
      refine lockA_any hae True.intro ?_
      intro Hf o D' th rx hf hno hth kf _
      refine ⟨_, rfl, a, o, _, (names kvs).map V.str, rfl, hf, .inl ⟨es, rfl, hks.symm⟩, fun D1 nD1 => lc_gr walk_ka (fun i acc _ => acc = ((names kvs).take i).map V.str) nD1 (by rw [List.length_map]; omega) rfl (fun H' e => e _ _ hf) ?_ ?_⟩
      · rintro i x acc H1 H2 hi e e' hD hl rfl ⟨rfl, hx1⟩
        obtain ⟨y, hy, rfl⟩ : ∃ y, (names kvs)[i]? = some y ∧ V.str y = x := by
          rw [List.getElem?_map] at hx1
          cases hp : (names kvs)[i]? with
          | none => rw [hp] at hx1; cases hx1
          | some p => rw [hp] at hx1; exact ⟨p, rfl, Option.some.inj hx1⟩
        refine ⟨rfl, _, rfl, y, rfl, lc_put e' hD hl (by rw [List.length_map] at hi; omega) (fun _ _ h => h) ?_⟩
        rw [List.take_add_one, List.map_append, hy]
        rfl
      · rintro acc H1 e e' hD hl rfl
        have e1 : (names kvs).take ((names kvs).map V.str).length = names kvs := List.take_of_length_le (by rw [List.length_map]; exact Nat.le_refl _)
        rw [e1] at hD
        refine ⟨D1, names kvs, rfl, SqLo hD, by omega, fun ys p py sy np => ?_⟩
        have x1 : Ex H1 (upd H1 p (.lst (ys.map V.str))) := Ex.new np
        have hyl : ys.length = kvs.length := by rw [py.length_eq, hln]
        refine ⟨p, rfl, ⟨_, SqLo upd_same⟩, fun D2 nD2 => lc_gr (walk_list (xs := ys.map V.str)) (fun i acc Hc => Paired (RPair H0 Hc) acc ((ys.take i).map fun y => (V.str y, getN kvs y))) nD2 (by rw [List.length_map]; omega) .nil (fun H' e => SqLo (e _ _ upd_same)) ?_ ?_⟩
        · rintro i x acc H2 H3 hi g g' gD gl gr ⟨rfl, hx1⟩
          obtain ⟨y, hy, rfl⟩ : ∃ y, ys[i]? = some y ∧ V.str y = x := by
            rw [List.getElem?_map] at hx1
            cases hp : ys[i]? with
            | none => rw [hp] at hx1; cases hx1
            | some p => rw [hp] at hx1; exact ⟨p, rfl, Option.some.inj hx1⟩
          obtain ⟨u, hu1, hu2⟩ := dtk_get hk ha y (py.mem_iff.mp (List.mem_of_getElem? hy))
          have xf : Ex Hf H3 := e.trans (x1.trans g)
          have xf' : Ex Hf (del H3 D2) := e.trans (x1.trans g')
          refine ⟨rfl, _, rfl, _, rfl, _, rfl, .inr ⟨a, es, .inr y, u, rfl, rfl, .inr ⟨o, xf _ _ hf⟩, hu1, szl (by show 2 ≤ 100000; decide), fun q nq => ?_⟩⟩
          refine lc_put g' gD gl (by rw [List.length_map] at hi; omega) (Ex.new nq) ?_
          have ne : q ≠ D2 := fun z => by
            rw [z, gD] at nq
            cases nq
          have gx : Ex (del H3 D2) (del (upd H3 q (.tup [V.str y, u])) D2) := del_grow' (Ex.new nq)
          rw [List.take_add_one, List.map_append, hy]
          refine Paired.app (pairs_ex gx gr) (.cons ⟨q, u, rfl, .inl ?_, hu2⟩ .nil)
          rw [del_ne ne]
          exact upd_same
        · rintro acc H2 g g' gD gl gr
          have xf : Ex Hf H2 := e.trans (x1.trans g)
          refine kf _ H2 xf ?_
          obtain ⟨t1, t2, t3⟩ := hth H2 xf
          have nD : H D2 = none := hno _ (ex_free e (ex_free x1 nD2))
          have ne : D2 ≠ a := fun z => by
            obtain ⟨w, hw⟩ := rd_some hae
            rw [z, hw] at nD
            cases nD
          have e3 : ys.take (ys.map V.str).length = ys := List.take_of_length_le (by rw [List.length_map]; exact Nat.le_refl _)
          rw [e3] at gr
          refine k D2 _ acc _ t1 nD (by rw [t3 _ ne]; exact gD) (Paired.imp (fun _ _ q => (q.ex ex_del).rdx t2) gr) ⟨ys, py, sy, rfl⟩
    | list ds =>
      refine ⟨v, rfl, v, _, _, false, rfl, hd, rfl, _, rfl, if_f rfl ?_⟩
      refine ⟨v, rfl, v, _, _, true, rfl, hd, rfl, _, rfl, if_t rfl ?_⟩
      unfold Dt at hd0
      obtain ⟨a, xs, rfl, hax0, hl⟩ := hd0
      have hax := rd_ex x00 hax0
      have hlen := hl.len
      have h60 : ds.length < 60 := of_decide_eq_true ho
      refine ⟨_, rfl, a, xs, rfl, .inl hax, fun D nD => lc_gr (walk_enum (K := K) (a := a) (xs := xs)) (fun i acc Hc => Paired (RPair H0 Hc) acc (((List.range ds.length).zipWith (fun (i : Nat) c => (V.int i, c)) ds).take i)) nD (by omega) .nil (fun H' e => .inl (rd_ex e hax)) ?_ ?_⟩
      · rintro i x acc H1 H2 hi g g' gD gl gr ⟨q, y, z, rfl, nq, rfl, hy, hz⟩
        cases hy
        obtain ⟨dc, hdc, hdt⟩ := hl.get hz
        have gq : Ex H1 (upd H1 q (.tup [V.int i, z])) := Ex.new nq
        refine ⟨q, _, rfl, SqTo upd_same, rfl, _, _, rfl, _, _, rfl, rfl, rfl, _, rfl, _, rfl, szl (by show 2 ≤ 100000; decide), fun t nt => ?_⟩
        have gt : Ex H1 (upd (upd H1 q (.tup [V.int i, z])) t (.tup [V.int i, z])) := gq.trans (Ex.new nt)
        refine lc_put g' gD gl (by omega) gt ?_
        have ne : t ≠ D := fun e => by
          rw [e, gq _ _ gD] at nt
          cases nt
        have gx := del_grow' (p := D) gt
        rw [List.take_add_one]
        have e3 : ((List.range ds.length).zipWith (fun (i : Nat) c => (V.int i, c)) ds)[i]? = some (V.int i, dc) := by
          rw [List.getElem?_zipWith, List.getElem?_range (by omega), hdc]
        rw [e3]
        refine Paired.app (pairs_ex gx gr) (.cons ⟨t, z, rfl, .inl ?_, hdt⟩ .nil)
        rw [del_ne ne]
        exact upd_same
      · rintro acc H1 g g' gD gl gr
        refine k D H1 acc _ g nD gD (pairs_ex ex_del gr) ?_
        show _ = _
        exact List.take_of_length_le (by rw [List.length_zipWith, List.length_range]; omega)
    | _ =>
      refine ⟨v, rfl, v, _, _, false, rfl, hd, rfl, _, rfl, if_f rfl ?_⟩
      refine ⟨v, rfl, v, _, _, false, rfl, hd, rfl, _, rfl, if_f rfl ?_⟩
      refine ⟨szl (by decide), fun p np => k p _ [] [] (Ex.new np) np upd_same .nil rfl⟩
end
end VL

namespace VL
open PySem PySem.Spec L2 LW
open Evl (Ex)
/-! ### texts are short -/
mutual
def szA : PyData → Prop
  | .str x => x.length ≤ 1000
  | .list ds => szL ds
  | .dict kvs => szK kvs
  | _ => True
def szL : List PyData → Prop
  | [] => True
  | d :: r => szA d ∧ szL r
def szK : List (PyData × PyData) → Prop
  | [] => True
  | (k, d) :: r => szA k ∧ szA d ∧ szK r
end
theorem szL_mem : ∀ {ds : List PyData} {d : PyData}, szL ds → d ∈ ds → szA d
  | c :: r, d, h, m => by
    unfold szL at h
    rcases List.mem_cons.mp m with rfl | m
    · exact h.1
    · exact szL_mem h.2 m
theorem szL_of : ∀ {ds : List PyData}, (∀ d ∈ ds, szA d) → szL ds
  | [], _ => by unfold szL; trivial
  | c :: r, h => by
    unfold szL
    exact ⟨h c List.mem_cons_self, szL_of fun d m => h d (List.mem_cons_of_mem _ m)⟩
theorem szK_mem : ∀ {ds : List (PyData × PyData)} {p : PyData × PyData}, szK ds → p ∈ ds → szA p.1 ∧ szA p.2
  | c :: r, d, h, m => by
    unfold szK at h
    rcases List.mem_cons.mp m with rfl | m
    · exact ⟨h.1, h.2.1⟩
    · exact szK_mem h.2.2 m
theorem szK_of : ∀ {ds : List (PyData × PyData)}, (∀ p ∈ ds, szA p.1 ∧ szA p.2) → szK ds
  | [], _ => by unfold szK; trivial
  | c :: r, h => by
    unfold szK
    exact ⟨(h c List.mem_cons_self).1, (h c List.mem_cons_self).2, szK_of fun d m => h d (List.mem_cons_of_mem _ m)⟩
theorem szA_str {x : Str} (h : szA (.str x)) : x.length ≤ 1000 := by unfold szA at h; exact h
theorem szD_of {d : PyData} (h : szA d) : SzD d := by
  refine ⟨fun x e => ?_, fun kvs e p hp x ex => ?_⟩
  · subst e
    have := szA_str h
    exact szl (by omega)
  · subst e
    unfold szA at h
    have q := (szK_mem h hp).1
    rw [ex] at q
    have := szA_str q
    exact szl (by omega)
theorem szA_kids {d : PyData} (h : szA d) : szL (kids d) := by
  cases d with
  | list ds => unfold szA at h; exact h
  | dict kvs =>
    unfold szA at h
    refine szL_of fun c hc => ?_
    obtain ⟨p, hp, rfl⟩ := List.mem_map.mp hc
    exact (szK_mem h hp).2
  | _ => exact szL_of nofun
theorem kids_len {d : PyData} (h : okP d = true) : (kids d).length ≤ 60 := by
  cases d with
  | list ds =>
    have : ds.length < 60 := of_decide_eq_true h
    show ds.length ≤ 60
    omega
  | dict kvs =>
    obtain ⟨_, h8⟩ := allStr_of h
    show (kvs.map (·.2)).length ≤ 60
    rw [List.length_map]
    omega
  | _ => exact Nat.zero_le _
theorem kids_ns {H : Hp} {d : PyData} {v : V} (hd : Dt H d v) (h : okP d = true) : ∀ kvs, d = .dict kvs → AllStr kvs ∧ (names kvs).Nodup := by
  rintro kvs rfl
  obtain ⟨ha, _⟩ := allStr_of h
  obtain ⟨a, es, rfl, _, nd, hk⟩ := dict_val hd ha
  exact ⟨ha, nodup_names hk ha nd⟩
theorem dtl_drop {H : Hp} : ∀ {ds : List PyData} {vs : List V} {y : V}, DtL H ds vs → vs[vs.length - 1]? = some y → ∃ d, ds = ds.dropLast ++ [d] ∧ Dt H d y ∧ DtL H ds.dropLast vs.dropLast
  | [], _, y, h, e => by
    unfold DtL at h
    subst h
    cases e
  | [d], _, y, h, e => by
    unfold DtL at h
    obtain ⟨v, t, rfl, h1, h2⟩ := h
    unfold DtL at h2
    subst h2
    cases e
    exact ⟨d, rfl, h1, DtL.nil⟩
  | d :: c :: r, _, y, h, e => by
    unfold DtL at h
    obtain ⟨v, t, rfl, h1, h2⟩ := h
    have h2' := h2
    unfold DtL at h2'
    obtain ⟨u, t', rfl, _, _⟩ := h2'
    have e' : (u :: t')[(u :: t').length - 1]? = some y := by
      simpa using e
    obtain ⟨x, q1, q2, q3⟩ := dtl_drop h2 e'
    refine ⟨x, ?_, q2, ?_⟩
    · show d :: c :: r = (d :: (c :: r).dropLast) ++ [x]
      rw [List.cons_append, ← q1]
    · exact DtL.cons h1 q3
theorem dtl_of_pairs {H : Hp} : ∀ {ts : List V} {cs : List (V × PyData)} {us : List V}, (∀ (i : Nat) c, cs[i]? = some c → ∃ u, us[i]? = some u ∧ Dt H c.2 u) → us.length = cs.length → DtL H (cs.map (·.2)) us
  | _, [], us, _, e => by
    have : us = [] := List.length_eq_zero_iff.mp e
    subst this
    exact DtL.nil
  | ts, c :: r, us, h, e => by
    obtain ⟨u, h1, h2⟩ := h 0 c rfl
    match us, h1, e with
    | u' :: t, h1, e =>
      cases h1
      exact DtL.cons h2 (dtl_of_pairs (ts := ts) (fun i c hc => h (i + 1) c (by simpa using hc)) (by simpa using e))
def isV (d : PyData) : Bool := okA d && decide (cnt d ≤ 60)
theorem del_upd {H : Hp} {p : Addr} {o : HO} : del (upd H p o) p = del H p := by
  funext b
  by_cases hb : b = p
  · rw [hb, del_same, del_same]
  · rw [del_ne hb, del_ne hb, upd_ne hb]
theorem ex_del_upd {H : Hp} {p : Addr} {o : HO} : Ex (del H p) (upd H p o) := fun b u q => by
  by_cases hb : b = p
  · rw [hb, del_same] at q
    cases q
  · rw [del_ne hb] at q
    rw [upd_ne hb]
    exact q
/-! ### is_value -/
def spIsVal : Sp := fun vs H Q _ => ∃ (v : V) (d : PyData), vs = [v] ∧ Dt H d v ∧ szA d ∧ ∀ H', Ex H H' → Q (.bl (isV d)) H'
def IsVW (H : Hp) (v : V) (d : PyData) (p : Addr) (m : Nat) (σ : L2.St) (H' : Hp) : Prop := ∃ (many : Nat) (ws : List V) (ds : List PyData) (o3 o4 o5 : Option V), σ = [some v, some (.ref p), some (.int many), o3, o4, o5] ∧ m = cntL ds ∧ Ex H (del H' p) ∧ H' p = some (.lst ws) ∧ DtL (del H' p) ds ws ∧ szL ds ∧ many ≤ 60 ∧ ws.length ≤ 1 + 60 * many ∧ isV d = (okL ds && decide (many + cntL ds ≤ 60))
section
variable {P : Program} {w : World} {K : PySem.W.Frag} {mg : Str → Option Value} {base : Heap}
theorem sc_is_value : FnScope ["thing", "waiting", "many", "one", "step", "child"] ["thing"] (defScope s_is_value) := ⟨rfl, rfl, rfl, by decide +kernel, rfl, by decide +kernel, by decide +kernel⟩
theorem bi_is_value : BindsEq "is_value" s_is_value ["thing"] := fun _ _ _ _ _ _ us hl => match us, hl with | [_], _ => rfl
theorem ok_isval (F : Df K mg "is_value" s_is_value) (T : Txt K mg) (C_is_part : Cal P w K mg base CX0 3 "is_part" spPart) (C_children : Cal P w K mg base CX0 1 "children" spKids) : Cal P w K mg base CX0 4 "is_value" spIsVal := by
  refine cal0 F sc_is_value bi_is_value (fun vs H Q E h => ?_) (fun f cdv A outer s H vs Q E hr h => ?_)
  · obtain ⟨v, d, rfl, _⟩ := h
    rfl
  · obtain ⟨v, d, rfl, hd, hz, k⟩ := h
    refine ⟨_, (pss_cons (ps_set (i := 1) sc_is_value.nd rfl (Or.inl rfl) (pe_lst (pa_cons (pv 0) pa_nil)))
 (pss_cons (ps_set (i := 2) sc_is_value.nd rfl (Or.inl rfl) pe_int)
 (pss_cons (ps_while PassesOwn.never (pt_cmpR op_gt (pe_callB (lnK K) rfl T.b_len (by decide +kernel) (pa_cons (pv 1) pa_nil)) pe_int (nomark _)) (pss_cons (ps_set (i := 3) sc_is_value.nd rfl (Or.inl rfl) (pe_bm0 PySem.F.plainAttrs_list PySem.F.slot_list_pop PySem.F.type_list_pop mt_pop (pv 1)))
 (pss_cons (ps_aug (i := 2) sc_is_value.nd rfl (.inl rfl) pe_int ip_add)
 (pss_cons (ps_if (PW.pt (pw_or (pt_cmpR op_gt (pv 2) (pgc rfl T.g_MOST_PLACES) (nomark _)) (pw_or1 (pt_not (pt_val (pe_k C_is_part hr (by decide) rfl (pa_cons (pv 3) pa_nil))))))) (pss_one (ps_ret pe_bl)) pss_nil)
 (pss_one (ps_expr (pe_bm PySem.F.plainAttrs_list PySem.F.slot_list_extend PySem.F.type_list_extend mt_extend (pv 1) (pa_cons (pe_lc (own := [("step", 4), ("child", 5)]) (by rfl) sc_is_value.nd (pil K (pe_k C_children hr (by decide) rfl (pa_cons (pv 3) pa_nil))) (blkOk_by (own := [("step", 4), ("child", 5)]) (N := ["thing", "waiting", "many", "one", "step", "child"]) (sc := defScope s_is_value) (by decide +kernel)) (fun _ _ _ _ _ => (pgt (n := 2) K rfl (pgs_cons (pg_name (i := 4) sc_is_value.nd rfl (Or.inl rfl)) (pgs_cons (pg_name (i := 5) sc_is_value.nd rfl (Or.inl rfl)) pgs_nil)))) (fun _ _ _ _ _ => pts_nil) (fun _ _ _ _ _ => (pv 5))) pa_nil))))))))
 (pss_one (ps_ret pe_bl))))), ?_⟩
    refine ⟨_, rfl, szl (by show 1 ≤ 100000; decide), fun p np => ?_⟩
    refine ⟨IsVW H v d p, ?_, ?_⟩
    · refine ⟨_, 0, [v], [d], none, none, none, rfl, rfl, ?_, upd_same, ?_, ?_, by omega, by show 1 ≤ _; omega, ?_⟩
      · rw [del_none np]
        exact fun _ _ h => h
      · rw [del_none np]
        exact DtL.cons hd DtL.nil
      · exact szL_of fun c hc => by
          cases List.mem_singleton.mp hc
          exact hz
      · unfold isV okL okL cntL cntL
        rw [Bool.and_true, Nat.zero_add, Nat.add_zero]
    · rintro m σ H1 ⟨many, ws, ds, o3, o4, o5, rfl, rfl, e1, hp, hds, hsz, hm, hwl, hval⟩
      have e0 : Ex H H1 := e1.trans ex_del
      have hlen := hds.len
      refine ⟨_, rfl, .ref p, ws.length, rfl, .inl ⟨ws, .inl (.inl hp), rfl⟩, _, _, rfl, rfl, _, rfl, if_b (fun hc => ?_) (fun hc => ?_)⟩
      · have hw0 : 0 < ws.length := by
          have := of_decide_eq_true hc
          omega
        obtain ⟨y, hy⟩ : ∃ y, ws[ws.length - 1]? = some y := ⟨_, List.getElem?_eq_getElem (by omega)⟩
        obtain ⟨dd, hdd, hdy, hdl'⟩ := dtl_drop hds hy
        have hcl : cntL ds = cntL ds.dropLast + cnt dd := by
          conv => lhs; rw [hdd]
          rw [cntL_app]
          unfold cntL cntL
          omega
        have hol : okL ds = (okL ds.dropLast && okA dd) := by
          conv => lhs; rw [hdd]
          rw [okL_app]
          unfold okL okL
          rw [Bool.and_true]
        have hsd : szA dd := szL_mem hsz (by rw [hdd]; simp)
        have hpos := cnt_pos dd
        refine ⟨fun σ' H' => ∃ m', m' < cntL ds ∧ IsVW H v d p m' σ' H', fun _ _ h => h, ?_⟩
        refine ⟨_, rfl, .inl ⟨rfl, _, SqLo hp⟩, p, ws, y, rfl, rfl, hp, hy, ?_⟩
        have exA : Ex (del H1 p) (upd H1 p (.lst ws.dropLast)) := ex_del_upd
        generalize hA : upd H1 p (.lst ws.dropLast) = HA at exA ⊢
        have hpA : HA p = some (.lst ws.dropLast) := by rw [← hA]; exact upd_same
        have hdelA : del HA p = del H1 p := by rw [← hA]; exact del_upd
        refine ⟨_, rfl, _, _, rfl, rfl, ?_⟩
        refine ⟨_, rfl, _, _, rfl, rfl, _, rfl, if_b (fun h1 => ?_) (fun h1 => ?_)⟩
        · -- too many places
          have h1 : (60 : Int) < many + 1 := of_decide_eq_true h1
          have e : isV d = false := by
            rw [hval, decide_eq_false (by omega), Bool.and_false]
          have q := k HA (e1.trans exA)
          rw [e] at q
          exact q
        · have h1' : many < 60 := by
            have : ¬ (60 : Int) < many + 1 := of_decide_eq_false h1
            omega
          refine ⟨_, rfl, y, dd, rfl, hdy.ex exA, szD_of hsd, fun H2 x2 => ⟨_, rfl, if_b (fun h2 => ?_) (fun h2 => ?_)⟩⟩
          · -- no part
            have h2 : okP dd = false := by simpa using h2
            have e : isV d = false := by
              rw [hval, hol, okA_kids, h2, Bool.false_and, Bool.and_false, Bool.false_and]
            have q := k H2 (e1.trans (exA.trans x2))
            rw [e] at q
            exact q
          · have h2 : okP dd = true := by simpa using h2
            have ex2 : Ex (del H1 p) H2 := exA.trans x2
            have ex2' : Ex (del H1 p) (del H2 p) := by
              rw [← hdelA]
              exact del_grow' x2
            refine ⟨_, rfl, .inl ⟨rfl, _, SqLo (x2 _ _ hpA)⟩, _, rfl, y, dd, _, rfl, hdy, ex2, h2, fun q H3 ts cs x3 nq hq hts hcs => ?_⟩
            have hkp := kids_perm hcs (kids_ns hdy h2)
            have hkl : cs.length ≤ 60 := by
              have := kids_len h2
              have := hkp.length_eq
              rw [List.length_map] at this
              omega
            have htl : ts.length = cs.length := Paired.len hts
            refine ⟨q, rfl, ⟨_, SqLo hq⟩, fun D nD => lc_gr (walk_list (xs := ts)) (fun i acc _ => DtL (del H1 p) ((cs.take i).map (·.2)) acc) nD (by omega) DtL.nil (fun H' e => SqLo (e _ _ hq)) ?_ ?_⟩
            · rintro i x acc H4 H5 hi g g' gD gl gr ⟨rfl, hx1⟩
              obtain ⟨c, hc1, t, u, rfl, ht, hu⟩ := Paired.get hts hx1
              refine ⟨t, _, rfl, .inl (rd_ex g ht), rfl, _, _, rfl, _, _, rfl, rfl, rfl, _, rfl, lc_put g' gD gl (by omega) (fun _ _ h => h) ?_⟩
              rw [List.take_add_one, List.map_append, hc1]
              exact DtL.app gr (DtL.cons hu DtL.nil)
            · rintro acc H4 g g' gD gl gr
              have e3 : cs.take ts.length = cs := List.take_of_length_le (by omega)
              rw [e3] at gr
              have pD : p ≠ D := fun z => by
                rw [← z, x3 _ _ (x2 _ _ hpA)] at nD
                cases nD
              have hp4 : H4 p = some (.lst ws.dropLast) := g _ _ (x3 _ _ (x2 _ _ hpA))
              have hdl : ws.dropLast.length = ws.length - 1 := List.length_dropLast
              refine ⟨p, D, ws.dropLast, acc, rfl, rfl, hp4, gD, szl (by omega), ?_⟩
              have ex4 : Ex (del H1 p) (del H4 p) := ex2'.trans (del_grow' (x3.trans g))
              have hcc : cntL (cs.map (·.2)) + 1 = cnt dd := by
                rw [cntL_perm hkp, cnt_kids dd]
                omega
              refine ⟨cntL (ds.dropLast ++ cs.map (·.2)), ?_, many + 1, ws.dropLast ++ acc, ds.dropLast ++ cs.map (·.2), _, _, _, rfl, rfl, ?_, upd_same, ?_, ?_, by omega, ?_, ?_⟩
              · rw [cntL_app]
                omega
              · rw [del_upd]
                exact e1.trans ex4
              · rw [del_upd]
                exact (DtL.app hdl' gr).ex ex4
              · refine szL_of fun c hc => ?_
                rcases List.mem_append.mp hc with hc | hc
                · exact szL_mem hsz (List.dropLast_subset _ hc)
                · exact szL_mem (szA_kids hsd) (hkp.mem_iff.mp hc)
              · rw [List.length_append]
                omega
              · rw [hval, hol, okL_app, okL_perm hkp, okA_kids dd, h2, Bool.true_and, cntL_app]
                congr 1
                exact decide_eq_decide.mpr (by omega)
      · -- nothing waits
        have hw0 : ws = [] := by
          have : ¬ (0 : Int) < ws.length := of_decide_eq_false hc
          exact List.length_eq_zero_iff.mp (by omega)
        have hd0 : ds = [] := List.length_eq_zero_iff.mp (by rw [← hlen, hw0]; rfl)
        have e : isV d = true := by
          rw [hval, hd0]
          unfold okL cntL
          rw [Bool.true_and]
          exact decide_eq_true (by omega)
        have q := k H1 e0
        rw [e] at q
        exact q
end
end VL

namespace VL
open PySem L2 LW
/-! ### small data: what repr can show -/
mutual
def lim : PyData → Prop
  | .none => True
  | .bool _ => True
  | .int i => -big ≤ i ∧ i ≤ big
  | .str x => x.length ≤ 21 ∧ ∀ c ∈ x.cps.toList, c < 128
  | .list ds => limL ds
  | .tuple ds => limL ds
  | .dict kvs => limK kvs
def limL : List PyData → Prop
  | [] => True
  | d :: r => lim d ∧ limL r
def limK : List (PyData × PyData) → Prop
  | [] => True
  | (k, d) :: r => lim k ∧ lim d ∧ limK r
end
mutual
def nod : PyData → Nat
  | .list ds => 1 + nodL ds
  | .tuple ds => 1 + nodL ds
  | .dict kvs => 1 + nodK kvs
  | .none => 1
  | .bool _ => 1
  | .int _ => 1
  | .str _ => 1
def nodL : List PyData → Nat
  | [] => 0
  | d :: r => nod d + nodL r
def nodK : List (PyData × PyData) → Nat
  | [] => 0
  | (k, d) :: r => nod k + nod d + nodK r
end
theorem big_abs {i : Int} (h : -big ≤ i ∧ i ≤ big) : i.natAbs < 10 ^ 31 := by
  unfold big at h
  omega
mutual
theorem lim_short : ∀ d : PyData, lim d → d.leavesShort 40 = true
  | .none, _ => rfl
  | .bool _, _ => rfl
  | .int i, h => by
    unfold lim at h
    have e := int_text_length_le10 (a := i) (k := 31) (by decide) (big_abs h)
    simp only [PyData.leavesShort, PyData.shown, ofString_length]
    exact decide_eq_true (by omega)
  | .str x, h => by
    unfold lim at h
    simp only [PyData.leavesShort]
    exact List.all_eq_true.mpr fun c hc => decide_eq_true (Nat.lt_trans (h.2 c hc) (by decide))
  | .list ds, h => by
    unfold lim at h
    simp only [PyData.leavesShort]
    exact limL_short ds h
  | .tuple ds, h => by
    unfold lim at h
    simp only [PyData.leavesShort]
    exact limL_short ds h
  | .dict kvs, h => by
    unfold lim at h
    simp only [PyData.leavesShort]
    exact limK_short kvs h
theorem limL_short : ∀ ds : List PyData, limL ds → PyData.leavesShortAll 40 ds = true
  | [], _ => rfl
  | d :: r, h => by
    unfold limL at h
    simp only [PyData.leavesShortAll, lim_short d h.1, limL_short r h.2, Bool.and_self]
theorem limK_short : ∀ ds : List (PyData × PyData), limK ds → PyData.leavesShortKv 40 ds = true
  | [], _ => rfl
  | (k, d) :: r, h => by
    unfold limK at h
    simp only [PyData.leavesShortKv, lim_short k h.1, lim_short d h.2.1, limK_short r h.2.2, Bool.and_self]
end
mutual
theorem lim_show : ∀ d : PyData, lim d → d.showable = true
  | .none, _ => rfl
  | .bool _, _ => rfl
  | .int i, h => by
    unfold lim at h
    simp only [PyData.showable]
    refine decide_eq_true ?_
    have q := big_abs h
    by_cases h0 : i.natAbs = 0
    · rw [h0]
      decide
    · have q1 : i.natAbs.log2 < 104 := (Nat.log2_lt h0).mpr (Nat.lt_trans q (by decide))
      omega
  | .str x, h => rfl
  | .list ds, h => by
    unfold lim at h
    simp only [PyData.showable]
    exact limL_show ds h
  | .tuple ds, h => by
    unfold lim at h
    simp only [PyData.showable]
    exact limL_show ds h
  | .dict kvs, h => by
    unfold lim at h
    simp only [PyData.showable]
    exact limK_show kvs h
theorem limL_show : ∀ ds : List PyData, limL ds → PyData.showableAll ds = true
  | [], _ => rfl
  | d :: r, h => by
    unfold limL at h
    simp only [PyData.showableAll, lim_show d h.1, limL_show r h.2, Bool.and_self]
theorem limK_show : ∀ ds : List (PyData × PyData), limK ds → PyData.showableKv ds = true
  | [], _ => rfl
  | (k, d) :: r, h => by
    unfold limK at h
    simp only [PyData.showableKv, lim_show k h.1, lim_show d h.2.1, limK_show r h.2.2, Bool.and_self]
end
theorem nod_pos : ∀ d : PyData, 1 ≤ nod d
  | .none => by simp [nod]
  | .bool _ => by simp [nod]
  | .int i => by simp [nod]
  | .str x => by simp [nod]
  | .list ds => by simp only [nod]; omega
  | .tuple ds => by simp only [nod]; omega
  | .dict kvs => by simp only [nod]; omega
mutual
theorem bulk_le : ∀ d : PyData, lim d → d.bulk + 1 ≤ 24 * nod d
  | .none, _ => by simp [PyData.bulk, nod]
  | .bool _, _ => by simp [PyData.bulk, nod]
  | .int i, h => by simp [PyData.bulk, nod]
  | .str x, h => by
    unfold lim at h
    simp only [PyData.bulk, nod]
    have : x.cps.size ≤ 21 := h.1
    omega
  | .list ds, h => by
    unfold lim at h
    have := bulkL_le ds h
    simp only [PyData.bulk, nod]
    omega
  | .tuple ds, h => by
    unfold lim at h
    have := bulkL_le ds h
    simp only [PyData.bulk, nod]
    omega
  | .dict kvs, h => by
    unfold lim at h
    have := bulkK_le kvs h
    simp only [PyData.bulk, nod]
    omega
theorem bulkL_le : ∀ ds : List PyData, limL ds → PyData.bulkAll ds ≤ 24 * nodL ds
  | [], _ => by simp [PyData.bulkAll, nodL]
  | d :: r, h => by
    unfold limL at h
    have h1 := bulk_le d h.1
    have h2 := bulkL_le r h.2
    simp only [PyData.bulkAll, nodL]
    omega
theorem bulkK_le : ∀ ds : List (PyData × PyData), limK ds → PyData.bulkKv ds ≤ 24 * nodK ds
  | [], _ => by simp [PyData.bulkKv, nodK]
  | (k, d) :: r, h => by
    unfold limK at h
    have h1 := bulk_le k h.1
    have h2 := bulk_le d h.2.1
    have h3 := bulkK_le r h.2.2
    simp only [PyData.bulkKv, nodK]
    omega
end
mutual
theorem depth_le : ∀ d : PyData, d.depth ≤ nod d
  | .none => by simp [PyData.depth]
  | .bool _ => by simp [PyData.depth]
  | .int i => by simp [PyData.depth]
  | .str x => by simp [PyData.depth]
  | .list ds => by
    have := depthL_le ds
    simp only [PyData.depth, nod]
    omega
  | .tuple ds => by
    have := depthL_le ds
    simp only [PyData.depth, nod]
    omega
  | .dict kvs => by
    have := depthK_le kvs
    simp only [PyData.depth, nod]
    omega
theorem depthL_le : ∀ ds : List PyData, PyData.depthAll ds ≤ nodL ds
  | [] => by simp [PyData.depthAll]
  | d :: r => by
    have h1 := depth_le d
    have h2 := depthL_le r
    simp only [PyData.depthAll, nodL]
    omega
theorem depthK_le : ∀ ds : List (PyData × PyData), PyData.depthKv ds ≤ nodK ds
  | [] => by simp [PyData.depthKv]
  | (k, d) :: r => by
    have h1 := depth_le k
    have h2 := depth_le d
    have h3 := depthK_le r
    simp only [PyData.depthKv, nodK]
    omega
end
/-- data that repr shows -/
structure Sm (d : PyData) : Prop where
  l : lim d
  n : nod d ≤ 140
theorem Sm.show {d : PyData} (h : Sm d) : d.showable = true := lim_show d h.l
theorem Sm.depth {d : PyData} (h : Sm d) : d.depth ≤ 150 := Nat.le_trans (depth_le d) (Nat.le_trans h.n (by decide))
theorem Sm.size {d : PyData} (h : Sm d) : d.shown.length ≤ sizeLine := by
  have h1 := PyData.shown_le_bulk 40 (by decide) d (lim_short d h.l)
  have h2 := bulk_le d h.l
  have h3 := h.n
  refine Nat.le_trans (m := 200000) ?_ (by decide)
  have h4 : d.bulk ≤ 3360 := by omega
  have h5 : (40 + 2) * d.bulk ≤ (40 + 2) * 3360 := Nat.mul_le_mul_left _ h4
  omega
mutual
theorem lim_sz : ∀ d : PyData, lim d → szA d
  | .none, _ => by unfold szA; trivial
  | .bool _, _ => by unfold szA; trivial
  | .int i, h => by unfold szA; trivial
  | .tuple i, h => by unfold szA; trivial
  | .str x, h => by
    unfold lim at h
    unfold szA
    have := h.1
    omega
  | .list ds, h => by
    unfold lim at h
    unfold szA
    exact limL_sz ds h
  | .dict kvs, h => by
    unfold lim at h
    unfold szA
    exact limK_sz kvs h
theorem limL_sz : ∀ ds : List PyData, limL ds → szL ds
  | [], _ => by unfold szL; trivial
  | d :: r, h => by
    unfold limL at h
    unfold szL
    exact ⟨lim_sz d h.1, limL_sz r h.2⟩
theorem limK_sz : ∀ ds : List (PyData × PyData), limK ds → szK ds
  | [], _ => by unfold szK; trivial
  | (k, d) :: r, h => by
    unfold limK at h
    unfold szK
    exact ⟨lim_sz k h.1, lim_sz d h.2.1, limK_sz r h.2.2⟩
end
theorem low_lim {x : Str} {a b : Nat} (h : lets x a b = true) (hb : b ≤ 21) : lim (.str x) := by
  unfold lets at h
  rw [Bool.and_eq_true, Bool.and_eq_true] at h
  unfold lim
  refine ⟨Nat.le_trans (of_decide_eq_true h.1.2) hb, fun c hc => ?_⟩
  have q := List.all_eq_true.mp h.2 c hc
  rw [Bool.and_eq_true] at q
  have := of_decide_eq_true q.2
  omega
theorem fld_lim {k : PyData} (h : fld k = true) : lim k ∧ nod k = 1 := by
  cases k with
  | str x => exact ⟨low_lim h (by decide), rfl⟩
  | _ => cases h
mutual
/-- a value is small -/
theorem ok_lim : ∀ d : PyData, okA d = true → lim d ∧ nod d + 1 ≤ 2 * cnt d
  | .none, h => by cases h
  | .bool _, h => by cases h
  | .tuple _, h => by cases h
  | .int i, h => by
    have h' : (decide (-big < i) && decide (i < big)) = true := h
    rw [Bool.and_eq_true] at h'
    refine ⟨?_, by simp [nod, cnt]⟩
    unfold lim
    exact ⟨Int.le_of_lt (of_decide_eq_true h'.1), Int.le_of_lt (of_decide_eq_true h'.2)⟩
  | .str x, h => ⟨low_lim (a := 0) (b := 20) h (by decide), by simp [nod, cnt]⟩
  | .list ds, h => by
    unfold okA at h
    rw [Bool.and_eq_true] at h
    have q := okL_lim ds h.2
    unfold lim nod cnt
    exact ⟨q.1, by omega⟩
  | .dict kvs, h => by
    unfold okA at h
    rw [Bool.and_eq_true] at h
    have h1 : (decide (kvs.length ≤ 8) && kvs.all fun p => fld p.1) = true := h.1
    rw [Bool.and_eq_true] at h1
    have q := okK_lim kvs h.2 (fun p hp => List.all_eq_true.mp h1.2 p hp)
    unfold lim nod cnt
    exact ⟨q.1, by omega⟩
theorem okL_lim : ∀ ds : List PyData, okL ds = true → limL ds ∧ nodL ds ≤ 2 * cntL ds
  | [], _ => by unfold limL nodL cntL; exact ⟨trivial, by omega⟩
  | d :: r, h => by
    unfold okL at h
    rw [Bool.and_eq_true] at h
    have q1 := ok_lim d h.1
    have q2 := okL_lim r h.2
    unfold limL nodL cntL
    exact ⟨⟨q1.1, q2.1⟩, by omega⟩
theorem okK_lim : ∀ ds : List (PyData × PyData), okK ds = true → (∀ p ∈ ds, fld p.1 = true) → limK ds ∧ nodK ds ≤ 2 * cntK ds
  | [], _, _ => by unfold limK nodK cntK; exact ⟨trivial, by omega⟩
  | (k, d) :: r, h, hf => by
    unfold okK at h
    rw [Bool.and_eq_true] at h
    have q1 := ok_lim d h.1
    have q2 := okK_lim r h.2 (fun p hp => hf p (List.mem_cons_of_mem _ hp))
    have q3 : lim k ∧ nod k = 1 := fld_lim (hf (k, d) List.mem_cons_self)
    unfold limK nodK cntK
    exact ⟨⟨q3.1, q1.1, q2.1⟩, by have := q3.2; omega⟩
end
theorem ok_sm {d : PyData} (h : okA d = true) (hc : cnt d ≤ 60) : Sm d := ⟨(ok_lim d h).1, by have := (ok_lim d h).2; omega⟩
end VL

namespace VL
open PySem L2 LW
open Evl (Ex)
/-! ### trees: data no part of which lies twice -/
def Apart (A B : Hp) : Prop := ∀ b, A b = none ∨ B b = none
theorem Apart.sub {A A' B B' : Hp} (h : Apart A B) (e : Ex A' A) (g : Ex B' B) : Apart A' B' := fun b => by
  rcases h b with q | q
  · exact .inl (ex_free e q)
  · exact .inr (ex_free g q)
def un (A B : Hp) : Hp := fun b => match A b with
  | some o => some o
  | none => B b
theorem un_l {A B : Hp} : Ex A (un A B) := fun b o h => by
  unfold un
  rw [h]
theorem un_r {A B : Hp} (h : Apart A B) : Ex B (un A B) := fun b o q => by
  unfold un
  rcases h b with e | e
  · rw [e]
    exact q
  · rw [e] at q
    cases q
theorem un_le {A B H : Hp} (h : Ex A H) (g : Ex B H) : Ex (un A B) H := fun b o q => by
  unfold un at q
  cases e : A b with
  | none =>
    rw [e] at q
    exact g b o q
  | some u =>
    rw [e] at q
    cases q
    exact h b _ e
theorem un_apart {A B C : Hp} (h : Apart C A) (g : Apart C B) : Apart C (un A B) := fun b => by
  rcases h b with q | q
  · exact .inl q
  · rcases g b with q' | q'
    · exact .inl q'
    · right
      unfold un
      rw [q]
      exact q'
mutual
def Tr : PyData → Hp → V → Prop
  | .none, _, v => v = .non
  | .bool b, _, v => v = .bl b
  | .int i, _, v => v = .int i
  | .str x, _, v => v = .str x
  | .tuple _, _, _ => False
  | .list ds, H, v => ∃ a vs, v = .ref a ∧ H a = some (.lst vs) ∧ TrL ds (del H a) vs
  | .dict kvs, H, v => ∃ a es, v = .ref a ∧ H a = some (.dK es) ∧ (es.map (·.1)).Nodup ∧ TrK kvs (del H a) es
def TrL : List PyData → Hp → List V → Prop
  | [], _, vs => vs = []
  | d :: r, H, vs => ∃ v t A B, vs = v :: t ∧ Ex A H ∧ Ex B H ∧ Apart A B ∧ Tr d A v ∧ TrL r B t
def TrK : List (PyData × PyData) → Hp → List (Key × V) → Prop
  | [], _, es => es = []
  | (k, d) :: r, H, es => ∃ x v t A B, es = (x, v) :: t ∧ k = kD x ∧ Ex A H ∧ Ex B H ∧ Apart A B ∧ Tr d A v ∧ TrK r B t
end
mutual
theorem Tr.ex : ∀ {d : PyData} {H H' : Hp} {v : V}, Ex H H' → Tr d H v → Tr d H' v
  | .none, _, _, _, _, h => h
  | .bool _, _, _, _, _, h => h
  | .int _, _, _, _, _, h => h
  | .str _, _, _, _, _, h => h
  | .tuple _, _, _, _, _, h => h
  | .list ds, _, _, _, e, h => by
    unfold Tr at h ⊢
    obtain ⟨a, vs, rfl, ha, hl⟩ := h
    exact ⟨a, vs, rfl, e _ _ ha, TrL.ex (del_grow' e) hl⟩
  | .dict kvs, _, _, _, e, h => by
    unfold Tr at h ⊢
    obtain ⟨a, es, rfl, ha, nd, hl⟩ := h
    exact ⟨a, es, rfl, e _ _ ha, nd, TrK.ex (del_grow' e) hl⟩
theorem TrL.ex : ∀ {ds : List PyData} {H H' : Hp} {vs : List V}, Ex H H' → TrL ds H vs → TrL ds H' vs
  | [], _, _, _, _, h => h
  | d :: r, _, _, _, e, h => by
    unfold TrL at h ⊢
    obtain ⟨v, t, A, B, rfl, h1, h2, h3, h4, h5⟩ := h
    exact ⟨v, t, A, B, rfl, h1.trans e, h2.trans e, h3, h4, h5⟩
theorem TrK.ex : ∀ {ds : List (PyData × PyData)} {H H' : Hp} {vs : List (Key × V)}, Ex H H' → TrK ds H vs → TrK ds H' vs
  | [], _, _, _, _, h => h
  | (k, d) :: r, _, _, _, e, h => by
    unfold TrK at h ⊢
    obtain ⟨x, v, t, A, B, rfl, hk, h1, h2, h3, h4, h5⟩ := h
    exact ⟨x, v, t, A, B, rfl, hk, h1.trans e, h2.trans e, h3, h4, h5⟩
end
mutual
theorem Tr.dt : ∀ {d : PyData} {H : Hp} {v : V}, Tr d H v → Dt H d v
  | .none, _, _, h => h
  | .bool _, _, _, h => h
  | .int _, _, _, h => h
  | .str _, _, _, h => h
  | .tuple _, _, _, h => by unfold Tr at h; exact h.elim
  | .list ds, _, _, h => by
    unfold Tr at h
    unfold Dt
    obtain ⟨a, vs, rfl, ha, hl⟩ := h
    exact ⟨a, vs, rfl, .inl ha, (TrL.dt hl).ex ex_del⟩
  | .dict kvs, _, _, h => by
    unfold Tr at h
    unfold Dt
    obtain ⟨a, es, rfl, ha, nd, hl⟩ := h
    exact ⟨a, rfl, .inl ⟨es, .inl ha, nd, (TrK.dt hl).ex ex_del⟩⟩
theorem TrL.dt : ∀ {ds : List PyData} {H : Hp} {vs : List V}, TrL ds H vs → DtL H ds vs
  | [], _, _, h => by
    unfold TrL at h
    unfold DtL
    exact h
  | d :: r, _, _, h => by
    unfold TrL at h
    unfold DtL
    obtain ⟨v, t, A, B, rfl, h1, h2, h3, h4, h5⟩ := h
    exact ⟨v, t, rfl, (Tr.dt h4).ex h1, (TrL.dt h5).ex h2⟩
theorem TrK.dt : ∀ {ds : List (PyData × PyData)} {H : Hp} {vs : List (Key × V)}, TrK ds H vs → DtK H ds vs
  | [], _, _, h => by
    unfold TrK at h
    unfold DtK
    exact h
  | (k, d) :: r, _, _, h => by
    unfold TrK at h
    unfold DtK
    obtain ⟨x, v, t, A, B, rfl, hk, h1, h2, h3, h4, h5⟩ := h
    exact ⟨x, v, t, rfl, hk, (Tr.dt h4).ex h1, (TrK.dt h5).ex h2⟩
end
theorem TrL.snoc : ∀ {ds : List PyData} {d : PyData} {A B H : Hp} {vs : List V} {v : V}, TrL ds A vs → Tr d B v → Apart A B → Ex A H → Ex B H → TrL (ds ++ [d]) H (vs ++ [v])
  | [], d, A, B, H, _, v, h, q, ap, eA, eB => by
    unfold TrL at h
    subst h
    show TrL [d] H [v]
    unfold TrL
    exact ⟨v, [], B, fun _ => none, rfl, eB, fun _ _ z => (by cases z), fun _ => .inr rfl, q, by unfold TrL; rfl⟩
  | c :: r, d, A, B, H, _, v, h, q, ap, eA, eB => by
    unfold TrL at h
    obtain ⟨u, t, A0, B0, rfl, h1, h2, h3, h4, h5⟩ := h
    show TrL (c :: (r ++ [d])) H (u :: (t ++ [v]))
    unfold TrL
    have ab : Apart B0 B := ap.sub h2 (fun _ _ z => z)
    exact ⟨u, t ++ [v], A0, un B0 B, rfl, h1.trans eA, un_le (h2.trans eA) eB, un_apart h3 (ap.sub h1 (fun _ _ z => z)), h4, TrL.snoc h5 q ab un_l (un_r ab)⟩
theorem TrK.snoc : ∀ {ds : List (PyData × PyData)} {k d : PyData} {x : Key} {A B H : Hp} {vs : List (Key × V)} {v : V}, TrK ds A vs → Tr d B v → k = kD x → Apart A B → Ex A H → Ex B H → TrK (ds ++ [(k, d)]) H (vs ++ [(x, v)])
  | [], k, d, x, A, B, H, _, v, h, q, hk, ap, eA, eB => by
    unfold TrK at h
    subst h
    show TrK [(k, d)] H [(x, v)]
    unfold TrK
    exact ⟨x, v, [], B, fun _ => none, rfl, hk, eB, fun _ _ z => (by cases z), fun _ => .inr rfl, q, by unfold TrK; rfl⟩
  | (k0, c) :: r, k, d, x, A, B, H, _, v, h, q, hk, ap, eA, eB => by
    unfold TrK at h
    obtain ⟨x0, u, t, A0, B0, rfl, hk0, h1, h2, h3, h4, h5⟩ := h
    show TrK ((k0, c) :: (r ++ [(k, d)])) H ((x0, u) :: (t ++ [(x, v)]))
    unfold TrK
    have ab : Apart B0 B := ap.sub h2 (fun _ _ z => z)
    exact ⟨x0, u, t ++ [(x, v)], A0, un B0 B, rfl, hk0, h1.trans eA, un_le (h2.trans eA) eB, un_apart h3 (ap.sub h1 (fun _ _ z => z)), h4, TrK.snoc h5 q hk ab un_l (un_r ab)⟩
/-! ### parts by steps -/
def setM (kvs : List (PyData × PyData)) (y : Str) (x : PyData) : List (PyData × PyData) := kvs.map fun p => if nm p.1 = y then (p.1, x) else p
theorem setM_no : ∀ {kvs : List (PyData × PyData)} {y : Str} {x : PyData}, y ∉ names kvs → setM kvs y x = kvs
  | [], _, _, _ => rfl
  | (k, d) :: r, y, x, h => by
    have h' : y ∉ nm k :: names r := h
    rw [List.mem_cons, not_or] at h'
    show (if nm k = y then (k, x) else (k, d)) :: setM r y x = (k, d) :: r
    rw [if_neg (fun e => h'.1 e.symm), setM_no h'.2]
theorem setM_names (kvs : List (PyData × PyData)) (y : Str) (x : PyData) : names (setM kvs y x) = names kvs := by
  unfold names setM
  rw [List.map_map]
  apply List.map_congr_left
  intro p _
  show nm (if nm p.1 = y then (p.1, x) else p).1 = nm p.1
  split <;> rfl
def stepD : PyData → V → Option PyData
  | .list ds, .int i => if 0 ≤ i then ds[i.toNat]? else none
  | .dict kvs, .str y => if y ∈ names kvs then some (getN kvs y) else none
  | _, _ => none
def setD : PyData → V → PyData → PyData
  | .list ds, .int i, x => .list (ds.set i.toNat x)
  | .dict kvs, .str y, x => .dict (setM kvs y x)
  | d, _, _ => d
def At : PyData → List V → PyData → Prop
  | d, [], c => c = d
  | d, s :: p, c => ∃ e, stepD d s = some e ∧ At e p c
def putAt : PyData → List V → PyData → PyData
  | _, [], x => x
  | d, s :: p, x => match stepD d s with
    | some e => setD d s (putAt e p x)
    | none => d
theorem at_snoc : ∀ {p : List V} {d c : PyData} {s : V}, At d (p ++ [s]) c → ∃ e, At d p e ∧ stepD e s = some c
  | [], d, c, s, h => by
    obtain ⟨e, h1, h2⟩ := h
    have h2 : c = e := h2
    subst h2
    exact ⟨d, rfl, h1⟩
  | t :: p, d, c, s, h => by
    obtain ⟨e, h1, h2⟩ := h
    obtain ⟨g, h3, h4⟩ := at_snoc h2
    exact ⟨g, ⟨e, h1, h3⟩, h4⟩
theorem put_snoc : ∀ {p : List V} {d e c x : PyData} {s : V}, At d p e → stepD e s = some c → putAt d (p ++ [s]) x = putAt d p (setD e s x)
  | [], d, e, c, x, s, h, hs => by
    have h : e = d := h
    subst h
    show (match stepD e s with | some e' => setD e s (putAt e' [] x) | none => e) = setD e s x
    rw [hs]
    rfl
  | t :: p, d, e, c, x, s, h, hs => by
    obtain ⟨g, h1, h2⟩ := h
    show (match stepD d t with | some e' => setD d t (putAt e' (p ++ [s]) x) | none => d) = (match stepD d t with | some e' => setD d t (putAt e' p (setD e s x)) | none => d)
    rw [h1]
    show setD d t (putAt g (p ++ [s]) x) = setD d t (putAt g p (setD e s x))
    rw [put_snoc h2 hs]
/-- a step is into a list or a record -/
theorem step_cases {d c : PyData} {s : V} (h : stepD d s = some c) : (∃ ds i, d = .list ds ∧ s = .int i ∧ 0 ≤ i ∧ ds[i.toNat]? = some c) ∨ ∃ kvs y, d = .dict kvs ∧ s = .str y ∧ y ∈ names kvs ∧ getN kvs y = c := by
  cases d with
  | list ds =>
    cases s with
    | int i =>
      have h : (if 0 ≤ i then ds[i.toNat]? else none) = some c := h
      by_cases e : 0 ≤ i
      · rw [if_pos e] at h
        exact .inl ⟨ds, i, rfl, rfl, e, h⟩
      · rw [if_neg e] at h
        cases h
    | _ => cases h
  | dict kvs =>
    cases s with
    | str y =>
      have h : (if y ∈ names kvs then some (getN kvs y) else none) = some c := h
      by_cases e : y ∈ names kvs
      · rw [if_pos e] at h
        exact .inr ⟨kvs, y, rfl, rfl, e, Option.some.inj h⟩
      · rw [if_neg e] at h
        cases h
    | _ => cases h
  | _ => cases h
theorem getN_mem : ∀ {kvs : List (PyData × PyData)} {y : Str}, y ∈ names kvs → ∃ k, (k, getN kvs y) ∈ kvs ∧ nm k = y
  | (k, d) :: r, y, h => by
    have h' : y ∈ nm k :: names r := h
    by_cases e : nm k = y
    · refine ⟨k, ?_, e⟩
      unfold getN
      rw [if_pos e]
      exact List.mem_cons_self
    · rcases List.mem_cons.mp h' with q | q
      · exact (e q.symm).elim
      · obtain ⟨k', h1, h2⟩ := getN_mem q
        refine ⟨k', ?_, h2⟩
        unfold getN
        rw [if_neg e]
        exact List.mem_cons_of_mem _ h1
theorem step_kid {d c : PyData} {s : V} (h : stepD d s = some c) : c ∈ kids d := by
  rcases step_cases h with ⟨ds, i, rfl, rfl, h0, e⟩ | ⟨kvs, y, rfl, rfl, hy, rfl⟩
  · exact List.mem_of_getElem? e
  · obtain ⟨k, hk, _⟩ := getN_mem hy
    exact List.mem_map.mpr ⟨_, hk, rfl⟩
theorem okL_mem {ds : List PyData} (h : okL ds = true) {d : PyData} (m : d ∈ ds) : okA d = true := by
  rw [okL_all] at h
  exact List.all_eq_true.mp h d m
theorem okL_no {ds : List PyData} {d : PyData} (m : d ∈ ds) (h : okA d = false) : okL ds = false := by
  rw [okL_all]
  refine List.all_eq_false.mpr ⟨d, m, ?_⟩
  rw [h]
  exact Bool.false_ne_true
theorem step_ok {d c : PyData} {s : V} (h : stepD d s = some c) (o : okA d = true) : okA c = true := by
  rw [okA_kids, Bool.and_eq_true] at o
  exact okL_mem o.2 (step_kid h)
theorem at_ok : ∀ {p : List V} {d c : PyData}, At d p c → okA d = true → okA c = true
  | [], d, c, h, o => by
    have h : c = d := h
    rw [h]
    exact o
  | s :: p, d, c, h, o => by
    obtain ⟨e, h1, h2⟩ := h
    exact at_ok h2 (step_ok h1 o)
theorem setD_kid {d c x : PyData} {s : V} (h : stepD d s = some c) : x ∈ kids (setD d s x) := by
  rcases step_cases h with ⟨ds, i, rfl, rfl, h0, e⟩ | ⟨kvs, y, rfl, rfl, hy, rfl⟩
  · show x ∈ ds.set i.toNat x
    obtain ⟨hi, _⟩ := List.getElem?_eq_some_iff.mp e
    exact List.mem_of_getElem? (i := i.toNat) (by rw [List.getElem?_set_self hi])
  · obtain ⟨k, hk, he⟩ := getN_mem hy
    show x ∈ (setM kvs y x).map (·.2)
    refine List.mem_map.mpr ⟨(k, x), List.mem_map.mpr ⟨_, hk, ?_⟩, rfl⟩
    show (if nm k = y then (k, x) else _) = _
    rw [if_pos he]
theorem setD_bad {d c x : PyData} {s : V} (h : stepD d s = some c) (hx : okA x = false) : okA (setD d s x) = false := by
  rw [okA_kids, okL_no (setD_kid h) hx, Bool.and_false]
theorem putAt_bad : ∀ {p : List V} {d c x : PyData}, At d p c → okA x = false → okA (putAt d p x) = false
  | [], d, c, x, _, hx => hx
  | s :: p, d, c, x, h, hx => by
    obtain ⟨e, h1, h2⟩ := h
    show okA (match stepD d s with | some e => setD d s (putAt e p x) | none => d) = false
    rw [h1]
    exact setD_bad h1 (putAt_bad h2 hx)
/-! ### bounds of what is put -/
theorem nod_list (ds : List PyData) : nod (.list ds) = 1 + nodL ds := by rw [nod]
theorem nod_dict (ds : List (PyData × PyData)) : nod (.dict ds) = 1 + nodK ds := by rw [nod]
theorem limL_of : ∀ {ds : List PyData}, limL ds ↔ ∀ d ∈ ds, lim d
  | [] => ⟨fun _ d h => (by cases h), fun _ => by unfold limL; trivial⟩
  | c :: r => by
    unfold limL
    rw [limL_of (ds := r)]
    constructor
    · rintro ⟨h1, h2⟩ d hd
      rcases List.mem_cons.mp hd with rfl | hd
      · exact h1
      · exact h2 d hd
    · exact fun h => ⟨h c List.mem_cons_self, fun d hd => h d (List.mem_cons_of_mem _ hd)⟩
theorem limK_of : ∀ {ds : List (PyData × PyData)}, limK ds ↔ ∀ p ∈ ds, lim p.1 ∧ lim p.2
  | [] => ⟨fun _ d h => (by cases h), fun _ => by unfold limK; trivial⟩
  | (k, c) :: r => by
    unfold limK
    rw [limK_of (ds := r)]
    constructor
    · rintro ⟨h1, h2, h3⟩ d hd
      rcases List.mem_cons.mp hd with rfl | hd
      · exact ⟨h1, h2⟩
      · exact h3 d hd
    · exact fun h => ⟨(h (k, c) List.mem_cons_self).1, (h (k, c) List.mem_cons_self).2, fun d hd => h d (List.mem_cons_of_mem _ hd)⟩
theorem nodL_set : ∀ (ds : List PyData) (i : Nat) (x c : PyData), ds[i]? = some c → nodL (ds.set i x) + nod c = nodL ds + nod x
  | [], i, x, c, h => by simp at h
  | d :: r, 0, x, c, h => by
    simp only [List.getElem?_cons_zero, Option.some.injEq] at h
    subst h
    show nodL (x :: r) + _ = _
    unfold nodL
    omega
  | d :: r, i + 1, x, c, h => by
    rw [List.getElem?_cons_succ] at h
    have := nodL_set r i x c h
    show nodL (d :: r.set i x) + _ = _
    unfold nodL
    omega
theorem nodK_set : ∀ (kvs : List (PyData × PyData)) (y : Str) (x : PyData), (names kvs).Nodup → y ∈ names kvs → nodK (setM kvs y x) + nod (getN kvs y) = nodK kvs + nod x
  | [], y, x, _, h => by cases h
  | (k, d) :: r, y, x, nd, h => by
    have nd' : (nm k :: names r).Nodup := nd
    obtain ⟨n1, n2⟩ := List.nodup_cons.mp nd'
    have h' : y ∈ nm k :: names r := h
    show nodK ((if nm k = y then (k, x) else (k, d)) :: setM r y x) + nod (if nm k = y then d else getN r y) = _
    by_cases e : nm k = y
    · rw [if_pos e, if_pos e, setM_no (e ▸ n1)]
      unfold nodK
      omega
    · rw [if_neg e, if_neg e]
      have hy : y ∈ names r := by
        rcases List.mem_cons.mp h' with q | q
        · exact (e q.symm).elim
        · exact q
      have := nodK_set r y x n2 hy
      unfold nodK
      omega
/-! ### what a tree's part may be exchanged for -/
theorem DtL.set {H : Hp} : ∀ {ds : List PyData} {vs : List V} {i : Nat} {x : PyData} {u : V}, DtL H ds vs → Dt H x u → DtL H (ds.set i x) (vs.set i u)
  | [], _, i, x, u, h, q => by
    unfold DtL at h
    subst h
    exact DtL.nil
  | d :: r, _, 0, x, u, h, q => by
    unfold DtL at h
    obtain ⟨v, t, rfl, h1, h2⟩ := h
    exact DtL.cons q h2
  | d :: r, _, i + 1, x, u, h, q => by
    unfold DtL at h
    obtain ⟨v, t, rfl, h1, h2⟩ := h
    exact DtL.cons h1 (DtL.set h2 q)
theorem DtK.cons {H : Hp} {k d : PyData} {x : Key} {v : V} {r : List (PyData × PyData)} {t : List (Key × V)} (hk : k = kD x) (h : Dt H d v) (q : DtK H r t) : DtK H ((k, d) :: r) ((x, v) :: t) := by
  unfold DtK
  exact ⟨x, v, t, rfl, hk, h, q⟩
theorem key_nm {k : PyData} {x : Key} (hk : k = kD x) (h : k = .str (nm k)) : x = Sum.inr (nm k) := by
  cases x with
  | inl i =>
    rw [hk] at h
    cases h
  | inr z =>
    rw [hk]
    rfl
theorem DtK.setm {H : Hp} {y : Str} {x : PyData} {u : V} (q : Dt H x u) : ∀ {kvs : List (PyData × PyData)} {es : List (Key × V)}, DtK H kvs es → AllStr kvs → DtK H (setM kvs y x) (es.map fun kv => if kv.1 = (Sum.inr y : Key) then (kv.1, u) else kv)
  | [], _, h, _ => by
    unfold DtK at h
    subst h
    unfold setM DtK
    rfl
  | (k, d) :: r, _, h, ha => by
    unfold DtK at h
    obtain ⟨z, v, t, rfl, hk, h1, h2⟩ := h
    have hz := key_nm hk (ha (k, d) List.mem_cons_self)
    have ih := DtK.setm (y := y) q h2 (fun p hp => ha p (List.mem_cons_of_mem _ hp))
    show DtK H ((if nm k = y then (k, x) else (k, d)) :: setM r y x) ((if z = (Sum.inr y : Key) then (z, u) else (z, v)) :: _)
    by_cases e : nm k = y
    · rw [if_pos e, if_pos (by rw [hz, e])]
      exact DtK.cons hk q ih
    · rw [if_neg e, if_neg (by rw [hz]; exact fun w => e (Sum.inr.inj w))]
      exact DtK.cons hk h1 ih
theorem DtK.put {H : Hp} {y : Str} {x : PyData} {u : V} {kvs : List (PyData × PyData)} {es : List (Key × V)} (q : Dt H x u) (h : DtK H kvs es) (ha : AllStr kvs) (hy : y ∈ names kvs) : DtK H (setM kvs y x) (putK es (Sum.inr y) u) := by
  obtain ⟨v, hv, _⟩ := dtk_get h ha y hy
  unfold putK
  rw [valV_any, hv]
  exact DtK.setm q h ha
theorem putK_keys {es : List (Key × V)} {k : Key} {u : V} (h : (valV es k).isSome = true) : (putK es k u).map (·.1) = es.map (·.1) := by
  unfold putK
  rw [valV_any, h, if_pos rfl, List.map_map]
  apply List.map_congr_left
  intro p _
  show (if p.1 = k then (p.1, u) else p).1 = p.1
  split <;> rfl
theorem TrL.pick : ∀ {ds : List PyData} {H : Hp} {vs : List V} {i : Nat} {d : PyData}, TrL ds H vs → ds[i]? = some d → ∃ v A, vs[i]? = some v ∧ Ex A H ∧ Tr d A v ∧ ∀ H'' : Hp, (∀ b o, A b = none → H b = some o → H'' b = some o) → ∀ x, Dt H'' x v → DtL H'' (ds.set i x) vs
  | [], _, _, i, d, h, e => by simp at e
  | c :: r, H, _, 0, d, h, e => by
    unfold TrL at h
    obtain ⟨v, t, A, B, rfl, h1, h2, h3, h4, h5⟩ := h
    simp only [List.getElem?_cons_zero, Option.some.injEq] at e
    subst e
    refine ⟨v, A, rfl, h1, h4, fun H'' g x q => DtL.cons q ((TrL.dt h5).ex fun b o w => g b o ?_ (h2 b o w))⟩
    rcases h3 b with z | z
    · exact z
    · rw [z] at w
      cases w
  | c :: r, H, _, i + 1, d, h, e => by
    unfold TrL at h
    obtain ⟨v, t, A, B, rfl, h1, h2, h3, h4, h5⟩ := h
    rw [List.getElem?_cons_succ] at e
    obtain ⟨u, A', g1, g2, g3, g4⟩ := TrL.pick h5 e
    refine ⟨u, A', by rw [List.getElem?_cons_succ]; exact g1, g2.trans h2, g3, fun H'' g x q => DtL.cons ((Tr.dt h4).ex fun b o w => g b o ?_ (h1 b o w)) (g4 H'' (fun b o w w' => g b o w (h2 b o w')) x q)⟩
    rcases h3 b with z | z
    · rw [z] at w
      cases w
    · exact ex_free g2 z
theorem TrK.pick : ∀ {ds : List (PyData × PyData)} {H : Hp} {vs : List (Key × V)} {y : Str}, TrK ds H vs → AllStr ds → (names ds).Nodup → y ∈ names ds → ∃ v A, valV vs (Sum.inr y : Key) = some v ∧ Ex A H ∧ Tr (getN ds y) A v ∧
    ∀ H'' : Hp, (∀ b o, A b = none → H b = some o → H'' b = some o) → ∀ x, Dt H'' x v → DtK H'' (setM ds y x) vs
  | [], _, _, y, h, _, _, e => by cases e
  | (k, c) :: r, H, _, y, h, ha, nd, e => by
    unfold TrK at h
    obtain ⟨z, v, t, A, B, rfl, hk, h1, h2, h3, h4, h5⟩ := h
    have hz := key_nm hk (ha (k, c) List.mem_cons_self)
    have nd' : (nm k :: names r).Nodup := nd
    obtain ⟨n1, n2⟩ := List.nodup_cons.mp nd'
    have e' : y ∈ nm k :: names r := e
    by_cases ek : nm k = y
    · refine ⟨v, A, valV_pos (p := (z, v)) (by rw [← ek]; exact hz), h1, ?_, fun H'' g x q => ?_⟩
      · unfold getN
        rw [if_pos ek]
        exact h4
      · show DtK H'' ((if nm k = y then (k, x) else (k, c)) :: setM r y x) _
        rw [if_pos ek, setM_no (ek ▸ n1)]
        refine DtK.cons hk q ((TrK.dt h5).ex fun b o w => g b o ?_ (h2 b o w))
        rcases h3 b with z | z
        · exact z
        · rw [z] at w
          cases w
    · have hy : y ∈ names r := by
        rcases List.mem_cons.mp e' with q | q
        · exact (ek q.symm).elim
        · exact q
      obtain ⟨u, A', g1, g2, g3, g4⟩ := TrK.pick h5 (fun p hp => ha p (List.mem_cons_of_mem _ hp)) n2 hy
      refine ⟨u, A', ?_, g2.trans h2, ?_, fun H'' g x q => ?_⟩
      · rw [valV_neg (p := (z, v)) (by rw [hz]; exact fun w => ek (Sum.inr.inj w))]
        exact g1
      · unfold getN
        rw [if_neg ek]
        exact g3
      · show DtK H'' ((if nm k = y then (k, x) else (k, c)) :: setM r y x) _
        rw [if_neg ek]
        refine DtK.cons hk ((Tr.dt h4).ex fun b o w => g b o ?_ (h1 b o w)) (g4 H'' (fun b o w w' => g b o w (h2 b o w')) x q)
        rcases h3 b with z | z
        · rw [z] at w
          cases w
        · exact ex_free g2 z
/-- steps in the heap -/
def StepV (H : Hp) (v s u : V) : Prop := ∃ a, v = .ref a ∧ ((∃ vs i, L2.Rd H a (.lst vs) ∧ s = .int i ∧ atI vs i = some u) ∨ ∃ es k, L2.Rd H a (.dK es) ∧ s = kV k ∧ valV es k = some u)
def Wk (H : Hp) : V → List V → V → Prop
  | v, [], w => w = v
  | v, s :: p, w => ∃ u, StepV H v s u ∧ Wk H u p w
theorem StepV.ex {H H' : Hp} (e : Ex H H') {v s u : V} (h : StepV H v s u) : StepV H' v s u := by
  obtain ⟨a, rfl, ⟨vs, i, h1, h2, h3⟩ | ⟨es, k, h1, h2, h3⟩⟩ := h
  · exact ⟨a, rfl, .inl ⟨vs, i, rd_ex e h1, h2, h3⟩⟩
  · exact ⟨a, rfl, .inr ⟨es, k, rd_ex e h1, h2, h3⟩⟩
theorem Wk.ex {H H' : Hp} (e : Ex H H') : ∀ {p : List V} {v w : V}, Wk H v p w → Wk H' v p w
  | [], _, _, h => h
  | s :: p, _, _, ⟨u, h1, h2⟩ => ⟨u, h1.ex e, Wk.ex e h2⟩
theorem atI_of {xs : List V} {i : Int} {v : V} (h0 : 0 ≤ i) (h : xs[i.toNat]? = some v) : atI xs i = some v := by
  have e : ((i.toNat : Nat) : Int) = i := by omega
  have q : atI xs ((i.toNat : Nat) : Int) = some v := atI_nat h
  rw [e] at q
  exact q
theorem tr_ns {H : Hp} {kvs : List (PyData × PyData)} {es : List (Key × V)} (h : TrK kvs H es) (ho : okA (.dict kvs) = true) (nd : (es.map (·.1)).Nodup) : AllStr kvs ∧ (names kvs).Nodup := by
  rw [okA_kids, Bool.and_eq_true] at ho
  obtain ⟨ha, _⟩ := allStr_of ho.1
  exact ⟨ha, nodup_names (TrK.dt h) ha nd⟩
/-- exchanging one part of a tree -/
theorem hole : ∀ {p : List V} {d c : PyData} {H : Hp} {v : V}, Tr d H v → okA d = true → At d p c → ∃ w A, Wk H v p w ∧ Ex A H ∧ Tr c A w ∧
    (∀ a, w = .ref a → (∃ o, A a = some o) → ∀ H'' : Hp, (∀ b o, b ≠ a → H b = some o → H'' b = some o) → ∀ x, Dt H'' x w → Dt H'' (putAt d p x) v) ∧
    ∀ x, lim x → lim (putAt d p x) ∧ nod (putAt d p x) + nod c = nod d + nod x
  | [], d, c, H, v, h, ho, e => by
    have e : c = d := e
    subst e
    exact ⟨v, H, rfl, fun _ _ z => z, h, fun a _ _ H'' _ x q => q, fun x hx => ⟨hx, by show nod x + _ = _; omega⟩⟩
  | s :: p, d, c, H, v, h, ho, e => by
    obtain ⟨g, hs, he⟩ := e
    have hpa : ∀ x, putAt d (s :: p) x = setD d s (putAt g p x) := fun x => by
      show (match stepD d s with | some e' => setD d s (putAt e' p x) | none => d) = _
      rw [hs]
    have hlim := (ok_lim d ho).1
    have hog := step_ok hs ho
    rcases step_cases hs with ⟨ds, i, rfl, rfl, h0, hi⟩ | ⟨kvs, y, rfl, rfl, hy, rfl⟩
    · unfold Tr at h
      obtain ⟨b, vs, rfl, hb, hl⟩ := h
      obtain ⟨u, A, k1, k2, k3, k4⟩ := TrL.pick hl hi
      obtain ⟨w, A', m1, m2, m3, m4, m5⟩ := hole k3 hog he
      refine ⟨w, A', ⟨u, ⟨b, rfl, .inl ⟨vs, i, .inl hb, rfl, atI_of h0 k1⟩⟩, m1.ex (k2.trans ex_del)⟩, m2.trans (k2.trans ex_del), m3, ?_, ?_⟩
      · rintro a ea ⟨o, hao⟩ H'' hH x hx
        rw [hpa]
        have haA := m2 _ _ hao
        have hab : a ≠ b := fun z => by
          have := k2 _ _ haA
          rw [z, del_same] at this
          cases this
        have q := m4 a ea ⟨o, hao⟩ H'' (fun b' o' n w' => hH b' o' n (ex_del _ _ (k2 _ _ w'))) x hx
        show Dt H'' (.list (ds.set i.toNat (putAt g p x))) (.ref b)
        unfold Dt
        refine ⟨b, vs, rfl, .inl (hH b _ (fun z => hab z.symm) hb), k4 H'' (fun b' o' n w' => hH b' o' (fun z => ?_) (ex_del _ _ w')) _ q⟩
        rw [z, haA] at n
        cases n
      · intro x hx
        rw [hpa]
        obtain ⟨q1, q2⟩ := m5 x hx
        show lim (.list (ds.set i.toNat (putAt g p x))) ∧ nod (.list (ds.set i.toNat (putAt g p x))) + _ = _
        have q3 := nodL_set ds i.toNat (putAt g p x) g hi
        rw [nod_list, nod_list]
        unfold lim
        unfold lim at hlim
        refine ⟨limL_of.mpr fun z hz => ?_, by omega⟩
        rcases List.mem_or_eq_of_mem_set hz with hz | rfl
        · exact limL_of.mp hlim z hz
        · exact q1
    · unfold Tr at h
      obtain ⟨b, es, rfl, hb, nd, hl⟩ := h
      obtain ⟨ha, nds⟩ := tr_ns hl ho nd
      obtain ⟨u, A, k1, k2, k3, k4⟩ := TrK.pick hl ha nds hy
      obtain ⟨w, A', m1, m2, m3, m4, m5⟩ := hole k3 hog he
      refine ⟨w, A', ⟨u, ⟨b, rfl, .inr ⟨es, Sum.inr y, .inl hb, rfl, k1⟩⟩, m1.ex (k2.trans ex_del)⟩, m2.trans (k2.trans ex_del), m3, ?_, ?_⟩
      · rintro a ea ⟨o, hao⟩ H'' hH x hx
        rw [hpa]
        have haA := m2 _ _ hao
        have hab : a ≠ b := fun z => by
          have := k2 _ _ haA
          rw [z, del_same] at this
          cases this
        have q := m4 a ea ⟨o, hao⟩ H'' (fun b' o' n w' => hH b' o' n (ex_del _ _ (k2 _ _ w'))) x hx
        show Dt H'' (.dict (setM kvs y (putAt (getN kvs y) p x))) (.ref b)
        unfold Dt
        refine ⟨b, rfl, .inl ⟨es, .inl (hH b _ (fun z => hab z.symm) hb), nd, k4 H'' (fun b' o' n w' => hH b' o' (fun z => ?_) (ex_del _ _ w')) _ q⟩⟩
        rw [z, haA] at n
        cases n
      · intro x hx
        rw [hpa]
        obtain ⟨q1, q2⟩ := m5 x hx
        show lim (.dict (setM kvs y (putAt (getN kvs y) p x))) ∧ nod (.dict (setM kvs y (putAt (getN kvs y) p x))) + _ = _
        have q3 := nodK_set kvs y (putAt (getN kvs y) p x) nds hy
        rw [nod_dict, nod_dict]
        unfold lim
        unfold lim at hlim
        refine ⟨limK_of.mpr fun z hz => ?_, by omega⟩
        obtain ⟨z0, hz0, rfl⟩ := List.mem_map.mp hz
        have hz1 := limK_of.mp hlim z0 hz0
        by_cases ez : nm z0.1 = y
        · rw [if_pos ez]
          exact ⟨hz1.1, q1⟩
        · rw [if_neg ez]
          exact hz1
end VL

namespace VL
open PySem L2 LW PyProof.Rows
/-! ### names in their order -/
def leS (a b : Str) : Prop := a.cps.toList ≤ b.cps.toList
theorem leS_anti {a b : Str} (h : leS a b) (g : leS b a) : a = b := Str.ext' (Array.toList_inj.mp (List.le_antisymm h g))
theorem rising_pw : ∀ (l : List Str) (p : Str), risingS p l = true → (p :: l).Pairwise leS
  | [], p, _ => List.pairwise_singleton _ _
  | x :: r, p, h => by
    have h' : (!Spec.ltCps x.cps.toList p.cps.toList && risingS x r) = true := h
    rw [Bool.and_eq_true, ltCps_eq] at h'
    have ih := rising_pw r x h'.2
    have h1 : leS p x := by
      have : ¬ x.cps.toList < p.cps.toList := by simpa using h'.1
      exact List.not_lt.mp this
    refine List.Pairwise.cons (fun y hy => ?_) ih
    rcases List.mem_cons.mp hy with rfl | hy
    · exact h1
    · exact List.le_trans h1 ((List.pairwise_cons.mp ih).1 y hy)
theorem sorted_pw {l : List Str} (h : sortedS l = true) : l.Pairwise leS := by
  cases l with
  | nil => exact List.Pairwise.nil
  | cons x r => exact rising_pw r x h
theorem sorted_uniq {xs ys : List Str} (p : xs.Perm ys) (sx : sortedS xs = true) (sy : sortedS ys = true) : xs = ys :=
  p.eq_of_pairwise (fun _ _ _ _ h g => leS_anti h g) (sorted_pw sx) (sorted_pw sy)
noncomputable def srt (l : List Str) : List Str := open Classical in if h : ∃ ys : List Str, ys.Perm l ∧ sortedS ys = true then Classical.choose h else []
theorem srt_of {l ys : List Str} (p : ys.Perm l) (s : sortedS ys = true) : ys = srt l := by
  have h : ∃ ys : List Str, ys.Perm l ∧ sortedS ys = true := ⟨ys, p, s⟩
  unfold srt
  rw [dif_pos h]
  have q := Classical.choose_spec h
  exact sorted_uniq (p.trans q.1.symm) s q.2
/-- children, step by step, in their order -/
noncomputable def kidsOf : PyData → List (V × PyData)
  | .list ds => (List.range ds.length).zipWith (fun (i : Nat) c => (V.int i, c)) ds
  | .dict kvs => (srt (names kvs)).map fun y => (V.str y, getN kvs y)
  | _ => []
theorem kids_eq {d : PyData} {cs : List (V × PyData)} (h : KidsAre d cs) : cs = kidsOf d := by
  cases d with
  | list ds => exact h
  | dict kvs =>
    obtain ⟨ys, p, s, rfl⟩ := h
    show _ = (srt (names kvs)).map fun y => (V.str y, getN kvs y)
    rw [← srt_of p s]
  | _ => exact h
/-! ### all places, in their order -/
noncomputable def pathsN : Nat → PyData → List (List V)
  | 0, _ => []
  | n + 1, d => [] :: (kidsOf d).flatMap fun c => (pathsN n c.2).map (c.1 :: ·)
/-- kids that can be reached -/
def KOk (d : PyData) : Prop := ∀ c ∈ kidsOf d, stepD d c.1 = some c.2
theorem pathsN_eq : ∀ (n m : Nat) (d : PyData), (∀ c ∈ kidsOf d, cnt c.2 < cnt d) → cnt d ≤ n → cnt d ≤ m → (∀ k e, cnt e ≤ k → (∀ c ∈ kidsOf e, cnt c.2 < cnt e)) → pathsN n d = pathsN m d
  | 0, _, d, _, h, _, _ => by have := cnt_pos d; omega
  | _ + 1, 0, d, _, _, h, _ => by have := cnt_pos d; omega
  | n + 1, m + 1, d, hk, h1, h2, ha => by
    show [] :: (kidsOf d).flatMap (fun c => (pathsN n c.2).map (c.1 :: ·)) = [] :: (kidsOf d).flatMap (fun c => (pathsN m c.2).map (c.1 :: ·))
    congr 1
    rw [List.flatMap_def, List.flatMap_def]
    congr 1
    apply List.map_congr_left
    intro c hc
    have := hk c hc
    rw [pathsN_eq n m c.2 (ha (cnt c.2) c.2 (Nat.le_refl _)) (by omega) (by omega) ha]
theorem srt_mem {l : List Str} {y : Str} (h : y ∈ srt l) : y ∈ l := by
  unfold srt at h
  split at h
  · rename_i g
    exact (Classical.choose_spec g).1.mem_iff.mp h
  · cases h
theorem kidsOf_step {d : PyData} {c : V × PyData} (h : c ∈ kidsOf d) : stepD d c.1 = some c.2 := by
  cases d with
  | list ds =>
    obtain ⟨i, hi⟩ := List.mem_iff_getElem?.mp (show c ∈ (List.range ds.length).zipWith (fun (i : Nat) c => (V.int i, c)) ds from h)
    rw [List.getElem?_zipWith] at hi
    by_cases hl : i < ds.length
    · rw [List.getElem?_range hl, List.getElem?_eq_getElem hl] at hi
      have hi : (V.int i, ds[i]) = c := Option.some.inj hi
      rw [← hi]
      show (if (0 : Int) ≤ (i : Int) then ds[(i : Int).toNat]? else none) = some ds[i]
      rw [if_pos (by omega), Int.toNat_natCast, List.getElem?_eq_getElem hl]
    · rw [List.getElem?_eq_none (l := ds) (by omega)] at hi
      cases e : (List.range ds.length)[i]? <;> rw [e] at hi <;> cases hi
  | dict kvs =>
    obtain ⟨y, hy, rfl⟩ := List.mem_map.mp (show c ∈ (srt (names kvs)).map fun y => (V.str y, getN kvs y) from h)
    show (if y ∈ names kvs then some (getN kvs y) else none) = some (getN kvs y)
    rw [if_pos (srt_mem hy)]
  | _ => cases h
theorem kidsOf_cnt {d : PyData} {c : V × PyData} (h : c ∈ kidsOf d) : cnt c.2 < cnt d := cnt_kid (step_kid (kidsOf_step h))
noncomputable def paths (d : PyData) : List (List V) := pathsN (cnt d) d
noncomputable def pathsC (c : V × PyData) : List (List V) := (paths c.2).map (c.1 :: ·)
theorem paths_eq (d : PyData) : paths d = [] :: (kidsOf d).flatMap pathsC := by
  unfold paths
  have e : cnt d = (cnt d - 1) + 1 := by
    have := cnt_pos d
    omega
  rw [e]
  show [] :: (kidsOf d).flatMap (fun c => (pathsN (cnt d - 1) c.2).map (c.1 :: ·)) = _
  congr 1
  rw [List.flatMap_def, List.flatMap_def]
  congr 1
  apply List.map_congr_left
  intro c hc
  have h1 := kidsOf_cnt hc
  show _ = (pathsN (cnt c.2) c.2).map (c.1 :: ·)
  rw [pathsN_eq (cnt d - 1) (cnt c.2) c.2 (fun _ h => kidsOf_cnt h) (by omega) (Nat.le_refl _) (fun _ _ _ _ h => kidsOf_cnt h)]
theorem paths_at : ∀ (n : Nat) (d : PyData), cnt d ≤ n → ∀ p ∈ paths d, ∃ c, At d p c
  | 0, d, h, _, _ => by have := cnt_pos d; omega
  | n + 1, d, h, p, hp => by
    rw [paths_eq] at hp
    rcases List.mem_cons.mp hp with rfl | hp
    · exact ⟨d, rfl⟩
    · obtain ⟨c, hc, hp⟩ := List.mem_flatMap.mp hp
      obtain ⟨q, hq, rfl⟩ := List.mem_map.mp hp
      have h1 := kidsOf_cnt hc
      obtain ⟨e, he⟩ := paths_at n c.2 (by omega) q hq
      exact ⟨e, c.2, kidsOf_step hc, he⟩
/-- every child that a step leads to is among them, if the order is told -/
theorem kidsOf_all {d c : PyData} {s : V} (h : stepD d s = some c) (hs : ∀ kvs, d = .dict kvs → ∃ ys : List Str, ys.Perm (names kvs) ∧ sortedS ys = true) : (s, c) ∈ kidsOf d := by
  rcases step_cases h with ⟨ds, i, rfl, rfl, h0, e⟩ | ⟨kvs, y, rfl, rfl, hy, rfl⟩
  · show (V.int i, c) ∈ (List.range ds.length).zipWith (fun (i : Nat) c => (V.int i, c)) ds
    obtain ⟨hl, _⟩ := List.getElem?_eq_some_iff.mp e
    refine List.mem_of_getElem? (i := i.toNat) ?_
    rw [List.getElem?_zipWith, List.getElem?_range hl, e]
    show some (V.int ((i.toNat : Nat) : Int), c) = _
    rw [show ((i.toNat : Nat) : Int) = i by omega]
  · obtain ⟨ys, p, s⟩ := hs kvs rfl
    show _ ∈ (srt (names kvs)).map fun y => (V.str y, getN kvs y)
    rw [← srt_of p s]
    exact List.mem_map.mpr ⟨y, p.mem_iff.mpr hy, rfl⟩
/-- the head of a value -/
noncomputable def headD : PyData → PyData
  | .dict kvs => .tuple [.str "record", .tuple ((srt (names kvs)).map PyData.str)]
  | .list ds => .tuple [.str "list", .int ds.length]
  | .str x => .tuple [.str "text", .str x]
  | d => .tuple [.str "number", d]
end VL

namespace LW
open PySem PySem.Spec L2
section
variable {X : Cx} {k j : Nat} {x : Str} {sp : Sp} {p pos : Pos} {e : Expr} {es : List Expr} {t : TA} {E : XK}
theorem pe_kP (c : Cal X.prog X.w X.K X.mg X.base (L2.CX X.prog X.w) k x sp) (hr : Room j X.A) (hk : k ≤ j) (hx : Passes (L2.CX X.prog X.w) X E) (hg : Gl X x) (ha : PA X (e :: es) t)
    (hdb : (x == ("__debug__" : Str)) = false := by decide) (he : starEach (e :: es) X.env = (false, eval e X.env) :: starEach es X.env := by rfl) (hpl : (backTo pos (starEach es X.env)).any (·.1) = false := by rfl) :
    PE X (.Call (.Name x p) (e :: es) [] pos) (tCall sp [] E t) := by
  obtain ⟨f, fd, ps, F, hm, kp, b⟩ := c.ex
  exact pe_call F (hr.mono hk) hg hm kp b .nil hx ha hdb he hpl
theorem smK {X : Cx} (K : PySem.W.Frag) (hc : X.calm = true) (h : X.K = K := by rfl) : CallR X (.builtin "sum") (rSum K) := by
  subst h
  exact cr_sum hc
end
/-- a def of which nothing is asked -/
theorem cal_no {P : Program} {w : World} {K : PySem.W.Frag} {mg : Str → Option Value} {base : Heap} {x : Str} {st : Stmt} {N ps : List Str} {k : Nat} {sp : Sp} (F : Df K mg x st) (S : FnScope N ps (defScope st)) (hb : BindsEq x st ps) (no : ∀ vs H Q E, sp vs H Q E → False) : Cal P w K mg base CX0 (k + 1) x sp :=
  cal0 F S hb (fun vs H Q E h => (no vs H Q E h).elim) (fun f cdv A outer s H vs Q E hr h => (no vs H Q E h).elim)
end LW
namespace VL
open PySem PySem.Spec L2 LW
open Evl (Ex)
section
variable {P : Program} {w : World} {K : PySem.W.Frag} {mg : Str → Option Value} {base : Heap} {CI : Addr}
/-! ### InvalidValue -/
theorem sc_InvalidValue___init__ : FnScope ["self", "value"] ["self", "value"] (defScope s_InvalidValue___init__) := ⟨rfl, rfl, rfl, by decide +kernel, rfl, by decide +kernel, by decide +kernel⟩
theorem bi_InvalidValue___init__ : BindsM "__init__" "InvalidValue.__init__" s_InvalidValue___init__ ["self", "value"] := fun _ _ _ _ _ _ us hl => match us, hl with | [_, _], _ => rfl
theorem ok_iinit {f0 : Addr} {fd0 : FuncData} (F : FunD K "__init__" "InvalidValue.__init__" (defArgs s_InvalidValue___init__) (defBody s_InvalidValue___init__) (defScope s_InvalidValue___init__) [] [] f0 fd0) (ox : OexC K CI) (no : PySem.W.findIn K (.ref CI) "value" = some none) :
    FnOk P w K mg base CX0 1 f0 fd0 ["self", "value"] (spXI K CI "value") := by
  refine F.ok sc_InvalidValue___init__ (fun vs H Q E h => ?_) (fun cdv A outer s H vs Q E hr h => ?_)
  · obtain ⟨a, v, rfl, _⟩ := h
    rfl
  · obtain ⟨a, v, rfl, ha, k⟩ := h
    refine ⟨_, PSs.nox (pss_one (ps_ost (pv 0) (pv 1))), ?_⟩
    exact ⟨_, rfl, _, rfl, a, CI, rfl, ox, no, .inl ⟨ha, fun dx h1 h2 => k dx h1 h2⟩⟩
/-! ### check_value -/
def spCheckV (CI : Addr) : Sp := fun vs H Q E => ∃ (v : V) (d : PyData), vs = [v] ∧ Dt H d v ∧ szA d ∧ (isV d = true → ∀ H', Ex H H' → Q .non H') ∧
  (isV d = false → ∀ dd H', Ex H H' → H' dd = some (.xd [("value", v)]) → E (.ref CI) (some dd) H')
theorem sc_check_value : FnScope ["thing"] ["thing"] (defScope s_check_value) := ⟨rfl, rfl, rfl, by decide +kernel, rfl, by decide +kernel, by decide +kernel⟩
theorem bi_check_value : BindsEq "check_value" s_check_value ["thing"] := fun _ _ _ _ _ _ us hl => match us, hl with | [_], _ => rfl
theorem ok_checkv (F : Df K mg "check_value" s_check_value) (T : Txt K mg) (C_is_value : Cal P w K mg base CX0 4 "is_value" spIsVal) (X_InvalidValue : XMk P w K mg base 1 "InvalidValue" CI "value") : Cal P w K mg base (L2.CX P w) 5 "check_value" (spCheckV CI) := by
  refine calX F sc_check_value bi_check_value (fun vs H Q E h => ?_) (fun f cdv A outer s H vs Q E hr h => ?_)
  · obtain ⟨v, d, rfl, _⟩ := h
    rfl
  · obtain ⟨v, d, rfl, hd, hz, k1, k2⟩ := h
    refine ⟨_, (pss_one (ps_if (pt_not (pt_val (pe_k C_is_value hr (by decide) rfl (pa_cons (pv 0) pa_nil)))) (pss_one (ps_raise rfl (takes_of rfl rfl rfl rfl) (pmk_x X_InvalidValue hr (by decide) rfl (pa_cons (pv 0) pa_nil)))) pss_nil)), ?_⟩
    refine ⟨_, rfl, v, d, rfl, hd, hz, fun H1 e1 => ⟨_, rfl, if_b (fun h => ?_) (fun h => ?_)⟩⟩
    · exact ⟨_, rfl, xmk_go fun dd H2 _ e2 hdd => k2 (by simpa using h) dd H2 (e1.trans e2) hdd⟩
    · exact k1 (by simpa using h) H1 e1
/-! ### count -/
def spCount (n : Nat) : Sp := fun vs H Q _ => ∃ (v : V) (d : PyData), vs = [v] ∧ Dt H d v ∧ okA d = true ∧ cnt d ≤ n ∧ ∀ H', Ex H H' → Q (.int (cnt d)) H'
theorem sc_count : FnScope ["value", "step", "child"] ["value"] (defScope s_count) := ⟨rfl, rfl, rfl, by decide +kernel, rfl, by decide +kernel, by decide +kernel⟩
theorem bi_count : BindsEq "count" s_count ["value"] := fun _ _ _ _ _ _ us hl => match us, hl with | [_], _ => rfl
theorem cntL_sum' (ds : List PyData) : ((ds.map fun d => (cnt d : Int)).sum : Int) = (cntL ds : Int) := by
  induction ds with
  | nil => unfold cntL; rfl
  | cons d r ih =>
    rw [List.map_cons, List.sum_cons, ih, show cntL (d :: r) = cnt d + cntL r from by rw [cntL]]
    omega
theorem ok_count (F : Df K mg "count" s_count) (T : Txt K mg) (C_children : Cal P w K mg base CX0 1 "children" spKids) : ∀ n, Cal P w K mg base CX0 (n + 2) "count" (spCount n)
  | 0 => cal_no F sc_count bi_count fun vs H Q E h => by
    obtain ⟨v, d, _, _, _, hc, _⟩ := h
    have := cnt_pos d
    omega
  | n + 1 => by
    have C_count := ok_count F T C_children n
    refine cal0 F sc_count bi_count (fun vs H Q E h => ?_) (fun f cdv A outer s H vs Q E hr h => ?_)
    · obtain ⟨v, d, rfl, _⟩ := h
      rfl
    · obtain ⟨v, d, rfl, hd, ho, hc, k⟩ := h
      refine ⟨_, (pss_one (ps_ret (pe_op op_add pe_int (pe_callB (smK K rfl) rfl T.b_sum (by decide +kernel) (pa_cons (pe_lc (own := [("step", 1), ("child", 2)]) (by rfl) sc_count.nd (pil K (pe_k C_children hr (by omega) rfl (pa_cons (pv 0) pa_nil))) (blkOk_by (own := [("step", 1), ("child", 2)]) (N := ["value", "step", "child"]) (sc := defScope s_count) (by decide +kernel)) (fun _ _ _ _ _ => (pgt (n := 2) K rfl (pgs_cons (pg_name (i := 1) sc_count.nd rfl (Or.inl rfl)) (pgs_cons (pg_name (i := 2) sc_count.nd rfl (Or.inl rfl)) pgs_nil)))) (fun _ _ _ _ _ => pts_nil) (fun _ _ _ _ _ => (pe_k C_count hr (Nat.le_refl _) rfl (pa_cons (pv 2) pa_nil)))) pa_nil))))), ?_⟩
      have ho' := ho
      rw [okA_kids, Bool.and_eq_true] at ho'
      refine ⟨_, rfl, v, d, H, rfl, hd, (fun _ _ h => h), ho'.1, fun q H3 ts cs x3 nq hq hts hcs => ?_⟩
      have hkp := kids_perm hcs (kids_ns hd ho'.1)
      have hkl : cs.length ≤ 60 := by
        have := kids_len ho'.1
        have := hkp.length_eq
        rw [List.length_map] at this
        omega
      have htl : ts.length = cs.length := Paired.len hts
      refine ⟨q, rfl, ⟨_, SqLo hq⟩, fun D nD => lc_gr (walk_list (xs := ts)) (fun i acc _ => acc = (cs.take i).map fun c => V.int (cnt c.2)) nD (by omega) rfl (fun H' e => SqLo (e _ _ hq)) ?_ ?_⟩
      · rintro i x acc H4 H5 hi g g' gD gl rfl ⟨rfl, hx1⟩
        obtain ⟨c, hc1, t, u, rfl, ht, hu⟩ := Paired.get hts hx1
        have hck : c.2 ∈ kids d := hkp.mem_iff.mp (List.mem_map_of_mem (List.mem_of_getElem? hc1))
        refine ⟨t, _, rfl, .inl (rd_ex g ht), rfl, _, _, rfl, _, _, rfl, rfl, rfl, _, rfl, u, c.2, rfl, hu.ex (x3.trans g), okL_mem ho'.2 hck, ?_, fun H6 x6 => lc_put g' gD gl (by omega) x6 ?_⟩
        · have := cnt_kid hck
          omega
        · rw [List.take_add_one, List.map_append, hc1]
          rfl
      · rintro acc H4 g g' gD gl rfl
        have e3 : cs.take ts.length = cs := List.take_of_length_le (by omega)
        rw [e3] at gD
        refine ⟨D, cs.map fun c => (cnt c.2 : Int), rfl, ?_, _, _, rfl, rfl, ?_⟩
        · rw [List.map_map]
          exact SqLo gD
        · have e4 : (1 : Int) + (cs.map fun c => (cnt c.2 : Int)).sum = (cnt d : Int) := by
            have := cntL_sum' (cs.map (·.2))
            rw [List.map_map] at this
            rw [show (cs.map fun c => (cnt c.2 : Int)) = cs.map ((fun d => (cnt d : Int)) ∘ fun x => x.2) from rfl, this, cntL_perm hkp, cnt_kids d]
            omega
          have q := k H4 (x3.trans g)
          rw [← e4] at q
          exact q
/-! ### size -/
def spSize (CI : Addr) : Sp := fun vs H Q E => ∃ (v : V) (d : PyData), vs = [v] ∧ Dt H d v ∧ szA d ∧ (isV d = true → ∀ H', Ex H H' → Q (.int (cnt d)) H') ∧
  (isV d = false → ∀ dd H', Ex H H' → H' dd = some (.xd [("value", v)]) → E (.ref CI) (some dd) H')
theorem sc_size : FnScope ["value"] ["value"] (defScope s_size) := ⟨rfl, rfl, rfl, by decide +kernel, rfl, by decide +kernel, by decide +kernel⟩
theorem bi_size : BindsEq "size" s_size ["value"] := fun _ _ _ _ _ _ us hl => match us, hl with | [_], _ => rfl
theorem ok_size (F : Df K mg "size" s_size) (T : Txt K mg) (C_check_value : Cal P w K mg base (L2.CX P w) 5 "check_value" (spCheckV CI)) (C_count : Cal P w K mg base CX0 62 "count" (spCount 60)) : Cal P w K mg base (L2.CX P w) 63 "size" (spSize CI) := by
  refine calX F sc_size bi_size (fun vs H Q E h => ?_) (fun f cdv A outer s H vs Q E hr h => ?_)
  · obtain ⟨v, d, rfl, _⟩ := h
    rfl
  · obtain ⟨v, d, rfl, hd, hz, k1, k2⟩ := h
    refine ⟨_, (pss_cons (ps_expr (pe_kP C_check_value hr (by decide) (passes_call (takes_of rfl rfl rfl rfl) (fun _ _ _ _ h => h)) rfl (pa_cons (pv 0) pa_nil)))
 (pss_one (ps_ret (pe_k C_count hr (by decide) rfl (pa_cons (pv 0) pa_nil))))), ?_⟩
    refine ⟨_, rfl, v, d, rfl, hd, hz, fun hv H1 e1 => ?_, k2⟩
    have hv' := hv
    unfold isV at hv'
    rw [Bool.and_eq_true] at hv'
    exact ⟨_, rfl, v, d, rfl, hd.ex e1, hv'.1, of_decide_eq_true hv'.2, fun H2 e2 => k1 hv H2 (e1.trans e2)⟩
end
end VL

namespace VL
open PySem PySem.Spec L2 LW
open Evl (Ex)
/-! ### words -/
def low1 (c : Nat) : Prop := 97 ≤ c ∧ c ≤ 122
theorem join_low : ∀ cs : List Nat, (Str.join "" (cs.map fun c => (⟨#[c]⟩ : Str))).cps.toList = cs
  | [] => rfl
  | [c] => rfl
  | c :: d :: r => by
    have ih := join_low (d :: r)
    show ((⟨#[c]⟩ : Str) ++ "" ++ Str.join "" ((d :: r).map fun c => (⟨#[c]⟩ : Str))).cps.toList = _
    rw [Str.cps_append, Array.toList_append, ih]
    rfl
theorem lets_of {x : Str} {a b : Nat} (h1 : a ≤ x.cps.toList.length) (h2 : x.cps.toList.length ≤ b) (h : ∀ c ∈ x.cps.toList, low1 c) : lets x a b = true := by
  rw [Array.length_toList] at h1 h2
  have e1 : a ≤ x.length := h1
  have e2 : x.length ≤ b := h2
  unfold lets low
  rw [decide_eq_true e1, decide_eq_true e2]
  show (true && _) = true
  rw [Bool.true_and]
  refine List.all_eq_true.mpr fun c hc => ?_
  rw [decide_eq_true (h c hc).1, decide_eq_true (h c hc).2]
  rfl
theorem sum_ones (cs : List Nat) : ((cs.map fun c => (⟨#[c]⟩ : Str)).map (·.length)).sum = cs.length := by
  induction cs with
  | nil => rfl
  | cons c r ih =>
    rw [List.map_cons, List.map_cons, List.sum_cons, ih, List.length_cons]
    show 1 + _ = _
    omega
section
variable {P : Program} {w : World} {K : PySem.W.Frag} {mg : Str → Option Value} {base : Heap}
def spWord : Sp := fun vs H Q _ => ∃ (p : Addr) (n : Nat), vs = [.ref p, .int n] ∧ Pool H p ∧ n ≤ 100 ∧ ∀ x H', Ex H H' → lets x n n = true → Q (.str x) H'
theorem sc__law_word : FnScope ["_law_pool", "_law_longest", "_law_letters", "_law_k"] ["_law_pool", "_law_longest"] (defScope s__law_word) := ⟨rfl, rfl, rfl, by decide +kernel, rfl, by decide +kernel, by decide +kernel⟩
theorem bi__law_word : BindsEq "_law_word" s__law_word ["_law_pool", "_law_longest"] := fun _ _ _ _ _ _ us hl => match us, hl with | [_, _], _ => rfl
theorem ok_word (F : Df K mg "_law_word" s__law_word) (T : Txt K mg) (C__law_draw : Cal P w K mg base CX0 1 "_law_draw" spDraw) : Cal P w K mg base CX0 2 "_law_word" spWord := by
  refine cal0 F sc__law_word bi__law_word (fun vs H Q E h => ?_) (fun f cdv A outer s H vs Q E hr h => ?_)
  · obtain ⟨p, n, rfl, _⟩ := h
    rfl
  · obtain ⟨p, n, rfl, hp, hn, k⟩ := h
    refine ⟨_, (pss_cons (ps_set (i := 2) sc__law_word.nd rfl (Or.inr rfl) pe_str)
 (pss_one (ps_ret (pe_join pe_str (pe_lc (own := [("_law_k", 3)]) (by rfl) sc__law_word.nd (pi_range1 rfl T.b_range (pa_cons (pv 1) pa_nil)) (blkOk_by (own := [("_law_k", 3)]) (N := ["_law_pool", "_law_longest", "_law_letters", "_law_k"]) (sc := defScope s__law_word) (by decide +kernel)) (fun _ _ _ _ _ => (pg_name (i := 3) sc__law_word.nd rfl (Or.inl rfl))) (fun _ _ _ _ _ => pts_nil) (fun _ _ _ _ _ => (pe_ix ix_str (pv 2) (pe_k C__law_draw hr (by decide) rfl (pa_cons (pv 0) (pa_cons pe_int pa_nil))) (fun _ _ => rfl)))))))), ?_⟩
    refine ⟨⟨_, rfl⟩, _, rfl, (n : Int), rfl, by omega, by omega, fun D nD => lc_gr walk_range (fun i acc _ => ∃ cs : List Nat, acc = cs.map (fun c => V.str ⟨#[c]⟩) ∧ cs.length = i ∧ ∀ c ∈ cs, low1 c) nD (by omega) ⟨[], rfl, rfl, nofun⟩ (fun _ _ => True.intro) ?_ ?_⟩
    · rintro i x acc H1 H2 hi e e' hD hl ⟨cs, rfl, hcs, hlo⟩ ⟨rfl, rfl⟩
      refine ⟨rfl, _, rfl, _, rfl, p, 26, rfl, hp.ex e, by decide, by decide, fun v v0 v1 => ?_⟩
      obtain ⟨c, hc1, hc2, _⟩ := at_some (xs := ("abcdefghijklmnopqrstuvwxyz" : Str).cps.toList) (v := v) v0 (by
        have e : ("abcdefghijklmnopqrstuvwxyz" : Str).cps.toList.length = 26 := by decide +kernel
        rw [e]
        exact v1)
      have hlow : low1 c := by
        have q := letters_mem c
        rw [decide_eq_true hc2] at q
        have q := (Bool.and_eq_true _ _).mp q.symm
        exact ⟨of_decide_eq_true q.1, of_decide_eq_true q.2⟩
      refine ⟨_, _, c, rfl, rfl, szl (by decide +kernel), hc1, lc_put e' hD hl (by omega) (fun _ _ h => h) ⟨cs ++ [c], ?_, ?_, ?_⟩⟩
      · rw [List.map_append]
        rfl
      · rw [List.length_append, hcs]
        rfl
      · intro z hz
        rcases List.mem_append.mp hz with hz | hz
        · exact hlo z hz
        · cases List.mem_singleton.mp hz
          exact hlow
    · rintro acc H1 e e' hD hl ⟨cs, rfl, hcs, hlo⟩
      have hj := join_low cs
      have hlen : cs.length = n := by omega
      refine ⟨_, D, cs.map fun c => (⟨#[c]⟩ : Str), rfl, rfl, .inl ?_, ?_, ?_⟩
      · rw [List.map_map]
        exact SqLo hD
      · rw [sum_ones, List.length_map]
        show cs.length + cs.length * 0 ≤ _
        omega
      · rw [show Txt.join "" (cs.map fun c => (⟨#[c]⟩ : Str)) = Str.join "" (cs.map fun c => (⟨#[c]⟩ : Str)) from TL.join_eq _ _]
        exact k _ _ e (lets_of (by rw [hj]; omega) (by rw [hj]; omega) (by rw [hj]; exact hlo))
/-! ### leaves -/
def Lf (d : PyData) (v : V) : Prop := (∃ i, d = .int i ∧ v = .int i) ∨ ∃ x, d = .str x ∧ v = .str x
theorem Lf.dt {H : Hp} {d : PyData} {v : V} (h : Lf d v) : Dt H d v := by
  rcases h with ⟨i, rfl, rfl⟩ | ⟨i, rfl, rfl⟩ <;> (unfold Dt; rfl)
theorem Lf.cnt {d : PyData} {v : V} (h : Lf d v) : cnt d = 1 := by
  rcases h with ⟨i, rfl, rfl⟩ | ⟨i, rfl, rfl⟩ <;> rfl
def spLeafV : Sp := fun vs H Q _ => ∃ (p : Addr), vs = [.ref p] ∧ Pool H p ∧ ∀ v d H', Ex H H' → Lf d v → okA d = true → Q v H'
theorem sc__law_leaf : FnScope ["_law_pool", "_law_way"] ["_law_pool"] (defScope s__law_leaf) := ⟨rfl, rfl, rfl, by decide +kernel, rfl, by decide +kernel, by decide +kernel⟩
theorem bi__law_leaf : BindsEq "_law_leaf" s__law_leaf ["_law_pool"] := fun _ _ _ _ _ _ us hl => match us, hl with | [_], _ => rfl
theorem int_ok {i : Int} (h1 : -big < i) (h2 : i < big) : okA (.int i) = true := by
  unfold okA
  show (decide (-big < i) && decide (i < big)) = true
  rw [decide_eq_true h1, decide_eq_true h2]
  rfl
theorem ok_leafv (F : Df K mg "_law_leaf" s__law_leaf) (T : Txt K mg) (C__law_draw : Cal P w K mg base CX0 1 "_law_draw" spDraw) (C__law_word : Cal P w K mg base CX0 2 "_law_word" spWord) : Cal P w K mg base CX0 3 "_law_leaf" spLeafV := by
  refine cal0 F sc__law_leaf bi__law_leaf (fun vs H Q E h => ?_) (fun f cdv A outer s H vs Q E hr h => ?_)
  · obtain ⟨p, rfl, _⟩ := h
    rfl
  · obtain ⟨p, rfl, hp, k⟩ := h
    refine ⟨_, (pss_cons (ps_set (i := 1) sc__law_leaf.nd rfl (Or.inl rfl) (pe_k C__law_draw hr (by decide) rfl (pa_cons (pv 0) (pa_cons pe_int pa_nil))))
 (pss_cons (ps_if (pt_cmpR op_lt (pv 1) pe_int (nomark _)) (pss_one (ps_ret (pe_op op_sub (pe_k C__law_draw hr (by decide) rfl (pa_cons (pv 0) (pa_cons pe_int pa_nil))) pe_int))) pss_nil)
 (pss_cons (ps_if (pt_cmpR op_eq (pv 1) pe_int (nomark _)) (pss_one (ps_ret (pe_op op_add (pe_op op_mul (pe_op op_sub (pe_k C__law_draw hr (by decide) rfl (pa_cons (pv 0) (pa_cons (pe_op op_mul pe_int (pe_op op_pow pe_int pe_int)) pa_nil))) (pe_op op_pow pe_int pe_int)) (pe_op op_pow pe_int pe_int)) (pe_k C__law_draw hr (by decide) rfl (pa_cons (pv 0) (pa_cons (pe_op op_pow pe_int pe_int) pa_nil)))))) pss_nil)
 (pss_cons (ps_if (pt_cmpR op_eq (pv 1) pe_int (nomark _)) (pss_one (ps_ret (pe_ix (ixl K) (pe_lst (pa_cons (pe_op op_sub (pe_op op_pow pe_int pe_int) pe_int) (pa_cons (pe_op op_sub pe_int (pe_op op_pow pe_int pe_int)) pa_nil))) (pe_k C__law_draw hr (by decide) rfl (pa_cons (pv 0) (pa_cons pe_int pa_nil))) (fun _ _ => rfl)))) pss_nil)
 (pss_one (ps_ret (pe_k C__law_word hr (by decide) rfl (pa_cons (pv 0) (pa_cons (pe_ix (ixl K) (pe_lst (pa_cons pe_int (pa_cons pe_int (pa_cons pe_int (pa_cons pe_int (pa_cons pe_int pa_nil)))))) (pe_k C__law_draw hr (by decide) rfl (pa_cons (pv 0) (pa_cons pe_int pa_nil))) (fun _ _ => rfl)) pa_nil))))))))), ?_⟩
    refine ⟨_, rfl, p, 8, rfl, hp, by decide, by decide, fun wy w0 w1 => ?_⟩
    refine ⟨_, rfl, _, _, rfl, rfl, _, rfl, if_b (fun h => ?_) (fun h => ?_)⟩
    · refine ⟨_, rfl, p, 7, rfl, hp, by decide, by decide, fun x x0 x1 => ⟨_, _, rfl, rfl, ?_⟩⟩
      exact k _ _ H (fun _ _ h => h) (.inl ⟨_, rfl, rfl⟩) (int_ok (by unfold big; omega) (by unfold big; omega))
    · refine ⟨_, rfl, rfl, _, rfl, if_b (fun h2 => ?_) (fun h2 => ?_)⟩
      · have c9 : (10 : Int) ^ (9 : Int).toNat = 1000000000 := by decide
        have c20 : (10 : Int) ^ (20 : Int).toNat = 100000000000000000000 := by decide
        have cp : CPow 10 9 := ⟨by decide, by decide, by decide⟩
        have cp2 : CPow 10 20 := ⟨by decide, by decide, by decide⟩
        refine ⟨_, rfl, _, _, rfl, rfl, cp, _, _, rfl, rfl, .inl ⟨by decide, by decide⟩, p, _, rfl, hp, by decide, by decide, fun x x0 x1 => ?_⟩
        refine ⟨_, _, rfl, rfl, cp, _, _, rfl, rfl, _, _, rfl, rfl, cp2, _, _, rfl, rfl, ?_, _, rfl, _, _, rfl, rfl, cp, p, _, rfl, hp, by decide, by decide, fun y y0 y1 => ⟨_, _, rfl, rfl, ?_⟩⟩
        · rw [c9]
          rw [c9] at x1
          exact .inl ⟨by omega, by omega⟩
        · rw [c9] at x1 y1
          rw [c9, c20]
          exact k _ _ H (fun _ _ h => h) (.inl ⟨_, rfl, rfl⟩) (int_ok (by unfold big; omega) (by unfold big; omega))
      · refine ⟨_, rfl, rfl, _, rfl, if_b (fun h3 => ?_) (fun h3 => ?_)⟩
        · have c30 : (10 : Int) ^ (30 : Int).toNat = big := by decide
          have cp3 : CPow 10 30 := ⟨by decide, by decide, by decide⟩
          refine ⟨_, _, rfl, rfl, cp3, _, _, rfl, rfl, _, _, rfl, rfl, cp3, _, _, rfl, rfl, szl (by show 2 ≤ 100000; decide), fun p1 np1 => ?_⟩
          obtain ⟨H1, hH1, x0_1, h1⟩ := newH _ np1
          rw [hH1]
          clear hH1
          have f1 := np1
          refine ⟨_, rfl, p, 2, rfl, hp.ex x0_1, by decide, by decide, fun x x0 x1 => ?_⟩
          obtain ⟨z, hz1, hz2, _⟩ := at_some (xs := [V.int ((10 : Int) ^ (30 : Int).toNat - 1), V.int (1 - (10 : Int) ^ (30 : Int).toNat)]) (v := x) x0 x1
          refine ⟨p1, _, _, _, rfl, rfl, SqLo h1, hz1, ?_⟩
          rw [c30] at hz2
          rcases List.mem_cons.mp hz2 with rfl | hz2
          · exact k _ _ _ x0_1 (.inl ⟨_, rfl, rfl⟩) (int_ok (by unfold big; omega) (by unfold big; omega))
          · cases List.mem_singleton.mp hz2
            exact k _ _ _ x0_1 (.inl ⟨_, rfl, rfl⟩) (int_ok (by unfold big; omega) (by unfold big; omega))
        · refine ⟨_, rfl, szl (by show 5 ≤ 100000; decide), fun p1 np1 => ?_⟩
          obtain ⟨H1, hH1, x0_1, h1⟩ := newH _ np1
          rw [hH1]
          clear hH1
          have f1 := np1
          refine ⟨_, rfl, p, 5, rfl, hp.ex x0_1, by decide, by decide, fun x x0 x1 => ?_⟩
          obtain ⟨z, hz1, hz2, _⟩ := at_some (xs := [V.int 0, V.int 1, V.int 2, V.int 3, V.int 20]) (v := x) x0 x1
          have hz3 : ∃ n : Nat, z = .int n ∧ n ≤ 20 := by
            simp only [List.mem_cons, List.not_mem_nil, or_false] at hz2
            rcases hz2 with rfl | rfl | rfl | rfl | rfl
            · exact ⟨0, rfl, by decide⟩
            · exact ⟨1, rfl, by decide⟩
            · exact ⟨2, rfl, by decide⟩
            · exact ⟨3, rfl, by decide⟩
            · exact ⟨20, rfl, by decide⟩
          obtain ⟨n, rfl, hn⟩ := hz3
          refine ⟨p1, _, _, _, rfl, rfl, SqLo h1, hz1, p, n, rfl, hp.ex x0_1, by omega, fun x H' e hx => ?_⟩
          refine k _ _ _ (x0_1.trans e) (.inr ⟨x, rfl, rfl⟩) ?_
          unfold okA
          unfold lets at hx
          rw [Bool.and_eq_true, Bool.and_eq_true] at hx
          have hx1 := of_decide_eq_true hx.1.2
          show (decide (0 ≤ x.length) && decide (x.length ≤ 20) && low x) = true
          rw [decide_eq_true (Nat.zero_le _), decide_eq_true (by omega), hx.2]
          rfl
end
end VL

namespace VL
open PySem PySem.Spec L2 LW
open Evl (Ex)
/-! ### putting into a record -/
def putP (kvs : List (PyData × PyData)) (y : Str) (x : PyData) : List (PyData × PyData) := if y ∈ names kvs then setM kvs y x else kvs ++ [(.str y, x)]
theorem cntK_set : ∀ (kvs : List (PyData × PyData)) (y : Str) (x : PyData), (names kvs).Nodup → y ∈ names kvs → cntK (setM kvs y x) + cnt (getN kvs y) = cntK kvs + cnt x
  | [], y, x, _, h => by cases h
  | (k, d) :: r, y, x, nd, h => by
    have nd' : (nm k :: names r).Nodup := nd
    obtain ⟨n1, n2⟩ := List.nodup_cons.mp nd'
    have h' : y ∈ nm k :: names r := h
    show cntK ((if nm k = y then (k, x) else (k, d)) :: setM r y x) + cnt (if nm k = y then d else getN r y) = _
    by_cases e : nm k = y
    · rw [if_pos e, if_pos e, setM_no (e ▸ n1)]
      rw [cntK, cntK]
      omega
    · rw [if_neg e, if_neg e]
      have hy : y ∈ names r := by
        rcases List.mem_cons.mp h' with q | q
        · exact (e q.symm).elim
        · exact q
      have := cntK_set r y x n2 hy
      rw [cntK, cntK]
      omega
theorem cntK_app (xs : List (PyData × PyData)) (k d : PyData) : cntK (xs ++ [(k, d)]) = cntK xs + cnt d := by
  rw [cntK_eq, cntK_eq, List.map_append, cntL_app]
  show _ + cntL [d] = _
  rw [cntL, cntL]
  omega
theorem putP_cnt (kvs : List (PyData × PyData)) (y : Str) (x : PyData) (nd : (names kvs).Nodup) : cntK (putP kvs y x) ≤ cntK kvs + cnt x := by
  unfold putP
  split
  · rename_i h
    have := cntK_set kvs y x nd h
    omega
  · rw [cntK_app]
    omega
theorem putP_len (kvs : List (PyData × PyData)) (y : Str) (x : PyData) : (putP kvs y x).length ≤ kvs.length + 1 := by
  unfold putP
  split
  · unfold setM
    rw [List.length_map]
    omega
  · rw [List.length_append]
    exact Nat.le_refl _
theorem putP_fld {kvs : List (PyData × PyData)} {y : Str} {x : PyData} (h : ∀ p ∈ kvs, fld p.1 = true) (hy : fld (.str y) = true) : ∀ p ∈ putP kvs y x, fld p.1 = true := by
  intro p hp
  unfold putP at hp
  split at hp
  · obtain ⟨z, hz, rfl⟩ := List.mem_map.mp hp
    split <;> exact h z hz
  · rcases List.mem_append.mp hp with hp | hp
    · exact h p hp
    · cases List.mem_singleton.mp hp
      exact hy
theorem okK_mem {kvs : List (PyData × PyData)} : okK kvs = true ↔ ∀ p ∈ kvs, okA p.2 = true := by
  rw [okK_eq, okL_all, List.all_eq_true]
  constructor
  · exact fun h p hp => h p.2 (List.mem_map_of_mem hp)
  · intro h d hd
    obtain ⟨p, hp, rfl⟩ := List.mem_map.mp hd
    exact h p hp
theorem putP_ok {kvs : List (PyData × PyData)} {y : Str} {x : PyData} (h : okK kvs = true) (hx : okA x = true) : okK (putP kvs y x) = true := by
  rw [okK_mem] at h ⊢
  intro p hp
  unfold putP at hp
  split at hp
  · obtain ⟨z, hz, rfl⟩ := List.mem_map.mp hp
    split
    · exact hx
    · exact h z hz
  · rcases List.mem_append.mp hp with hp | hp
    · exact h p hp
    · cases List.mem_singleton.mp hp
      exact hx
theorem allStr_fld {kvs : List (PyData × PyData)} (h : ∀ p ∈ kvs, fld p.1 = true) : AllStr kvs := fun p hp => by
  have q := h p hp
  cases e : p.1 with
  | str x => rfl
  | _ => rw [e] at q; cases q
theorem DtK.app1 {H : Hp} {k d : PyData} {x : Key} {v : V} (hk : k = kD x) (q : Dt H d v) : ∀ {kvs : List (PyData × PyData)} {es : List (Key × V)}, DtK H kvs es → DtK H (kvs ++ [(k, d)]) (es ++ [(x, v)])
  | [], _, h => by
    unfold DtK at h
    subst h
    refine DtK.cons hk q ?_
    unfold DtK
    rfl
  | (k0, d0) :: r, _, h => by
    unfold DtK at h
    obtain ⟨z, u, t, rfl, hk0, h1, h2⟩ := h
    exact DtK.cons hk0 h1 (DtK.app1 hk q h2)
theorem val_no {H : Hp} {kvs : List (PyData × PyData)} {es : List (Key × V)} (h : DtK H kvs es) (ha : AllStr kvs) {y : Str} (hy : y ∉ names kvs) : valV es (Sum.inr y : Key) = none := by
  have e := dtk_names h ha
  cases q : valV es (Sum.inr y : Key) with
  | none => rfl
  | some v =>
    exfalso
    unfold valV at q
    cases f : es.find? fun kv => decide (kv.1 = (Sum.inr y : Key)) with
    | none =>
      rw [f] at q
      cases q
    | some p =>
      have h1 := List.mem_of_find?_eq_some f
      have h2 := List.find?_some f
      have h3 : p.1 = (Sum.inr y : Key) := of_decide_eq_true h2
      have h4 : (Sum.inr y : Key) ∈ es.map (·.1) := by
        rw [← h3]
        exact List.mem_map_of_mem h1
      rw [e] at h4
      obtain ⟨z, hz, hz2⟩ := List.mem_map.mp h4
      cases hz2
      exact hy hz
theorem dtk_putP {H : Hp} {y : Str} {x : PyData} {u : V} {kvs : List (PyData × PyData)} {es : List (Key × V)} (q : Dt H x u) (h : DtK H kvs es) (ha : AllStr kvs) (nd : (es.map (·.1)).Nodup) :
    DtK H (putP kvs y x) (putK es (Sum.inr y) u) ∧ ((putK es (Sum.inr y : Key) u).map (·.1)).Nodup := by
  unfold putP
  by_cases hy : y ∈ names kvs
  · rw [if_pos hy]
    obtain ⟨v, hv, _⟩ := dtk_get h ha y hy
    refine ⟨DtK.put q h ha hy, ?_⟩
    rw [putK_keys (by rw [hv]; rfl)]
    exact nd
  · rw [if_neg hy]
    have hv := val_no h ha hy
    rw [putK_new u hv]
    refine ⟨DtK.app1 (k := .str y) (x := Sum.inr y) rfl q h, ?_⟩
    rw [List.map_append, List.nodup_append]
    refine ⟨nd, by simp, fun a ha' b hb => ?_⟩
    cases List.mem_singleton.mp hb
    rw [dtk_names h ha] at ha'
    obtain ⟨z, hz, rfl⟩ := List.mem_map.mp ha'
    exact fun e => hy (Sum.inr.inj e ▸ hz)
/-! ### _law_value -/
section
variable {P : Program} {w : World} {K : PySem.W.Frag} {mg : Str → Option Value} {base : Heap}
def spValue (n : Nat) : Sp := fun vs H Q _ => ∃ (pl ro : Addr) (r dp : Nat), vs = [.ref pl, .ref ro, .int dp] ∧ dp < n ∧ Pool H pl ∧ H ro = some (.lst [.int r]) ∧ r ≤ 59 ∧
  ∀ v d (r' : Nat) H', Ex (upd H ro (.lst [.int r'])) H' → Dt (fr H H') d v → okA d = true → cnt d + r' ≤ 1 + r → Q v H'
/-- the heap of the run: the room has changed, a new object stands at D -/
structure Rm (H Hi : Hp) (ro D : Addr) (o : HO) (r : Nat) : Prop where
  ex : Ex (upd H ro (.lst [.int r])) (del Hi D)
  hD : Hi D = some o
theorem Rm.next {H Hi H4 : Hp} {ro D : Addr} {o o' : HO} {r r' : Nat} {u : HO} (h : Rm H Hi ro D o r) (hro : H ro = some u) (nD : H D = none) (e : Ex (upd Hi ro (.lst [.int r'])) H4) : Rm H (upd H4 D o') ro D o' r' ∧ Ex (fr H (del Hi D)) (fr H (del (upd H4 D o') D)) ∧ Ex (fr Hi H4) (fr H (del (upd H4 D o') D)) ∧ H4 D = some o := by
  have ne : D ≠ ro := fun z => by rw [z, hro] at nD; cases nD
  have dm : ∀ b, Hi b = none → H b = none := fun b hb => by
    cases q : H b with
    | none => rfl
    | some x =>
      by_cases eb : b = ro
      · have := h.ex ro _ upd_same
        rw [eb] at hb
        rw [ex_del _ _ this] at hb
        cases hb
      · have := ex_del _ _ (h.ex b x (by rw [upd_ne eb]; exact q))
        rw [hb] at this
        cases this
  refine ⟨⟨fun b x q => ?_, upd_same⟩, fun b x q => ?_, fun b x q => ?_, ?_⟩
  · rw [del_upd]
    by_cases eb : b = ro
    · subst eb
      rw [upd_same] at q
      cases q
      exact del_get (e _ _ upd_same) (fun z => ne z.symm)
    · rw [upd_ne eb] at q
      have q1 := h.ex b x (by rw [upd_ne eb]; exact q)
      have eD : b ≠ D := fun z => by rw [z, del_same] at q1; cases q1
      exact del_get (e b x (by rw [upd_ne eb]; exact ex_del _ _ q1)) eD
  · obtain ⟨n, q⟩ := fr_some q
    have eD : b ≠ D := fun z => by rw [z, del_same] at q; cases q
    have eb : b ≠ ro := fun z => by rw [z, hro] at n; cases n
    rw [del_upd]
    exact fr_get n (del_get (e b x (by rw [upd_ne eb]; exact ex_del _ _ q)) eD)
  · obtain ⟨n, q⟩ := fr_some q
    have eD : b ≠ D := fun z => by rw [z, h.hD] at n; cases n
    rw [del_upd]
    exact fr_get (dm b n) (del_get q eD)
  · exact e _ _ (by rw [upd_ne ne]; exact h.hD)
theorem Rm.grow {H Hi H4 : Hp} {ro D : Addr} {o : HO} {r : Nat} (h : Rm H Hi ro D o r) (e : Ex Hi H4) : Rm H H4 ro D o r := ⟨h.ex.trans (del_grow' e), e _ _ h.hD⟩
theorem Rm.ro {H Hi : Hp} {ro D : Addr} {o : HO} {r : Nat} (h : Rm H Hi ro D o r) : Hi ro = some (.lst [.int r]) := ex_del _ _ (h.ex _ _ upd_same)
theorem Rm.old {H Hi : Hp} {ro D a : Addr} {o u : HO} {r : Nat} (h : Rm H Hi ro D o r) (q : H a = some u) (ne : a ≠ ro) : Hi a = some u := ex_del _ _ (h.ex _ _ (by rw [upd_ne ne]; exact q))
theorem upd_id {H : Hp} {a : Addr} {o : HO} (h : H a = some o) : upd H a o = H := by
  funext b
  by_cases hb : b = a
  · rw [hb, upd_same, h]
  · rw [upd_ne hb]
theorem at_heap {f : Hp → Prop} {A B : Hp} (e : A = B) (h : f B) : f A := e ▸ h
theorem fld_str {y : Str} (h : lets y 1 8 = true) : fld (.str y) = true := h
theorem sc__law_value : FnScope ["_law_pool", "_law_room", "_law_deep", "_law_way", "_law_many", "_law_k", "_law_found", "_law_name"] ["_law_pool", "_law_room", "_law_deep"] (defScope s__law_value) := ⟨rfl, rfl, rfl, by decide +kernel, rfl, by decide +kernel, by decide +kernel⟩
theorem bi__law_value : BindsEq "_law_value" s__law_value ["_law_pool", "_law_room", "_law_deep"] := fun _ _ _ _ _ _ us hl => match us, hl with | [_, _, _], _ => rfl
theorem ok_value (F : Df K mg "_law_value" s__law_value) (T : Txt K mg) (C__law_draw : Cal P w K mg base CX0 1 "_law_draw" spDraw) (C__law_word : Cal P w K mg base CX0 2 "_law_word" spWord) (C__law_leaf : Cal P w K mg base CX0 3 "_law_leaf" spLeafV) :
    ∀ n, Cal P w K mg base CX0 (n + 4) "_law_value" (spValue n)
  | 0 => cal_no F sc__law_value bi__law_value fun vs H Q E h => by
    obtain ⟨pl, ro, r, dp, _, hc, _⟩ := h
    omega
  | n + 1 => by
    have C__law_value := ok_value F T C__law_draw C__law_word C__law_leaf n
    refine cal0 F sc__law_value bi__law_value (fun vs H Q E h => ?_) (fun f cdv A outer s H vs Q E hr h => ?_)
    · obtain ⟨pl, ro, r, dp, rfl, _⟩ := h
      rfl
    · obtain ⟨pl, ro, r, dp, rfl, hdp, hp, hro, hr59, k⟩ := h
      have hu : (A.deeper (PyProof.Rows.envOfC "_law_value" (defScope s__law_value) s.heap.objs.size f cdv)).units + 1 < cLine := by have := hr.un; omega
      refine ⟨_, (pss_cons (ps_set (i := 3) sc__law_value.nd rfl (Or.inl rfl) (pe_k C__law_draw hr (by omega) rfl (pa_cons (pv 0) (pa_cons pe_int pa_nil))))
 (pss_cons (ps_set (i := 4) sc__law_value.nd rfl (Or.inl rfl) (pe_callB (call_min2 rfl) rfl T.b_min (by decide +kernel) (pa_cons (pe_callTy call_int1 rfl T.b_int (by decide +kernel) (pa_cons (pe_k C__law_draw hr (by omega) rfl (pa_cons (pv 0) (pa_cons pe_int pa_nil))) pa_nil)) (pa_cons (pe_callTy call_int1 rfl T.b_int (by decide +kernel) (pa_cons (pe_ix (ixl K) (pv 1) pe_int (fun _ _ => rfl)) pa_nil)) pa_nil))))
 (pss_cons (ps_if (PW.pt (pw_or (pt_cmpR op_eq (pv 2) pe_int (nomark _)) (pw_or1 (pt_cmpR op_lt (pv 3) pe_int (nomark _))))) (pss_one (ps_ret (pe_k C__law_leaf hr (by omega) rfl (pa_cons (pv 0) pa_nil)))) pss_nil)
 (pss_cons (ps_asg (pe_op op_sub (pe_ix (ixl K) (pv 1) pe_int (fun _ _ => rfl)) (pv 4)) (pg_sub (pv 1) pe_int set_list))
 (pss_cons (ps_if (pt_cmpR op_eq (pv 3) pe_int (nomark _)) (pss_one (ps_ret (pe_lc (own := [("_law_k", 5)]) (by rfl) sc__law_value.nd (pi_range1 rfl T.b_range (pa_cons (pv 4) pa_nil)) (blkOk_by (own := [("_law_k", 5)]) (N := ["_law_pool", "_law_room", "_law_deep", "_law_way", "_law_many", "_law_k", "_law_found", "_law_name"]) (sc := defScope s__law_value) (by decide +kernel)) (fun _ _ _ _ _ => (pg_name (i := 5) sc__law_value.nd rfl (Or.inl rfl))) (fun _ _ _ _ _ => pts_nil) (fun _ _ _ _ _ => (pe_k C__law_value hr (by omega) rfl (pa_cons (pv 0) (pa_cons (pv 1) (pa_cons (pe_op op_sub (pv 2) pe_int) pa_nil)))))))) pss_nil)
 (pss_cons (ps_set (i := 6) sc__law_value.nd rfl (Or.inl rfl) pe_dnewK)
 (pss_cons (ps_for PassesOwn.never rfl (pi_range1 rfl T.b_range (pa_cons (pv 4) pa_nil)) (pg_name (i := 5) sc__law_value.nd rfl (Or.inl rfl)) (pss_cons (ps_set (i := 7) sc__law_value.nd rfl (Or.inl rfl) (pe_ix (ixl K) (pe_lst (pa_cons (pe_ix (ixl K) (pe_lst (pa_cons pe_str (pa_cons pe_str (pa_cons pe_str (pa_cons pe_str pa_nil))))) (pv 5) (fun _ _ => rfl)) (pa_cons (pe_k C__law_word hr (by omega) rfl (pa_cons (pv 0) (pa_cons pe_int pa_nil))) pa_nil))) (pe_k C__law_draw hr (by omega) rfl (pa_cons (pv 0) (pa_cons pe_int pa_nil))) (fun _ _ => rfl)))
 (pss_one (ps_dput hu (pv 6) (pv 7) (pe_k C__law_value hr (by omega) rfl (pa_cons (pv 0) (pa_cons (pv 1) (pa_cons (pe_op op_sub (pv 2) pe_int) pa_nil)))) rfl))))
 (pss_one (ps_ret (pv 6)))))))))), ?_⟩
      refine ⟨_, rfl, pl, 4, rfl, hp, by decide, by decide, fun wy w0 w1 => ?_⟩
      refine ⟨_, rfl, pl, 5, rfl, hp, by decide, by decide, fun my m0 m1 => ?_⟩
      refine .inl ⟨_, rfl, _, rfl, ro, _, _, _, rfl, rfl, SqLo hro, (show atI [V.int r] 0 = some (.int r) from rfl), .inl ⟨_, rfl, _, _, rfl, ?_⟩⟩
      obtain ⟨m, hm, hm4, hmr⟩ : ∃ m : Nat, (if (r : Int) < my then (r : Int) else my) = m ∧ m ≤ 4 ∧ m ≤ r := by
        split
        · exact ⟨r, rfl, by omega, Nat.le_refl _⟩
        · exact ⟨my.toNat, by omega, by omega, by omega⟩
      rw [hm]
      have pr : pl ≠ ro := fun z => by
        have q := hp
        rw [z] at q
        rw [show H ro = some (poolO ro) from q] at hro
        cases hro
      have cast : dp ≠ 0 → (dp : Int) - 1 = ((dp - 1 : Nat) : Int) := fun h => by omega
      have leafGo : ∀ v d H', Ex H H' → Lf d v → okA d = true → Q v H' := fun v d H' e hl ho => k v d r H' (by rw [upd_id hro]; exact e) hl.dt ho (by rw [hl.cnt]; omega)
      refine ⟨_, rfl, rfl, _, rfl, if_b (fun h => ?_) (fun h => ?_)⟩
      · exact if_t rfl ⟨_, rfl, pl, rfl, hp, leafGo⟩
      · have dp0 : dp ≠ 0 := fun z => by
          rw [z] at h
          cases h
        refine ⟨_, rfl, _, _, rfl, rfl, _, rfl, if_b (fun h1 => ?_) (fun h1 => ?_)⟩
        · exact ⟨_, rfl, pl, rfl, hp, leafGo⟩
        refine ⟨_, rfl, ro, _, _, _, rfl, rfl, SqLo hro, (show atI [V.int r] 0 = some (.int r) from rfl), _, rfl, _, _, rfl, rfl, _, rfl, ro, _, _, 0, rfl, rfl, hro, rfl, ?_⟩
        refine at_heap (B := upd H ro (.lst [.int ((r - m : Nat) : Int)])) ?_ ?_
        · show upd H ro (HO.lst [V.int ((r : Int) - (m : Int))]) = _
          rw [show ((r : Int) - (m : Int)) = ((r - m : Nat) : Int) by omega]
        refine ⟨_, rfl, rfl, _, rfl, if_b (fun h2 => ?_) (fun h2 => ?_)⟩
        · -- a list
          refine ⟨_, rfl, (m : Int), rfl, by omega, by omega, fun D nD => ?_⟩
          have nD0 : H D = none := by
            by_cases e : D = ro
            · rw [e, upd_same] at nD
              cases nD
            · rw [upd_ne e] at nD
              exact nD
          refine lc_it walk_range (fun i Hi => ∃ acc ds ri, Rm H Hi ro D (.lst acc) ri ∧ DtL (fr H (del Hi D)) ds acc ∧ okL ds = true ∧ ds.length = i ∧ cntL ds + ri ≤ i + (r - m)) ?_ (fun _ _ _ _ => True.intro) ?_ ?_
          · refine ⟨[], [], r - m, ⟨?_, upd_same⟩, DtL.nil, rfl, rfl, by rw [cntL]; omega⟩
            rw [del_none nD]
            exact fun _ _ h => h
          · rintro i x Hi H2 hi ⟨acc, ds, ri, rm, hdl, hok, hlen, hcn⟩ ⟨rfl, rfl⟩
            have hl := hdl.len
            refine ⟨rfl, _, rfl, _, rfl, _, rfl, _, _, rfl, rfl, pl, ro, ri, dp - 1, ?_, by omega, rm.old hp pr, rm.ro, by omega, fun v d r'' H4 e4 hdt ho hc => ?_⟩
            · show [V.ref pl, V.ref ro, V.int ((dp : Int) - 1)] = _
              rw [cast dp0]
            · obtain ⟨n1, n2, n3, n4⟩ := rm.next (o' := .lst (acc ++ [v])) hro nD0 e4
              refine ⟨acc, n4, szlt (by omega), acc ++ [v], ds ++ [d], r'', n1, ?_, ?_, ?_, ?_⟩
              · exact DtL.app (hdl.ex n2) (DtL.cons (hdt.ex n3) DtL.nil)
              · rw [okL_app, hok, Bool.true_and, okL, okL, ho]
                rfl
              · rw [List.length_append, hlen]
                rfl
              · rw [cntL_app, cntL, cntL]
                omega
          · rintro Hi ⟨acc, ds, ri, rm, hdl, hok, hlen, hcn⟩
            refine k _ (.list ds) ri Hi (rm.ex.trans ex_del) ?_ ?_ ?_
            · unfold Dt
              exact ⟨D, acc, rfl, .inl (fr_get nD0 rm.hD), hdl.ex (fr_mono ex_del)⟩
            · unfold okA
              rw [hok, Bool.and_true]
              exact decide_eq_true (by omega)
            · rw [cnt]
              omega
        · -- a record
          intro D nD
          have nD0 : H D = none := by
            by_cases e : D = ro
            · rw [e, upd_same] at nD
              cases nD
            · rw [upd_ne e] at nD
              exact nD
          refine ⟨_, rfl, (m : Int), rfl, by omega, by omega, for_it walk_range (fun i σ' Hi => ∃ es kvs ri o5 o7, σ' = [some (.ref pl), some (.ref ro), some (.int dp), some (.int wy), some (.int m), o5, some (.ref D), o7] ∧ Rm H Hi ro D (.dK es) ri ∧ DtK (fr H (del Hi D)) kvs es ∧ (es.map (·.1)).Nodup ∧ (∀ p ∈ kvs, fld p.1 = true) ∧ okK kvs = true ∧ kvs.length ≤ i ∧ cntK kvs + ri ≤ i + (r - m)) ?_ (fun _ _ _ _ _ => True.intro) ?_ ?_⟩
          · refine ⟨[], [], r - m, none, none, rfl, ⟨?_, upd_same⟩, by unfold DtK; rfl, List.nodup_nil, nofun, rfl, Nat.le_refl _, by rw [cntK]; omega⟩
            rw [del_none nD]
            exact fun _ _ h => h
          · rintro i x σ' Hi H2 hi ⟨es, kvs, ri, o5, o7, rfl, rm, hdk, hnd, hfl, hok, hlen, hcn⟩ ⟨rfl, rfl⟩
            have hpi := rm.old hp pr
            refine ⟨szl (by show 4 ≤ 100000; decide), fun p1 np1 => ?_⟩
            obtain ⟨Ha, hHa, xa, ha⟩ := newH _ np1
            rw [hHa]
            clear hHa
            obtain ⟨z, hz1, hz2, _⟩ := at_some (xs := [V.str "b", V.str "a", V.str "ab", V.str "zz"]) (v := 0 + (i : Int)) (by omega) (by show (0 + (i : Int)) < 4; omega)
            have hz3 : ∃ y : Str, z = .str y ∧ fld (.str y) = true := by
              simp only [List.mem_cons, List.not_mem_nil, or_false] at hz2
              rcases hz2 with rfl | rfl | rfl | rfl
              · exact ⟨_, rfl, by decide +kernel⟩
              · exact ⟨_, rfl, by decide +kernel⟩
              · exact ⟨_, rfl, by decide +kernel⟩
              · exact ⟨_, rfl, by decide +kernel⟩
            obtain ⟨y1, rfl, hy1⟩ := hz3
            refine ⟨_, rfl, p1, _, _, _, rfl, rfl, SqLo ha, hz1, _, rfl, pl, 8, rfl, Pool.ex hpi xa, by decide, fun y2 Hb xb hy2 => ?_⟩
            have hf2 : fld (.str y2) = true := by
              unfold lets at hy2
              rw [Bool.and_eq_true, Bool.and_eq_true] at hy2
              have a1 := of_decide_eq_true hy2.1.1
              show (decide (1 ≤ y2.length) && decide (y2.length ≤ 8) && low y2) = true
              rw [decide_eq_true (by omega), hy2.1.2, hy2.2]
              rfl
            refine ⟨szl (by show 2 ≤ 100000; decide), fun p2 np2 => ?_⟩
            obtain ⟨Hc, hHc, xc, hc2⟩ := newH _ np2
            rw [hHc]
            clear hHc
            refine ⟨_, rfl, pl, 2, rfl, Pool.ex hpi (xa.trans (xb.trans xc)), by decide, by decide, fun u u0 u1 => ?_⟩
            obtain ⟨z, hz1, hz2, _⟩ := at_some (xs := [V.str y1, V.str y2]) (v := u) u0 u1
            have hz3 : ∃ y : Str, z = .str y ∧ fld (.str y) = true := by
              simp only [List.mem_cons, List.not_mem_nil, or_false] at hz2
              rcases hz2 with rfl | rfl
              · exact ⟨_, rfl, hy1⟩
              · exact ⟨_, rfl, hf2⟩
            obtain ⟨y, rfl, hy⟩ := hz3
            refine ⟨p2, _, _, _, rfl, rfl, SqLo hc2, hz1, ?_⟩
            have xi := xa.trans (xb.trans xc)
            have rmc := rm.grow xi
            refine ⟨_, rfl, _, rfl, _, rfl, _, _, rfl, rfl, pl, ro, ri, dp - 1, ?_, by omega, rmc.old hp pr, rmc.ro, by omega, fun v d r'' H4 e4 hdt ho hc => ?_⟩
            · show [V.ref pl, V.ref ro, V.int ((dp : Int) - 1)] = _
              rw [cast dp0]
            · obtain ⟨n1, n2, n3, n4⟩ := rmc.next (o' := .dK (putK es (Sum.inr y) v)) hro nD0 e4
              have hal := allStr_fld hfl
              have n2' := (fr_mono (H := H) (del_grow' (p := D) xi)).trans n2
              obtain ⟨q1, q2⟩ := dtk_putP (y := y) (hdt.ex n3) (hdk.ex n2') hal hnd
              have hkl : es.length = kvs.length := DtK.len hdk
              refine ⟨_, rfl, _, rfl, D, _, rfl, DPut.k (k := Sum.inr y) n4 (szlt (by omega)), _, putP kvs y d, r'', _, _, rfl, n1, q1, q2, putP_fld hfl hy, putP_ok hok ho, ?_, ?_⟩
              · have := putP_len kvs y d
                omega
              · have := putP_cnt kvs y d (nodup_names hdk hal hnd)
                omega
          · rintro σ' Hi ⟨es, kvs, ri, o5, o7, rfl, rm, hdk, hnd, hfl, hok, hlen, hcn⟩
            refine ⟨_, rfl, k _ (.dict kvs) ri Hi (rm.ex.trans ex_del) ?_ ?_ ?_⟩
            · unfold Dt
              exact ⟨D, rfl, .inl ⟨es, .inl (fr_get nD0 rm.hD), hnd, hdk.ex (fr_mono ex_del)⟩⟩
            · unfold okA
              rw [hok, Bool.and_true]
              show (decide (kvs.length ≤ 8) && kvs.all fun p => fld p.1) = true
              rw [decide_eq_true (by omega), Bool.true_and]
              exact List.all_eq_true.mpr hfl
            · rw [cnt]
              omega
end
end VL

namespace VL
open PySem PySem.Spec L2 LW
open Evl (Ex)
/-- a statement while a dict is locked: the heaps agree but there -/
theorem lockA_eq {t : TS} {D : Ends} {σ : L2.St} {H : Hp} {a : Addr} {u : HO} (hu : L2.Rd H a u) (mu : Mut (some u))
    (body : ∀ (Hf : Hp) (o : Obj) (D' : Ends) (th : Hp → Hp), (∀ b, b ≠ a → Hf b = H b) → Hf a = some (.frz o u) → RdX H Hf → (∀ H' b, b ≠ a → th H' b = H' b) → (∀ H', H' a = some (.frz o u) → th H' a = H a ∧ RdX H' (th H')) →
      (∀ v H', H' a = some (.frz o u) → D.rt v (th H') → D'.rt v H') → (∀ σ' H', H' a = some (.frz o u) → D.nx σ' (th H') → D'.nx σ' H') → t D' σ Hf) : tLockA t D σ H := by
  rcases hu with h | ⟨o, h⟩
  · left
    have nf : NF u := fun o' u' z => by
      rw [z] at mu
      exact mu
    refine ⟨a, u, h, mu, fun od => body _ od _ (fun H' => upd H' a u) (fun b hb => upd_ne hb) upd_same (rdx_lock h nf) (fun H' b hb => upd_ne hb) ?_ ?_ ?_⟩
    · intro H' e
      exact ⟨upd_same.trans h.symm, rdx_free e⟩
    · intro v H' e q
      exact ⟨e, q⟩
    · intro v H' e q
      exact ⟨e, q⟩
  · right
    exact body H o D (fun H' => H') (fun _ _ => rfl) h (fun _ _ _ h => h) (fun _ _ _ => rfl) (fun H' e => ⟨e.trans h.symm, fun _ _ _ h => h⟩) (fun _ _ _ q => q) (fun _ _ _ q => q)
theorem catA_of {K : PySem.W.Frag} {H : Hp} {Q : VK} {a b : Addr} {xs ys : List V} (hx : L2.Rd H a (.tup xs)) (hy : L2.Rd H b (.tup ys)) (ny : ys ≠ []) (hz : xs.length + ys.length ≤ 100000) (k : ∀ p H', Ex H H' → L2.Rd H' p (.tup (xs ++ ys)) → Q (.ref p) H') : rCatA K (.ref a) (.ref b) H Q := by
  refine ⟨a, b, xs, ys, rfl, rfl, .inl hx, .inl hy, szl hz, fun e => ?_, fun _ e => (ny e).elim, fun _ _ p np => k p _ (Ex.new np) (.inl upd_same)⟩
  subst e
  exact k b H (fun _ _ h => h) hy
/-- a place told below another -/
def PlaceAt (H : Hp) (p0 : List V) (d : PyData) (x : V) : Prop := ∃ b p c, x = .ref b ∧ L2.Rd H b (.tup (p0 ++ p)) ∧ At d p c
theorem PlaceAt.rdx {H H' : Hp} (e : RdX H H') {p0 : List V} {d : PyData} {x : V} (h : PlaceAt H p0 d x) : PlaceAt H' p0 d x := by
  obtain ⟨b, p, c, rfl, h1, h2⟩ := h
  exact ⟨b, p, c, rfl, e _ _ nf_tup h1, h2⟩
theorem PlaceAt.ex {H H' : Hp} (e : Ex H H') {p0 : List V} {d : PyData} {x : V} (h : PlaceAt H p0 d x) : PlaceAt H' p0 d x := h.rdx (rdx_ex e)
theorem PlaceAt.up {H : Hp} {p0 : List V} {d c : PyData} {s x : V} (hs : stepD d s = some c) (h : PlaceAt H (p0 ++ [s]) c x) : PlaceAt H p0 d x := by
  obtain ⟨b, p, e, rfl, h1, h2⟩ := h
  refine ⟨b, s :: p, e, rfl, ?_, ⟨c, hs, h2⟩⟩
  rw [List.append_assoc] at h1
  exact h1
section
variable {P : Program} {w : World} {K : PySem.W.Frag} {mg : Str → Option Value} {base : Heap}
/-! ### _law_below -/
def spBelow (n : Nat) : Sp := fun vs H Q _ => ∃ (v : V) (d : PyData) (t : Addr) (p0 : List V), vs = [v, .ref t] ∧ L2.Rd H t (.tup p0) ∧ Dt H d v ∧ okA d = true ∧ cnt d ≤ n ∧ p0.length + cnt d ≤ 200 ∧
  ∀ q H' ts, Ex H H' → H' q = some (.lst ts) → ts.length = cnt d → (∀ x ∈ ts, PlaceAt H' p0 d x) → Q (.ref q) H'
theorem sc__law_below : FnScope ["_law_value_here", "_law_spot", "_law_found", "_law_k", "_law_name", "_law_one"] ["_law_value_here", "_law_spot"] (defScope s__law_below) := ⟨rfl, rfl, rfl, by decide +kernel, rfl, by decide +kernel, by decide +kernel⟩
theorem bi__law_below : BindsEq "_law_below" s__law_below ["_law_value_here", "_law_spot"] := fun _ _ _ _ _ _ us hl => match us, hl with | [_, _], _ => rfl
theorem ok_below (F : Df K mg "_law_below" s__law_below) (T : Txt K mg) : ∀ n, Cal P w K mg base CX0 (n + 1) "_law_below" (spBelow n)
  | 0 => cal_no F sc__law_below bi__law_below fun vs H Q E h => by
    obtain ⟨v, d, t, p0, _, _, _, _, hc, _⟩ := h
    have := cnt_pos d
    omega
  | n + 1 => by
    have C__law_below := ok_below F T n
    refine cal0 F sc__law_below bi__law_below (fun vs H Q E h => ?_) (fun f cdv A outer s H vs Q E hr h => ?_)
    · obtain ⟨v, d, t, p0, rfl, _⟩ := h
      rfl
    · obtain ⟨v, d, t, p0, rfl, ht, hd, ho, hc, hpl, k⟩ := h
      refine ⟨_, (pss_cons (ps_set (i := 2) sc__law_below.nd rfl (Or.inl rfl) (pe_lst (pa_cons (pv 1) pa_nil)))
 (pss_cons (ps_if (pt_val (pe_callB (isD K) rfl T.b_isinstance (by decide +kernel) (pa_cons (pv 0) (pa_cons (pe_bltn (v := .ty "list") rfl T.b_list (by decide +kernel) rfl) pa_nil)))) (pss_one (ps_for PassesOwn.never rfl (pi_range1 rfl T.b_range (pa_cons (pe_callB (lnA K) rfl T.b_len (by decide +kernel) (pa_cons (pv 0) pa_nil)) pa_nil)) (pg_name (i := 3) sc__law_below.nd rfl (Or.inl rfl)) (pss_one (ps_set (i := 2) sc__law_below.nd rfl (Or.inl rfl) (pe_op op_cat (pv 2) (pe_k C__law_below hr (by omega) rfl (pa_cons (pe_ix (ixA K) (pv 0) (pv 3) (fun _ _ => rfl)) (pa_cons (pe_op op_catA (pv 1) (pe_tup (pa_cons (pv 3) pa_nil))) pa_nil)))))))) pss_nil)
 (pss_cons (ps_if (pt_val (pe_callB (isD K) rfl T.b_isinstance (by decide +kernel) (pa_cons (pv 0) (pa_cons (pe_bltn (v := .ty "dict") rfl T.b_dict (by decide +kernel) rfl) pa_nil)))) (pss_one (ps_lockA (ps_for PassesOwn.never rfl (pil K (pe_callB (srK K) rfl T.b_sorted (by decide +kernel) (pa_cons (pe_lc (own := [("_law_one", 5)]) (by rfl) sc__law_below.nd (pi_ka (pv 0)) (blkOk_by (own := [("_law_one", 5)]) (N := ["_law_value_here", "_law_spot", "_law_found", "_law_k", "_law_name", "_law_one"]) (sc := defScope s__law_below) (by decide +kernel)) (fun _ _ _ _ _ => (pg_name (i := 5) sc__law_below.nd rfl (Or.inl rfl))) (fun _ _ _ _ _ => pts_nil) (fun _ _ _ _ _ => (pe_callTy strS rfl T.b_str (by decide +kernel) (pa_cons (pv 5) pa_nil)))) pa_nil))) (pg_name (i := 4) sc__law_below.nd rfl (Or.inl rfl)) (pss_one (ps_set (i := 2) sc__law_below.nd rfl (Or.inl rfl) (pe_op op_cat (pv 2) (pe_k C__law_below hr (by omega) rfl (pa_cons (pe_ix (ixA K) (pv 0) (pv 4) (fun _ _ => rfl)) (pa_cons (pe_op op_catA (pv 1) (pe_tup (pa_cons (pv 4) pa_nil))) pa_nil))))))))) pss_nil)
 (pss_one (ps_ret (pv 2)))))), ?_⟩
      refine ⟨_, rfl, szl (by show 1 ≤ 100000; decide), fun p1 np1 => ?_⟩
      obtain ⟨H1, hH1, x0_1, h1⟩ := newH _ np1
      rw [hH1]
      clear hH1
      have f1 := np1
      have ho' := ho
      rw [okA_kids, Bool.and_eq_true] at ho'
      have hsp : PlaceAt H1 p0 d (.ref t) := ⟨t, [], d, rfl, by rw [List.append_nil]; exact rd_ex x0_1 ht, rfl⟩
      cases d with
      | list ds =>
        refine ⟨v, rfl, v, _, _, true, rfl, hd.ex x0_1, rfl, _, rfl, if_t rfl ?_⟩
        have hd2 := hd
        unfold Dt at hd2
        obtain ⟨a, xs, rfl, hax, hl⟩ := hd2
        have hlen := hl.len
        have h60 : ds.length < 60 := of_decide_eq_true ho'.1
        refine ⟨_, rfl, .inl ⟨_, xs.length, rfl, .inl ⟨xs, .inl (rd_ex x0_1 hax), rfl⟩, _, rfl, by omega, by omega, for_it walk_range (fun i σ' Hi => ∃ q ts o3, σ' = [some (.ref a), some (.ref t), some (.ref q), o3, none, none] ∧ Ex H1 Hi ∧ Hi q = some (.lst ts) ∧ ts.length = 1 + cntL (ds.take i) ∧ ∀ x ∈ ts, PlaceAt Hi p0 (.list ds) x) ?_ (fun _ _ _ _ _ => True.intro) ?_ ?_⟩⟩
        · exact ⟨p1, _, none, rfl, fun _ _ h => h, h1, rfl, fun x hx => by
            cases List.mem_singleton.mp hx
            exact hsp⟩
        · rintro i x σ' Ho Hi hi ⟨q, ts, o3, rfl, e, hq, htl, hts⟩ ⟨rfl, rfl⟩
          have hi' : i < xs.length := by
            have : i < ((xs.length : Nat) : Int).toNat := hi
            omega
          obtain ⟨u, hu1, _, hu3⟩ := at_some (xs := xs) (v := 0 + (i : Int)) (by omega) (by omega)
          have hti : (0 + (i : Int)).toNat = i := by omega
          rw [hti] at hu3
          obtain ⟨c, hc1, hcd⟩ := hl.get hu3
          have x0i : Ex H Hi := x0_1.trans e
          have hstep : stepD (.list ds) (V.int (0 + (i : Int))) = some c := by
            show (if (0 : Int) ≤ 0 + (i : Int) then ds[(0 + (i : Int)).toNat]? else none) = some c
            rw [if_pos (by omega), hti]
            exact hc1
          have hkid : c ∈ ds := List.mem_of_getElem? hc1
          have hcc : cnt c < cnt (.list ds) := cnt_kid (d := .list ds) hkid
          have htk : cntL (ds.take (i + 1)) = cntL (ds.take i) + cnt c := by
            rw [List.take_add_one, hc1, cntL_app]
            show _ + cntL [c] = _
            rw [cntL, cntL]
            omega
          have hsub : cntL (ds.take (i + 1)) ≤ cntL ds := by
            conv => rhs; rw [← List.take_append_drop (i + 1) ds]
            rw [cntL_app]
            omega
          have hcl : cnt (.list ds) = 1 + cntL ds := by rw [cnt]
          refine ⟨_, rfl, _, rfl, _, rfl, .inl ⟨a, xs, _, u, rfl, rfl, .inl (rd_ex x0i hax), hu1, _, rfl, _, rfl, szl (by show 1 ≤ 100000; decide), fun p2 np2 => ?_⟩⟩
          have x2 : Ex Hi (upd Hi p2 (.tup [V.int (0 + (i : Int))])) := Ex.new np2
          refine catA_of (rd_ex (x0i.trans x2) ht) (.inl upd_same) (by simp) (by show p0.length + 1 ≤ 100000; omega) fun z Hz xz hz => ?_
          have x0z := x0i.trans (x2.trans xz)
          refine ⟨u, c, z, _, rfl, hz, hcd.ex x0z, okL_mem ho'.2 hkid, by omega, by rw [List.length_append]; show p0.length + 1 + _ ≤ _; omega, fun q2 H4 ts2 x4 hq2 hl2 hp2 => ?_⟩
          have xi4 := x2.trans (xz.trans x4)
          refine ⟨q, q2, ts, ts2, rfl, rfl, xi4 _ _ hq, hq2, szl (by omega), fun p3 np3 => ?_⟩
          refine ⟨p3, ts ++ ts2, _, rfl, e.trans (xi4.trans (Ex.new np3)), upd_same, ?_, fun x hx => ?_⟩
          · rw [List.length_append, htl, hl2, htk]
            omega
          · rcases List.mem_append.mp hx with hx | hx
            · exact (hts x hx).ex (xi4.trans (Ex.new np3))
            · exact ((hp2 x hx).up hstep).ex (Ex.new np3)
        · rintro σ' Hi ⟨q, ts, o3, rfl, e, hq, htl, hts⟩
          refine ⟨_, rfl, .ref a, _, _, false, rfl, hd.ex (x0_1.trans e), rfl, _, rfl, if_f rfl ⟨_, rfl, k q Hi ts (x0_1.trans e) hq ?_ hts⟩⟩
          rw [htl, cnt]
          have e3 : ds.take ((xs.length : Nat) : Int).toNat = ds := List.take_of_length_le (by omega)
          have e4 : ds.take (Int.toNat (xs.length : Int)) = ds := e3
          rw [e4]
      | dict kvs =>
        refine ⟨v, rfl, v, _, _, false, rfl, hd.ex x0_1, rfl, _, rfl, if_f rfl ?_⟩
        refine ⟨v, rfl, v, _, _, true, rfl, hd.ex x0_1, rfl, _, rfl, if_t rfl ?_⟩
        obtain ⟨ha, hlen⟩ := allStr_of ho'.1
        obtain ⟨a, es, rfl, hae, nd, hk⟩ := dict_val hd ha
        have hnm := dtk_names hk ha
        have hks := names_kV hnm
        have hln : (names kvs).length = kvs.length := by
          unfold names
          rw [List.length_map]
        have hae1 := rd_ex x0_1 hae
        have na : p1 ≠ a := fun z => by
          obtain ⟨oo, q⟩ := rd_some hae
          rw [← z, f1] at q
          cases q
        refine lockA_eq hae1 True.intro ?_
        intro Hf o D' th hof hf rx hth hta _ kn
        have rx0 : RdX H Hf := (rdx_ex x0_1).trans rx
        have hkf := hk.rdx rx0
        have h1f : Hf p1 = some (.lst [.ref t]) := by
          rw [hof _ na]
          exact h1
        have htf : L2.Rd Hf t (.tup p0) := rx0 _ _ nf_tup ht
        refine ⟨_, rfl, a, o, _, (names kvs).map V.str, rfl, hf, .inl ⟨es, rfl, hks.symm⟩, fun D1 nD1 => lc_gr walk_ka (fun i acc _ => acc = ((names kvs).take i).map V.str) nD1 (by rw [List.length_map]; omega) rfl (fun H' e => e _ _ hf) ?_ ?_⟩
        · rintro i x acc Ho Hi hi e e' hD hl rfl ⟨rfl, hx1⟩
          obtain ⟨y, hy, rfl⟩ : ∃ y, (names kvs)[i]? = some y ∧ V.str y = x := by
            rw [List.getElem?_map] at hx1
            cases hp : (names kvs)[i]? with
            | none => rw [hp] at hx1; cases hx1
            | some p => rw [hp] at hx1; exact ⟨p, rfl, Option.some.inj hx1⟩
          refine ⟨rfl, _, rfl, y, rfl, lc_put e' hD hl (by rw [List.length_map] at hi; omega) (fun _ _ h => h) ?_⟩
          rw [List.take_add_one, List.map_append, hy]
          rfl
        · rintro acc H2 e e' hD hl rfl
          have e1 : (names kvs).take ((names kvs).map V.str).length = names kvs := List.take_of_length_le (by rw [List.length_map]; exact Nat.le_refl _)
          rw [e1] at hD
          refine ⟨D1, names kvs, rfl, SqLo hD, by omega, fun ys py pp sy np => ?_⟩
          have xf3 : Ex Hf (upd H2 py (.lst (ys.map V.str))) := e.trans (Ex.new np)
          have hyl : ys.length = kvs.length := by rw [pp.length_eq, hln]
          have hkp : (ys.map fun y => getN kvs y).Perm (kvs.map (·.2)) := by
            have q := kids_perm (d := .dict kvs) (cs := ys.map fun y => (V.str y, getN kvs y)) ⟨ys, pp, sy, rfl⟩ (fun kvs' e => by cases e; exact ⟨ha, nodup_names hk ha nd⟩)
            rw [List.map_map] at q
            exact q
          refine ⟨py, rfl, ⟨_, SqLo upd_same⟩, for_it (walk_list (K := K) (a := py) (xs := ys.map V.str)) (fun i σ' Hi => ∃ q ts o4, σ' = [some (.ref a), some (.ref t), some (.ref q), none, o4, none] ∧ Ex (upd H2 py (.lst (ys.map V.str))) Hi ∧ Hi q = some (.lst ts) ∧ ts.length = 1 + cntL ((ys.take i).map fun y => getN kvs y) ∧ ∀ x ∈ ts, PlaceAt Hi p0 (.dict kvs) x) ?_ ?_ ?_ ?_⟩
          · refine ⟨p1, _, none, rfl, fun _ _ h => h, xf3 _ _ h1f, rfl, fun x hx => ?_⟩
            cases List.mem_singleton.mp hx
            exact (hsp.rdx rx).ex xf3
          · rintro i σ' Hi _ ⟨q, ts, o4, _, x3, _⟩
            exact SqLo (x3 _ _ upd_same)
          · rintro i x σ' Ho Hi hi ⟨q, ts, o4, rfl, x3, hq, htl, hts⟩ ⟨rfl, hx1⟩
            obtain ⟨y, hy, rfl⟩ : ∃ y, ys[i]? = some y ∧ V.str y = x := by
              rw [List.getElem?_map] at hx1
              cases hp : ys[i]? with
              | none => rw [hp] at hx1; cases hx1
              | some p => rw [hp] at hx1; exact ⟨p, rfl, Option.some.inj hx1⟩
            have hym : y ∈ names kvs := pp.mem_iff.mp (List.mem_of_getElem? hy)
            obtain ⟨u, hu1, hu2⟩ := dtk_get hkf ha y hym
            have xfi : Ex Hf Hi := xf3.trans x3
            have hstep : stepD (.dict kvs) (V.str y) = some (getN kvs y) := by
              show (if y ∈ names kvs then some (getN kvs y) else none) = _
              rw [if_pos hym]
            have hkid := step_kid hstep
            have hcc : cnt (getN kvs y) < cnt (.dict kvs) := cnt_kid hkid
            have htk : cntL ((ys.take (i + 1)).map fun y => getN kvs y) = cntL ((ys.take i).map fun y => getN kvs y) + cnt (getN kvs y) := by
              rw [List.take_add_one, hy, List.map_append, cntL_app]
              show _ + cntL [getN kvs y] = _
              rw [cntL, cntL]
              omega
            have hsub : cntL ((ys.take (i + 1)).map fun y => getN kvs y) ≤ cntK kvs := by
              rw [cntK_eq, ← cntL_perm hkp]
              conv => rhs; rw [← List.take_append_drop (i + 1) ys]
              rw [List.map_append, cntL_app]
              omega
            have hcl : cnt (.dict kvs) = 1 + cntK kvs := by rw [cnt]
            refine ⟨_, rfl, _, rfl, _, rfl, .inr ⟨a, es, Sum.inr y, u, rfl, rfl, .inr ⟨o, xfi _ _ hf⟩, hu1, _, rfl, _, rfl, szl (by show 1 ≤ 100000; decide), fun p2 np2 => ?_⟩⟩
            have x2 : Ex Hi (upd Hi p2 (.tup [V.str y])) := Ex.new np2
            refine catA_of (rd_ex (xfi.trans x2) htf) (.inl upd_same) (by simp) (by show p0.length + 1 ≤ 100000; omega) fun z Hz xz hz => ?_
            refine ⟨u, _, z, _, rfl, hz, hu2.ex (xfi.trans (x2.trans xz)), okL_mem ho'.2 hkid, by omega, by rw [List.length_append]; show p0.length + 1 + _ ≤ _; omega, fun q2 H4 ts2 x4 hq2 hl2 hp2 => ?_⟩
            have xi4 := x2.trans (xz.trans x4)
            refine ⟨q, q2, ts, ts2, rfl, rfl, xi4 _ _ hq, hq2, szl (by omega), fun p3 np3 => ?_⟩
            refine ⟨p3, ts ++ ts2, _, rfl, x3.trans (xi4.trans (Ex.new np3)), upd_same, ?_, fun x hx => ?_⟩
            · rw [List.length_append, htl, hl2, htk]
              omega
            · rcases List.mem_append.mp hx with hx | hx
              · exact (hts x hx).ex (xi4.trans (Ex.new np3))
              · exact ((hp2 x hx).up hstep).ex (Ex.new np3)
          · rintro σ' Hi ⟨q, ts, o4, rfl, x3, hq, htl, hts⟩
            have xfi : Ex Hf Hi := xf3.trans x3
            have hai := xfi _ _ hf
            refine kn _ Hi hai ?_
            obtain ⟨t1, t2⟩ := hta Hi hai
            have hqa : q ≠ a := fun z => by
              rw [z, hai] at hq
              cases hq
            refine ⟨_, rfl, k q _ ts ?_ ?_ ?_ fun x hx => (hts x hx).rdx t2⟩
            · intro b oo hb
              by_cases eb : b = a
              · rw [eb, t1]
                rw [eb] at hb
                exact x0_1 _ _ hb
              · rw [hth _ _ eb]
                exact xfi _ _ (by rw [hof _ eb]; exact x0_1 _ _ hb)
            · rw [hth _ _ hqa]
              exact hq
            · rw [htl, cnt]
              have e3 : ys.take (ys.map V.str).length = ys := List.take_of_length_le (by rw [List.length_map]; exact Nat.le_refl _)
              rw [e3, cntL_perm hkp, cntK_eq]
      | _ =>
        refine ⟨v, rfl, v, _, _, false, rfl, hd.ex x0_1, rfl, _, rfl, if_f rfl ?_⟩
        refine ⟨v, rfl, v, _, _, false, rfl, hd.ex x0_1, rfl, _, rfl, if_f rfl ⟨_, rfl, k p1 _ _ x0_1 h1 rfl fun x hx => ?_⟩⟩
        cases List.mem_singleton.mp hx
        exact hsp
end
end VL

namespace VL
open PySem PySem.Spec L2 LW
open Evl (Ex)
/-! ### _law_twin -/
theorem tr_leaf {H : Hp} {d : PyData} {v : V} (h : Dt H d v) (ho : okA d = true) (h1 : ∀ ds, d ≠ .list ds) (h2 : ∀ kvs, d ≠ .dict kvs) (A : Hp) : Tr d A v := by
  cases d with
  | list ds => exact (h1 ds rfl).elim
  | dict kvs => exact (h2 kvs rfl).elim
  | int i =>
    unfold Dt at h
    unfold Tr
    exact h
  | str i =>
    unfold Dt at h
    unfold Tr
    exact h
  | _ => cases ho
theorem fr_out {H Hc : Hp} {D : Addr} : Ex (fr H (del Hc D)) (del (fr H Hc) D) := fun b o q => by
  obtain ⟨n, q⟩ := fr_some q
  have e : b ≠ D := fun z => by
    rw [z, del_same] at q
    cases q
  exact del_get (fr_get n (ex_del _ _ q)) e
theorem fr_apart {H H3 H4 : Hp} {D : Addr} : Apart (fr H (del H3 D)) (fr H3 H4) := fun b => by
  cases e : fr H (del H3 D) b with
  | none => exact .inl rfl
  | some o =>
    right
    have q := ex_del _ _ (fr_some e).2
    cases e2 : fr H3 H4 b with
    | none => rfl
    | some o2 =>
      rw [(fr_some e2).1] at q
      cases q
theorem fr_in {H H3 H4 : Hp} {D : Addr} {o : HO} (hD : H3 D = some o) (dm : ∀ b, H3 b = none → H b = none) : Ex (fr H3 H4) (fr H (del H4 D)) := fun b x q => by
  obtain ⟨n, q⟩ := fr_some q
  refine fr_get (dm b n) (del_get q fun z => ?_)
  rw [z, hD] at n
  cases n
theorem val_keys {es : List (Key × V)} {k : Key} (h : k ∉ es.map (·.1)) : valV es k = none := by
  unfold valV
  rw [List.find?_eq_none.mpr fun p hp q => h (List.mem_map.mpr ⟨p, hp, of_decide_eq_true q⟩)]
  rfl
theorem kvs_at {kvs : List (PyData × PyData)} (ha : AllStr kvs) (nd : (names kvs).Nodup) {i : Nat} {y : Str} (h : (names kvs)[i]? = some y) : kvs[i]? = some (.str y, getN kvs y) := by
  conv => lhs; rw [← getN_self ha nd]
  rw [List.getElem?_map, h]
  rfl
theorem nodup_take {ys : List Str} (nd : ys.Nodup) {i : Nat} {y : Str} (h : ys[i]? = some y) : y ∉ ys.take i := by
  intro hm
  obtain ⟨j, hj⟩ := List.mem_iff_getElem?.mp hm
  have hji : j < i := by
    by_cases q : j < i
    · exact q
    · rw [List.getElem?_eq_none (by rw [List.length_take]; omega)] at hj
      cases hj
  rw [List.getElem?_take_of_lt hji] at hj
  obtain ⟨h1, e1⟩ := List.getElem?_eq_some_iff.mp h
  obtain ⟨h2, e2⟩ := List.getElem?_eq_some_iff.mp hj
  exact (List.pairwise_iff_getElem.mp nd) j i h2 h1 hji (by rw [e1, e2])
section
variable {P : Program} {w : World} {K : PySem.W.Frag} {mg : Str → Option Value} {base : Heap}
def spTwin (n : Nat) : Sp := fun vs H Q _ => ∃ (v : V) (d : PyData), vs = [v] ∧ Dt H d v ∧ okA d = true ∧ cnt d ≤ n ∧ ∀ u H', Ex H H' → Tr d (fr H H') u → Q u H'
theorem sc__law_twin : FnScope ["_law_value_here", "_law_found", "_law_name", "_law_one"] ["_law_value_here"] (defScope s__law_twin) := ⟨rfl, rfl, rfl, by decide +kernel, rfl, by decide +kernel, by decide +kernel⟩
theorem bi__law_twin : BindsEq "_law_twin" s__law_twin ["_law_value_here"] := fun _ _ _ _ _ _ us hl => match us, hl with | [_], _ => rfl
theorem ok_twin (F : Df K mg "_law_twin" s__law_twin) (T : Txt K mg) : ∀ n, Cal P w K mg base CX0 (n + 1) "_law_twin" (spTwin n)
  | 0 => cal_no F sc__law_twin bi__law_twin fun vs H Q E h => by
    obtain ⟨v, d, _, _, _, hc, _⟩ := h
    have := cnt_pos d
    omega
  | n + 1 => by
    have C__law_twin := ok_twin F T n
    refine cal0 F sc__law_twin bi__law_twin (fun vs H Q E h => ?_) (fun f cdv A outer s H vs Q E hr h => ?_)
    · obtain ⟨v, d, rfl, _⟩ := h
      rfl
    · obtain ⟨v, d, rfl, hd, ho, hc, k⟩ := h
      have hu : (A.deeper (PyProof.Rows.envOfC "_law_twin" (defScope s__law_twin) s.heap.objs.size f cdv)).units + 1 < cLine := by have := hr.un; omega
      refine ⟨_, (pss_cons (ps_if (pt_val (pe_callB (isD K) rfl T.b_isinstance (by decide +kernel) (pa_cons (pv 0) (pa_cons (pe_bltn (v := .ty "list") rfl T.b_list (by decide +kernel) rfl) pa_nil)))) (pss_one (ps_ret (pe_lc (own := [("_law_one", 3)]) (by rfl) sc__law_twin.nd (pil K (pv 0)) (blkOk_by (own := [("_law_one", 3)]) (N := ["_law_value_here", "_law_found", "_law_name", "_law_one"]) (sc := defScope s__law_twin) (by decide +kernel)) (fun _ _ _ _ _ => (pg_name (i := 3) sc__law_twin.nd rfl (Or.inl rfl))) (fun _ _ _ _ _ => pts_nil) (fun _ _ _ _ _ => (pe_k C__law_twin hr (by omega) rfl (pa_cons (pv 3) pa_nil)))))) pss_nil)
 (pss_cons (ps_if (pt_val (pe_callB (isD K) rfl T.b_isinstance (by decide +kernel) (pa_cons (pv 0) (pa_cons (pe_bltn (v := .ty "dict") rfl T.b_dict (by decide +kernel) rfl) pa_nil)))) (pss_cons (ps_set (i := 1) sc__law_twin.nd rfl (Or.inl rfl) pe_dnewK)
 (pss_cons (ps_lockA (ps_for PassesOwn.never rfl (pi_ka (pv 0)) (pg_name (i := 2) sc__law_twin.nd rfl (Or.inl rfl)) (pss_one (ps_dput hu (pv 1) (pv 2) (pe_k C__law_twin hr (by omega) rfl (pa_cons (pe_ix (ixA K) (pv 0) (pv 2) (fun _ _ => rfl)) pa_nil)) rfl))))
 (pss_one (ps_ret (pv 1))))) pss_nil)
 (pss_one (ps_ret (pv 0))))), ?_⟩
      have ho' := ho
      rw [okA_kids, Bool.and_eq_true] at ho'
      cases d with
      | list ds =>
        refine ⟨v, rfl, v, _, _, true, rfl, hd, rfl, _, rfl, if_t rfl ?_⟩
        unfold Dt at hd
        obtain ⟨a, xs, rfl, hax, hl⟩ := hd
        have hlen := hl.len
        have h60 : ds.length < 60 := of_decide_eq_true ho'.1
        refine ⟨_, rfl, a, rfl, ⟨_, .inl hax⟩, fun D nD => lc_gr (walk_list (K := K) (a := a) (xs := xs)) (fun i acc Hc => TrL (ds.take i) (fr H Hc) acc) nD (by omega) (by unfold TrL; rfl) (fun H' e => .inl (rd_ex e hax)) ?_ ?_⟩
        · rintro i x acc Ho Hi hi e e' hD hl' hr' ⟨rfl, hx1⟩
          obtain ⟨c, hc1, hcd⟩ := hl.get hx1
          have hkid : c ∈ ds := List.mem_of_getElem? hc1
          have hcc : cnt c < cnt (.list ds) := cnt_kid (d := .list ds) hkid
          refine ⟨rfl, _, rfl, x, c, rfl, hcd.ex e, okL_mem ho'.2 hkid, by omega, fun u H4 e4 htr => lc_put e' hD hl' (by omega) e4 ?_⟩
          rw [List.take_add_one, hc1]
          exact TrL.snoc hr' htr fr_apart (fr_mono (del_grow' e4)) (fr_in hD (fun b hb => ex_free e hb))
        · rintro acc Hi e e' hD hl' hr'
          have e3 : ds.take xs.length = ds := List.take_of_length_le (by omega)
          rw [e3] at hr'
          refine k (.ref D) Hi e ?_
          unfold Tr
          exact ⟨D, acc, rfl, fr_get nD hD, hr'.ex fr_out⟩
      | dict kvs =>
        refine ⟨v, rfl, v, _, _, false, rfl, hd, rfl, _, rfl, if_f rfl ?_⟩
        refine ⟨v, rfl, v, _, _, true, rfl, hd, rfl, _, rfl, if_t rfl ?_⟩
        obtain ⟨ha, hlen⟩ := allStr_of ho'.1
        obtain ⟨a, es, rfl, hae, nd, hk⟩ := dict_val hd ha
        have hnm := dtk_names hk ha
        have hks := names_kV hnm
        have nds := nodup_names hk ha nd
        have hln : (names kvs).length = kvs.length := by
          unfold names
          rw [List.length_map]
        intro D nD
        have x01 : Ex H (upd H D (.dK [])) := Ex.new nD
        have na : D ≠ a := fun z => by
          obtain ⟨oo, q⟩ := rd_some hae
          rw [← z, nD] at q
          cases q
        refine lockA_eq (rd_ex x01 hae) True.intro ?_
        intro Hf o D' th hof hf rx hth hta _ kn
        have rx0 : RdX H Hf := (rdx_ex x01).trans rx
        have hDf : Hf D = some (.dK []) := by
          rw [hof _ na]
          exact upd_same
        have dmf : ∀ b x, H b = some x → ∃ y, Hf b = some y := fun b x q => by
          by_cases e : b = a
          · rw [e]
            exact ⟨_, hf⟩
          · rw [hof _ e]
            exact ⟨x, x01 _ _ q⟩
        refine ⟨_, rfl, a, o, _, (names kvs).map V.str, rfl, hf, .inl ⟨es, rfl, hks.symm⟩, for_it walk_ka (fun i σ' Hi => ∃ es' o2, σ' = [some (.ref a), some (.ref D), o2, none] ∧ (∀ b x, b ≠ D → Hf b = some x → Hi b = some x) ∧ Hi D = some (.dK es') ∧ TrK (kvs.take i) (fr H (del Hi D)) es' ∧ es'.map (·.1) = ((names kvs).take i).map fun y => (Sum.inr y : Key)) ?_ ?_ ?_ ?_⟩
        · exact ⟨[], none, rfl, fun _ _ _ h => h, hDf, by unfold TrK; rfl, rfl⟩
        · rintro i σ' Hi _ ⟨es', o2, _, h1, _⟩
          exact h1 _ _ (fun z => na z.symm) hf
        · rintro i x σ' Ho Hi hi ⟨es', o2, rfl, g1, gD, gt, gk⟩ ⟨rfl, hx1⟩
          obtain ⟨y, hy, rfl⟩ : ∃ y, (names kvs)[i]? = some y ∧ V.str y = x := by
            rw [List.getElem?_map] at hx1
            cases hp : (names kvs)[i]? with
            | none => rw [hp] at hx1; cases hx1
            | some p => rw [hp] at hx1; exact ⟨p, rfl, Option.some.inj hx1⟩
          have hym := List.mem_of_getElem? hy
          have hkat := kvs_at ha nds hy
          have hkid : getN kvs y ∈ kids (.dict kvs) := List.mem_map.mpr ⟨_, List.mem_of_getElem? hkat, rfl⟩
          have hcc : cnt (getN kvs y) < cnt (.dict kvs) := cnt_kid hkid
          obtain ⟨u, hu1, hu2⟩ := dtk_get hk ha y hym
          have hri : RdX H Hi := fun b x nx q => by
            have q1 := rx0 b x nx q
            have nb : b ≠ D := fun z => by
              obtain ⟨oo, q2⟩ := rd_some q
              rw [z, nD] at q2
              cases q2
            rcases q1 with q1 | ⟨o', q1⟩
            · exact .inl (g1 _ _ nb q1)
            · exact .inr ⟨o', g1 _ _ nb q1⟩
          have hai := g1 _ _ (fun z => na z.symm) hf
          have dmi : ∀ b, Hi b = none → H b = none := fun b hb => by
            cases q : H b with
            | none => rfl
            | some x =>
              obtain ⟨z, hz⟩ := dmf b x q
              have nb : b ≠ D := fun e => by
                rw [e, nD] at q
                cases q
              rw [g1 _ _ nb hz] at hb
              cases hb
          refine ⟨_, rfl, _, rfl, .inr ⟨a, es, Sum.inr y, u, rfl, rfl, .inr ⟨o, hai⟩, hu1, u, _, rfl, hu2.rdx hri, okL_mem ho'.2 hkid, by omega, fun w' H4 e4 htr => ?_⟩⟩
          have hl5 : es'.length ≤ 8 := by
            have := congrArg List.length gk
            rw [List.length_map, List.length_map, List.length_take] at this
            omega
          have hno : valV es' (Sum.inr y : Key) = none := val_keys (by
            rw [gk]
            intro hm
            obtain ⟨z, hz, hz2⟩ := List.mem_map.mp hm
            cases hz2
            exact nodup_take nds hy hz)
          refine ⟨_, rfl, _, rfl, D, _, rfl, DPut.k (k := Sum.inr y) (e4 _ _ gD) (szlt (by omega)), _, _, rfl, fun b x nb q => ?_, upd_same, ?_, ?_⟩
          · rw [upd_ne nb]
            exact e4 _ _ (g1 b x nb q)
          · rw [putK_new _ hno, del_upd, List.take_add_one, hkat]
            exact TrK.snoc gt htr rfl fr_apart (fr_mono (del_grow' e4)) (fr_in gD dmi)
          · rw [putK_new _ hno, List.map_append, gk, List.take_add_one, hy, List.map_append]
            rfl
        · rintro σ' Hi ⟨es', o2, rfl, g1, gD, gt, gk⟩
          have hai := g1 _ _ (fun z => na z.symm) hf
          obtain ⟨t1, t2⟩ := hta Hi hai
          refine kn _ Hi hai ⟨_, rfl, k (.ref D) _ ?_ ?_⟩
          · intro b x q
            by_cases eb : b = a
            · rw [eb, t1]
              rw [eb] at q
              exact x01 _ _ q
            · rw [hth _ _ eb]
              have nb : b ≠ D := fun e => by
                rw [e, nD] at q
                cases q
              exact g1 b x nb (by rw [hof _ eb]; exact x01 _ _ q)
          · have e3 : kvs.take ((names kvs).map V.str).length = kvs := List.take_of_length_le (by rw [List.length_map]; omega)
            have e4 : (names kvs).take ((names kvs).map V.str).length = names kvs := List.take_of_length_le (by rw [List.length_map]; omega)
            rw [e3] at gt
            rw [e4, ← hnm] at gk
            unfold Tr
            refine ⟨D, es', rfl, fr_get nD (by rw [hth _ _ na]; exact gD), by rw [gk]; exact nd, gt.ex fun b x q => ?_⟩
            obtain ⟨n1, q⟩ := fr_some q
            have nb : b ≠ D := fun e => by
              rw [e, del_same] at q
              cases q
            have nba : b ≠ a := fun e => by
              obtain ⟨oo, q2⟩ := rd_some hae
              rw [e, q2] at n1
              cases n1
            exact del_get (fr_get n1 (by rw [hth _ _ nba]; exact ex_del _ _ q)) nb
      | _ =>
        refine ⟨v, rfl, v, _, _, false, rfl, hd, rfl, _, rfl, if_f rfl ?_⟩
        refine ⟨v, rfl, v, _, _, false, rfl, hd, rfl, _, rfl, if_f rfl ⟨_, rfl, k _ H (fun _ _ h => h) (tr_leaf hd ho (fun _ z => nomatch z) (fun _ z => nomatch z) _)⟩⟩
end
end VL

namespace LW
open PySem PySem.Spec L2
theorem op_mulS {X : Cx} : OpR X (binaryOp .Mult) (fun x y H Q => ∃ z n, x = .str z ∧ y = .int n ∧ MulOk z n ∧ Q (.str (Txt.mul z n)) H) := by
  intro pins s σ H x y v u Q I rx ry h
  obtain ⟨z, n, rfl, rfl, ok, q⟩ := h
  obtain ⟨t, rfl⟩ := rx
  obtain ⟨t', rfl⟩ := ry
  exact SB.mul ok fun t'' k => ⟨.str _, H, I.tok _, ⟨_, rfl⟩, q⟩
end LW
namespace VL
open PySem PySem.Spec L2 LW
open Evl (Ex)
mutual
def limB : PyData → Bool
  | .none => true
  | .bool _ => true
  | .int i => decide (-big ≤ i) && decide (i ≤ big)
  | .str x => decide (x.length ≤ 21) && x.cps.toList.all fun c => decide (c < 128)
  | .list ds => limLB ds
  | .tuple ds => limLB ds
  | .dict kvs => limKB kvs
def limLB : List PyData → Bool
  | [] => true
  | d :: r => limB d && limLB r
def limKB : List (PyData × PyData) → Bool
  | [] => true
  | (k, d) :: r => limB k && (limB d && limKB r)
end
mutual
theorem limB_ok : ∀ d, limB d = true → lim d
  | .none, _ => by unfold lim; trivial
  | .bool _, _ => by unfold lim; trivial
  | .int i, h => by
    unfold limB at h
    rw [Bool.and_eq_true] at h
    unfold lim
    exact ⟨of_decide_eq_true h.1, of_decide_eq_true h.2⟩
  | .str x, h => by
    unfold limB at h
    rw [Bool.and_eq_true] at h
    unfold lim
    exact ⟨of_decide_eq_true h.1, fun c hc => of_decide_eq_true (List.all_eq_true.mp h.2 c hc)⟩
  | .list ds, h => by
    unfold limB at h
    unfold lim
    exact limLB_ok ds h
  | .tuple ds, h => by
    unfold limB at h
    unfold lim
    exact limLB_ok ds h
  | .dict ds, h => by
    unfold limB at h
    unfold lim
    exact limKB_ok ds h
theorem limLB_ok : ∀ ds, limLB ds = true → limL ds
  | [], _ => by unfold limL; trivial
  | d :: r, h => by
    unfold limLB at h
    rw [Bool.and_eq_true] at h
    unfold limL
    exact ⟨limB_ok d h.1, limLB_ok r h.2⟩
theorem limKB_ok : ∀ ds, limKB ds = true → limK ds
  | [], _ => by unfold limK; trivial
  | (k, d) :: r, h => by
    unfold limKB at h
    rw [Bool.and_eq_true, Bool.and_eq_true] at h
    unfold limK
    exact ⟨limB_ok k h.1, limB_ok d h.2.1, limKB_ok r h.2.2⟩
end
section
variable {P : Program} {w : World} {K : PySem.W.Frag} {mg : Str → Option Value} {base : Heap}
/-! ### _law_part -/
def spPartL : Sp := fun vs H Q _ => ∃ (v : V) (t : Addr) (p : List V) (u : V), vs = [v, .ref t] ∧ L2.Rd H t (.tup p) ∧ Wk H v p u ∧ Q u H
theorem sc__law_part : FnScope ["_law_value_here", "_law_spot", "_law_step"] ["_law_value_here", "_law_spot"] (defScope s__law_part) := ⟨rfl, rfl, rfl, by decide +kernel, rfl, by decide +kernel, by decide +kernel⟩
theorem bi__law_part : BindsEq "_law_part" s__law_part ["_law_value_here", "_law_spot"] := fun _ _ _ _ _ _ us hl => match us, hl with | [_, _], _ => rfl
theorem ok_partL (F : Df K mg "_law_part" s__law_part) (T : Txt K mg) : Cal P w K mg base CX0 1 "_law_part" spPartL := by
  refine cal0 F sc__law_part bi__law_part (fun vs H Q E h => ?_) (fun f cdv A outer s H vs Q E hr h => ?_)
  · obtain ⟨v, t, p, u, rfl, _⟩ := h
    rfl
  · obtain ⟨v, t, p, u, rfl, ht, hw, k⟩ := h
    refine ⟨_, (pss_cons (ps_for PassesOwn.never rfl (pit K (pv 1)) (pg_name (i := 2) sc__law_part.nd rfl (Or.inl rfl)) (pss_one (ps_set (i := 0) sc__law_part.nd rfl (Or.inl rfl) (pe_ix (ixA K) (pv 0) (pv 2) (fun _ _ => rfl)))))
 (pss_one (ps_ret (pv 0)))), ?_⟩
    refine ⟨_, rfl, t, rfl, ⟨_, .inl ht⟩, for_it (walk_tup (K := K) (a := t) (xs := p)) (fun i σ' Hi => Hi = H ∧ ∃ x o2, σ' = [some x, some (.ref t), o2] ∧ Wk H x (p.drop i) u) ?_ ?_ ?_ ?_⟩
    · exact ⟨rfl, v, none, rfl, hw⟩
    · rintro i σ' Hi _ ⟨rfl, _⟩
      exact .inl ht
    · rintro i y σ' Ho Hi hi ⟨rfl, x, o2, rfl, hx⟩ ⟨rfl, hy⟩
      have hdr : p.drop i = y :: p.drop (i + 1) := by
        obtain ⟨h1, h2⟩ := List.getElem?_eq_some_iff.mp hy
        rw [List.drop_eq_getElem_cons h1, h2]
      rw [hdr] at hx
      obtain ⟨z, ⟨a, rfl, hs⟩, hz⟩ := hx
      refine ⟨_, rfl, _, rfl, ?_⟩
      rcases hs with ⟨vs, j, h1, rfl, h3⟩ | ⟨es, j, h1, rfl, h3⟩
      · exact .inl ⟨a, vs, _, z, rfl, rfl, .inl h1, h3, rfl, z, _, rfl, hz⟩
      · exact .inr ⟨a, es, j, z, rfl, rfl, h1, h3, rfl, z, _, rfl, hz⟩
    · rintro σ' Hi ⟨rfl, x, o2, rfl, hx⟩
      rw [List.drop_length] at hx
      have hx : u = x := hx
      subst hx
      exact ⟨_, rfl, k⟩
/-! ### _law_odd -/
def OddV (H : Hp) (z : V) : Prop := ∃ d, Dt H d z ∧ okA d = false ∧ lim d ∧ nod d ≤ 4
def spOdd : Sp := fun vs H Q _ => ∃ (pl : Addr), vs = [.ref pl] ∧ Pool H pl ∧ ∀ z H', Ex H H' → OddV H' z → Q z H'
theorem odd_s {H : Hp} {d : PyData} {z : V} (h : Dt H d z) (h1 : okA d = false) (h2 : limB d = true) (h3 : nod d ≤ 4) : OddV H z := ⟨d, h, h1, limB_ok d h2, h3⟩
theorem dt_int {H : Hp} (i : Int) : Dt H (.int i) (.int i) := by unfold Dt; rfl
theorem dt_str {H : Hp} (i : Str) : Dt H (.str i) (.str i) := by unfold Dt; rfl
theorem dt_bl {H : Hp} (i : Bool) : Dt H (.bool i) (.bl i) := by unfold Dt; rfl
theorem dt_non {H : Hp} : Dt H .none .non := by unfold Dt; rfl
theorem dt_tup {H : Hp} {a : Addr} {ds : List PyData} {vs : List V} (h : H a = some (.tup vs)) (t : DtL H ds vs) : Dt H (.tuple ds) (.ref a) := by
  unfold Dt
  exact ⟨a, vs, rfl, .inl h, t⟩
theorem dt_lst {H : Hp} {a : Addr} {ds : List PyData} {vs : List V} (h : H a = some (.lst vs)) (t : DtL H ds vs) : Dt H (.list ds) (.ref a) := by
  unfold Dt
  exact ⟨a, vs, rfl, .inl h, t⟩
theorem dt_dk {H : Hp} {a : Addr} {ds : List (PyData × PyData)} {es : List (Key × V)} (h : H a = some (.dK es)) (nd : (es.map (·.1)).Nodup) (t : DtK H ds es) : Dt H (.dict ds) (.ref a) := by
  unfold Dt
  exact ⟨a, rfl, .inl ⟨es, .inl h, nd, t⟩⟩
theorem dt_dk1 {H : Hp} {a : Addr} {d : PyData} {k : Key} {v : V} (h : H a = some (.dK [(k, v)])) (t : Dt H d v) : Dt H (.dict [(kD k, d)]) (.ref a) := dt_dk h (by simp) (DtK.cons rfl t (by unfold DtK; rfl))
theorem dt_odd {H : Hp} {a : Addr} {kd d : PyData} {k v : V} (h : H a = some (odd1 a k v)) (hk : ∀ z, kd ≠ .str z) (h1 : Dt H kd k) (t : Dt H d v) : Dt H (.dict [(kd, d)]) (.ref a) := by
  unfold Dt
  exact ⟨a, rfl, .inr ⟨k, v, .inl h, by unfold DtO; exact ⟨rfl, hk, h1, t⟩⟩⟩
theorem lst_of {t : TA} {σ : L2.St} {H : Hp} {Q : VK} (h : t σ H fun xs H1 => xs.length ≤ sizeLine ∧ ∀ p, H1 p = none → Q (.ref p) (upd H1 p (.lst xs))) : tLst t σ H Q := h
theorem cons_of {te : TE} {t : TA} {σ : L2.St} {H : Hp} {Q : List V → Hp → Prop} (h : te σ H fun x H1 => t σ H1 fun xs H2 => Q (x :: xs) H2) : tCons te t σ H Q := h
theorem consC {x : V} {t : TA} {σ : L2.St} {H : Hp} {Q : List V → Hp → Prop} (h : t σ H fun xs H2 => Q (x :: xs) H2) : tCons (tC x) t σ H Q := h
theorem disp1 {k : Key} {kv v : V} {σ : L2.St} {H : Hp} {Q : VK} (hk : kv = kV k) (h : ∀ p H', H p = none → Ex H H' → H' p = some (.dK [(k, v)]) → Q (.ref p) H') : tDisp [(tC kv, tC v)] σ H Q := by
  intro p np
  refine ⟨upd_same, [(k, v)], ?_, by show 1 ≤ 15; decide, ?_⟩
  · rw [hk]
    rfl
  · rw [upd_upd]
    exact h p _ np (Ex.new np) upd_same
theorem oddN {v : V} {σ : L2.St} {H : Hp} {Q : VK} (h : ∀ p H', H p = none → Ex H H' → H' p = some (odd1 p .non v) → Q (.ref p) H') : tOdd (tC .non) (tC v) σ H Q := by
  intro p np
  refine ⟨.non, v, rfl, upd_same, .inl rfl, ?_⟩
  rw [upd_upd]
  exact h p _ np (Ex.new np) upd_same
theorem oddT {a : Str} {v : V} {σ : L2.St} {H : Hp} {Q : VK} (h : ∀ p t H', H p = none → Ex H H' → H' t = some (.tup [.str a]) → H' p = some (odd1 p (.ref t) v) → Q (.ref p) H') : tOdd (tTup (tCons (tC (.str a)) tNil)) (tC v) σ H Q := by
  intro p np
  refine ⟨szl (by show 1 ≤ 100000; decide), fun t nt => ?_⟩
  have ne : t ≠ p := fun z => by
    rw [z, upd_same] at nt
    cases nt
  refine ⟨.ref t, v, rfl, by rw [upd_ne (fun z => ne z.symm)]; exact upd_same, .inr ⟨t, [Sum.inr a], rfl, upd_same⟩, ?_⟩
  refine h p t _ np ?_ ?_ upd_same
  · exact Ex.mut ((Ex.new np).trans (Ex.new nt)) np
  · rw [upd_ne ne]
    exact upd_same
end
end VL

namespace VL
open PySem PySem.Spec L2 LW
open Evl (Ex)
/-! ### steps as data -/
def stV : V → PyData
  | .int i => .int i
  | .str y => .str y
  | _ => .none
def StOk (s : V) : Prop := (∃ i, s = .int i) ∨ ∃ y, s = .str y ∧ fld (.str y) = true
theorem step_st {d c : PyData} {s : V} (h : stepD d s = some c) (ho : okA d = true) : StOk s := by
  rcases step_cases h with ⟨ds, i, rfl, rfl, h0, e⟩ | ⟨kvs, y, rfl, rfl, hy, rfl⟩
  · exact .inl ⟨i, rfl⟩
  · refine .inr ⟨y, rfl, ?_⟩
    rw [okA_kids, Bool.and_eq_true] at ho
    have h1 : (decide (kvs.length ≤ 8) && kvs.all fun p => fld p.1) = true := ho.1
    rw [Bool.and_eq_true] at h1
    obtain ⟨ha, _⟩ := allStr_of ho.1
    obtain ⟨k, hk, he⟩ := getN_mem hy
    have q := List.all_eq_true.mp h1.2 _ hk
    have e := ha _ hk
    have e' : k = .str (nm k) := e
    rw [← he, ← e']
    exact q
theorem at_st : ∀ {p : List V} {d c : PyData}, At d p c → okA d = true → ∀ s ∈ p, StOk s
  | [], _, _, _, _ => nofun
  | s :: p, d, c, h, ho => by
    obtain ⟨e, h1, h2⟩ := h
    intro x hx
    rcases List.mem_cons.mp hx with rfl | hx
    · exact step_st h1 ho
    · exact at_st h2 (step_ok h1 ho) x hx
theorem fld_cps {y : Str} (h : fld (.str y) = true) : y.cps.all (· < 0x110000) = true := by
  have h : (decide (1 ≤ y.length) && decide (y.length ≤ 8) && low y) = true := h
  rw [Bool.and_eq_true] at h
  rw [Array.all_eq_true_iff_forall_mem]
  intro c hc
  have q := List.all_eq_true.mp h.2 c (Array.mem_toList_iff.mpr hc)
  rw [Bool.and_eq_true] at q
  have := of_decide_eq_true q.2
  exact decide_eq_true (by omega)
theorem st_dp {K : PySem.W.Frag} {H : Hp} {s : V} (h : StOk s) : Dp K H s (stV s) ∧ PyData.canLay0 (stV s) = true ∧ (stV s).depth = 0 := by
  rcases h with ⟨i, rfl⟩ | ⟨y, rfl, hy⟩
  · exact ⟨.int i, rfl, rfl⟩
  · refine ⟨.str y, ?_, rfl⟩
    show PyData.canLay0 (.str y) = true
    rw [PyData.canLay0]
    exact fld_cps hy
theorem st_all {K : PySem.W.Frag} {H : Hp} : ∀ {p : List V}, (∀ s ∈ p, StOk s) → DpAll K H p (p.map stV) ∧ PyData.canLayAll0 (p.map stV) = true ∧ PyData.depthAll (p.map stV) = 0
  | [], _ => ⟨.nil, rfl, rfl⟩
  | s :: p, h => by
    obtain ⟨h1, h2, h3⟩ := st_dp (K := K) (H := H) (h s List.mem_cons_self)
    obtain ⟨g1, g2, g3⟩ := st_all (K := K) (H := H) (p := p) fun x hx => h x (List.mem_cons_of_mem _ hx)
    refine ⟨.cons h1 g1, ?_, ?_⟩
    · rw [List.map_cons, PyData.canLayAll0, h2, g2]
      rfl
    · rw [List.map_cons, PyData.depthAll, h3, g3]
      rfl
theorem st_shaped {p : List V} (h : ∀ s ∈ p, StOk s) : SeqAt.shaped (.tuple (p.map stV)) = true := by
  obtain ⟨_, h2, h3⟩ := st_all (K := []) (H := fun _ => none) h
  unfold SeqAt.shaped
  rw [PyData.canLay0, PyData.depth, h2, h3]
  rfl
theorem eqv_nil (p : List V) : PyData.eqv (.tuple (p.map stV)) (.tuple []) = p.isEmpty := by
  cases p with
  | nil => rw [List.map_nil, PyData.eqv, PyData.eqvAll]; rfl
  | cons a b => rw [List.map_cons, PyData.eqv, PyData.eqvAll]; rfl
theorem six_last (p : List V) (s : V) : HT.sIx (p ++ [s]).length (p ++ [s]).length (some (-1)) = p.length := by
  show (if (-1 : Int) < 0 then (-1 + ((p ++ [s]).length : Int)).toNat else min (-1 : Int).toNat (p ++ [s]).length) = p.length
  rw [if_pos (by decide), List.length_append]
  show (-1 + ((p.length + 1 : Nat) : Int)).toNat = _
  omega
theorem cut_last (p : List V) (s : V) : cutV (p ++ [s]) none (some (-1)) = p := by
  unfold cutV
  rw [six_last]
  show ((p ++ [s]).drop 0).take (p.length - 0) = p
  rw [List.drop_zero, Nat.sub_zero, List.take_left']
  rfl
end VL

namespace LW
open PySem
theorem Paired.mapr {α β γ : Type} {R : α → γ → Prop} {f : β → γ} : ∀ {l : List α} {m : List β}, Paired (fun a b => R a (f b)) l m → Paired R l (m.map f)
  | _, _, .nil => .nil
  | _, _, .cons h t => .cons h (Paired.mapr t)
end LW
namespace VL
open PySem PySem.Spec L2 LW
open Evl (Ex)
def PlTup (H : Hp) (p0 : List V) (x : V) (p : List V) : Prop := ∃ b, x = .ref b ∧ H b = some (.tup (p0 ++ p))
theorem catX_of {K : PySem.W.Frag} {H : Hp} {Q : VK} {a b : Addr} {xs ys : List V} (hx : H a = some (.tup xs)) (hy : H b = some (.tup ys)) (ny : ys ≠ []) (hz : xs.length + ys.length ≤ 100000) (k : ∀ p H', Ex H H' → H' p = some (.tup (xs ++ ys)) → Q (.ref p) H') : rCatA K (.ref a) (.ref b) H Q := by
  refine ⟨a, b, xs, ys, rfl, rfl, SqTo hx, SqTo hy, szl hz, fun e => ?_, fun _ e => (ny e).elim, fun _ _ p np => k p _ (Ex.new np) upd_same⟩
  subst e
  exact k b H (fun _ _ h => h) hy
/-- a tuple is no dict -/
theorem tup_ne {H : Hp} {a b : Addr} {xs : List V} {ks : List (Key × V)} (h : H b = some (.tup xs)) (g : L2.Rd H a (.dK ks)) : b ≠ a := fun z => by
  rw [z] at h
  rcases g with g | ⟨o, g⟩ <;> rw [g] at h <;> cases h
theorem PlTup.ex {H H' : Hp} (e : Ex H H') {p0 p : List V} {x : V} (h : PlTup H p0 x p) : PlTup H' p0 x p := by
  obtain ⟨b, rfl, h1⟩ := h
  exact ⟨b, rfl, e _ _ h1⟩
theorem pl_ex {H H' : Hp} (e : Ex H H') {p0 : List V} {xs : List V} {ps : List (List V)} (h : Paired (PlTup H p0) xs ps) : Paired (PlTup H' p0) xs ps := Paired.imp (fun _ _ q => q.ex e) h
theorem pl_up {H : Hp} {p0 : List V} {c : V × PyData} {xs : List V} (h : Paired (PlTup H (p0 ++ [c.1])) xs (paths c.2)) : Paired (PlTup H p0) xs (pathsC c) :=
  Paired.mapr (Paired.imp (fun _ _ q => by
    obtain ⟨b, rfl, h1⟩ := q
    rw [List.append_assoc] at h1
    exact ⟨b, rfl, h1⟩) h)
theorem pl_step {H : Hp} {p0 : List V} {xs ys : List V} {ps : List (V × PyData)} {c : V × PyData} (h : Paired (PlTup H p0) xs ([] :: ps.flatMap pathsC)) (g : Paired (PlTup H p0) ys (pathsC c)) : Paired (PlTup H p0) (xs ++ ys) ([] :: (ps ++ [c]).flatMap pathsC) := by
  rw [List.flatMap_append, ← List.cons_append]
  refine Paired.app h ?_
  show Paired _ _ (pathsC c ++ [])
  rw [List.append_nil]
  exact g
section
variable {P : Program} {w : World} {K : PySem.W.Frag} {mg : Str → Option Value} {base : Heap}
/-! ### _law_below, the places in their order -/
def spBelowP (n : Nat) : Sp := fun vs H Q _ => ∃ (v : V) (d : PyData) (t : Addr) (p0 : List V), vs = [v, .ref t] ∧ H t = some (.tup p0) ∧ Dt H d v ∧ okA d = true ∧ cnt d ≤ n ∧ p0.length + cnt d ≤ 200 ∧
  ∀ q H' ts, Ex H H' → H q = none → H' q = some (.lst ts) → ts.length = cnt d → Paired (PlTup H' p0) ts (paths d) → Q (.ref q) H'
theorem ok_belowP (F : Df K mg "_law_below" s__law_below) (T : Txt K mg) : ∀ n, Cal P w K mg base CX0 (n + 1) "_law_below" (spBelowP n)
  | 0 => cal_no F sc__law_below bi__law_below fun vs H Q E h => by
    obtain ⟨v, d, t, p0, _, _, _, _, hc, _⟩ := h
    have := cnt_pos d
    omega
  | n + 1 => by
    have C__law_below := ok_belowP F T n
    refine cal0 F sc__law_below bi__law_below (fun vs H Q E h => ?_) (fun f cdv A outer s H vs Q E hr h => ?_)
    · obtain ⟨v, d, t, p0, rfl, _⟩ := h
      rfl
    · obtain ⟨v, d, t, p0, rfl, ht, hd, ho, hc, hpl, k⟩ := h
      refine ⟨_, (pss_cons (ps_set (i := 2) sc__law_below.nd rfl (Or.inl rfl) (pe_lst (pa_cons (pv 1) pa_nil)))
 (pss_cons (ps_if (pt_val (pe_callB (isD K) rfl T.b_isinstance (by decide +kernel) (pa_cons (pv 0) (pa_cons (pe_bltn (v := .ty "list") rfl T.b_list (by decide +kernel) rfl) pa_nil)))) (pss_one (ps_for PassesOwn.never rfl (pi_range1 rfl T.b_range (pa_cons (pe_callB (lnA K) rfl T.b_len (by decide +kernel) (pa_cons (pv 0) pa_nil)) pa_nil)) (pg_name (i := 3) sc__law_below.nd rfl (Or.inl rfl)) (pss_one (ps_set (i := 2) sc__law_below.nd rfl (Or.inl rfl) (pe_op op_cat (pv 2) (pe_k C__law_below hr (by omega) rfl (pa_cons (pe_ix (ixA K) (pv 0) (pv 3) (fun _ _ => rfl)) (pa_cons (pe_op op_catA (pv 1) (pe_tup (pa_cons (pv 3) pa_nil))) pa_nil)))))))) pss_nil)
 (pss_cons (ps_if (pt_val (pe_callB (isD K) rfl T.b_isinstance (by decide +kernel) (pa_cons (pv 0) (pa_cons (pe_bltn (v := .ty "dict") rfl T.b_dict (by decide +kernel) rfl) pa_nil)))) (pss_one (ps_lockA (ps_for PassesOwn.never rfl (pil K (pe_callB (srK K) rfl T.b_sorted (by decide +kernel) (pa_cons (pe_lc (own := [("_law_one", 5)]) (by rfl) sc__law_below.nd (pi_ka (pv 0)) (blkOk_by (own := [("_law_one", 5)]) (N := ["_law_value_here", "_law_spot", "_law_found", "_law_k", "_law_name", "_law_one"]) (sc := defScope s__law_below) (by decide +kernel)) (fun _ _ _ _ _ => (pg_name (i := 5) sc__law_below.nd rfl (Or.inl rfl))) (fun _ _ _ _ _ => pts_nil) (fun _ _ _ _ _ => (pe_callTy strS rfl T.b_str (by decide +kernel) (pa_cons (pv 5) pa_nil)))) pa_nil))) (pg_name (i := 4) sc__law_below.nd rfl (Or.inl rfl)) (pss_one (ps_set (i := 2) sc__law_below.nd rfl (Or.inl rfl) (pe_op op_cat (pv 2) (pe_k C__law_below hr (by omega) rfl (pa_cons (pe_ix (ixA K) (pv 0) (pv 4) (fun _ _ => rfl)) (pa_cons (pe_op op_catA (pv 1) (pe_tup (pa_cons (pv 4) pa_nil))) pa_nil))))))))) pss_nil)
 (pss_one (ps_ret (pv 2)))))), ?_⟩
      refine ⟨_, rfl, szl (by show 1 ≤ 100000; decide), fun p1 np1 => ?_⟩
      obtain ⟨H1, hH1, x0_1, h1⟩ := newH _ np1
      rw [hH1]
      clear hH1
      have f1 := np1
      have ho' := ho
      rw [okA_kids, Bool.and_eq_true] at ho'
      have hsp : Paired (PlTup H1 p0) [V.ref t] [[]] := .cons ⟨t, rfl, by rw [List.append_nil]; exact x0_1 _ _ ht⟩ .nil
      cases d with
      | list ds =>
        refine ⟨v, rfl, v, _, _, true, rfl, hd.ex x0_1, rfl, _, rfl, if_t rfl ?_⟩
        have hd2 := hd
        unfold Dt at hd2
        obtain ⟨a, xs, rfl, hax, hl⟩ := hd2
        have hlen := hl.len
        have h60 : ds.length < 60 := of_decide_eq_true ho'.1
        have hkl : (kidsOf (.list ds)).length = ds.length := by
          show ((List.range ds.length).zipWith (fun (i : Nat) c => (V.int i, c)) ds).length = _
          rw [List.length_zipWith, List.length_range]
          omega
        refine ⟨_, rfl, .inl ⟨_, xs.length, rfl, .inl ⟨xs, .inl (rd_ex x0_1 hax), rfl⟩, _, rfl, by omega, by omega, for_it walk_range (fun i σ' Hi => ∃ q ts o3, σ' = [some (.ref a), some (.ref t), some (.ref q), o3, none, none] ∧ Ex H1 Hi ∧ H q = none ∧ Hi q = some (.lst ts) ∧ ts.length = 1 + cntL (ds.take i) ∧ Paired (PlTup Hi p0) ts ([] :: ((kidsOf (.list ds)).take i).flatMap pathsC)) ?_ (fun _ _ _ _ _ => True.intro) ?_ ?_⟩⟩
        · exact ⟨p1, _, none, rfl, fun _ _ h => h, f1, h1, rfl, hsp⟩
        · rintro i x σ' Ho Hi hi ⟨q, ts, o3, rfl, e, nq, hq, htl, hts⟩ ⟨rfl, rfl⟩
          have hi' : i < xs.length := by
            have : i < ((xs.length : Nat) : Int).toNat := hi
            omega
          obtain ⟨u, hu1, _, hu3⟩ := at_some (xs := xs) (v := 0 + (i : Int)) (by omega) (by omega)
          have hti : (0 + (i : Int)).toNat = i := by omega
          rw [hti] at hu3
          obtain ⟨c, hc1, hcd⟩ := hl.get hu3
          have x0i : Ex H Hi := x0_1.trans e
          have hkat : (kidsOf (.list ds))[i]? = some (V.int (0 + (i : Int)), c) := by
            show ((List.range ds.length).zipWith (fun (i : Nat) c => (V.int i, c)) ds)[i]? = _
            rw [List.getElem?_zipWith, List.getElem?_range (by omega), hc1]
            show some (V.int ((i : Nat) : Int), c) = _
            rw [show (0 + (i : Int)) = (i : Int) by omega]
          have hkid : c ∈ ds := List.mem_of_getElem? hc1
          have hcc : cnt c < cnt (.list ds) := cnt_kid (d := .list ds) hkid
          have htk : cntL (ds.take (i + 1)) = cntL (ds.take i) + cnt c := by
            rw [List.take_add_one, hc1, cntL_app]
            show _ + cntL [c] = _
            rw [cntL, cntL]
            omega
          have hsub : cntL (ds.take (i + 1)) ≤ cntL ds := by
            conv => rhs; rw [← List.take_append_drop (i + 1) ds]
            rw [cntL_app]
            omega
          have hcl : cnt (.list ds) = 1 + cntL ds := by rw [cnt]
          refine ⟨_, rfl, _, rfl, _, rfl, .inl ⟨a, xs, _, u, rfl, rfl, .inl (rd_ex x0i hax), hu1, _, rfl, _, rfl, szl (by show 1 ≤ 100000; decide), fun p2 np2 => ?_⟩⟩
          have x2 : Ex Hi (upd Hi p2 (.tup [V.int (0 + (i : Int))])) := Ex.new np2
          refine catX_of ((x0i.trans x2) _ _ ht) upd_same (by simp) (by show p0.length + 1 ≤ 100000; omega) fun z Hz xz hz => ?_
          have x0z := x0i.trans (x2.trans xz)
          refine ⟨u, c, z, _, rfl, hz, hcd.ex x0z, okL_mem ho'.2 hkid, by omega, by rw [List.length_append]; show p0.length + 1 + _ ≤ _; omega, fun q2 H4 ts2 x4 _ hq2 hl2 hp2 => ?_⟩
          have xi4 := x2.trans (xz.trans x4)
          refine ⟨q, q2, ts, ts2, rfl, rfl, xi4 _ _ hq, hq2, szl (by omega), fun p3 np3 => ?_⟩
          refine ⟨p3, ts ++ ts2, _, rfl, e.trans (xi4.trans (Ex.new np3)), ex_free (x0i.trans xi4) np3, upd_same, ?_, ?_⟩
          · rw [List.length_append, htl, hl2, htk]
            omega
          · rw [List.take_add_one, hkat]
            exact pl_step (pl_ex (xi4.trans (Ex.new np3)) hts) (pl_ex (Ex.new np3) (pl_up (c := (V.int (0 + (i : Int)), c)) hp2))
        · rintro σ' Hi ⟨q, ts, o3, rfl, e, nq, hq, htl, hts⟩
          have e4 : ds.take (Int.toNat (xs.length : Int)) = ds := List.take_of_length_le (by omega)
          have e5 : (kidsOf (.list ds)).take (Int.toNat (xs.length : Int)) = kidsOf (.list ds) := List.take_of_length_le (by rw [hkl]; omega)
          refine ⟨_, rfl, .ref a, _, _, false, rfl, hd.ex (x0_1.trans e), rfl, _, rfl, if_f rfl ⟨_, rfl, k q Hi ts (x0_1.trans e) nq hq ?_ ?_⟩⟩
          · rw [htl, cnt, e4]
          · rw [paths_eq]
            rw [e5] at hts
            exact hts
      | dict kvs =>
        refine ⟨v, rfl, v, _, _, false, rfl, hd.ex x0_1, rfl, _, rfl, if_f rfl ?_⟩
        refine ⟨v, rfl, v, _, _, true, rfl, hd.ex x0_1, rfl, _, rfl, if_t rfl ?_⟩
        obtain ⟨ha, hlen⟩ := allStr_of ho'.1
        obtain ⟨a, es, rfl, hae, nd, hk⟩ := dict_val hd ha
        have hnm := dtk_names hk ha
        have hks := names_kV hnm
        have hln : (names kvs).length = kvs.length := by
          unfold names
          rw [List.length_map]
        have hae1 := rd_ex x0_1 hae
        have na : p1 ≠ a := fun z => by
          obtain ⟨oo, q⟩ := rd_some hae
          rw [← z, f1] at q
          cases q
        refine lockA_eq hae1 True.intro ?_
        intro Hf o D' th hof hf rx hth hta _ kn
        have rx0 : RdX H Hf := (rdx_ex x0_1).trans rx
        have hkf := hk.rdx rx0
        have h1f : Hf p1 = some (.lst [.ref t]) := by
          rw [hof _ na]
          exact h1
        have htf : Hf t = some (.tup p0) := by
          rw [hof _ (tup_ne (x0_1 _ _ ht) hae1)]
          exact x0_1 _ _ ht
        have hdom : ∀ b, Hf b = none → H b = none := fun b hb => by
          by_cases eb : b = a
          · rw [eb, hf] at hb
            cases hb
          · rw [hof _ eb] at hb
            exact ex_free x0_1 hb
        refine ⟨_, rfl, a, o, _, (names kvs).map V.str, rfl, hf, .inl ⟨es, rfl, hks.symm⟩, fun D1 nD1 => lc_gr walk_ka (fun i acc _ => acc = ((names kvs).take i).map V.str) nD1 (by rw [List.length_map]; omega) rfl (fun H' e => e _ _ hf) ?_ ?_⟩
        · rintro i x acc Ho Hi hi e e' hD hl rfl ⟨rfl, hx1⟩
          obtain ⟨y, hy, rfl⟩ : ∃ y, (names kvs)[i]? = some y ∧ V.str y = x := by
            rw [List.getElem?_map] at hx1
            cases hp : (names kvs)[i]? with
            | none => rw [hp] at hx1; cases hx1
            | some p => rw [hp] at hx1; exact ⟨p, rfl, Option.some.inj hx1⟩
          refine ⟨rfl, _, rfl, y, rfl, lc_put e' hD hl (by rw [List.length_map] at hi; omega) (fun _ _ h => h) ?_⟩
          rw [List.take_add_one, List.map_append, hy]
          rfl
        · rintro acc H2 e e' hD hl rfl
          have e1 : (names kvs).take ((names kvs).map V.str).length = names kvs := List.take_of_length_le (by rw [List.length_map]; exact Nat.le_refl _)
          rw [e1] at hD
          refine ⟨D1, names kvs, rfl, SqLo hD, by omega, fun ys py pp sy np => ?_⟩
          have xf3 : Ex Hf (upd H2 py (.lst (ys.map V.str))) := e.trans (Ex.new np)
          have hyl : ys.length = kvs.length := by rw [pp.length_eq, hln]
          have hko : kidsOf (.dict kvs) = ys.map fun y => (V.str y, getN kvs y) := (kids_eq (d := .dict kvs) ⟨ys, pp, sy, rfl⟩).symm
          have hkp : (ys.map fun y => getN kvs y).Perm (kvs.map (·.2)) := by
            have q := kids_perm (d := .dict kvs) (cs := ys.map fun y => (V.str y, getN kvs y)) ⟨ys, pp, sy, rfl⟩ (fun kvs' e => by cases e; exact ⟨ha, nodup_names hk ha nd⟩)
            rw [List.map_map] at q
            exact q
          refine ⟨py, rfl, ⟨_, SqLo upd_same⟩, for_it (walk_list (K := K) (a := py) (xs := ys.map V.str)) (fun i σ' Hi => ∃ q ts o4, σ' = [some (.ref a), some (.ref t), some (.ref q), none, o4, none] ∧ Ex (upd H2 py (.lst (ys.map V.str))) Hi ∧ H q = none ∧ Hi q = some (.lst ts) ∧ ts.length = 1 + cntL ((ys.take i).map fun y => getN kvs y) ∧ Paired (PlTup Hi p0) ts ([] :: ((kidsOf (.dict kvs)).take i).flatMap pathsC)) ?_ ?_ ?_ ?_⟩
          · exact ⟨p1, _, none, rfl, fun _ _ h => h, f1, xf3 _ _ h1f, rfl, Paired.imp (fun _ _ q => PlTup.ex xf3 (by
            obtain ⟨b, rfl, h1'⟩ := q
            exact ⟨b, rfl, by rw [hof _ (tup_ne h1' hae1)]; exact h1'⟩)) hsp⟩
          · rintro i σ' Hi _ ⟨q, ts, o4, _, x3, _⟩
            exact SqLo (x3 _ _ upd_same)
          · rintro i x σ' Ho Hi hi ⟨q, ts, o4, rfl, x3, nq, hq, htl, hts⟩ ⟨rfl, hx1⟩
            obtain ⟨y, hy, rfl⟩ : ∃ y, ys[i]? = some y ∧ V.str y = x := by
              rw [List.getElem?_map] at hx1
              cases hp : ys[i]? with
              | none => rw [hp] at hx1; cases hx1
              | some p => rw [hp] at hx1; exact ⟨p, rfl, Option.some.inj hx1⟩
            have hym : y ∈ names kvs := pp.mem_iff.mp (List.mem_of_getElem? hy)
            obtain ⟨u, hu1, hu2⟩ := dtk_get hkf ha y hym
            have xfi : Ex Hf Hi := xf3.trans x3
            have hkat : (kidsOf (.dict kvs))[i]? = some (V.str y, getN kvs y) := by
              rw [hko, List.getElem?_map, hy]
              rfl
            have hkid : getN kvs y ∈ kids (.dict kvs) := step_kid (kidsOf_step (List.mem_of_getElem? hkat))
            have hcc : cnt (getN kvs y) < cnt (.dict kvs) := cnt_kid hkid
            have htk : cntL ((ys.take (i + 1)).map fun y => getN kvs y) = cntL ((ys.take i).map fun y => getN kvs y) + cnt (getN kvs y) := by
              rw [List.take_add_one, hy, List.map_append, cntL_app]
              show _ + cntL [getN kvs y] = _
              rw [cntL, cntL]
              omega
            have hsub : cntL ((ys.take (i + 1)).map fun y => getN kvs y) ≤ cntK kvs := by
              rw [cntK_eq, ← cntL_perm hkp]
              conv => rhs; rw [← List.take_append_drop (i + 1) ys]
              rw [List.map_append, cntL_app]
              omega
            have hcl : cnt (.dict kvs) = 1 + cntK kvs := by rw [cnt]
            refine ⟨_, rfl, _, rfl, _, rfl, .inr ⟨a, es, Sum.inr y, u, rfl, rfl, .inr ⟨o, xfi _ _ hf⟩, hu1, _, rfl, _, rfl, szl (by show 1 ≤ 100000; decide), fun p2 np2 => ?_⟩⟩
            have x2 : Ex Hi (upd Hi p2 (.tup [V.str y])) := Ex.new np2
            refine catX_of ((xfi.trans x2) _ _ htf) upd_same (by simp) (by show p0.length + 1 ≤ 100000; omega) fun z Hz xz hz => ?_
            refine ⟨u, _, z, _, rfl, hz, hu2.ex (xfi.trans (x2.trans xz)), okL_mem ho'.2 hkid, by omega, by rw [List.length_append]; show p0.length + 1 + _ ≤ _; omega, fun q2 H4 ts2 x4 _ hq2 hl2 hp2 => ?_⟩
            have xi4 := x2.trans (xz.trans x4)
            refine ⟨q, q2, ts, ts2, rfl, rfl, xi4 _ _ hq, hq2, szl (by omega), fun p3 np3 => ?_⟩
            refine ⟨p3, ts ++ ts2, _, rfl, x3.trans (xi4.trans (Ex.new np3)), hdom _ (ex_free (xfi.trans xi4) np3), upd_same, ?_, ?_⟩
            · rw [List.length_append, htl, hl2, htk]
              omega
            · rw [List.take_add_one, hkat]
              exact pl_step (pl_ex (xi4.trans (Ex.new np3)) hts) (pl_ex (Ex.new np3) (pl_up (c := (V.str y, getN kvs y)) hp2))
          · rintro σ' Hi ⟨q, ts, o4, rfl, x3, nq, hq, htl, hts⟩
            have xfi : Ex Hf Hi := xf3.trans x3
            have hai := xfi _ _ hf
            refine kn _ Hi hai ?_
            obtain ⟨t1, t2⟩ := hta Hi hai
            have hqa : q ≠ a := fun z => by
              rw [z, hai] at hq
              cases hq
            have e5 : (kidsOf (.dict kvs)).take (ys.map V.str).length = kidsOf (.dict kvs) := List.take_of_length_le (by rw [hko, List.length_map, List.length_map]; exact Nat.le_refl _)
            refine ⟨_, rfl, k q _ ts ?_ nq ?_ ?_ ?_⟩
            · intro b oo hb
              by_cases eb : b = a
              · rw [eb, t1]
                rw [eb] at hb
                exact x0_1 _ _ hb
              · rw [hth _ _ eb]
                exact xfi _ _ (by rw [hof _ eb]; exact x0_1 _ _ hb)
            · rw [hth _ _ hqa]
              exact hq
            · rw [htl, cnt]
              have e3 : ys.take (ys.map V.str).length = ys := List.take_of_length_le (by rw [List.length_map]; exact Nat.le_refl _)
              rw [e3, cntL_perm hkp, cntK_eq]
            · rw [paths_eq]
              rw [e5] at hts
              exact Paired.imp (fun _ _ q => by
                obtain ⟨b, rfl, h1'⟩ := q
                exact ⟨b, rfl, by rw [hth _ _ (tup_ne h1' (ks := es) (.inr ⟨o, hai⟩))]; exact h1'⟩) hts
      | _ =>
        refine ⟨v, rfl, v, _, _, false, rfl, hd.ex x0_1, rfl, _, rfl, if_f rfl ?_⟩
        refine ⟨v, rfl, v, _, _, false, rfl, hd.ex x0_1, rfl, _, rfl, if_f rfl ⟨_, rfl, k p1 _ _ x0_1 f1 h1 rfl ?_⟩⟩
        rw [paths_eq]
        exact hsp
end
end VL

namespace LW
open PySem PySem.Spec L2
/-- a dict comprehension over any walk -/
theorem dc_it {J : It} {n : Nat} {G : Hp → Prop} {Y : Nat → Hp → V → Hp → Prop} (wk : Walk J n G Y) {g : TG} {tt : TT} {tk tv : TE} {vs : List Nat} {σ : L2.St} {H1 : Hp} {D : Addr} {Qd : Hp → Prop} (Pv : Nat → Hp → Prop)
    (h0 : Pv 0 (upd H1 D (.dK []))) (hG : ∀ i H, i ≤ n → Pv i H → G H)
    (step : ∀ i x H H', i < n → Pv i H → Y i H x H' → g x (wipe σ vs) H' fun σ2 H2 => wipe σ2 vs = wipe σ vs ∧ tt σ2 H2 fun b H3 =>
      if b = true then tk σ2 H3 fun y H4 => tv σ2 H4 fun z H5 => ∃ kvs k, y = kV k ∧ H5 D = some (.dK kvs) ∧ kvs.length < sizeLine ∧ Pv (i + 1) (upd H5 D (.dK (putK kvs k z))) else Pv (i + 1) H3)
    (fin : ∀ H, Pv n H → Qd H) :
    ∃ W : Nat → Nat → Hp → Prop, (∃ m, W 0 m (upd H1 D (.dK []))) ∧ ∀ i m H, W i m H →
      (J.stop i H ∧ Qd H) ∨ (J.go i H ∧ ∃ Nx : Hp → Prop, (∀ H', Nx H' → ∃ m', m' < m ∧ W (i + 1) m' H') ∧ ∀ x H', J.yld i H x H' → g x (wipe σ vs) H' fun σ2 H2 => wipe σ2 vs = wipe σ vs ∧ tt σ2 H2 fun b H3 =>
        if b = true then tk σ2 H3 fun y H4 => tv σ2 H4 fun z H5 => ∃ kvs k, y = kV k ∧ H5 D = some (.dK kvs) ∧ kvs.length < sizeLine ∧ Nx (upd H5 D (.dK (putK kvs k z))) else Nx H3) := by
  refine ⟨fun i m H => m + i = n ∧ Pv i H, ⟨n, by omega, h0⟩, ?_⟩
  rintro i m H ⟨e, pv⟩
  have gh := hG i H (by omega) pv
  by_cases lt : i < n
  · right
    exact ⟨wk.goes i H lt gh, Pv (i + 1), fun H' p' => ⟨n - (i + 1), by omega, by omega, p'⟩, fun x H' y => step i x H H' lt pv (wk.yields i H x H' lt gh y)⟩
  · left
    have en : n = i := by omega
    subst en
    exact ⟨wk.stops H gh, fin H pv⟩
end LW
namespace VL
open PySem PySem.Spec L2 LW
open Evl (Ex)
theorem pl_del {H : Hp} {a : Addr} {xs p0 : List V} (h : H a = some (.lst xs)) {ys : List V} {ps : List (List V)} (g : Paired (PlTup H p0) ys ps) : Paired (PlTup (del H a) p0) ys ps := Paired.imp (fun x p q => by
  obtain ⟨b, rfl, h1⟩ := q
  have nb : b ≠ a := fun z => by
    rw [z, h] at h1
    cases h1
  exact ⟨b, rfl, del_get h1 nb⟩) g
section
variable {P : Program} {w : World} {K : PySem.W.Frag} {mg : Str → Option Value} {base : Heap} {CI CP : Addr}
/-! ### places_below, places -/
theorem sc_places_below : FnScope ["value", "place", "found", "step", "child"] ["value", "place"] (defScope s_places_below) := ⟨rfl, rfl, rfl, by decide +kernel, rfl, by decide +kernel, by decide +kernel⟩
theorem bi_places_below : BindsEq "places_below" s_places_below ["value", "place"] := fun _ _ _ _ _ _ us hl => match us, hl with | [_, _], _ => rfl
theorem ok_pbelow (F : Df K mg "places_below" s_places_below) (T : Txt K mg) (C_children : Cal P w K mg base CX0 1 "children" spKids) : ∀ n, Cal P w K mg base CX0 (n + 2) "places_below" (spBelowP n)
  | 0 => cal_no F sc_places_below bi_places_below fun vs H Q E h => by
    obtain ⟨v, d, t, p0, _, _, _, _, hc, _⟩ := h
    have := cnt_pos d
    omega
  | n + 1 => by
    have C_places_below := ok_pbelow F T C_children n
    refine cal0 F sc_places_below bi_places_below (fun vs H Q E h => ?_) (fun f cdv A outer s H vs Q E hr h => ?_)
    · obtain ⟨v, d, t, p0, rfl, _⟩ := h
      rfl
    · obtain ⟨v, d, t, p0, rfl, ht, hd, ho, hc, hpl, k⟩ := h
      refine ⟨_, (pss_cons (ps_set (i := 2) sc_places_below.nd rfl (Or.inl rfl) (pe_lst (pa_cons (pv 1) pa_nil)))
 (pss_cons (ps_for PassesOwn.never rfl (pil K (pe_k C_children hr (by omega) rfl (pa_cons (pv 0) pa_nil))) (pgt (n := 2) K rfl (pgs_cons (pg_name (i := 3) sc_places_below.nd rfl (Or.inl rfl)) (pgs_cons (pg_name (i := 4) sc_places_below.nd rfl (Or.inl rfl)) pgs_nil))) (pss_one (ps_expr (pe_bm PySem.F.plainAttrs_list PySem.F.slot_list_extend PySem.F.type_list_extend mt_extend (pv 2) (pa_cons (pe_k C_places_below hr (by omega) rfl (pa_cons (pv 4) (pa_cons (pe_op op_catA (pv 1) (pe_tup (pa_cons (pv 3) pa_nil))) pa_nil))) pa_nil)))))
 (pss_one (ps_ret (pv 2))))), ?_⟩
      refine ⟨_, rfl, szl (by show 1 ≤ 100000; decide), fun p1 np1 => ?_⟩
      obtain ⟨H1, hH1, x0_1, h1⟩ := newH _ np1
      rw [hH1]
      clear hH1
      have f1 := np1
      have ho' := ho
      rw [okA_kids, Bool.and_eq_true] at ho'
      refine ⟨_, rfl, v, d, H, rfl, hd, x0_1, ho'.1, fun q H3 ts cs x1_3 nq hq hts hcs => ?_⟩
      have hkp := kids_perm hcs (kids_ns hd ho'.1)
      have hke := kids_eq hcs
      have htl : ts.length = cs.length := Paired.len hts
      have hkl : cs.length ≤ 60 := by
        have := kids_len ho'.1
        have := hkp.length_eq
        rw [List.length_map] at this
        omega
      have x0_3 := x0_1.trans x1_3
      have h13 := x1_3 _ _ h1
      have nq1 : q ≠ p1 := fun z => by
        rw [z, h1] at nq
        cases nq
      refine ⟨q, rfl, ⟨_, SqLo hq⟩, for_it (walk_list (K := K) (a := q) (xs := ts)) (fun i σ' Hi => ∃ acc o3 o4, σ' = [some v, some (.ref t), some (.ref p1), o3, o4] ∧ Ex (del H3 p1) (del Hi p1) ∧ Hi p1 = some (.lst acc) ∧ acc.length = 1 + cntL ((cs.take i).map (·.2)) ∧ Paired (PlTup (del Hi p1) p0) acc ([] :: (cs.take i).flatMap pathsC)) ?_ ?_ ?_ ?_⟩
      · refine ⟨_, none, none, rfl, fun _ _ h => h, h13, rfl, pl_del h13 (.cons ⟨t, rfl, by rw [List.append_nil]; exact x0_3 _ _ ht⟩ .nil)⟩
      · rintro i σ' Hi _ ⟨acc, o3, o4, _, e, _⟩
        exact SqLo (ex_del _ _ (e _ _ (del_get hq nq1)))
      · rintro i x σ' Ho Hi hi ⟨acc, o3, o4, rfl, e, hp1, hal, hap⟩ ⟨rfl, hx1⟩
        obtain ⟨c, hc1, tt, u, rfl, htt, hu⟩ := Paired.get hts hx1
        have x0i : Ex H Hi := ((ex_of_del x0_3 f1).trans e).trans ex_del
        have hck : c.2 ∈ kids d := hkp.mem_iff.mp (List.mem_map_of_mem (List.mem_of_getElem? hc1))
        have hcc : cnt c.2 < cnt d := cnt_kid hck
        have htt' : L2.Rd Hi tt (.tup [c.1, u]) := by
          have nt : tt ≠ p1 := fun z => by
            rw [z] at htt
            rcases htt with q | ⟨o, q⟩
            · rw [h13] at q
              cases q
            · rw [h13] at q
              cases q
          rcases htt with q | ⟨o, q⟩
          · exact .inl (ex_del _ _ (e _ _ (del_get q nt)))
          · exact .inr ⟨o, ex_del _ _ (e _ _ (del_get q nt))⟩
        have htk : cntL ((cs.take (i + 1)).map (·.2)) = cntL ((cs.take i).map (·.2)) + cnt c.2 := by
          rw [List.take_add_one, hc1, List.map_append, cntL_app]
          show _ + cntL [c.2] = _
          rw [cntL, cntL]
          omega
        have hsub : cntL ((cs.take (i + 1)).map (·.2)) + 1 ≤ cnt d := by
          rw [cnt_kids d, ← cntL_perm hkp]
          conv => rhs; rw [← List.take_append_drop (i + 1) cs]
          rw [List.map_append, cntL_app]
          omega
        refine ⟨tt, _, rfl, .inl htt', rfl, _, _, rfl, _, _, rfl, rfl, ?_⟩
        refine ⟨_, rfl, .inl ⟨rfl, _, SqLo hp1⟩, _, rfl, _, rfl, _, rfl, szl (by show 1 ≤ 100000; decide), fun p2 np2 => ?_⟩
        have x2 : Ex Hi (upd Hi p2 (.tup [c.1])) := Ex.new np2
        refine catX_of ((x0i.trans x2) _ _ ht) upd_same (by simp) (by show p0.length + 1 ≤ 100000; omega) fun z Hz xz hz => ?_
        refine ⟨u, c.2, z, _, rfl, hz, hu.ex (x0i.trans (x2.trans xz)), okL_mem ho'.2 hck, by omega, by rw [List.length_append]; show p0.length + 1 + _ ≤ _; omega, fun q2 H4 ts2 x4 _ hq2 hl2 hp2 => ?_⟩
        have xi4 := x2.trans (xz.trans x4)
        have hp14 := xi4 _ _ hp1
        refine ⟨p1, q2, acc, ts2, rfl, rfl, hp14, hq2, szl (by omega), _, _, _, rfl, ?_, upd_same, ?_, ?_⟩
        · rw [del_upd]
          exact e.trans (del_grow' xi4)
        · rw [List.length_append, hal, hl2, htk]
          omega
        · rw [del_upd, List.take_add_one, hc1]
          exact pl_step (pl_ex (del_grow' xi4) hap) (pl_del hp14 (pl_up (c := c) hp2))
      · rintro σ' Hi ⟨acc, o3, o4, rfl, e, hp1, hal, hap⟩
        have x0i : Ex H Hi := ((ex_of_del x0_3 f1).trans e).trans ex_del
        have e3 : cs.take ts.length = cs := List.take_of_length_le (by omega)
        rw [e3] at hal hap
        refine ⟨_, rfl, k p1 Hi acc x0i f1 hp1 ?_ ?_⟩
        · rw [hal, cntL_perm hkp, cnt_kids d]
        · rw [paths_eq, ← hke]
          exact pl_ex ex_del hap
def spPlaces (CI : Addr) : Sp := fun vs H Q E => ∃ (v : V) (d : PyData), vs = [v] ∧ Dt H d v ∧ szA d ∧ (isV d = true → ∀ q H' ts, Ex H H' → H q = none → H' q = some (.lst ts) → ts.length = cnt d → Paired (PlTup H' []) ts (paths d) → Q (.ref q) H') ∧
  (isV d = false → ∀ dd H', Ex H H' → H' dd = some (.xd [("value", v)]) → E (.ref CI) (some dd) H')
theorem sc_places : FnScope ["value"] ["value"] (defScope s_places) := ⟨rfl, rfl, rfl, by decide +kernel, rfl, by decide +kernel, by decide +kernel⟩
theorem bi_places : BindsEq "places" s_places ["value"] := fun _ _ _ _ _ _ us hl => match us, hl with | [_], _ => rfl
theorem isV_un {d : PyData} (h : isV d = true) : okA d = true ∧ cnt d ≤ 60 := by
  unfold isV at h
  rw [Bool.and_eq_true] at h
  exact ⟨h.1, of_decide_eq_true h.2⟩
theorem ok_places (F : Df K mg "places" s_places) (T : Txt K mg) (C_check_value : Cal P w K mg base (L2.CX P w) 5 "check_value" (spCheckV CI)) (C_places_below : Cal P w K mg base CX0 62 "places_below" (spBelowP 60)) : Cal P w K mg base (L2.CX P w) 63 "places" (spPlaces CI) := by
  refine calX F sc_places bi_places (fun vs H Q E h => ?_) (fun f cdv A outer s H vs Q E hr h => ?_)
  · obtain ⟨v, d, rfl, _⟩ := h
    rfl
  · obtain ⟨v, d, rfl, hd, hz, k1, k2⟩ := h
    refine ⟨_, (pss_cons (ps_expr (pe_kP C_check_value hr (by decide) (passes_call (takes_of rfl rfl rfl rfl) (fun _ _ _ _ h => h)) rfl (pa_cons (pv 0) pa_nil)))
 (pss_one (ps_ret (pe_k C_places_below hr (by decide) rfl (pa_cons (pv 0) (pa_cons (pe_tup pa_nil) pa_nil)))))), ?_⟩
    refine ⟨_, rfl, v, d, rfl, hd, hz, fun hv H1 e1 => ?_, k2⟩
    obtain ⟨ho, hc⟩ := isV_un hv
    refine ⟨_, rfl, szl (by show 0 ≤ 100000; decide), fun t nt => ?_⟩
    have x2 : Ex H1 (upd H1 t (.tup [])) := Ex.new nt
    exact ⟨v, d, t, [], rfl, upd_same, hd.ex (e1.trans x2), ho, hc, by show 0 + _ ≤ 200; omega, fun q H' ts e nq hq hl hp => k1 hv q H' ts (e1.trans (x2.trans e)) (ex_free (e1.trans x2) nq) hq hl hp⟩
/-! ### part_at -/
theorem sc_part_at : FnScope ["value", "place", "part", "step"] ["value", "place"] (defScope s_part_at) := ⟨rfl, rfl, rfl, by decide +kernel, rfl, by decide +kernel, by decide +kernel⟩
theorem bi_part_at : BindsEq "part_at" s_part_at ["value", "place"] := fun _ _ _ _ _ _ us hl => match us, hl with | [_, _], _ => rfl
theorem ok_partAt (F : Df K mg "part_at" s_part_at) (T : Txt K mg) : Cal P w K mg base CX0 1 "part_at" spPartL := by
  refine cal0 F sc_part_at bi_part_at (fun vs H Q E h => ?_) (fun f cdv A outer s H vs Q E hr h => ?_)
  · obtain ⟨v, t, p, u, rfl, _⟩ := h
    rfl
  · obtain ⟨v, t, p, u, rfl, ht, hw, k⟩ := h
    refine ⟨_, (pss_cons (ps_set (i := 2) sc_part_at.nd rfl (Or.inl rfl) (pv 0))
 (pss_cons (ps_for PassesOwn.never rfl (pit K (pv 1)) (pg_name (i := 3) sc_part_at.nd rfl (Or.inl rfl)) (pss_one (ps_set (i := 2) sc_part_at.nd rfl (Or.inl rfl) (pe_ix (ixA K) (pv 2) (pv 3) (fun _ _ => rfl)))))
 (pss_one (ps_ret (pv 2))))), ?_⟩
    refine ⟨_, rfl, _, rfl, t, rfl, ⟨_, .inl ht⟩, for_it (walk_tup (K := K) (a := t) (xs := p)) (fun i σ' Hi => Hi = H ∧ ∃ x o3, σ' = [some v, some (.ref t), some x, o3] ∧ Wk H x (p.drop i) u) ?_ ?_ ?_ ?_⟩
    · exact ⟨rfl, v, none, rfl, hw⟩
    · rintro i σ' Hi _ ⟨rfl, _⟩
      exact .inl ht
    · rintro i y σ' Ho Hi hi ⟨rfl, x, o2, rfl, hx⟩ ⟨rfl, hy⟩
      have hdr : p.drop i = y :: p.drop (i + 1) := by
        obtain ⟨h1, h2⟩ := List.getElem?_eq_some_iff.mp hy
        rw [List.drop_eq_getElem_cons h1, h2]
      rw [hdr] at hx
      obtain ⟨z, ⟨a, rfl, hs⟩, hz⟩ := hx
      refine ⟨_, rfl, _, rfl, ?_⟩
      rcases hs with ⟨vs, j, h1, rfl, h3⟩ | ⟨es, j, h1, rfl, h3⟩
      · exact .inl ⟨a, vs, _, z, rfl, rfl, .inl h1, h3, rfl, z, _, rfl, hz⟩
      · exact .inr ⟨a, es, j, z, rfl, rfl, h1, h3, rfl, z, _, rfl, hz⟩
    · rintro σ' Hi ⟨rfl, x, o2, rfl, hx⟩
      rw [List.drop_length] at hx
      have hx : u = x := hx
      subst hx
      exact ⟨_, rfl, k⟩
end
end VL

namespace VL
open PySem PySem.Spec L2 LW
open Evl (Ex)
/-! ### steps as data -/
def stepP (d : PyData) : PyData → Option PyData
  | .int i => stepD d (.int i)
  | .str y => stepD d (.str y)
  | _ => none
def walkP : PyData → List PyData → Bool
  | _, [] => true
  | d, s :: r => match stepP d s with
    | none => false
    | some c => walkP c r
def hasP (d : PyData) : PyData → Bool
  | .tuple es => walkP d es
  | _ => false
theorem dict_val' {H : Hp} {kvs : List (PyData × PyData)} {v : V} (h : Dt H (.dict kvs) v) (ho : okA (.dict kvs) = true) : AllStr kvs ∧ ∃ a es, v = .ref a ∧ L2.Rd H a (.dK es) ∧ (es.map (·.1)).Nodup ∧ DtK H kvs es := by
  rw [okA_kids, Bool.and_eq_true] at ho
  obtain ⟨ha, _⟩ := allStr_of ho.1
  exact ⟨ha, dict_val h ha⟩
/-- a step of the data is one of the heap -/
theorem step_heap {H : Hp} {d c e : PyData} {v x : V} (hd : Dt H d v) (ho : okA d = true) (hx : Dt H e x) (h : stepP d e = some c) : ∃ u, StepV H v x u ∧ Dt H c u ∧ x = (match e with | .int i => V.int i | .str y => V.str y | _ => V.non) := by
  cases e with
  | int i =>
    unfold Dt at hx
    subst hx
    rcases step_cases (s := V.int i) h with ⟨ds, j, rfl, e, h0, hj⟩ | ⟨kvs, y, rfl, e, _⟩
    · cases e
      unfold Dt at hd
      obtain ⟨a, vs, rfl, ha, hl⟩ := hd
      have hlt : i.toNat < vs.length := by
        rw [hl.len]
        exact (List.getElem?_eq_some_iff.mp hj).1
      obtain ⟨c', h1, h2⟩ := hl.get (List.getElem?_eq_getElem hlt)
      rw [hj] at h1
      cases h1
      exact ⟨_, ⟨a, rfl, .inl ⟨vs, i, ha, rfl, atI_of h0 (List.getElem?_eq_getElem hlt)⟩⟩, h2, rfl⟩
    · cases e
  | str y =>
    unfold Dt at hx
    subst hx
    rcases step_cases (s := V.str y) h with ⟨ds, j, rfl, e, h0, hj⟩ | ⟨kvs, z, rfl, e, hz, rfl⟩
    · cases e
    · cases e
      obtain ⟨hal, a, es, rfl, hae, nd, hk⟩ := dict_val' hd ho
      obtain ⟨u, h1, h2⟩ := dtk_get hk hal y hz
      exact ⟨u, ⟨a, rfl, .inr ⟨es, Sum.inr y, hae, rfl, h1⟩⟩, h2, rfl⟩
  | _ => cases h
section
variable {P : Program} {w : World} {K : PySem.W.Frag} {mg : Str → Option Value} {base : Heap} {CI CP : Addr}
/-! ### has_step -/
def spHasStep : Sp := fun vs H Q _ => ∃ (v x : V) (d e : PyData), vs = [v, x] ∧ Dt H d v ∧ okA d = true ∧ Dt H e x ∧ Q (.bl (stepP d e).isSome) H
theorem sc_has_step : FnScope ["value", "step"] ["value", "step"] (defScope s_has_step) := ⟨rfl, rfl, rfl, by decide +kernel, rfl, by decide +kernel, by decide +kernel⟩
theorem bi_has_step : BindsEq "has_step" s_has_step ["value", "step"] := fun _ _ _ _ _ _ us hl => match us, hl with | [_, _], _ => rfl
theorem ok_hasStep (F : Df K mg "has_step" s_has_step) (T : Txt K mg) (C_is_integer : Cal P w K mg base CX0 1 "is_integer" spIsInt) : Cal P w K mg base CX0 2 "has_step" spHasStep := by
  refine cal0 F sc_has_step bi_has_step (fun vs H Q E h => ?_) (fun f cdv A outer s H vs Q E hr h => ?_)
  · obtain ⟨v, x, d, e, rfl, _⟩ := h
    rfl
  · obtain ⟨v, x, d, e, rfl, hd, ho, hx, k⟩ := h
    have hu : (A.deeper (PyProof.Rows.envOfC "has_step" (defScope s_has_step) s.heap.objs.size f cdv)).units + 1 < cLine := by have := hr.un; omega
    refine ⟨_, (pss_cons (ps_if (pt_val (pe_callB (isD K) rfl T.b_isinstance (by decide +kernel) (pa_cons (pv 0) (pa_cons (pe_bltn (v := .ty "dict") rfl T.b_dict (by decide +kernel) rfl) pa_nil)))) (pss_one (ps_ret (pe_and (pe_callB (isD K) rfl T.b_isinstance (by decide +kernel) (pa_cons (pv 1) (pa_cons (pe_bltn (v := .ty "str") rfl T.b_str (by decide +kernel) rfl) pa_nil))) (pe_one (pe_cmp (pc_din hu (pv 1) (pv 0)) rfl))))) pss_nil)
 (pss_cons (ps_if (pt_val (pe_callB (isD K) rfl T.b_isinstance (by decide +kernel) (pa_cons (pv 0) (pa_cons (pe_bltn (v := .ty "list") rfl T.b_list (by decide +kernel) rfl) pa_nil)))) (pss_one (ps_ret (pe_and (pe_k C_is_integer hr (by decide) rfl (pa_cons (pv 1) pa_nil)) (pe_one (pe_chain op_le op_lt pe_int (pv 1) (pe_callB (lnA K) rfl T.b_len (by decide +kernel) (pa_cons (pv 0) pa_nil))))))) pss_nil)
 (pss_one (ps_ret pe_bl)))), ?_⟩
    cases d with
    | dict kvs =>
      refine ⟨v, rfl, v, _, _, true, rfl, hd, rfl, _, rfl, if_t rfl ?_⟩
      cases e with
      | str y =>
        refine ⟨x, rfl, x, _, _, true, rfl, hx, rfl, _, rfl, if_t rfl ?_⟩
        have hxv : x = .str y := by unfold Dt at hx; exact hx
        subst hxv
        obtain ⟨hal, a, es, rfl, hae, nd, hk⟩ := dict_val' hd ho
        refine ⟨_, rfl, _, rfl, a, _, rfl, .inl ⟨es, Sum.inr y, hae, rfl, rfl⟩, ?_⟩
        have q := k
        show Q (.bl (valV es (Sum.inr y : Key)).isSome) H
        have e : (valV es (Sum.inr y : Key)).isSome = (stepP (.dict kvs) (.str y)).isSome := by
          show _ = (if y ∈ names kvs then some (getN kvs y) else none).isSome
          by_cases hy : y ∈ names kvs
          · obtain ⟨u, h1, _⟩ := dtk_get hk hal y hy
            rw [if_pos hy, h1]
            rfl
          · rw [if_neg hy, val_no hk hal hy]
            rfl
        rw [e]
        exact q
      | _ => exact ⟨x, rfl, x, _, _, false, rfl, hx, rfl, _, rfl, if_f rfl k⟩
    | list ds =>
      refine ⟨v, rfl, v, _, _, false, rfl, hd, rfl, _, rfl, if_f rfl ?_⟩
      refine ⟨v, rfl, v, _, _, true, rfl, hd, rfl, _, rfl, if_t rfl ?_⟩
      refine ⟨x, rfl, x, e, rfl, hx, _, rfl, ?_⟩
      cases e with
      | int i =>
        refine if_t rfl ?_
        have hxv : x = .int i := by unfold Dt at hx; exact hx
        subst hxv
        unfold Dt at hd
        obtain ⟨a, xs, rfl, hax, hl⟩ := hd
        have hlen := hl.len
        have e : (stepP (.list ds) (.int i)).isSome = (decide (0 ≤ i) && decide (i < (xs.length : Int))) := by
          show (if 0 ≤ i then ds[i.toNat]? else none).isSome = _
          by_cases h0 : 0 ≤ i
          · rw [if_pos h0, decide_eq_true h0, Bool.true_and]
            by_cases h1 : i < (xs.length : Int)
            · rw [decide_eq_true h1, List.getElem?_eq_getElem (by omega)]
              rfl
            · rw [decide_eq_false h1, List.getElem?_eq_none (by omega)]
              rfl
          · rw [if_neg h0, decide_eq_false h0]
            rfl
        rw [e] at k
        refine ⟨_, rfl, _, _, rfl, rfl, _, rfl, if_b (fun h1 => ?_) (fun h1 => ?_)⟩
        · refine ⟨_, rfl, .inl ⟨_, xs.length, rfl, .inl ⟨xs, .inl hax, rfl⟩, _, _, rfl, rfl, ?_⟩⟩
          rw [show decide (0 ≤ i) = true from h1, Bool.true_and] at k
          exact k
        · rw [show decide (0 ≤ i) = false from h1, Bool.false_and] at k
          exact k
      | _ => exact if_f rfl k
    | _ =>
      refine ⟨v, rfl, v, _, _, false, rfl, hd, rfl, _, rfl, if_f rfl ?_⟩
      refine ⟨v, rfl, v, _, _, false, rfl, hd, rfl, _, rfl, if_f rfl ?_⟩
      cases e <;> exact k
/-! ### has_place -/
def spHasPlace : Sp := fun vs H Q _ => ∃ (v x : V) (d e : PyData), vs = [v, x] ∧ Dt H d v ∧ okA d = true ∧ Dt H e x ∧ Q (.bl (hasP d e)) H
theorem sc_has_place : FnScope ["value", "place", "part", "step"] ["value", "place"] (defScope s_has_place) := ⟨rfl, rfl, rfl, by decide +kernel, rfl, by decide +kernel, by decide +kernel⟩
theorem bi_has_place : BindsEq "has_place" s_has_place ["value", "place"] := fun _ _ _ _ _ _ us hl => match us, hl with | [_, _], _ => rfl
theorem ok_hasPlace (F : Df K mg "has_place" s_has_place) (T : Txt K mg) (C_has_step : Cal P w K mg base CX0 2 "has_step" spHasStep) : Cal P w K mg base CX0 3 "has_place" spHasPlace := by
  refine cal0 F sc_has_place bi_has_place (fun vs H Q E h => ?_) (fun f cdv A outer s H vs Q E hr h => ?_)
  · obtain ⟨v, x, d, e, rfl, _⟩ := h
    rfl
  · obtain ⟨v, x, d, e, rfl, hd, ho, hx, k⟩ := h
    refine ⟨_, (pss_cons (ps_if (pt_not (pt_val (pe_callB (isD K) rfl T.b_isinstance (by decide +kernel) (pa_cons (pv 1) (pa_cons (pe_bltn (v := .ty "tuple") rfl T.b_tuple (by decide +kernel) rfl) pa_nil))))) (pss_one (ps_ret pe_bl)) pss_nil)
 (pss_cons (ps_set (i := 2) sc_has_place.nd rfl (Or.inl rfl) (pv 0))
 (pss_cons (ps_for PassesOwn.never rfl (pit K (pv 1)) (pg_name (i := 3) sc_has_place.nd rfl (Or.inl rfl)) (pss_cons (ps_if (pt_not (pt_val (pe_k C_has_step hr (by decide) rfl (pa_cons (pv 2) (pa_cons (pv 3) pa_nil))))) (pss_one (ps_ret pe_bl)) pss_nil)
 (pss_one (ps_set (i := 2) sc_has_place.nd rfl (Or.inl rfl) (pe_ix (ixA K) (pv 2) (pv 3) (fun _ _ => rfl))))))
 (pss_one (ps_ret pe_bl))))), ?_⟩
    cases e with
    | tuple es =>
      refine ⟨x, rfl, x, _, _, true, rfl, hx, rfl, _, rfl, if_f rfl ?_⟩
      unfold Dt at hx
      obtain ⟨b, xs, rfl, hb, hl⟩ := hx
      refine ⟨_, rfl, _, rfl, b, rfl, ⟨_, .inl hb⟩, for_it (walk_tup (K := K) (a := b) (xs := xs)) (fun i σ' Hi => Hi = H ∧ ∃ u c o3, σ' = [some v, some (.ref b), some u, o3] ∧ Dt H c u ∧ okA c = true ∧ hasP d (.tuple es) = walkP c (es.drop i)) ?_ ?_ ?_ ?_⟩
      · exact ⟨rfl, v, d, none, rfl, hd, ho, rfl⟩
      · rintro i σ' Hi _ ⟨rfl, _⟩
        exact .inl hb
      · rintro i y σ' Ho Hi hi ⟨rfl, u, c, o3, rfl, hu, hoc, hw⟩ ⟨rfl, hy⟩
        obtain ⟨ed, he1, he2⟩ := hl.get hy
        have hdr : es.drop i = ed :: es.drop (i + 1) := by
          obtain ⟨h1, h2⟩ := List.getElem?_eq_some_iff.mp he1
          rw [List.drop_eq_getElem_cons h1, h2]
        rw [hdr] at hw
        have hw : hasP d (.tuple es) = (match stepP c ed with | none => false | some c => walkP c (es.drop (i + 1))) := hw
        refine ⟨_, rfl, _, rfl, u, y, c, ed, rfl, hu, hoc, he2, _, rfl, ?_⟩
        cases hs : stepP c ed with
        | none =>
          refine if_t rfl ?_
          rw [hs] at hw
          rw [hw] at k
          exact k
        | some c' =>
          refine if_f rfl ?_
          rw [hs] at hw
          obtain ⟨u', ⟨a, rfl, hst⟩, hu', _⟩ := step_heap hu hoc he2 hs
          have hoc' : okA c' = true := by
            cases ed with
            | int j => exact step_ok (s := V.int j) hs hoc
            | str j => exact step_ok (s := V.str j) hs hoc
            | _ => cases hs
          refine ⟨_, rfl, _, rfl, ?_⟩
          rcases hst with ⟨vs, j, h1, rfl, h3⟩ | ⟨ks, j, h1, rfl, h3⟩
          · exact .inl ⟨a, vs, _, u', rfl, rfl, .inl h1, h3, rfl, u', c', _, rfl, hu', hoc', hw⟩
          · exact .inr ⟨a, ks, j, u', rfl, rfl, h1, h3, rfl, u', c', _, rfl, hu', hoc', hw⟩
      · rintro σ' Hi ⟨rfl, u, c, o3, rfl, hu, hoc, hw⟩
        rw [List.drop_of_length_le (by rw [hl.len]; exact Nat.le_refl _)] at hw
        have hw : hasP d (.tuple es) = true := hw
        rw [hw] at k
        exact k
    | _ => exact ⟨x, rfl, x, _, _, false, rfl, hx, rfl, _, rfl, if_t rfl k⟩
/-! ### head_of, head -/
def spHeadOf : Sp := fun vs H Q _ => ∃ (v : V) (d : PyData), vs = [v] ∧ Dt H d v ∧ okA d = true ∧ ∀ t H', Ex H H' → Dt H' (headD d) t → Q t H'
theorem sc_head_of : FnScope ["value", "name", "child"] ["value"] (defScope s_head_of) := ⟨rfl, rfl, rfl, by decide +kernel, rfl, by decide +kernel, by decide +kernel⟩
theorem bi_head_of : BindsEq "head_of" s_head_of ["value"] := fun _ _ _ _ _ _ us hl => match us, hl with | [_], _ => rfl
theorem srt_len {H : Hp} {l ys : List Str} (p : ys.Perm l) (s : PyProof.Rows.sortedS ys = true) : (srt l).length = l.length := by
  rw [← srt_of p s]
  exact p.length_eq
theorem ok_headOf (F : Df K mg "head_of" s_head_of) (T : Txt K mg) (C_children : Cal P w K mg base CX0 1 "children" spKids) : Cal P w K mg base CX0 2 "head_of" spHeadOf := by
  refine cal0 F sc_head_of bi_head_of (fun vs H Q E h => ?_) (fun f cdv A outer s H vs Q E hr h => ?_)
  · obtain ⟨v, d, rfl, _⟩ := h
    rfl
  · obtain ⟨v, d, rfl, hd, ho, k⟩ := h
    refine ⟨_, (pss_cons (ps_if (pt_val (pe_callB (isD K) rfl T.b_isinstance (by decide +kernel) (pa_cons (pv 0) (pa_cons (pe_bltn (v := .ty "dict") rfl T.b_dict (by decide +kernel) rfl) pa_nil)))) (pss_one (ps_ret (pe_tup (pa_cons pe_str (pa_cons (pe_callTy call_tuple_of rfl T.b_tuple (by decide +kernel) (pa_cons (pe_lc (own := [("name", 1), ("child", 2)]) (by rfl) sc_head_of.nd (pil K (pe_k C_children hr (by decide) rfl (pa_cons (pv 0) pa_nil))) (blkOk_by (own := [("name", 1), ("child", 2)]) (N := ["value", "name", "child"]) (sc := defScope s_head_of) (by decide +kernel)) (fun _ _ _ _ _ => (pgt (n := 2) K rfl (pgs_cons (pg_name (i := 1) sc_head_of.nd rfl (Or.inl rfl)) (pgs_cons (pg_name (i := 2) sc_head_of.nd rfl (Or.inl rfl)) pgs_nil)))) (fun _ _ _ _ _ => pts_nil) (fun _ _ _ _ _ => (pv 1))) pa_nil)) pa_nil))))) pss_nil)
 (pss_cons (ps_if (pt_val (pe_callB (isD K) rfl T.b_isinstance (by decide +kernel) (pa_cons (pv 0) (pa_cons (pe_bltn (v := .ty "list") rfl T.b_list (by decide +kernel) rfl) pa_nil)))) (pss_one (ps_ret (pe_tup (pa_cons pe_str (pa_cons (pe_callB (lnA K) rfl T.b_len (by decide +kernel) (pa_cons (pv 0) pa_nil)) pa_nil))))) pss_nil)
 (pss_cons (ps_if (pt_val (pe_callB (isD K) rfl T.b_isinstance (by decide +kernel) (pa_cons (pv 0) (pa_cons (pe_bltn (v := .ty "str") rfl T.b_str (by decide +kernel) rfl) pa_nil)))) (pss_one (ps_ret (pe_tup (pa_cons pe_str (pa_cons (pv 0) pa_nil))))) pss_nil)
 (pss_one (ps_ret (pe_tup (pa_cons pe_str (pa_cons (pv 0) pa_nil)))))))), ?_⟩
    have ho' := ho
    rw [okA_kids, Bool.and_eq_true] at ho'
    cases d with
    | dict kvs =>
      refine ⟨v, rfl, v, _, _, true, rfl, hd, rfl, _, rfl, if_t rfl ?_⟩
      refine ⟨_, rfl, v, _, H, rfl, hd, (fun _ _ h => h), ho'.1, fun q H1 ts cs x0_1 nq hq hts hcs => ?_⟩
      have hke := kids_eq hcs
      have htl : ts.length = cs.length := Paired.len hts
      have hkl : cs.length ≤ 60 := by
        have := kids_len ho'.1
        have := (kids_perm hcs (kids_ns hd ho'.1)).length_eq
        rw [List.length_map] at this
        omega
      have hkd : kidsOf (.dict kvs) = (srt (names kvs)).map fun y => (V.str y, getN kvs y) := rfl
      refine ⟨q, rfl, ⟨_, SqLo hq⟩, fun D nD => lc_gr (walk_list (xs := ts)) (fun i acc _ => acc = (cs.take i).map (·.1)) nD (by omega) rfl (fun H' e => SqLo (e _ _ hq)) ?_ ?_⟩
      · rintro i x acc Ho Hi hi g g' gD gl rfl ⟨rfl, hx1⟩
        obtain ⟨c, hc1, t, u, rfl, ht, hu⟩ := Paired.get hts hx1
        refine ⟨t, _, rfl, .inl (rd_ex g ht), rfl, _, _, rfl, _, _, rfl, rfl, rfl, _, rfl, lc_put g' gD gl (by omega) (fun _ _ h => h) ?_⟩
        rw [List.take_add_one, List.map_append, hc1]
        rfl
      · rintro acc H2 g g' gD gl rfl
        have e3 : cs.take ts.length = cs := List.take_of_length_le (by omega)
        rw [e3, hke, hkd, List.map_map] at gD
        refine ⟨D, _, rfl, .inl ⟨SqLo gD, fun p2 np2 => ?_⟩⟩
        obtain ⟨H3, hH3, x2_3, h3⟩ := newH _ np2
        rw [hH3]
        clear hH3
        refine ⟨szl (by show 2 ≤ 100000; decide), fun p4 np4 => ?_⟩
        have x3_4 : Ex H3 (upd H3 p4 (.tup [V.str "record", V.ref p2])) := Ex.new np4
        refine k _ _ (x0_1.trans (g.trans (x2_3.trans x3_4))) (dt_tup upd_same (DtL.cons (dt_str _) (DtL.cons (dt_tup (x3_4 _ _ h3) ?_) DtL.nil)))
        have : ∀ (l : List Str) (HH : Hp), DtL HH (l.map PyData.str) (l.map ((fun x => x.1) ∘ fun y => (V.str y, getN kvs y))) := by
          intro l HH
          induction l with
          | nil => exact DtL.nil
          | cons a r ih => exact DtL.cons (dt_str _) ih
        exact this _ _
    | list ds =>
      refine ⟨v, rfl, v, _, _, false, rfl, hd, rfl, _, rfl, if_f rfl ?_⟩
      refine ⟨v, rfl, v, _, _, true, rfl, hd, rfl, _, rfl, if_t rfl ?_⟩
      unfold Dt at hd
      obtain ⟨a, xs, rfl, hax, hl⟩ := hd
      refine ⟨_, rfl, .inl ⟨_, xs.length, rfl, .inl ⟨xs, .inl hax, rfl⟩, szl (by show 2 ≤ 100000; decide), fun p4 np4 => ?_⟩⟩
      rw [hl.len]
      exact k _ _ (Ex.new np4) (dt_tup upd_same (DtL.cons (dt_str _) (DtL.cons (dt_int _) DtL.nil)))
    | str x =>
      refine ⟨v, rfl, v, _, _, false, rfl, hd, rfl, _, rfl, if_f rfl ?_⟩
      refine ⟨v, rfl, v, _, _, false, rfl, hd, rfl, _, rfl, if_f rfl ?_⟩
      refine ⟨v, rfl, v, _, _, true, rfl, hd, rfl, _, rfl, if_t rfl ?_⟩
      refine ⟨_, rfl, szl (by show 2 ≤ 100000; decide), fun p4 np4 => ?_⟩
      exact k _ _ (Ex.new np4) (dt_tup upd_same (DtL.cons (dt_str _) (DtL.cons (hd.ex (Ex.new np4)) DtL.nil)))
    | int i =>
      refine ⟨v, rfl, v, _, _, false, rfl, hd, rfl, _, rfl, if_f rfl ?_⟩
      refine ⟨v, rfl, v, _, _, false, rfl, hd, rfl, _, rfl, if_f rfl ?_⟩
      refine ⟨v, rfl, v, _, _, false, rfl, hd, rfl, _, rfl, if_f rfl ?_⟩
      refine ⟨_, rfl, szl (by show 2 ≤ 100000; decide), fun p4 np4 => ?_⟩
      exact k _ _ (Ex.new np4) (dt_tup upd_same (DtL.cons (dt_str _) (DtL.cons (hd.ex (Ex.new np4)) DtL.nil)))
    | _ => cases ho
end
end VL

namespace VL
open PySem PySem.Spec L2 LW
open Evl (Ex)
section
variable {P : Program} {w : World} {K : PySem.W.Frag} {mg : Str → Option Value} {base : Heap} {CI CP : Addr}
/-! ### copy_of -/
theorem sc_copy_of : FnScope ["value", "name", "child"] ["value"] (defScope s_copy_of) := ⟨rfl, rfl, rfl, by decide +kernel, rfl, by decide +kernel, by decide +kernel⟩
theorem bi_copy_of : BindsEq "copy_of" s_copy_of ["value"] := fun _ _ _ _ _ _ us hl => match us, hl with | [_], _ => rfl
theorem ok_copy (F : Df K mg "copy_of" s_copy_of) (T : Txt K mg) : ∀ n, Cal P w K mg base CX0 (n + 1) "copy_of" (spTwin n)
  | 0 => cal_no F sc_copy_of bi_copy_of fun vs H Q E h => by
    obtain ⟨v, d, _, _, _, hc, _⟩ := h
    have := cnt_pos d
    omega
  | n + 1 => by
    have C_copy_of := ok_copy F T n
    refine cal0 F sc_copy_of bi_copy_of (fun vs H Q E h => ?_) (fun f cdv A outer s H vs Q E hr h => ?_)
    · obtain ⟨v, d, rfl, _⟩ := h
      rfl
    · obtain ⟨v, d, rfl, hd, ho, hc, k⟩ := h
      refine ⟨_, (pss_cons (ps_if (pt_val (pe_callB (isD K) rfl T.b_isinstance (by decide +kernel) (pa_cons (pv 0) (pa_cons (pe_bltn (v := .ty "dict") rfl T.b_dict (by decide +kernel) rfl) pa_nil)))) (pss_one (ps_lockA (ps_ret (pe_dc (own := [("name", 1)]) rfl sc_copy_of.nd (pi_ka (pv 0)) (blkOk_by (own := [("name", 1)]) (N := ["value", "name", "child"]) (sc := defScope s_copy_of) (by decide +kernel)) (fun _ _ _ _ _ => (pg_name (i := 1) sc_copy_of.nd rfl (Or.inl rfl))) (fun _ _ _ _ _ => pts_nil) (fun _ _ _ _ _ => (pv 1)) (fun _ _ _ _ _ => (pe_k C_copy_of hr (by omega) rfl (pa_cons (pe_ix (ixA K) (pv 0) (pv 1) (fun _ _ => rfl)) pa_nil))))))) pss_nil)
 (pss_cons (ps_if (pt_val (pe_callB (isD K) rfl T.b_isinstance (by decide +kernel) (pa_cons (pv 0) (pa_cons (pe_bltn (v := .ty "list") rfl T.b_list (by decide +kernel) rfl) pa_nil)))) (pss_one (ps_ret (pe_lc (own := [("child", 2)]) (by rfl) sc_copy_of.nd (pil K (pv 0)) (blkOk_by (own := [("child", 2)]) (N := ["value", "name", "child"]) (sc := defScope s_copy_of) (by decide +kernel)) (fun _ _ _ _ _ => (pg_name (i := 2) sc_copy_of.nd rfl (Or.inl rfl))) (fun _ _ _ _ _ => pts_nil) (fun _ _ _ _ _ => (pe_k C_copy_of hr (by omega) rfl (pa_cons (pv 2) pa_nil)))))) pss_nil)
 (pss_one (ps_ret (pv 0))))), ?_⟩
      have ho' := ho
      rw [okA_kids, Bool.and_eq_true] at ho'
      cases d with
      | list ds =>
        refine ⟨v, rfl, v, _, _, false, rfl, hd, rfl, _, rfl, if_f rfl ?_⟩
        refine ⟨v, rfl, v, _, _, true, rfl, hd, rfl, _, rfl, if_t rfl ?_⟩
        unfold Dt at hd
        obtain ⟨a, xs, rfl, hax, hl⟩ := hd
        have hlen := hl.len
        have h60 : ds.length < 60 := of_decide_eq_true ho'.1
        refine ⟨_, rfl, a, rfl, ⟨_, .inl hax⟩, fun D nD => lc_gr (walk_list (K := K) (a := a) (xs := xs)) (fun i acc Hc => TrL (ds.take i) (fr H Hc) acc) nD (by omega) (by unfold TrL; rfl) (fun H' e => .inl (rd_ex e hax)) ?_ ?_⟩
        · rintro i x acc Ho Hi hi e e' hD hl' hr' ⟨rfl, hx1⟩
          obtain ⟨c, hc1, hcd⟩ := hl.get hx1
          have hkid : c ∈ ds := List.mem_of_getElem? hc1
          have hcc : cnt c < cnt (.list ds) := cnt_kid (d := .list ds) hkid
          refine ⟨rfl, _, rfl, x, c, rfl, hcd.ex e, okL_mem ho'.2 hkid, by omega, fun u H4 e4 htr => lc_put e' hD hl' (by omega) e4 ?_⟩
          rw [List.take_add_one, hc1]
          exact TrL.snoc hr' htr fr_apart (fr_mono (del_grow' e4)) (fr_in hD (fun b hb => ex_free e hb))
        · rintro acc Hi e e' hD hl' hr'
          have e3 : ds.take xs.length = ds := List.take_of_length_le (by omega)
          rw [e3] at hr'
          refine k (.ref D) Hi e ?_
          unfold Tr
          exact ⟨D, acc, rfl, fr_get nD hD, hr'.ex fr_out⟩
      | dict kvs =>
        refine ⟨v, rfl, v, _, _, true, rfl, hd, rfl, _, rfl, if_t rfl ?_⟩
        obtain ⟨ha, hlen⟩ := allStr_of ho'.1
        obtain ⟨a, es, rfl, hae, nd, hk⟩ := dict_val hd ha
        have hnm := dtk_names hk ha
        have hks := names_kV hnm
        have nds := nodup_names hk ha nd
        have hln : (names kvs).length = kvs.length := by
          unfold names
          rw [List.length_map]
        refine lockA_eq hae True.intro ?_
        intro Hf o D' th hof hf rx hth hta kr _
        have dmf : ∀ b, Hf b = none → H b = none := fun b hb => by
          by_cases e : b = a
          · rw [e, hf] at hb
            cases hb
          · rw [hof _ e] at hb
            exact hb
        refine ⟨_, rfl, a, o, _, (names kvs).map V.str, rfl, hf, .inl ⟨es, rfl, hks.symm⟩, fun D nD => dc_it walk_ka (fun i Hi => ∃ es', Ex Hf (del Hi D) ∧ Hi D = some (.dK es') ∧ TrK (kvs.take i) (fr H (del Hi D)) es' ∧ es'.map (·.1) = ((names kvs).take i).map fun y => (Sum.inr y : Key)) ?_ ?_ ?_ ?_⟩
        · refine ⟨[], ?_, upd_same, by unfold TrK; rfl, rfl⟩
          rw [del_none nD]
          exact fun _ _ h => h
        · rintro i Hi _ ⟨es', h1, _⟩
          exact ex_del _ _ (h1 _ _ hf)
        · rintro i x Ho Hi hi ⟨es', g1, gD, gt, gk⟩ ⟨rfl, hx1⟩
          obtain ⟨y, hy, rfl⟩ : ∃ y, (names kvs)[i]? = some y ∧ V.str y = x := by
            rw [List.getElem?_map] at hx1
            cases hp : (names kvs)[i]? with
            | none => rw [hp] at hx1; cases hx1
            | some p => rw [hp] at hx1; exact ⟨p, rfl, Option.some.inj hx1⟩
          have hym := List.mem_of_getElem? hy
          have hkat := kvs_at ha nds hy
          have hkid : getN kvs y ∈ kids (.dict kvs) := List.mem_map.mpr ⟨_, List.mem_of_getElem? hkat, rfl⟩
          have hcc : cnt (getN kvs y) < cnt (.dict kvs) := cnt_kid hkid
          obtain ⟨u, hu1, hu2⟩ := dtk_get hk ha y hym
          have xfi : Ex Hf Hi := g1.trans ex_del
          have hri : RdX H Hi := rx.trans (rdx_ex xfi)
          have dmi : ∀ b, Hi b = none → H b = none := fun b hb => dmf b (ex_free xfi hb)
          refine ⟨rfl, _, rfl, _, rfl, _, rfl, .inr ⟨a, es, Sum.inr y, u, rfl, rfl, .inr ⟨o, xfi _ _ hf⟩, hu1, u, _, rfl, hu2.rdx hri, okL_mem ho'.2 hkid, by omega, fun w' H4 e4 htr => ?_⟩⟩
          have hl5 : es'.length ≤ 8 := by
            have := congrArg List.length gk
            rw [List.length_map, List.length_map, List.length_take] at this
            omega
          have hno : valV es' (Sum.inr y : Key) = none := val_keys (by
            rw [gk]
            intro hm
            obtain ⟨z, hz, hz2⟩ := List.mem_map.mp hm
            cases hz2
            exact nodup_take nds hy hz)
          refine ⟨es', Sum.inr y, rfl, e4 _ _ gD, szlt (by omega), _, ?_, upd_same, ?_, ?_⟩
          · rw [del_upd]
            exact g1.trans (del_grow' e4)
          · rw [putK_new _ hno, del_upd, List.take_add_one, hkat]
            exact TrK.snoc gt htr rfl fr_apart (fr_mono (del_grow' e4)) (fr_in gD dmi)
          · rw [putK_new _ hno, List.map_append, gk, List.take_add_one, hy, List.map_append]
            rfl
        · rintro Hi ⟨es', g1, gD, gt, gk⟩
          have xfi : Ex Hf Hi := g1.trans ex_del
          have hai := xfi _ _ hf
          obtain ⟨t1, t2⟩ := hta Hi hai
          have na : D ≠ a := fun z => by
            rw [z, hf] at nD
            cases nD
          have nDH := dmf _ nD
          refine kr _ Hi hai (k (.ref D) _ ?_ ?_)
          · intro b x q
            by_cases eb : b = a
            · rw [eb, t1]
              rw [eb] at q
              exact q
            · rw [hth _ _ eb]
              exact xfi b x (by rw [hof _ eb]; exact q)
          · have e3 : kvs.take ((names kvs).map V.str).length = kvs := List.take_of_length_le (by rw [List.length_map]; omega)
            have e4 : (names kvs).take ((names kvs).map V.str).length = names kvs := List.take_of_length_le (by rw [List.length_map]; omega)
            rw [e3] at gt
            rw [e4, ← hnm] at gk
            unfold Tr
            refine ⟨D, es', rfl, fr_get nDH (by rw [hth _ _ na]; exact gD), by rw [gk]; exact nd, gt.ex fun b x q => ?_⟩
            obtain ⟨n1, q⟩ := fr_some q
            have nb : b ≠ D := fun e => by
              rw [e, del_same] at q
              cases q
            have nba : b ≠ a := fun e => by
              obtain ⟨oo, q2⟩ := rd_some hae
              rw [e, q2] at n1
              cases n1
            exact del_get (fr_get n1 (by rw [hth _ _ nba]; exact ex_del _ _ q)) nb
      | _ =>
        refine ⟨v, rfl, v, _, _, false, rfl, hd, rfl, _, rfl, if_f rfl ?_⟩
        refine ⟨v, rfl, v, _, _, false, rfl, hd, rfl, _, rfl, if_f rfl ⟨_, rfl, k _ H (fun _ _ h => h) (tr_leaf hd ho (fun _ z => nomatch z) (fun _ z => nomatch z) _)⟩⟩
/-! ### at -/
/-- the steps of a place told as data lead as they do in the heap -/
theorem walk_heap {H : Hp} : ∀ {es : List PyData} {xs : List V} {d : PyData} {v : V}, Dt H d v → okA d = true → DtL H es xs → walkP d es = true → ∃ c u, Wk H v xs u ∧ Dt H c u ∧ At d xs c
  | [], xs, d, v, hd, ho, hl, h => by
    unfold DtL at hl
    subst hl
    exact ⟨d, v, rfl, hd, rfl⟩
  | e :: es, _, d, v, hd, ho, hl, h => by
    unfold DtL at hl
    obtain ⟨x, t, rfl, h1, h2⟩ := hl
    have h : (match stepP d e with | none => false | some c => walkP c es) = true := h
    cases hs : stepP d e with
    | none =>
      rw [hs] at h
      cases h
    | some c =>
      rw [hs] at h
      obtain ⟨u, hst, hu, hxe⟩ := step_heap hd ho h1 hs
      have hsd : stepD d x = some c := by
        rw [hxe]
        cases e with
        | int j => exact hs
        | str j => exact hs
        | _ => cases hs
      obtain ⟨c', u', w1, w2, w3⟩ := walk_heap hu (step_ok hsd ho) h2 h
      exact ⟨c', u', ⟨u, hst, w1⟩, w2, ⟨c, hsd, w3⟩⟩
theorem at_cnt : ∀ {p : List V} {d c : PyData}, At d p c → cnt c ≤ cnt d
  | [], d, c, h => by
    have h : c = d := h
    rw [h]
    exact Nat.le_refl _
  | s :: p, d, c, h => by
    obtain ⟨e, h1, h2⟩ := h
    have := cnt_kid (step_kid h1)
    have := at_cnt h2
    omega
def spAt (CI CP : Addr) : Sp := fun vs H Q E => ∃ (v x : V) (d e : PyData), vs = [v, x] ∧ Dt H d v ∧ szA d ∧ Dt H e x ∧
  (isV d = true → hasP d e = true → ∀ (b : Addr) (xs : List V) (c : PyData) (pv u : V) H', x = .ref b → L2.Rd H b (.tup xs) → Wk H v xs pv → Dt H c pv → At d xs c → Ex H H' → Tr c (fr H H') u → Q u H') ∧
  (isV d = true → hasP d e = false → ∀ dd H', Ex H H' → H' dd = some (.xd [("place", x)]) → E (.ref CP) (some dd) H') ∧
  (isV d = false → ∀ dd H', Ex H H' → H' dd = some (.xd [("value", v)]) → E (.ref CI) (some dd) H')
theorem sc_at : FnScope ["value", "place"] ["value", "place"] (defScope s_at) := ⟨rfl, rfl, rfl, by decide +kernel, rfl, by decide +kernel, by decide +kernel⟩
theorem bi_at : BindsEq "at" s_at ["value", "place"] := fun _ _ _ _ _ _ us hl => match us, hl with | [_, _], _ => rfl
theorem ok_at (F : Df K mg "at" s_at) (T : Txt K mg) (C_check_value : Cal P w K mg base (L2.CX P w) 5 "check_value" (spCheckV CI)) (C_has_place : Cal P w K mg base CX0 3 "has_place" spHasPlace) (C_part_at : Cal P w K mg base CX0 1 "part_at" spPartL)
    (C_copy_of : Cal P w K mg base CX0 61 "copy_of" (spTwin 60)) (X_InvalidPlace : XMk P w K mg base 1 "InvalidPlace" CP "place") : Cal P w K mg base (L2.CX P w) 62 "at" (spAt CI CP) := by
  refine calX F sc_at bi_at (fun vs H Q E h => ?_) (fun f cdv A outer s H vs Q E hr h => ?_)
  · obtain ⟨v, x, d, e, rfl, _⟩ := h
    rfl
  · obtain ⟨v, x, d, e, rfl, hd, hz, hx, k1, k2, k3⟩ := h
    refine ⟨_, (pss_cons (ps_expr (pe_kP C_check_value hr (by decide) (passes_call (takes_of rfl rfl rfl rfl) (fun _ _ _ _ h => h)) rfl (pa_cons (pv 0) pa_nil)))
 (pss_cons (ps_if (pt_not (pt_val (pe_k C_has_place hr (by decide) rfl (pa_cons (pv 0) (pa_cons (pv 1) pa_nil))))) (pss_one (ps_raise rfl (takes_of rfl rfl rfl rfl) (pmk_x X_InvalidPlace hr (by decide) rfl (pa_cons (pv 1) pa_nil)))) pss_nil)
 (pss_one (ps_ret (pe_k C_copy_of hr (by decide) rfl (pa_cons (pe_k C_part_at hr (by decide) rfl (pa_cons (pv 0) (pa_cons (pv 1) pa_nil))) pa_nil)))))), ?_⟩
    refine ⟨_, rfl, v, d, rfl, hd, hz, fun hv H1 e1 => ?_, k3⟩
    obtain ⟨ho, hc⟩ := isV_un hv
    refine ⟨_, rfl, _, rfl, v, x, d, e, rfl, hd.ex e1, ho, hx.ex e1, _, rfl, ?_⟩
    cases hp : hasP d e with
    | false => exact if_t rfl ⟨_, rfl, xmk_go fun dd H2 _ e2 hdd => k2 hv hp dd H2 (e1.trans e2) hdd⟩
    | true =>
      refine if_f rfl ?_
      cases e with
      | tuple es =>
        have hx2 := hx
        unfold Dt at hx2
        obtain ⟨b, xs, rfl, hb, hl⟩ := hx2
        obtain ⟨c, u, w1, w2, w3⟩ := walk_heap hd ho hl hp
        refine ⟨_, rfl, _, rfl, v, b, xs, u, rfl, rd_ex e1 hb, w1.ex e1, u, c, rfl, w2.ex e1, at_ok w3 ho, ?_, fun u' H2 e2 htr => ?_⟩
        · have := at_cnt w3
          omega
        · exact k1 hv hp b xs c u u' H2 rfl hb w1 w2 w3 (e1.trans e2) (htr.ex (fr_base (dm_ex e1)))
      | _ => cases hp
/-! ### _law_top -/
theorem sc__law_top : FnScope ["_law_value_here", "_law_one"] ["_law_value_here"] (defScope s__law_top) := ⟨rfl, rfl, rfl, by decide +kernel, rfl, by decide +kernel, by decide +kernel⟩
theorem bi__law_top : BindsEq "_law_top" s__law_top ["_law_value_here"] := fun _ _ _ _ _ _ us hl => match us, hl with | [_], _ => rfl
theorem ok_top (F : Df K mg "_law_top" s__law_top) (T : Txt K mg) : Cal P w K mg base CX0 1 "_law_top" spHeadOf := by
  refine cal0 F sc__law_top bi__law_top (fun vs H Q E h => ?_) (fun f cdv A outer s H vs Q E hr h => ?_)
  · obtain ⟨v, d, rfl, _⟩ := h
    rfl
  · obtain ⟨v, d, rfl, hd, ho, k⟩ := h
    refine ⟨_, (pss_cons (ps_if (pt_val (pe_callB (isD K) rfl T.b_isinstance (by decide +kernel) (pa_cons (pv 0) (pa_cons (pe_bltn (v := .ty "dict") rfl T.b_dict (by decide +kernel) rfl) pa_nil)))) (pss_one (ps_lockA (ps_ret (pe_tup (pa_cons pe_str (pa_cons (pe_callTy call_tuple_of rfl T.b_tuple (by decide +kernel) (pa_cons (pe_callB (srK K) rfl T.b_sorted (by decide +kernel) (pa_cons (pe_lc (own := [("_law_one", 1)]) (by rfl) sc__law_top.nd (pi_ka (pv 0)) (blkOk_by (own := [("_law_one", 1)]) (N := ["_law_value_here", "_law_one"]) (sc := defScope s__law_top) (by decide +kernel)) (fun _ _ _ _ _ => (pg_name (i := 1) sc__law_top.nd rfl (Or.inl rfl))) (fun _ _ _ _ _ => pts_nil) (fun _ _ _ _ _ => (pe_callTy strS rfl T.b_str (by decide +kernel) (pa_cons (pv 1) pa_nil)))) pa_nil)) pa_nil)) pa_nil)))))) pss_nil)
 (pss_cons (ps_if (pt_val (pe_callB (isD K) rfl T.b_isinstance (by decide +kernel) (pa_cons (pv 0) (pa_cons (pe_bltn (v := .ty "list") rfl T.b_list (by decide +kernel) rfl) pa_nil)))) (pss_one (ps_ret (pe_tup (pa_cons pe_str (pa_cons (pe_callB (lnA K) rfl T.b_len (by decide +kernel) (pa_cons (pv 0) pa_nil)) pa_nil))))) pss_nil)
 (pss_one (ps_ret (pe_ix (ixl K) (pe_lst (pa_cons (pe_tup (pa_cons pe_str (pa_cons (pv 0) pa_nil))) (pa_cons (pe_tup (pa_cons pe_str (pa_cons (pv 0) pa_nil))) pa_nil))) (pe_callTy call_int1 rfl T.b_int (by decide +kernel) (pa_cons (pe_callB (isD K) rfl T.b_isinstance (by decide +kernel) (pa_cons (pv 0) (pa_cons (pe_bltn (v := .ty "str") rfl T.b_str (by decide +kernel) rfl) pa_nil))) pa_nil)) (fun _ _ => rfl)))))), ?_⟩
    have ho' := ho
    rw [okA_kids, Bool.and_eq_true] at ho'
    cases d with
    | dict kvs =>
      refine ⟨v, rfl, v, _, _, true, rfl, hd, rfl, _, rfl, if_t rfl ?_⟩
      obtain ⟨ha, hlen⟩ := allStr_of ho'.1
      obtain ⟨a, es, rfl, hae, nd, hk⟩ := dict_val hd ha
      have hnm := dtk_names hk ha
      have hks := names_kV hnm
      have hln : (names kvs).length = kvs.length := by
        unfold names
        rw [List.length_map]
      refine lockA_any hae True.intro ?_
      intro Hf o D' th rx hf hno hth kf _
      refine ⟨_, rfl, a, o, _, (names kvs).map V.str, rfl, hf, .inl ⟨es, rfl, hks.symm⟩, fun D1 nD1 => lc_gr walk_ka (fun i acc _ => acc = ((names kvs).take i).map V.str) nD1 (by rw [List.length_map]; omega) rfl (fun H' e => e _ _ hf) ?_ ?_⟩
      · rintro i x acc Ho Hi hi e e' hD hl rfl ⟨rfl, hx1⟩
        obtain ⟨y, hy, rfl⟩ : ∃ y, (names kvs)[i]? = some y ∧ V.str y = x := by
          rw [List.getElem?_map] at hx1
          cases hp : (names kvs)[i]? with
          | none => rw [hp] at hx1; cases hx1
          | some p => rw [hp] at hx1; exact ⟨p, rfl, Option.some.inj hx1⟩
        refine ⟨rfl, _, rfl, y, rfl, lc_put e' hD hl (by rw [List.length_map] at hi; omega) (fun _ _ h => h) ?_⟩
        rw [List.take_add_one, List.map_append, hy]
        rfl
      · rintro acc H2 e e' hD hl rfl
        have e1 : (names kvs).take ((names kvs).map V.str).length = names kvs := List.take_of_length_le (by rw [List.length_map]; exact Nat.le_refl _)
        rw [e1] at hD
        refine ⟨D1, names kvs, rfl, SqLo hD, by omega, fun ys py pp sy np => ?_⟩
        have x2_3 : Ex H2 (upd H2 py (.lst (ys.map V.str))) := Ex.new np
        refine ⟨py, _, rfl, .inl ⟨SqLo upd_same, fun p4 np4 => ?_⟩⟩
        obtain ⟨H4, hH4, x3_4, h4⟩ := newH _ np4
        rw [hH4]
        clear hH4
        refine ⟨szl (by show 2 ≤ 100000; decide), fun p5 np5 => ?_⟩
        have x4_5 : Ex H4 (upd H4 p5 (.tup [V.str "record", V.ref p4])) := Ex.new np5
        have xf5 := e.trans (x2_3.trans (x3_4.trans x4_5))
        refine kf _ _ xf5 ?_
        obtain ⟨t1, t2, t3⟩ := hth _ xf5
        refine k _ _ t1 (Dt.rdx t2 (dt_tup upd_same (DtL.cons (dt_str _) (DtL.cons (dt_tup (x4_5 _ _ h4) ?_) DtL.nil))))
        rw [← srt_of pp sy]
        have : ∀ (l : List Str) (HH : Hp), DtL HH (l.map PyData.str) (l.map V.str) := by
          intro l HH
          induction l with
          | nil => exact DtL.nil
          | cons a r ih => exact DtL.cons (dt_str _) ih
        exact this _ _
    | list ds =>
      refine ⟨v, rfl, v, _, _, false, rfl, hd, rfl, _, rfl, if_f rfl ?_⟩
      refine ⟨v, rfl, v, _, _, true, rfl, hd, rfl, _, rfl, if_t rfl ?_⟩
      unfold Dt at hd
      obtain ⟨a, xs, rfl, hax, hl⟩ := hd
      refine ⟨_, rfl, .inl ⟨_, xs.length, rfl, .inl ⟨xs, .inl hax, rfl⟩, szl (by show 2 ≤ 100000; decide), fun p4 np4 => ?_⟩⟩
      rw [hl.len]
      exact k _ _ (Ex.new np4) (dt_tup upd_same (DtL.cons (dt_str _) (DtL.cons (dt_int _) DtL.nil)))
    | str x =>
      refine ⟨v, rfl, v, _, _, false, rfl, hd, rfl, _, rfl, if_f rfl ?_⟩
      refine ⟨v, rfl, v, _, _, false, rfl, hd, rfl, _, rfl, if_f rfl ?_⟩
      refine ⟨_, rfl, szl (by show 2 ≤ 100000; decide), fun p1 np1 => ?_⟩
      obtain ⟨H1, hH1, x0_1, h1⟩ := newH _ np1
      rw [hH1]
      clear hH1
      have f1 := np1
      refine ⟨_, rfl, szl (by show 2 ≤ 100000; decide), fun p2 np2 => ?_⟩
      obtain ⟨H2, hH2, x1_2, h2⟩ := newH _ np2
      rw [hH2]
      clear hH2
      have x0_2 := x0_1.trans x1_2
      have f2 := ex_free x0_1 np2
      refine ⟨szl (by show 2 ≤ 100000; decide), fun p3 np3 => ?_⟩
      obtain ⟨H3, hH3, x2_3, h3⟩ := newH _ np3
      rw [hH3]
      clear hH3
      have x0_3 := x0_2.trans x2_3
      have x1_3 := x1_2.trans x2_3
      have f3 := ex_free x0_2 np3
      refine ⟨_, rfl, v, _, _, true, rfl, hd.ex x0_3, rfl, .inr ⟨_, rfl, p3, _, _, _, rfl, rfl, SqLo h3, (show atI [V.ref p1, V.ref p2] 1 = some (V.ref p2) from rfl), k _ _ x0_3 (dt_tup (x2_3 _ _ h2) (DtL.cons (dt_str _) (DtL.cons (hd.ex x0_3) DtL.nil)))⟩⟩
    | int x =>
      refine ⟨v, rfl, v, _, _, false, rfl, hd, rfl, _, rfl, if_f rfl ?_⟩
      refine ⟨v, rfl, v, _, _, false, rfl, hd, rfl, _, rfl, if_f rfl ?_⟩
      refine ⟨_, rfl, szl (by show 2 ≤ 100000; decide), fun p1 np1 => ?_⟩
      obtain ⟨H1, hH1, x0_1, h1⟩ := newH _ np1
      rw [hH1]
      clear hH1
      have f1 := np1
      refine ⟨_, rfl, szl (by show 2 ≤ 100000; decide), fun p2 np2 => ?_⟩
      obtain ⟨H2, hH2, x1_2, h2⟩ := newH _ np2
      rw [hH2]
      clear hH2
      have x0_2 := x0_1.trans x1_2
      have f2 := ex_free x0_1 np2
      refine ⟨szl (by show 2 ≤ 100000; decide), fun p3 np3 => ?_⟩
      obtain ⟨H3, hH3, x2_3, h3⟩ := newH _ np3
      rw [hH3]
      clear hH3
      have x0_3 := x0_2.trans x2_3
      have x1_3 := x1_2.trans x2_3
      have f3 := ex_free x0_2 np3
      refine ⟨_, rfl, v, _, _, false, rfl, hd.ex x0_3, rfl, .inr ⟨_, rfl, p3, _, _, _, rfl, rfl, SqLo h3, (show atI [V.ref p1, V.ref p2] 0 = some (V.ref p1) from rfl), k _ _ x0_3 (dt_tup (x1_3 _ _ h1) (DtL.cons (dt_str _) (DtL.cons (hd.ex x0_3) DtL.nil)))⟩⟩
    | _ => cases ho
end
end VL

namespace VL
open PySem PySem.Spec L2 LW PyProof.Rows
open Evl (Ex)
/-! ### places as keys -/
def kyD : PyData → Key
  | .int i => .inl i
  | .str x => .inr x
  | _ => .inl 0
def keyOf : PyData → List Key
  | .tuple es => es.map kyD
  | _ => []
/-- ints and texts alone -/
def stepB : PyData → Bool
  | .int _ => true
  | .str _ => true
  | _ => false
theorem ky_back {e : PyData} (h : stepB e = true) : kD (kyD e) = e := by
  cases e with
  | int i => rfl
  | str x => rfl
  | _ => cases h
theorem walkP_steps : ∀ {es : List PyData} {d : PyData}, walkP d es = true → ∀ e ∈ es, stepB e = true
  | [], _, _ => nofun
  | e :: es, d, h => by
    have h : (match stepP d e with | none => false | some c => walkP c es) = true := h
    cases hs : stepP d e with
    | none => rw [hs] at h; cases h
    | some c =>
      rw [hs] at h
      intro x hx
      rcases List.mem_cons.mp hx with rfl | hx
      · cases x with
        | int i => rfl
        | str i => rfl
        | _ => cases hs
      · exact walkP_steps h x hx
theorem key_back {es : List PyData} (h : ∀ e ∈ es, stepB e = true) : (es.map kyD).map kD = es := by
  rw [List.map_map]
  conv => rhs; rw [← List.map_id es]
  exact List.map_congr_left fun e he => ky_back (h e he)
theorem dtl_keys {H : Hp} : ∀ {k : List Key} {xs : List V}, DtL H (k.map kD) xs → xs = k.map kV
  | [], xs, h => by
    rw [List.map_nil] at h
    unfold DtL at h
    exact h
  | a :: k, xs, h => by
    rw [List.map_cons] at h
    unfold DtL at h
    obtain ⟨v, t, rfl, h1, h2⟩ := h
    rw [dtl_keys h2]
    cases a with
    | inl i =>
      have h1 : Dt H (.int i) v := h1
      unfold Dt at h1
      rw [h1]
      rfl
    | inr i =>
      have h1 : Dt H (.str i) v := h1
      unfold Dt at h1
      rw [h1]
      rfl
/-! ### looks, one by one -/
def memK (l : List (List Key)) (k : List Key) : Bool := l.any fun p => decide (p = k)
theorem memK_iff {l : List (List Key)} {k : List Key} : memK l k = true ↔ k ∈ l := by
  unfold memK
  rw [List.any_eq_true]
  exact ⟨fun ⟨x, h1, h2⟩ => of_decide_eq_true h2 ▸ h1, fun h => ⟨k, h, decide_eq_true rfl⟩⟩
def okB (d : PyData) (els : List PyData) (k : Nat) : Bool := match els[k]? with
  | none => true
  | some e => hasP d e && ((keyOf e).isEmpty || memK ((els.take k).map keyOf) (keyOf e).dropLast)
/-- the first that cannot be looked at -/
def firstBad (d : PyData) (els : List PyData) : Option Nat := (List.range els.length).find? fun k => !okB d els k
theorem fb_some {d : PyData} {els : List PyData} {k : Nat} (hk : k < els.length) (h : okB d els k = false) (hp : ∀ j, j < k → okB d els j = true) : firstBad d els = some k := by
  unfold firstBad
  rw [List.find?_eq_some_iff_getElem]
  refine ⟨by rw [h]; rfl, k, by rw [List.length_range]; exact hk, by rw [List.getElem_range], fun j hj => ?_⟩
  rw [List.getElem_range, hp j hj]
  rfl
theorem fb_none {d : PyData} {els : List PyData} (h : ∀ j, j < els.length → okB d els j = true) : firstBad d els = none := by
  unfold firstBad
  rw [List.find?_eq_none]
  intro j hj
  rw [h j (List.mem_range.mp hj)]
  decide
/-! ### tables -/
def putD (l : List (List Key × PyData)) (k : List Key) (x : PyData) : List (List Key × PyData) :=
  if (l.any fun p => decide (p.1 = k)) = true then l.map (fun p => if p.1 = k then (p.1, x) else p) else l ++ [(k, x)]
def TabR (R : V → PyData → Prop) (p : List Key × V) (q : List Key × PyData) : Prop := p.1 = q.1 ∧ R p.2 q.2
theorem tab_any {R : V → PyData → Prop} {k : List Key} : ∀ {l : List (List Key × V)} {m : List (List Key × PyData)}, Paired (TabR R) l m → (l.any fun p => decide (p.1 = k)) = m.any fun p => decide (p.1 = k)
  | _, _, .nil => rfl
  | _, _, .cons h t => by
    rw [List.any_cons, List.any_cons, tab_any t, h.1]
theorem tab_map {R : V → PyData → Prop} {k : List Key} {v : V} {x : PyData} (r : R v x) : ∀ {l : List (List Key × V)} {m : List (List Key × PyData)}, Paired (TabR R) l m → Paired (TabR R) (l.map fun p => if p.1 = k then (p.1, v) else p) (m.map fun p => if p.1 = k then (p.1, x) else p)
  | _, _, .nil => .nil
  | p :: _, q :: _, .cons h t => by
    rw [List.map_cons, List.map_cons]
    refine .cons ?_ (tab_map r t)
    by_cases e : p.1 = k
    · rw [if_pos e, if_pos (by rw [← h.1]; exact e)]
      exact ⟨h.1, r⟩
    · rw [if_neg e, if_neg (by rw [← h.1]; exact e)]
      exact h
theorem tab_put {R : V → PyData → Prop} {k : List Key} {v : V} {x : PyData} {l : List (List Key × V)} {m : List (List Key × PyData)} (h : Paired (TabR R) l m) (r : R v x) : Paired (TabR R) (putK l k v) (putD m k x) := by
  unfold putK putD
  rw [tab_any h]
  split
  · exact tab_map r h
  · exact Paired.app h (.cons ⟨rfl, r⟩ .nil)
/-- what has been seen behind i looks -/
noncomputable def partD (d : PyData) : List Key → PyData
  | [] => d
  | s :: p => match stepD d (kV s) with
    | some c => partD c p
    | none => .none
noncomputable def tabD (d : PyData) (els : List PyData) : Nat → List (List Key × PyData)
  | 0 => []
  | i + 1 => match els[i]? with
    | some e => putD (tabD d els i) (keyOf e) (headD (partD d (keyOf e)))
    | none => tabD d els i
theorem at_part : ∀ {k : List Key} {d c : PyData}, At d (k.map kV) c → partD d k = c
  | [], d, c, h => by
    have h : c = d := h
    rw [h]
    rfl
  | s :: k, d, c, h => by
    obtain ⟨e, h1, h2⟩ := h
    show (match stepD d (kV s) with | some c => partD c k | none => .none) = c
    rw [h1]
    exact at_part h2
theorem putK_len (l : List (List Key × V)) (k : List Key) (v : V) : (putK l k v).length ≤ l.length + 1 := length_putK l k v
/-! ### what a row holds -/
structure RowEl (K : PySem.W.Frag) (H : Hp) (z : V) (e : PyData) : Prop where
  dt : Dt H e z
  l : lim e
  n : nod e ≤ 70
  dp : e.depth ≤ 3
  tp : ∀ es, e = .tuple es → ∃ b xs, z = .ref b ∧ H b = some (.tup xs) ∧ Dp K H z e ∧ SeqAt.shaped e = true
mutual
theorem dp_ex {K : PySem.W.Frag} {H H' : Hp} (ex : Ex H H') : ∀ {v : V} {d : PyData}, Dp K H v d → Dp K H' v d
  | _, _, .non => .non
  | _, _, .bl b => .bl b
  | _, _, .int i => .int i
  | _, _, .str x => .str x
  | _, _, .lst h t => .lst (Evl.ex_l ex h) (dpAll_ex ex t)
  | _, _, .tup h t => .tup (Evl.ex_t ex h) (dpAll_ex ex t)
theorem dpAll_ex {K : PySem.W.Frag} {H H' : Hp} (ex : Ex H H') : ∀ {v : List V} {d : List PyData}, DpAll K H v d → DpAll K H' v d
  | _, _, .nil => .nil
  | _, _, .cons h t => .cons (dp_ex ex h) (dpAll_ex ex t)
end
theorem RowEl.ex {K : PySem.W.Frag} {H H' : Hp} (e : Ex H H') {z : V} {x : PyData} (h : RowEl K H z x) : RowEl K H' z x := ⟨h.dt.ex e, h.l, h.n, h.dp, fun es he => by
  obtain ⟨b, xs, h1, h2, h3, h4⟩ := h.tp es he
  exact ⟨b, xs, h1, e _ _ h2, dp_ex e h3, h4⟩⟩
/-- a good place, as a key -/
theorem row_key {K : PySem.W.Frag} {H : Hp} {z : V} {e d : PyData} (h : RowEl K H z e) (hp : hasP d e = true) : ∃ b, z = .ref b ∧ H b = some (.tup ((keyOf e).map kV)) ∧ e = .tuple ((keyOf e).map kD) := by
  cases e with
  | tuple es =>
    have hst := walkP_steps (show walkP d es = true from hp)
    obtain ⟨b, xs, rfl, hb, _⟩ := h.tp es rfl
    have hdt := h.dt
    unfold Dt at hdt
    obtain ⟨b', xs', e1, hr, hl⟩ := hdt
    cases e1
    have exs : xs' = xs := by
      rcases hr with hr | ⟨o, hr⟩
      · rw [hb] at hr
        cases hr
        rfl
      · rw [hb] at hr
        cases hr
    subst exs
    have ek : (keyOf (.tuple es)).map kD = es := key_back hst
    rw [← ek] at hl
    refine ⟨b, rfl, ?_, by rw [ek]⟩
    rw [← dtl_keys hl]
    exact hb
  | _ => cases hp
end VL

namespace VL
open PySem PySem.Spec L2 LW
open Evl (Ex)
/-! ### data without dicts is compared -/
mutual
theorem dt_dp {K : PySem.W.Frag} {H : Hp} : ∀ {d : PyData} {v : V}, PyData.canLay0 d = true → Dt H d v → Dp K H v d
  | .none, _, _, h => by unfold Dt at h; subst h; exact .non
  | .bool b, _, _, h => by unfold Dt at h; subst h; exact .bl b
  | .int b, _, _, h => by unfold Dt at h; subst h; exact .int b
  | .str b, _, _, h => by unfold Dt at h; subst h; exact .str b
  | .list ds, _, c, h => by
    rw [PyData.canLay0] at c
    unfold Dt at h
    obtain ⟨a, vs, rfl, ha, hl⟩ := h
    exact .lst (.inl ha) (dtl_dp c hl)
  | .tuple ds, _, c, h => by
    rw [PyData.canLay0] at c
    unfold Dt at h
    obtain ⟨a, vs, rfl, ha, hl⟩ := h
    exact .tup (.inl ha) (dtl_dp c hl)
  | .dict _, _, c, _ => by rw [PyData.canLay0] at c; cases c
theorem dtl_dp {K : PySem.W.Frag} {H : Hp} : ∀ {ds : List PyData} {vs : List V}, PyData.canLayAll0 ds = true → DtL H ds vs → DpAll K H vs ds
  | [], _, _, h => by unfold DtL at h; subst h; exact .nil
  | d :: r, _, c, h => by
    rw [PyData.canLayAll0, Bool.and_eq_true] at c
    unfold DtL at h
    obtain ⟨v, t, rfl, h1, h2⟩ := h
    exact .cons (dt_dp c.1 h1) (dtl_dp c.2 h2)
end
theorem lim_strOk {x : Str} (h : lim (.str x)) : PyData.canLay0 (.str x) = true := by
  unfold lim at h
  rw [PyData.canLay0]
  show x.cps.all (· < 0x110000) = true
  rw [Array.all_eq_true_iff_forall_mem]
  intro c hc
  have := h.2 c (Array.mem_toList_iff.mpr hc)
  exact decide_eq_true (by omega)
theorem strs_lay : ∀ {l : List Str}, (∀ y ∈ l, lim (.str y)) → PyData.canLayAll0 (l.map PyData.str) = true ∧ PyData.depthAll (l.map PyData.str) = 0
  | [], _ => ⟨rfl, rfl⟩
  | y :: r, h => by
    obtain ⟨g1, g2⟩ := strs_lay (l := r) fun z hz => h z (List.mem_cons_of_mem _ hz)
    rw [List.map_cons, PyData.canLayAll0, PyData.depthAll, lim_strOk (h y List.mem_cons_self), g1, g2]
    exact ⟨rfl, rfl⟩
theorem head_shaped {d : PyData} (ho : okA d = true) : SeqAt.shaped (headD d) = true := by
  have hl := ok_lim d ho
  have two : ∀ (w : Str) (e : PyData), PyData.canLay0 (.str w) = true → PyData.canLay0 e = true → e.depth ≤ 3 → SeqAt.shaped (.tuple [.str w, e]) = true := by
    intro w e h1 h2 h3
    unfold SeqAt.shaped
    rw [PyData.canLay0, PyData.canLayAll0, PyData.canLayAll0, PyData.canLayAll0, h1, h2, PyData.depth, PyData.depthAll, PyData.depthAll, PyData.depthAll]
    show (true && decide _) = true
    rw [Bool.true_and]
    refine decide_eq_true ?_
    have : (PyData.str w).depth = 0 := rfl
    omega
  cases d with
  | dict kvs =>
    rw [okA_kids, Bool.and_eq_true] at ho
    have h1 : (decide (kvs.length ≤ 8) && kvs.all fun p => fld p.1) = true := ho.1
    rw [Bool.and_eq_true] at h1
    obtain ⟨ha, h8⟩ := allStr_of ho.1
    have hmem : ∀ y ∈ srt (names kvs), lim (.str y) := fun y hy => by
      obtain ⟨p, hp, e⟩ := List.mem_map.mp (srt_mem hy)
      have q := List.all_eq_true.mp h1.2 p hp
      have e2 := ha p hp
      rw [← e, ← e2]
      exact (fld_lim q).1
    obtain ⟨g1, g2⟩ := strs_lay hmem
    refine two "record" (.tuple ((srt (names kvs)).map PyData.str)) (by decide +kernel) ?_ ?_
    · rw [PyData.canLay0]
      exact g1
    · rw [PyData.depth, g2]
      omega
  | list ds => exact two "list" (.int ds.length) (by decide +kernel) rfl (by rw [PyData.depth]; omega)
  | str x => exact two "text" (.str x) (by decide +kernel) (lim_strOk hl.1) (by rw [PyData.depth]; omega)
  | int x => exact two "number" (.int x) (by decide +kernel) rfl (by rw [PyData.depth]; omega)
  | _ => cases ho
def RH (K : PySem.W.Frag) (H : Hp) (u : V) (e : PyData) : Prop := Dp K H u e ∧ SeqAt.shaped e = true
theorem tabr_ex {K : PySem.W.Frag} {H H' : Hp} (e : Ex H H') {l : List (List Key × V)} {m : List (List Key × PyData)} (h : Paired (TabR (RH K H)) l m) : Paired (TabR (RH K H')) l m := Paired.imp (fun _ _ q => ⟨q.1, dp_ex e q.2.1, q.2.2⟩) h
theorem rows_dt {K : PySem.W.Frag} {H : Hp} : ∀ {zs : List V} {els : List PyData}, Paired (RowEl K H) zs els → DtL H els zs
  | _, _, .nil => DtL.nil
  | _, _, .cons h t => DtL.cons h.dt (rows_dt t)
theorem eqv_nil' (es : List PyData) : PyData.eqv (.tuple es) (.tuple []) = es.isEmpty := by
  cases es with
  | nil => rw [PyData.eqv, PyData.eqvAll]; rfl
  | cons a b => rw [PyData.eqv, PyData.eqvAll]; rfl
/-! ### the table as it grows -/
mutual
theorem dp_del {K : PySem.W.Frag} {H : Hp} {t : Addr} {kvs : List (List Key × V)} (ht : H t = some (.dT kvs)) : ∀ {v : V} {d : PyData}, Dp K H v d → Dp K (del H t) v d
  | _, _, .non => .non
  | _, _, .bl b => .bl b
  | _, _, .int i => .int i
  | _, _, .str x => .str x
  | _, _, .lst h g => .lst (h.imp_left fun q => by
      rcases q with q | ⟨o, q⟩
      · exact .inl (del_get q fun z => by rw [z, ht] at q; cases q)
      · exact .inr ⟨o, del_get q fun z => by rw [z, ht] at q; cases q⟩) (dpAll_del ht g)
  | _, _, .tup h g => .tup (h.imp_left fun q => by
      rcases q with q | ⟨o, q⟩
      · exact .inl (del_get q fun z => by rw [z, ht] at q; cases q)
      · exact .inr ⟨o, del_get q fun z => by rw [z, ht] at q; cases q⟩) (dpAll_del ht g)
theorem dpAll_del {K : PySem.W.Frag} {H : Hp} {t : Addr} {kvs : List (List Key × V)} (ht : H t = some (.dT kvs)) : ∀ {v : List V} {d : List PyData}, DpAll K H v d → DpAll K (del H t) v d
  | _, _, .nil => .nil
  | _, _, .cons h g => .cons (dp_del ht h) (dpAll_del ht g)
end
structure TabI (K : PySem.W.Frag) (H1 : Hp) (t : Addr) (d : PyData) (els : List PyData) (i : Nat) (Hi : Hp) (kvs : List (List Key × V)) : Prop where
  ex : Ex H1 (del Hi t)
  at_ : Hi t = some (.dT kvs)
  tab : Paired (TabR (RH K (del Hi t))) kvs (tabD d els i)
  ok : ∀ j, j < i → okB d els j = true
  has : ∀ k, (valV kvs k).isSome = memK ((els.take i).map keyOf) k
  len : kvs.length ≤ i
theorem TabI.nil {K : PySem.W.Frag} {H1 : Hp} {t : Addr} {d : PyData} {els : List PyData} (nt : H1 t = none) : TabI K H1 t d els 0 (upd H1 t (.dT [])) [] := ⟨by rw [del_none nt]; exact Ex.refl _, upd_same, .nil, nofun, fun k => rfl, Nat.le_refl _⟩
theorem TabI.grow {K : PySem.W.Frag} {H1 Hi Hj : Hp} {t : Addr} {d : PyData} {els : List PyData} {i : Nat} {kvs : List (List Key × V)} (h : TabI K H1 t d els i Hi kvs) (e : Ex Hi Hj) : TabI K H1 t d els i Hj kvs :=
  ⟨h.ex.trans (del_grow' e), e _ _ h.at_, tabr_ex (del_grow' e) h.tab, h.ok, h.has, h.len⟩
theorem TabI.exx {K : PySem.W.Frag} {H1 Hi : Hp} {t : Addr} {d : PyData} {els : List PyData} {i : Nat} {kvs : List (List Key × V)} (h : TabI K H1 t d els i Hi kvs) : Ex H1 Hi := h.ex.trans ex_del
theorem TabI.put {K : PySem.W.Frag} {H1 Hi : Hp} {t : Addr} {d c e : PyData} {els : List PyData} {i : Nat} {kvs : List (List Key × V)} {u : V} (h : TabI K H1 t d els i Hi kvs) (he : els[i]? = some e) (hok : okB d els i = true) (hu : Dt Hi (headD c) u) (hoc : okA c = true) (hc : partD d (keyOf e) = c) :
    TabI K H1 t d els (i + 1) (upd Hi t (.dT (putK kvs (keyOf e) u))) (putK kvs (keyOf e) u) := by
  have hs := head_shaped hoc
  have hcl : PyData.canLay0 (headD c) = true := by
    unfold SeqAt.shaped at hs
    rw [Bool.and_eq_true] at hs
    exact hs.1
  refine ⟨?_, upd_same, ?_, ?_, ?_, ?_⟩
  · rw [del_upd]
    exact h.ex
  · rw [del_upd]
    show Paired _ _ (match els[i]? with | some e => putD (tabD d els i) (keyOf e) (headD (partD d (keyOf e))) | none => tabD d els i)
    rw [he]
    show Paired _ _ (putD (tabD d els i) (keyOf e) (headD (partD d (keyOf e))))
    rw [hc]
    exact tab_put h.tab ⟨dp_del h.at_ (dt_dp hcl hu), hs⟩
  · intro j hj
    by_cases hji : j = i
    · rw [hji]
      exact hok
    · exact h.ok j (by omega)
  · intro k
    rw [valV_put, List.take_add_one, he, List.map_append]
    by_cases hk : k = keyOf e
    · rw [if_pos hk, hk]
      exact (memK_iff.mpr (List.mem_append_right _ (List.mem_singleton.mpr rfl))).symm
    · rw [if_neg hk, h.has k]
      rw [Bool.eq_iff_iff, memK_iff, memK_iff]
      refine ⟨List.mem_append_left _, fun q => ?_⟩
      rcases List.mem_append.mp q with q | q
      · exact q
      · exact (hk (List.mem_singleton.mp q)).elim
  · have := length_putK kvs (keyOf e) u
    have := h.len
    omega
section
variable {P : Program} {w : World} {K : PySem.W.Frag} {mg : Str → Option Value} {base : Heap} {CI CL : Addr}
/-! ### InvalidLooks -/
theorem sc_InvalidLooks___init__ : FnScope ["self", "number"] ["self", "number"] (defScope s_InvalidLooks___init__) := ⟨rfl, rfl, rfl, by decide +kernel, rfl, by decide +kernel, by decide +kernel⟩
theorem bi_InvalidLooks___init__ : BindsM "__init__" "InvalidLooks.__init__" s_InvalidLooks___init__ ["self", "number"] := fun _ _ _ _ _ _ us hl => match us, hl with | [_, _], _ => rfl
theorem ok_linit {f0 : Addr} {fd0 : FuncData} (F : FunD K "__init__" "InvalidLooks.__init__" (defArgs s_InvalidLooks___init__) (defBody s_InvalidLooks___init__) (defScope s_InvalidLooks___init__) [] [] f0 fd0) (ox : OexC K CL) (no : PySem.W.findIn K (.ref CL) "number" = some none) :
    FnOk P w K mg base CX0 1 f0 fd0 ["self", "number"] (spXI K CL "number") := by
  refine F.ok sc_InvalidLooks___init__ (fun vs H Q E h => ?_) (fun cdv A outer s H vs Q E hr h => ?_)
  · obtain ⟨a, v, rfl, _⟩ := h
    rfl
  · obtain ⟨a, v, rfl, ha, k⟩ := h
    refine ⟨_, PSs.nox (pss_one (ps_ost (pv 0) (pv 1))), ?_⟩
    exact ⟨_, rfl, _, rfl, a, CL, rfl, ox, no, .inl ⟨ha, fun dx h1 h2 => k dx h1 h2⟩⟩
/-! ### seen_of -/
def spSeenOf (K : PySem.W.Frag) (CI CL : Addr) : Sp := fun vs H Q E => ∃ (v x : V) (d : PyData), vs = [v, x] ∧ Dt H d v ∧ szA d ∧
  (isV d = false → ∀ dd H', Ex H H' → H' dd = some (.xd [("value", v)]) → E (.ref CI) (some dd) H') ∧
  ((∃ (a : Addr) (zs : List V) (els : List PyData), x = .ref a ∧ H a = some (.lst zs) ∧ Paired (RowEl K H) zs els ∧ els.length ≤ 200 ∧
      (isV d = true → firstBad d els = none → ∀ t kvs H', Ex H H' → H t = none → H' t = some (.dT kvs) → kvs.length ≤ 200 → Paired (TabR (RH K H')) kvs (tabD d els els.length) → Q (.ref t) H') ∧
      (isV d = true → ∀ k, firstBad d els = some k → ∀ dd H', Ex H H' → H' dd = some (.xd [("number", .int k)]) → E (.ref CL) (some dd) H')) ∨
    ∃ e, Dt H e x ∧ (∀ es, e ≠ .list es) ∧ (isV d = true → ∀ dd H', Ex H H' → H' dd = some (.xd [("number", .non)]) → E (.ref CL) (some dd) H'))
theorem sc_seen_of : FnScope ["value", "looked", "found", "number", "place"] ["value", "looked"] (defScope s_seen_of) := ⟨rfl, rfl, rfl, by decide +kernel, rfl, by decide +kernel, by decide +kernel⟩
theorem bi_seen_of : BindsEq "seen_of" s_seen_of ["value", "looked"] := fun _ _ _ _ _ _ us hl => match us, hl with | [_, _], _ => rfl
theorem ok_seenOf (F : Df K mg "seen_of" s_seen_of) (T : Txt K mg) (C_check_value : Cal P w K mg base (L2.CX P w) 5 "check_value" (spCheckV CI)) (C_has_place : Cal P w K mg base CX0 3 "has_place" spHasPlace) (C_part_at : Cal P w K mg base CX0 1 "part_at" spPartL) (C_head_of : Cal P w K mg base CX0 2 "head_of" spHeadOf)
    (X_InvalidLooks : XMk P w K mg base 1 "InvalidLooks" CL "number") : Cal P w K mg base (L2.CX P w) 6 "seen_of" (spSeenOf K CI CL) := by
  refine calX F sc_seen_of bi_seen_of (fun vs H Q E h => ?_) (fun f cdv A outer s H vs Q E hr h => ?_)
  · obtain ⟨v, x, d, rfl, _⟩ := h
    rfl
  · obtain ⟨v, x, d, rfl, hd, hz, k3, hcase⟩ := h
    have hu : (A.deeper (PyProof.Rows.envOfC "seen_of" (defScope s_seen_of) s.heap.objs.size f cdv)).units + 1 < cLine := by have := hr.un; omega
    refine ⟨_, (pss_cons (ps_expr (pe_kP C_check_value hr (by decide) (passes_call (takes_of rfl rfl rfl rfl) (fun _ _ _ _ h => h)) rfl (pa_cons (pv 0) pa_nil)))
 (pss_cons (ps_if (pt_not (pt_val (pe_callB (isD K) rfl T.b_isinstance (by decide +kernel) (pa_cons (pv 1) (pa_cons (pe_bltn (v := .ty "list") rfl T.b_list (by decide +kernel) rfl) pa_nil))))) (pss_one (ps_raise rfl (takes_of rfl rfl rfl rfl) (pmk_x X_InvalidLooks hr (by decide) rfl (pa_cons pe_non pa_nil)))) pss_nil)
 (pss_cons (ps_set (i := 2) sc_seen_of.nd rfl (Or.inl rfl) pe_dnewT)
 (pss_cons (ps_for (passes_of rfl) rfl (pi_enum rfl T.b_enumerate (pa_cons (pv 1) pa_nil)) (pgt (n := 2) K rfl (pgs_cons (pg_name (i := 3) sc_seen_of.nd rfl (Or.inl rfl)) (pgs_cons (pg_name (i := 4) sc_seen_of.nd rfl (Or.inl rfl)) pgs_nil))) (pss_cons (ps_if (PW.pt (pw_or (pt_not (pt_val (pe_k C_has_place hr (by decide) rfl (pa_cons (pv 0) (pa_cons (pv 4) pa_nil))))) (pw_or1 (PW.pt (pw_and (pt_cmpR (neDK K hr.units) (pv 4) (pe_tup pa_nil) (nomark _)) (pw_and1 (pt_cmp (pc_dnotin hu (pe_slice sl_tup (pv 4) po_none (po_some (pe_un un_neg pe_int))) (pv 2))))))))) (pss_one (ps_raise rfl (takes_of rfl rfl rfl rfl) (pmk_x X_InvalidLooks hr (by decide) rfl (pa_cons (pv 3) pa_nil)))) pss_nil)
 (pss_one (ps_dput hu (pv 2) (pv 4) (pe_k C_head_of hr (by decide) rfl (pa_cons (pe_k C_part_at hr (by decide) rfl (pa_cons (pv 0) (pa_cons (pv 4) pa_nil))) pa_nil)) rfl))))
 (pss_one (ps_ret (pv 2))))))), ?_⟩
    refine ⟨_, rfl, v, d, rfl, hd, hz, fun hv H1 e1 => ?_, k3⟩
    obtain ⟨ho, hc⟩ := isV_un hv
    rcases hcase with ⟨a, zs, els, rfl, ha, hrow, hlen, k1, k2⟩ | ⟨e, hx, hne, k4⟩
    rotate_left
    · -- no list
      have hnl : PySem.W.kitOne K (.type (tyD e)) (.type "list") = some false := by
        cases e with
        | list es => exact (hne es rfl).elim
        | _ => rfl
      exact ⟨_, rfl, x, e, _, false, rfl, hx.ex e1, hnl, _, rfl, if_t rfl (xmk_go fun dd H2 _ e2 hdd => k4 hv dd H2 (e1.trans e2) hdd)⟩
    · have hdl : Dt H1 (.list els) (.ref a) := dt_lst (e1 _ _ ha) ((rows_dt hrow).ex e1)
      refine ⟨_, rfl, .ref a, .list els, _, true, rfl, hdl, rfl, _, rfl, if_f rfl ?_⟩
      intro t nt
      have hrow1 : Paired (RowEl K H1) zs els := Paired.imp (fun _ _ q => q.ex e1) hrow
      have hzl := Paired.len hrow
      refine ⟨_, rfl, a, zs, rfl, .inl (.inl (Ex.new nt _ _ (e1 _ _ ha))), for_it (walk_enum (K := K) (a := a) (xs := zs)) (fun i σ' Hi => ∃ kvs o3 o4, σ' = [some v, some (.ref a), some (.ref t), o3, o4] ∧ TabI K H1 t d els i Hi kvs) ?_ ?_ ?_ ?_⟩
      · exact ⟨[], none, none, rfl, TabI.nil nt⟩
      · rintro i σ' Hi _ ⟨kvs, o3, o4, rfl, hT⟩
        exact SqLo (hT.exx _ _ (e1 _ _ ha))
      · rintro i y σ' Ho Hi hi ⟨kvs, o3, o4, rfl, hT⟩ ⟨q, y1, z, rfl, nq, rfl, hy, hz⟩
        cases hy
        have hT := hT.grow (Ex.new nq (o := .tup [V.int i, z]))
        have hqq : upd Ho q (.tup [V.int i, z]) q = some (.tup [V.int i, z]) := upd_same
        generalize upd Ho q (.tup [V.int i, z]) = Hq at hT hqq
        obtain ⟨e, he, hre⟩ := Paired.get hrow1 hz
        have hre := hre.ex hT.exx
        have hdq : Dt Hq d v := (hd.ex e1).ex hT.exx
        refine ⟨q, _, rfl, SqTo hqq, rfl, _, _, rfl, _, _, rfl, rfl, ?_⟩
        refine ⟨_, rfl, _, rfl, v, z, d, e, rfl, hdq, ho, hre.dt, _, rfl, ?_⟩
        cases hp : hasP d e with
        | false =>
          refine if_t rfl (if_t rfl ⟨_, rfl, xmk_go fun dd H2 _ e2 hdd => k2 hv i ?_ dd H2 (e1.trans (hT.exx.trans e2)) hdd⟩)
          refine fb_some (by omega) ?_ hT.ok
          unfold okB
          rw [he]
          show (hasP d e && _) = false
          rw [hp]
          rfl
        | true =>
          refine if_f rfl ?_
          obtain ⟨b, rfl, hb, hek⟩ := row_key hre hp
          obtain ⟨_, _, _, _, hDp, hsh⟩ := hre.tp _ hek
          refine ⟨_, rfl, szl (by show 0 ≤ 100000; decide), fun p1 np1 => ?_⟩
          have x1 := Ex.new np1 (o := .tup [])
          have h11 : upd Hq p1 (.tup []) p1 = some (.tup []) := upd_same
          generalize upd Hq p1 (.tup []) = Hr at x1 h11
          have hT1 := hT.grow x1
          have put : ∀ Hs, Ex Hr Hs → okB d els i = true → sDPut (tVar 2) (tVar 4) (tCall spHeadOf [] E0 (tCons (tCall spPartL [] E0 (tCons (tVar 0) (tCons (tVar 4) tNil))) tNil)) { nx := fun σ' Hi => ∃ kvs o3 o4, σ' = [some v, some (V.ref a), some (V.ref t), o3, o4] ∧ TabI K H1 t d els (i + 1) Hi kvs, rt := Q, bk := fun _ _ => False, ct := fun _ _ => False } [some v, some (.ref a), some (.ref t), some (V.int i), some (.ref b)] Hs := by
            intro Hs x2 hok
            have hT2 := hT1.grow x2
            have x12 := x1.trans x2
            have hre2 := hre.ex x12
            have hdt2 := hre2.dt
            rw [hek] at hdt2
            unfold Dt at hdt2
            obtain ⟨b', xs', e1', hr', hl'⟩ := hdt2
            cases e1'
            have exs : xs' = (keyOf e).map kV := by
              have hb2 := x12 _ _ hb
              rcases hr' with hr' | ⟨o, hr'⟩
              · rw [hb2] at hr'
                cases hr'
                rfl
              · rw [hb2] at hr'
                cases hr'
            subst exs
            have hp2 := hp
            rw [hek] at hp2
            obtain ⟨c, u, w1, w2, w3⟩ := walk_heap (hdq.ex x12) ho hl' hp2
            refine ⟨_, rfl, _, rfl, v, b, _, u, rfl, .inl (x12 _ _ hb), w1, u, c, rfl, w2, at_ok w3 ho, fun hh Hh xh hhd => ?_⟩
            have hT3 := hT2.grow xh
            refine ⟨_, rfl, _, rfl, t, _, rfl, DPut.t hT3.at_ (xh _ _ (x12 _ _ hb)) (szlt (by have := hT3.len; omega)), _, _, _, rfl, hT3.put he hok hhd (at_ok w3 ho) (at_part w3)⟩
          refine ⟨e, .tuple [], dp_ex x1 hDp, .tup (SqTo h11) .nil, hsh, rfl, _, rfl, if_b (fun h => ?_) (fun h => ?_)⟩
          · rw [hek, eqv_nil'] at h
            obtain ⟨k', s', hks⟩ : ∃ k' s', keyOf e = k' ++ [s'] := by
              cases hk : keyOf e with
              | nil => rw [hk] at h; cases h
              | cons a b => exact ⟨(a :: b).dropLast, (a :: b).getLast (by simp), (List.dropLast_concat_getLast (by simp)).symm⟩
            have hb2 := x1 _ _ hb
            rw [hks, List.map_append, List.map_singleton] at hb2
            refine ⟨_, rfl, _, rfl, _, rfl, b, _, rfl, .inl (.inl hb2), fun z => ?_, fun p3 np3 => ?_⟩
            · have z2 := z.2
              rw [six_last, List.length_append] at z2
              have : ([kV s'] : List V).length = 1 := rfl
              omega
            · rw [cut_last]
              have x2 := Ex.new np3 (o := .tup (k'.map kV))
              have hT2 := hT1.grow x2
              refine ⟨_, rfl, t, _, rfl, DGet.t hT2.at_ upd_same, _, rfl, ?_⟩
              rw [hT2.has]
              have hokb : okB d els i = memK ((els.take i).map keyOf) k' := by
                unfold okB
                rw [he]
                show (hasP d e && ((keyOf e).isEmpty || memK _ (keyOf e).dropLast)) = _
                rw [hp, hks, List.dropLast_concat, Bool.true_and]
                rw [show (k' ++ [s']).isEmpty = false from by cases k' <;> rfl, Bool.false_or]
              rw [← hokb]
              cases hob : okB d els i with
              | true => exact if_f rfl (put _ x2 hob)
              | false => exact if_t rfl ⟨_, rfl, xmk_go fun dd H2 _ e2 hdd => k2 hv i (fb_some (by omega) hob hT.ok) dd H2 (e1.trans (hT2.exx.trans e2)) hdd⟩
          · refine if_f rfl (put _ (Ex.refl _) ?_)
            rw [hek, eqv_nil'] at h
            unfold okB
            rw [he]
            show (hasP d e && ((keyOf e).isEmpty || _)) = true
            have : (keyOf e).isEmpty = true := by
              cases hk : keyOf e with
              | nil => rfl
              | cons a b => rw [hk] at h; cases h
            rw [hp, this]
            rfl
      · rintro σ' Hi ⟨kvs, o3, o4, rfl, hT⟩
        rw [hzl] at hT
        refine ⟨_, rfl, k1 hv (fb_none fun j hj => hT.ok j hj) t kvs Hi (e1.trans hT.exx) (ex_free e1 nt) hT.at_ (by have := hT.len; omega) (tabr_ex ex_del hT.tab)⟩
end
end VL

namespace VL
open PySem PySem.Spec L2 LW PyProof.Rows
open Evl (Ex)
def StG (s : V) : Prop := StOk s ∧ lim (stV s) ∧ nod (stV s) = 1
theorem step_g {d c : PyData} {s : V} (h : stepD d s = some c) (ho : okA d = true) : StG s := by
  have hst := step_st h ho
  refine ⟨hst, ?_⟩
  rcases step_cases h with ⟨ds, i, rfl, rfl, h0, e⟩ | ⟨kvs, y, rfl, rfl, hy, rfl⟩
  · refine ⟨?_, rfl⟩
    show lim (.int i)
    unfold lim
    rw [okA_kids, Bool.and_eq_true] at ho
    have h60 : ds.length < 60 := of_decide_eq_true ho.1
    obtain ⟨hl, _⟩ := List.getElem?_eq_some_iff.mp e
    unfold big
    omega
  · rcases hst with ⟨i, hi⟩ | ⟨z, hz, hf⟩
    · cases hi
    · cases hz
      exact fld_lim hf
theorem at_g : ∀ {p : List V} {d c : PyData}, At d p c → okA d = true → (∀ s ∈ p, StG s) ∧ p.length + cnt c ≤ cnt d
  | [], d, c, h, _ => by
    have h : c = d := h
    subst h
    exact ⟨nofun, by show 0 + _ ≤ _; omega⟩
  | s :: p, d, c, h, ho => by
    obtain ⟨e, h1, h2⟩ := h
    obtain ⟨g1, g2⟩ := at_g h2 (step_ok h1 ho)
    have := cnt_kid (step_kid h1)
    refine ⟨fun x hx => ?_, by rw [List.length_cons]; omega⟩
    rcases List.mem_cons.mp hx with rfl | hx
    · exact step_g h1 ho
    · exact g1 x hx
theorem st_dt {H : Hp} {s : V} (h : StOk s) : Dt H (stV s) s := by
  rcases h with ⟨i, rfl⟩ | ⟨y, rfl, _⟩
  · exact dt_int i
  · exact dt_str y
theorem st_dtl {H : Hp} : ∀ {p : List V}, (∀ s ∈ p, StG s) → DtL H (p.map stV) p ∧ limL (p.map stV) ∧ nodL (p.map stV) = p.length
  | [], _ => ⟨DtL.nil, by unfold limL; trivial, by unfold nodL; rfl⟩
  | s :: p, h => by
    obtain ⟨h1, h2, h3⟩ := h s List.mem_cons_self
    obtain ⟨g1, g2, g3⟩ := st_dtl (H := H) (p := p) fun x hx => h x (List.mem_cons_of_mem _ hx)
    refine ⟨DtL.cons (st_dt h1) g1, ?_, ?_⟩
    · rw [List.map_cons, limL]
      exact ⟨h2, g2⟩
    · rw [List.map_cons, nodL, h3, g3, List.length_cons]
      omega
theorem dpAll_app {K : PySem.W.Frag} {H : Hp} : ∀ {xs ys : List V} {ds es : List PyData}, DpAll K H xs ds → DpAll K H ys es → DpAll K H (xs ++ ys) (ds ++ es)
  | _, _, _, _, .nil, g => g
  | _, _, _, _, .cons h t, g => .cons h (dpAll_app t g)
theorem lay_app : ∀ (ds es : List PyData), PyData.canLayAll0 (ds ++ es) = (PyData.canLayAll0 ds && PyData.canLayAll0 es)
  | [], es => by simp [PyData.canLayAll0]
  | d :: r, es => by
    rw [List.cons_append, PyData.canLayAll0, PyData.canLayAll0, lay_app r es, Bool.and_assoc]
theorem depth_app : ∀ (ds es : List PyData), PyData.depthAll (ds ++ es) = max (PyData.depthAll ds) (PyData.depthAll es)
  | [], es => by simp [PyData.depthAll]
  | d :: r, es => by
    rw [List.cons_append, PyData.depthAll, PyData.depthAll, depth_app r es]
    omega
theorem nodL_app : ∀ (ds es : List PyData), nodL (ds ++ es) = nodL ds + nodL es
  | [], es => by rw [List.nil_append, nodL]; omega
  | d :: r, es => by
    rw [List.cons_append, nodL, nodL, nodL_app r es]
    omega
/-! ### every list of names has an order -/
theorem ex_sorted (l : List Str) : ∃ ys : List Str, ys.Perm l ∧ sortedS ys = true := by
  let le : Str → Str → Bool := fun a b => decide (a.cps.toList ≤ b.cps.toList)
  refine ⟨l.mergeSort le, List.mergeSort_perm l le, sortedS_of_pairwise _ ?_⟩
  have q := List.pairwise_mergeSort (le := le) (fun a b c h1 h2 => decide_eq_true (List.le_trans (of_decide_eq_true h1) (of_decide_eq_true h2))) (fun a b => by
    rcases List.le_total a.cps.toList b.cps.toList with h | h
    · show (decide _ || decide _) = true
      rw [decide_eq_true h]
      rfl
    · show (decide _ || decide _) = true
      rw [decide_eq_true h, Bool.or_true]) l
  refine List.Pairwise.imp (fun {a b} h => ?_) q
  rw [ltCps_eq]
  exact decide_eq_false (List.not_lt.mpr (of_decide_eq_true h))
theorem srt_perm (l : List Str) : (srt l).Perm l := by
  obtain ⟨ys, p, s⟩ := ex_sorted l
  rw [← srt_of p s]
  exact p
/-- places that are told by data -/
theorem hasP_path : ∀ {es : List PyData} {d : PyData}, walkP d es = true → ∃ p ∈ paths d, es = p.map stV
  | [], d, _ => ⟨[], by rw [paths_eq]; exact List.mem_cons_self, rfl⟩
  | e :: es, d, h => by
    have h : (match stepP d e with | none => false | some c => walkP c es) = true := h
    cases hs : stepP d e with
    | none =>
      rw [hs] at h
      cases h
    | some c =>
      rw [hs] at h
      obtain ⟨p, hp, rfl⟩ := hasP_path h
      obtain ⟨s, hs1, hs2⟩ : ∃ s, stepD d s = some c ∧ e = stV s := by
        cases e with
        | int i => exact ⟨.int i, hs, rfl⟩
        | str i => exact ⟨.str i, hs, rfl⟩
        | _ => cases hs
      refine ⟨s :: p, ?_, by rw [hs2]; rfl⟩
      rw [paths_eq]
      refine List.mem_cons_of_mem _ (List.mem_flatMap.mpr ⟨(s, c), kidsOf_all hs1 fun kvs _ => ex_sorted _, ?_⟩)
      exact List.mem_map.mpr ⟨p, hp, rfl⟩
theorem at_walk : ∀ {p : List V} {d c : PyData}, At d p c → okA d = true → walkP d (p.map stV) = true
  | [], _, _, _, _ => rfl
  | s :: p, d, c, h, ho => by
    obtain ⟨e, h1, h2⟩ := h
    have ih := at_walk h2 (step_ok h1 ho)
    show (match stepP d (stV s) with | none => false | some c => walkP c (p.map stV)) = true
    have hs : stepP d (stV s) = some e := by
      rcases step_st h1 ho with ⟨i, rfl⟩ | ⟨y, rfl, _⟩ <;> exact h1
    rw [hs]
    exact ih
/-! ### the places as data -/
noncomputable def pathsD (d : PyData) : PyData := .list ((paths d).map fun p => .tuple (p.map stV))
theorem dp_paths {K : PySem.W.Frag} {H : Hp} : ∀ {ts : List V} {ps : List (List V)}, Paired (PlTup H []) ts ps → (∀ p ∈ ps, ∀ s ∈ p, StG s) → DpAll K H ts (ps.map fun p => .tuple (p.map stV))
  | _, _, .nil, _ => .nil
  | _, _, .cons h t, hp => by
    obtain ⟨b, rfl, hb⟩ := h
    exact .cons (.tup (SqTo hb) (st_all fun s hs => (hp _ List.mem_cons_self s hs).1).1) (dp_paths t fun p hpm => hp p (List.mem_cons_of_mem _ hpm))
theorem lay_paths : ∀ (ps : List (List V)), (∀ p ∈ ps, ∀ s ∈ p, StG s) → PyData.canLayAll0 (ps.map fun p => PyData.tuple (p.map stV)) = true ∧ PyData.depthAll (ps.map fun p => PyData.tuple (p.map stV)) ≤ 1
  | [], _ => ⟨rfl, by rw [List.map_nil, PyData.depthAll]; omega⟩
  | p :: ps, h => by
    obtain ⟨g1, g2⟩ := lay_paths ps fun q hq => h q (List.mem_cons_of_mem _ hq)
    obtain ⟨_, q2, q3⟩ := st_all (K := []) (H := fun _ => none) fun s hs => (h p List.mem_cons_self s hs).1
    rw [List.map_cons, PyData.canLayAll0, PyData.depthAll, PyData.canLay0, PyData.depth, q2, q3, g1]
    exact ⟨rfl, by omega⟩
theorem paths_g {d : PyData} (ho : okA d = true) : ∀ p ∈ paths d, (∀ s ∈ p, StG s) ∧ p.length ≤ cnt d := fun p hp => by
  obtain ⟨c, hc⟩ := paths_at (cnt d) d (Nat.le_refl _) p hp
  obtain ⟨g1, g2⟩ := at_g hc ho
  exact ⟨g1, by omega⟩

/-! ### compared steps -/
def noB : PyData → Bool
  | .bool _ => false
  | _ => true
theorem eqv_st {s : V} {e : PyData} (hs : StOk s) (h : PyData.eqv (stV s) e = true) (hb : noB e = true) : stV s = e := by
  rcases hs with ⟨i, rfl⟩ | ⟨y, rfl, _⟩
  · have h : PyData.eqv (.int i) e = true := h
    show PyData.int i = e
    cases e with
    | bool b => cases hb
    | int j =>
      rw [PyData.eqv] at h
      rw [LawfulBEq.eq_of_beq h]
    | _ => rw [PyData.eqv] at h; cases h
  · have h : PyData.eqv (.str y) e = true := h
    show PyData.str y = e
    cases e with
    | str j =>
      rw [PyData.eqv] at h
      rw [LawfulBEq.eq_of_beq h]
    | _ => rw [PyData.eqv] at h; cases h
theorem eqv_stl : ∀ {p : List V} {es : List PyData}, (∀ s ∈ p, StOk s) → PyData.eqvAll (p.map stV) es = true → es.all noB = true → p.map stV = es
  | [], [], _, _, _ => rfl
  | [], _ :: _, _, h, _ => by rw [List.map_nil, PyData.eqvAll] at h; cases h
  | s :: p, [], _, h, _ => by rw [List.map_cons, PyData.eqvAll] at h; cases h
  | s :: p, e :: es, hs, h, hb => by
    rw [List.map_cons, PyData.eqvAll, Bool.and_eq_true] at h
    rw [List.all_cons, Bool.and_eq_true] at hb
    rw [List.map_cons, eqv_st (hs s List.mem_cons_self) h.1 hb.1, eqv_stl (fun x hx => hs x (List.mem_cons_of_mem _ hx)) h.2 hb.2]
theorem eqv_self {s : V} (hs : StOk s) : PyData.eqv (stV s) (stV s) = true := by
  rcases hs with ⟨i, rfl⟩ | ⟨y, rfl, _⟩
  · show PyData.eqv (.int i) (.int i) = true
    rw [PyData.eqv]
    exact BEq.rfl
  · show PyData.eqv (.str y) (.str y) = true
    rw [PyData.eqv]
    exact BEq.rfl
theorem eqvl_self : ∀ {p : List V}, (∀ s ∈ p, StOk s) → PyData.eqvAll (p.map stV) (p.map stV) = true
  | [], _ => by rw [List.map_nil, PyData.eqvAll]
  | s :: p, h => by
    rw [List.map_cons, PyData.eqvAll, eqv_self (h s List.mem_cons_self), eqvl_self fun x hx => h x (List.mem_cons_of_mem _ hx)]
    rfl
theorem st_noB : ∀ {p : List V}, (∀ s ∈ p, StOk s) → (p.map stV).all noB = true
  | [], _ => rfl
  | s :: p, h => by
    rw [List.map_cons, List.all_cons, st_noB fun x hx => h x (List.mem_cons_of_mem _ hx)]
    rcases h s List.mem_cons_self with ⟨i, rfl⟩ | ⟨y, rfl, _⟩ <;> rfl
/-- what the law asks of a place -/
theorem due_has {d : PyData} {es : List PyData} (ho : okA d = true) : hasP d (.tuple es) = (((paths d).map fun p => PyData.tuple (p.map stV)).any (fun z => PyData.eqv z (.tuple es)) && es.all noB) := by
  rw [Bool.eq_iff_iff, Bool.and_eq_true, List.any_eq_true]
  constructor
  · intro h
    obtain ⟨p, hp, rfl⟩ := hasP_path (show walkP d es = true from h)
    have hg := fun s hs => ((paths_g ho p hp).1 s hs).1
    exact ⟨⟨_, List.mem_map.mpr ⟨p, hp, rfl⟩, by rw [PyData.eqv]; exact eqvl_self hg⟩, st_noB hg⟩
  · rintro ⟨⟨z, hz, he⟩, hb⟩
    obtain ⟨p, hp, rfl⟩ := List.mem_map.mp hz
    have hg := fun s hs => ((paths_g ho p hp).1 s hs).1
    rw [PyData.eqv] at he
    rw [← eqv_stl hg he hb]
    obtain ⟨c, hc⟩ := paths_at (cnt d) d (Nat.le_refl _) p hp
    exact at_walk hc ho
/-! ### keys compared -/
theorem eqv_key {a b : Key} : PyData.eqv (kD a) (kD b) = decide (a = b) := by
  cases a with
  | inl i =>
    cases b with
    | inl j =>
      show PyData.eqv (.int i) (.int j) = _
      rw [PyData.eqv, Bool.eq_iff_iff, beq_iff_eq, decide_eq_true_iff]
      exact ⟨fun h => by rw [h], fun h => by cases h; rfl⟩
    | inr j =>
      show PyData.eqv (.int i) (.str j) = _
      rw [PyData.eqv]
      exact (decide_eq_false (fun h => by cases h)).symm
  | inr i =>
    cases b with
    | inl j =>
      show PyData.eqv (.str i) (.int j) = _
      rw [PyData.eqv]
      exact (decide_eq_false (fun h => by cases h)).symm
    | inr j =>
      show PyData.eqv (.str i) (.str j) = _
      rw [PyData.eqv, Bool.eq_iff_iff, beq_iff_eq, decide_eq_true_iff]
      exact ⟨fun h => by rw [h], fun h => by cases h; rfl⟩
theorem eqv_keys : ∀ {a b : List Key}, PyData.eqvAll (a.map kD) (b.map kD) = decide (a = b)
  | [], [] => by rw [List.map_nil, PyData.eqvAll]; rfl
  | [], _ :: _ => by rw [List.map_nil, List.map_cons, PyData.eqvAll]; exact (decide_eq_false (fun h => by cases h)).symm
  | _ :: _, [] => by rw [List.map_nil, List.map_cons, PyData.eqvAll]; exact (decide_eq_false (fun h => by cases h)).symm
  | x :: a, y :: b => by
    rw [List.map_cons, List.map_cons, PyData.eqvAll, eqv_key, eqv_keys, Bool.eq_iff_iff, Bool.and_eq_true, decide_eq_true_iff, decide_eq_true_iff, decide_eq_true_iff]
    exact ⟨fun ⟨h, g⟩ => by rw [h, g], fun h => by cases h; exact ⟨rfl, rfl⟩⟩
/-- a row of good places holds a place -/
theorem any_mem (k : List Key) : ∀ (l : List PyData), (∀ e ∈ l, e = .tuple ((keyOf e).map kD)) → (l.any fun z => PyData.eqv z (.tuple (k.map kD))) = memK (l.map keyOf) k
  | [], _ => rfl
  | e :: l, h => by
    have he := h e List.mem_cons_self
    rw [List.any_cons, any_mem k l fun x hx => h x (List.mem_cons_of_mem _ hx)]
    unfold memK
    rw [List.map_cons, List.any_cons]
    congr 1
    rw [he, PyData.eqv, eqv_keys]
    rw [← he]
/-! ### places in rows -/
theorem st_lim {p : List V} (h : ∀ s ∈ p, StG s) : lim (.tuple (p.map stV)) ∧ nod (.tuple (p.map stV)) = 1 + p.length := by
  obtain ⟨_, g2, g3⟩ := st_dtl (H := fun _ => none) h
  refine ⟨by unfold lim; exact g2, ?_⟩
  rw [nod, g3]
theorem path_row {K : PySem.W.Frag} {H : Hp} {d : PyData} {p : List V} {b : Addr} (ho : okA d = true) (hc : cnt d ≤ 60) (hp : p ∈ paths d) (hb : H b = some (.tup p)) : RowEl K H (.ref b) (.tuple (p.map stV)) := by
  obtain ⟨hg, hl⟩ := paths_g ho p hp
  obtain ⟨g1, g2, g3⟩ := st_dtl (H := H) hg
  obtain ⟨q1, q2, q3⟩ := st_all (K := K) (H := H) fun s hs => (hg s hs).1
  refine ⟨dt_tup hb g1, (st_lim hg).1, by rw [(st_lim hg).2]; omega, by rw [PyData.depth, q3]; omega, fun es he => ⟨b, p, rfl, hb, .tup (SqTo hb) q1, ?_⟩⟩
  exact st_shaped fun s hs => (hg s hs).1
theorem paths_rows {K : PySem.W.Frag} {H : Hp} {d : PyData} (ho : okA d = true) (hc : cnt d ≤ 60) : ∀ {ts : List V} {ps : List (List V)}, Paired (PlTup H []) ts ps → (∀ p ∈ ps, p ∈ paths d) → Paired (RowEl K H) ts (ps.map fun p => .tuple (p.map stV))
  | _, _, .nil, _ => .nil
  | _, _, .cons h t, hp => by
    obtain ⟨b, rfl, hb⟩ := h
    exact .cons (path_row ho hc (hp _ List.mem_cons_self) hb) (paths_rows ho hc t fun p hpm => hp p (List.mem_cons_of_mem _ hpm))
/-! ### rows that repr shows -/
structure SmB (d : PyData) : Prop where
  l : lim d
  n : nod d ≤ 9200
  d : d.depth ≤ 150
theorem SmB.show {d : PyData} (h : SmB d) : d.showable = true := lim_show d h.l
theorem SmB.size {d : PyData} (h : SmB d) : d.shown.length ≤ sizeLine := by
  have h1 := PyData.shown_le_bulk 40 (by decide) d (lim_short d h.l)
  have h2 := bulk_le d h.l
  have h3 := h.n
  refine Nat.le_trans (m := 9300000) ?_ (by decide)
  have h4 : d.bulk ≤ 220800 := by omega
  have h5 : (40 + 2) * d.bulk ≤ (40 + 2) * 220800 := Nat.mul_le_mul_left _ h4
  omega
theorem rows_small {K : PySem.W.Frag} {H : Hp} : ∀ {zs : List V} {els : List PyData}, Paired (RowEl K H) zs els → limL els ∧ nodL els ≤ 70 * els.length ∧ PyData.depthAll els ≤ 3
  | _, _, .nil => ⟨by unfold limL; trivial, by unfold nodL; omega, by rw [PyData.depthAll]; omega⟩
  | _, _, .cons h t => by
    obtain ⟨g1, g2, g3⟩ := rows_small t
    have := h.n
    have := h.dp
    refine ⟨by unfold limL; exact ⟨h.l, g1⟩, ?_, ?_⟩
    · rw [nodL, List.length_cons]
      omega
    · rw [PyData.depthAll]
      omega
theorem pair_smB {K : PySem.W.Frag} {H : Hp} {d : PyData} {zs : List V} {els : List PyData} (hd : Sm d) (h : Paired (RowEl K H) zs els) (hl : els.length ≤ 125) : SmB (.list [d, .list els]) := by
  obtain ⟨g1, g2, g3⟩ := rows_small h
  have hn := hd.n
  have hp := depth_le d
  refine ⟨?_, ?_, ?_⟩
  · unfold lim limL limL limL
    exact ⟨hd.l, by unfold lim; exact g1, trivial⟩
  · rw [nod, nodL, nodL, nodL, nod]
    omega
  · rw [PyData.depth, PyData.depthAll, PyData.depthAll, PyData.depthAll, PyData.depth]
    omega
end VL

namespace LW
open PySem PySem.Spec L2
section
variable {X : Cx}
theorem inDK (K : PySem.W.Frag) (hu : X.A.units + 65 < cLine) (h : X.K = K := by rfl) : OpR X (compareOp .In) (rInD K) := by
  subst h
  exact op_inD hu
theorem notInDK (K : PySem.W.Frag) (hu : X.A.units + 65 < cLine) (h : X.K = K := by rfl) : OpR X (compareOp .NotIn) (rNotInD K) := by
  subst h
  exact op_notInD hu
end
end LW
namespace VL
open PySem PySem.Spec L2 LW
open Evl (Ex)
/-- a place with good steps -/
def PlG (H : Hp) (x : V) : Prop := ∃ b p, x = .ref b ∧ H b = some (.tup p) ∧ ∀ s ∈ p, StG s
theorem PlG.ex {H H' : Hp} (e : Ex H H') {x : V} (h : PlG H x) : PlG H' x := by
  obtain ⟨b, p, h1, h2, h3⟩ := h
  exact ⟨b, p, h1, e _ _ h2, h3⟩
theorem plg_dp {K : PySem.W.Frag} {H : Hp} : ∀ {zs : List V}, (∀ z ∈ zs, PlG H z) → ∃ ds, DpAll K H zs ds ∧ PyData.canLayAll0 ds = true ∧ PyData.depthAll ds ≤ 1
  | [], _ => ⟨[], .nil, rfl, by rw [PyData.depthAll]; omega⟩
  | z :: zs, h => by
    obtain ⟨ds, g1, g2, g3⟩ := plg_dp (K := K) (zs := zs) fun x hx => h x (List.mem_cons_of_mem _ hx)
    obtain ⟨b, p, rfl, hb, hg⟩ := h z List.mem_cons_self
    obtain ⟨q1, q2, q3⟩ := st_all (K := K) (H := H) fun s hs => (hg s hs).1
    refine ⟨.tuple (p.map stV) :: ds, .cons (.tup (SqTo hb) q1) g1, ?_, ?_⟩
    · rw [PyData.canLayAll0, PyData.canLay0, q2, g2]
      rfl
    · rw [PyData.depthAll, PyData.depth, q3]
      omega
theorem lay_shaped {ds : List PyData} (h : PyData.canLayAll0 ds = true) (h2 : PyData.depthAll ds ≤ 10) : SeqAt.shaped (.list ds) = true := by
  unfold SeqAt.shaped
  rw [PyData.canLay0, PyData.depth, h, Bool.true_and]
  exact decide_eq_true (by omega)
theorem snoc_of {α : Type} {p : List α} (h : p.isEmpty = false) : ∃ p' s', p = p' ++ [s'] := by
  cases p with
  | nil => cases h
  | cons a b => exact ⟨(a :: b).dropLast, (a :: b).getLast (by simp), (List.dropLast_concat_getLast (by simp)).symm⟩
theorem cut_pre (xs : List V) (k : Nat) : cutV xs none (some (k : Int)) = xs.take k := by
  unfold cutV
  rw [HT.sIx_nat, HT.sIx_none, Nat.sub_zero, List.drop_zero]
  rcases Nat.le_total k xs.length with h | h
  · rw [Nat.min_eq_left h]
  · rw [Nat.min_eq_right h, List.take_of_length_le (Nat.le_refl _), List.take_of_length_le h]
/-- rows of tuples alone are compared -/
theorem rows_dp {K : PySem.W.Frag} {H : Hp} : ∀ {zs : List V} {els : List PyData}, Paired (RowEl K H) zs els → (∀ e ∈ els, ∃ es, e = .tuple es) → DpAll K H zs els ∧ PyData.canLayAll0 els = true ∧ PyData.depthAll els ≤ 3
  | _, _, .nil, _ => ⟨.nil, rfl, by rw [PyData.depthAll]; omega⟩
  | _, e :: _, .cons h t, ht => by
    obtain ⟨g1, g2, g3⟩ := rows_dp t fun x hx => ht x (List.mem_cons_of_mem _ hx)
    obtain ⟨es, hes⟩ := ht e List.mem_cons_self
    obtain ⟨b, xs, h1, h2, h3, h4⟩ := h.tp es hes
    have hd := h.dp
    have hc : PyData.canLay0 e = true := by
      unfold SeqAt.shaped at h4
      rw [Bool.and_eq_true] at h4
      exact h4.1
    refine ⟨.cons h3 g1, ?_, ?_⟩
    · rw [PyData.canLayAll0, hc, g2]
      rfl
    · rw [PyData.depthAll]
      omega
theorem paired_take {α β : Type} {R : α → β → Prop} : ∀ {l : List α} {m : List β} (n : Nat), Paired R l m → Paired R (l.take n) (m.take n)
  | _, _, 0, _ => by rw [List.take_zero, List.take_zero]; exact .nil
  | _, _, _ + 1, .nil => by rw [List.take_nil, List.take_nil]; exact .nil
  | _, _, n + 1, .cons h t => by rw [List.take_succ_cons, List.take_succ_cons]; exact .cons h (paired_take n t)
theorem hasP_tuple {d e : PyData} (h : hasP d e = true) : ∃ es, e = .tuple es := by
  cases e with
  | tuple es => exact ⟨es, rfl⟩
  | _ => cases h
theorem okB_has {d : PyData} {els : List PyData} {j : Nat} {e : PyData} (h : okB d els j = true) (he : els[j]? = some e) : hasP d e = true := by
  unfold okB at h
  rw [he] at h
  have h : (hasP d e && _) = true := h
  rw [Bool.and_eq_true] at h
  exact h.1
theorem len_nod : ∀ es : List PyData, es.length ≤ nodL es
  | [] => Nat.zero_le _
  | e :: es => by
    have := len_nod es
    have := nod_pos e
    rw [nodL, List.length_cons]
    omega
theorem any_nb : ∀ (es : List PyData), ((es.map fun e => PyData.bool (!noB e)).any fun z => PyData.eqv z (.bool true)) = !es.all noB
  | [] => rfl
  | e :: es => by
    rw [List.map_cons, List.any_cons, any_nb es, List.all_cons, PyData.eqv]
    cases noB e <;> rfl
theorem bools_dp {K : PySem.W.Frag} {H : Hp} : ∀ (es : List PyData), DpAll K H (es.map fun e => V.bl (!noB e)) (es.map fun e => PyData.bool (!noB e)) ∧ PyData.canLayAll0 (es.map fun e => PyData.bool (!noB e)) = true ∧ PyData.depthAll (es.map fun e => PyData.bool (!noB e)) = 0
  | [] => ⟨.nil, rfl, rfl⟩
  | e :: es => by
    obtain ⟨g1, g2, g3⟩ := bools_dp (K := K) (H := H) es
    refine ⟨.cons (.bl _) g1, ?_, ?_⟩
    · rw [List.map_cons, PyData.canLayAll0, g2]
      rfl
    · rw [List.map_cons, PyData.depthAll, g3]
      rfl
theorem keys_dp {K : PySem.W.Frag} {H : Hp} : ∀ (k : List Key), DpAll K H (k.map kV) (k.map kD)
  | [] => .nil
  | .inl i :: k => .cons (.int i) (keys_dp k)
  | .inr i :: k => .cons (.str i) (keys_dp k)
theorem keys_depth : ∀ (k : List Key), PyData.depthAll (k.map kD) = 0
  | [] => rfl
  | .inl i :: k => by
    rw [List.map_cons, PyData.depthAll, keys_depth k]
    rfl
  | .inr i :: k => by
    rw [List.map_cons, PyData.depthAll, keys_depth k]
    rfl
theorem tabs_of {K : PySem.W.Frag} {H H' : Hp} (e : Ex H H') : ∀ {ks ls : List (List Key × V)} {m : List (List Key × PyData)}, Paired (TabR (RH K H')) ks m → Paired (TabR (RH K H)) ls m → Paired (TabS K H') ks ls
  | _, _, _, .nil, .nil => .nil
  | _, _, _, .cons h t, .cons h' t' => .cons ⟨h.1.trans h'.1.symm, _, h.2.1, dp_ex e h'.2.1, h.2.2⟩ (tabs_of e t t')
theorem two_shaped (w : Str) (e : PyData) (h1 : PyData.canLay0 (.str w) = true) (h2 : PyData.canLay0 e = true) (h3 : e.depth ≤ 3) : SeqAt.shaped (.tuple [.str w, e]) = true := by
  unfold SeqAt.shaped
  rw [PyData.canLay0, PyData.canLayAll0, PyData.canLayAll0, PyData.canLayAll0, h1, h2, PyData.depth, PyData.depthAll, PyData.depthAll, PyData.depthAll]
  show (true && decide _) = true
  rw [Bool.true_and]
  refine decide_eq_true ?_
  have : (PyData.str w).depth = 0 := rfl
  omega
theorem ex_room {H H1 H' : Hp} {ro : Addr} {o o' : HO} (h : H ro = none) (e1 : upd H ro o = H1) (e : Ex (upd H1 ro o') H') : Ex H H' := fun b x q => by
  have nb : b ≠ ro := fun z => by
    rw [z, h] at q
    cases q
  refine e b x ?_
  rw [upd_ne nb, ← e1, upd_ne nb]
  exact q
theorem isV_t {d : PyData} (h1 : okA d = true) (h2 : cnt d ≤ 60) : isV d = true := by
  unfold isV
  rw [h1, decide_eq_true h2]
  rfl
theorem at_last {xs : List V} (h : 0 < xs.length) : ∃ x, atI xs (-1) = some x ∧ x ∈ xs := by
  have hj : xs.length - 1 < xs.length := by omega
  refine ⟨xs[xs.length - 1], ?_, List.getElem_mem hj⟩
  unfold atI ixN
  rw [if_neg (by decide), if_pos (by omega)]
  show xs[((xs.length : Int) + -1).toNat]? = _
  rw [show ((xs.length : Int) + -1).toNat = xs.length - 1 by omega]
  exact List.getElem?_eq_getElem hj
/-! ### what stands in rows -/
theorem row_any {K : PySem.W.Frag} {H : Hp} {z : V} {e : PyData} (hd : Dt H e z) (hl : lim e) (hn : nod e ≤ 70) (hp : e.depth ≤ 3) (ht : ∀ es, e ≠ .tuple es) : RowEl K H z e := ⟨hd, hl, hn, hp, fun es he => (ht es he).elim⟩
theorem row_tup {K : PySem.W.Frag} {H : Hp} {b : Addr} {xs : List V} {es : List PyData} (hb : H b = some (.tup xs)) (hd : DtL H es xs) (hl : lim (.tuple es)) (hn : nod (.tuple es) ≤ 70) (hp : PyData.depthAll es ≤ 2) (dp : DpAll K H xs es) (cl : PyData.canLayAll0 es = true) : RowEl K H (.ref b) (.tuple es) := by
  refine ⟨dt_tup hb hd, hl, hn, by rw [PyData.depth]; omega, fun es' he => ?_⟩
  cases he
  refine ⟨b, xs, rfl, hb, .tup (SqTo hb) dp, ?_⟩
  unfold SeqAt.shaped
  rw [PyData.canLay0, PyData.depth, cl, Bool.true_and]
  exact decide_eq_true (by omega)
theorem row_of {K : PySem.W.Frag} {H : Hp} : ∀ {zs : List V}, (∀ z ∈ zs, ∃ e, RowEl K H z e) → ∃ els, Paired (RowEl K H) zs els ∧ els.length = zs.length
  | [], _ => ⟨[], .nil, rfl⟩
  | z :: zs, h => by
    obtain ⟨e, he⟩ := h z List.mem_cons_self
    obtain ⟨els, g1, g2⟩ := row_of (zs := zs) fun x hx => h x (List.mem_cons_of_mem _ hx)
    exact ⟨e :: els, .cons he g1, by rw [List.length_cons, List.length_cons, g2]⟩
end VL

namespace LW
open PySem PySem.Spec L2
section
variable {X : Cx}
def rIsDD (K : PySem.W.Frag) : List V → Hp → VK → Prop := fun xs H Q => rIsD K xs H Q ∨ rIsi K xs H Q
theorem isDD (K : PySem.W.Frag) (hK : X.K = K := by rfl) : CallR X (.builtin "isinstance") (rIsDD K) := by
  intro pins s σ H xs us Q I r h
  rcases h with h | h
  · exact isD K hK pins s σ H xs us Q I r h
  · exact isiK K hK pins s σ H xs us Q I r h
def rLnT (K : PySem.W.Frag) : List V → Hp → VK → Prop := fun xs H Q => rLnA K xs H Q ∨ rLenT xs H Q
theorem lnT (K : PySem.W.Frag) (hK : X.K = K := by rfl) : CallR X (.builtin "len") (rLnT K) := by
  intro pins s σ H xs us Q I r h
  rcases h with h | h
  · exact lnA K hK pins s σ H xs us Q I r h
  · exact call_len_dT pins s σ H xs us Q I r h
end
end LW
namespace VL
open PySem PySem.Spec L2 LW
open Evl (Ex)
/-! ### tables of heads -/
/-- the names of a record stand there once -/
def Nd (c : PyData) : Prop := ∀ kvs, c = .dict kvs → (names kvs).Nodup
theorem nd_of {H : Hp} {c : PyData} {v : V} (h : Dt H c v) (ho : okA c = true) : Nd c := fun kvs e => by
  subst e
  obtain ⟨ha, a, es, _, _, nd, hk⟩ := dict_val' h ho
  exact nodup_names hk ha nd
def TD (d : PyData) (H : Hp) (p : List Key × V) (q : List Key × PyData) : Prop := p.1 = q.1 ∧ (∃ c, At d (q.1.map kV) c ∧ Nd c ∧ q.2 = headD c) ∧ Dt H q.2 p.2
theorem TD.ex {d : PyData} {H H' : Hp} (e : Ex H H') {p : List Key × V} {q : List Key × PyData} (h : TD d H p q) : TD d H' p q := ⟨h.1, h.2.1, h.2.2.ex e⟩
theorem tds_ex {d : PyData} {H H' : Hp} (e : Ex H H') {l : List (List Key × V)} {m : List (List Key × PyData)} (h : Paired (TD d H) l m) : Paired (TD d H') l m := Paired.imp (fun _ _ q => q.ex e) h
theorem gen_any {R : List Key × V → List Key × PyData → Prop} (hk : ∀ p q, R p q → p.1 = q.1) {k : List Key} : ∀ {l : List (List Key × V)} {m : List (List Key × PyData)}, Paired R l m → (l.any fun p => decide (p.1 = k)) = m.any fun p => decide (p.1 = k)
  | _, _, .nil => rfl
  | _, _, .cons h t => by
    rw [List.any_cons, List.any_cons, gen_any hk t, hk _ _ h]
theorem gen_map {R : List Key × V → List Key × PyData → Prop} (hk : ∀ p q, R p q → p.1 = q.1) {k : List Key} {v : V} {x : PyData} (r : R (k, v) (k, x)) : ∀ {l : List (List Key × V)} {m : List (List Key × PyData)}, Paired R l m → Paired R (l.map fun p => if p.1 = k then (p.1, v) else p) (m.map fun p => if p.1 = k then (p.1, x) else p)
  | _, _, .nil => .nil
  | p :: _, q :: _, .cons h t => by
    rw [List.map_cons, List.map_cons]
    refine .cons ?_ (gen_map hk r t)
    have e0 := hk _ _ h
    by_cases e : p.1 = k
    · rw [if_pos e, if_pos (by rw [← e0]; exact e), e, ← e0, e]
      exact r
    · rw [if_neg e, if_neg (by rw [← e0]; exact e)]
      exact h
theorem gen_put {R : List Key × V → List Key × PyData → Prop} (hk : ∀ p q, R p q → p.1 = q.1) {k : List Key} {v : V} {x : PyData} {l : List (List Key × V)} {m : List (List Key × PyData)} (h : Paired R l m) (r : R (k, v) (k, x)) : Paired R (putK l k v) (putD m k x) := by
  unfold putK putD
  rw [gen_any hk h]
  split
  · exact gen_map hk r h
  · exact Paired.app h (.cons r .nil)
theorem td_put {d c : PyData} {H : Hp} {k : List Key} {v : V} {l : List (List Key × V)} {m : List (List Key × PyData)} (h : Paired (TD d H) l m) (ha : At d (k.map kV) c) (nd : Nd c) (hv : Dt H (headD c) v) : Paired (TD d H) (putK l k v) (putD m k (headD c)) :=
  gen_put (fun _ _ q => q.1) h ⟨rfl, ⟨c, ha, nd, rfl⟩, hv⟩
/-! the heap but t: data without tables stays -/
mutual
theorem dt_del {H : Hp} {t : Addr} {kvs : List (List Key × V)} (ht : H t = some (.dT kvs)) : ∀ {d : PyData} {v : V}, PyData.canLay0 d = true → Dt H d v → Dt (del H t) d v
  | .none, _, _, h => by unfold Dt at h ⊢; exact h
  | .bool b, _, _, h => by unfold Dt at h ⊢; exact h
  | .int b, _, _, h => by unfold Dt at h ⊢; exact h
  | .str b, _, _, h => by unfold Dt at h ⊢; exact h
  | .list ds, _, c, h => by
    rw [PyData.canLay0] at c
    unfold Dt at h ⊢
    obtain ⟨a, vs, rfl, ha, hl⟩ := h
    refine ⟨a, vs, rfl, ?_, dtl_del ht c hl⟩
    rcases ha with q | ⟨o, q⟩
    · exact .inl (del_get q fun z => by rw [z, ht] at q; cases q)
    · exact .inr ⟨o, del_get q fun z => by rw [z, ht] at q; cases q⟩
  | .tuple ds, _, c, h => by
    rw [PyData.canLay0] at c
    unfold Dt at h ⊢
    obtain ⟨a, vs, rfl, ha, hl⟩ := h
    refine ⟨a, vs, rfl, ?_, dtl_del ht c hl⟩
    rcases ha with q | ⟨o, q⟩
    · exact .inl (del_get q fun z => by rw [z, ht] at q; cases q)
    · exact .inr ⟨o, del_get q fun z => by rw [z, ht] at q; cases q⟩
  | .dict _, _, c, _ => by rw [PyData.canLay0] at c; cases c
theorem dtl_del {H : Hp} {t : Addr} {kvs : List (List Key × V)} (ht : H t = some (.dT kvs)) : ∀ {ds : List PyData} {vs : List V}, PyData.canLayAll0 ds = true → DtL H ds vs → DtL (del H t) ds vs
  | [], _, _, h => by unfold DtL at h ⊢; exact h
  | d :: r, _, c, h => by
    rw [PyData.canLayAll0, Bool.and_eq_true] at c
    unfold DtL at h ⊢
    obtain ⟨v, t, rfl, h1, h2⟩ := h
    exact ⟨v, t, rfl, dt_del ht c.1 h1, dtl_del ht c.2 h2⟩
end
theorem head_lay {c : PyData} (ho : okA c = true) : PyData.canLay0 (headD c) = true := by
  have hs := head_shaped ho
  unfold SeqAt.shaped at hs
  rw [Bool.and_eq_true] at hs
  exact hs.1
theorem td_del {d : PyData} {H : Hp} {t : Addr} {kvs : List (List Key × V)} (ho : okA d = true) (ht : H t = some (.dT kvs)) {l : List (List Key × V)} {m : List (List Key × PyData)} (h : Paired (TD d H) l m) : Paired (TD d (del H t)) l m := Paired.imp (fun p q r => by
  obtain ⟨c, hc, nd, he⟩ := r.2.1
  refine ⟨r.1, ⟨c, hc, nd, he⟩, dt_del ht ?_ r.2.2⟩
  rw [he]
  exact head_lay (at_ok hc ho)) h
/-! ### what stands under a key -/
theorem val_mem {kvs : List (List Key × V)} {k : List Key} {u : V} (h : valV kvs k = some u) : (k, u) ∈ kvs := by
  unfold valV at h
  cases hf : kvs.find? fun kv => decide (kv.1 = k) with
  | none => rw [hf] at h; cases h
  | some p =>
    rw [hf] at h
    have e : p.2 = u := Option.some.inj h
    have e1 : p.1 = k := by
      have q := List.find?_some hf
      exact of_decide_eq_true q
    have : p = (k, u) := by rw [← e, ← e1]
    rw [← this]
    exact List.mem_of_find?_eq_some hf
def keysT (T : List (List Key × PyData)) : List (List Key) := T.map (·.1)
theorem td_keys {d : PyData} {H : Hp} : ∀ {l : List (List Key × V)} {m : List (List Key × PyData)}, Paired (TD d H) l m → l.map (·.1) = keysT m
  | _, _, .nil => rfl
  | _, _, .cons h t => by
    unfold keysT
    rw [List.map_cons, List.map_cons, td_keys t, h.1]
    rfl
theorem val_some {d : PyData} {H : Hp} {kvs : List (List Key × V)} {T : List (List Key × PyData)} (h : Paired (TD d H) kvs T) (k : List Key) : (valV kvs k).isSome = memK (keysT T) k := by
  rw [← valV_any, ← td_keys h]
  unfold memK
  rw [List.any_map]
  rfl
theorem val_td {d : PyData} {H : Hp} {kvs : List (List Key × V)} {T : List (List Key × PyData)} (h : Paired (TD d H) kvs T) {k : List Key} {u : V} (hv : valV kvs k = some u) : ∃ c, At d (k.map kV) c ∧ Nd c ∧ Dt H (headD c) u := by
  obtain ⟨i, hi⟩ := List.mem_iff_getElem?.mp (val_mem hv)
  obtain ⟨q, hq, e1, ⟨c, hc, nd, e2⟩, hd⟩ := Paired.get h hi
  have e1 : k = q.1 := e1
  rw [← e1] at hc
  rw [e2] at hd
  exact ⟨c, hc, nd, hd⟩
/-- the place above each place is there -/
def closedB (T : List (List Key × PyData)) : Bool := (keysT T).all fun k => k.isEmpty || memK (keysT T) k.dropLast
end VL

namespace VL
open PySem PySem.Spec L2 LW PyProof.Rows
open Evl (Ex)
theorem srt_ok (l : List Str) : (srt l).Perm l ∧ sortedS (srt l) = true := by
  obtain ⟨ys, p, s⟩ := ex_sorted l
  rw [← srt_of p s]
  exact ⟨p, s⟩
/-- names rise -/
def Rise (ys : List Str) : Prop := ∀ (i : Nat) (a b : Str), ys[i]? = some a → ys[i + 1]? = some b → a.cps.toList < b.cps.toList
theorem srt_rise {l : List Str} (nd : l.Nodup) : Rise (srt l) := fun i a b ha hb => by
  obtain ⟨p, s⟩ := srt_ok l
  have nd2 : (srt l).Nodup := p.nodup_iff.mpr nd
  obtain ⟨h1, rfl⟩ := List.getElem?_eq_some_iff.mp ha
  obtain ⟨h2, rfl⟩ := List.getElem?_eq_some_iff.mp hb
  have le : leS (srt l)[i] (srt l)[i + 1] := List.pairwise_iff_getElem.mp (sorted_pw s) i (i + 1) h1 h2 (by omega)
  have ne : (srt l)[i] ≠ (srt l)[i + 1] := List.pairwise_iff_getElem.mp nd2 i (i + 1) h1 h2 (by omega)
  rcases List.le_iff_lt_or_eq.mp le with h | h
  · exact h
  · exact (ne (Str.ext' (Array.toList_inj.mp h))).elim
theorem dtl_strs {H : Hp} : ∀ {ys : List Str} {vs : List V}, DtL H (ys.map PyData.str) vs → vs = ys.map V.str
  | [], _, h => by
    unfold DtL at h
    exact h
  | y :: ys, _, h => by
    rw [List.map_cons] at h
    unfold DtL at h
    obtain ⟨v, t, rfl, h1, h2⟩ := h
    unfold Dt at h1
    rw [h1, dtl_strs h2]
    rfl
theorem inV_true {y : Str} {l : List Str} (h : y ∈ l) : inV (V.str y) (l.map V.str) = true := by
  unfold inV
  rw [List.any_map]
  exact List.any_eq_true.mpr ⟨y, h, by show (y == y) = true; exact beq_self_eq_true y⟩
theorem inV_false {y : Str} {l : List Str} (h : y ∉ l) : inV (V.str y) (l.map V.str) = false := by
  unfold inV
  rw [List.any_map]
  refine List.any_eq_false.mpr fun z hz => ?_
  show ¬ (z == y) = true
  intro q
  exact h (by rw [← LawfulBEq.eq_of_beq q]; exact hz)
section
variable {P : Program} {w : World} {K : PySem.W.Frag} {mg : Str → Option Value} {base : Heap}
/-! ### are_fields -/
def spAreF : Sp := fun vs H Q _ => ∃ (v : V) (ys : List Str), vs = [v] ∧ Dt H (.tuple (ys.map PyData.str)) v ∧ ys.length ≤ 8 ∧ (∀ y ∈ ys, fld (.str y) = true) ∧ Rise ys ∧ ∀ H', Ex H H' → Q (.bl true) H'
theorem sc_are_fields : FnScope ["thing", "k", "name"] ["thing"] (defScope s_are_fields) := ⟨rfl, rfl, rfl, by decide +kernel, rfl, by decide +kernel, by decide +kernel⟩
theorem bi_are_fields : BindsEq "are_fields" s_are_fields ["thing"] := fun _ _ _ _ _ _ us hl => match us, hl with | [_], _ => rfl
theorem ok_areF (F : Df K mg "are_fields" s_are_fields) (T : Txt K mg) (C_is_field : Cal P w K mg base CX0 2 "is_field" spField) : Cal P w K mg base CX0 3 "are_fields" spAreF := by
  refine cal0 F sc_are_fields bi_are_fields (fun vs H Q E h => ?_) (fun f cdv A outer s H vs Q E hr h => ?_)
  · obtain ⟨v, ys, rfl, _⟩ := h
    rfl
  · obtain ⟨v, ys, rfl, hd, hl8, hf, hri, k⟩ := h
    refine ⟨_, (pss_cons (ps_if (PW.pt (pw_or (pt_not (pt_val (pe_callB (isD K) rfl T.b_isinstance (by decide +kernel) (pa_cons (pv 0) (pa_cons (pe_bltn (v := .ty "tuple") rfl T.b_tuple (by decide +kernel) rfl) pa_nil))))) (pw_or1 (pt_not (pt_val (pe_callB (allK K rfl) rfl T.b_all (by decide +kernel) (pa_cons (pe_lc (own := [("name", 2)]) (by rfl) sc_are_fields.nd (pit K (pv 0)) (blkOk_by (own := [("name", 2)]) (N := ["thing", "k", "name"]) (sc := defScope s_are_fields) (by decide +kernel)) (fun _ _ _ _ _ => (pg_name (i := 2) sc_are_fields.nd rfl (Or.inl rfl))) (fun _ _ _ _ _ => pts_nil) (fun _ _ _ _ _ => (pe_k C_is_field hr (by decide) rfl (pa_cons (pv 2) pa_nil)))) pa_nil))))))) (pss_one (ps_ret pe_bl)) pss_nil)
 (pss_one (ps_ret (pe_callB (allK K rfl) rfl T.b_all (by decide +kernel) (pa_cons (pe_lc (own := [("k", 1)]) (by rfl) sc_are_fields.nd (pi_range1 rfl T.b_range (pa_cons (pe_op op_sub (pe_callB (lnK K) rfl T.b_len (by decide +kernel) (pa_cons (pv 0) pa_nil)) pe_int) pa_nil)) (blkOk_by (own := [("k", 1)]) (N := ["thing", "k", "name"]) (sc := defScope s_are_fields) (by decide +kernel)) (fun _ _ _ _ _ => (pg_name (i := 1) sc_are_fields.nd rfl (Or.inl rfl))) (fun _ _ _ _ _ => pts_nil) (fun _ _ _ _ _ => (pe_cmpR op_lt_str (pe_ix (ixt K) (pv 0) (pv 1) (fun _ _ => rfl)) (pe_ix (ixt K) (pv 0) (pe_op op_add (pv 1) pe_int) (fun _ _ => rfl)) (nomark _)))) pa_nil))))), ?_⟩
    refine ⟨_, rfl, v, _, _, true, rfl, hd, rfl, _, rfl, if_f rfl ?_⟩
    unfold Dt at hd
    obtain ⟨a, vs, rfl, ha, hl⟩ := hd
    have hlen := hl.len
    rw [List.length_map] at hlen
    have hat : ∀ i y, ys[i]? = some y → vs[i]? = some (V.str y) := fun i y hy => by
      have hi : i < vs.length := by
        rw [hlen]
        exact (List.getElem?_eq_some_iff.mp hy).1
      obtain ⟨e, he, hde⟩ := hl.get (List.getElem?_eq_getElem hi)
      rw [List.getElem?_map, hy] at he
      cases he
      rw [List.getElem?_eq_getElem hi]
      unfold Dt at hde
      rw [hde]
    refine ⟨_, rfl, a, rfl, ⟨_, .inl ha⟩, fun D nD => lc_gr (walk_tup (K := K) (a := a) (xs := vs)) (fun i acc _ => acc = (ys.take i).map fun _ => V.bl true) nD (by omega) rfl (fun H' e => .inl (rd_ex e ha)) ?_ ?_⟩
    · rintro i x acc H1 H2 hi e e' hD hl1 hacc ⟨rfl, hx⟩
      obtain ⟨ed, he, hde⟩ := hl.get hx
      rw [List.getElem?_map] at he
      cases hy : ys[i]? with
      | none => rw [hy] at he; cases he
      | some y =>
        rw [hy] at he
        cases he
        have hfy := hf y (List.mem_of_getElem? hy)
        refine ⟨rfl, _, rfl, x, .str y, rfl, hde.ex e, fun z hz => ?_, fun H' e2 => ?_⟩
        · cases hz
          have := (fld_lim hfy).1
          unfold lim at this
          exact szl (by omega)
        · rw [hfy]
          refine lc_put e' hD hl1 (by omega) e2 ?_
          rw [hacc, List.take_add_one, hy, List.map_append]
          rfl
    · rintro acc H1 e e' hD hl1 hacc
      rw [hlen, List.take_of_length_le (Nat.le_refl _)] at hacc
      subst hacc
      refine ⟨D, ys.map fun _ => true, rfl, ?_, _, rfl, ?_⟩
      · rw [List.map_map]
        exact SqLo hD
      rw [show ((ys.map fun _ => true).all id) = true from by simp]
      refine if_f rfl ?_
      have ha1 := rd_ex e ha
      refine ⟨_, rfl, _, vs.length, rfl, .inr ⟨vs, .inl ha1, rfl⟩, _, _, rfl, rfl, _, rfl, by omega, by omega, fun D2 nD2 => lc_gr walk_range (fun i acc _ => acc = (List.range i).map fun _ => V.bl true) nD2 (by omega) rfl (fun _ _ => True.intro) ?_ ?_⟩
      · rintro i x acc H2 H3 hi g g' hD2 hl2 hacc ⟨rfl, rfl⟩
        have hi2 : i + 1 < ys.length := by omega
        have h1 := hat i ys[i] (List.getElem?_eq_getElem (by omega))
        have h2 := hat (i + 1) ys[i + 1] (List.getElem?_eq_getElem hi2)
        have hlt := hri i _ _ (List.getElem?_eq_getElem (by omega)) (List.getElem?_eq_getElem hi2)
        have e0 : (fun i : Nat => V.int (0 + (i : Int))) i = V.int i := by
          show V.int _ = _
          rw [Int.zero_add]
        rw [e0]
        refine ⟨rfl, _, rfl, _, rfl, a, vs, _, _, rfl, rfl, .inl (rd_ex g ha1), atI_of (by omega) h1, ?_⟩
        refine ⟨_, rfl, _, rfl, _, _, rfl, rfl, a, vs, _, _, rfl, rfl, .inl (rd_ex g ha1), atI_of (i := ((i : Int) + 1)) (by omega) (by rw [show ((i : Int) + 1).toNat = i + 1 by omega]; exact h2), _, _, rfl, rfl, ?_⟩
        rw [decide_eq_true hlt]
        refine lc_put g' hD2 hl2 (by omega) (Ex.refl _) ?_
        rw [hacc, List.range_succ, List.map_append]
        rfl
      · rintro acc H2 g g' hD2 hl2 hacc
        subst hacc
        refine ⟨D2, (List.range ((vs.length : Int) - 1).toNat).map fun _ => true, rfl, ?_, ?_⟩
        · rw [List.map_map]
          exact SqLo hD2
        rw [show (((List.range ((vs.length : Int) - 1).toNat).map fun _ => true).all id) = true from by simp]
        exact k H2 (e.trans g)
/-! ### is_head -/
def spIsHead : Sp := fun vs H Q _ => ∃ (v : V) (c : PyData), vs = [v] ∧ Dt H (headD c) v ∧ okA c = true ∧ Nd c ∧ ∀ H', Ex H H' → Q (.bl true) H'
theorem two_of {H : Hp} {w : Str} {e : PyData} {v : V} (h : Dt H (.tuple [.str w, e]) v) : ∃ a u, v = .ref a ∧ L2.Rd H a (.tup [.str w, u]) ∧ Dt H e u := by
  unfold Dt at h
  obtain ⟨a, vs, rfl, ha, hl⟩ := h
  unfold DtL at hl
  obtain ⟨x, t, rfl, h1, hl⟩ := hl
  unfold DtL at hl
  obtain ⟨y, t, rfl, h2, hl⟩ := hl
  unfold DtL at hl
  subst hl
  unfold Dt at h1
  subst h1
  exact ⟨a, y, rfl, ha, h2⟩
theorem sc_is_head : FnScope ["thing", "word", "shown"] ["thing"] (defScope s_is_head) := ⟨rfl, rfl, rfl, by decide +kernel, rfl, by decide +kernel, by decide +kernel⟩
theorem bi_is_head : BindsEq "is_head" s_is_head ["thing"] := fun _ _ _ _ _ _ us hl => match us, hl with | [_], _ => rfl
theorem ok_isHead (F : Df K mg "is_head" s_is_head) (T : Txt K mg) (TL : ∃ u, mg "LONGEST_LIST" = some u ∧ RelV (.int 1000000000000000000000000000000) u) (C_is_integer : Cal P w K mg base CX0 1 "is_integer" spIsInt) (C_is_leaf : Cal P w K mg base CX0 2 "is_leaf" spIsLeaf) (C_are_fields : Cal P w K mg base CX0 3 "are_fields" spAreF) : Cal P w K mg base CX0 4 "is_head" spIsHead := by
  refine cal0 F sc_is_head bi_is_head (fun vs H Q E h => ?_) (fun f cdv A outer s H vs Q E hr h => ?_)
  · obtain ⟨v, c, rfl, _⟩ := h
    rfl
  · obtain ⟨v, c, rfl, hd, ho, hnd, k⟩ := h
    refine ⟨_, (pss_cons (ps_if (PW.pt (pw_or (pt_not (pt_val (pe_callB (isD K) rfl T.b_isinstance (by decide +kernel) (pa_cons (pv 0) (pa_cons (pe_bltn (v := .ty "tuple") rfl T.b_tuple (by decide +kernel) rfl) pa_nil))))) (pw_or1 (pt_cmpR op_ne (pe_callB (lnK K) rfl T.b_len (by decide +kernel) (pa_cons (pv 0) pa_nil)) pe_int (nomark _))))) (pss_one (ps_ret pe_bl)) pss_nil)
 (pss_cons (ps_asg (pv 0) (pgt (n := 2) K rfl (pgs_cons (pg_name (i := 1) sc_is_head.nd rfl (Or.inl rfl)) (pgs_cons (pg_name (i := 2) sc_is_head.nd rfl (Or.inl rfl)) pgs_nil))))
 (pss_cons (ps_if (pt_not (pt_val (pe_callB (isD K) rfl T.b_isinstance (by decide +kernel) (pa_cons (pv 1) (pa_cons (pe_bltn (v := .ty "str") rfl T.b_str (by decide +kernel) rfl) pa_nil))))) (pss_one (ps_ret pe_bl)) pss_nil)
 (pss_cons (ps_if (pt_cmpR op_eq (pv 1) pe_str (nomark _)) (pss_one (ps_ret (pe_and (pe_k C_is_integer hr (by decide) rfl (pa_cons (pv 2) pa_nil)) (pe_one (pe_k C_is_leaf hr (by decide) rfl (pa_cons (pv 2) pa_nil)))))) pss_nil)
 (pss_cons (ps_if (pt_cmpR op_eq (pv 1) pe_str (nomark _)) (pss_one (ps_ret (pe_and (pe_callB (isD K) rfl T.b_isinstance (by decide +kernel) (pa_cons (pv 2) (pa_cons (pe_bltn (v := .ty "str") rfl T.b_str (by decide +kernel) rfl) pa_nil))) (pe_one (pe_k C_is_leaf hr (by decide) rfl (pa_cons (pv 2) pa_nil)))))) pss_nil)
 (pss_cons (ps_if (pt_cmpR op_eq (pv 1) pe_str (nomark _)) (pss_one (ps_ret (pe_and (pe_k C_is_integer hr (by decide) rfl (pa_cons (pv 2) pa_nil)) (pe_one (pe_chain op_le op_le pe_int (pv 2) (pgc rfl TL)))))) pss_nil)
 (pss_one (ps_ret (pe_and (pe_cmpR op_eq (pv 1) pe_str (nomark _)) (pe_and (pe_k C_are_fields hr (by decide) rfl (pa_cons (pv 2) pa_nil)) (pe_one (pe_cmpR op_le (pe_callB (lnK K) rfl T.b_len (by decide +kernel) (pa_cons (pv 2) pa_nil)) (pgc rfl T.g_MOST_FIELDS) (nomark _))))))))))))), ?_⟩
    have hex : ∃ w e, headD c = .tuple [.str w, e] := by cases c <;> exact ⟨_, _, rfl⟩
    have hd0 := hd
    obtain ⟨w0, e0, he0⟩ := hex
    rw [he0] at hd
    obtain ⟨a, u, rfl, ha, hu⟩ := two_of hd
    refine ⟨_, rfl, .ref a, _, _, true, rfl, hd, rfl, _, rfl, if_f rfl ?_⟩
    refine ⟨_, rfl, _, 2, rfl, .inr ⟨_, .inl ha, rfl⟩, rfl, _, rfl, if_f (by decide) ?_⟩
    refine ⟨_, rfl, a, _, rfl, .inl ha, rfl, _, _, rfl, _, _, rfl, rfl, ?_⟩
    refine ⟨_, rfl, .str w0, .str w0, _, true, rfl, dt_str w0, rfl, _, rfl, if_f rfl ?_⟩
    cases c with
    | int i =>
      cases he0
      refine ⟨_, rfl, rfl, _, rfl, if_t (by decide +kernel) ?_⟩
      refine ⟨_, rfl, u, .int i, rfl, hu, _, rfl, if_t rfl ⟨_, rfl, u, .int i, rfl, hu, nofun, fun H' e => ?_⟩⟩
      rw [show leafD (.int i) = true from ho]
      exact k H' e
    | str x =>
      cases he0
      refine ⟨_, rfl, rfl, _, rfl, if_f (by decide +kernel) ?_⟩
      refine ⟨_, rfl, rfl, _, rfl, if_t (by decide +kernel) ?_⟩
      refine ⟨_, rfl, u, .str x, _, true, rfl, hu, rfl, _, rfl, if_t rfl ⟨_, rfl, u, .str x, rfl, hu, fun z hz => ?_, fun H' e => ?_⟩⟩
      · cases hz
        have := (ok_lim _ ho).1
        unfold lim at this
        exact szl (by omega)
      · rw [show leafD (.str x) = true from ho]
        exact k H' e
    | list ds =>
      cases he0
      rw [okA_kids, Bool.and_eq_true] at ho
      have h60 : ds.length < 60 := of_decide_eq_true ho.1
      refine ⟨_, rfl, rfl, _, rfl, if_f (by decide +kernel) ?_⟩
      refine ⟨_, rfl, rfl, _, rfl, if_f (by decide +kernel) ?_⟩
      refine ⟨_, rfl, rfl, _, rfl, if_t (by decide +kernel) ?_⟩
      refine ⟨_, rfl, u, _, rfl, hu, _, rfl, if_t rfl ?_⟩
      unfold Dt at hu
      subst hu
      refine ⟨_, rfl, _, _, rfl, rfl, _, rfl, if_t (decide_eq_true (by omega)) ⟨_, _, rfl, rfl, ?_⟩⟩
      show Q (.bl (decide ((ds.length : Int) ≤ 1000000000000000000000000000000))) H
      rw [decide_eq_true (by omega)]
      exact k H (Ex.refl _)
    | dict kvs =>
      cases he0
      have ho2 := ho
      rw [okA_kids, Bool.and_eq_true] at ho
      have h1 : (decide (kvs.length ≤ 8) && kvs.all fun p => fld p.1) = true := ho.1
      rw [Bool.and_eq_true] at h1
      obtain ⟨hal, _⟩ := allStr_of ho.1
      obtain ⟨hp, _⟩ := srt_ok (names kvs)
      have hlen : (srt (names kvs)).length ≤ 8 := by
        rw [hp.length_eq]
        unfold names
        rw [List.length_map]
        exact of_decide_eq_true h1.1
      refine ⟨_, rfl, rfl, _, rfl, if_f (by decide +kernel) ?_⟩
      refine ⟨_, rfl, rfl, _, rfl, if_f (by decide +kernel) ?_⟩
      refine ⟨_, rfl, rfl, _, rfl, if_f (by decide +kernel) ?_⟩
      refine ⟨_, rfl, rfl, _, rfl, if_t (by decide +kernel) ?_⟩
      refine ⟨_, rfl, u, srt (names kvs), rfl, hu, hlen, fun y hy => ?_, srt_rise (hnd kvs rfl), fun H1 e1 => ⟨_, rfl, if_t rfl ?_⟩⟩
      · obtain ⟨p, hp, e⟩ := List.mem_map.mp (srt_mem hy)
        have q := List.all_eq_true.mp h1.2 p hp
        have e2 := hal p hp
        rw [← e, ← e2]
        exact q
      · have hu1 := hu.ex e1
        unfold Dt at hu1
        obtain ⟨b, vs, rfl, hb, hl⟩ := hu1
        have hvl := hl.len
        rw [List.length_map] at hvl
        refine ⟨_, rfl, _, vs.length, rfl, .inr ⟨_, .inl hb, rfl⟩, _, _, rfl, rfl, ?_⟩
        show Q (.bl (decide ((vs.length : Int) ≤ 8))) H1
        rw [decide_eq_true (by omega)]
        exact k H1 e1
    | _ => cases ho
/-! ### shows_step -/
def spShows : Sp := fun vs H Q _ => ∃ (v : V) (c : PyData) (k : Key), vs = [v, kV k] ∧ Dt H (headD c) v ∧ okA c = true ∧ Q (.bl (stepD c (kV k)).isSome) H
theorem sc_shows_step : FnScope ["head", "step", "word", "shown"] ["head", "step"] (defScope s_shows_step) := ⟨rfl, rfl, rfl, by decide +kernel, rfl, by decide +kernel, by decide +kernel⟩
theorem bi_shows_step : BindsEq "shows_step" s_shows_step ["head", "step"] := fun _ _ _ _ _ _ us hl => match us, hl with | [_, _], _ => rfl
theorem ok_shows (F : Df K mg "shows_step" s_shows_step) (T : Txt K mg) (C_is_integer : Cal P w K mg base CX0 1 "is_integer" spIsInt) : Cal P w K mg base CX0 2 "shows_step" spShows := by
  refine cal0 F sc_shows_step bi_shows_step (fun vs H Q E h => ?_) (fun f cdv A outer s H vs Q E hr h => ?_)
  · obtain ⟨v, c, k, rfl, _⟩ := h
    rfl
  · obtain ⟨v, c, ky, rfl, hd, ho, k⟩ := h
    refine ⟨_, (pss_cons (ps_asg (pv 0) (pgt (n := 2) K rfl (pgs_cons (pg_name (i := 2) sc_shows_step.nd rfl (Or.inl rfl)) (pgs_cons (pg_name (i := 3) sc_shows_step.nd rfl (Or.inl rfl)) pgs_nil))))
 (pss_cons (ps_if (pt_cmpR op_eq (pv 2) pe_str (nomark _)) (pss_one (ps_ret (pe_and (pe_callB (isD K) rfl T.b_isinstance (by decide +kernel) (pa_cons (pv 1) (pa_cons (pe_bltn (v := .ty "str") rfl T.b_str (by decide +kernel) rfl) pa_nil))) (pe_one (pe_cmpR (inq K) (pv 1) (pv 3) (by rfl)))))) pss_nil)
 (pss_one (ps_ret (pe_and (pe_cmpR op_eq (pv 2) pe_str (nomark _)) (pe_and (pe_k C_is_integer hr (by decide) rfl (pa_cons (pv 1) pa_nil)) (pe_one (pe_chain op_le op_lt pe_int (pv 1) (pv 3))))))))), ?_⟩
    have hex : ∃ w e, headD c = .tuple [.str w, e] := by cases c <;> exact ⟨_, _, rfl⟩
    obtain ⟨w0, e0, he0⟩ := hex
    rw [he0] at hd
    obtain ⟨a, u, rfl, ha, hu⟩ := two_of hd
    refine ⟨_, rfl, a, _, rfl, .inl ha, rfl, _, _, rfl, _, _, rfl, rfl, ?_⟩
    cases c with
    | int i =>
      cases he0
      refine ⟨_, rfl, rfl, _, rfl, if_f (by decide +kernel) ?_⟩
      refine ⟨_, rfl, rfl, _, rfl, if_f (by decide +kernel) ?_⟩
      cases ky <;> exact k
    | str x =>
      cases he0
      refine ⟨_, rfl, rfl, _, rfl, if_f (by decide +kernel) ?_⟩
      refine ⟨_, rfl, rfl, _, rfl, if_f (by decide +kernel) ?_⟩
      cases ky <;> exact k
    | list ds =>
      cases he0
      refine ⟨_, rfl, rfl, _, rfl, if_f (by decide +kernel) ?_⟩
      refine ⟨_, rfl, rfl, _, rfl, if_t (by decide +kernel) ?_⟩
      unfold Dt at hu
      subst hu
      cases ky with
      | inr y => exact ⟨_, rfl, .str y, .str y, rfl, dt_str y, _, rfl, if_f rfl k⟩
      | inl i =>
        refine ⟨_, rfl, .int i, .int i, rfl, dt_int i, _, rfl, if_t rfl ?_⟩
        have e : (stepD (.list ds) (.int i)).isSome = (decide (0 ≤ i) && decide (i < (ds.length : Int))) := by
          show (if 0 ≤ i then ds[i.toNat]? else none).isSome = _
          by_cases h0 : 0 ≤ i
          · rw [if_pos h0, decide_eq_true h0, Bool.true_and]
            by_cases h1 : i < (ds.length : Int)
            · rw [decide_eq_true h1, List.getElem?_eq_getElem (by omega)]
              rfl
            · rw [decide_eq_false h1, List.getElem?_eq_none (by omega)]
              rfl
          · rw [if_neg h0, decide_eq_false h0]
            rfl
        have k : Q (.bl (stepD (.list ds) (.int i)).isSome) H := k
        rw [e] at k
        refine ⟨_, rfl, _, _, rfl, rfl, _, rfl, if_b (fun h1 => ⟨_, rfl, _, _, rfl, rfl, ?_⟩) (fun h1 => ?_)⟩
        · rw [show decide (0 ≤ i) = true from h1, Bool.true_and] at k
          exact k
        · rw [show decide (0 ≤ i) = false from h1, Bool.false_and] at k
          exact k
    | dict kvs =>
      cases he0
      refine ⟨_, rfl, rfl, _, rfl, if_t (by decide +kernel) ?_⟩
      cases ky with
      | inl i => exact ⟨_, rfl, .int i, .int i, _, false, rfl, dt_int i, rfl, _, rfl, if_f rfl k⟩
      | inr y =>
        refine ⟨_, rfl, .str y, .str y, _, true, rfl, dt_str y, rfl, _, rfl, if_t rfl ?_⟩
        unfold Dt at hu
        obtain ⟨b, vs, rfl, hb, hl⟩ := hu
        have hvs : vs = (srt (names kvs)).map V.str := dtl_strs hl
        refine ⟨_, rfl, _, rfl, b, vs, rfl, .inr (.inl hb), rfl, ?_, ?_⟩
        · rw [hvs, List.all_map]
          exact List.all_eq_true.mpr fun _ _ => rfl
        · have e : inV (V.str y) vs = (stepD (.dict kvs) (.str y)).isSome := by
            show _ = (if y ∈ names kvs then some (getN kvs y) else none).isSome
            rw [hvs]
            obtain ⟨hp, _⟩ := srt_ok (names kvs)
            by_cases hy : y ∈ names kvs
            · rw [if_pos hy]
              exact inV_true (hp.mem_iff.mpr hy)
            · rw [if_neg hy]
              exact inV_false fun z => hy (hp.mem_iff.mp z)
          have k : Q (.bl (stepD (.dict kvs) (.str y)).isSome) H := k
          rw [← e] at k
          exact k
    | _ => cases ho
/-! ### is_place -/
def spIsPlace : Sp := fun vs H Q _ => (∃ (b : Addr) (k : List Key), vs = [.ref b] ∧ H b = some (.tup (k.map kV)) ∧ k.length ≤ 1000 ∧ ∀ H', Ex H H' → Q (.bl true) H') ∨ ∃ (v : V) (d : PyData), vs = [v] ∧ Dt H d v ∧ (∀ es, d ≠ .tuple es) ∧ Q (.bl false) H
theorem sc_is_place : FnScope ["thing", "step"] ["thing"] (defScope s_is_place) := ⟨rfl, rfl, rfl, by decide +kernel, rfl, by decide +kernel, by decide +kernel⟩
theorem bi_is_place : BindsEq "is_place" s_is_place ["thing"] := fun _ _ _ _ _ _ us hl => match us, hl with | [_], _ => rfl
theorem ok_isPlace (F : Df K mg "is_place" s_is_place) (T : Txt K mg) (C_is_integer : Cal P w K mg base CX0 1 "is_integer" spIsInt) : Cal P w K mg base CX0 2 "is_place" spIsPlace := by
  refine cal0 F sc_is_place bi_is_place (fun vs H Q E h => ?_) (fun f cdv A outer s H vs Q E hr h => ?_)
  · rcases h with ⟨b, k, rfl, _⟩ | ⟨v, d, rfl, _⟩ <;> rfl
  · refine ⟨_, (pss_one (ps_ret (pe_and (pe_callB (isD K) rfl T.b_isinstance (by decide +kernel) (pa_cons (pv 0) (pa_cons (pe_bltn (v := .ty "tuple") rfl T.b_tuple (by decide +kernel) rfl) pa_nil))) (pe_one (pe_callB (allK K rfl) rfl T.b_all (by decide +kernel) (pa_cons (pe_lc (own := [("step", 1)]) (by rfl) sc_is_place.nd (pit K (pv 0)) (blkOk_by (own := [("step", 1)]) (N := ["thing", "step"]) (sc := defScope s_is_place) (by decide +kernel)) (fun _ _ _ _ _ => (pg_name (i := 1) sc_is_place.nd rfl (Or.inl rfl))) (fun _ _ _ _ _ => pts_nil) (fun _ _ _ _ _ => (pe_or (pe_callB (isD K) rfl T.b_isinstance (by decide +kernel) (pa_cons (pv 1) (pa_cons (pe_bltn (v := .ty "str") rfl T.b_str (by decide +kernel) rfl) pa_nil))) (pe_one (pe_k C_is_integer hr (by decide) rfl (pa_cons (pv 1) pa_nil)))))) pa_nil)))))), ?_⟩
    rcases h with ⟨b, ks, rfl, hb, hkl, k⟩ | ⟨v, d, rfl, hd, hne, k⟩
    · refine ⟨_, rfl, .ref b, .tuple (ks.map kD), _, true, rfl, dt_tup hb (keys_dt ks), rfl, _, rfl, if_t rfl ?_⟩
      refine ⟨_, rfl, b, rfl, ⟨_, SqTo hb⟩, fun D nD => lc_gr (walk_tup (K := K) (a := b) (xs := ks.map kV)) (fun i acc _ => acc = (ks.take i).map fun _ => V.bl true) nD (by rw [List.length_map]; omega) rfl (fun H' e => SqTo (e _ _ hb)) ?_ ?_⟩
      · rintro i x acc H1 H2 hi e e' hD hl1 hacc ⟨rfl, hx⟩
        rw [List.length_map] at hi
        rw [List.getElem?_map] at hx
        cases hy : ks[i]? with
        | none => rw [hy] at hx; cases hx
        | some y =>
          rw [hy] at hx
          have hx : some (kV y) = some x := hx
          cases hx
          have fin : ∃ acc_1, H2 D = some (.lst acc_1) ∧ acc_1.length < sizeLine ∧ LcP (fun i acc _ => acc = (ks.take i).map fun _ => V.bl true) H D (i + 1) (upd H2 D (.lst (acc_1 ++ [V.bl true]))) := lc_put e' hD hl1 (by omega) (Ex.refl _) (by
            rw [hacc, List.take_add_one, hy, List.map_append]
            rfl)
          cases y with
          | inr z => exact ⟨rfl, _, rfl, .str z, .str z, _, true, rfl, dt_str z, rfl, _, rfl, if_t rfl fin⟩
          | inl z => exact ⟨rfl, _, rfl, .int z, .int z, _, false, rfl, dt_int z, rfl, _, rfl, if_f rfl ⟨_, rfl, .int z, .int z, rfl, dt_int z, fin⟩⟩
      · rintro acc H1 e e' hD hl1 hacc
        rw [List.length_map, List.take_of_length_le (Nat.le_refl _)] at hacc
        subst hacc
        refine ⟨D, ks.map fun _ => true, rfl, ?_, ?_⟩
        · rw [List.map_map]
          exact SqLo hD
        rw [show ((ks.map fun _ => true).all id) = true from by simp]
        exact k H1 e
    · have hk : PySem.W.kitOne K (.type (tyD d)) (.type "tuple") = some false := by
        cases d with
        | tuple es => exact (hne es rfl).elim
        | _ => rfl
      exact ⟨_, rfl, v, d, _, false, rfl, hd, hk, _, rfl, if_f rfl k⟩
end
end VL

namespace VL
open PySem PySem.Spec L2 LW
open Evl (Ex)
/-- a table at a: places of d, each with its head -/
structure SeenT (H : Hp) (a : Addr) (d : PyData) (kvs : List (List Key × V)) (T : List (List Key × PyData)) : Prop where
  at_ : H a = some (.dT kvs)
  td : Paired (TD d (del H a)) kvs T
  ok : okA d = true
  c : cnt d ≤ 60
  len : T.length ≤ 60
theorem SeenT.ex {H H' : Hp} (e : Ex H H') {a : Addr} {d : PyData} {kvs : List (List Key × V)} {T : List (List Key × PyData)} (h : SeenT H a d kvs T) : SeenT H' a d kvs T := ⟨e _ _ h.at_, tds_ex (del_grow' e) h.td, h.ok, h.c, h.len⟩
theorem key_st (k : List Key) : (k.map kV).map stV = k.map kD := by
  rw [List.map_map]
  refine List.map_congr_left fun x _ => ?_
  cases x <;> rfl
theorem key_shaped {d c : PyData} {k : List Key} (ho : okA d = true) (h : At d (k.map kV) c) : SeqAt.shaped (.tuple (k.map kD)) = true := by
  rw [← key_st]
  exact st_shaped (at_st h ho)
theorem SeenT.key {H : Hp} {a : Addr} {d : PyData} {kvs : List (List Key × V)} {T : List (List Key × PyData)} (h : SeenT H a d kvs T) {k : List Key} (hk : k ∈ keysT T) : ∃ u c, valV kvs k = some u ∧ At d (k.map kV) c ∧ Nd c ∧ okA c = true ∧ Dt (del H a) (headD c) u := by
  have e := val_some h.td k
  rw [memK_iff.mpr hk] at e
  obtain ⟨u, hu⟩ := Option.isSome_iff_exists.mp e
  obtain ⟨c, h1, h2, h3⟩ := val_td h.td hu
  exact ⟨u, c, hu, h1, h2, at_ok h1 h.ok, h3⟩
theorem SeenT.keyL {H : Hp} {a : Addr} {d : PyData} {kvs : List (List Key × V)} {T : List (List Key × PyData)} (h : SeenT H a d kvs T) {k : List Key} (hk : k ∈ keysT T) : k.length ≤ 60 := by
  obtain ⟨u, c, _, h1, _⟩ := h.key hk
  have := (at_g h1 h.ok).2
  rw [List.length_map] at this
  have := h.c
  omega
theorem at_end (p : List V) (s : V) : atI (p ++ [s]) (-1) = some s := by
  unfold atI ixN
  have hl : (p ++ [s]).length = p.length + 1 := by rw [List.length_append]; rfl
  rw [if_neg (by decide), if_pos (by rw [hl]; omega)]
  show (p ++ [s])[(-1 + ((p ++ [s]).length : Int)).toNat]? = _
  rw [show (-1 + ((p ++ [s]).length : Int)).toNat = p.length by rw [hl]; omega]
  exact List.getElem?_concat_length
/-- the heap without a is kept by the lock on a -/
theorem ex_lock {H Hf : Hp} {a : Addr} (h : ∀ b, b ≠ a → Hf b = H b) : Ex (del H a) Hf := fun b o q => by
  by_cases e : b = a
  · rw [e, del_same] at q
    cases q
  · rw [del_ne e] at q
    rw [h b e]
    exact q
theorem ex_th {H Hf Hi Ht : Hp} {a : Addr} (h1 : ∀ b, b ≠ a → Hf b = H b) (e : Ex Hf Hi) (h2 : ∀ b, b ≠ a → Ht b = Hi b) (h3 : Ht a = H a) : Ex H Ht := fun b x q => by
  by_cases eb : b = a
  · rw [eb] at q ⊢
    rw [h3]
    exact q
  · rw [h2 b eb]
    exact e b x (by rw [h1 b eb]; exact q)
section
variable {P : Program} {w : World} {K : PySem.W.Frag} {mg : Str → Option Value} {base : Heap}
/-! ### is_seen -/
def spIsSeen : Sp := fun vs H Q _ => ∃ x, vs = [x] ∧ ((∃ e, Dt H e x ∧ (∀ kvs, e ≠ .dict kvs) ∧ Q (.bl false) H) ∨
  (∃ a, x = .ref a ∧ H a = some (.dK [((.inl 0 : Key), .int 0)]) ∧ ∀ H', Ex H H' → Q (.bl false) H') ∨
  ∃ a d kvs T, x = .ref a ∧ SeenT H a d kvs T ∧ ∀ H', Ex H H' → Q (.bl (closedB T)) H')
theorem sc_is_seen : FnScope ["thing", "place"] ["thing"] (defScope s_is_seen) := ⟨rfl, rfl, rfl, by decide +kernel, rfl, by decide +kernel, by decide +kernel⟩
theorem bi_is_seen : BindsEq "is_seen" s_is_seen ["thing"] := fun _ _ _ _ _ _ us hl => match us, hl with | [_], _ => rfl
theorem ok_isSeen (F : Df K mg "is_seen" s_is_seen) (T : Txt K mg) (C_is_place : Cal P w K mg base CX0 2 "is_place" spIsPlace) (C_is_head : Cal P w K mg base CX0 4 "is_head" spIsHead) (C_shows_step : Cal P w K mg base CX0 2 "shows_step" spShows) : Cal P w K mg base CX0 5 "is_seen" spIsSeen := by
  refine cal0 F sc_is_seen bi_is_seen (fun vs H Q E h => ?_) (fun f cdv A outer s H vs Q E hr h => ?_)
  · obtain ⟨x, rfl, _⟩ := h
    rfl
  · obtain ⟨x, rfl, h⟩ := h
    have hu : (A.deeper (PyProof.Rows.envOfC "is_seen" (defScope s_is_seen) s.heap.objs.size f cdv)).units + 1 < cLine := by have := hr.un; omega
    refine ⟨_, (pss_cons (ps_if (PW.pt (pw_or (pt_not (pt_val (pe_callB (isDD K) rfl T.b_isinstance (by decide +kernel) (pa_cons (pv 0) (pa_cons (pe_bltn (v := .ty "dict") rfl T.b_dict (by decide +kernel) rfl) pa_nil))))) (pw_or1 (pt_cmpR op_gt (pe_callB (lnT K) rfl T.b_len (by decide +kernel) (pa_cons (pv 0) pa_nil)) (pgc rfl T.g_MOST_PLACES) (nomark _))))) (pss_one (ps_ret pe_bl)) pss_nil)
 (pss_cons (ps_lockA (ps_for PassesOwn.never rfl (pi_keys (pv 0)) (pg_name (i := 1) sc_is_seen.nd rfl (Or.inl rfl)) (pss_one (ps_if (PW.pt (pw_or (pt_not (pt_val (pe_k C_is_place hr (by decide) rfl (pa_cons (pv 1) pa_nil)))) (pw_or1 (pt_not (pt_val (pe_k C_is_head hr (by decide) rfl (pa_cons (pe_dget hu (pv 0) (pv 1) (fun _ _ => rfl)) pa_nil))))))) (pss_one (ps_ret pe_bl)) pss_nil))))
 (pss_cons (ps_lockA (ps_for PassesOwn.never rfl (pi_keys (pv 0)) (pg_name (i := 1) sc_is_seen.nd rfl (Or.inl rfl)) (pss_one (ps_if (PW.pt (pw_and (pt_cmpR (neDK K hr.units) (pv 1) (pe_tup pa_nil) (nomark _)) (pw_and1 (PW.pt (pw_or (pt_cmp (pc_dnotin hu (pe_slice sl_tup (pv 1) po_none (po_some (pe_un un_neg pe_int))) (pv 0))) (pw_or1 (pt_not (pt_val (pe_k C_shows_step hr (by decide) rfl (pa_cons (pe_dget hu (pv 0) (pe_slice sl_tup (pv 1) po_none (po_some (pe_un un_neg pe_int))) (fun _ _ => rfl)) (pa_cons (pe_ix (ixt K) (pv 1) (pe_un un_neg pe_int) (fun _ _ => rfl)) pa_nil))))))))))) (pss_one (ps_ret pe_bl)) pss_nil))))
 (pss_one (ps_ret pe_bl))))), ?_⟩
    rcases h with ⟨e, hd, hne, k⟩ | ⟨a, rfl, ha, k⟩ | ⟨a, d, kvs, TT, rfl, hS, k⟩
    · have hk : PySem.W.kitOne K (.type (tyD e)) (.type "dict") = some false := by
        cases e with
        | dict kvs => exact (hne kvs rfl).elim
        | _ => rfl
      exact ⟨_, rfl, .inl ⟨x, e, _, false, rfl, hd, hk, _, rfl, if_t rfl (if_t rfl k)⟩⟩
    · refine ⟨_, rfl, .inl ⟨.ref a, .dict [(.int 0, .int 0)], _, true, rfl, dt_dk1 (k := (.inl 0 : Key)) ha (dt_int 0), rfl, _, rfl, if_f rfl ?_⟩⟩
      refine ⟨_, rfl, .inl (.inr ⟨a, rfl, .inl ⟨_, .inl ha, _, _, rfl, rfl, _, rfl, if_f (by decide) ?_⟩⟩)⟩
      refine lockA_eq (.inl ha) True.intro ?_
      intro Hf o D' th hof hf rx hth hta krt knx
      refine ⟨_, rfl, a, o, rfl, .inl ⟨_, hf, for_it walk_keys (fun i σ' Hi => i = 0 ∧ (∃ o1, σ' = [some (.ref a), o1]) ∧ Ex Hf Hi) ⟨rfl, ⟨_, rfl⟩, Ex.refl _⟩ ?_ ?_ ?_⟩⟩
      · rintro i σ' Hi _ ⟨_, _, e⟩
        exact e _ _ hf
      · rintro i y σ' Ho Hi hi ⟨rfl, ⟨o1, rfl⟩, e⟩ ⟨rfl, ky, v, hkv, rfl⟩
        have hky : ky = .inl 0 := by
          have := congrArg (Option.map Prod.fst) hkv
          exact (Option.some.inj this).symm
        subst hky
        refine ⟨_, rfl, .inr ⟨.int 0, .int 0, rfl, dt_int 0, nofun, _, rfl, if_t rfl (if_t rfl ?_)⟩⟩
        refine krt _ _ (e _ _ hf) (k _ ?_)
        exact ex_th hof e (fun b hb => hth _ b hb) (hta _ (e _ _ hf)).1
      · rintro σ' Hi ⟨h0, _⟩
        cases h0
    · have ha := hS.at_
      have hlen : kvs.length ≤ 60 := by
        rw [Paired.len hS.td]
        exact hS.len
      refine ⟨_, rfl, .inr ⟨.ref a, .ty "dict", .type "dict", .type "dict", true, rfl, .ty "dict", .base (.dT ha), rfl, _, rfl, if_f rfl ?_⟩⟩
      refine ⟨_, rfl, .inr ⟨a, kvs, rfl, ha, _, _, rfl, rfl, _, rfl, if_f (decide_eq_false (by omega)) ?_⟩⟩
      -- the first loop
      refine lockA_eq (.inl ha) True.intro ?_
      intro Hf o D' th hof hf rx hth hta krt knx
      refine ⟨_, rfl, a, o, rfl, .inr ⟨_, hf, for_it walk_keysT (fun i σ' Hi => (∃ o1, σ' = [some (.ref a), o1]) ∧ Ex Hf Hi) ⟨⟨_, rfl⟩, Ex.refl _⟩ ?_ ?_ ?_⟩⟩
      · rintro i σ' Hi _ ⟨_, e⟩
        exact e _ _ hf
      · rintro i y σ' Ho Hi hi ⟨⟨o1, rfl⟩, e⟩ ⟨rfl, ky, v, q, hkv, rfl, hq⟩
        have hky : ky ∈ keysT TT := by
          rw [← td_keys hS.td]
          exact List.mem_map.mpr ⟨_, List.mem_of_getElem? hkv, rfl⟩
        obtain ⟨u, c, hu1, hu2, hu3, hu4, hu5⟩ := hS.key hky
        have hkl := hS.keyL hky
        refine ⟨_, rfl, .inl ⟨q, ky, rfl, hq, by omega, fun H1 e1 => ⟨_, rfl, if_f rfl ?_⟩⟩⟩
        have ef1 := e.trans e1
        refine ⟨_, rfl, _, rfl, a, u, rfl, .inr ⟨kvs, ky, q, .inr ⟨o, ef1 _ _ hf⟩, rfl, e1 _ _ hq, hu1.symm⟩, u, c, rfl, hu5.ex ((ex_lock hof).trans ef1), hu4, hu3, fun H2 e2 => ⟨_, rfl, if_f rfl ⟨⟨_, rfl⟩, ef1.trans e2⟩⟩⟩
      · rintro σ' Hi ⟨⟨o1, rfl⟩, e⟩
        refine knx _ _ (e _ _ hf) ?_
        have eH : Ex H (th Hi) := ex_th hof e (fun b hb => hth _ b hb) (hta _ (e _ _ hf)).1
        generalize th Hi = H2 at eH
        have hS2 := hS.ex eH
        have ha2 := hS2.at_
        clear krt knx hta hth rx hf e hof
        -- the second loop
        refine lockA_eq (.inl ha2) True.intro ?_
        intro Hf o D' th hof hf rx hth hta krt knx
        refine ⟨_, rfl, a, o, rfl, .inr ⟨_, hf, for_it walk_keysT (fun i σ' Hi => (∃ o1, σ' = [some (.ref a), o1]) ∧ Ex Hf Hi ∧ ∀ j k, j < i → (keysT TT)[j]? = some k → (k.isEmpty || memK (keysT TT) k.dropLast) = true) ⟨⟨_, rfl⟩, Ex.refl _, fun _ _ h => (Nat.not_lt_zero _ h).elim⟩ ?_ ?_ ?_⟩⟩
        · rintro i σ' Hi _ ⟨_, e, _⟩
          exact e _ _ hf
        · rintro i y σ' Ho Hi hi ⟨⟨o1, rfl⟩, e, hall⟩ ⟨rfl, ky, v, q, hkv, rfl, hq⟩
          have hkyi : (keysT TT)[i]? = some ky := by
            rw [← td_keys hS.td, List.getElem?_map, hkv]
            rfl
          have hky := List.mem_of_getElem? hkyi
          obtain ⟨u, c, hu1, hu2, hu3, hu4, hu5⟩ := hS2.key hky
          have hsh := key_shaped hS.ok hu2
          have nxt : ∀ Hj, Ex Hi Hj → (ky.isEmpty || memK (keysT TT) ky.dropLast) = true → (∃ o1, [some (V.ref a), some (V.ref q)] = [some (V.ref a), o1]) ∧ Ex Hf Hj ∧ ∀ j k, j < i + 1 → (keysT TT)[j]? = some k → (k.isEmpty || memK (keysT TT) k.dropLast) = true := by
            intro Hj y hok
            refine ⟨⟨_, rfl⟩, e.trans y, fun j k hj hk => ?_⟩
            by_cases hji : j = i
            · subst hji
              rw [hkyi] at hk
              cases hk
              exact hok
            · exact hall j k (by omega) hk
          refine ⟨_, rfl, szl (by show 0 ≤ 100000; decide), fun p1 np1 => ?_⟩
          obtain ⟨H3, hH3, x3, h3⟩ := newH _ np1
          rw [hH3]
          clear hH3
          refine ⟨.tuple (ky.map kD), .tuple [], .tup (SqTo (x3 _ _ hq)) (keys_dp ky), .tup (SqTo h3) .nil, hsh, rfl, _, rfl, if_b (fun h => ?_) (fun h => ?_)⟩
          · rw [eqv_nil'] at h
            obtain ⟨k', s', rfl⟩ : ∃ k' s', ky = k' ++ [s'] := snoc_of (by
              cases hk : ky with
              | nil => rw [hk] at h; cases h
              | cons a b => rfl)
            have hq3 := x3 _ _ hq
            rw [List.map_append, List.map_singleton] at hq3
            have hemp : (k' ++ [s']).isEmpty = false := by cases k' <;> rfl
            refine ⟨_, rfl, _, rfl, _, rfl, q, _, rfl, .inl (.inl hq3), fun z => ?_, fun p3 np3 => ?_⟩
            · have z2 := z.2
              rw [six_last, List.length_append] at z2
              have : ([kV s'] : List V).length = 1 := rfl
              omega
            · rw [cut_last]
              obtain ⟨H4, hH4, x4, h4⟩ := newH (.tup (k'.map kV)) np3
              rw [hH4]
              clear hH4
              have xf4 := e.trans (x3.trans x4)
              refine ⟨_, rfl, a, _, rfl, .inr ⟨kvs, k', p3, .inr ⟨o, xf4 _ _ hf⟩, rfl, h4, rfl⟩, _, rfl, ?_⟩
              rw [val_some hS.td k']
              cases hm : memK (keysT TT) k' with
              | false =>
                refine if_t rfl (if_t rfl (krt _ _ (xf4 _ _ hf) ?_))
                have hcl : closedB TT = false := by
                  unfold closedB
                  refine Bool.eq_false_iff.mpr fun z => ?_
                  have z2 := List.all_eq_true.mp z _ hky
                  rw [hemp, List.dropLast_concat, hm] at z2
                  cases z2
                rw [hcl] at k
                exact k _ (eH.trans (ex_th hof xf4 (fun b hb => hth _ b hb) (hta _ (xf4 _ _ hf)).1))
              | true =>
                refine if_f rfl ?_
                obtain ⟨u2, c2, hv1, hv2, hv3, hv4, hv5⟩ := hS2.key (memK_iff.mp hm)
                have hq4 := x4 _ _ hq3
                refine ⟨_, rfl, _, rfl, _, rfl, _, rfl, q, _, rfl, .inl (.inl hq4), fun z => ?_, fun p5 np5 => ?_⟩
                · have z2 := z.2
                  rw [six_last, List.length_append] at z2
                  have : ([kV s'] : List V).length = 1 := rfl
                  omega
                · rw [cut_last]
                  obtain ⟨H5, hH5, x5, h5⟩ := newH (.tup (k'.map kV)) np5
                  rw [hH5]
                  clear hH5
                  have xf5 := xf4.trans x5
                  refine ⟨a, u2, rfl, .inr ⟨kvs, k', p5, .inr ⟨o, xf5 _ _ hf⟩, rfl, h5, hv1.symm⟩, ?_⟩
                  refine ⟨_, rfl, _, rfl, q, _, _, kV s', rfl, rfl, SqTo (x5 _ _ hq4), ?_, u2, c2, s', rfl, hv5.ex ((ex_lock hof).trans xf5), hv4, _, rfl, ?_⟩
                  · exact at_end _ _
                  · have hst : (stepD c2 (kV s')).isSome = true := by
                      rw [List.map_append, List.map_singleton] at hu2
                      obtain ⟨e2, he1, he2⟩ := at_snoc hu2
                      have : c2 = e2 := by
                        rw [← at_part hv2, at_part he1]
                      rw [this, he2]
                      rfl
                    rw [hst]
                    refine if_f rfl (nxt _ (x3.trans (x4.trans x5)) ?_)
                    rw [hemp, List.dropLast_concat, hm]
                    rfl
          · refine if_f rfl (nxt _ x3 ?_)
            rw [eqv_nil'] at h
            have : ky.isEmpty = true := by
              cases hk : ky with
              | nil => rfl
              | cons a b => rw [hk] at h; cases h
            rw [this]
            rfl
        · rintro σ' Hi ⟨⟨o1, rfl⟩, e, hall⟩
          refine knx _ _ (e _ _ hf) ?_
          have hcl : closedB TT = true := by
            unfold closedB
            refine List.all_eq_true.mpr fun k hk => ?_
            obtain ⟨j, hj⟩ := List.mem_iff_getElem?.mp hk
            refine hall j k ?_ hj
            have := (List.getElem?_eq_some_iff.mp hj).1
            rw [Paired.len hS.td]
            unfold keysT at this
            rw [List.length_map] at this
            exact this
          rw [hcl] at k
          exact k _ (eH.trans (ex_th hof e (fun b hb => hth _ b hb) (hta _ (e _ _ hf)).1))
end
end VL

namespace VL
open PySem PySem.Spec L2 LW
open Evl (Ex)
/-- no seen -/
def BadS (H : Hp) (x : V) : Prop := (∃ e, Dt H e x ∧ ∀ kvs, e ≠ .dict kvs) ∨ (∃ a, x = .ref a ∧ H a = some (.dK [((.inl 0 : Key), .int 0)])) ∨ ∃ a d kvs T, x = .ref a ∧ SeenT H a d kvs T ∧ closedB T = false
/-- the heads of a table are those of a value -/
noncomputable def hasQ (e : PyData) (q : List Key × PyData) : Bool := hasP e (.tuple (q.1.map kD)) && PyData.eqv (headD (partD e q.1)) q.2
noncomputable def hasHB (e : PyData) (T : List (List Key × PyData)) : Bool := T.all (hasQ e)
/-! ### tables by paths -/
def kyV : V → Key
  | .int i => .inl i
  | .str x => .inr x
  | _ => .inl 0
theorem ky_kV {s : V} (h : StOk s) : kV (kyV s) = s := by
  rcases h with ⟨i, rfl⟩ | ⟨y, rfl, _⟩ <;> rfl
theorem kys_kV : ∀ {p : List V}, (∀ s ∈ p, StOk s) → (p.map kyV).map kV = p
  | [], _ => rfl
  | s :: p, h => by
    rw [List.map_cons, List.map_cons, ky_kV (h s List.mem_cons_self), kys_kV fun x hx => h x (List.mem_cons_of_mem _ hx)]
noncomputable def tabP (d : PyData) (ps : List (List V)) : List (List Key × PyData) := ps.foldl (fun T p => putD T (p.map kyV) (headD (partD d (p.map kyV)))) []
theorem tabP_snoc (d : PyData) (ps : List (List V)) (p : List V) : tabP d (ps ++ [p]) = putD (tabP d ps) (p.map kyV) (headD (partD d (p.map kyV))) := by
  unfold tabP
  rw [List.foldl_append]
  rfl
theorem putD_len (T : List (List Key × PyData)) (k : List Key) (x : PyData) : (putD T k x).length ≤ T.length + 1 := by
  unfold putD
  split
  · rw [List.length_map]
    omega
  · rw [List.length_append]
    exact Nat.le_refl _
structure TabJ (H1 : Hp) (t : Addr) (d : PyData) (ps : List (List V)) (i : Nat) (Hi : Hp) (kvs : List (List Key × V)) : Prop where
  ex : Ex H1 (del Hi t)
  at_ : Hi t = some (.dT kvs)
  td : Paired (TD d (del Hi t)) kvs (tabP d (ps.take i))
  len : kvs.length ≤ i
theorem TabJ.nil {H1 : Hp} {t : Addr} {d : PyData} {ps : List (List V)} (nt : H1 t = none) : TabJ H1 t d ps 0 (upd H1 t (.dT [])) [] := ⟨by rw [del_none nt]; exact Ex.refl _, upd_same, .nil, Nat.le_refl _⟩
theorem TabJ.grow {H1 Hi Hj : Hp} {t : Addr} {d : PyData} {ps : List (List V)} {i : Nat} {kvs : List (List Key × V)} (h : TabJ H1 t d ps i Hi kvs) (e : Ex Hi Hj) : TabJ H1 t d ps i Hj kvs :=
  ⟨h.ex.trans (del_grow' e), e _ _ h.at_, tds_ex (del_grow' e) h.td, h.len⟩
theorem TabJ.exx {H1 Hi : Hp} {t : Addr} {d : PyData} {ps : List (List V)} {i : Nat} {kvs : List (List Key × V)} (h : TabJ H1 t d ps i Hi kvs) : Ex H1 Hi := h.ex.trans ex_del
theorem TabJ.put {H1 Hi : Hp} {t : Addr} {d c : PyData} {ps : List (List V)} {i : Nat} {kvs : List (List Key × V)} {p : List V} {u : V} (h : TabJ H1 t d ps i Hi kvs) (hp : ps[i]? = some p) (ho : okA d = true) (ha : At d p c) (nd : Nd c) (hu : Dt Hi (headD c) u) :
    TabJ H1 t d ps (i + 1) (upd Hi t (.dT (putK kvs (p.map kyV) u))) (putK kvs (p.map kyV) u) := by
  have e := kys_kV (at_st ha ho)
  refine ⟨?_, upd_same, ?_, ?_⟩
  · rw [del_upd]
    exact h.ex
  · rw [del_upd, List.take_add_one, hp]
    show Paired _ _ (tabP d (ps.take i ++ [p]))
    rw [tabP_snoc]
    have hc : partD d (p.map kyV) = c := at_part (by rw [e]; exact ha)
    rw [hc]
    exact td_put h.td (by rw [e]; exact ha) nd (dt_del h.at_ (head_lay (at_ok ha ho)) hu)
  · have := length_putK kvs (p.map kyV) u
    have := h.len
    omega
theorem TabJ.seen {H1 Hi : Hp} {t : Addr} {d : PyData} {ps : List (List V)} {kvs : List (List Key × V)} (h : TabJ H1 t d ps ps.length Hi kvs) (ho : okA d = true) (hc : cnt d ≤ 60) (hl : ps.length ≤ 60) : SeenT Hi t d kvs (tabP d ps) := by
  have td := h.td
  rw [List.take_of_length_le (Nat.le_refl _)] at td
  refine ⟨h.at_, td, ho, hc, ?_⟩
  rw [← Paired.len td]
  have := h.len
  omega
/-- a path of a value, walked -/
theorem path_walk {H : Hp} {d : PyData} {v : V} {p : List V} (hd : Dt H d v) (ho : okA d = true) (hp : p ∈ paths d) : ∃ c u, Wk H v p u ∧ Dt H c u ∧ At d p c := by
  obtain ⟨c0, hc0⟩ := paths_at (cnt d) d (Nat.le_refl _) p hp
  exact walk_heap hd ho (st_dtl (paths_g ho p hp).1).1 (at_walk hc0 ho)
section
variable {P : Program} {w : World} {K : PySem.W.Frag} {mg : Str → Option Value} {base : Heap} {CI CS : Addr}
/-! ### InvalidSeen, look_at_seen -/
theorem sc_InvalidSeen___init__ : FnScope ["self", "thing"] ["self", "thing"] (defScope s_InvalidSeen___init__) := ⟨rfl, rfl, rfl, by decide +kernel, rfl, by decide +kernel, by decide +kernel⟩
theorem bi_InvalidSeen___init__ : BindsM "__init__" "InvalidSeen.__init__" s_InvalidSeen___init__ ["self", "thing"] := fun _ _ _ _ _ _ us hl => match us, hl with | [_, _], _ => rfl
theorem ok_sinit {f0 : Addr} {fd0 : FuncData} (F : FunD K "__init__" "InvalidSeen.__init__" (defArgs s_InvalidSeen___init__) (defBody s_InvalidSeen___init__) (defScope s_InvalidSeen___init__) [] [] f0 fd0) (ox : OexC K CS) (no : PySem.W.findIn K (.ref CS) "thing" = some none) :
    FnOk P w K mg base CX0 1 f0 fd0 ["self", "thing"] (spXI K CS "thing") := by
  refine F.ok sc_InvalidSeen___init__ (fun vs H Q E h => ?_) (fun cdv A outer s H vs Q E hr h => ?_)
  · obtain ⟨a, v, rfl, _⟩ := h
    rfl
  · obtain ⟨a, v, rfl, ha, k⟩ := h
    refine ⟨_, PSs.nox (pss_one (ps_ost (pv 0) (pv 1))), ?_⟩
    exact ⟨_, rfl, _, rfl, a, CS, rfl, ox, no, .inl ⟨ha, fun dx h1 h2 => k dx h1 h2⟩⟩
def spLook (CS : Addr) : Sp := fun vs H Q E => ∃ x, vs = [x] ∧ ((BadS H x ∧ ∀ dd H', Ex H H' → H' dd = some (.xd [("thing", x)]) → E (.ref CS) (some dd) H') ∨
  ∃ a d kvs T, x = .ref a ∧ SeenT H a d kvs T ∧ closedB T = true ∧ ∀ H', Ex H H' → Q .non H')
theorem sc_look_at_seen : FnScope ["seen"] ["seen"] (defScope s_look_at_seen) := ⟨rfl, rfl, rfl, by decide +kernel, rfl, by decide +kernel, by decide +kernel⟩
theorem bi_look_at_seen : BindsEq "look_at_seen" s_look_at_seen ["seen"] := fun _ _ _ _ _ _ us hl => match us, hl with | [_], _ => rfl
theorem ok_look (F : Df K mg "look_at_seen" s_look_at_seen) (T : Txt K mg) (C_is_seen : Cal P w K mg base CX0 5 "is_seen" spIsSeen) (X_InvalidSeen : XMk P w K mg base 1 "InvalidSeen" CS "thing") : Cal P w K mg base (L2.CX P w) 6 "look_at_seen" (spLook CS) := by
  refine calX F sc_look_at_seen bi_look_at_seen (fun vs H Q E h => ?_) (fun f cdv A outer s H vs Q E hr h => ?_)
  · obtain ⟨x, rfl, _⟩ := h
    rfl
  · obtain ⟨x, rfl, h⟩ := h
    refine ⟨_, (pss_one (ps_if (pt_not (pt_val (pe_k C_is_seen hr (by decide) rfl (pa_cons (pv 0) pa_nil)))) (pss_one (ps_raise rfl (takes_of rfl rfl rfl rfl) (pmk_x X_InvalidSeen hr (by decide) rfl (pa_cons (pv 0) pa_nil)))) pss_nil)), ?_⟩
    rcases h with ⟨hb, k⟩ | ⟨a, d, kvs, TT, rfl, hS, hcl, k⟩
    · rcases hb with ⟨e, he, hne⟩ | ⟨a, rfl, ha⟩ | ⟨a, d, kvs, TT, rfl, hS, hcl⟩
      · exact ⟨_, rfl, x, rfl, .inl ⟨e, he, hne, _, rfl, if_t rfl ⟨_, rfl, xmk_go fun dd H2 _ e2 hdd => k dd H2 e2 hdd⟩⟩⟩
      · exact ⟨_, rfl, .ref a, rfl, .inr (.inl ⟨a, rfl, ha, fun H1 e1 => ⟨_, rfl, if_t rfl ⟨_, rfl, xmk_go fun dd H2 _ e2 hdd => k dd H2 (e1.trans e2) hdd⟩⟩⟩)⟩
      · refine ⟨_, rfl, .ref a, rfl, .inr (.inr ⟨a, d, kvs, TT, rfl, hS, fun H1 e1 => ⟨_, rfl, ?_⟩⟩)⟩
        rw [hcl]
        exact if_t rfl ⟨_, rfl, xmk_go fun dd H2 _ e2 hdd => k dd H2 (e1.trans e2) hdd⟩
    · refine ⟨_, rfl, .ref a, rfl, .inr (.inr ⟨a, d, kvs, TT, rfl, hS, fun H1 e1 => ⟨_, rfl, ?_⟩⟩)⟩
      rw [hcl]
      exact if_f rfl (k H1 e1)
/-! ### has_heads -/
def spHasH : Sp := fun vs H Q _ => ∃ (a : Addr) (d : PyData) (kvs : List (List Key × V)) (T : List (List Key × PyData)) (y : V) (e : PyData), vs = [.ref a, y] ∧ SeenT H a d kvs T ∧ Dt H e y ∧ okA e = true ∧ ∀ H', Ex H H' → Q (.bl (hasHB e T)) H'
theorem sc_has_heads : FnScope ["seen", "value", "place"] ["seen", "value"] (defScope s_has_heads) := ⟨rfl, rfl, rfl, by decide +kernel, rfl, by decide +kernel, by decide +kernel⟩
theorem bi_has_heads : BindsEq "has_heads" s_has_heads ["seen", "value"] := fun _ _ _ _ _ _ us hl => match us, hl with | [_, _], _ => rfl
theorem ok_hasH (F : Df K mg "has_heads" s_has_heads) (T : Txt K mg) (C_has_place : Cal P w K mg base CX0 3 "has_place" spHasPlace) (C_part_at : Cal P w K mg base CX0 1 "part_at" spPartL) (C_head_of : Cal P w K mg base CX0 2 "head_of" spHeadOf) : Cal P w K mg base CX0 4 "has_heads" spHasH := by
  refine cal0 F sc_has_heads bi_has_heads (fun vs H Q E h => ?_) (fun f cdv A outer s H vs Q E hr h => ?_)
  · obtain ⟨a, d, kvs, TT, y, e, rfl, _⟩ := h
    rfl
  · obtain ⟨a, d, kvs, TT, y, ed, rfl, hS, hd, hoe, k⟩ := h
    have hu : (A.deeper (PyProof.Rows.envOfC "has_heads" (defScope s_has_heads) s.heap.objs.size f cdv)).units + 1 < cLine := by have := hr.un; omega
    refine ⟨_, (pss_cons (ps_lockA (ps_for PassesOwn.never rfl (pi_keys (pv 0)) (pg_name (i := 2) sc_has_heads.nd rfl (Or.inl rfl)) (pss_one (ps_if (PW.pt (pw_or (pt_not (pt_val (pe_k C_has_place hr (by decide) rfl (pa_cons (pv 1) (pa_cons (pv 2) pa_nil))))) (pw_or1 (pt_cmpR (neDK K hr.units) (pe_k C_head_of hr (by decide) rfl (pa_cons (pe_k C_part_at hr (by decide) rfl (pa_cons (pv 1) (pa_cons (pv 2) pa_nil))) pa_nil)) (pe_dget hu (pv 0) (pv 2) (fun _ _ => rfl)) (nomark _))))) (pss_one (ps_ret pe_bl)) pss_nil))))
 (pss_one (ps_ret pe_bl))), ?_⟩
    refine lockA_eq (.inl hS.at_) True.intro ?_
    intro Hf o D' th hof hf rx hth hta krt knx
    have hdf : Dt Hf ed y := hd.rdx rx
    refine ⟨_, rfl, a, o, rfl, .inr ⟨_, hf, for_it walk_keysT (fun i σ' Hi => (∃ o2, σ' = [some (.ref a), some y, o2]) ∧ Ex Hf Hi ∧ ∀ j q, j < i → TT[j]? = some q → hasQ ed q = true) ⟨⟨_, rfl⟩, Ex.refl _, fun _ _ h => (Nat.not_lt_zero _ h).elim⟩ ?_ ?_ ?_⟩⟩
    · rintro i σ' Hi _ ⟨_, e, _⟩
      exact e _ _ hf
    · rintro i z σ' Ho Hi hi ⟨⟨o2, rfl⟩, e, hall⟩ ⟨rfl, ky, v, q, hkv, rfl, hq⟩
      obtain ⟨qq, hqq, e1, ⟨c0, hc0, _, e2⟩, _⟩ := Paired.get hS.td hkv
      have e1 : ky = qq.1 := e1
      have hky : ky ∈ keysT TT := List.mem_map.mpr ⟨qq, List.mem_of_getElem? hqq, e1.symm⟩
      obtain ⟨u, c, hu1, hu2, hu3, hu4, hu5⟩ := hS.key hky
      have hcc : c = c0 := by
        rw [← e1] at hc0
        rw [← at_part hu2, at_part hc0]
      have hno : hasQ ed qq = false → ∀ Hj, Ex Hi Hj → D'.rt (.bl false) Hj := fun hf2 Hj ej => by
        have hB : hasHB ed TT = false := by
          unfold hasHB
          refine Bool.eq_false_iff.mpr fun z => ?_
          have z2 := List.all_eq_true.mp z _ (List.mem_of_getElem? hqq)
          rw [hf2] at z2
          cases z2
        rw [hB] at k
        have ef := e.trans ej
        exact krt _ _ (ef _ _ hf) (k _ (ex_th hof ef (fun b hb => hth _ b hb) (hta _ (ef _ _ hf)).1))
      have hkt : Dt Hi (.tuple (ky.map kD)) (.ref q) := dt_tup hq (keys_dt ky)
      refine ⟨_, rfl, _, rfl, y, .ref q, ed, .tuple (ky.map kD), rfl, hdf.ex e, hoe, hkt, _, rfl, ?_⟩
      cases hp : hasP ed (.tuple (ky.map kD)) with
      | false =>
        refine if_t rfl (if_t rfl (hno ?_ _ (Ex.refl _)))
        unfold hasQ
        rw [← e1, hp]
        rfl
      | true =>
        refine if_f rfl ?_
        obtain ⟨c2, u2, w1, w2, w3⟩ := walk_heap (hdf.ex e) hoe (keys_dt ky) hp
        refine ⟨_, rfl, _, rfl, y, q, _, u2, rfl, .inl hq, w1, u2, c2, rfl, w2, at_ok w3 hoe, fun t H2 x2 ht => ?_⟩
        have ef2 := e.trans x2
        refine ⟨_, rfl, _, rfl, a, u, rfl, .inr ⟨kvs, ky, q, .inr ⟨o, ef2 _ _ hf⟩, rfl, x2 _ _ hq, hu1.symm⟩, ?_⟩
        have hoc2 := at_ok w3 hoe
        refine ⟨headD c2, headD c, dt_dp (head_lay hoc2) ht, dt_dp (head_lay hu4) (hu5.ex ((ex_lock hof).trans ef2)), head_shaped hoc2, head_shaped hu4, _, rfl, ?_⟩
        have hqe : hasQ ed qq = PyData.eqv (headD c2) (headD c) := by
          unfold hasQ
          rw [← e1, hp, at_part w3, e2, hcc]
          rfl
        rw [← hqe]
        cases hb : hasQ ed qq with
        | false => exact if_t rfl (hno hb _ x2)
        | true =>
          refine if_f rfl ⟨⟨_, rfl⟩, ef2, fun j q2 hj hq2 => ?_⟩
          by_cases hji : j = i
          · subst hji
            rw [hqq] at hq2
            cases hq2
            exact hb
          · exact hall j q2 (by omega) hq2
    · rintro σ' Hi ⟨⟨o2, rfl⟩, e, hall⟩
      refine knx _ _ (e _ _ hf) ?_
      have hB : hasHB ed TT = true := by
        unfold hasHB
        refine List.all_eq_true.mpr fun q hq => ?_
        obtain ⟨j, hj⟩ := List.mem_iff_getElem?.mp hq
        refine hall j q ?_ hj
        rw [Paired.len hS.td]
        exact (List.getElem?_eq_some_iff.mp hj).1
      rw [hB] at k
      exact k _ (ex_th hof e (fun b hb => hth _ b hb) (hta _ (e _ _ hf)).1)
/-! ### fits -/
def spFits (CI CS : Addr) : Sp := fun vs H Q E => ∃ x y, vs = [x, y] ∧ ((BadS H x ∧ ∀ dd H', Ex H H' → H' dd = some (.xd [("thing", x)]) → E (.ref CS) (some dd) H') ∨
  ∃ a d kvs T e, x = .ref a ∧ SeenT H a d kvs T ∧ closedB T = true ∧ Dt H e y ∧ szA e ∧ (isV e = false → ∀ dd H', Ex H H' → H' dd = some (.xd [("value", y)]) → E (.ref CI) (some dd) H') ∧ (isV e = true → ∀ H', Ex H H' → Q (.bl (hasHB e T)) H'))
theorem sc_fits : FnScope ["seen", "value"] ["seen", "value"] (defScope s_fits) := ⟨rfl, rfl, rfl, by decide +kernel, rfl, by decide +kernel, by decide +kernel⟩
theorem bi_fits : BindsEq "fits" s_fits ["seen", "value"] := fun _ _ _ _ _ _ us hl => match us, hl with | [_, _], _ => rfl
theorem ok_fits (F : Df K mg "fits" s_fits) (T : Txt K mg) (C_look_at_seen : Cal P w K mg base (L2.CX P w) 6 "look_at_seen" (spLook CS)) (C_check_value : Cal P w K mg base (L2.CX P w) 5 "check_value" (spCheckV CI)) (C_has_heads : Cal P w K mg base CX0 4 "has_heads" spHasH) : Cal P w K mg base (L2.CX P w) 7 "fits" (spFits CI CS) := by
  refine calX F sc_fits bi_fits (fun vs H Q E h => ?_) (fun f cdv A outer s H vs Q E hr h => ?_)
  · obtain ⟨x, y, rfl, _⟩ := h
    rfl
  · obtain ⟨x, y, rfl, h⟩ := h
    refine ⟨_, (pss_cons (ps_expr (pe_kP C_look_at_seen hr (by decide) (passes_call (takes_of rfl rfl rfl rfl) (fun _ _ _ _ h => h)) rfl (pa_cons (pv 0) pa_nil)))
 (pss_cons (ps_expr (pe_kP C_check_value hr (by decide) (passes_call (takes_of rfl rfl rfl rfl) (fun _ _ _ _ h => h)) rfl (pa_cons (pv 1) pa_nil)))
 (pss_one (ps_ret (pe_k C_has_heads hr (by decide) rfl (pa_cons (pv 0) (pa_cons (pv 1) pa_nil))))))), ?_⟩
    rcases h with ⟨hb, k⟩ | ⟨a, d, kvs, TT, e, rfl, hS, hcl, hd, hz, k1, k2⟩
    · exact ⟨_, rfl, x, rfl, .inl ⟨hb, k⟩⟩
    · refine ⟨_, rfl, .ref a, rfl, .inr ⟨a, d, kvs, TT, rfl, hS, hcl, fun H1 e1 => ?_⟩⟩
      refine ⟨_, rfl, y, e, rfl, hd.ex e1, hz, fun hv H2 e2 => ?_, fun hv dd H2 e2 hdd => k1 hv dd H2 (e1.trans e2) hdd⟩
      have e12 := e1.trans e2
      exact ⟨_, rfl, _, rfl, a, d, kvs, TT, y, e, rfl, hS.ex e12, hd.ex e12, (isV_un hv).1, fun H3 e3 => k2 hv H3 (e12.trans e3)⟩
/-! ### whole_seen -/
def spWhole (CI : Addr) : Sp := fun vs H Q E => ∃ (v : V) (d : PyData), vs = [v] ∧ Dt H d v ∧ szA d ∧ (isV d = true → ∀ t kvs H', Ex H H' → H t = none → SeenT H' t d kvs (tabP d (paths d)) → Q (.ref t) H') ∧
  (isV d = false → ∀ dd H', Ex H H' → H' dd = some (.xd [("value", v)]) → E (.ref CI) (some dd) H')
theorem sc_whole_seen : FnScope ["value", "place"] ["value"] (defScope s_whole_seen) := ⟨rfl, rfl, rfl, by decide +kernel, rfl, by decide +kernel, by decide +kernel⟩
theorem bi_whole_seen : BindsEq "whole_seen" s_whole_seen ["value"] := fun _ _ _ _ _ _ us hl => match us, hl with | [_], _ => rfl
theorem ok_whole (F : Df K mg "whole_seen" s_whole_seen) (T : Txt K mg) (C_check_value : Cal P w K mg base (L2.CX P w) 5 "check_value" (spCheckV CI)) (C_places_below : Cal P w K mg base CX0 62 "places_below" (spBelowP 60)) (C_part_at : Cal P w K mg base CX0 1 "part_at" spPartL) (C_head_of : Cal P w K mg base CX0 2 "head_of" spHeadOf) : Cal P w K mg base (L2.CX P w) 63 "whole_seen" (spWhole CI) := by
  refine calX F sc_whole_seen bi_whole_seen (fun vs H Q E h => ?_) (fun f cdv A outer s H vs Q E hr h => ?_)
  · obtain ⟨v, d, rfl, _⟩ := h
    rfl
  · obtain ⟨v, d, rfl, hd, hz, k1, k2⟩ := h
    have hu : (A.deeper (PyProof.Rows.envOfC "whole_seen" (defScope s_whole_seen) s.heap.objs.size f cdv)).units + 1 < cLine := by have := hr.un; omega
    refine ⟨_, (pss_cons (ps_expr (pe_kP C_check_value hr (by decide) (passes_call (takes_of rfl rfl rfl rfl) (fun _ _ _ _ h => h)) rfl (pa_cons (pv 0) pa_nil)))
 (pss_one (ps_ret (pe_dcT (own := [("place", 1)]) hu rfl sc_whole_seen.nd (pil K (pe_k C_places_below hr (by decide) rfl (pa_cons (pv 0) (pa_cons (pe_tup pa_nil) pa_nil)))) (blkOk_by (own := [("place", 1)]) (N := ["value", "place"]) (sc := defScope s_whole_seen) (by decide +kernel)) (fun _ _ _ _ _ => (pg_name (i := 1) sc_whole_seen.nd rfl (Or.inl rfl))) (fun _ _ _ _ _ => (pv 1)) (fun _ _ _ _ _ => (pe_k C_head_of hr (by decide) rfl (pa_cons (pe_k C_part_at hr (by decide) rfl (pa_cons (pv 0) (pa_cons (pv 1) pa_nil))) pa_nil))))))), ?_⟩
    refine ⟨_, rfl, v, d, rfl, hd, hz, fun hv H1 e1 => ?_, k2⟩
    obtain ⟨ho, hc⟩ := isV_un hv
    refine ⟨_, rfl, szl (by show 0 ≤ 100000; decide), fun p0 np0 => ?_⟩
    obtain ⟨H2, hH2, x2, h2⟩ := newH _ np0
    rw [hH2]
    clear hH2
    have hd2 := hd.ex (e1.trans x2)
    refine ⟨v, d, p0, [], rfl, h2, hd2, ho, hc, by show 0 + cnt d ≤ 200; omega, fun q H3 ts x3 nq hq htl hts => ?_⟩
    have hd3 := hd2.ex x3
    have hpl : (paths d).length = ts.length := (Paired.len hts).symm
    refine ⟨q, rfl, ⟨_, SqLo hq⟩, fun D nD => dcT_it (walk_list (K := K) (a := q) (xs := ts)) (fun i Hi => ∃ kvs, TabJ H3 D d (paths d) i Hi kvs) ⟨[], TabJ.nil nD⟩ ?_ ?_ ?_⟩
    · rintro i Hi _ ⟨kvs, hT⟩
      exact SqLo (hT.exx _ _ hq)
    · rintro i x Ho Hi hi ⟨kvs, hT⟩ ⟨rfl, hx⟩
      obtain ⟨p, hp, b, rfl, hb⟩ := Paired.get hts hx
      have hb : H3 b = some (.tup p) := hb
      obtain ⟨c, u, w1, w2, w3⟩ := path_walk (hd3.ex hT.exx) ho (List.mem_of_getElem? hp)
      have hbi := hT.exx _ _ hb
      refine ⟨rfl, _, rfl, _, rfl, _, rfl, v, b, p, u, rfl, .inl hbi, w1, u, c, rfl, w2, at_ok w3 ho, fun t H4 x4 ht => ?_⟩
      have hT4 := hT.grow x4
      refine ⟨kvs, p.map kyV, b, rfl, ?_, hT4.at_, szlt (by have := hT4.len; omega), _, hT4.put hp ho w3 (nd_of w2 (at_ok w3 ho)) ht⟩
      rw [kys_kV (at_st w3 ho)]
      exact x4 _ _ hbi
    · rintro Hi ⟨kvs, hT⟩
      rw [← hpl] at hT
      have e13 := e1.trans (x2.trans x3)
      exact k1 hv D kvs Hi (e13.trans hT.exx) (ex_free e13 nD) (hT.seen ho hc (by omega))
end
end VL

namespace VL
open PySem PySem.Spec L2 LW PyProof.Rows
open Evl (Ex)
/-! ### paths are closed -/
theorem at_paths : ∀ {p : List V} {d c : PyData}, At d p c → p ∈ paths d
  | [], d, c, _ => by rw [paths_eq]; exact List.mem_cons_self
  | s :: p, d, c, h => by
    obtain ⟨e, h1, h2⟩ := h
    rw [paths_eq]
    exact List.mem_cons_of_mem _ (List.mem_flatMap.mpr ⟨(s, e), kidsOf_all h1 fun kvs _ => ex_sorted _, List.mem_map.mpr ⟨p, at_paths h2, rfl⟩⟩)
def ClosedP (ps : List (List V)) : Prop := ∀ p ∈ ps, p = [] ∨ p.dropLast ∈ ps
theorem paths_closed (d : PyData) : ClosedP (paths d) := fun p hp => by
  cases he : p.isEmpty with
  | true => exact .inl (List.isEmpty_iff.mp he)
  | false =>
    obtain ⟨p', s', rfl⟩ := snoc_of he
    obtain ⟨c, hc⟩ := paths_at (cnt d) d (Nat.le_refl _) _ hp
    obtain ⟨e, h1, _⟩ := at_snoc hc
    right
    rw [List.dropLast_concat]
    exact at_paths h1
/-! ### what a table by paths has -/
theorem keys_put {T : List (List Key × PyData)} {k j : List Key} {x : PyData} : j ∈ keysT (putD T k x) ↔ j ∈ keysT T ∨ j = k := by
  unfold putD
  split
  · rename_i h
    have e : keysT (T.map fun p => if p.1 = k then (p.1, x) else p) = keysT T := by
      unfold keysT
      rw [List.map_map]
      refine List.map_congr_left fun p _ => ?_
      show (if p.1 = k then (p.1, x) else p).1 = p.1
      split <;> rfl
    rw [e]
    constructor
    · exact .inl
    · rintro (h1 | rfl)
      · exact h1
      · obtain ⟨p, hp, hk⟩ := List.any_eq_true.mp h
        exact List.mem_map.mpr ⟨p, hp, of_decide_eq_true hk⟩
  · unfold keysT
    rw [List.map_append, List.mem_append, List.map_singleton, List.mem_singleton]
theorem ents_put {T : List (List Key × PyData)} {k : List Key} {x : PyData} {q : List Key × PyData} (h : q ∈ putD T k x) : q ∈ T ∨ q = (k, x) := by
  unfold putD at h
  split at h
  · obtain ⟨p, hp, rfl⟩ := List.mem_map.mp h
    split
    · rename_i e
      exact .inr (by rw [e])
    · exact .inl hp
  · rcases List.mem_append.mp h with h | h
    · exact .inl h
    · exact .inr (List.mem_singleton.mp h)
theorem keys_fold (d : PyData) {j : List Key} : ∀ (ps : List (List V)) (T : List (List Key × PyData)), j ∈ keysT (ps.foldl (fun T p => putD T (p.map kyV) (headD (partD d (p.map kyV)))) T) ↔ j ∈ keysT T ∨ ∃ p ∈ ps, p.map kyV = j
  | [], T => by
    rw [List.foldl_nil]
    exact ⟨.inl, fun h => h.elim id fun ⟨p, hp, _⟩ => by cases hp⟩
  | p :: ps, T => by
    rw [List.foldl_cons, keys_fold d ps, keys_put]
    constructor
    · rintro ((h | rfl) | ⟨q, hq, e⟩)
      · exact .inl h
      · exact .inr ⟨p, List.mem_cons_self, rfl⟩
      · exact .inr ⟨q, List.mem_cons_of_mem _ hq, e⟩
    · rintro (h | ⟨q, hq, e⟩)
      · exact .inl (.inl h)
      · rcases List.mem_cons.mp hq with rfl | hq
        · exact .inl (.inr e.symm)
        · exact .inr ⟨q, hq, e⟩
theorem keys_tabP {d : PyData} {ps : List (List V)} {j : List Key} : j ∈ keysT (tabP d ps) ↔ ∃ p ∈ ps, p.map kyV = j := by
  unfold tabP
  rw [keys_fold d ps []]
  exact ⟨fun h => h.elim (fun z => by cases z) id, .inr⟩
theorem ents_fold (d : PyData) : ∀ (ps : List (List V)) (T : List (List Key × PyData)) (q : List Key × PyData), q ∈ ps.foldl (fun T p => putD T (p.map kyV) (headD (partD d (p.map kyV)))) T → q ∈ T ∨ ∃ p ∈ ps, q = (p.map kyV, headD (partD d (p.map kyV)))
  | [], T, q, h => .inl h
  | p :: ps, T, q, h => by
    rw [List.foldl_cons] at h
    rcases ents_fold d ps _ q h with h | ⟨p', hp, e⟩
    · rcases ents_put h with h | h
      · exact .inl h
      · exact .inr ⟨p, List.mem_cons_self, h⟩
    · exact .inr ⟨p', List.mem_cons_of_mem _ hp, e⟩
theorem ents_tabP {d : PyData} {ps : List (List V)} {q : List Key × PyData} (h : q ∈ tabP d ps) : ∃ p ∈ ps, q = (p.map kyV, headD (partD d (p.map kyV))) := by
  rcases ents_fold d ps [] q h with h | h
  · cases h
  · exact h
theorem closed_tab {d : PyData} {ps : List (List V)} (h : ClosedP ps) : closedB (tabP d ps) = true := by
  unfold closedB
  refine List.all_eq_true.mpr fun k hk => ?_
  obtain ⟨p, hp, rfl⟩ := keys_tabP.mp hk
  rcases h p hp with rfl | h
  · rfl
  · rw [Bool.or_eq_true]
    right
    rw [memK_iff, keys_tabP]
    exact ⟨_, h, List.map_dropLast⟩
theorem eqv_head {c : PyData} (ho : okA c = true) : PyData.eqv (headD c) (headD c) = true := SeqAt.eqv_refl _ (SeqAt.canLay_of_shaped (head_shaped ho))
theorem has_own {d : PyData} {ps : List (List V)} (ho : okA d = true) (hp : ∀ p ∈ ps, p ∈ paths d) : hasHB d (tabP d ps) = true := by
  unfold hasHB
  refine List.all_eq_true.mpr fun q hq => ?_
  obtain ⟨p, hpp, rfl⟩ := ents_tabP hq
  obtain ⟨c, hc⟩ := paths_at (cnt d) d (Nat.le_refl _) p (hp p hpp)
  have hst := at_st hc ho
  have e := kys_kV hst
  have hpart : partD d (p.map kyV) = c := at_part (by rw [e]; exact hc)
  unfold hasQ
  show (hasP d (.tuple ((p.map kyV).map kD)) && PyData.eqv (headD (partD d (p.map kyV))) (headD (partD d (p.map kyV)))) = true
  rw [hpart, eqv_head (at_ok hc ho), Bool.and_true]
  show walkP d ((p.map kyV).map kD) = true
  rw [← key_st, e]
  exact at_walk hc ho
/-! ### an exchanged part: its places -/
theorem cntL_setD : ∀ (ds : List PyData) (i : Nat) (x c : PyData), ds[i]? = some c → cntL (ds.set i x) + cnt c = cntL ds + cnt x
  | [], i, x, c, h => by simp at h
  | d :: r, 0, x, c, h => by
    simp only [List.getElem?_cons_zero, Option.some.injEq] at h
    subst h
    show cntL (x :: r) + _ = _
    unfold cntL
    omega
  | d :: r, i + 1, x, c, h => by
    rw [List.getElem?_cons_succ] at h
    have := cntL_setD r i x c h
    show cntL (d :: r.set i x) + _ = _
    unfold cntL
    omega
theorem cntK_setM : ∀ (kvs : List (PyData × PyData)) (y : Str) (x : PyData), (names kvs).Nodup → y ∈ names kvs → cntK (setM kvs y x) + cnt (getN kvs y) = cntK kvs + cnt x
  | [], y, x, _, h => by cases h
  | (k, d) :: r, y, x, nd, h => by
    have nd' : (nm k :: names r).Nodup := nd
    obtain ⟨n1, n2⟩ := List.nodup_cons.mp nd'
    have h' : y ∈ nm k :: names r := h
    show cntK ((if nm k = y then (k, x) else (k, d)) :: setM r y x) + cnt (if nm k = y then d else getN r y) = _
    by_cases e : nm k = y
    · rw [if_pos e, if_pos e, setM_no (e ▸ n1)]
      unfold cntK
      omega
    · rw [if_neg e, if_neg e]
      have hy : y ∈ names r := by
        rcases List.mem_cons.mp h' with q | q
        · exact (e q.symm).elim
        · exact q
      have := cntK_setM r y x n2 hy
      unfold cntK
      omega
theorem okL_setD {ds : List PyData} {i : Nat} {x : PyData} (h : okL ds = true) (hx : okA x = true) : okL (ds.set i x) = true := by
  rw [okL_all] at h ⊢
  refine List.all_eq_true.mpr fun z hz => ?_
  rcases List.mem_or_eq_of_mem_set hz with hz | rfl
  · exact List.all_eq_true.mp h z hz
  · exact hx
theorem set_okD {d c x : PyData} {s : V} (hs : stepD d s = some c) (ho : okA d = true) (hx : okA x = true) : okA (setD d s x) = true := by
  rcases step_cases hs with ⟨ds, i, rfl, rfl, h0, hi⟩ | ⟨kvs, y, rfl, rfl, hy, rfl⟩
  · rw [okA_kids, Bool.and_eq_true] at ho
    show okA (.list (ds.set i.toNat x)) = true
    rw [okA_kids, Bool.and_eq_true]
    refine ⟨?_, okL_setD ho.2 hx⟩
    have h60 : ds.length < 60 := of_decide_eq_true ho.1
    show decide ((ds.set i.toNat x).length < 60) = true
    rw [List.length_set]
    exact decide_eq_true h60
  · rw [okA_kids, Bool.and_eq_true] at ho
    show okA (.dict (setM kvs y x)) = true
    rw [okA_kids, Bool.and_eq_true]
    have h1 : (decide (kvs.length ≤ 8) && kvs.all fun p => fld p.1) = true := ho.1
    rw [Bool.and_eq_true] at h1
    constructor
    · show (decide ((setM kvs y x).length ≤ 8) && (setM kvs y x).all fun p => fld p.1) = true
      rw [Bool.and_eq_true]
      refine ⟨?_, List.all_eq_true.mpr fun p hp => ?_⟩
      · unfold setM
        rw [List.length_map]
        exact h1.1
      · obtain ⟨p0, hp0, rfl⟩ := List.mem_map.mp hp
        have q := List.all_eq_true.mp h1.2 p0 hp0
        split <;> exact q
    · have h2 : okL (kvs.map (·.2)) = true := ho.2
      show okL ((setM kvs y x).map (·.2)) = true
      rw [okL_all] at h2 ⊢
      refine List.all_eq_true.mpr fun z hz => ?_
      obtain ⟨p, hp, rfl⟩ := List.mem_map.mp hz
      obtain ⟨p0, hp0, rfl⟩ := List.mem_map.mp hp
      split
      · exact hx
      · exact List.all_eq_true.mp h2 _ (List.mem_map.mpr ⟨p0, hp0, rfl⟩)
theorem cnt_list (ds : List PyData) : cnt (.list ds) = 1 + cntL ds := by rw [cnt]
theorem cnt_dict (ds : List (PyData × PyData)) : cnt (.dict ds) = 1 + cntK ds := by rw [cnt]
/-- a part exchanged for a good one: what comes of the places -/
theorem put_ok : ∀ {p : List V} {d c x : PyData} {H : Hp} {v : V}, Dt H d v → okA d = true → At d p c → okA x = true → okA (putAt d p x) = true ∧ cnt (putAt d p x) + cnt c = cnt d + cnt x
  | [], d, c, x, H, v, _, ho, e, hx => by
    have e : c = d := e
    subst e
    exact ⟨hx, by show cnt x + _ = _; omega⟩
  | s :: p, d, c, x, H, v, hd, ho, e, hx => by
    obtain ⟨g, hs, he⟩ := e
    have hpa : putAt d (s :: p) x = setD d s (putAt g p x) := by
      show (match stepD d s with | some e' => setD d s (putAt e' p x) | none => d) = _
      rw [hs]
    have hog := step_ok hs ho
    rcases step_cases hs with ⟨ds, i, rfl, rfl, h0, hi⟩ | ⟨kvs, y, rfl, rfl, hy, rfl⟩
    · have hd' := hd
      unfold Dt at hd'
      obtain ⟨a, vs, rfl, ha, hl⟩ := hd'
      have hil : i.toNat < vs.length := by
        rw [hl.len]
        exact (List.getElem?_eq_some_iff.mp hi).1
      obtain ⟨e', he', hde⟩ := hl.get (List.getElem?_eq_getElem hil)
      rw [hi] at he'
      cases he'
      obtain ⟨q1, q2⟩ := put_ok hde hog he hx
      rw [hpa]
      refine ⟨set_okD hs ho q1, ?_⟩
      show cnt (.list (ds.set i.toNat (putAt g p x))) + _ = _
      have q3 := cntL_setD ds i.toNat (putAt g p x) g hi
      rw [cnt_list, cnt_list]
      omega
    · obtain ⟨ha, a, es, _, _, nd, hk⟩ := dict_val' hd ho
      obtain ⟨u, _, hu⟩ := dtk_get hk ha y hy
      obtain ⟨q1, q2⟩ := put_ok hu hog he hx
      rw [hpa]
      refine ⟨set_okD hs ho q1, ?_⟩
      show cnt (.dict (setM kvs y (putAt (getN kvs y) p x))) + _ = _
      have q3 := cntK_setM kvs y (putAt (getN kvs y) p x) (nodup_names hk ha nd) hy
      rw [cnt_dict, cnt_dict]
      omega
end VL

namespace VL
open PySem PySem.Spec L2 LW PyProof.Rows
open Evl (Ex)
/-! ### places one by one: each behind the one above it -/
def From (acc : List (List V)) : List (List V) → Prop
  | [] => True
  | x :: r => (x = [] ∨ x.dropLast ∈ acc) ∧ From (acc ++ [x]) r
theorem From.mono : ∀ {ps acc acc' : List (List V)}, (∀ x ∈ acc, x ∈ acc') → From acc ps → From acc' ps
  | [], _, _, _, _ => trivial
  | x :: r, acc, acc', h, ⟨h1, h2⟩ => ⟨h1.imp id (h _), From.mono (fun y hy => by
      rcases List.mem_append.mp hy with hy | hy
      · exact List.mem_append_left _ (h y hy)
      · exact List.mem_append_right _ hy) h2⟩
theorem From.app : ∀ {a b acc : List (List V)}, From acc a → From (acc ++ a) b → From acc (a ++ b)
  | [], b, acc, _, h => by rw [List.append_nil] at h; exact h
  | x :: a, b, acc, ⟨h1, h2⟩, h => ⟨h1, From.app h2 (by rw [List.append_assoc]; exact h)⟩
theorem From.take : ∀ {ps acc : List (List V)} (n : Nat), From acc ps → From acc (ps.take n)
  | [], _, n, _ => by rw [List.take_nil]; trivial
  | x :: r, acc, 0, _ => by rw [List.take_zero]; trivial
  | x :: r, acc, n + 1, ⟨h1, h2⟩ => by rw [List.take_succ_cons]; exact ⟨h1, From.take n h2⟩
theorem From.at {ps : List (List V)} : ∀ {acc : List (List V)} {i : Nat} {p : List V}, From acc ps → ps[i]? = some p → p = [] ∨ p.dropLast ∈ acc ++ ps.take i := by
  induction ps with
  | nil => intro acc i p _ h; simp at h
  | cons x r ih =>
    intro acc i p hf h
    obtain ⟨h1, h2⟩ := hf
    cases i with
    | zero =>
      simp only [List.getElem?_cons_zero, Option.some.injEq] at h
      subst h
      rw [List.take_zero, List.append_nil]
      exact h1
    | succ i =>
      rw [List.getElem?_cons_succ] at h
      have := ih h2 h
      rw [List.append_assoc] at this
      exact this
theorem From.closed {ps : List (List V)} (h : From [] ps) : ClosedP ps := fun p hp => by
  obtain ⟨i, hi⟩ := List.mem_iff_getElem?.mp hp
  have := h.at hi
  rw [List.nil_append] at this
  exact this.imp id fun h => List.mem_of_mem_take h
theorem From.step {s : V} : ∀ {ps acc acc' : List (List V)}, [] ∈ acc' → (∀ x ∈ acc, s :: x ∈ acc') → From acc ps → From acc' (ps.map (s :: ·))
  | [], _, _, _, _, _ => trivial
  | x :: r, acc, acc', h0, h, ⟨h1, h2⟩ => by
    rw [List.map_cons]
    refine ⟨.inr ?_, From.step (List.mem_append_left _ h0) (fun y hy => ?_) h2⟩
    · cases x with
      | nil => exact h0
      | cons a b =>
        rcases h1 with h1 | h1
        · cases h1
        · exact h _ h1
    · rcases List.mem_append.mp hy with hy | hy
      · exact List.mem_append_left _ (h y hy)
      · rw [List.mem_singleton.mp hy]
        exact List.mem_append_right _ (List.mem_singleton.mpr rfl)
theorem paths_from : ∀ (n : Nat) (d : PyData), cnt d ≤ n → From [] (paths d)
  | 0, d, h => by have := cnt_pos d; omega
  | n + 1, d, h => by
    rw [paths_eq]
    refine ⟨.inl rfl, ?_⟩
    have key : ∀ (cs : List (V × PyData)) (acc : List (List V)), [] ∈ acc → (∀ c ∈ cs, cnt c.2 ≤ n) → From acc (cs.flatMap pathsC) := by
      intro cs
      induction cs with
      | nil => intro acc _ _; exact trivial
      | cons c cs ih =>
        intro acc h0 hc
        rw [List.flatMap_cons]
        refine From.app ?_ (ih _ (List.mem_append_left _ h0) fun x hx => hc x (List.mem_cons_of_mem _ hx))
        exact From.step h0 (fun _ h => by cases h) (paths_from n c.2 (hc c List.mem_cons_self))
    refine key _ _ (List.mem_singleton.mpr rfl) fun c hc => ?_
    have := kidsOf_cnt hc
    omega
/-! ### no place twice -/
theorem nodup_map {α β : Type} {f : α → β} (hf : ∀ a b, f a = f b → a = b) : ∀ {l : List α}, l.Nodup → (l.map f).Nodup
  | [], _ => List.nodup_nil
  | a :: l, h => by
    rw [List.nodup_cons] at h
    rw [List.map_cons, List.nodup_cons]
    refine ⟨fun hm => ?_, nodup_map hf h.2⟩
    obtain ⟨b, hb, e⟩ := List.mem_map.mp hm
    rw [hf _ _ e] at hb
    exact h.1 hb
/-- the names of every record stand there once -/
def NdA : Nat → PyData → Prop
  | 0, _ => True
  | n + 1, d => Nd d ∧ ∀ s c, stepD d s = some c → NdA n c
theorem nda_of : ∀ (n : Nat) {H : Hp} {d : PyData} {v : V}, Dt H d v → okA d = true → NdA n d
  | 0, _, _, _, _, _ => trivial
  | n + 1, H, d, v, h, ho => by
    refine ⟨nd_of h ho, fun s c hs => ?_⟩
    have hoc := step_ok hs ho
    rcases step_cases hs with ⟨ds, i, rfl, rfl, h0, hi⟩ | ⟨kvs, y, rfl, rfl, hy, rfl⟩
    · unfold Dt at h
      obtain ⟨a, vs, rfl, ha, hl⟩ := h
      have hil : i.toNat < vs.length := by
        rw [hl.len]
        exact (List.getElem?_eq_some_iff.mp hi).1
      obtain ⟨e', he', hde⟩ := hl.get (List.getElem?_eq_getElem hil)
      rw [hi] at he'
      cases he'
      exact nda_of n hde hoc
    · obtain ⟨ha, a, es, _, _, nd, hk⟩ := dict_val' h ho
      obtain ⟨u, _, hu⟩ := dtk_get hk ha y hy
      exact nda_of n hu hoc
theorem kids_steps {d : PyData} (nd : Nd d) : ((kidsOf d).map (·.1)).Nodup := by
  cases d with
  | list ds =>
    have e : ((List.range ds.length).zipWith (fun (i : Nat) c => (V.int i, c)) ds).map (·.1) = (List.range ds.length).map fun i : Nat => V.int i := by
      apply List.ext_getElem
      · simp
      · intro i h1 h2
        simp
    show (((List.range ds.length).zipWith (fun (i : Nat) c => (V.int i, c)) ds).map (·.1)).Nodup
    rw [e]
    refine nodup_map (fun a b h => ?_) List.nodup_range
    have h : V.int (a : Int) = V.int (b : Int) := h
    injection h with h
    omega
  | dict kvs =>
    show (((srt (names kvs)).map fun y => (V.str y, getN kvs y)).map (·.1)).Nodup
    rw [List.map_map]
    refine nodup_map (fun a b h => ?_) ((srt_ok _).1.nodup_iff.mpr (nd kvs rfl))
    have h : V.str a = V.str b := h
    injection h with h
  | _ => exact List.nodup_nil
theorem paths_nodup : ∀ (n : Nat) (d : PyData), cnt d ≤ n → NdA n d → (paths d).Nodup
  | 0, d, h, _ => by have := cnt_pos d; omega
  | n + 1, d, h, ⟨nd, hn⟩ => by
    rw [paths_eq, List.nodup_cons]
    have key : ∀ (cs : List (V × PyData)), (cs.map (·.1)).Nodup → (∀ c ∈ cs, (paths c.2).Nodup) → (cs.flatMap pathsC).Nodup := by
      intro cs
      induction cs with
      | nil => intro _ _; exact List.nodup_nil
      | cons c cs ih =>
        intro h1 h2
        rw [List.map_cons, List.nodup_cons] at h1
        rw [List.flatMap_cons, List.nodup_append]
        refine ⟨nodup_map (fun a b h => by injection h) (h2 c List.mem_cons_self), ih h1.2 fun x hx => h2 x (List.mem_cons_of_mem _ hx), fun a ha b hb e => ?_⟩
        obtain ⟨a', _, rfl⟩ := List.mem_map.mp ha
        obtain ⟨c2, hc2, hb⟩ := List.mem_flatMap.mp hb
        obtain ⟨b', _, rfl⟩ := List.mem_map.mp hb
        injection e with e1 _
        exact h1.1 (by rw [e1]; exact List.mem_map.mpr ⟨c2, hc2, rfl⟩)
    refine ⟨fun hm => ?_, key _ (kids_steps nd) fun c hc => ?_⟩
    · obtain ⟨c, _, hp⟩ := List.mem_flatMap.mp hm
      obtain ⟨q, _, e⟩ := List.mem_map.mp hp
      cases e
    · have := kidsOf_cnt hc
      exact paths_nodup n c.2 (by omega) (hn _ _ (kidsOf_step hc))
theorem NdA.at : ∀ {p : List V} {n : Nat} {d c : PyData}, At d p c → NdA (n + p.length) d → NdA n c
  | [], n, d, c, h, g => by
    have h : c = d := h
    subst h
    exact g
  | s :: p, n, d, c, h, g => by
    obtain ⟨e, h1, h2⟩ := h
    rw [List.length_cons, show n + (p.length + 1) = (n + p.length) + 1 by omega] at g
    exact NdA.at h2 (g.2 s e h1)
theorem NdA.le : ∀ {n m : Nat} {d : PyData}, n ≤ m → NdA m d → NdA n d
  | 0, _, _, _, _ => trivial
  | n + 1, 0, _, h, _ => by omega
  | n + 1, m + 1, d, h, ⟨g1, g2⟩ => ⟨g1, fun s c hs => NdA.le (by omega) (g2 s c hs)⟩
/-! ### the places below a place -/
def preB (p q : List V) : Bool := decide (q.take p.length = p)
theorem below_paths : ∀ {p : List V} {d c : PyData} (n : Nat), At d p c → NdA (n + p.length) d → (((paths d).filter (preB p)).map fun q => q.drop p.length) = paths c
  | [], d, c, n, h, _ => by
    have h : c = d := h
    subst h
    rw [List.filter_eq_self.mpr fun q _ => by unfold preB; exact decide_eq_true rfl]
    conv => rhs; rw [← List.map_id (paths c)]
    exact List.map_congr_left fun q _ => rfl
  | s :: p, d, c, n, h, g => by
    obtain ⟨e, h1, h2⟩ := h
    rw [List.length_cons, show n + (p.length + 1) = (n + p.length) + 1 by omega] at g
    have ih := below_paths n h2 (g.2 s e h1)
    rw [paths_eq, List.filter_cons, if_neg (by unfold preB; simp)]
    have hmem := kidsOf_all h1 fun kvs _ => ex_sorted _
    have hnd := kids_steps g.1
    have key : ∀ (cs : List (V × PyData)), (cs.map (·.1)).Nodup → (s, e) ∈ cs → (((cs.flatMap pathsC).filter (preB (s :: p))).map fun q => q.drop (s :: p).length) = ((pathsC (s, e)).filter (preB (s :: p))).map fun q => q.drop (s :: p).length := by
      have none_ : ∀ (c : V × PyData), c.1 ≠ s → (pathsC c).filter (preB (s :: p)) = [] := fun c hc => by
        refine List.filter_eq_nil_iff.mpr fun q hq => ?_
        obtain ⟨q', _, rfl⟩ := List.mem_map.mp hq
        unfold preB
        rw [List.length_cons, List.take_succ_cons]
        intro z
        have z := of_decide_eq_true z
        injection z with z _
        exact hc z
      intro cs
      induction cs with
      | nil => intro _ h; cases h
      | cons x cs ih =>
        intro h1 h2
        rw [List.map_cons, List.nodup_cons] at h1
        rw [List.flatMap_cons, List.filter_append, List.map_append]
        by_cases hx : x.1 = s
        · have hxe : x = (s, e) := by
            rcases List.mem_cons.mp h2 with h2 | h2
            · exact h2.symm
            · exact (h1.1 (by rw [hx]; exact List.mem_map.mpr ⟨(s, e), h2, rfl⟩)).elim
          have hrest : (cs.flatMap pathsC).filter (preB (s :: p)) = [] := by
            refine List.filter_eq_nil_iff.mpr fun q hq => ?_
            obtain ⟨y, hy, hq⟩ := List.mem_flatMap.mp hq
            have hys : y.1 ≠ s := fun z => h1.1 (by rw [hx, ← z]; exact List.mem_map.mpr ⟨y, hy, rfl⟩)
            exact List.filter_eq_nil_iff.mp (none_ y hys) q hq
          rw [hrest, List.map_nil, List.append_nil, hxe]
        · rw [none_ x hx, List.map_nil, List.nil_append]
          refine ih h1.2 ?_
          rcases List.mem_cons.mp h2 with h2 | h2
          · rw [← h2] at hx
            exact (hx rfl).elim
          · exact h2
    rw [key _ hnd hmem, ← ih]
    show (((paths e).map (s :: ·)).filter (preB (s :: p))).map _ = _
    rw [List.filter_map, List.map_map]
    have hf : (preB (s :: p) ∘ fun q => s :: q) = preB p := by
      funext q
      show decide ((s :: q).take (s :: p).length = s :: p) = decide (q.take p.length = p)
      rw [List.length_cons, List.take_succ_cons]
      exact decide_eq_decide.mpr ⟨fun h => by injection h, fun h => by rw [h]⟩
    rw [hf]
    exact List.map_congr_left fun q _ => rfl
theorem at_app : ∀ {p q : List V} {d e c : PyData}, At d p e → At e q c → At d (p ++ q) c
  | [], q, d, e, c, h, g => by
    have h : e = d := h
    subst h
    exact g
  | s :: p, q, d, e, c, ⟨x, h1, h2⟩, g => ⟨x, h1, at_app h2 g⟩
theorem at_one {d c : PyData} {s : V} (h : stepD d s = some c) : At d [s] c := ⟨c, h, rfl⟩
/-! ### tables without a key twice -/
theorem tabP_len : ∀ (d : PyData) (ps : List (List V)), (∀ p ∈ ps, ∀ s ∈ p, StOk s) → ps.Nodup → (tabP d ps).length = ps.length := by
  intro d ps hp hn
  have gen : ∀ (qs : List (List V)) (T : List (List Key × PyData)), (∀ p ∈ qs, p.map kyV ∉ keysT T) → (∀ p ∈ qs, ∀ s ∈ p, StOk s) → qs.Nodup →
      (qs.foldl (fun T p => putD T (p.map kyV) (headD (partD d (p.map kyV)))) T).length = T.length + qs.length := by
    intro qs
    induction qs with
    | nil => intro T _ _ _; rfl
    | cons p qs ih =>
      intro T h1 h2 h3
      rw [List.nodup_cons] at h3
      rw [List.foldl_cons, ih _ ?_ (fun x hx => h2 x (List.mem_cons_of_mem _ hx)) h3.2, List.length_cons]
      · have : (putD T (p.map kyV) (headD (partD d (p.map kyV)))).length = T.length + 1 := by
          unfold putD
          rw [if_neg]
          · rw [List.length_append]
            rfl
          · intro z
            obtain ⟨q, hq, e⟩ := List.any_eq_true.mp z
            exact h1 p List.mem_cons_self (List.mem_map.mpr ⟨q, hq, of_decide_eq_true e⟩)
        omega
      · intro x hx hm
        rcases keys_put.mp hm with hm | hm
        · exact h1 x (List.mem_cons_of_mem _ hx) hm
        · have e1 := kys_kV (h2 x (List.mem_cons_of_mem _ hx))
          have e2 := kys_kV (h2 p List.mem_cons_self)
          have : x = p := by rw [← e1, ← e2, hm]
          rw [this] at hx
          exact h3.1 hx
  have := gen ps [] (fun _ _ h => by cases h) hp hn
  unfold tabP
  rw [this]
  show 0 + _ = _
  omega
/-- without one place: closed unless it has children -/
theorem closed_less {d : PyData} {p : List V} (ho : okA d = true) (hn : (paths d).Nodup) : closedB (tabP d ((paths d).filter fun q => !decide (q = p))) = !((paths d).any fun q => !q.isEmpty && decide (q.dropLast = p)) := by
  have hst : ∀ q ∈ paths d, ∀ s ∈ q, StOk s := fun q hq s hs => ((paths_g ho q hq).1 s hs).1
  cases ha : (paths d).any fun q => !q.isEmpty && decide (q.dropLast = p) with
  | true =>
    obtain ⟨q, hq, hc⟩ := List.any_eq_true.mp ha
    rw [Bool.and_eq_true, Bool.not_eq_true'] at hc
    have hqp := of_decide_eq_true hc.2
    show _ = false
    unfold closedB
    refine Bool.eq_false_iff.mpr fun z => ?_
    have hne : q ≠ p := fun e => by
      obtain ⟨q', s', rfl⟩ := snoc_of hc.1
      rw [List.dropLast_concat] at hqp
      rw [← e] at hqp
      have := congrArg List.length hqp
      rw [List.length_append] at this
      have e1 : ([s'] : List V).length = 1 := rfl
      omega
    have hk : q.map kyV ∈ keysT (tabP d ((paths d).filter fun q => !decide (q = p))) := keys_tabP.mpr ⟨q, List.mem_filter.mpr ⟨hq, by rw [decide_eq_false hne]; rfl⟩, rfl⟩
    have z2 := List.all_eq_true.mp z _ hk
    rw [Bool.or_eq_true] at z2
    rcases z2 with z2 | z2
    · cases q with
      | nil => cases hc.1
      | cons a b => cases z2
    · rw [memK_iff, keys_tabP] at z2
      obtain ⟨x, hx, e⟩ := z2
      obtain ⟨hx1, hx2⟩ := List.mem_filter.mp hx
      rw [← List.map_dropLast, hqp] at e
      have hpp : p ∈ paths d := by
        rcases paths_closed d q hq with h | h
        · rw [h] at hc
          cases hc.1
        · rw [hqp] at h
          exact h
      have e1 := kys_kV (hst x hx1)
      have e2 := kys_kV (hst p hpp)
      have : x = p := by rw [← e1, ← e2, e]
      rw [this, decide_eq_true rfl] at hx2
      cases hx2
  | false =>
    show _ = true
    refine closed_tab fun q hq => ?_
    obtain ⟨hq1, hq2⟩ := List.mem_filter.mp hq
    rcases paths_closed d q hq1 with h | h
    · exact .inl h
    · cases he : q.isEmpty with
      | true => exact .inl (List.isEmpty_iff.mp he)
      | false =>
        right
        refine List.mem_filter.mpr ⟨h, ?_⟩
        rw [Bool.not_eq_true']
        refine decide_eq_false fun z => ?_
        have := List.any_eq_false.mp ha q hq1
        rw [he, decide_eq_true z] at this
        exact this rfl
/-! ### cuts -/
theorem cut_suf (xs : List V) (k : Nat) : cutV xs (some (k : Int)) none = xs.drop k := by
  unfold cutV
  rw [HT.sIx_nat, HT.sIx_none]
  rcases Nat.le_total k xs.length with h | h
  · rw [Nat.min_eq_left h, List.take_of_length_le (by rw [List.length_drop]; exact Nat.le_refl _)]
  · rw [Nat.min_eq_right h, List.drop_of_length_le (Nat.le_refl _), List.drop_of_length_le h, List.take_nil]
theorem slB_of {K : PySem.W.Frag} {H : Hp} {Q : VK} {b : Addr} {q : List V} {lo hi : Option Int} (hb : H b = some (.tup q)) (k : ∀ r H', Ex H H' → H' r = some (.tup (cutV q lo hi)) → Q (.ref r) H') : rSlB K (.ref b) lo hi H Q := by
  refine ⟨b, q, rfl, SqTo hb, fun hw => k b H (Ex.refl _) ?_, fun _ p np => k p _ (Ex.new np) upd_same⟩
  rw [hb]
  unfold cutV
  rw [hw.1, hw.2, Nat.sub_zero, List.drop_zero, List.take_of_length_le (Nat.le_refl _)]
theorem catT_of {K : PySem.W.Frag} {H : Hp} {Q : VK} {a b : Addr} {xs ys : List V} (hx : H a = some (.tup xs)) (hy : H b = some (.tup ys)) (hz : xs.length + ys.length ≤ 100000) (k : ∀ p H', Ex H H' → H' p = some (.tup (xs ++ ys)) → Q (.ref p) H') : rCatA K (.ref a) (.ref b) H Q := by
  refine ⟨a, b, xs, ys, rfl, rfl, SqTo hx, SqTo hy, szl hz, fun e => k b H (Ex.refl _) ?_, fun _ e => k a H (Ex.refl _) ?_, fun _ _ p np => k p _ (Ex.new np) upd_same⟩
  · rw [e]
    exact hy
  · rw [e, List.append_nil]
    exact hx
theorem st_eqv {a b : List V} (ha : ∀ s ∈ a, StOk s) (hb : ∀ s ∈ b, StOk s) : PyData.eqv (.tuple (a.map stV)) (.tuple (b.map stV)) = decide (a = b) := by
  rw [PyData.eqv, Bool.eq_iff_iff, decide_eq_true_iff]
  constructor
  · intro h
    have e := eqv_stl ha h (st_noB hb)
    have ia : (a.map stV).map kyD = a.map kyV := by
      rw [List.map_map]
      refine List.map_congr_left fun s hs => ?_
      rcases ha s hs with ⟨i, rfl⟩ | ⟨y, rfl, _⟩ <;> rfl
    have ib : (b.map stV).map kyD = b.map kyV := by
      rw [List.map_map]
      refine List.map_congr_left fun s hs => ?_
      rcases hb s hs with ⟨i, rfl⟩ | ⟨y, rfl, _⟩ <;> rfl
    rw [← kys_kV ha, ← kys_kV hb, ← ia, ← ib, e]
  · rintro rfl
    exact eqvl_self ha
/-- a table made of pairs -/
theorem td_merge {c : PyData} {H : Hp} : ∀ {zs : List (List Key × V)} {qs : List (List V)} {T0 : List (List Key × V)} {M0 : List (List Key × PyData)}, Paired (fun z q => z.1 = q.map kyV ∧ ∃ e, At c ((q.map kyV).map kV) e ∧ Nd e ∧ Dt H (headD e) z.2) zs qs → Paired (TD c H) T0 M0 → Paired (TD c H) (mergeT T0 zs) (qs.foldl (fun T p => putD T (p.map kyV) (headD (partD c (p.map kyV)))) M0)
  | _, _, _, _, .nil, h => h
  | z :: zs, q :: qs, T0, M0, .cons ⟨h1, e, h2, h3, h4⟩ t, h => by
    unfold mergeT
    rw [List.foldl_cons, List.foldl_cons, h1, at_part h2]
    exact td_merge t (td_put h h2 h3 h4)
end VL

namespace VL
open PySem PySem.Spec L2 LW
open Evl (Ex)
section
variable {P : Program} {w : World} {K : PySem.W.Frag} {mg : Str → Option Value} {base : Heap} {CI CL CP : Addr}
/-! ### seen_of, good places alone -/
def spSeenG : Sp := fun vs H Q _ => ∃ (v : V) (d : PyData) (a : Addr) (zs : List V) (ps : List (List V)), vs = [v, .ref a] ∧ Dt H d v ∧ okA d = true ∧ cnt d ≤ 60 ∧ H a = some (.lst zs) ∧ Paired (PlTup H []) zs ps ∧ (∀ p ∈ ps, p ∈ paths d) ∧ ps.length ≤ 60 ∧ From [] ps ∧
  ∀ t kvs H', Ex H H' → H t = none → SeenT H' t d kvs (tabP d ps) → Q (.ref t) H'
theorem ok_seenG (F : Df K mg "seen_of" s_seen_of) (T : Txt K mg) (C_check_value : Cal P w K mg base (L2.CX P w) 5 "check_value" (spCheckV CI)) (C_has_place : Cal P w K mg base CX0 3 "has_place" spHasPlace) (C_part_at : Cal P w K mg base CX0 1 "part_at" spPartL) (C_head_of : Cal P w K mg base CX0 2 "head_of" spHeadOf)
    (X_InvalidLooks : XMk P w K mg base 1 "InvalidLooks" CL "number") : Cal P w K mg base (L2.CX P w) 6 "seen_of" spSeenG := by
  refine calX F sc_seen_of bi_seen_of (fun vs H Q E h => ?_) (fun f cdv A outer s H vs Q E hr h => ?_)
  · obtain ⟨v, d, a, zs, ps, rfl, _⟩ := h
    rfl
  · obtain ⟨v, d, a, zs, ps, rfl, hd, ho, hc, ha, hzp, hpp, hpl, hfr, k⟩ := h
    have hu : (A.deeper (PyProof.Rows.envOfC "seen_of" (defScope s_seen_of) s.heap.objs.size f cdv)).units + 1 < cLine := by have := hr.un; omega
    refine ⟨_, (pss_cons (ps_expr (pe_kP C_check_value hr (by decide) (passes_call (takes_of rfl rfl rfl rfl) (fun _ _ _ _ h => h)) rfl (pa_cons (pv 0) pa_nil)))
 (pss_cons (ps_if (pt_not (pt_val (pe_callB (isD K) rfl T.b_isinstance (by decide +kernel) (pa_cons (pv 1) (pa_cons (pe_bltn (v := .ty "list") rfl T.b_list (by decide +kernel) rfl) pa_nil))))) (pss_one (ps_raise rfl (takes_of rfl rfl rfl rfl) (pmk_x X_InvalidLooks hr (by decide) rfl (pa_cons pe_non pa_nil)))) pss_nil)
 (pss_cons (ps_set (i := 2) sc_seen_of.nd rfl (Or.inl rfl) pe_dnewT)
 (pss_cons (ps_for (passes_of rfl) rfl (pi_enum rfl T.b_enumerate (pa_cons (pv 1) pa_nil)) (pgt (n := 2) K rfl (pgs_cons (pg_name (i := 3) sc_seen_of.nd rfl (Or.inl rfl)) (pgs_cons (pg_name (i := 4) sc_seen_of.nd rfl (Or.inl rfl)) pgs_nil))) (pss_cons (ps_if (PW.pt (pw_or (pt_not (pt_val (pe_k C_has_place hr (by decide) rfl (pa_cons (pv 0) (pa_cons (pv 4) pa_nil))))) (pw_or1 (PW.pt (pw_and (pt_cmpR (neDK K hr.units) (pv 4) (pe_tup pa_nil) (nomark _)) (pw_and1 (pt_cmp (pc_dnotin hu (pe_slice sl_tup (pv 4) po_none (po_some (pe_un un_neg pe_int))) (pv 2))))))))) (pss_one (ps_raise rfl (takes_of rfl rfl rfl rfl) (pmk_x X_InvalidLooks hr (by decide) rfl (pa_cons (pv 3) pa_nil)))) pss_nil)
 (pss_one (ps_dput hu (pv 2) (pv 4) (pe_k C_head_of hr (by decide) rfl (pa_cons (pe_k C_part_at hr (by decide) rfl (pa_cons (pv 0) (pa_cons (pv 4) pa_nil))) pa_nil)) rfl))))
 (pss_one (ps_ret (pv 2))))))), ?_⟩
    have hvt := isV_t ho hc
    refine ⟨_, rfl, v, d, rfl, hd, lim_sz d (ok_lim d ho).1, fun hv H1 e1 => ?_, fun h => by rw [hvt] at h; cases h⟩
    have hrow := paths_rows (K := K) ho hc hzp hpp
    have hdl : Dt H1 (.list (ps.map fun p => .tuple (p.map stV))) (.ref a) := dt_lst (e1 _ _ ha) ((rows_dt hrow).ex e1)
    refine ⟨_, rfl, .ref a, .list (ps.map fun p => .tuple (p.map stV)), _, true, rfl, hdl, rfl, _, rfl, if_f rfl ?_⟩
    intro t nt
    have hzl := Paired.len hzp
    refine ⟨_, rfl, a, zs, rfl, .inl (.inl (Ex.new nt _ _ (e1 _ _ ha))), for_it (walk_enum (K := K) (a := a) (xs := zs)) (fun i σ' Hi => ∃ kvs o3 o4, σ' = [some v, some (.ref a), some (.ref t), o3, o4] ∧ TabJ H1 t d ps i Hi kvs) ?_ ?_ ?_ ?_⟩
    · exact ⟨[], none, none, rfl, TabJ.nil nt⟩
    · rintro i σ' Hi _ ⟨kvs, o3, o4, rfl, hT⟩
      exact SqLo (hT.exx _ _ (e1 _ _ ha))
    · rintro i y σ' Ho Hi hi ⟨kvs, o3, o4, rfl, hT⟩ ⟨q, y1, z, rfl, nq, rfl, hy, hz⟩
      cases hy
      have hT := hT.grow (Ex.new nq (o := .tup [V.int i, z]))
      have hqq : upd Ho q (.tup [V.int i, z]) q = some (.tup [V.int i, z]) := upd_same
      generalize upd Ho q (.tup [V.int i, z]) = Hq at hT hqq
      obtain ⟨p, hpi, b, rfl, hb0⟩ := Paired.get hzp hz
      have hb0 : H b = some (.tup p) := hb0
      have hb : Hq b = some (.tup p) := (e1.trans hT.exx) _ _ hb0
      have hpm := hpp p (List.mem_of_getElem? hpi)
      have hdq : Dt Hq d v := (hd.ex e1).ex hT.exx
      obtain ⟨c, u, w1, w2, w3⟩ := path_walk hdq ho hpm
      have hgo := at_st w3 ho
      have hp : hasP d (.tuple (p.map stV)) = true := at_walk w3 ho
      refine ⟨q, _, rfl, SqTo hqq, rfl, _, _, rfl, _, _, rfl, rfl, ?_⟩
      refine ⟨_, rfl, _, rfl, v, .ref b, d, .tuple (p.map stV), rfl, hdq, ho, dt_tup hb (st_dtl (paths_g ho p hpm).1).1, _, rfl, ?_⟩
      rw [hp]
      refine if_f rfl ?_
      refine ⟨_, rfl, szl (by show 0 ≤ 100000; decide), fun p1 np1 => ?_⟩
      obtain ⟨Hr, hHr, x1, h11⟩ := newH (.tup []) np1
      rw [hHr]
      clear hHr
      have hT1 := hT.grow x1
      have put : ∀ Hs, Ex Hr Hs → sDPut (tVar 2) (tVar 4) (tCall spHeadOf [] E0 (tCons (tCall spPartL [] E0 (tCons (tVar 0) (tCons (tVar 4) tNil))) tNil)) { nx := fun σ' Hi => ∃ kvs o3 o4, σ' = [some v, some (V.ref a), some (V.ref t), o3, o4] ∧ TabJ H1 t d ps (i + 1) Hi kvs, rt := Q, bk := fun _ _ => False, ct := fun _ _ => False } [some v, some (.ref a), some (.ref t), some (V.int i), some (.ref b)] Hs := by
        intro Hs x2
        have x12 := x1.trans x2
        refine ⟨_, rfl, _, rfl, v, b, p, u, rfl, .inl (x12 _ _ hb), w1.ex x12, u, c, rfl, w2.ex x12, at_ok w3 ho, fun hh Hh xh hhd => ?_⟩
        have hT3 := (hT1.grow x2).grow xh
        refine ⟨_, rfl, _, rfl, t, _, rfl, DPut.t (k := p.map kyV) hT3.at_ ?_ (szlt (by have := hT3.len; omega)), _, _, _, rfl, hT3.put hpi ho w3 (nd_of w2 (at_ok w3 ho)) hhd⟩
        rw [kys_kV hgo]
        exact xh _ _ (x12 _ _ hb)
      refine ⟨.tuple (p.map stV), .tuple [], .tup (SqTo (x1 _ _ hb)) (st_all hgo).1, .tup (SqTo h11) .nil, st_shaped hgo, rfl, _, rfl, if_b (fun h => ?_) (fun h => ?_)⟩
      · have h : (!PyData.eqv (.tuple (p.map stV)) (.tuple [])) = true := h
        rw [eqv_nil, Bool.not_eq_true'] at h
        obtain ⟨p', s', rfl⟩ := snoc_of h
        have hin : p' ∈ ps.take i := by
          rcases hfr.at hpi with h | h
          · have := congrArg List.length h
            rw [List.length_append] at this
            have e1 : ([s'] : List V).length = 1 := rfl
            simp at this
          · rw [List.dropLast_concat, List.nil_append] at h
            exact h
        refine ⟨_, rfl, _, rfl, _, rfl, b, _, rfl, .inl (.inl (x1 _ _ hb)), fun z => ?_, fun p3 np3 => ?_⟩
        · have z2 := z.2
          rw [six_last, List.length_append] at z2
          have : ([s'] : List V).length = 1 := rfl
          omega
        · rw [cut_last]
          obtain ⟨Hs, hHs, x2, h2⟩ := newH (.tup p') np3
          rw [hHs]
          clear hHs
          have hT2 := hT1.grow x2
          have ek : (p'.map kyV).map kV = p' := kys_kV fun s hs => hgo s (List.mem_append_left _ hs)
          refine ⟨_, rfl, t, _, rfl, DGet.t (k := p'.map kyV) hT2.at_ (by rw [ek]; exact h2), _, rfl, ?_⟩
          rw [val_some hT2.td, memK_iff.mpr (keys_tabP.mpr ⟨p', hin, rfl⟩)]
          exact if_f rfl (put _ x2)
      · exact if_f rfl (put _ (Ex.refl _))
    · rintro σ' Hi ⟨kvs, o3, o4, rfl, hT⟩
      rw [hzl] at hT
      exact ⟨_, rfl, k t kvs Hi (e1.trans hT.exx) (ex_free e1 nt) (hT.seen ho hc hpl)⟩
/-! ### _law_built -/
def spBuilt (n : Nat) : Sp := fun vs H Q _ => ∃ (a t : Addr) (d c : PyData) (kvs : List (List Key × V)) (p : List V) (u : V) (H0 : Hp), vs = [.ref a, .ref t] ∧ SeenT H a d kvs (tabP d (paths d)) ∧ H t = some (.tup p) ∧ At d p c ∧ Ex H0 H ∧ Dt H0 c u ∧ cnt c ≤ n ∧
  ∀ w H', Ex H H' → SameV (fr H H') H0 n w u → Q w H'
theorem sc__law_built : FnScope ["_law_seen", "_law_spot", "_law_word_here", "_law_shown_here", "_law_found", "_law_name", "_law_j"] ["_law_seen", "_law_spot"] (defScope s__law_built) := ⟨rfl, rfl, rfl, by decide +kernel, rfl, by decide +kernel, by decide +kernel⟩
theorem bi__law_built : BindsEq "_law_built" s__law_built ["_law_seen", "_law_spot"] := fun _ _ _ _ _ _ us hl => match us, hl with | [_, _], _ => rfl
theorem ok_built (F : Df K mg "_law_built" s__law_built) (T : Txt K mg) : ∀ n, Cal P w K mg base CX0 (n + 1) "_law_built" (spBuilt n)
  | 0 => cal_no F sc__law_built bi__law_built fun vs H Q E h => by
    obtain ⟨a, t, d, c, kvs, p, u, H0, _, _, _, _, _, _, hc, _⟩ := h
    have := cnt_pos c
    omega
  | n + 1 => by
    have C__law_built := ok_built F T n
    refine cal0 F sc__law_built bi__law_built (fun vs H Q E h => ?_) (fun f cdv A outer s H vs Q E hr h => ?_)
    · obtain ⟨a, t, d, c, kvs, p, u, H0, rfl, _⟩ := h
      rfl
    · obtain ⟨a, t, d, c, kvs, p, u, H0, rfl, hS, ht, hat, hx0, hcu, hcn, k⟩ := h
      have hu : (A.deeper (PyProof.Rows.envOfC "_law_built" (defScope s__law_built) s.heap.objs.size f cdv)).units + 1 < cLine := by have := hr.un; omega
      refine ⟨_, (pss_cons (ps_asg (pe_dget hu (pv 0) (pv 1) (fun _ _ => rfl)) (pgt (n := 2) K rfl (pgs_cons (pg_name (i := 2) sc__law_built.nd rfl (Or.inl rfl)) (pgs_cons (pg_name (i := 3) sc__law_built.nd rfl (Or.inl rfl)) pgs_nil))))
 (pss_cons (ps_if (pt_cmpR op_eq (pv 2) pe_str (nomark _)) (pss_one (ps_ret (pe_lc (own := [("_law_j", 6)]) (by rfl) sc__law_built.nd (pi_range1 rfl T.b_range (pa_cons (pv 3) pa_nil)) (blkOk_by (own := [("_law_j", 6)]) (N := ["_law_seen", "_law_spot", "_law_word_here", "_law_shown_here", "_law_found", "_law_name", "_law_j"]) (sc := defScope s__law_built) (by decide +kernel)) (fun _ _ _ _ _ => (pg_name (i := 6) sc__law_built.nd rfl (Or.inl rfl))) (fun _ _ _ _ _ => pts_nil) (fun _ _ _ _ _ => (pe_k C__law_built hr (by omega) rfl (pa_cons (pv 0) (pa_cons (pe_op (catAK K) (pv 1) (pe_tup (pa_cons (pv 6) pa_nil))) pa_nil))))))) pss_nil)
 (pss_cons (ps_if (pt_cmpR op_eq (pv 2) pe_str (nomark _)) (pss_cons (ps_set (i := 4) sc__law_built.nd rfl (Or.inl rfl) pe_dnewK)
 (pss_cons (ps_for PassesOwn.never rfl (pit K (pe_revT (pv 3))) (pg_name (i := 5) sc__law_built.nd rfl (Or.inl rfl)) (pss_one (ps_dput hu (pv 4) (pv 5) (pe_k C__law_built hr (by omega) rfl (pa_cons (pv 0) (pa_cons (pe_op op_catA (pv 1) (pe_tup (pa_cons (pv 5) pa_nil))) pa_nil))) rfl)))
 (pss_one (ps_ret (pv 4))))) pss_nil)
 (pss_one (ps_ret (pv 3)))))), ?_⟩
      have hgo := at_st hat hS.ok
      have ek := kys_kV hgo
      obtain ⟨_, hpl⟩ := at_g hat hS.ok
      have hcc := hS.c
      obtain ⟨hu', c', hv, hc1, hc2, hc3, hc4⟩ := hS.key (k := p.map kyV) (keys_tabP.mpr ⟨p, at_paths hat, rfl⟩)
      have ecc : c' = c := by
        rw [← at_part hc1, at_part (by rw [ek]; exact hat)]
      subst ecc
      have hoc := hc3
      have hh : Dt H (headD c') hu' := hc4.ex ex_del
      have hex : ∃ w e, headD c' = .tuple [.str w, e] := by cases c' <;> exact ⟨_, _, rfl⟩
      obtain ⟨w0, e0, he0⟩ := hex
      rw [he0] at hh
      obtain ⟨b, x, rfl, hb, hx⟩ := two_of hh
      refine ⟨_, rfl, _, rfl, a, .ref b, rfl, .inr ⟨kvs, p.map kyV, t, .inl hS.at_, rfl, by rw [ek]; exact ht, hv.symm⟩, ?_⟩
      refine ⟨b, _, rfl, .inl hb, rfl, _, _, rfl, _, _, rfl, rfl, ?_⟩
      cases c' with
      | int i =>
        cases he0
        unfold Dt at hx hcu
        subst hx hcu
        refine ⟨_, rfl, rfl, _, rfl, if_f (by decide +kernel) ?_⟩
        refine ⟨_, rfl, rfl, _, rfl, if_f (by decide +kernel) ?_⟩
        exact ⟨_, rfl, k _ H (Ex.refl _) (.inl ⟨rfl, rfl⟩)⟩
      | str y =>
        cases he0
        unfold Dt at hx hcu
        subst hx hcu
        refine ⟨_, rfl, rfl, _, rfl, if_f (by decide +kernel) ?_⟩
        refine ⟨_, rfl, rfl, _, rfl, if_f (by decide +kernel) ?_⟩
        exact ⟨_, rfl, k _ H (Ex.refl _) (.inl ⟨rfl, rfl⟩)⟩
      | list ds =>
        cases he0
        unfold Dt at hx
        subst hx
        rw [okA_kids, Bool.and_eq_true] at hoc
        have h60 : ds.length < 60 := of_decide_eq_true hoc.1
        unfold Dt at hcu
        obtain ⟨bu, us, rfl, hbu, hl⟩ := hcu
        have hlen := hl.len
        refine ⟨_, rfl, rfl, _, rfl, if_t (by decide +kernel) ?_⟩
        refine ⟨_, rfl, _, rfl, by omega, by omega, fun D nD => lc_gr walk_range (fun i acc Hc => Paired (SameV (fr H Hc) H0 n) acc (us.take i)) nD (by omega) (by rw [List.take_zero]; exact .nil) (fun _ _ => True.intro) ?_ ?_⟩
        · rintro i y acc H2 H3 hi g g' hD hl1 hacc ⟨rfl, rfl⟩
          have hi2 : i < us.length := by omega
          obtain ⟨e, hde, hdt⟩ := hl.get (List.getElem?_eq_getElem hi2)
          have hkid : e ∈ kids (.list ds) := List.mem_of_getElem? hde
          have hck : cnt e < cnt (.list ds) := cnt_kid hkid
          have e0 : (fun i : Nat => V.int (0 + (i : Int))) i = V.int i := by
            show V.int _ = _
            rw [Int.zero_add]
          rw [e0]
          have hstep : stepD (.list ds) (.int (i : Int)) = some e := by
            show (if 0 ≤ (i : Int) then ds[(i : Int).toNat]? else none) = some e
            rw [if_pos (by omega)]
            exact hde
          refine ⟨rfl, _, rfl, _, rfl, _, rfl, szl (by show 1 ≤ 100000; decide), fun q nq => ?_⟩
          obtain ⟨H4, hH4, x34, h4⟩ := newH _ nq
          rw [hH4]
          clear hH4
          refine catX_of ((g.trans x34) _ _ ht) h4 (by simp) (by show p.length + 1 ≤ 100000; omega) fun q5 H5 x45 h5 => ?_
          have x35 := x34.trans x45
          have g5 := g.trans x35
          refine ⟨a, q5, d, e, kvs, _, _, H0, rfl, hS.ex g5, h5, at_app hat (at_one hstep), hx0.trans g5, hdt, by omega, fun w' H6 x56 hsame => ?_⟩
          have x36 := x35.trans x56
          refine lc_put g' hD hl1 (by omega) x36 ?_
          rw [List.take_add_one, List.getElem?_eq_getElem hi2]
          refine Paired.app (Paired.imp (fun _ _ z => SameV.ex (fr_mono (del_grow' x36)) (Ex.refl _) z) hacc) (.cons ?_ .nil)
          exact SameV.ex (fr_in (x35 _ _ hD) fun b hb => ex_free g5 hb) (Ex.refl _) hsame
        · rintro acc H2 g g' hD hl1 hacc
          have e3 : us.take ((ds.length : Int)).toNat = us := List.take_of_length_le (by omega)
          rw [e3] at hacc
          refine k (.ref D) H2 g (.inr (.inl ⟨D, bu, acc, us, rfl, rfl, .inl (fr_get nD hD), hbu, Paired.imp (fun _ _ z => SameV.ex (fr_mono ex_del) (Ex.refl _) z) hacc⟩))
      | dict kvs' =>
        cases he0
        have ho2 := hoc
        rw [okA_kids, Bool.and_eq_true] at hoc
        have h1 : (decide (kvs'.length ≤ 8) && kvs'.all fun p => fld p.1) = true := hoc.1
        rw [Bool.and_eq_true] at h1
        have h8 : kvs'.length ≤ 8 := of_decide_eq_true h1.1
        obtain ⟨hal, bu, es, rfl, hbu, nd, hk⟩ := dict_val' hcu ho2
        have ndn := nodup_names hk hal nd
        obtain ⟨hpm, _⟩ := srt_ok (names kvs')
        have hln : (names kvs').length = kvs'.length := by
          unfold names
          rw [List.length_map]
        unfold Dt at hx
        obtain ⟨bt, ys, rfl, hbt, hyl⟩ := hx
        have hys : ys = (srt (names kvs')).map V.str := dtl_strs hyl
        refine ⟨_, rfl, rfl, _, rfl, if_f (by decide +kernel) ?_⟩
        refine ⟨_, rfl, rfl, _, rfl, if_t (by decide +kernel) ?_⟩
        intro D nD
        have x01 : Ex H (upd H D (.dK [])) := Ex.new nD
        refine ⟨_, rfl, bt, ys, rfl, .inl (rd_ex x01 hbt), fun q nq => ?_⟩
        have hDD : upd H D (.dK []) D = some (.dK []) := upd_same
        obtain ⟨H1, hH1, x1, hq⟩ := newH (.tup ys.reverse) nq
        rw [hH1]
        clear hH1
        have nqD : q ≠ D := fun z => by
          rw [z, hDD] at nq
          cases nq
        have hD1 := x1 _ _ hDD
        have xd1 : Ex H (del H1 D) := ex_of_del (x01.trans x1) nD
        rw [hys, ← List.map_reverse] at hq
        generalize hrev : (srt (names kvs')).reverse = rs at hq
        have hrl : rs.length = kvs'.length := by rw [← hrev, List.length_reverse, hpm.length_eq, hln]
        have hrn : rs.Nodup := by rw [← hrev]; exact (List.reverse_perm _).nodup_iff.mpr (hpm.nodup_iff.mpr ndn)
        have hrm : ∀ y ∈ rs, y ∈ names kvs' := fun y hy => by
          rw [← hrev, List.mem_reverse] at hy
          exact hpm.mem_iff.mp hy
        refine ⟨q, rfl, ⟨_, SqTo hq⟩, for_it (walk_tup (K := K) (a := q) (xs := rs.map V.str)) (fun i σ' Hi => ∃ fs o5 o6, σ' = [some (.ref a), some (.ref t), some (.str "record"), some (.ref bt), some (.ref D), o5, o6] ∧ Ex H (del Hi D) ∧ Hi D = some (.dK fs) ∧ Hi q = some (.tup (rs.map V.str)) ∧ fs.map (·.1) = (rs.take i).map (fun y => (Sum.inr y : Key)) ∧ ∀ z ∈ fs, ∃ u', valV es z.1 = some u' ∧ SameV (fr H (del Hi D)) H0 n z.2 u') ?_ ?_ ?_ ?_⟩
        · exact ⟨[], none, none, rfl, xd1, hD1, hq, rfl, nofun⟩
        · rintro i σ' Hi _ ⟨fs, o5, o6, rfl, e0, hDi, hqi, _⟩
          exact SqTo hqi
        · rintro i z σ' Ho Hi hi ⟨fs, o5, o6, rfl, e0, hDi, hqi, hks, hfs⟩ ⟨rfl, hz⟩
          rw [List.length_map] at hi
          have hyi : rs[i]? = some rs[i] := List.getElem?_eq_getElem hi
          rw [List.getElem?_map, hyi] at hz
          have hz : some (V.str rs[i]) = some z := hz
          cases hz
          generalize hy : rs[i] = y at hyi
          have hym := hrm y (List.mem_of_getElem? hyi)
          obtain ⟨u', hu1, hu2⟩ := dtk_get hk hal y hym
          have hstep : stepD (.dict kvs') (.str y) = some (getN kvs' y) := by
            show (if y ∈ names kvs' then some (getN kvs' y) else none) = _
            rw [if_pos hym]
          have hck := cnt_kid (step_kid hstep)
          have ex := e0.trans (ex_del (H := Hi))
          refine ⟨_, rfl, _, rfl, _, rfl, szl (by show 1 ≤ 100000; decide), fun q4 nq4 => ?_⟩
          obtain ⟨H4, hH4, x34, h4⟩ := newH _ nq4
          rw [hH4]
          clear hH4
          refine catX_of ((ex.trans x34) _ _ ht) h4 (by simp) (by show p.length + 1 ≤ 100000; omega) fun q5 H5 x45 h5 => ?_
          have x35 := x34.trans x45
          have g5 := ex.trans x35
          refine ⟨a, q5, d, getN kvs' y, kvs, _, u', H0, rfl, hS.ex g5, h5, at_app hat (at_one hstep), hx0.trans g5, hu2, by omega, fun w' H6 x56 hsame => ?_⟩
          have x36 := x35.trans x56
          have hD6 := x36 _ _ hDi
          have hno : valV fs (Sum.inr y : Key) = none := val_keys (by
            rw [hks]
            intro hm
            obtain ⟨z, hz, hz2⟩ := List.mem_map.mp hm
            cases hz2
            exact nodup_take hrn hyi hz)
          have hfl : fs.length ≤ 8 := by
            have := congrArg List.length hks
            rw [List.length_map, List.length_map, List.length_take] at this
            omega
          refine ⟨_, rfl, _, rfl, D, _, rfl, DPut.k (k := Sum.inr y) hD6 (szlt (by omega)), _, _, _, rfl, ?_, upd_same, ?_, ?_, ?_⟩
          · rw [del_upd]
            exact e0.trans (del_grow' x36)
          · rw [upd_ne nqD]
            exact x36 _ _ hqi
          · rw [putK_new _ hno, List.map_append, hks, List.take_add_one, hyi, List.map_append]
            rfl
          · intro z hz
            rw [putK_new _ hno] at hz
            rw [del_upd]
            rcases List.mem_append.mp hz with hz | hz
            · obtain ⟨u2, h1, h2⟩ := hfs z hz
              exact ⟨u2, h1, SameV.ex (fr_mono (del_grow' x36)) (Ex.refl _) h2⟩
            · rw [List.mem_singleton.mp hz]
              exact ⟨u', hu1, SameV.ex (fr_in (x35 _ _ hDi) fun b hb => ex_free g5 hb) (Ex.refl _) hsame⟩
        · rintro σ' Hi ⟨fs, o5, o6, rfl, e0, hDi, hqi, hks, hfs⟩
          rw [List.length_map] at hks
          rw [List.take_of_length_le (Nat.le_refl _)] at hks
          have hfl : fs.length = es.length := by
            have h1 := congrArg List.length hks
            rw [List.length_map, List.length_map] at h1
            have h2 := DtK.len hk
            omega
          refine ⟨_, rfl, k (.ref D) Hi (e0.trans ex_del) (.inr (.inr ⟨D, bu, fs, es, rfl, rfl, .inl (fr_get nD hDi), hbu, hfl, fun z hz => ?_⟩))⟩
          obtain ⟨u2, h1, h2⟩ := hfs z hz
          exact ⟨u2, h1, SameV.ex (fr_mono ex_del) (Ex.refl _) h2⟩
      | _ => cases hoc
end
end VL

namespace LW
open PySem PySem.Spec L2
section
variable {X : Cx} {k j : Nat} {x : Str} {sp : Sp} {p pos : Pos} {e : Expr} {es : List Expr} {t : TA}
theorem pe_kL (c : Cal X.prog X.w X.K X.mg X.base (L2.CX X.prog X.w) k x sp) (hr : Room j X.A) (hk : k ≤ j) (hg : Gl X x) (ha : PA X (e :: es) t)
    (hdb : (x == ("__debug__" : Str)) = false := by decide) (he : starEach (e :: es) X.env = (false, eval e X.env) :: starEach es X.env := by rfl) (hpl : (backTo pos (starEach es X.env)).any (·.1) = false := by rfl) :
    PE X (.Call (.Name x p) (e :: es) [] pos) (tCall sp [] E0 t) := by
  obtain ⟨f, fd, ps, F, hm, kp, b⟩ := c.ex
  exact pe_call F (hr.mono hk) hg hm kp b .nil passL ha hdb he hpl
end
end LW
namespace VL
open PySem PySem.Spec L2 LW
open Evl (Ex)
/-- two tables with the same heads -/
theorem tds_s {K : PySem.W.Frag} {d : PyData} {H1 H2 H : Hp} (ho : okA d = true) (e1 : Ex H1 H) (e2 : Ex H2 H) : ∀ {ks ls : List (List Key × V)} {m : List (List Key × PyData)}, Paired (TD d H1) ks m → Paired (TD d H2) ls m → Paired (TabS K H) ks ls
  | _, _, _, .nil, .nil => .nil
  | _, _, q :: _, .cons h t, .cons h' t' => by
    obtain ⟨c, hc, _, e⟩ := h.2.1
    have hoc := at_ok hc ho
    refine .cons ⟨h.1.trans h'.1.symm, q.2, ?_, ?_, ?_⟩ (tds_s ho e1 e2 t t')
    · have h2 := h.2.2
      rw [e] at h2 ⊢
      exact dt_dp (head_lay hoc) (h2.ex e1)
    · have h2 := h'.2.2
      rw [e] at h2 ⊢
      exact dt_dp (head_lay hoc) (h2.ex e2)
    · rw [e]
      exact head_shaped hoc
/-- pairs of a place and its head -/
def PrsAt (c : PyData) (Hc : Hp) (acc : List V) (qs : List (List V)) : Prop := ∃ zs : List (Addr × Addr × List Key × V), acc = zs.map (fun z => V.ref z.1) ∧ (∀ z ∈ zs, PrT Hc z.1 z.2.1 z.2.2.1 z.2.2.2) ∧
  Paired (fun z q => z.1 = q.map kyV ∧ ∃ e, At c ((q.map kyV).map kV) e ∧ Nd e ∧ Dt Hc (headD e) z.2) (zs.map fun z => z.2.2) qs
theorem PrsAt.nil {c : PyData} {H : Hp} : PrsAt c H [] [] := ⟨[], rfl, nofun, .nil⟩
theorem PrsAt.ex {c : PyData} {H H' : Hp} (e : Ex H H') {acc : List V} {qs : List (List V)} (h : PrsAt c H acc qs) : PrsAt c H' acc qs := by
  obtain ⟨zs, h1, h2, h3⟩ := h
  refine ⟨zs, h1, fun z hz => ⟨e _ _ (h2 z hz).pr, e _ _ (h2 z hz).ky⟩, Paired.imp (fun _ _ q => ?_) h3⟩
  obtain ⟨q1, x, q2, q3, q4⟩ := q
  exact ⟨q1, x, q2, q3, q4.ex e⟩
theorem PrsAt.snoc {c e : PyData} {H : Hp} {acc : List V} {qs : List (List V)} {q : List V} {z b : Addr} {v : V} (h : PrsAt c H acc qs) (hz : H z = some (.tup [.ref b, v])) (hb : H b = some (.tup q)) (hq : ∀ s ∈ q, StOk s) (ha : At c q e) (nd : Nd e) (hv : Dt H (headD e) v) : PrsAt c H (acc ++ [.ref z]) (qs ++ [q]) := by
  obtain ⟨zs, h1, h2, h3⟩ := h
  have ek := kys_kV hq
  refine ⟨zs ++ [(z, b, q.map kyV, v)], by rw [h1, List.map_append]; rfl, fun x hx => ?_, ?_⟩
  · rcases List.mem_append.mp hx with hx | hx
    · exact h2 x hx
    · rw [List.mem_singleton.mp hx]
      exact ⟨hz, by rw [ek]; exact hb⟩
  · rw [List.map_append]
    exact Paired.app h3 (.cons ⟨rfl, e, by rw [ek]; exact ha, nd, hv⟩ .nil)
theorem PrsAt.td {c : PyData} {H : Hp} {acc : List V} {qs : List (List V)} (h : PrsAt c H acc qs) : ∃ zs : List (Addr × Addr × List Key × V), acc = zs.map (fun z => V.ref z.1) ∧ (∀ z ∈ zs, PrT H z.1 z.2.1 z.2.2.1 z.2.2.2) ∧ Paired (TD c H) (mergeT [] (zs.map fun z => z.2.2)) (tabP c qs) := by
  obtain ⟨zs, h1, h2, h3⟩ := h
  exact ⟨zs, h1, h2, td_merge h3 .nil⟩
/-- of a small heap: what stands at a tuple -/
theorem not_lst {H : Hp} {r D : Addr} {q acc : List V} (h : H r = some (.tup q)) (g : H D = some (.lst acc)) : r ≠ D := fun z => by
  rw [z, g] at h
  cases h
theorem eqv_paths {ps : List (List V)} (h : ∀ p ∈ ps, ∀ s ∈ p, StG s) : SeqAt.shaped (.list (ps.map fun p => .tuple (p.map stV))) = true ∧ PyData.eqv (.list (ps.map fun p => .tuple (p.map stV))) (.list (ps.map fun p => .tuple (p.map stV))) = true := by
  obtain ⟨h1, h2⟩ := lay_paths ps h
  have hs := lay_shaped h1 (by omega)
  exact ⟨hs, SeqAt.eqv_refl _ (SeqAt.canLay_of_shaped hs)⟩
section
variable {P : Program} {w : World} {K : PySem.W.Frag} {mg : Str → Option Value} {base : Heap} {CI CL CP : Addr}
/-! ### _law_part_right -/
def spPR : Sp := fun vs H Q _ => ∃ (v : V) (d c : PyData) (a t : Addr) (kvs : List (List Key × V)) (p : List V), vs = [v, .ref a, .ref t] ∧ Dt H d v ∧ okA d = true ∧ cnt d ≤ 60 ∧ SeenT H a d kvs (tabP d (paths d)) ∧ H t = some (.tup p) ∧ At d p c ∧ ∀ H', Ex H H' → Q (.bl true) H'
theorem sc__law_part_right : FnScope ["_law_whole", "_law_seen", "_law_spot", "_law_part_here", "_law_below_here", "_law_one"] ["_law_whole", "_law_seen", "_law_spot"] (defScope s__law_part_right) := ⟨rfl, rfl, rfl, by decide +kernel, rfl, by decide +kernel, by decide +kernel⟩
theorem bi__law_part_right : BindsEq "_law_part_right" s__law_part_right ["_law_whole", "_law_seen", "_law_spot"] := fun _ _ _ _ _ _ us hl => match us, hl with | [_, _, _], _ => rfl
theorem ok_partR (F : Df K mg "_law_part_right" s__law_part_right) (T : Txt K mg) (C_at : Cal P w K mg base (L2.CX P w) 62 "at" (spAt CI CP)) (C_places : Cal P w K mg base (L2.CX P w) 63 "places" (spPlaces CI)) (C_size : Cal P w K mg base (L2.CX P w) 63 "size" (spSize CI)) (C_whole_seen : Cal P w K mg base (L2.CX P w) 63 "whole_seen" (spWhole CI)) : Cal P w K mg base CX0 64 "_law_part_right" spPR := by
  refine cal0 F sc__law_part_right bi__law_part_right (fun vs H Q E h => ?_) (fun f cdv A outer s H vs Q E hr h => ?_)
  · obtain ⟨v, d, c, a, t, kvs, p, rfl, _⟩ := h
    rfl
  · obtain ⟨v, d, c, a, t, kvs, p, rfl, hd, ho, hc, hS, ht, hat, k⟩ := h
    have un := hr.un
    have un2 : (A.deeper (PyProof.Rows.envOfC "_law_part_right" (defScope s__law_part_right) s.heap.objs.size f cdv)).units + 180 < cLine := by omega
    have hu : (A.deeper (PyProof.Rows.envOfC "_law_part_right" (defScope s__law_part_right) s.heap.objs.size f cdv)).units + 1 < cLine := by omega
    refine ⟨_, (pss_cons (ps_set (i := 3) sc__law_part_right.nd rfl (Or.inl rfl) (pe_kL C_at hr (by decide) rfl (pa_cons (pv 0) (pa_cons (pv 2) pa_nil))))
 (pss_cons (ps_setLc (i := 4) (own := [("_law_one", 5)]) (by rfl) sc__law_part_right.nd rfl rfl (sw_true rfl rfl rfl (by decide +kernel)) (pil K (pe_kL C_places hr (by decide) rfl (pa_cons (pv 0) pa_nil))) (blkOk_by (own := [("_law_one", 5)]) (N := ["_law_whole", "_law_seen", "_law_spot", "_law_part_here", "_law_below_here", "_law_one"]) (sc := defScope s__law_part_right) (by decide +kernel)) (fun _ _ _ _ _ => (pg_name (i := 5) sc__law_part_right.nd rfl (Or.inl rfl))) (fun _ _ _ _ _ => (pts_one (pt_cmpR (eqDK K hr.units) (pe_slice (slB K) (pv 5) po_none (po_some (pe_callB (lnK K) rfl T.b_len (by decide +kernel) (pa_cons (pv 2) pa_nil)))) (pv 2) (nomark _)))) (fun _ _ _ _ _ => (pe_slice (slB K) (pv 5) (po_some (pe_callB (lnK K) rfl T.b_len (by decide +kernel) (pa_cons (pv 2) pa_nil))) po_none)))
 (pss_cons (ps_if (PW.pt (pw_or (pt_cmpR (neDK K hr.units) (pe_kL C_places hr (by decide) rfl (pa_cons (pv 3) pa_nil)) (pv 4) (nomark _)) (pw_or1 (pt_cmpR op_ne (pe_kL C_size hr (by decide) rfl (pa_cons (pv 3) pa_nil)) (pe_callB (lnK K) rfl T.b_len (by decide +kernel) (pa_cons (pv 4) pa_nil)) (nomark _))))) (pss_one (ps_ret pe_bl)) pss_nil)
 (pss_one (ps_ret (pe_cmpR (op_eqTA K un2) (pe_kL C_whole_seen hr (by decide) rfl (pa_cons (pv 3) pa_nil)) (pe_callTy (call_dictT K rfl hr.units) rfl T.b_dict (by decide +kernel) (pa_cons (pe_lc (own := [("_law_one", 5)]) (by rfl) sc__law_part_right.nd (pil K (pv 4)) (blkOk_by (own := [("_law_one", 5)]) (N := ["_law_whole", "_law_seen", "_law_spot", "_law_part_here", "_law_below_here", "_law_one"]) (sc := defScope s__law_part_right) (by decide +kernel)) (fun _ _ _ _ _ => (pg_name (i := 5) sc__law_part_right.nd rfl (Or.inl rfl))) (fun _ _ _ _ _ => pts_nil) (fun _ _ _ _ _ => (pe_tup (pa_cons (pv 5) (pa_cons (pe_dget hu (pv 1) (pe_op (catAK K) (pv 2) (pv 5)) (fun _ _ => rfl)) pa_nil))))) pa_nil)) (nomark _))))))), ?_⟩
    have hvt := isV_t ho hc
    have hsz := lim_sz d (ok_lim d ho).1
    obtain ⟨hg, hpl⟩ := at_g hat ho
    have hgo := fun s hs => (hg s hs).1
    have hoc := at_ok hat ho
    have hcc : cnt c ≤ 60 := by omega
    have hvc := isV_t hoc hcc
    have hszc := lim_sz c (ok_lim c hoc).1
    have hpg := paths_g ho
    have hpgc := paths_g hoc
    -- _law_part_here
    refine ⟨_, rfl, _, rfl, v, .ref t, d, .tuple (p.map stV), rfl, hd, hsz, dt_tup ht (st_dtl hg).1, fun _ _ b xs c2 pv u H1 eb hb hw hc2 hat2 x01 htr => ?_, (fun _ h => by rw [show hasP d (.tuple (p.map stV)) = true from at_walk hat ho] at h; cases h), (fun h => by rw [hvt] at h; cases h)⟩
    cases eb
    have exs : xs = p := by
      rcases hb with hb | ⟨o, hb⟩
      · rw [ht] at hb
        cases hb
        rfl
      · rw [ht] at hb
        cases hb
    subst exs
    have ecc : c2 = c := by
      rw [← kys_kV hgo] at hat hat2
      rw [← at_part hat2, at_part hat]
    subst ecc
    have hu1 : Dt H1 c2 u := htr.dt.ex fr_sub
    clear htr hb hw hc2 hat2
    have hd1 := hd.ex x01
    have ht1 := x01 _ _ ht
    -- _law_below_here
    refine ⟨_, rfl, v, d, rfl, hd1, hsz, fun _ q H2 ts x12 nq hq htl hts => ?_, (fun h => by rw [hvt] at h; cases h)⟩
    have ht2 := x12 _ _ ht1
    refine ⟨q, rfl, ⟨_, SqLo hq⟩, fun D nD => lc_fl (walk_list (K := K) (a := q) (xs := ts)) (fun i acc Hc => Paired (PlTup Hc []) acc ((((paths d).take i).filter (preB xs)).map fun q => q.drop xs.length)) nD (by rw [List.take_zero]; exact .nil) (fun H' e => SqLo (e _ _ hq)) ?_ ?_⟩
    · rintro i y acc H3 H4 hi g g' hD hl1 hacc ⟨rfl, hy⟩
      obtain ⟨pq, hpq, b, rfl, hb⟩ := Paired.get hts hy
      have hb : H2 b = some (.tup pq) := hb
      have hpqg := (hpg pq (List.mem_of_getElem? hpq)).1
      refine ⟨rfl, _, rfl, _, rfl, .ref t, xs.length, rfl, .inr ⟨xs, SqTo (g _ _ ht2), rfl⟩, _, rfl, slB_of (g _ _ hb) fun r H5 x5 hr5 => ?_⟩
      rw [cut_pre] at hr5
      have hgt : ∀ s ∈ pq.take xs.length, StOk s := fun s hs => (hpqg s (List.mem_of_mem_take hs)).1
      refine ⟨_, rfl, .tuple ((pq.take xs.length).map stV), .tuple (xs.map stV), .tup (SqTo hr5) (st_all hgt).1, .tup (SqTo ((g.trans x5) _ _ ht2)) (st_all hgo).1, st_shaped hgt, st_shaped hgo, _, rfl, ?_⟩
      rw [st_eqv hgt hgo]
      have hfil : ((paths d).take (i + 1)).filter (preB xs) = ((paths d).take i).filter (preB xs) ++ [pq].filter (preB xs) := by
        rw [List.take_add_one, hpq, List.filter_append]
        rfl
      refine if_b (fun h => ?_) (fun h => ?_)
      · refine ⟨_, rfl, _, rfl, .ref t, xs.length, rfl, .inr ⟨xs, SqTo ((g.trans x5) _ _ ht2), rfl⟩, _, rfl, ?_⟩
        dsimp only [tNoPart]
        refine slB_of ((g.trans x5) _ _ hb) fun r2 H6 x6 hr6 => ?_
        rw [cut_suf] at hr6
        have x56 := x5.trans x6
        refine lcf_put g' hD hl1 (by omega) x56 ?_
        rw [hfil, show [pq].filter (preB xs) = [pq] from by rw [List.filter_cons, if_pos (show preB xs pq = true from h)]; rfl, List.map_append]
        exact Paired.app (pl_ex (del_grow' x56) hacc) (.cons ⟨r2, rfl, del_get hr6 (not_lst hr6 (x56 _ _ hD))⟩ .nil)
      · refine lcf_skip g' hD hl1 x5 ?_
        rw [hfil, show [pq].filter (preB xs) = [] from by rw [List.filter_cons, if_neg (by rw [show preB xs pq = false from h]; decide)]; rfl, List.append_nil]
        exact pl_ex (del_grow' x5) hacc
    · rintro acc H3 g g' hD hl1 hacc
      have e3 : (paths d).take ts.length = paths d := List.take_of_length_le (by rw [← Paired.len hts]; exact Nat.le_refl _)
      rw [e3, below_paths 0 hat (nda_of _ hd ho)] at hacc
      have hacc := pl_ex ex_del hacc
      have hal := Paired.len hacc
      have x13 := x12.trans g
      have hu3 := hu1.ex x13
      have x03 := x01.trans x13
      clear g g' hl1 e3
      -- the places
      refine ⟨_, rfl, u, c2, rfl, hu3, hszc, fun _ q2 H4 ts2 x34 nq2 hq2 htl2 hts2 => ?_, (fun h => by rw [hvc] at h; cases h)⟩
      have hpsc : ∀ p ∈ paths c2, ∀ s ∈ p, StG s := fun p hp => (hpgc p hp).1
      obtain ⟨e1, e2⟩ := eqv_paths hpsc
      refine ⟨_, rfl, _, _, .lst (SqLo hq2) (dp_paths hts2 hpsc), .lst (SqLo (x34 _ _ hD)) (dp_paths (pl_ex x34 hacc) hpsc), e1, e1, _, rfl, ?_⟩
      rw [e2]
      refine if_f rfl ?_
      -- the size
      refine ⟨_, rfl, u, c2, rfl, hu3.ex x34, hszc, fun _ H5 x45 => ?_, (fun h => by rw [hvc] at h; cases h)⟩
      have x35 := x34.trans x45
      have hln := Paired.len hts2
      refine ⟨_, rfl, .ref D, acc.length, rfl, .inl ⟨acc, SqLo (x35 _ _ hD), rfl⟩, rfl, _, rfl, ?_⟩
      rw [show acc.length = cnt c2 by omega, decide_eq_true rfl]
      refine if_f rfl ?_
      -- the heads
      refine ⟨_, rfl, u, c2, rfl, hu3.ex x35, hszc, fun _ t2 kvs2 H6 x56 nt2 hS2 => ?_, (fun h => by rw [hvc] at h; cases h)⟩
      have x36 := x35.trans x56
      have x06 := x03.trans x36
      have hS6 := hS.ex x06
      have hD6 := x36 _ _ hD
      refine ⟨_, rfl, D, rfl, ⟨_, SqLo hD6⟩, fun D2 nD2 => lc_gr (walk_list (K := K) (a := D) (xs := acc)) (fun i acc2 Hc => PrsAt c2 Hc acc2 ((paths c2).take i)) nD2 (by omega) (by rw [List.take_zero]; exact PrsAt.nil) (fun H' e => SqLo (e _ _ hD6)) ?_ ?_⟩
      · rintro i y acc2 H7 H8 hi g g' hD7 hl1 hacc2 ⟨rfl, hy⟩
        obtain ⟨pq, hpq, b, rfl, hb⟩ := Paired.get hacc hy
        have hb : H3 b = some (.tup pq) := hb
        have hb6 := x36 _ _ hb
        have hqm := List.mem_of_getElem? hpq
        obtain ⟨e, hae⟩ := paths_at (cnt c2) c2 (Nat.le_refl _) pq hqm
        have hge := at_st hae hoc
        have hadd := at_app hat hae
        have hga := at_st hadd ho
        obtain ⟨uv, c', hv, hc1, hc2, hc3, hc4⟩ := hS6.key (k := (xs ++ pq).map kyV) (keys_tabP.mpr ⟨_, at_paths hadd, rfl⟩)
        have ece : c' = e := by
          rw [← at_part hc1, at_part (by rw [kys_kV hga]; exact hadd)]
        subst ece
        have hql := (hpgc pq hqm).2
        refine ⟨rfl, _, rfl, _, rfl, _, rfl, _, rfl, catT_of ((x06.trans g) _ _ ht) (g _ _ hb6) (by omega) fun r H9 x9 hr9 => ?_⟩
        refine ⟨a, uv, rfl, .inr ⟨kvs, (xs ++ pq).map kyV, r, .inl ((g.trans x9) _ _ hS6.at_), rfl, by rw [kys_kV hga]; exact hr9, hv.symm⟩, szl (by show 2 ≤ 100000; decide), fun z nz => ?_⟩
        have xz : Ex H9 (upd H9 z (.tup [V.ref b, uv])) := Ex.new nz
        have x8z := x9.trans xz
        refine lc_put g' hD7 hl1 (by omega) x8z ?_
        rw [List.take_add_one, hpq]
        have hbz := (g.trans x8z) _ _ hb6
        have hzz : upd H9 z (.tup [V.ref b, uv]) z = some (.tup [V.ref b, uv]) := upd_same
        have hDz := x8z _ _ hD7
        generalize upd H9 z (.tup [V.ref b, uv]) = Hz at x8z hbz hzz hDz xz
        refine PrsAt.snoc (hacc2.ex (del_grow' x8z)) (del_get hzz (not_lst hzz hDz)) (del_get hbz (not_lst hbz hDz)) hge hae hc2 ?_
        refine hc4.ex (ex_of_del (ex_del.trans (g.trans x8z)) ?_)
        by_cases ed : D2 = a
        · rw [ed, del_same]
        · rw [del_ne ed]
          exact nD2
      · rintro acc2 H7 g g' hD7 hl1 hacc2
        rw [List.take_of_length_le (by omega)] at hacc2
        obtain ⟨zs, h1, h2, h3⟩ := hacc2.td
        subst h1
        refine ⟨D2, zs, rfl, hD7, fun z hz => ⟨ex_del _ _ (h2 z hz).pr, ex_del _ _ (h2 z hz).ky⟩, fun p9 np9 => ?_⟩
        have x79 : Ex H7 (upd H7 p9 (.dT (mergeT [] (zs.map fun z => z.2.2)))) := Ex.new np9
        have hS9 := (hS2.ex g).ex x79
        refine ⟨t2, p9, kvs2, _, rfl, rfl, .inl hS9.at_, .inl upd_same, .inl ⟨tds_s hoc ex_del (ex_del.trans x79) hS9.td h3, ?_⟩⟩
        exact k _ (x06.trans (g.trans x79))
end
end VL

namespace VL
open PySem PySem.Spec L2 LW
open Evl (Ex)
theorem eqv_lnil (L : List PyData) : PyData.eqv (.list L) (.list []) = L.isEmpty := by
  cases L with
  | nil => rw [PyData.eqv, PyData.eqvAll]; rfl
  | cons a b => rw [PyData.eqv, PyData.eqvAll]; rfl
theorem empty_any {α : Type} (f : α → Bool) : ∀ (l : List α), (!(l.filter f).isEmpty) = l.any f
  | [] => rfl
  | a :: l => by
    rw [List.filter_cons, List.any_cons]
    cases h : f a with
    | true => rfl
    | false => exact empty_any f l
section
variable {P : Program} {w : World} {K : PySem.W.Frag} {mg : Str → Option Value} {base : Heap} {CI CS CL CP : Addr}
def spLaw (K : PySem.W.Frag) : Sp := fun vs H Q _ => ∃ (a : Addr) (ns : List Int), vs = [.ref a] ∧ SqL K H a (ns.map V.int) ∧ ns.length ≤ 63 ∧ ∀ H', Q (.bl true) H'
theorem sc_law : FnScope ["_law_script", "_law_k", "_law_pool", "_law_whole", "_law_seen", "_law_spots", "_law_turn", "_law_j", "_law_some", "_law_less", "_law_has_children", "_law_one"] ["_law_script"] (defScope s_law) := ⟨rfl, rfl, rfl, by decide +kernel, rfl, by decide +kernel, by decide +kernel⟩
theorem bi_law : BindsEq "law" s_law ["_law_script"] := fun _ _ _ _ _ _ us hl => match us, hl with | [_], _ => rfl
theorem ok_law {f : Addr} {fd : FuncData} (F : FnP K "law" s_law f fd) (T : Txt K mg) (sy : ∃ mm, base.Ns sysModules mm) (C__law_hand : Cal P w K mg base CX0 1 "_law_hand" (spHand K)) (C__law_draw : Cal P w K mg base CX0 1 "_law_draw" spDraw)
    (C__law_value : Cal P w K mg base CX0 11 "_law_value" (spValue 7)) (C__law_built : Cal P w K mg base CX0 61 "_law_built" (spBuilt 60)) (C__law_part_right : Cal P w K mg base CX0 64 "_law_part_right" spPR) (C_is_seen : Cal P w K mg base CX0 5 "is_seen" spIsSeen)
    (C_whole_seen : Cal P w K mg base (L2.CX P w) 63 "whole_seen" (spWhole CI)) (C_places : Cal P w K mg base (L2.CX P w) 63 "places" (spPlaces CI)) (C_size : Cal P w K mg base (L2.CX P w) 63 "size" (spSize CI)) (C_fits : Cal P w K mg base (L2.CX P w) 7 "fits" (spFits CI CS)) (C_seen_of : Cal P w K mg base (L2.CX P w) 6 "seen_of" spSeenG) : FnG P w K mg base CX0 65 f fd ["_law_script"] (spLaw K) := by
  refine FnG.of F sc_law (fun vs H Q E h => ?_) (fun cdv A outer s H vs Q E gd hr h => ?_)
  · obtain ⟨a, ns, rfl, _⟩ := h
    rfl
  · obtain ⟨a, ns, rfl, hS, hl, k⟩ := h
    have un := hr.un
    have un2 : (A.deeper (PyProof.Rows.envOfC "law" (defScope s_law) s.heap.objs.size f cdv)).units + 180 < cLine := by omega
    have hu : (A.deeper (PyProof.Rows.envOfC "law" (defScope s_law) s.heap.objs.size f cdv)).units + 1 < cLine := by omega
    refine ⟨_, PSs.nox (pss_cons (ps_for PassesOwn.never rfl (pi_range1 rfl T.b_range (pa_cons (pe_callB (call_max2 rfl) rfl T.b_max (by decide +kernel) (pa_cons pe_int (pa_cons (pe_callB (call_min2 rfl) rfl T.b_min (by decide +kernel) (pa_cons (pe_callB (lnK K) rfl T.b_len (by decide +kernel) (pa_cons (pv 0) pa_nil)) (pa_cons pe_int pa_nil))) pa_nil))) pa_nil)) (pg_name (i := 1) sc_law.nd rfl (Or.inl rfl)) (pss_cons (ps_set (i := 2) sc_law.nd rfl (Or.inl rfl) (pe_k C__law_hand hr (by decide) rfl (pa_cons (pv 0) (pa_cons (pv 1) pa_nil))))
 (pss_cons (ps_set (i := 3) sc_law.nd rfl (Or.inl rfl) (pe_k C__law_value hr (by decide) rfl (pa_cons (pv 2) (pa_cons (pe_lst (pa_cons pe_int pa_nil)) (pa_cons pe_int pa_nil)))))
 (pss_cons (ps_set (i := 4) sc_law.nd rfl (Or.inr rfl) (pe_kL C_whole_seen hr (by decide) rfl (pa_cons (pv 3) pa_nil)))
 (pss_cons (ps_set (i := 5) sc_law.nd rfl (Or.inr rfl) (pe_kL C_places hr (by decide) rfl (pa_cons (pv 3) pa_nil)))
 (pss_cons (ps_if (PW.pt (pw_or (pt_cmpR (op_neV un2) (pe_k C__law_built hr (by decide) rfl (pa_cons (pv 4) (pa_cons (pe_tup pa_nil) pa_nil))) (pv 3) (nomark _)) (pw_or (pt_cmpR op_ne (pe_kL C_size hr (by decide) rfl (pa_cons (pv 3) pa_nil)) (pe_callB (lnK K) rfl T.b_len (by decide +kernel) (pa_cons (pv 5) pa_nil)) (nomark _)) (pw_or1 (pt_cmpR op_ne (pe_callB (lnT K) rfl T.b_len (by decide +kernel) (pa_cons (pv 4) pa_nil)) (pe_callB (lnK K) rfl T.b_len (by decide +kernel) (pa_cons (pv 5) pa_nil)) (nomark _)))))) (pss_one (ps_ret pe_bl)) pss_nil)
 (pss_one (ps_for PassesOwn.never rfl (pi_range1 rfl T.b_range (pa_cons pe_int pa_nil)) (pg_name (i := 6) sc_law.nd rfl (Or.inl rfl)) (pss_cons (ps_set (i := 7) sc_law.nd rfl (Or.inr rfl) (pe_k C__law_draw hr (by decide) rfl (pa_cons (pv 2) (pa_cons (pe_callB (lnK K) rfl T.b_len (by decide +kernel) (pa_cons (pv 5) pa_nil)) pa_nil))))
 (pss_cons (ps_if (pt_not (pt_val (pe_k C__law_part_right hr (by decide) rfl (pa_cons (pv 3) (pa_cons (pv 4) (pa_cons (pe_ix (ixl K) (pv 5) (pv 7) (fun _ _ => rfl)) pa_nil)))))) (pss_one (ps_ret pe_bl)) pss_nil)
 (pss_cons (ps_set (i := 8) sc_law.nd rfl (Or.inl rfl) (pe_kL C_seen_of hr (by decide) rfl (pa_cons (pv 3) (pa_cons (pe_slice (slK K) (pv 5) po_none (po_some (pe_op op_add (pv 7) pe_int))) pa_nil))))
 (pss_cons (ps_if (PW.pt (pw_or (pt_not (pt_val (pe_k C_is_seen hr (by decide) rfl (pa_cons (pv 8) pa_nil)))) (pw_or (pt_not (pt_val (pe_kL C_fits hr (by decide) rfl (pa_cons (pv 8) (pa_cons (pv 3) pa_nil))))) (pw_or1 (pt_cmpR (op_eqTA K un2) (pe_kL C_seen_of hr (by decide) rfl (pa_cons (pv 3) (pa_cons (pe_slice (slK K) (pv 5) po_none (po_some (pv 7))) pa_nil))) (pv 8) (nomark _)))))) (pss_one (ps_ret pe_bl)) pss_nil)
 (pss_cons (ps_set (i := 9) sc_law.nd rfl (Or.inl rfl) (pe_callTy (call_dictT K rfl hr.units) rfl T.b_dict (by decide +kernel) (pa_cons (pe_lc (own := [("_law_one", 11)]) (by rfl) sc_law.nd (pil K (pv 5)) (blkOk_by (own := [("_law_one", 11)]) (N := ["_law_script", "_law_k", "_law_pool", "_law_whole", "_law_seen", "_law_spots", "_law_turn", "_law_j", "_law_some", "_law_less", "_law_has_children", "_law_one"]) (sc := defScope s_law) (by decide +kernel)) (fun _ _ _ _ _ => (pg_name (i := 11) sc_law.nd rfl (Or.inl rfl))) (fun _ _ _ _ _ => (pts_one (pt_cmpR (neDK K hr.units) (pv 11) (pe_ix (ixl K) (pv 5) (pv 7) (fun _ _ => rfl)) (nomark _)))) (fun _ _ _ _ _ => (pe_tup (pa_cons (pv 11) (pa_cons (pe_dget hu (pv 4) (pv 11) (fun _ _ => rfl)) pa_nil))))) pa_nil)))
 (pss_cons (ps_set (i := 10) sc_law.nd rfl (Or.inl rfl) (pe_cmpR (neDK K hr.units) (pe_lc (own := [("_law_one", 11)]) (by rfl) sc_law.nd (pil K (pv 5)) (blkOk_by (own := [("_law_one", 11)]) (N := ["_law_script", "_law_k", "_law_pool", "_law_whole", "_law_seen", "_law_spots", "_law_turn", "_law_j", "_law_some", "_law_less", "_law_has_children", "_law_one"]) (sc := defScope s_law) (by decide +kernel)) (fun _ _ _ _ _ => (pg_name (i := 11) sc_law.nd rfl (Or.inl rfl))) (fun _ _ _ _ _ => (pts_one (PW.pt (pw_and (pt_cmpR op_gt (pe_callB (lnK K) rfl T.b_len (by decide +kernel) (pa_cons (pv 11) pa_nil)) pe_int (nomark _)) (pw_and1 (pt_cmpR (eqDK K hr.units) (pe_slice (slB K) (pv 11) po_none (po_some (pe_un un_neg pe_int))) (pe_ix (ixl K) (pv 5) (pv 7) (fun _ _ => rfl)) (nomark _))))))) (fun _ _ _ _ _ => (pv 11))) (pe_lst pa_nil) (nomark _)))
 (pss_one (ps_if (pt_cmpR op_eq (pe_k C_is_seen hr (by decide) rfl (pa_cons (pv 9) pa_nil)) (pv 10) (nomark _)) (pss_one (ps_ret pe_bl)) pss_nil))))))))))))))))
 (pss_one (ps_ret pe_bl))), ?_⟩
    have hlen : (ns.map V.int).length ≤ 63 := by rw [List.length_map]; exact hl
    generalize hn : (ns.map V.int).length = n0 at hlen
    refine ⟨_, rfl, _, n0, rfl, .inl ⟨_, hS, hn.symm⟩, _, _, rfl, _, _, rfl, _, rfl, by split <;> split <;> omega, by split <;> split <;> omega, ?_⟩
    refine for_range (lo := 0) (fun i σ' H' => ∃ v1 v2 v3 v4 v5 v6 v7 v8 v9 v10 v11 : Option V, σ' = [some (.ref a), v1, v2, v3, v4, v5, v6, v7, v8, v9, v10, v11] ∧ Ex H H') ?_ ?_ ?_
    · exact ⟨none, none, none, none, none, none, none, none, none, none, none, rfl, Ex.refl _⟩
    · rintro i σ' H0 hi ⟨v1, v2, v3, v4, v5, v6, v7, v8, v9, v10, v11, rfl, e0⟩
      have hi63 : i < 63 := by
        have : (if (if (8 : Int) < (n0 : Int) then (8 : Int) else (n0 : Int)) > 1 then (if (8 : Int) < (n0 : Int) then (8 : Int) else (n0 : Int)) else 1).toNat ≤ 63 := by split <;> split <;> omega
        exact Nat.lt_of_lt_of_le hi this
      -- _law_pool
      refine ⟨_, rfl, _, rfl, a, ns, _, rfl, Evl.ex_l e0 hS, hl, by omega, by omega, fun pl H1 np x0_1 hp => ?_⟩
      -- _law_whole
      refine ⟨_, rfl, szl (by show 1 ≤ 100000; decide), fun ro nro => ?_⟩
      obtain ⟨Hr, hHr, x1_r, hro⟩ := newH _ nro
      rw [hHr]
      refine ⟨pl, ro, 59, 6, rfl, by decide, hp.ex x1_r, hro, by decide, fun v d r' H2 x2 hdt ho hc => ?_⟩
      have x1_2 : Ex H1 H2 := ex_room nro hHr x2
      have hd2 := hdt.ex fr_sub
      have hc60 : cnt d ≤ 60 := by omega
      clear hdt x2 hro x1_r hHr
      have hvt := isV_t ho hc60
      have hsz := lim_sz d (ok_lim d ho).1
      have hpos := cnt_pos d
      have hp2 := hp.ex x1_2
      have hpg := paths_g ho
      have hst : ∀ q ∈ paths d, ∀ s ∈ q, StOk s := fun q hq s hs => ((hpg q hq).1 s hs).1
      have hnd := paths_nodup _ d (Nat.le_refl _) (nda_of _ hd2 ho)
      have hfr := paths_from _ d (Nat.le_refl _)
      have hno : isV d = false → False := fun h => by rw [hvt] at h; cases h
      -- _law_seen
      refine ⟨_, rfl, v, d, rfl, hd2, hsz, fun _ sa kvs H3 x2_3 nsa hSe => ?_, fun h => (hno h).elim⟩
      -- _law_spots
      refine ⟨_, rfl, v, d, rfl, hd2.ex x2_3, hsz, fun _ q H4 ts x3_4 nq hq htl hts => ?_, fun h => (hno h).elim⟩
      have x2_4 := x2_3.trans x3_4
      have hd4 := hd2.ex x2_4
      have hp4 := hp2.ex x2_4
      have hS4 := hSe.ex x3_4
      have x04 : Ex H H4 := e0.trans (x0_1.trans (x1_2.trans x2_4))
      have hpl := Paired.len hts
      clear hd2 hp2 hp hSe nsa nq
      -- _law_built
      refine ⟨_, rfl, szl (by show 0 ≤ 100000; decide), fun t nt => ?_⟩
      obtain ⟨H5, hH5, x4_5, ht⟩ := newH _ nt
      rw [hH5]
      clear hH5
      refine ⟨sa, t, d, d, kvs, [], v, H5, rfl, hS4.ex x4_5, ht, rfl, Ex.refl _, hd4.ex x4_5, hc60, fun w6 H6 x5_6 hsame => ?_⟩
      refine ⟨_, rfl, 60, by decide, SameV.ex fr_sub x5_6 hsame, _, rfl, if_f rfl ?_⟩
      have x4_6 := x4_5.trans x5_6
      -- size
      refine ⟨_, rfl, v, d, rfl, hd4.ex x4_6, hsz, fun _ H7 x6_7 => ?_, fun h => (hno h).elim⟩
      have x4_7 := x4_6.trans x6_7
      refine ⟨_, rfl, .ref q, ts.length, rfl, .inl ⟨_, SqLo (x4_7 _ _ hq), rfl⟩, rfl, _, rfl, ?_⟩
      rw [htl, decide_eq_true rfl]
      refine if_f rfl ?_
      -- len
      refine ⟨_, rfl, .inr ⟨sa, kvs, rfl, (hS4.ex x4_7).at_, _, rfl, .ref q, ts.length, rfl, .inl ⟨_, SqLo (x4_7 _ _ hq), rfl⟩, rfl, _, rfl, ?_⟩⟩
      have hkl : kvs.length = ts.length := by
        rw [Paired.len hS4.td, tabP_len d _ hst hnd]
        exact hpl.symm
      rw [hkl, decide_eq_true rfl]
      refine if_f rfl ?_
      have hd7 := hd4.ex x4_7
      have hp7 := hp4.ex x4_7
      have hS7 := hS4.ex x4_7
      have hq7 := x4_7 _ _ hq
      have hts7 := pl_ex x4_7 hts
      have x07 := x04.trans x4_7
      clear hd4 hp4 hS4 hq hts x04 x4_7 x6_7 x4_6 x5_6 x4_5 hsame ht nt
      -- six turns
      refine ⟨6, rfl, by decide, by decide, for_range (lo := 0) (fun j σ' Hi => ∃ w6 w7 w8 w9 w10 : Option V, σ' = [some (.ref a), some (.int (0 + (i : Int))), some (.ref pl), some v, some (.ref sa), some (.ref q), w6, w7, w8, w9, w10, v11] ∧ Ex H7 Hi) ⟨_, _, _, _, _, rfl, Ex.refl _⟩ ?_ ?_⟩
      rotate_left
      · rintro σ' H8 ⟨w6, w7, w8, w9, w10, rfl, e⟩
        exact ⟨_, _, _, _, _, _, _, _, _, _, _, rfl, x07.trans e⟩
      · rintro j σ' H8 hj ⟨w6, w7, w8, w9, w10, rfl, e78⟩
        have hd8 := hd7.ex e78
        have hp8 := hp7.ex e78
        have hS8 := hS7.ex e78
        have hq8 := e78 _ _ hq7
        have hts8 := pl_ex e78 hts7
        -- _law_j
        refine ⟨_, rfl, _, rfl, .ref q, ts.length, rfl, .inl ⟨_, SqLo hq8, rfl⟩, pl, _, rfl, hp8, by omega, by omega, fun jj j0 j1 => ?_⟩
        obtain ⟨jn, rfl⟩ := Int.eq_ofNat_of_zero_le j0
        have hjn : jn < ts.length := by omega
        obtain ⟨zj, hz1, hz2, hz3⟩ := at_some (xs := ts) (v := ((jn : Nat) : Int)) j0 j1
        obtain ⟨p, hpi, tj, rfl, htj0⟩ := Paired.get hts8 hz3
        have hpi : (paths d)[jn]? = some p := hpi
        have htj : H8 tj = some (.tup p) := htj0
        have hpm := List.mem_of_getElem? hpi
        obtain ⟨c, hat⟩ := paths_at (cnt d) d (Nat.le_refl _) p hpm
        have hgo := hst p hpm
        -- _law_part_right
        refine ⟨_, rfl, _, rfl, _, rfl, _, rfl, q, ts, _, _, rfl, rfl, SqLo hq8, hz1, v, d, c, sa, tj, kvs, p, rfl, hd8, ho, hc60, hS8, htj, hat, fun H9 x8_9 => ⟨_, rfl, if_f rfl ?_⟩⟩
        -- _law_some
        refine ⟨_, rfl, _, rfl, _, rfl, _, _, rfl, rfl, _, rfl, q, ts, rfl, SqLo (x8_9 _ _ hq8), fun s1 ns1 => ?_⟩
        have ecut : cutV ts none (some ((jn : Int) + 1)) = ts.take (jn + 1) := by
          rw [show ((jn : Int) + 1) = ((jn + 1 : Nat) : Int) by omega, cut_pre]
        rw [ecut]
        obtain ⟨H10, hH10, x9_10, h10⟩ := newH (.lst (ts.take (jn + 1))) ns1
        rw [hH10]
        clear hH10
        have x8_10 := x8_9.trans x9_10
        have hsub : ∀ n, ∀ p ∈ (paths d).take n, p ∈ paths d := fun n p hp => List.mem_of_mem_take hp
        refine ⟨v, d, s1, ts.take (jn + 1), (paths d).take (jn + 1), rfl, hd8.ex x8_10, ho, hc60, h10, paired_take _ (pl_ex x8_10 hts8), hsub _, by rw [List.length_take]; omega, hfr.take _, fun t1 kv1 H11 x10_11 nt1 hS1 => ?_⟩
        have x8_11 := x8_10.trans x10_11
        have hcl1 := closed_tab (d := d) (hfr.take (jn + 1)).closed
        -- is_seen
        refine ⟨_, rfl, .ref t1, rfl, .inr (.inr ⟨t1, d, kv1, _, rfl, hS1, fun H12 x11_12 => ?_⟩)⟩
        rw [hcl1]
        refine ⟨_, rfl, if_f rfl ?_⟩
        have x8_12 := x8_11.trans x11_12
        -- fits
        refine ⟨_, rfl, _, rfl, .ref t1, v, rfl, .inr ⟨t1, d, kv1, _, d, rfl, hS1.ex x11_12, hcl1, hd8.ex x8_12, hsz, (fun h => (hno h).elim), fun _ H13 x12_13 => ?_⟩⟩
        rw [has_own ho (hsub _)]
        refine ⟨_, rfl, if_f rfl ?_⟩
        have x8_13 := x8_12.trans x12_13
        have hS13 := hS1.ex (x11_12.trans x12_13)
        -- one place fewer
        refine ⟨_, rfl, _, rfl, _, rfl, _, rfl, q, ts, rfl, SqLo (x8_13 _ _ hq8), fun s2 ns2 => ?_⟩
        rw [cut_pre]
        obtain ⟨H14, hH14, x13_14, h14⟩ := newH (.lst (ts.take jn)) ns2
        rw [hH14]
        clear hH14
        have x8_14 := x8_13.trans x13_14
        refine ⟨v, d, s2, ts.take jn, (paths d).take jn, rfl, hd8.ex x8_14, ho, hc60, h14, paired_take _ (pl_ex x8_14 hts8), hsub _, by rw [List.length_take]; omega, hfr.take _, fun t2 kv2 H15 x14_15 nt2 hS2 => ?_⟩
        have x8_15 := x8_14.trans x14_15
        have hS15 := hS13.ex (x13_14.trans x14_15)
        have htkl : ∀ n, (tabP d ((paths d).take n)).length = min n (paths d).length := fun n => by
          rw [tabP_len d _ (fun q hq => hst q (hsub _ q hq)) (hnd.sublist (List.take_sublist _ _)), List.length_take]
        refine ⟨_, rfl, t2, t1, kv2, kv1, rfl, rfl, .inl hS2.at_, .inl hS15.at_, .inr ⟨?_, _, rfl, if_f rfl ?_⟩⟩
        · rw [Paired.len hS2.td, Paired.len hS15.td, htkl, htkl]
          omega
        have hd15 := hd8.ex x8_15
        have hSe15 := hS8.ex x8_15
        have hq15 := x8_15 _ _ hq8
        have hts15 := pl_ex x8_15 hts8
        have htj15 := x8_15 _ _ htj
        have x7_15 := e78.trans x8_15
        clear hd8 hp8 hS8 hq8 hts8 htj x8_15 x8_14 x8_13 x8_12 x8_11 x8_10 x8_9 hS15 hS13 hS2 hS1 nt1 nt2 x14_15 x13_14 x12_13 x11_12 x10_11 x9_10 h14 h10 ns1 ns2 htj0
        -- _law_less
        refine ⟨_, rfl, q, rfl, ⟨_, SqLo hq15⟩, fun D nD => lc_fl (walk_list (K := K) (a := q) (xs := ts)) (fun i acc Hc => PrsAt d Hc acc (((paths d).take i).filter fun q => !decide (q = p))) nD (by rw [List.take_zero]; exact PrsAt.nil) (fun H' e => SqLo (e _ _ hq15)) ?_ ?_⟩
        · rintro i y acc Ho Hi hi ge g' hD hl1 hacc ⟨rfl, hy⟩
          obtain ⟨pq, hpq, b, rfl, hb⟩ := Paired.get hts15 hy
          have hb : H15 b = some (.tup pq) := hb
          have hqm := List.mem_of_getElem? hpq
          have hgq := hst pq hqm
          have hbi := ge _ _ hb
          refine ⟨rfl, _, rfl, _, rfl, _, rfl, q, ts, _, _, rfl, rfl, SqLo (ge _ _ hq15), hz1, ?_⟩
          refine ⟨.tuple (pq.map stV), .tuple (p.map stV), .tup (SqTo hbi) (st_all hgq).1, .tup (SqTo (ge _ _ htj15)) (st_all hgo).1, st_shaped hgq, st_shaped hgo, _, rfl, ?_⟩
          rw [st_eqv hgq hgo]
          have hfil : ((paths d).take (i + 1)).filter (fun q => !decide (q = p)) = ((paths d).take i).filter (fun q => !decide (q = p)) ++ [pq].filter (fun q => !decide (q = p)) := by
            rw [List.take_add_one, hpq, List.filter_append]
            rfl
          refine if_b (fun h => ?_) (fun h => ?_)
          · obtain ⟨c', hae⟩ := paths_at (cnt d) d (Nat.le_refl _) pq hqm
            obtain ⟨uv, c2, hv, hc1, hc2, hc3, hc4⟩ := hSe15.key (k := pq.map kyV) (keys_tabP.mpr ⟨pq, hqm, rfl⟩)
            have ece : c2 = c' := by
              rw [← at_part hc1, at_part (by rw [kys_kV hgq]; exact hae)]
            subst ece
            refine ⟨_, rfl, _, rfl, _, rfl, sa, uv, rfl, .inr ⟨kvs, pq.map kyV, b, .inl (ge _ _ hSe15.at_), rfl, by rw [kys_kV hgq]; exact hbi, hv.symm⟩, szl (by show 2 ≤ 100000; decide), fun z nz => ?_⟩
            obtain ⟨Hz, hHz, xz, hzz⟩ := newH (.tup [V.ref b, uv]) nz
            rw [hHz]
            clear hHz
            refine lcf_put g' hD hl1 (by omega) xz ?_
            rw [hfil, show [pq].filter (fun q => !decide (q = p)) = [pq] from by rw [List.filter_cons, if_pos h]; rfl]
            have hDz := xz _ _ hD
            refine PrsAt.snoc (hacc.ex (del_grow' xz)) (del_get hzz (not_lst hzz hDz)) (del_get (xz _ _ hbi) (not_lst (xz _ _ hbi) hDz)) hgq hae hc2 ?_
            refine hc4.ex (ex_of_del (ex_del.trans (ge.trans xz)) ?_)
            by_cases ed : D = sa
            · rw [ed, del_same]
            · rw [del_ne ed]
              exact nD
          · refine lcf_skip g' hD hl1 (Ex.refl _) ?_
            rw [hfil, show [pq].filter (fun q => !decide (q = p)) = [] from by rw [List.filter_cons, if_neg (by rw [h]; decide)]; rfl, List.append_nil]
            exact hacc
        · rintro acc H16 x15_16 g' hD hl1 hacc
          rw [List.take_of_length_le (by omega)] at hacc
          obtain ⟨zs, h1, h2, h3⟩ := hacc.td
          subst h1
          refine ⟨D, zs, rfl, hD, fun z hz => ⟨ex_del _ _ (h2 z hz).pr, ex_del _ _ (h2 z hz).ky⟩, fun sl nsl => ?_⟩
          obtain ⟨H17, hH17, x16_17, h17⟩ := newH (.dT (mergeT [] (zs.map fun z => z.2.2))) nsl
          have hSl : SeenT H17 sl d (mergeT [] (zs.map fun z => z.2.2)) (tabP d ((paths d).filter fun q => !decide (q = p))) := by
            refine ⟨h17, ?_, ho, hc60, ?_⟩
            · rw [← hH17, del_none nsl]
              exact tds_ex ex_del h3
            · rw [← Paired.len h3]
              have := mergeT_len (zs.map fun z => z.2.2) []
              rw [List.length_map] at this hl1
              have e0 : ([] : List (List Key × V)).length = 0 := rfl
              omega
          rw [hH17]
          clear hH17 h17
          have x15_17 := x15_16.trans x16_17
          have hq17 := x15_17 _ _ hq15
          have hts17 := pl_ex x15_17 hts15
          have htj17 := x15_17 _ _ htj15
          -- _law_has_children
          refine ⟨_, rfl, q, rfl, ⟨_, SqLo hq17⟩, fun D2 nD2 => lc_fl (walk_list (K := K) (a := q) (xs := ts)) (fun i acc Hc => Paired (PlTup Hc []) acc (((paths d).take i).filter fun q => !q.isEmpty && decide (q.dropLast = p))) nD2 (by rw [List.take_zero]; exact .nil) (fun H' e => SqLo (e _ _ hq17)) ?_ ?_⟩
          · rintro i y acc2 Ho Hi hi ge g2 hD2 hl2 hacc2 ⟨rfl, hy⟩
            obtain ⟨pq, hpq, b, rfl, hb⟩ := Paired.get hts17 hy
            have hb : H17 b = some (.tup pq) := hb
            have hqm := List.mem_of_getElem? hpq
            have hgq := hst pq hqm
            have hbi := ge _ _ hb
            have hfil : ((paths d).take (i + 1)).filter (fun q => !q.isEmpty && decide (q.dropLast = p)) = ((paths d).take i).filter (fun q => !q.isEmpty && decide (q.dropLast = p)) ++ [pq].filter (fun q => !q.isEmpty && decide (q.dropLast = p)) := by
              rw [List.take_add_one, hpq, List.filter_append]
              rfl
            have skip : ∀ Hj, Ex Hi Hj → (!pq.isEmpty && decide (pq.dropLast = p)) = false → LcF (fun i acc Hc => Paired (PlTup Hc []) acc (((paths d).take i).filter fun q => !q.isEmpty && decide (q.dropLast = p))) H17 D2 (i + 1) Hj := by
              intro Hj xj h
              refine lcf_skip g2 hD2 hl2 xj ?_
              rw [hfil, show [pq].filter (fun q => !q.isEmpty && decide (q.dropLast = p)) = [] from by rw [List.filter_cons, if_neg (by rw [h]; decide)]; rfl, List.append_nil]
              exact pl_ex (del_grow' xj) hacc2
            refine ⟨rfl, _, rfl, .ref b, pq.length, rfl, .inr ⟨pq, SqTo hbi, rfl⟩, _, _, rfl, rfl, _, rfl, if_b (fun h => ?_) (fun h => ?_)⟩
            · have h : decide ((pq.length : Int) > 0) = true := h
              have hpos := of_decide_eq_true h
              have hne : pq.isEmpty = false := by
                cases pq with
                | nil => exact absurd hpos (by decide)
                | cons a b => rfl
              obtain ⟨p', s', rfl⟩ := snoc_of hne
              refine ⟨_, rfl, _, rfl, _, rfl, slB_of hbi fun r H19 x19 hr19 => ?_⟩
              rw [cut_last] at hr19
              have hg' := fun s hs => hgq s (List.mem_append_left _ hs)
              refine ⟨_, rfl, _, rfl, q, ts, _, _, rfl, rfl, SqLo ((ge.trans x19) _ _ hq17), hz1, ?_⟩
              refine ⟨.tuple (p'.map stV), .tuple (p.map stV), .tup (SqTo hr19) (st_all hg').1, .tup (SqTo ((ge.trans x19) _ _ htj17)) (st_all hgo).1, st_shaped hg', st_shaped hgo, _, rfl, ?_⟩
              rw [st_eqv hg' hgo]
              refine if_b (fun h => ?_) (fun h => ?_)
              · refine ⟨_, rfl, lcf_put g2 hD2 hl2 (by omega) x19 ?_⟩
                rw [hfil, show [p' ++ [s']].filter (fun q => !q.isEmpty && decide (q.dropLast = p)) = [p' ++ [s']] from by rw [List.filter_cons, if_pos (by rw [hne, List.dropLast_concat, h]; rfl)]; rfl]
                exact Paired.app (pl_ex (del_grow' x19) hacc2) (.cons ⟨b, rfl, del_get (x19 _ _ hbi) (not_lst (x19 _ _ hbi) (x19 _ _ hD2))⟩ .nil)
              · refine skip _ x19 ?_
                rw [hne, List.dropLast_concat, h]
                rfl
            · refine if_f rfl (skip _ (Ex.refl _) ?_)
              have h : decide ((pq.length : Int) > 0) = false := h
              cases pq with
              | nil => rfl
              | cons a b =>
                have := of_decide_eq_false h
                rw [List.length_cons] at this
                omega
          · rintro acc2 H18 x17_18 g2 hD2 hl2 hacc2
            rw [List.take_of_length_le (by omega)] at hacc2
            refine ⟨szl (by show 0 ≤ 100000; decide), fun sn nsn => ?_⟩
            obtain ⟨H19, hH19, x18_19, h19⟩ := newH (.lst []) nsn
            rw [hH19]
            clear hH19
            have hpsc : ∀ x ∈ (paths d).filter (fun q => !q.isEmpty && decide (q.dropLast = p)), ∀ s ∈ x, StG s := fun x hx => (hpg x (List.mem_filter.mp hx).1).1
            obtain ⟨e1, _⟩ := eqv_paths hpsc
            refine ⟨_, .list [], .lst (SqLo (x18_19 _ _ hD2)) (dp_paths (pl_ex (ex_del.trans x18_19) hacc2) hpsc), .lst (SqLo h19) .nil, e1, rfl, ?_⟩
            -- at the end
            have x17_19 := x17_18.trans x18_19
            refine ⟨_, rfl, .ref sl, rfl, .inr (.inr ⟨sl, d, _, _, rfl, hSl.ex x17_19, fun H20 x19_20 => ?_⟩)⟩
            refine ⟨_, rfl, rfl, _, rfl, if_f ?_ ⟨_, _, _, _, _, rfl, x7_15.trans (x15_17.trans (x17_19.trans x19_20))⟩⟩
            rw [closed_less ho hnd, eqv_lnil, List.isEmpty_map, empty_any]
            refine decide_eq_false fun z => ?_
            injection z with z
            cases hz : (paths d).any (fun q => !q.isEmpty && decide (q.dropLast = p)) with
            | true => rw [hz] at z; cases z
            | false => rw [hz] at z; cases z
    · rintro σ' H' ⟨v1, v2, v3, v4, v5, v6, v7, v8, v9, v10, v11, rfl, e0⟩
      exact k H'
end
end VL

namespace VL
open PySem PySem.Spec L2 LW
open Evl (Ex)
section
variable {P : Program} {w : World} {K : PySem.W.Frag} {mg : Str → Option Value} {base : Heap} {CP : Addr}
theorem sc_InvalidPlace___init__ : FnScope ["self", "place"] ["self", "place"] (defScope s_InvalidPlace___init__) := ⟨rfl, rfl, rfl, by decide +kernel, rfl, by decide +kernel, by decide +kernel⟩
theorem bi_InvalidPlace___init__ : BindsM "__init__" "InvalidPlace.__init__" s_InvalidPlace___init__ ["self", "place"] := fun _ _ _ _ _ _ us hl => match us, hl with | [_, _], _ => rfl
theorem ok_pinit {f0 : Addr} {fd0 : FuncData} (F : FunD K "__init__" "InvalidPlace.__init__" (defArgs s_InvalidPlace___init__) (defBody s_InvalidPlace___init__) (defScope s_InvalidPlace___init__) [] [] f0 fd0) (ox : OexC K CP) (no : PySem.W.findIn K (.ref CP) "place" = some none) :
    FnOk P w K mg base CX0 1 f0 fd0 ["self", "place"] (spXI K CP "place") := by
  refine F.ok sc_InvalidPlace___init__ (fun vs H Q E h => ?_) (fun cdv A outer s H vs Q E hr h => ?_)
  · obtain ⟨a, v, rfl, _⟩ := h
    rfl
  · obtain ⟨a, v, rfl, ha, k⟩ := h
    refine ⟨_, PSs.nox (pss_one (ps_ost (pv 0) (pv 1))), ?_⟩
    exact ⟨_, rfl, _, rfl, a, CP, rfl, ox, no, .inl ⟨ha, fun dx h1 h2 => k dx h1 h2⟩⟩
end
end VL

namespace VL
open PySem PySem.Spec L2 LW
/-! ### the head: facts by names, the run -/
def d_is_integer : He.DefD := ⟨("is_integer", none), "is_integer", "is_integer", defArgs s_is_integer, defBody s_is_integer, defScope s_is_integer, [], []⟩
def d_is_letters : He.DefD := ⟨("is_letters", none), "is_letters", "is_letters", defArgs s_is_letters, defBody s_is_letters, defScope s_is_letters, [], []⟩
def d_is_field : He.DefD := ⟨("is_field", none), "is_field", "is_field", defArgs s_is_field, defBody s_is_field, defScope s_is_field, [], []⟩
def d_is_leaf : He.DefD := ⟨("is_leaf", none), "is_leaf", "is_leaf", defArgs s_is_leaf, defBody s_is_leaf, defScope s_is_leaf, [], []⟩
def d_is_part : He.DefD := ⟨("is_part", none), "is_part", "is_part", defArgs s_is_part, defBody s_is_part, defScope s_is_part, [], []⟩
def d_children : He.DefD := ⟨("children", none), "children", "children", defArgs s_children, defBody s_children, defScope s_children, [], []⟩
def d_is_value : He.DefD := ⟨("is_value", none), "is_value", "is_value", defArgs s_is_value, defBody s_is_value, defScope s_is_value, [], []⟩
def d_check_value : He.DefD := ⟨("check_value", none), "check_value", "check_value", defArgs s_check_value, defBody s_check_value, defScope s_check_value, [], []⟩
def d_count : He.DefD := ⟨("count", none), "count", "count", defArgs s_count, defBody s_count, defScope s_count, [], []⟩
def d_size : He.DefD := ⟨("size", none), "size", "size", defArgs s_size, defBody s_size, defScope s_size, [], []⟩
def d_copy_of : He.DefD := ⟨("copy_of", none), "copy_of", "copy_of", defArgs s_copy_of, defBody s_copy_of, defScope s_copy_of, [], []⟩
def d_places_below : He.DefD := ⟨("places_below", none), "places_below", "places_below", defArgs s_places_below, defBody s_places_below, defScope s_places_below, [], []⟩
def d_places : He.DefD := ⟨("places", none), "places", "places", defArgs s_places, defBody s_places, defScope s_places, [], []⟩
def d_has_step : He.DefD := ⟨("has_step", none), "has_step", "has_step", defArgs s_has_step, defBody s_has_step, defScope s_has_step, [], []⟩
def d_has_place : He.DefD := ⟨("has_place", none), "has_place", "has_place", defArgs s_has_place, defBody s_has_place, defScope s_has_place, [], []⟩
def d_part_at : He.DefD := ⟨("part_at", none), "part_at", "part_at", defArgs s_part_at, defBody s_part_at, defScope s_part_at, [], []⟩
def d_at : He.DefD := ⟨("at", none), "at", "at", defArgs s_at, defBody s_at, defScope s_at, [], []⟩
def d_head_of : He.DefD := ⟨("head_of", none), "head_of", "head_of", defArgs s_head_of, defBody s_head_of, defScope s_head_of, [], []⟩
def d_are_fields : He.DefD := ⟨("are_fields", none), "are_fields", "are_fields", defArgs s_are_fields, defBody s_are_fields, defScope s_are_fields, [], []⟩
def d_is_head : He.DefD := ⟨("is_head", none), "is_head", "is_head", defArgs s_is_head, defBody s_is_head, defScope s_is_head, [], []⟩
def d_shows_step : He.DefD := ⟨("shows_step", none), "shows_step", "shows_step", defArgs s_shows_step, defBody s_shows_step, defScope s_shows_step, [], []⟩
def d_is_place : He.DefD := ⟨("is_place", none), "is_place", "is_place", defArgs s_is_place, defBody s_is_place, defScope s_is_place, [], []⟩
def d_is_seen : He.DefD := ⟨("is_seen", none), "is_seen", "is_seen", defArgs s_is_seen, defBody s_is_seen, defScope s_is_seen, [], []⟩
def d_look_at_seen : He.DefD := ⟨("look_at_seen", none), "look_at_seen", "look_at_seen", defArgs s_look_at_seen, defBody s_look_at_seen, defScope s_look_at_seen, [], []⟩
def d_seen_of : He.DefD := ⟨("seen_of", none), "seen_of", "seen_of", defArgs s_seen_of, defBody s_seen_of, defScope s_seen_of, [], []⟩
def d_whole_seen : He.DefD := ⟨("whole_seen", none), "whole_seen", "whole_seen", defArgs s_whole_seen, defBody s_whole_seen, defScope s_whole_seen, [], []⟩
def d_has_heads : He.DefD := ⟨("has_heads", none), "has_heads", "has_heads", defArgs s_has_heads, defBody s_has_heads, defScope s_has_heads, [], []⟩
def d_fits : He.DefD := ⟨("fits", none), "fits", "fits", defArgs s_fits, defBody s_fits, defScope s_fits, [], []⟩
def d__law_hand : He.DefD := ⟨("_law_hand", none), "_law_hand", "_law_hand", defArgs s__law_hand, defBody s__law_hand, defScope s__law_hand, [], []⟩
def d__law_draw : He.DefD := ⟨("_law_draw", none), "_law_draw", "_law_draw", defArgs s__law_draw, defBody s__law_draw, defScope s__law_draw, [], []⟩
def d__law_word : He.DefD := ⟨("_law_word", none), "_law_word", "_law_word", defArgs s__law_word, defBody s__law_word, defScope s__law_word, [], []⟩
def d__law_leaf : He.DefD := ⟨("_law_leaf", none), "_law_leaf", "_law_leaf", defArgs s__law_leaf, defBody s__law_leaf, defScope s__law_leaf, [], []⟩
def d__law_value : He.DefD := ⟨("_law_value", none), "_law_value", "_law_value", defArgs s__law_value, defBody s__law_value, defScope s__law_value, [], []⟩
def d__law_built : He.DefD := ⟨("_law_built", none), "_law_built", "_law_built", defArgs s__law_built, defBody s__law_built, defScope s__law_built, [], []⟩
def d__law_part_right : He.DefD := ⟨("_law_part_right", none), "_law_part_right", "_law_part_right", defArgs s__law_part_right, defBody s__law_part_right, defScope s__law_part_right, [], []⟩
def d_law : He.DefD := ⟨("law", none), "law", "law", defArgs s_law, defBody s_law, defScope s_law, [], []⟩
def d_InvalidValue___init__ : He.DefD := ⟨("InvalidValue", some "__init__"), "__init__", "InvalidValue.__init__", defArgs s_InvalidValue___init__, defBody s_InvalidValue___init__, defScope s_InvalidValue___init__, [], []⟩
def d_InvalidPlace___init__ : He.DefD := ⟨("InvalidPlace", some "__init__"), "__init__", "InvalidPlace.__init__", defArgs s_InvalidPlace___init__, defBody s_InvalidPlace___init__, defScope s_InvalidPlace___init__, [], []⟩
def d_InvalidSeen___init__ : He.DefD := ⟨("InvalidSeen", some "__init__"), "__init__", "InvalidSeen.__init__", defArgs s_InvalidSeen___init__, defBody s_InvalidSeen___init__, defScope s_InvalidSeen___init__, [], []⟩
def d_InvalidLooks___init__ : He.DefD := ⟨("InvalidLooks", some "__init__"), "__init__", "InvalidLooks.__init__", defArgs s_InvalidLooks___init__, defBody s_InvalidLooks___init__, defScope s_InvalidLooks___init__, [], []⟩
def fn : List He.DefD := [d_is_integer, d_is_letters, d_is_field, d_is_leaf, d_is_part, d_children, d_is_value, d_check_value, d_count, d_size, d_copy_of, d_places_below, d_places, d_has_step, d_has_place, d_part_at, d_at, d_head_of, d_are_fields, d_is_head, d_shows_step, d_is_place, d_is_seen, d_look_at_seen, d_seen_of, d_whole_seen, d_has_heads, d_fits, d__law_hand, d__law_draw, d__law_word, d__law_leaf, d__law_value, d__law_built, d__law_part_right, d_law, d_InvalidValue___init__, d_InvalidPlace___init__, d_InvalidSeen___init__, d_InvalidLooks___init__]
def fa0 : List He.Fa := [.glo "is_integer", .glo "is_letters", .glo "is_field", .glo "is_leaf", .glo "is_part", .glo "children", .glo "is_value", .glo "check_value", .glo "count", .glo "size", .glo "copy_of", .glo "places_below", .glo "places", .glo "has_step", .glo "has_place", .glo "part_at", .glo "at", .glo "head_of", .glo "are_fields", .glo "is_head"]
def fa1 : List He.Fa := [.glo "shows_step", .glo "is_place", .glo "is_seen", .glo "look_at_seen", .glo "seen_of", .glo "whole_seen", .glo "has_heads", .glo "fits", .glo "_law_hand", .glo "_law_draw", .glo "_law_word", .glo "_law_leaf", .glo "_law_value", .glo "_law_built", .glo "_law_part_right", .glo "law", .glo "InvalidValue", .glo "InvalidPlace", .glo "InvalidSeen", .glo "InvalidLooks"]
def fa2 : List He.Fa := [.free "len", .free "range", .free "isinstance", .free "int", .free "str", .free "bool", .free "list", .free "dict", .free "tuple", .free "all", .free "enumerate", .free "max", .free "min", .free "sum", .free "sorted", .free "repr", .int "GREATEST" 1000000000000000000000000000000, .int "LONGEST_TEXT" 20, .int "LONGEST_NAME" 8, .int "MOST_FIELDS" 8]
def fa3 : List He.Fa := [.int "MOST_PLACES" 60, .int "LONGEST_LIST" 1000000000000000000000000000000, .str "LETTERS" "abcdefghijklmnopqrstuvwxyz", .noat "InvalidValue" "value", .noat "InvalidPlace" "place", .noat "InvalidSeen" "thing", .noat "InvalidLooks" "number"]
def fa : List He.Fa := fa0 ++ fa1 ++ fa2 ++ fa3
def ex (K : PySem.W.Frag) : Bool := (oexB K (He.ga K "InvalidValue") && (excB K (He.ga K "InvalidValue") && (He.eqO (PySem.W.findIn K (.ref (He.ga K "InvalidValue")) "__init__") (some (some (.ref (He.ma K (He.ga K "InvalidValue") "__init__")))) && decide (PySem.W.typeIn K (.ref (He.ma K (He.ga K "InvalidValue") "__init__")) = some (.type "function"))))) && ((oexB K (He.ga K "InvalidPlace") && (excB K (He.ga K "InvalidPlace") && (He.eqO (PySem.W.findIn K (.ref (He.ga K "InvalidPlace")) "__init__") (some (some (.ref (He.ma K (He.ga K "InvalidPlace") "__init__")))) && decide (PySem.W.typeIn K (.ref (He.ma K (He.ga K "InvalidPlace") "__init__")) = some (.type "function"))))) && ((oexB K (He.ga K "InvalidSeen") && (excB K (He.ga K "InvalidSeen") && (He.eqO (PySem.W.findIn K (.ref (He.ga K "InvalidSeen")) "__init__") (some (some (.ref (He.ma K (He.ga K "InvalidSeen") "__init__")))) && decide (PySem.W.typeIn K (.ref (He.ma K (He.ga K "InvalidSeen") "__init__")) = some (.type "function"))))) && (oexB K (He.ga K "InvalidLooks") && (excB K (He.ga K "InvalidLooks") && (He.eqO (PySem.W.findIn K (.ref (He.ga K "InvalidLooks")) "__init__") (some (some (.ref (He.ma K (He.ga K "InvalidLooks") "__init__")))) && decide (PySem.W.typeIn K (.ref (He.ma K (He.ga K "InvalidLooks") "__init__")) = some (.type "function")))))))
def loose0 : List Str := ["CheckError", "InvalidValue", "InvalidPlace", "InvalidSeen", "InvalidLooks", "LETTERS", "GREATEST", "LONGEST_TEXT", "LONGEST_NAME", "MOST_FIELDS", "MOST_PLACES", "is_integer", "is_letters", "is_field", "is_leaf", "is_part", "children", "is_value", "check_value", "count"]
def loose1 : List Str := ["size", "copy_of", "places_below", "places", "has_step", "has_place", "part_at", "at", "head_of", "LONGEST_LIST", "are_fields", "is_head", "shows_step", "is_place", "is_seen", "look_at_seen", "seen_of", "whole_seen", "has_heads", "fits"]
def loose2 : List Str := ["_law_hand", "_law_draw", "_law_word", "_law_leaf", "_law_value", "_law_below", "_law_part", "_law_top", "_law_twin", "_law_built", "_law_part_right"]
def loose : List Str := loose0 ++ loose1 ++ loose2
abbrev R : PySem.W.OpenRow := PySem.W.OpenLaw.row PySem.Challenge.rw_latechecks_k06_whole_values_from_heads
abbrev hk : PySem.W.Hook := LW.hookM 5 fa fn ex
def ob (s : PySem.W.SharedT) : LW.AlM := LW.obsM 5 fa fn ex (HandSHeadRun.getT s)
theorem ob_eq (s : PySem.W.SharedT) : ob s = hk.obs s.abs := LW.obsM_eq (HandSHeadRun.getT_eq s)
theorem run (w : World) : HandSHeadRun.RunEq R (PySem.W.view R.prog [55]) hk ob 6000 loose w := by
  intro os
  kernel_rfl
section
variable {P : Program} {w : World} {K : PySem.W.Frag} {mg : Str → Option Value} {h : Heap}
theorem hg_is_integer (c : SaysM fa fn ex K) : (He.Fa.glo "is_integer").ok K = true := c.d.fact 0 (f := .glo "is_integer") rfl
theorem hg_is_letters (c : SaysM fa fn ex K) : (He.Fa.glo "is_letters").ok K = true := c.d.fact 1 (f := .glo "is_letters") rfl
theorem hg_is_field (c : SaysM fa fn ex K) : (He.Fa.glo "is_field").ok K = true := c.d.fact 2 (f := .glo "is_field") rfl
theorem hg_is_leaf (c : SaysM fa fn ex K) : (He.Fa.glo "is_leaf").ok K = true := c.d.fact 3 (f := .glo "is_leaf") rfl
theorem hg_is_part (c : SaysM fa fn ex K) : (He.Fa.glo "is_part").ok K = true := c.d.fact 4 (f := .glo "is_part") rfl
theorem hg_children (c : SaysM fa fn ex K) : (He.Fa.glo "children").ok K = true := c.d.fact 5 (f := .glo "children") rfl
theorem hg_is_value (c : SaysM fa fn ex K) : (He.Fa.glo "is_value").ok K = true := c.d.fact 6 (f := .glo "is_value") rfl
theorem hg_check_value (c : SaysM fa fn ex K) : (He.Fa.glo "check_value").ok K = true := c.d.fact 7 (f := .glo "check_value") rfl
theorem hg_count (c : SaysM fa fn ex K) : (He.Fa.glo "count").ok K = true := c.d.fact 8 (f := .glo "count") rfl
theorem hg_size (c : SaysM fa fn ex K) : (He.Fa.glo "size").ok K = true := c.d.fact 9 (f := .glo "size") rfl
theorem hg_copy_of (c : SaysM fa fn ex K) : (He.Fa.glo "copy_of").ok K = true := c.d.fact 10 (f := .glo "copy_of") rfl
theorem hg_places_below (c : SaysM fa fn ex K) : (He.Fa.glo "places_below").ok K = true := c.d.fact 11 (f := .glo "places_below") rfl
theorem hg_places (c : SaysM fa fn ex K) : (He.Fa.glo "places").ok K = true := c.d.fact 12 (f := .glo "places") rfl
theorem hg_has_step (c : SaysM fa fn ex K) : (He.Fa.glo "has_step").ok K = true := c.d.fact 13 (f := .glo "has_step") rfl
theorem hg_has_place (c : SaysM fa fn ex K) : (He.Fa.glo "has_place").ok K = true := c.d.fact 14 (f := .glo "has_place") rfl
theorem hg_part_at (c : SaysM fa fn ex K) : (He.Fa.glo "part_at").ok K = true := c.d.fact 15 (f := .glo "part_at") rfl
theorem hg_at (c : SaysM fa fn ex K) : (He.Fa.glo "at").ok K = true := c.d.fact 16 (f := .glo "at") rfl
theorem hg_head_of (c : SaysM fa fn ex K) : (He.Fa.glo "head_of").ok K = true := c.d.fact 17 (f := .glo "head_of") rfl
theorem hg_are_fields (c : SaysM fa fn ex K) : (He.Fa.glo "are_fields").ok K = true := c.d.fact 18 (f := .glo "are_fields") rfl
theorem hg_is_head (c : SaysM fa fn ex K) : (He.Fa.glo "is_head").ok K = true := c.d.fact 19 (f := .glo "is_head") rfl
theorem hg_shows_step (c : SaysM fa fn ex K) : (He.Fa.glo "shows_step").ok K = true := c.d.fact 20 (f := .glo "shows_step") rfl
theorem hg_is_place (c : SaysM fa fn ex K) : (He.Fa.glo "is_place").ok K = true := c.d.fact 21 (f := .glo "is_place") rfl
theorem hg_is_seen (c : SaysM fa fn ex K) : (He.Fa.glo "is_seen").ok K = true := c.d.fact 22 (f := .glo "is_seen") rfl
theorem hg_look_at_seen (c : SaysM fa fn ex K) : (He.Fa.glo "look_at_seen").ok K = true := c.d.fact 23 (f := .glo "look_at_seen") rfl
theorem hg_seen_of (c : SaysM fa fn ex K) : (He.Fa.glo "seen_of").ok K = true := c.d.fact 24 (f := .glo "seen_of") rfl
theorem hg_whole_seen (c : SaysM fa fn ex K) : (He.Fa.glo "whole_seen").ok K = true := c.d.fact 25 (f := .glo "whole_seen") rfl
theorem hg_has_heads (c : SaysM fa fn ex K) : (He.Fa.glo "has_heads").ok K = true := c.d.fact 26 (f := .glo "has_heads") rfl
theorem hg_fits (c : SaysM fa fn ex K) : (He.Fa.glo "fits").ok K = true := c.d.fact 27 (f := .glo "fits") rfl
theorem hg__law_hand (c : SaysM fa fn ex K) : (He.Fa.glo "_law_hand").ok K = true := c.d.fact 28 (f := .glo "_law_hand") rfl
theorem hg__law_draw (c : SaysM fa fn ex K) : (He.Fa.glo "_law_draw").ok K = true := c.d.fact 29 (f := .glo "_law_draw") rfl
theorem hg__law_word (c : SaysM fa fn ex K) : (He.Fa.glo "_law_word").ok K = true := c.d.fact 30 (f := .glo "_law_word") rfl
theorem hg__law_leaf (c : SaysM fa fn ex K) : (He.Fa.glo "_law_leaf").ok K = true := c.d.fact 31 (f := .glo "_law_leaf") rfl
theorem hg__law_value (c : SaysM fa fn ex K) : (He.Fa.glo "_law_value").ok K = true := c.d.fact 32 (f := .glo "_law_value") rfl
theorem hg__law_built (c : SaysM fa fn ex K) : (He.Fa.glo "_law_built").ok K = true := c.d.fact 33 (f := .glo "_law_built") rfl
theorem hg__law_part_right (c : SaysM fa fn ex K) : (He.Fa.glo "_law_part_right").ok K = true := c.d.fact 34 (f := .glo "_law_part_right") rfl
theorem hg_law (c : SaysM fa fn ex K) : (He.Fa.glo "law").ok K = true := c.d.fact 35 (f := .glo "law") rfl
theorem hg_InvalidValue (c : SaysM fa fn ex K) : (He.Fa.glo "InvalidValue").ok K = true := c.d.fact 36 (f := .glo "InvalidValue") rfl
theorem hg_InvalidPlace (c : SaysM fa fn ex K) : (He.Fa.glo "InvalidPlace").ok K = true := c.d.fact 37 (f := .glo "InvalidPlace") rfl
theorem hg_InvalidSeen (c : SaysM fa fn ex K) : (He.Fa.glo "InvalidSeen").ok K = true := c.d.fact 38 (f := .glo "InvalidSeen") rfl
theorem hg_InvalidLooks (c : SaysM fa fn ex K) : (He.Fa.glo "InvalidLooks").ok K = true := c.d.fact 39 (f := .glo "InvalidLooks") rfl
theorem hf_len (c : SaysM fa fn ex K) : (He.Fa.free "len").ok K = true := c.d.fact 40 (f := .free "len") rfl
theorem hf_range (c : SaysM fa fn ex K) : (He.Fa.free "range").ok K = true := c.d.fact 41 (f := .free "range") rfl
theorem hf_isinstance (c : SaysM fa fn ex K) : (He.Fa.free "isinstance").ok K = true := c.d.fact 42 (f := .free "isinstance") rfl
theorem hf_int (c : SaysM fa fn ex K) : (He.Fa.free "int").ok K = true := c.d.fact 43 (f := .free "int") rfl
theorem hf_str (c : SaysM fa fn ex K) : (He.Fa.free "str").ok K = true := c.d.fact 44 (f := .free "str") rfl
theorem hf_bool (c : SaysM fa fn ex K) : (He.Fa.free "bool").ok K = true := c.d.fact 45 (f := .free "bool") rfl
theorem hf_list (c : SaysM fa fn ex K) : (He.Fa.free "list").ok K = true := c.d.fact 46 (f := .free "list") rfl
theorem hf_dict (c : SaysM fa fn ex K) : (He.Fa.free "dict").ok K = true := c.d.fact 47 (f := .free "dict") rfl
theorem hf_tuple (c : SaysM fa fn ex K) : (He.Fa.free "tuple").ok K = true := c.d.fact 48 (f := .free "tuple") rfl
theorem hf_all (c : SaysM fa fn ex K) : (He.Fa.free "all").ok K = true := c.d.fact 49 (f := .free "all") rfl
theorem hf_enumerate (c : SaysM fa fn ex K) : (He.Fa.free "enumerate").ok K = true := c.d.fact 50 (f := .free "enumerate") rfl
theorem hf_max (c : SaysM fa fn ex K) : (He.Fa.free "max").ok K = true := c.d.fact 51 (f := .free "max") rfl
theorem hf_min (c : SaysM fa fn ex K) : (He.Fa.free "min").ok K = true := c.d.fact 52 (f := .free "min") rfl
theorem hf_sum (c : SaysM fa fn ex K) : (He.Fa.free "sum").ok K = true := c.d.fact 53 (f := .free "sum") rfl
theorem hf_sorted (c : SaysM fa fn ex K) : (He.Fa.free "sorted").ok K = true := c.d.fact 54 (f := .free "sorted") rfl
theorem hf_repr (c : SaysM fa fn ex K) : (He.Fa.free "repr").ok K = true := c.d.fact 55 (f := .free "repr") rfl
theorem hi_GREATEST (c : SaysM fa fn ex K) : (He.Fa.int "GREATEST" 1000000000000000000000000000000).ok K = true := c.d.fact 56 (f := .int "GREATEST" 1000000000000000000000000000000) rfl
theorem hi_LONGEST_TEXT (c : SaysM fa fn ex K) : (He.Fa.int "LONGEST_TEXT" 20).ok K = true := c.d.fact 57 (f := .int "LONGEST_TEXT" 20) rfl
theorem hi_LONGEST_NAME (c : SaysM fa fn ex K) : (He.Fa.int "LONGEST_NAME" 8).ok K = true := c.d.fact 58 (f := .int "LONGEST_NAME" 8) rfl
theorem hi_MOST_FIELDS (c : SaysM fa fn ex K) : (He.Fa.int "MOST_FIELDS" 8).ok K = true := c.d.fact 59 (f := .int "MOST_FIELDS" 8) rfl
theorem hi_MOST_PLACES (c : SaysM fa fn ex K) : (He.Fa.int "MOST_PLACES" 60).ok K = true := c.d.fact 60 (f := .int "MOST_PLACES" 60) rfl
theorem hi_LONGEST_LIST (c : SaysM fa fn ex K) : (He.Fa.int "LONGEST_LIST" 1000000000000000000000000000000).ok K = true := c.d.fact 61 (f := .int "LONGEST_LIST" 1000000000000000000000000000000) rfl
theorem hs_LETTERS (c : SaysM fa fn ex K) : (He.Fa.str "LETTERS" "abcdefghijklmnopqrstuvwxyz").ok K = true := c.d.fact 62 (f := .str "LETTERS" "abcdefghijklmnopqrstuvwxyz") rfl
theorem hm_0 (c : SaysM fa fn ex K) : (He.Fa.noat "InvalidValue" "value").ok K = true := c.d.fact 63 (f := .noat "InvalidValue" "value") rfl
theorem hm_1 (c : SaysM fa fn ex K) : (He.Fa.noat "InvalidPlace" "place").ok K = true := c.d.fact 64 (f := .noat "InvalidPlace" "place") rfl
theorem hm_2 (c : SaysM fa fn ex K) : (He.Fa.noat "InvalidSeen" "thing").ok K = true := c.d.fact 65 (f := .noat "InvalidSeen" "thing") rfl
theorem hm_3 (c : SaysM fa fn ex K) : (He.Fa.noat "InvalidLooks" "number").ok K = true := c.d.fact 66 (f := .noat "InvalidLooks" "number") rfl
theorem df_of (X : K.In h) (G : h.Ns mainGlobals mg) (c : SaysM fa fn ex K) {x : Str} {st : Stmt} (i : Nat) {d : He.DefD} (hd : fn[i]? = some d) (e : d = ⟨(x, none), x, x, defArgs st, defBody st, defScope st, [], []⟩) (hg : (He.Fa.glo x).ok K = true) : Df K mg x st := by
  obtain ⟨fd, F⟩ := c.d.def_ i hd
  subst e
  exact ⟨_, fd, F, He.glo_ok X G hg⟩
theorem D_is_integer (X : K.In h) (G : h.Ns mainGlobals mg) (c : SaysM fa fn ex K) : Df K mg "is_integer" s_is_integer := df_of X G c 0 (d := d_is_integer) rfl rfl (hg_is_integer c)
theorem D_is_letters (X : K.In h) (G : h.Ns mainGlobals mg) (c : SaysM fa fn ex K) : Df K mg "is_letters" s_is_letters := df_of X G c 1 (d := d_is_letters) rfl rfl (hg_is_letters c)
theorem D_is_field (X : K.In h) (G : h.Ns mainGlobals mg) (c : SaysM fa fn ex K) : Df K mg "is_field" s_is_field := df_of X G c 2 (d := d_is_field) rfl rfl (hg_is_field c)
theorem D_is_leaf (X : K.In h) (G : h.Ns mainGlobals mg) (c : SaysM fa fn ex K) : Df K mg "is_leaf" s_is_leaf := df_of X G c 3 (d := d_is_leaf) rfl rfl (hg_is_leaf c)
theorem D_is_part (X : K.In h) (G : h.Ns mainGlobals mg) (c : SaysM fa fn ex K) : Df K mg "is_part" s_is_part := df_of X G c 4 (d := d_is_part) rfl rfl (hg_is_part c)
theorem D_children (X : K.In h) (G : h.Ns mainGlobals mg) (c : SaysM fa fn ex K) : Df K mg "children" s_children := df_of X G c 5 (d := d_children) rfl rfl (hg_children c)
theorem D_is_value (X : K.In h) (G : h.Ns mainGlobals mg) (c : SaysM fa fn ex K) : Df K mg "is_value" s_is_value := df_of X G c 6 (d := d_is_value) rfl rfl (hg_is_value c)
theorem D_check_value (X : K.In h) (G : h.Ns mainGlobals mg) (c : SaysM fa fn ex K) : Df K mg "check_value" s_check_value := df_of X G c 7 (d := d_check_value) rfl rfl (hg_check_value c)
theorem D_count (X : K.In h) (G : h.Ns mainGlobals mg) (c : SaysM fa fn ex K) : Df K mg "count" s_count := df_of X G c 8 (d := d_count) rfl rfl (hg_count c)
theorem D_size (X : K.In h) (G : h.Ns mainGlobals mg) (c : SaysM fa fn ex K) : Df K mg "size" s_size := df_of X G c 9 (d := d_size) rfl rfl (hg_size c)
theorem D_copy_of (X : K.In h) (G : h.Ns mainGlobals mg) (c : SaysM fa fn ex K) : Df K mg "copy_of" s_copy_of := df_of X G c 10 (d := d_copy_of) rfl rfl (hg_copy_of c)
theorem D_places_below (X : K.In h) (G : h.Ns mainGlobals mg) (c : SaysM fa fn ex K) : Df K mg "places_below" s_places_below := df_of X G c 11 (d := d_places_below) rfl rfl (hg_places_below c)
theorem D_places (X : K.In h) (G : h.Ns mainGlobals mg) (c : SaysM fa fn ex K) : Df K mg "places" s_places := df_of X G c 12 (d := d_places) rfl rfl (hg_places c)
theorem D_has_step (X : K.In h) (G : h.Ns mainGlobals mg) (c : SaysM fa fn ex K) : Df K mg "has_step" s_has_step := df_of X G c 13 (d := d_has_step) rfl rfl (hg_has_step c)
theorem D_has_place (X : K.In h) (G : h.Ns mainGlobals mg) (c : SaysM fa fn ex K) : Df K mg "has_place" s_has_place := df_of X G c 14 (d := d_has_place) rfl rfl (hg_has_place c)
theorem D_part_at (X : K.In h) (G : h.Ns mainGlobals mg) (c : SaysM fa fn ex K) : Df K mg "part_at" s_part_at := df_of X G c 15 (d := d_part_at) rfl rfl (hg_part_at c)
theorem D_at (X : K.In h) (G : h.Ns mainGlobals mg) (c : SaysM fa fn ex K) : Df K mg "at" s_at := df_of X G c 16 (d := d_at) rfl rfl (hg_at c)
theorem D_head_of (X : K.In h) (G : h.Ns mainGlobals mg) (c : SaysM fa fn ex K) : Df K mg "head_of" s_head_of := df_of X G c 17 (d := d_head_of) rfl rfl (hg_head_of c)
theorem D_are_fields (X : K.In h) (G : h.Ns mainGlobals mg) (c : SaysM fa fn ex K) : Df K mg "are_fields" s_are_fields := df_of X G c 18 (d := d_are_fields) rfl rfl (hg_are_fields c)
theorem D_is_head (X : K.In h) (G : h.Ns mainGlobals mg) (c : SaysM fa fn ex K) : Df K mg "is_head" s_is_head := df_of X G c 19 (d := d_is_head) rfl rfl (hg_is_head c)
theorem D_shows_step (X : K.In h) (G : h.Ns mainGlobals mg) (c : SaysM fa fn ex K) : Df K mg "shows_step" s_shows_step := df_of X G c 20 (d := d_shows_step) rfl rfl (hg_shows_step c)
theorem D_is_place (X : K.In h) (G : h.Ns mainGlobals mg) (c : SaysM fa fn ex K) : Df K mg "is_place" s_is_place := df_of X G c 21 (d := d_is_place) rfl rfl (hg_is_place c)
theorem D_is_seen (X : K.In h) (G : h.Ns mainGlobals mg) (c : SaysM fa fn ex K) : Df K mg "is_seen" s_is_seen := df_of X G c 22 (d := d_is_seen) rfl rfl (hg_is_seen c)
theorem D_look_at_seen (X : K.In h) (G : h.Ns mainGlobals mg) (c : SaysM fa fn ex K) : Df K mg "look_at_seen" s_look_at_seen := df_of X G c 23 (d := d_look_at_seen) rfl rfl (hg_look_at_seen c)
theorem D_seen_of (X : K.In h) (G : h.Ns mainGlobals mg) (c : SaysM fa fn ex K) : Df K mg "seen_of" s_seen_of := df_of X G c 24 (d := d_seen_of) rfl rfl (hg_seen_of c)
theorem D_whole_seen (X : K.In h) (G : h.Ns mainGlobals mg) (c : SaysM fa fn ex K) : Df K mg "whole_seen" s_whole_seen := df_of X G c 25 (d := d_whole_seen) rfl rfl (hg_whole_seen c)
theorem D_has_heads (X : K.In h) (G : h.Ns mainGlobals mg) (c : SaysM fa fn ex K) : Df K mg "has_heads" s_has_heads := df_of X G c 26 (d := d_has_heads) rfl rfl (hg_has_heads c)
theorem D_fits (X : K.In h) (G : h.Ns mainGlobals mg) (c : SaysM fa fn ex K) : Df K mg "fits" s_fits := df_of X G c 27 (d := d_fits) rfl rfl (hg_fits c)
theorem D__law_hand (X : K.In h) (G : h.Ns mainGlobals mg) (c : SaysM fa fn ex K) : Df K mg "_law_hand" s__law_hand := df_of X G c 28 (d := d__law_hand) rfl rfl (hg__law_hand c)
theorem D__law_draw (X : K.In h) (G : h.Ns mainGlobals mg) (c : SaysM fa fn ex K) : Df K mg "_law_draw" s__law_draw := df_of X G c 29 (d := d__law_draw) rfl rfl (hg__law_draw c)
theorem D__law_word (X : K.In h) (G : h.Ns mainGlobals mg) (c : SaysM fa fn ex K) : Df K mg "_law_word" s__law_word := df_of X G c 30 (d := d__law_word) rfl rfl (hg__law_word c)
theorem D__law_leaf (X : K.In h) (G : h.Ns mainGlobals mg) (c : SaysM fa fn ex K) : Df K mg "_law_leaf" s__law_leaf := df_of X G c 31 (d := d__law_leaf) rfl rfl (hg__law_leaf c)
theorem D__law_value (X : K.In h) (G : h.Ns mainGlobals mg) (c : SaysM fa fn ex K) : Df K mg "_law_value" s__law_value := df_of X G c 32 (d := d__law_value) rfl rfl (hg__law_value c)
theorem D__law_built (X : K.In h) (G : h.Ns mainGlobals mg) (c : SaysM fa fn ex K) : Df K mg "_law_built" s__law_built := df_of X G c 33 (d := d__law_built) rfl rfl (hg__law_built c)
theorem D__law_part_right (X : K.In h) (G : h.Ns mainGlobals mg) (c : SaysM fa fn ex K) : Df K mg "_law_part_right" s__law_part_right := df_of X G c 34 (d := d__law_part_right) rfl rfl (hg__law_part_right c)
theorem D_law (X : K.In h) (G : h.Ns mainGlobals mg) (c : SaysM fa fn ex K) : Df K mg "law" s_law := df_of X G c 35 (d := d_law) rfl rfl (hg_law c)
theorem facts {f : Addr} (X : K.In h) (G : h.Ns mainGlobals mg) (hfa : mg ("law" : Str) = some (.ref f)) (c : SaysM fa fn ex K) :
    ∃ fd : FuncData, (∀ (s : Shared) (v : Value), BindsTo s fd ⟨[v], []⟩ [("_law_script", v)]) ∧ ∀ base : Heap, K.In base → base.Ns mainGlobals mg → (∃ mm, base.Ns sysModules mm) → FnG P w K mg base CX0 65 f fd ["_law_script"] (spLaw K) := by
  have gi : ∀ {x : Str} {i : Int}, (He.Fa.int x i).ok K = true → ∃ u, mg x = some u ∧ RelV (.int i) u := fun c => by
    obtain ⟨t, e⟩ := He.int_ok X G c
    exact ⟨_, e, t, rfl⟩
  have gs : ∀ {x z : Str}, (He.Fa.str x z).ok K = true → ∃ u, mg x = some u ∧ RelV (.str z) u := fun c => by
    obtain ⟨t, e⟩ := He.str_ok X G c
    exact ⟨_, e, t, rfl⟩
  have T : Txt K mg := ⟨He.free_ok X G (hf_len c), He.free_ok X G (hf_range c), He.free_ok X G (hf_isinstance c), He.free_ok X G (hf_int c), He.free_ok X G (hf_str c), He.free_ok X G (hf_bool c), He.free_ok X G (hf_list c), He.free_ok X G (hf_dict c), He.free_ok X G (hf_tuple c), He.free_ok X G (hf_all c), He.free_ok X G (hf_enumerate c), He.free_ok X G (hf_max c), He.free_ok X G (hf_min c), He.free_ok X G (hf_sum c), He.free_ok X G (hf_sorted c), He.free_ok X G (hf_repr c),
    gs (hs_LETTERS c), gi (hi_GREATEST c), gi (hi_LONGEST_TEXT c), gi (hi_LONGEST_NAME c), gi (hi_MOST_FIELDS c), gi (hi_MOST_PLACES c)⟩
  obtain ⟨mI, m⟩ := He.ba c.more
  obtain ⟨mP, m⟩ := He.ba m
  obtain ⟨mS, mL⟩ := He.ba m
  obtain ⟨i1, mI⟩ := He.ba mI
  obtain ⟨i2, mI⟩ := He.ba mI
  obtain ⟨i3, i4⟩ := He.ba mI
  obtain ⟨p1, mP⟩ := He.ba mP
  obtain ⟨p2, mP⟩ := He.ba mP
  obtain ⟨p3, p4⟩ := He.ba mP
  obtain ⟨s1, mS⟩ := He.ba mS
  obtain ⟨s2, mS⟩ := He.ba mS
  obtain ⟨s3, s4⟩ := He.ba mS
  obtain ⟨l1, mL⟩ := He.ba mL
  obtain ⟨l2, mL⟩ := He.ba mL
  obtain ⟨l3, l4⟩ := He.ba mL
  have noI : PySem.W.findIn K (.ref (He.ga K "InvalidValue")) "value" = some none := He.noat_ok (hm_0 c)
  have noP : PySem.W.findIn K (.ref (He.ga K "InvalidPlace")) "place" = some none := He.noat_ok (hm_1 c)
  have noS : PySem.W.findIn K (.ref (He.ga K "InvalidSeen")) "thing" = some none := He.noat_ok (hm_2 c)
  have noL : PySem.W.findIn K (.ref (He.ga K "InvalidLooks")) "number" = some none := He.noat_ok (hm_3 c)
  obtain ⟨fdU, FU⟩ := c.d.def_ 36 (d := d_InvalidValue___init__) rfl
  obtain ⟨fdV, FV⟩ := c.d.def_ 37 (d := d_InvalidPlace___init__) rfl
  obtain ⟨fdW, FW⟩ := c.d.def_ 38 (d := d_InvalidSeen___init__) rfl
  obtain ⟨fdY, FY⟩ := c.d.def_ 39 (d := d_InvalidLooks___init__) rfl
  have bU : Binds K fdU ["self", "value"] [] := FU.bindsN bi_InvalidValue___init__
  have bV : Binds K fdV ["self", "place"] [] := FV.bindsN bi_InvalidPlace___init__
  have bW : Binds K fdW ["self", "thing"] [] := FW.bindsN bi_InvalidSeen___init__
  have bY : Binds K fdY ["self", "number"] [] := FY.bindsN bi_InvalidLooks___init__
  obtain ⟨fL, fdL, FL, gL⟩ := (D_law X G c).ex
  have e := hfa.symm.trans gL
  cases e
  refine ⟨fdL, fun s v => FunD.bindsA (ps := ["_law_script"]) FL bi_law s [v] rfl, fun base _ _ sy => ?_⟩
  have cDraw : Cal P w K mg base CX0 1 "_law_draw" spDraw := ok_draw (D__law_draw X G c) T
  have cHand : Cal P w K mg base CX0 1 "_law_hand" (spHand K) := ok_hand (D__law_hand X G c) T
  have cInt : Cal P w K mg base CX0 1 "is_integer" spIsInt := ok_isint (D_is_integer X G c) T
  have cLets : Cal P w K mg base CX0 1 "is_letters" spLets := ok_lets (D_is_letters X G c) T
  have cField : Cal P w K mg base CX0 2 "is_field" spField := ok_field (D_is_field X G c) T cLets
  have cLeafQ : Cal P w K mg base CX0 2 "is_leaf" spIsLeaf := ok_isleaf (D_is_leaf X G c) T cInt cLets
  have cPart : Cal P w K mg base CX0 3 "is_part" spPart := ok_part (D_is_part X G c) T cLeafQ cField
  have cKids : Cal P w K mg base CX0 1 "children" spKids := ok_kids (D_children X G c) T
  have cIsV : Cal P w K mg base CX0 4 "is_value" spIsVal := ok_isval (D_is_value X G c) T cPart cKids
  have xU : XMk P w K mg base 1 "InvalidValue" (He.ga K "InvalidValue") "value" := ⟨⟨He.glo_ok X G (hg_InvalidValue c), oexB_ok i1, excB_ok i2⟩, ⟨_, fdU, _, He.eqO_ok i3, of_decide_eq_true i4, ok_iinit FU (oexB_ok i1) noI, bU⟩, noI⟩
  have xP : XMk P w K mg base 1 "InvalidPlace" (He.ga K "InvalidPlace") "place" := ⟨⟨He.glo_ok X G (hg_InvalidPlace c), oexB_ok p1, excB_ok p2⟩, ⟨_, fdV, _, He.eqO_ok p3, of_decide_eq_true p4, ok_pinit FV (oexB_ok p1) noP, bV⟩, noP⟩
  have xS : XMk P w K mg base 1 "InvalidSeen" (He.ga K "InvalidSeen") "thing" := ⟨⟨He.glo_ok X G (hg_InvalidSeen c), oexB_ok s1, excB_ok s2⟩, ⟨_, fdW, _, He.eqO_ok s3, of_decide_eq_true s4, ok_sinit FW (oexB_ok s1) noS, bW⟩, noS⟩
  have xL : XMk P w K mg base 1 "InvalidLooks" (He.ga K "InvalidLooks") "number" := ⟨⟨He.glo_ok X G (hg_InvalidLooks c), oexB_ok l1, excB_ok l2⟩, ⟨_, fdY, _, He.eqO_ok l3, of_decide_eq_true l4, ok_linit FY (oexB_ok l1) noL, bY⟩, noL⟩
  have cCheck := ok_checkv (P := P) (w := w) (base := base) (D_check_value X G c) T cIsV xU
  have cCount := ok_count (P := P) (w := w) (base := base) (D_count X G c) T cKids 60
  have cSize := ok_size (P := P) (w := w) (base := base) (D_size X G c) T cCheck cCount
  have cCopy := ok_copy (P := P) (w := w) (base := base) (D_copy_of X G c) T 60
  have cPB := ok_pbelow (P := P) (w := w) (base := base) (D_places_below X G c) T cKids 60
  have cPl := ok_places (P := P) (w := w) (base := base) (D_places X G c) T cCheck cPB
  have cHS := ok_hasStep (P := P) (w := w) (base := base) (D_has_step X G c) T cInt
  have cHP := ok_hasPlace (P := P) (w := w) (base := base) (D_has_place X G c) T cHS
  have cPA := ok_partAt (P := P) (w := w) (base := base) (D_part_at X G c) T
  have cAt := ok_at (P := P) (w := w) (base := base) (D_at X G c) T cCheck cHP cPA cCopy xP
  have cHO := ok_headOf (P := P) (w := w) (base := base) (D_head_of X G c) T cKids
  have cAF := ok_areF (P := P) (w := w) (base := base) (D_are_fields X G c) T cField
  have cIH := ok_isHead (P := P) (w := w) (base := base) (D_is_head X G c) T (gi (hi_LONGEST_LIST c)) cInt cLeafQ cAF
  have cSS := ok_shows (P := P) (w := w) (base := base) (D_shows_step X G c) T cInt
  have cIP := ok_isPlace (P := P) (w := w) (base := base) (D_is_place X G c) T cInt
  have cIS := ok_isSeen (P := P) (w := w) (base := base) (D_is_seen X G c) T cIP cIH cSS
  have cLS := ok_look (P := P) (w := w) (base := base) (D_look_at_seen X G c) T cIS xS
  have cHH := ok_hasH (P := P) (w := w) (base := base) (D_has_heads X G c) T cHP cPA cHO
  have cFits := ok_fits (P := P) (w := w) (base := base) (D_fits X G c) T cLS cCheck cHH
  have cWhole := ok_whole (P := P) (w := w) (base := base) (D_whole_seen X G c) T cCheck cPB cPA cHO
  have cSeen := ok_seenG (P := P) (w := w) (base := base) (D_seen_of X G c) T cCheck cHP cPA cHO xL
  have cWord := ok_word (P := P) (w := w) (base := base) (D__law_word X G c) T cDraw
  have cLeaf := ok_leafv (P := P) (w := w) (base := base) (D__law_leaf X G c) T cDraw cWord
  have cValue := ok_value (P := P) (w := w) (base := base) (D__law_value X G c) T cDraw cWord cLeaf 7
  have cBuilt := ok_built (P := P) (w := w) (base := base) (D__law_built X G c) T 60
  have cPR := ok_partR (P := P) (w := w) (base := base) (D__law_part_right X G c) T cAt cPl cSize cWhole
  exact ok_law FL T sy cHand cDraw cValue cBuilt cPR cIS cWhole cPl cSize cFits cSeen
end

end VL
open PySem PySem.W PySem.Calls PyProof.Rows
set_option maxRecDepth 100000 in
set_option maxHeartbeats 0 in
theorem PySem.Challenge.cw_latechecks_k06_whole_values_from_heads_holds : PySem.Challenge.rw_latechecks_k06_whole_values_from_heads.Holds := by
  w_on; o_law
  refine HandSHeadRun.head_any (r := OpenLaw.row PySem.Challenge.rw_latechecks_k06_whole_values_from_heads) (q := view (OpenLaw.row PySem.Challenge.rw_latechecks_k06_whole_values_from_heads).prog [55]) (H := VL.hk) (ob := VL.ob) (M := 6000) (loose := VL.loose) (d := HandSHeadRun.topDef (OpenLaw.row PySem.Challenge.rw_latechecks_k06_whole_values_from_heads).prog 55) (kwd := []) VL.ob_eq
    (by kernel_rfl) (fun s => by kernel_rfl) VL.run (by kernel_rfl) (by kernel_rfl) (by kernel_rfl) (by rfl) (by first | assumption | decide +kernel) (by decide +kernel) ⟨rfl, rfl, rfl, rfl, rfl, by decide +kernel⟩ ?hw ?hc
  case hw => w_witness2
  case hc =>
    refine LW.walkG (l := PySem.Challenge.rw_latechecks_k06_whole_values_from_heads) (n := 63) (k := 65) (x := "_law_script") (CX := L2.CX0) rfl (by decide) (by kernel_rfl) ⟨rfl, by decide, by decide⟩ (by kernel_rfl) ?F (fun _ _ _ _ z => z)
    intro w mg fa h Y G hmg0
    obtain ⟨K, KX, c⟩ := Y
    have hmg : mg ("law" : PySem.Str) = some (.ref fa) := by
      have e : (HandSHeadRun.topDef (OpenLaw.row PySem.Challenge.rw_latechecks_k06_whole_values_from_heads).prog 55).name = ("law" : PySem.Str) := by kernel_rfl
      rw [← e]
      exact hmg0
    obtain ⟨fd, hb, hF⟩ := VL.facts (P := (PySem.Challenge.rw_latechecks_k06_whole_values_from_heads).prog) (w := w) KX G hmg c
    exact ⟨K, fd, VL.spLaw K, KX, hb, fun H a ns hl _ hS => ⟨a, ns, rfl, hS, hl, fun _ => rfl⟩, hF⟩
#print axioms PySem.Challenge.cw_latechecks_k06_whole_values_from_heads_holds
