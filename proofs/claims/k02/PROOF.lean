import PyProof.Rows.All
import Wide.All
import OpenK.AllK
import Wide.FinOn
import KE.KStateDown
import HandS.ForMost
import HandS.ForExc
import HandS.Defaults
import HandS.Head0
import HandS.Head1
import HandS.Head2
import HandS.HeadEnd
import HandS.HeadHook1
import HandS.HeadHook2
import HandS.ExcInit
import HandS.ExcField
import HandS.ExcIs
import HandS.IsInst
import HandS.Evl
import HandS.Wide
import HandS.Walk
import KE.KExcIs
import HandS.More
import PyProof.ReprRoads
import HandS.RaiseMore
import HandS.NoneIn
import PyProof.DictTruth
import KE.KDictDisplayH
import HandS.Small
import HandS.DeepEq
import HandS.Deep
import HandS.TupLe
import PyProof.NeKinds
import PyProof.ReprBulk
import HandS.TupAny
import PyProof.StrBlock2
import HandS.DictComp
import PySem.Challenge.RW_latechecks_k02_places_and_parts
set_option Elab.async false
set_option linter.all false
set_option maxRecDepth 100000
set_option maxHeartbeats 8000000
namespace LW
open PySem PySem.Spec PyProof.Rows L2
/-! ### the head's Hook: facts, defs, one more Bool -/
abbrev AlM : Type := He.AlD × Bool
def obsM (n : Nat) (fa : List He.Fa) (fn : List He.DefD) (ex : PySem.W.Frag → Bool) (g : Addr → Option Obj) : AlM := (He.obsD fa fn (He.frG g (He.asD g n)), ex (He.frG g (He.asD g n)))
structure SaysM (fa : List He.Fa) (fn : List He.DefD) (ex : PySem.W.Frag → Bool) (K : PySem.W.Frag) : Prop where
  d : He.SaysD fa fn K
  more : ex K = true
def hookM (n : Nat) (fa : List He.Fa) (fn : List He.DefD) (ex : PySem.W.Frag → Bool) : PySem.W.Hook where
  α := AlM
  obs := fun s => obsM n fa fn ex s.heap.get?
  val := fun _ => (He.valD fn, true)
  says := fun _ h => ∃ K : PySem.W.Frag, K.In h ∧ SaysM fa fn ex K
  of := fun _ _ e => ⟨_, He.frG_in, ⟨congrArg (fun z : AlM => z.1) e, congrArg (fun z : AlM => z.2) e⟩⟩
  keeps := fun _ _ _ ⟨K, hK, c⟩ k => ⟨K, PySem.W.Frag.In.keeps hK k, c⟩
theorem obsM_eq {n : Nat} {fa : List He.Fa} {fn : List He.DefD} {ex : PySem.W.Frag → Bool} {g : Addr → Option Obj} {s : Shared} (h : ∀ a, g a = s.heap.get? a) : obsM n fa fn ex g = (hookM n fa fn ex).obs s := by
  have e : g = s.heap.get? := funext h
  rw [e] <;> rfl
theorem SaysM.fact {fa : List He.Fa} {fn : List He.DefD} {ex : PySem.W.Frag → Bool} {K : PySem.W.Frag} (c : SaysM fa fn ex K) {f : He.Fa} (h : f ∈ fa) : f.ok K = true := by
  have c1 := (He.ba (show ((fa.all fun f => f.ok K) && fn.all fun d => d.ok K) = true from congrArg (fun z : He.AlD => z.1) c.d)).1
  exact List.all_eq_true.mp c1 f h
end LW

namespace LW
open PySem PySem.Spec PyProof.Rows L2
open Evl (Ex)
/-! ### heaps that grow -/
theorem new_ {H : Hp} {o : HO} {Q : VK} (k : ∀ p H1, H p = none → Ex H H1 → H1 p = some o → Q (.ref p) H1) : ∀ p, H p = none → Q (.ref p) (upd H p o) := fun p h => k p _ h (Ex.new h) upd_same
theorem newH {H : Hp} {p : Addr} (o : HO) (np : H p = none) : ∃ H1, upd H p o = H1 ∧ Ex H H1 ∧ H1 p = some o := ⟨_, rfl, Ex.new np, upd_same⟩
theorem ex_free {H H' : Hp} {p : Addr} (e : Ex H H') (h : H' p = none) : H p = none := Evl.fresh_back e h
theorem upd_back {H : Hp} {p : Addr} {o x : HO} (h : H p = some o) : upd (upd H p x) p o = H := by
  funext b
  by_cases hb : b = p
  · rw [hb, upd_same, h]
  · rw [upd_ne hb, upd_ne hb]
/-- small sizes -/
theorem szl {n : Nat} (h : n ≤ 100000) : n ≤ sizeLine := Nat.le_trans h (by decide)
theorem szlt {n : Nat} (h : n < 100000) : n < sizeLine := Nat.lt_of_lt_of_le h (by decide)

/-! ### a heap without one address -/
theorem ex_del {H : Hp} {p : Addr} : Ex (del H p) H := fun a o h => by
  by_cases e : a = p
  · rw [e, del_same] at h
    cases h
  · rw [del_ne e] at h
    exact h
theorem ex_of_del {H H' : Hp} {p : Addr} (e : Ex H H') (h : H p = none) : Ex H (del H' p) := fun a o q => by
  rw [del_ne (ne_of_none q h)]
  exact e a o q
theorem del_grow {H H1 : Hp} {p : Addr} {o : HO} (e : Ex H H1) : Ex (del H p) (del (upd H1 p o) p) := fun a u q => by
  by_cases ea : a = p
  · rw [ea, del_same] at q
    cases q
  · rw [del_ne ea] at q ⊢
    rw [upd_ne ea]
    exact e a u q
theorem del_grow' {H H1 : Hp} {p : Addr} (e : Ex H H1) : Ex (del H p) (del H1 p) := fun a u q => by
  by_cases ea : a = p
  · rw [ea, del_same] at q
    cases q
  · rw [del_ne ea] at q ⊢
    exact e a u q
theorem del_get {H : Hp} {p a : Addr} {o : HO} (h : H a = some o) (ne : a ≠ p) : del H p a = some o := by
  rw [del_ne ne]
  exact h
theorem up_ne {H : Hp} {p a : Addr} {o x : HO} (h : H a = some o) (ne : a ≠ p) : upd H p x a = some o := by
  rw [upd_ne ne]
  exact h
/-- the heap behind a change of an object that the entry does not know -/
theorem ex_mut {H H' : Hp} {p : Addr} {o : HO} (e : Ex H H') (h : H p = none) : Ex H (upd H' p o) := Ex.mut e h

/-! ### what is new since a heap -/
def fr (H H' : Hp) : Hp := fun b => match H b with
  | none => H' b
  | some _ => none
/-- what is tracked stays tracked -/
def Dm (H H' : Hp) : Prop := ∀ b, H' b = none → H b = none
theorem Dm.refl (H : Hp) : Dm H H := fun _ h => h
theorem Dm.trans {H H1 H2 : Hp} (a : Dm H H1) (b : Dm H1 H2) : Dm H H2 := fun c h => a c (b c h)
theorem dm_ex {H H' : Hp} (e : Ex H H') : Dm H H' := fun _ h => ex_free e h
theorem dm_upd {H H' : Hp} {p : Addr} {o : HO} (d : Dm H H') : Dm H (upd H' p o) := fun b h => by
  by_cases e : b = p
  · rw [e, upd_same] at h
    cases h
  · rw [upd_ne e] at h
    exact d b h
theorem fr_get {H H' : Hp} {a : Addr} {o : HO} (n : H a = none) (h : H' a = some o) : fr H H' a = some o := by
  unfold fr
  rw [n]
  exact h
theorem fr_some {H H' : Hp} {a : Addr} {o : HO} (h : fr H H' a = some o) : H a = none ∧ H' a = some o := by
  unfold fr at h
  cases e : H a with
  | none =>
    rw [e] at h
    exact ⟨rfl, h⟩
  | some u =>
    rw [e] at h
    cases h
theorem fr_sub {H H' : Hp} : Ex (fr H H') H' := fun _ _ h => (fr_some h).2
theorem fr_mono {H H' H'' : Hp} (e : Ex H' H'') : Ex (fr H H') (fr H H'') := fun _ _ h => fr_get (fr_some h).1 (e _ _ (fr_some h).2)
theorem fr_base {H0 H H' : Hp} (d : Dm H0 H) : Ex (fr H H') (fr H0 H') := fun _ _ h => fr_get (d _ (fr_some h).1) (fr_some h).2
theorem fr_upd {H H' : Hp} {p : Addr} {o u : HO} (h : H p = some u) : Ex (fr H H') (fr H (upd H' p o)) := fun a v q => by
  obtain ⟨n, q⟩ := fr_some q
  refine fr_get n ?_
  rw [upd_ne (fun e => by rw [e, h] at n; cases n)]
  exact q
theorem fr_all {H H' : Hp} (e : Ex H H') {a : Addr} {o : HO} (h : H' a = some o) (ne : H a = none) : fr H H' a = some o := fr_get ne h
theorem fr_del {H H' : Hp} {p : Addr} {u : HO} (h : H p = some u) : Ex (fr H H') (del H' p) := fun a v q => by
  obtain ⟨n, q⟩ := fr_some q
  exact del_get q (fun e => by rw [e, h] at n; cases n)

/-! ### what an object is told to be may change while it stands -/
section
variable {X : Cx} {pins : List (Addr × Obj)} {σ : L2.St} {H : Hp} {s : Shared} {p : Addr} {o : HO}
theorem inv_recast (I : L2.Inv X pins σ H s) (mu : Mut (H p)) (ob : ObjOk X.prog X.w (upd H p o) s.heap p o) : L2.Inv X pins σ (upd H p o) s := by
  have hex : ∃ u, s.heap.get? p = some u := by
    cases e : H p with
    | none => rw [e] at mu; exact mu.elim
    | some u =>
      have x := I.hok p u e
      cases u with
      | lst xs => obtain ⟨_, _, _, _, e⟩ := x; exact ⟨_, e⟩
      | dK kvs => obtain ⟨_, _, _, _, o, _, _, e, _⟩ := x; exact ⟨_, e⟩
      | dT kvs => obtain ⟨_, _, _, _, o, _, _, e, _⟩ := x; exact ⟨_, e⟩
      | set S n => obtain ⟨o, _, _, _, e, _⟩ := x; exact ⟨_, e⟩
      | ins C dx fs => obtain ⟨_, _, _, e, _⟩ := x; exact ⟨_, e⟩
      | ext φ => obtain ⟨_, ⟨o, e⟩, _⟩ := x; exact ⟨_, e⟩
      | _ => rw [e] at mu; exact mu.elim
  exact I.write (t' := s.toks) (x := p) (e := p) (o := o) mu (.inl rfl) (fun b u _ h => h) hex ob
end

/-! ### the pool of draws: a list of two ints, told by its bounds alone -/
def poolO (p : Addr) : HO := .ext fun h => ∃ (a b : Int) (ta tb : Tok) (n : Nat), 0 ≤ a ∧ 0 ≤ b ∧ b < 2147483647 ∧ h.get? p = some { cls := .type "list", data := .seq #[.int a ta, .int b tb] n }
def Pool (H : Hp) (p : Addr) : Prop := H p = some (poolO p)
theorem Pool.ex {H H' : Hp} {p : Addr} (h : Pool H p) (e : Ex H H') : Pool H' p := e _ _ h
section
variable {P : Program} {w : World} {H H' : Hp} {h : Heap} {p : Addr}
theorem pool_open (x : HOk P w H h) (hp : Pool H p) : ∃ a b : Int, 0 ≤ a ∧ 0 ≤ b ∧ b < 2147483647 ∧ ObjOk P w H' h p (.lst [.int a, .int b]) := by
  have q : ObjOk P w H h p (.ext fun h => ∃ (a b : Int) (ta tb : Tok) (n : Nat), 0 ≤ a ∧ 0 ≤ b ∧ b < 2147483647 ∧ h.get? p = some { cls := .type "list", data := .seq #[.int a ta, .int b tb] n }) := x p _ hp
  obtain ⟨⟨a, b, ta, tb, n, h0, h1, h2, e⟩, _, _⟩ := q
  exact ⟨a, b, h0, h1, h2, szl (by show 2 ≤ 100000; decide), [.int a ta, .int b tb], n, .cons ⟨ta, rfl⟩ (.cons ⟨tb, rfl⟩ .nil), e⟩
theorem pool_shut {a b : Int} (x : ObjOk P w H h p (.lst [.int a, .int b])) (h0 : 0 ≤ a) (h1 : 0 ≤ b) (h2 : b < 2147483647) : ObjOk P w H' h p (poolO p) := by
  obtain ⟨_, its, n, r, e⟩ := x
  cases r with
  | cons r1 r =>
    cases r with
    | cons r2 r =>
      cases r
      obtain ⟨ta, rfl⟩ := r1
      obtain ⟨tb, rfl⟩ := r2
      exact ⟨⟨a, b, ta, tb, n, h0, h1, h2, e⟩, ⟨_, e⟩, fun g1 g2 z k => by
        obtain ⟨a, b, ta, tb, n, q0, q1, q2, q⟩ := z
        exact ⟨a, b, ta, tb, n, q0, q1, q2, k _ q⟩⟩
end
/-- a body in which the pool is looked into and put back at a return -/
def tFocus (t : TS) : TS := fun D σ H => ∃ p, Pool H p ∧ ∀ a b : Int, 0 ≤ a → 0 ≤ b → b < 2147483647 →
  t { nx := fun _ _ => False, rt := fun v H' => ∃ a' b' : Int, H' p = some (.lst [.int a', .int b']) ∧ 0 ≤ a' ∧ 0 ≤ b' ∧ b' < 2147483647 ∧ D.rt v (upd H' p (poolO p)) } σ (upd H p (.lst [.int a, .int b]))
/-- return of a new pool -/
def tRetPool (te : TE) : TS := fun D σ H => te σ H fun v H' => ∃ (p : Addr) (a b : Int), v = .ref p ∧ H' p = some (.lst [.int a, .int b]) ∧ 0 ≤ a ∧ 0 ≤ b ∧ b < 2147483647 ∧ D.rt v (upd H' p (poolO p))
section
variable {X : Cx}
theorem pss_focus {body : List Stmt} {t : TS} (h : PSs X body t) : PSs X body (tFocus t) := by
  refine ⟨fun pins s σ H D I ht => ?_⟩
  obtain ⟨p, hp, k⟩ := ht
  obtain ⟨a, b, h0, h1, h2, ob⟩ : ∃ a b : Int, 0 ≤ a ∧ 0 ≤ b ∧ b < 2147483647 ∧ ObjOk X.prog X.w (upd H p (.lst [.int a, .int b])) s.heap p (.lst [.int a, .int b]) := by
    obtain ⟨a, b, h0, h1, h2, ob⟩ := pool_open (H' := H) I.hok hp
    exact ⟨a, b, h0, h1, h2, ob⟩
  have mu : Mut (H p) := by
    rw [show H p = some (poolO p) from hp]
    exact True.intro
  have J := inv_recast I mu ob
  refine thn (h.run pins s σ _ _ J (k a b h0 h1 h2)) fun f s' q => ?_
  cases f with
  | ret u =>
    obtain ⟨v, σ', H', I', r, a', b', e, g0, g1, g2, hD⟩ := q
    have mu' : Mut (H' p) := by
      rw [e]
      exact True.intro
    exact ⟨v, σ', _, inv_recast I' mu' (pool_shut (I'.hok p _ e) g0 g1 g2), r, hD⟩
  | next =>
    obtain ⟨_, _, _, q⟩ := q
    exact q.elim
  | brk =>
    obtain ⟨_, _, _, q⟩ := q
    exact q.elim
  | cont =>
    obtain ⟨_, _, _, q⟩ := q
    exact q.elim
theorem ps_retPool {e : Expr} {te : TE} {pos : Pos} (he : PE X e te) : PS X (.Return (some e) pos) (tRetPool te) := by
  refine ⟨fun pins s σ H D I h => ?_⟩
  refine wpAny_Return_some (thn (he.run pins s σ H _ I h) fun v s1 ⟨x, H1, I1, r1, p, a, b, ev, e, g0, g1, g2, hD⟩ => ?_)
  have mu' : Mut (H1 p) := by
    rw [e]
    exact True.intro
  exact ⟨x, σ, _, inv_recast I1 mu' (pool_shut (I1.hok p _ e) g0 g1 g2), r1, hD⟩
end

/-! ### the rules that speak of the written part, K told (for comprehensions) -/
section
variable {X : Cx}
theorem ixl (K : PySem.W.Frag) (h : X.K = K := by rfl) : IxR X (rIxL K) := by
  subst h
  exact ix_list
theorem ixt (K : PySem.W.Frag) (h : X.K = K := by rfl) : IxR X (rIxT K) := by
  subst h
  exact ix_tup
theorem inq (K : PySem.W.Frag) (h : X.K = K := by rfl) : OpR X (compareOp .In) (rIn K false) := by
  subst h
  exact op_in_seq
theorem ninq (K : PySem.W.Frag) (h : X.K = K := by rfl) : OpR X (compareOp .NotIn) (rIn K true) := by
  subst h
  exact op_notIn_seq
def rLn (K : PySem.W.Frag) : List V → Hp → VK → Prop := fun xs H Q => ∃ x n, xs = [x] ∧ LenV K x H n ∧ Q (.int n) H
theorem lnK (K : PySem.W.Frag) (h : X.K = K := by rfl) : CallR X (.builtin "len") (rLn K) := by
  subst h
  exact call_len
theorem isiK (K : PySem.W.Frag) (h : X.K = K := by rfl) : CallR X (.builtin "isinstance") (rIsi K) := by
  subst h
  exact call_isi
theorem isiTK (K : PySem.W.Frag) (h : X.K = K := by rfl) : CallR X (.builtin "isinstance") (rIsiT K) := by
  subst h
  exact call_isiT
def rLof (K : PySem.W.Frag) : List V → Hp → VK → Prop := fun xs H Q => ∃ p ys, xs = [.ref p] ∧ (SqL K H p ys ∨ SqT K H p ys) ∧ ∀ l, H l = none → Q (.ref l) (upd H l (.lst ys))
theorem lofK (K : PySem.W.Frag) (h : X.K = K := by rfl) : CallR X (.type "list") (rLof K) := by
  subst h
  exact call_list_of
theorem allK (K : PySem.W.Frag) (hc : X.calm = true) (h : X.K = K := by rfl) : CallR X (.builtin "all") (rAll K) := by
  subst h
  exact cr_all hc
theorem pgt {pos : Pos} {es : List Expr} {k : Nat} {t : TGs} {n : Nat} (K : PySem.W.Frag) (hc : X.calm = true) (h : PGs X es t) (e : X.K = K := by rfl)
    (hn : (assignEach es X.env).length = n := by rfl) (hst : (assignEach es X.env).findIdx? (·.1) = none := by rfl) : PG X (.Tuple es k pos) (gTup K n t) := by
  subst e
  exact pg_tup hc h hn hst
theorem pfl {e : Expr} {ta : TE} {f : Str} {pos : Pos} (K : PySem.W.Frag) (he : PE X e ta) (hb : attributeBase e f X.env (eval e X.env) = eval e X.env) (h : X.K = K := by rfl) : PE X (.Attribute e f pos) (tFld K ta f) := by
  subst h
  exact pe_fld he hb
theorem pil {tg l : Expr} {tl : TE} (K : PySem.W.Frag) (hl : PE X l tl) (h : X.K = K := by rfl) : PI X tg l (iList K tl) := by
  subst h
  exact pi_list hl
theorem pit {tg l : Expr} {tl : TE} (K : PySem.W.Frag) (hl : PE X l tl) (h : X.K = K := by rfl) : PI X tg l (iTup K tl) := by
  subst h
  exact pi_tup hl
theorem eqDK (K : PySem.W.Frag) (hu : X.A.units + 64 < cLine) (h : X.K = K := by rfl) : OpR X (compareOp .Eq) (rEqD K) := by
  subst h
  exact op_eqD hu
theorem neDK (K : PySem.W.Frag) (hu : X.A.units + 64 < cLine) (h : X.K = K := by rfl) : OpR X (compareOp .NotEq) (rNeD K) := by
  subst h
  exact op_neD hu
theorem slK (K : PySem.W.Frag) (h : X.K = K := by rfl) : SlR X (rSlL K) := by
  subst h
  exact sl_list
theorem units65 {A : Around} {k : Nat} (hr : Room k A) : A.units + 65 < cLine := by
  have := hr.un
  omega
end
/-! ### defs by name -/
structure Cal (P : Program) (w : World) (K : PySem.W.Frag) (mg : Str → Option Value) (base : Heap) (CX : CXT) (k : Nat) (x : Str) (sp : Sp) : Prop where
  ex : ∃ (f : Addr) (fd : FuncData) (ps : List Str), FnOk P w K mg base CX k f fd ps sp ∧ mg x = some (.ref f) ∧ PySem.W.keepIn K (.ref f) = true ∧ Binds K fd ps []
abbrev FnP (K : PySem.W.Frag) (x : Str) (st : Stmt) (f : Addr) (fd : FuncData) : Prop := FunD K x x (defArgs st) (defBody st) (defScope st) [] [] f fd
/-- a def of the module -/
structure Df (K : PySem.W.Frag) (mg : Str → Option Value) (x : Str) (st : Stmt) : Prop where
  ex : ∃ (f : Addr) (fd : FuncData), FnP K x st f fd ∧ mg x = some (.ref f)
def BindsEq (x : Str) (st : Stmt) (ps : List Str) : Prop := ∀ (kV doc pm : Value) (an : Option Addr) (cdv ct : Value) (us : List Value), us.length = ps.length →
  bindArgs (PySem.W.fnOf x x (defArgs st) (defBody st) (defScope st) .none kV doc pm an cdv ct) ⟨us, []⟩ = pure (ps.zip us)
section
variable {P : Program} {w : World} {K : PySem.W.Frag} {mg : Str → Option Value} {base : Heap}
theorem cal0 {x : Str} {st : Stmt} {N ps : List Str} {k : Nat} {sp : Sp} (F : Df K mg x st) (S : FnScope N ps (defScope st)) (hb : BindsEq x st ps) (len : ∀ vs H Q E, sp vs H Q E → vs.length = ps.length)
    (hbody : ∀ (f : Addr) (cdv : Value) (A : Around) (outer : List Env) (s : Shared) (H : Hp) (vs : List V) (Q : VK) (E : XK), Room k (A.deeper (envOfC x (defScope st) s.heap.objs.size f cdv)) → sp vs H Q E →
      ∃ t, PSs (cxOf CX0 P w K mg base N x (defScope st) f cdv A outer s H E).nox (defBody st) t ∧ t { nx := fun _ H' => Q .non H', rt := Q } (start N vs) H) : Cal P w K mg base CX0 (k + 1) x sp := by
  obtain ⟨f, fd, F, hm⟩ := F.ex
  exact ⟨f, fd, ps, F.ok S len (fun cdv A outer s H vs Q E hr h => by
    obtain ⟨t, h1, h2⟩ := hbody f cdv A outer s H vs Q E hr h
    exact ⟨t, h1.nox, h2⟩), hm, F.kp, F.bindsN hb⟩
theorem calX {x : Str} {st : Stmt} {N ps : List Str} {k : Nat} {sp : Sp} (F : Df K mg x st) (S : FnScope N ps (defScope st)) (hb : BindsEq x st ps) (len : ∀ vs H Q E, sp vs H Q E → vs.length = ps.length)
    (hbody : ∀ (f : Addr) (cdv : Value) (A : Around) (outer : List Env) (s : Shared) (H : Hp) (vs : List V) (Q : VK) (E : XK), Room k (A.deeper (envOfC x (defScope st) s.heap.objs.size f cdv)) → sp vs H Q E →
      ∃ t, PSs (cxOf (L2.CX P w) P w K mg base N x (defScope st) f cdv A outer s H E) (defBody st) t ∧ t { nx := fun _ H' => Q .non H', rt := Q } (start N vs) H) : Cal P w K mg base (L2.CX P w) (k + 1) x sp := by
  obtain ⟨f, fd, F, hm⟩ := F.ex
  exact ⟨f, fd, ps, F.ok S len (fun cdv A outer s H vs Q E hr h => hbody f cdv A outer s H vs Q E hr h), hm, F.kp, F.bindsN hb⟩
end
section
variable {X : Cx} {k j : Nat} {x : Str} {sp : Sp} {p pos : Pos} {e : Expr} {es : List Expr} {t : TA}
theorem pe_k (c : Cal X.prog X.w X.K X.mg X.base CX0 k x sp) (hr : Room j X.A) (hk : k ≤ j) (hg : Gl X x) (ha : PA X (e :: es) t)
    (hdb : (x == ("__debug__" : Str)) = false := by decide) (he : starEach (e :: es) X.env = (false, eval e X.env) :: starEach es X.env := by rfl) (hpl : (backTo pos (starEach es X.env)).any (·.1) = false := by rfl) :
    PE X (.Call (.Name x p) (e :: es) [] pos) (tCall sp [] E0 t) := by
  obtain ⟨f, fd, ps, F, hm, kp, b⟩ := c.ex
  exact pe_call F (hr.mono hk) hg hm kp b .nil pass0 ha hdb he hpl
end
end LW

namespace LW
open PySem PySem.Spec L2
open Evl (Ex)
/-! ### exception classes of the program, with an __init__ of their own -/
def oexB (K : PySem.W.Frag) (C : Addr) : Bool := (match K.lookup C with
  | some ⟨.type "type", _, .cls cd, sl⟩ => (match cd.mro, sl.toList with
    | .ref C' :: bm, [_, _, _, _, some (.builtin n), _] => C' == C && n == "ValueError.__new__" && !cd.hasDel && PySem.HandSPX.refsVE bm && cd.hasDict
    | _, _ => false)
  | _ => false) && (He.eqO (PySem.W.findIn K (.ref C) "__setattr__") (some (some (.builtin "object.__setattr__"))) && (decide (PySem.W.subIn K (.ref C) (.type "BaseException") = some true) && (decide (PySem.W.typeIn K (.ref C) = some (.type "type")) && PySem.W.keepIn K (.ref C))))
theorem oexB_ok {K : PySem.W.Frag} {C : Addr} (h : oexB K C = true) : OexC K C := by
  obtain ⟨q, h⟩ := He.ba h
  obtain ⟨h1, h⟩ := He.ba h
  obtain ⟨h2, h⟩ := He.ba h
  obtain ⟨h3, h4⟩ := He.ba h
  refine ⟨?_, He.eqO_ok h1, of_decide_eq_true h2, of_decide_eq_true h3, h4⟩
  split at q
  · rename_i dd cd sl ho
    split at q
    · rename_i C' bm k0 k1 k2 k3 n k5 hm hs
      simp only [Bool.and_eq_true, beq_iff_eq, Bool.not_eq_true'] at q
      obtain ⟨⟨⟨⟨rfl, rfl⟩, hdel⟩, ht⟩, hdd⟩ := q
      obtain ⟨nm, bs, mro, ns, qn, hd, sn, sub, ab, col, del⟩ := cd
      dsimp only at hm hdel hdd
      subst hm hdel hdd
      have hsl : sl = #[k0, k1, k2, k3, some (.builtin "ValueError.__new__"), k5] := by
        obtain ⟨l⟩ := sl
        simp only at hs
        rw [hs]
      subst hsl
      exact ⟨nm, qn, ns, bs, bm, sn, sub, ab, col, dd, k0, k1, k2, k3, k5, ho, ht⟩
    · cases q
  · cases q
def excB (K : PySem.W.Frag) (D : Addr) : Bool := xfB K D && (He.eqO (PySem.W.findIn K (.ref D) "__class__") (some (some (.builtin "object.__class__"))) && (He.eqO (PySem.W.specialIn K (.builtin "object.__class__") "__get__") (some (some (.builtin "getset_descriptor.__get__"))) &&
  (decide (PySem.W.takesIn K (.builtin "object.__class__") = some true) && (decide (PySem.W.mroIn K D (.type "object") = some true) && (PySem.W.clsIn K D).isSome))))
structure ExcD (K : PySem.W.Frag) (D : Addr) : Prop where
  xf : XfC K D
  ha : PySem.W.findIn K (.ref D) "__class__" = some (some (.builtin "object.__class__"))
  hn : PySem.W.specialIn K (.builtin "object.__class__") "__get__" = some (some (.builtin "getset_descriptor.__get__"))
  ht : PySem.W.takesIn K (.builtin "object.__class__") = some true
  hm : PySem.W.mroIn K D (.type "object") = some true
  hc : (PySem.W.clsIn K D).isSome = true
theorem excB_ok {K : PySem.W.Frag} {D : Addr} (h : excB K D = true) : ExcD K D := by
  obtain ⟨h1, h⟩ := He.ba h
  obtain ⟨h2, h⟩ := He.ba h
  obtain ⟨h3, h⟩ := He.ba h
  obtain ⟨h4, h⟩ := He.ba h
  obtain ⟨h5, h6⟩ := He.ba h
  exact ⟨xfB_ok h1, He.eqO_ok h2, He.eqO_ok h3, of_decide_eq_true h4, of_decide_eq_true h5, h6⟩
/-- isinstance(e, c), e the exception that the suite holds (with a dict of its own or without) -/
def rIsX (K : PySem.W.Frag) (cls : Value) (d : Option Addr) (a : Addr) : List V → Hp → VK → Prop := fun xs H Q => ∃ (D : Addr) (c : V) (cv : Value) (b : Bool), xs = [.ref a, c] ∧ cls = .ref D ∧ ExcD K D ∧ (∀ dd, d = some dd → ∃ fs, H dd = some (.xd fs)) ∧ ClsV c cv ∧ PySem.W.kitOne K (.ref D) cv = some b ∧ Q (.bl b) H
theorem call_isX {X : Cx} {a : Addr} {oe : Obj} {cls : Value} {d : Option Addr} {pn : List (Addr × Obj)} (hz : Zc cls d oe) (hf : ∃ vs, oe.data = .fields vs) : CallR (X.suite a ((a, oe) :: pn)) (.builtin "isinstance") (rIsX X.K cls d a) := by
  intro pins s σ H xs us Q I r h
  obtain ⟨D, c, cv, b, rfl, rfl, C, hdd, kc, e, q⟩ := h
  obtain ⟨u1, u2, rfl, r1, r2⟩ := vals2 r
  cases r1
  have ec := kc.eq r2
  subst ec
  obtain ⟨hget, _⟩ := I.pin (a, oe) (List.mem_append.mpr (.inl List.mem_cons_self))
  obtain ⟨vs, hv⟩ := hf
  have J : ∃ od, PySem.W.InstAt s.heap a oe D od := by
    cases d with
    | none => exact ⟨none, hget, hz.1, by unfold PySem.W.notCls; rw [hv] <;> rfl, by rw [hz.2]; trivial⟩
    | some dd =>
      obtain ⟨fs, hfs⟩ := hdd dd rfl
      obtain ⟨mA, hns, _⟩ := (show ObjOk X.prog X.w H s.heap dd (.xd fs) from I.hok dd _ hfs)
      obtain ⟨od, ho, _⟩ := lookIn_ns hns
      exact ⟨some od, hget, hz.1, by unfold PySem.W.notCls; rw [hv] <;> rfl, by rw [hz.2]; exact ho⟩
  obtain ⟨od, J⟩ := J
  exact PySem.W.kia_one (PySem.W.kitx_exc C.hc C.xf.ga C.xf.gg C.xf.exC C.ha C.hn C.ht C.hm) I.kIn J e (fun z => nomatch z) fun tk => ⟨.bl b, H, I.kept (t' := tk) fun _ _ z => z, rfl, q⟩
/-- e.f in the suite, K told, the class found at the reading -/
def tXg (K : PySem.W.Frag) (a : Addr) (cls : Value) (d : Option Addr) (f : Str) (te : TE) : TE := fun σ H Q => te σ H fun x H1 => x = .ref a ∧ ∃ (C dd : Addr) (fs : List (Str × V)) (v : V), cls = .ref C ∧ XfC K C ∧ PySem.W.findIn K (.ref C) f = some none ∧ d = some dd ∧ H1 dd = some (.xd fs) ∧ fs.lookup f = some v ∧ Q v H1
theorem pe_xg {X : Cx} {a : Addr} {oe : Obj} {cls : Value} {d : Option Addr} {pn : List (Addr × Obj)} {e : Expr} {te : TE} {pos : Pos} {n : Str}
    (hz : Zc cls d oe) (hf : ∃ vs, oe.data = .fields vs) (he : PE (X.suite a ((a, oe) :: pn)) e te) (hb : attributeBase e n X.env (eval e X.env) = eval e X.env := by rfl) :
    PE (X.suite a ((a, oe) :: pn)) (.Attribute e n pos) (tXg X.K a cls d n te) := by
  refine ⟨fun pins s σ H Q I h => ?_⟩
  have h' : ∃ C, te σ H fun x H1 => x = .ref a ∧ ∃ (C dd : Addr) (fs : List (Str × V)) (v : V), cls = .ref C ∧ XfC X.K C ∧ PySem.W.findIn X.K (.ref C) n = some none ∧ d = some dd ∧ H1 dd = some (.xd fs) ∧ fs.lookup n = some v ∧ Q v H1 := ⟨a, h⟩
  refine attr_of hb (thn (he.run pins s σ H _ I h) fun u s1 hh => ?_)
  obtain ⟨x, H1, I1, rx, ex, C, dd, fs, v, ec, T, hno, ed, ea, l, q⟩ := hh
  subst ex
  obtain rfl : u = Value.ref a := rx
  subst ec
  subst ed
  obtain ⟨ha, _⟩ := I1.pin (a, oe) (List.mem_append_left _ List.mem_cons_self)
  obtain ⟨vs, hd⟩ := hf
  have hx : ObjOk X.prog X.w H1 s1.heap dd (.xd fs) := I1.hok dd _ ea
  obtain ⟨mA, hns, hr⟩ := hx
  obtain ⟨od, ho, hl⟩ := lookIn_ns hns
  obtain ⟨u, hu, ru⟩ := RelO.some_of (v := v) (o := mA n) (by rw [← l]; exact hr n)
  have J : PySem.W.InstAt s1.heap a oe C (some od) := ⟨ha, hz.1, by unfold PySem.W.notCls; rw [hd] <;> rfl, by rw [hz.2]; exact ho⟩
  exact HandSPX.exc_get I1.kIn J T.ga T.gg T.exC (PySem.W.findObj_own T.hdC hno rfl (by rw [hl, hu])) (handed_of ru) ⟨v, H1, I1.tok _, ru, q⟩
/-! ### __init__ of such a class: self.f = f, one field -/
structure XCl (K : PySem.W.Frag) (mg : Str → Option Value) (x : Str) (C : Addr) : Prop where
  gC : mg x = some (.ref C)
  ox : OexC K C
  xd : ExcD K C
/-- what __init__ promises: the new exception at a gets its dict -/
def spXI (K : PySem.W.Frag) (C : Addr) (f : Str) : Sp := fun vs H Q _ => ∃ (a : Addr) (v : V), vs = [.ref a, v] ∧ H a = some (exo a C none) ∧ ∀ dx, H dx = none → dx ≠ a → Q .non (upd (upd H dx (exd dx [(f, v)])) a (exo a C (some dx)))
/-- the class's maker -/
structure XMk (P : Program) (w : World) (K : PySem.W.Frag) (mg : Str → Option Value) (base : Heap) (k : Nat) (x : Str) (C : Addr) (f : Str) : Prop where
  cl : XCl K mg x C
  ex : ∃ (fI : Addr) (fd : FuncData) (ps : List Str), PySem.W.findIn K (.ref C) "__init__" = some (some (.ref fI)) ∧ PySem.W.typeIn K (.ref fI) = some (.type "function") ∧ FnOk P w K mg base CX0 k fI fd ps (spXI K C f) ∧ Binds K fd ps []
  no : PySem.W.findIn K (.ref C) f = some none
section
variable {X : Cx} {k j : Nat} {C : Addr} {x f : Str} {e : Expr} {ta : TA} {p pos pos2 : Pos}
theorem pmk_x (M : XMk X.prog X.w X.K X.mg X.base k x C f) (hr : Room j X.A) (hj : k + 1 ≤ j) (hg : Gl X x) (ha : PA X [e] ta) (hdb : (x == ("__debug__" : Str)) = false := by decide)
    (he : starEach [e] X.env = (false, eval e X.env) :: starEach [] X.env := by rfl) (hpl : (backTo pos (starEach [] X.env)).any (·.1) = false := by rfl) : PMk X (.Call (.Name x p) [e] [] pos) (tMkO C (spXI X.K C f) [] ta) := by
  obtain ⟨fI, fd, ps, iC, tI, F1, hb⟩ := M.ex
  exact pmk_oex M.cl.ox iC tI F1 (hr.mono hj) hb .nil (pass0) hg M.cl.gC ha hdb he hpl
end
/-- what the making leaves: a new dict with the field -/
theorem xmk_go {K : PySem.W.Frag} {C : Addr} {f : Str} {v : V} {H1 : Hp} {Q : XK} (h : ∀ d H2, H1 d = none → Ex H1 H2 → H2 d = some (.xd [(f, v)]) → Q (.ref C) (some d) H2) :
    [v].length ≤ 1000 ∧ ∀ a, H1 a = none → spXI K C f (.ref a :: ([v] ++ [])) (upd H1 a (exo a C none)) (fun v' H2 => v' = .non ∧ ∃ (d : Addr) (fs : List (Str × V)), H2 a = some (exo a C (some d)) ∧ H2 d = some (exd d fs) ∧ H1 d = none ∧ Q (.ref C) (some d) (upd (del H2 a) d (.xd fs))) (fun _ _ _ => False) := by
  refine ⟨by show 1 ≤ 1000; decide, fun a na => ⟨a, v, rfl, upd_same, fun dx ndx ne => ?_⟩⟩
  rw [upd_ne ne] at ndx
  refine ⟨rfl, dx, [(f, v)], upd_same, by rw [upd_ne ne, upd_same], ndx, h dx _ ndx (fun b o q => ?_) upd_same⟩
  have hb : b ≠ a := ne_of_none q na
  rw [upd_ne (ne_of_none q ndx), del_ne hb, upd_ne hb, upd_ne (ne_of_none q ndx), upd_ne hb]
  exact q
/-! ### methods of a class -/
structure Mt (P : Program) (w : World) (K : PySem.W.Frag) (mg : Str → Option Value) (base : Heap) (CX : CXT) (k : Nat) (C : Addr) (m : Str) (sp : Sp) : Prop where
  ex : ∃ (g : Addr) (fd : FuncData) (ps : List Str), Cls K C ∧ Meth K C m g ∧ FnOk P w K mg base CX k g fd ps sp ∧ Binds K fd ps []
/-- a method as the top leaves it -/
structure Dm_ (K : PySem.W.Frag) (C : Addr) (m qual : Str) (st : Stmt) : Prop where
  ex : ∃ (g : Addr) (fd : FuncData), FunD K m qual (defArgs st) (defBody st) (defScope st) [] [] g fd ∧ Meth K C m g
def BindsM (m qual : Str) (st : Stmt) (ps : List Str) : Prop := ∀ (kV doc pm : Value) (an : Option Addr) (cdv ct : Value) (us : List Value), us.length = ps.length →
  bindArgs (PySem.W.fnOf m qual (defArgs st) (defBody st) (defScope st) .none kV doc pm an cdv ct) ⟨us, []⟩ = pure (ps.zip us)
section
variable {P : Program} {w : World} {K : PySem.W.Frag} {mg : Str → Option Value} {base : Heap} {C : Addr} {m qual : Str} {st : Stmt} {N ps : List Str} {k : Nat} {sp : Sp}
theorem mt0 (c : Cls K C) (F : Dm_ K C m qual st) (S : FnScope N ps (defScope st)) (hb : BindsM m qual st ps) (len : ∀ vs H Q E, sp vs H Q E → vs.length = ps.length)
    (hbody : ∀ (f : Addr) (cdv : Value) (A : Around) (outer : List Env) (s : Shared) (H : Hp) (vs : List V) (Q : VK) (E : XK), Room k (A.deeper (PyProof.Rows.envOfC qual (defScope st) s.heap.objs.size f cdv)) → sp vs H Q E →
      ∃ t, PSs (cxOf CX0 P w K mg base N qual (defScope st) f cdv A outer s H E).nox (defBody st) t ∧ t { nx := fun _ H' => Q .non H', rt := Q } (start N vs) H) : Mt P w K mg base CX0 (k + 1) C m sp := by
  obtain ⟨g, fd, F, hm⟩ := F.ex
  exact ⟨g, fd, ps, c, hm, F.ok S len (fun cdv A outer s H vs Q E hr h => by
    obtain ⟨t, h1, h2⟩ := hbody g cdv A outer s H vs Q E hr h
    exact ⟨t, h1.nox, h2⟩), F.bindsN hb⟩
theorem mtX (c : Cls K C) (F : Dm_ K C m qual st) (S : FnScope N ps (defScope st)) (hb : BindsM m qual st ps) (len : ∀ vs H Q E, sp vs H Q E → vs.length = ps.length)
    (hbody : ∀ (f : Addr) (cdv : Value) (A : Around) (outer : List Env) (s : Shared) (H : Hp) (vs : List V) (Q : VK) (E : XK), Room k (A.deeper (PyProof.Rows.envOfC qual (defScope st) s.heap.objs.size f cdv)) → sp vs H Q E →
      ∃ t, PSs (cxOf (L2.CX P w) P w K mg base N qual (defScope st) f cdv A outer s H E) (defBody st) t ∧ t { nx := fun _ H' => Q .non H', rt := Q } (start N vs) H) : Mt P w K mg base (L2.CX P w) (k + 1) C m sp := by
  obtain ⟨g, fd, F, hm⟩ := F.ex
  exact ⟨g, fd, ps, c, hm, F.ok S len (fun cdv A outer s H vs Q E hr h => hbody g cdv A outer s H vs Q E hr h), F.bindsN hb⟩
/-- X(e): an instance, its __init__ by the promise sp -/
structure Mkr (P : Program) (w : World) (K : PySem.W.Frag) (mg : Str → Option Value) (base : Heap) (CX : CXT) (k : Nat) (x : Str) (C : Addr) (sp : Sp) : Prop where
  ex : ∃ (f : Addr) (fd : FuncData) (ps : List Str), Mk K C f ∧ FnOk P w K mg base CX k f fd ps sp ∧ mg x = some (.ref C) ∧ Binds K fd ps []
end
section
variable {X : Cx} {CX : CXT} {k j : Nat} {C : Addr} {m x : Str} {sp : Sp} {E : XK} {o e : Expr} {es : List Expr} {to : TE} {t : TA} {p apos pos : Pos} {pl : Sem Bool}
/-- o.m(e, ..), what is raised passing as E -/
theorem pe_mx (c : Mt X.prog X.w X.K X.mg X.base CX k C m sp) (hr : Room j X.A) (hk : k ≤ j) (hx : Passes CX X E) (he : PE X o to) (ha : PA X (e :: es) t)
    (hst : starEach (e :: es) X.env = (false, eval e X.env) :: starEach es X.env := by rfl) (hpl : (backTo pos (starEach es X.env)).any (·.1) = false := by rfl)
    (ht : eval (.Call (.Attribute o m apos) (e :: es) [] pos) X.env = (do
      let ov ← eval o X.env
      standAt apos.atName
      let (f, first) ← holding [ov] (getMethod ov m pl)
      callWith pos f first (backTo pos (starEach (e :: es) X.env)) (backToKw pos (keywordEach [] X.env))) := by rfl) :
    PE X (.Call (.Attribute o m apos) (e :: es) [] pos) (tMeth C m sp [] E to t) := by
  obtain ⟨g, fd, ps, cl, hm, F, b⟩ := c.ex
  exact pe_meth (pl := pl) he cl hm F (hr.mono hk) b .nil hx ha hst hpl ht
theorem pe_mkr (c : Mkr X.prog X.w X.K X.mg X.base CX k x C sp) (hr : Room j X.A) (hk : k + 1 ≤ j) (hx : Passes CX X E) (hg : Gl X x) (ha : PA X (e :: es) t)
    (hdb : (x == ("__debug__" : Str)) = false := by decide) (he : starEach (e :: es) X.env = (false, eval e X.env) :: starEach es X.env := by rfl) (hpl : (backTo pos (starEach es X.env)).any (·.1) = false := by rfl) :
    PE X (.Call (.Name x p) (e :: es) [] pos) (tMake C sp [] E t) := by
  obtain ⟨f, fd, ps, M, F, hm, b⟩ := c.ex
  exact pe_make M F (hr.mono hk) hg hm b .nil hx ha hdb he hpl
/-- f(e, ..), what is raised wished for at the slots -/
theorem pe_kS {W : WX} (c : Cal X.prog X.w X.K X.mg X.base (L2.CX X.prog X.w) k x sp) (hr : Room j X.A) (hk : k ≤ j) (tk : Takes X W) (hg : Gl X x) (ha : PA X (e :: es) t)
    (hdb : (x == ("__debug__" : Str)) = false := by decide) (he : starEach (e :: es) X.env = (false, eval e X.env) :: starEach es X.env := by rfl) (hpl : (backTo pos (starEach es X.env)).any (·.1) = false := by rfl) :
    PE X (.Call (.Name x p) (e :: es) [] pos) (tCallS sp (WE W) t) := by
  obtain ⟨f, fd, ps, F, hm, kp, b⟩ := c.ex
  exact pe_callS F (hr.mono hk) hg hm kp b (fun σ => passAt tk σ) ha hdb he hpl
end
end LW

namespace LW
open PySem PySem.Spec PyProof.Rows L2
open Evl (Ex)
/-! ### defs that run where no repr is under way -/
structure FnG (P : Program) (w : World) (K : PySem.W.Frag) (mg : Str → Option Value) (base : Heap) (CX : CXT) (k : Nat) (f : Addr) (fd : FuncData) (ps : List Str) (sp : Sp) : Prop where
  len : ∀ (vs : List V) (H : Hp) (Q : VK) (E : XK), sp vs H Q E → vs.length = ps.length
  go : ∀ (A : Around) (outer : List Env) (s : Shared) (H : Hp) (args : Args) (us : List Value) (vs : List V) (Q : VK) (E : XK), A.guards = some [] → Room k A → Env0 P w K mg base A outer s H → BindsTo s fd args (ps.zip us) →
    Vals vs us → sp vs H Q E → codeAny (model P w) A (.call (.ref f) args) (CR CX outer P w H s Q E) s
section
variable {P : Program} {w : World} {K : PySem.W.Frag} {mg : Str → Option Value} {base : Heap} {x qual : Str} {params : Arguments} {body : List Stmt} {scope : Scope} {dvs : List V} {kws : List (Str × V)} {f : Addr} {fd : FuncData}
theorem FnG.of {CX : CXT} {N ps : List Str} {k : Nat} {sp : Sp} (F : FunD K x qual params body scope dvs kws f fd) (S : FnScope N ps scope) (len : ∀ (vs : List V) (H : Hp) (Q : VK) (E : XK), sp vs H Q E → vs.length = ps.length)
    (hbody : ∀ (cdv : Value) (A : Around) (outer : List Env) (s : Shared) (H : Hp) (vs : List V) (Q : VK) (E : XK), A.guards = some [] → Room k (A.deeper (envOfC qual scope s.heap.objs.size f cdv)) → sp vs H Q E →
      ∃ t, PSs (cxOf CX P w K mg base N qual scope f cdv A outer s H E) body t ∧ t { nx := fun _ H' => Q .non H', rt := Q } (start N vs) H) : FnG P w K mg base CX (k + 1) f fd ps sp := by
  obtain ⟨oc, od, dV, kV, doc, pm, an, cdv, ct, osl, efd, lk, hcd, _, _⟩ := F.ex
  subst efd
  refine ⟨len, ?_⟩
  intro A outer s H args us vs Q E gd hr e0 hb rv hsp
  have kp : ∀ b o, base.get? b = some o → s.heap.get? b = some o := fun b o e => (e0.bs b o e).1
  have KX : K.In s.heap := e0.mod.kin.keeps kp
  have lim : s.heap.NoLimit := e0.mod.nolimit.keeps kp
  have hkind : ∀ y ∈ ps.zip us, scope.names.lookup y.1 = some .local ∨ (scope.names.lookup y.1 = some .cell ∧ ((cellsFrom (s.heap.objs.size + 1) scope.names []).lookup y.1).isSome = true) := by
    rintro ⟨n, v⟩ hy
    rcases S.par n (List.of_mem_zip hy).1 with q | q
    · left
      exact q
    · right
      exact ⟨q, PySem.W.cellsFrom_some _ _ _ (Or.inl q)⟩
  apply codeAny_call_function hr.depth (KX _ _ lk) rfl S.co S.gen rfl (PySem.W.codeRec_of KX hcd)
  apply hb
  refine wpAny_newFunctionEnv_cells S.kind hkind ?_
  rintro env rfl s1 x
  refine ⟨lim.keeps x.toInCall.keep, ?_⟩
  apply codeAny_func
  obtain ⟨t, ht, hq⟩ := hbody cdv A outer s H vs Q E gd (hr.deeper _) hsp
  have I : Inv (cxOf CX P w K mg base N qual scope f cdv A outer s H E) [] (start N vs) H s1 := inv_start S hr.hd e0 (len _ _ _ _ hsp) rv x
  apply wpAny_mono (ht.run [] s1 (start N vs) H _ I hq)
  · intro fl s' hs
    cases fl with
    | ret u =>
      obtain ⟨v, σ', H', J, r1, q⟩ := hs
      exact ⟨v, H', J.os, J.bare, J.base, J.hok, r1, q⟩
    | next =>
      obtain ⟨σ', H', J, q⟩ := hs
      exact ⟨V.non, H', J.os, J.bare, J.base, J.hok, rfl, q⟩
    | brk => exact hs.elim fun _ h => h.elim fun _ h => h.2.elim
    | cont => exact hs.elim fun _ h => h.elim fun _ h => h.2.elim
  · intro e s' hs
    exact hs
end
/-- a def as one that asks for no repr -/
theorem FnG.ofOk {P : Program} {w : World} {K : PySem.W.Frag} {mg : Str → Option Value} {base : Heap} {CX : CXT} {k : Nat} {f : Addr} {fd : FuncData} {ps : List Str} {sp : Sp} (F : FnOk P w K mg base CX k f fd ps sp) : FnG P w K mg base CX k f fd ps sp :=
  ⟨F.len, fun A outer s H args us vs Q E _ hr => F.run A outer s H args us vs Q E hr⟩
structure CalG (P : Program) (w : World) (K : PySem.W.Frag) (mg : Str → Option Value) (base : Heap) (CX : CXT) (k : Nat) (x : Str) (sp : Sp) : Prop where
  ex : ∃ (f : Addr) (fd : FuncData) (ps : List Str), FnG P w K mg base CX k f fd ps sp ∧ mg x = some (.ref f) ∧ PySem.W.keepIn K (.ref f) = true ∧ Binds K fd ps []
section
variable {X : Cx} {k j : Nat} {x : Str} {sp : Sp} {p pos : Pos} {e : Expr} {es : List Expr} {t : TA}
theorem pe_kG (c : CalG X.prog X.w X.K X.mg X.base CX0 k x sp) (gd : X.A.guards = some []) (hr : Room j X.A) (hk : k ≤ j) (hg : Gl X x) (ha : PA X (e :: es) t)
    (hdb : (x == ("__debug__" : Str)) = false := by decide) (he : starEach (e :: es) X.env = (false, eval e X.env) :: starEach es X.env := by rfl) (hpl : (backTo pos (starEach es X.env)).any (·.1) = false := by rfl) :
    PE X (.Call (.Name x p) (e :: es) [] pos) (tCall sp [] E0 t) := by
  obtain ⟨f, fd, ps, F, hm, kp, b⟩ := c.ex
  constructor
  intro pins s σ H Q I h
  apply wpAny_Call_Name_kw
  apply ld_glob I hg hm _ hdb
  refine PySem.W.callWith_K (h₀ := X.base) I.ok.mod.kin kp (thn (ha.run pos pins s σ H _ I h) ?_) he hpl
  rintro us s1 ⟨vs, H1, I1, r, q⟩
  refine ⟨I1.kIn, ?_⟩
  have q' : sp vs H1 Q E0 := by
    have := q
    rwa [List.append_nil] at this
  have hl : us.length = ps.length := by
    rw [← r.length]
    exact F.len _ _ _ _ q'
  have bb := b s1 us I1.kIn (by rw [List.append_nil]; exact hl)
  rw [List.append_nil] at bb
  refine wpAny_call (codeAny_mono (F.go X.A X.stack s1 H1 ⟨us, []⟩ us vs Q E0 gd (hr.mono hk) I1.env0 bb r q') ?_)
  intro fl s' hq
  cases fl with
  | error e => exact pass0 pins σ H1 s1 e s' I1 hq
  | ok fl =>
    cases fl with
    | ret u => exact I1.after hq
    | next => exact hq.elim
    | brk => exact hq.elim
    | cont => exact hq.elim
end
section
variable {P : Program} {w : World} {K : PySem.W.Frag} {mg : Str → Option Value} {base : Heap}
theorem calG {CX : CXT} {x : Str} {st : Stmt} {N ps : List Str} {k : Nat} {sp : Sp} (F : Df K mg x st) (S : FnScope N ps (defScope st)) (hb : BindsEq x st ps) (len : ∀ vs H Q E, sp vs H Q E → vs.length = ps.length)
    (hbody : ∀ (f : Addr) (cdv : Value) (A : Around) (outer : List Env) (s : Shared) (H : Hp) (vs : List V) (Q : VK) (E : XK), A.guards = some [] → Room k (A.deeper (envOfC x (defScope st) s.heap.objs.size f cdv)) → sp vs H Q E →
      ∃ t, PSs (cxOf CX P w K mg base N x (defScope st) f cdv A outer s H E) (defBody st) t ∧ t { nx := fun _ H' => Q .non H', rt := Q } (start N vs) H) : CalG P w K mg base CX (k + 1) x sp := by
  obtain ⟨f, fd, F, hm⟩ := F.ex
  exact ⟨f, fd, ps, FnG.of F S len (fun cdv A outer s H vs Q E gd hr h => hbody f cdv A outer s H vs Q E gd hr h), hm, F.kp, F.bindsN hb⟩
end
end LW

namespace LW
open PySem PySem.Spec PyProof.Rows L2
open Evl (Ex)
/-! ### the law's own call, with sys.modules in the base -/
theorem call_lawG {P : Program} {w : World} {K : PySem.W.Frag} {mg mb : Str → Option Value} {CX : CXT} {k : Nat} {fa a : Addr} {fd : FuncData} {x : Str} {sp : Sp} {s₁ : Shared} {vs : List Value} {ns : List Int}
    (KX : K.In s₁.heap) (hns : s₁.heap.Ns mainGlobals mg) (hb : s₁.heap.Ns builtinsNs mb) (hbb : ∀ x : Str, x ≠ "__name__" → mb x = bootBuiltins x) (hlim : s₁.heap.NoLimit) (hsy : ∃ mm, s₁.heap.Ns sysModules mm) (hg : s₁.gens = #[])
    (ha : s₁.heap.get? a = some { cls := .type "list", data := .seq vs.toArray }) (hi : IntsAre vs ns) (hl : ns.length ≤ sizeLine) (hr : Room k callerA)
    (F : ∀ base : Heap, K.In base → base.Ns mainGlobals mg → (∃ mm, base.Ns sysModules mm) → FnG P w K mg base CX k fa fd [x] sp) (hbind : ∀ (s : Shared) (u : Value), BindsTo s fd ⟨[u], []⟩ [(x, u)])
    (hsp : ∀ H : Hp, Only H → SqL K H a (ns.map V.int) → sp [.ref a] H (fun v _ => v = .bl true) fun _ _ _ => False)
    (hCX : ∀ H e s', CX [] H s₁ (fun _ _ _ => False) e s' → False) :
    codeAny (model P w) callerA (.call (.ref fa) ⟨[.ref a], []⟩) (fun r s' => r = .ok (.ret (.bool true)) ∧ OldK s₁.heap s'.heap ∧ s'.os = s₁.os ∧ AllBare s'.gens) s₁ := by
  have lenV := hi.length
  have core : ∀ H : Hp, Only H → SqL K H a (ns.map V.int) → HOk P w H s₁.heap → (∀ b, H b ≠ none → b = a) → (H a ≠ none → K.lookup a = none) →
      codeAny (model P w) callerA (.call (.ref fa) ⟨[.ref a], []⟩) (fun r s' => r = .ok (.ret (.bool true)) ∧ OldK s₁.heap s'.heap ∧ s'.os = s₁.os ∧ AllBare s'.gens) s₁ := by
    intro H hO hS hok hA hK
    have eqa : ∀ {b : Addr} {u : HO}, H b = some u → b = a := fun {b u} q => hA b (by rw [q]; exact nofun)
    have nsK : ∀ {b : Addr} {m : Str → Option Value}, s₁.heap.Ns b m → (hidT s₁.heap H).Ns b m := by
      rintro b m ⟨o, es, ep, e, d, r⟩
      refine ⟨o, es, ep, hidT_get e ?_, d, r⟩
      cases q : H b with
      | none => rfl
      | some u =>
        cases eqa q
        rw [ha] at e
        cases e
        exact nomatch d
    have hKb : K.In (hidT s₁.heap H) := by
      intro b o e
      refine hidT_get (KX b o e) ?_
      cases q : H b with
      | none => rfl
      | some u =>
        cases eqa q
        rw [hK (by rw [q]; exact nofun)] at e
        cases e
    have hM : Mod K mg (hidT s₁.heap H) := by
      refine ⟨hKb, nsK hns, ⟨mb, nsK hb, hbb⟩, ?_⟩
      obtain ⟨mc, h1, h2⟩ := hlim
      exact ⟨mc, nsK h1, h2⟩
    have hsy' : ∃ mm, (hidT s₁.heap H).Ns sysModules mm := by
      obtain ⟨mm, h1⟩ := hsy
      exact ⟨mm, nsK h1⟩
    have e0 : Env0 P w K mg (hidT s₁.heap H) callerA [] s₁ H := ⟨rfl, hM, fun b o e => of_hidT e, Nat.le_of_eq (hidT_size _ _), trivial, (fun b hb => nomatch (show b ∈ ([] : List Addr) from hb)), hok, .of_eq hg⟩
    refine codeAny_mono ((F _ hKb (nsK hns) hsy').go callerA [] s₁ H ⟨[.ref a], []⟩ [.ref a] [.ref a] _ _ rfl hr e0 (hbind s₁ (.ref a)) (.cons rfl .nil) (hsp H hO hS)) ?_
    intro r s' h
    match r, h with
    | .error e, h => exact (hCX H e s' h).elim
    | .ok .next, h => exact h.elim
    | .ok .brk, h => exact h.elim
    | .ok .cont, h => exact h.elim
    | .ok (.ret u), h =>
      obtain ⟨v, H', os, bare, un, hok', r', q⟩ := h
      cases (show v = .bl true from q)
      cases (show u = Value.bool true from r')
      refine ⟨rfl, OldK.of_keep ?_, os, bare⟩
      intro b o e
      cases q : H b with
      | none => exact un.keep b o e q (fun z => nomatch (show b ∈ ([] : List Addr) from z)) (fun z => nomatch z)
      | some u =>
        rcases hO b with z | ⟨ob, xs, z⟩
        · rw [q] at z
          cases z
        · obtain ⟨e1, _⟩ := hok b _ z
          obtain ⟨e2, _⟩ := hok' b _ (un.frzs b ob _ z)
          rw [e] at e1
          cases e1
          exact e2
  cases hk : K.lookup a with
  | some o =>
    have e := KX a o hk
    rw [ha] at e
    cases e
    refine core (fun _ => none) (fun _ => .inl rfl) (.inr ⟨_, vs.toArray, _, hk, rfl, rfl, rfl, ?_, ?_⟩) (fun b u z => nomatch (show (none : Option HO) = some u from z)) (fun b z => (z rfl).elim) fun z => (z rfl).elim
    · rw [List.size_toArray, lenV]
      exact hl
    · exact vals_ints hi
  | none =>
    refine core (upd (fun _ => none) a (.frz { cls := .type "list", data := .seq vs.toArray } (.lst (ns.map V.int)))) (fun b => ?_) (.inl (.inr ⟨{ cls := .type "list", data := .seq vs.toArray }, upd_same⟩)) (fun b u z => ?_) (fun b z => ?_) fun _ => hk
    · by_cases hb : b = a
      · subst hb
        exact .inr ⟨_, _, upd_same⟩
      · exact .inl (upd_ne hb)
    · by_cases hb : b = a
      · subst hb
        rw [upd_same] at z
        cases z
        exact ⟨ha, by rw [List.length_map]; exact hl, vs, _, vals_ints hi, ha⟩
      · rw [upd_ne hb] at z
        cases z
    · by_cases hb : b = a
      · exact hb
      · exact (z (upd_ne hb)).elim
theorem walkG {l : PySem.W.OpenLaw} {n k : Nat} {q : Program} {loose : List Str} {XP : (Str → Option Value) → Heap → Prop} {YP : World → Heap → Prop} {d : DefRec} {CX : CXT} {x : Str}
    (hn : l.most = some n) (hn2 : n ≤ sizeLine) (hdf : d.params.defaults = []) (hr : Room k callerA) (hi : importsNone q = true)
    (F : ∀ (w : World) (mg : Str → Option Value) (fa : Addr) (h : Heap), YP w h → h.Ns mainGlobals mg → mg d.name = some (.ref fa) →
      ∃ (K : PySem.W.Frag) (fd : FuncData) (sp : Sp), K.In h ∧ (∀ (s : Shared) (u : Value), BindsTo s fd ⟨[u], []⟩ [(x, u)]) ∧
        (∀ (H : Hp) (a : Addr) (ns : List Int), ns.length ≤ n → Only H → SqL K H a (ns.map V.int) → sp [.ref a] H (fun v _ => v = .bl true) fun _ _ _ => False) ∧
        ∀ base : Heap, K.In base → base.Ns mainGlobals mg → (∃ mm, base.Ns sysModules mm) → FnG l.prog w K mg base CX k fa fd [x] sp)
    (hCX : ∀ (H : Hp) (s : Shared) (e : Value) (s' : Shared), CX [] H s (fun _ _ _ => False) e s' → False) :
    PySem.W.WalkO q loose XP YP l.row.toRowW d [] (fun f vs => PySem.call f vs) := by
  apply Att.attach_call hn hdf
  intro w s₀ s₁ mg mb fa o pm cd doc a vs ns G Y ho hd hcd hmg hobj hints hlen hg
  obtain ⟨K, fd, sp, KX, hb, hsp, hF⟩ := F w mg fa _ Y G.T.g hmg
  obtain ⟨mm, hm, _⟩ := (G.T.seer hi).mods
  exact call_lawG KX G.T.g G.T.b G.T.builtins G.T.nolimit ⟨mm, hm⟩ hg hobj hints (Nat.le_trans hlen hn2) hr hF hb (fun H hO hS => hsp H a ns hlen hO hS) fun H e s' => hCX H s₁ e s'
end LW

namespace LW
open PySem PySem.Spec PyProof.Rows L2
open Evl (Ex)
/-! ### data in the tracked heap -/
def kD : Key → PyData
  | .inl i => .int i
  | .inr x => .str x
/-- a dict of one entry, whatever its key -/
def odd1 (a : Addr) (k v : V) : HO := .ext fun h => ∃ (o : Obj) (es : Array DictEntry) (ep : Nat) (e : DictEntry), (a == sysModules) = false ∧ h.get? a = some o ∧ o.ExactDict ∧ o.data = .dict es ep ∧ es.toList = [e] ∧ RelV k e.key ∧ RelV v e.val
mutual
def Dt (H : Hp) : PyData → V → Prop
  | .none, v => v = .non
  | .bool b, v => v = .bl b
  | .int i, v => v = .int i
  | .str x, v => v = .str x
  | .list ds, v => ∃ a vs, v = .ref a ∧ L2.Rd H a (.lst vs) ∧ DtL H ds vs
  | .tuple ds, v => ∃ a vs, v = .ref a ∧ L2.Rd H a (.tup vs) ∧ DtL H ds vs
  | .dict kvs, v => ∃ a, v = .ref a ∧ ((∃ es : List (Key × V), L2.Rd H a (.dK es) ∧ (es.map (·.1)).Nodup ∧ DtK H kvs es) ∨ ∃ k u, L2.Rd H a (odd1 a k u) ∧ DtO H kvs k u)
def DtL (H : Hp) : List PyData → List V → Prop
  | [], vs => vs = []
  | d :: r, vs => ∃ v t, vs = v :: t ∧ Dt H d v ∧ DtL H r t
def DtK (H : Hp) : List (PyData × PyData) → List (Key × V) → Prop
  | [], es => es = []
  | (k, d) :: r, es => ∃ x v t, es = (x, v) :: t ∧ k = kD x ∧ Dt H d v ∧ DtK H r t
def DtO (H : Hp) : List (PyData × PyData) → V → V → Prop
  | [], _, _ => False
  | (k, d) :: r, x, v => r = [] ∧ (∀ z, k ≠ .str z) ∧ Dt H k x ∧ Dt H d v
end
theorem rd_ex {H H' : Hp} (e : Ex H H') {a : Addr} {u : HO} (h : L2.Rd H a u) : L2.Rd H' a u := by
  rcases h with h | ⟨o, h⟩
  · exact .inl (e _ _ h)
  · exact .inr ⟨o, e _ _ h⟩
theorem rd_some {H : Hp} {a : Addr} {u : HO} (h : L2.Rd H a u) : ∃ o, H a = some o := by
  rcases h with h | ⟨o, h⟩
  · exact ⟨_, h⟩
  · exact ⟨_, h⟩
/-- what is readable in the one heap is so in the other -/
def NF (u : HO) : Prop := ∀ o' u', u ≠ .frz o' u'
def RdX (H H' : Hp) : Prop := ∀ a u, NF u → L2.Rd H a u → L2.Rd H' a u
theorem nf_lst {vs : List V} : NF (.lst vs) := fun _ _ h => by cases h
theorem nf_tup {vs : List V} : NF (.tup vs) := fun _ _ h => by cases h
theorem nf_dK {vs : List (Key × V)} : NF (.dK vs) := fun _ _ h => by cases h
theorem nf_odd {a : Addr} {k v : V} : NF (odd1 a k v) := fun _ _ h => by
  unfold odd1 at h
  cases h
theorem rdx_ex {H H' : Hp} (e : Ex H H') : RdX H H' := fun _ _ _ h => rd_ex e h
theorem RdX.trans {H H1 H2 : Hp} (a : RdX H H1) (b : RdX H1 H2) : RdX H H2 := fun c u n h => b c u n (a c u n h)
theorem rdx_lock {H : Hp} {a : Addr} {o : Obj} {u : HO} (h : H a = some u) (hu : NF u) : RdX H (upd H a (.frz o u)) := fun b x nx q => by
  by_cases e : b = a
  · subst e
    rcases q with q | ⟨o', q⟩
    · rw [h] at q
      cases q
      exact .inr ⟨o, upd_same⟩
    · rw [h] at q
      cases q
      exact (hu _ _ rfl).elim
  · rcases q with q | ⟨o', q⟩
    · exact .inl (by rw [upd_ne e]; exact q)
    · exact .inr ⟨o', by rw [upd_ne e]; exact q⟩
theorem rdx_free {H : Hp} {a : Addr} {o : Obj} {u : HO} (h : H a = some (.frz o u)) : RdX H (upd H a u) := fun b x nx q => by
  by_cases e : b = a
  · subst e
    rcases q with q | ⟨o', q⟩
    · rw [h] at q
      cases q
      exact (nx _ _ rfl).elim
    · rw [h] at q
      cases q
      exact .inl upd_same
  · rcases q with q | ⟨o', q⟩
    · exact .inl (by rw [upd_ne e]; exact q)
    · exact .inr ⟨o', by rw [upd_ne e]; exact q⟩
theorem rdx_upd {H : Hp} {a : Addr} {o : HO} (h : H a = none) : RdX H (upd H a o) := rdx_ex (Ex.new h)
mutual
theorem Dt.rdx {H H' : Hp} (e : RdX H H') : ∀ {d : PyData} {v : V}, Dt H d v → Dt H' d v
  | .none, _, h => h
  | .bool _, _, h => h
  | .int _, _, h => h
  | .str _, _, h => h
  | .list ds, _, h => by
    unfold Dt at h ⊢
    obtain ⟨a, vs, rfl, ha, hl⟩ := h
    exact ⟨a, vs, rfl, e _ _ nf_lst ha, DtL.rdx e hl⟩
  | .tuple ds, _, h => by
    unfold Dt at h ⊢
    obtain ⟨a, vs, rfl, ha, hl⟩ := h
    exact ⟨a, vs, rfl, e _ _ nf_tup ha, DtL.rdx e hl⟩
  | .dict kvs, _, h => by
    unfold Dt at h ⊢
    obtain ⟨a, rfl, ⟨es, ha, nd, hl⟩ | ⟨k, u, ha, hl⟩⟩ := h
    · exact ⟨a, rfl, .inl ⟨es, e _ _ nf_dK ha, nd, DtK.rdx e hl⟩⟩
    · exact ⟨a, rfl, .inr ⟨k, u, e _ _ nf_odd ha, DtO.rdx e hl⟩⟩
theorem DtL.rdx {H H' : Hp} (e : RdX H H') : ∀ {ds : List PyData} {vs : List V}, DtL H ds vs → DtL H' ds vs
  | [], _, h => h
  | d :: r, _, h => by
    unfold DtL at h ⊢
    obtain ⟨v, t, rfl, h1, h2⟩ := h
    exact ⟨v, t, rfl, Dt.rdx e h1, DtL.rdx e h2⟩
theorem DtK.rdx {H H' : Hp} (e : RdX H H') : ∀ {ds : List (PyData × PyData)} {es : List (Key × V)}, DtK H ds es → DtK H' ds es
  | [], _, h => h
  | (k, d) :: r, _, h => by
    unfold DtK at h ⊢
    obtain ⟨x, v, t, rfl, hk, h1, h2⟩ := h
    exact ⟨x, v, t, rfl, hk, Dt.rdx e h1, DtK.rdx e h2⟩
theorem DtO.rdx {H H' : Hp} (e : RdX H H') : ∀ {ds : List (PyData × PyData)} {k v : V}, DtO H ds k v → DtO H' ds k v
  | [], _, _, h => h
  | (k, d) :: r, _, _, h => by
    unfold DtO at h ⊢
    obtain ⟨hr, hz, h1, h2⟩ := h
    exact ⟨hr, hz, Dt.rdx e h1, Dt.rdx e h2⟩
end
theorem Dt.ex {H H' : Hp} (e : Ex H H') {d : PyData} {v : V} (h : Dt H d v) : Dt H' d v := h.rdx (rdx_ex e)
theorem DtL.ex {H H' : Hp} (e : Ex H H') {d : List PyData} {v : List V} (h : DtL H d v) : DtL H' d v := h.rdx (rdx_ex e)
theorem DtK.ex {H H' : Hp} (e : Ex H H') {d : List (PyData × PyData)} {v : List (Key × V)} (h : DtK H d v) : DtK H' d v := h.rdx (rdx_ex e)
/-! ### lists of data -/
theorem DtL.len {H : Hp} : ∀ {ds : List PyData} {vs : List V}, DtL H ds vs → vs.length = ds.length
  | [], _, h => by unfold DtL at h; rw [h] <;> rfl
  | d :: r, _, h => by
    unfold DtL at h
    obtain ⟨v, t, rfl, _, h2⟩ := h
    rw [List.length_cons, List.length_cons, DtL.len h2]
theorem DtL.get {H : Hp} : ∀ {ds : List PyData} {vs : List V} {i : Nat} {v : V}, DtL H ds vs → vs[i]? = some v → ∃ d, ds[i]? = some d ∧ Dt H d v
  | [], _, i, v, h, e => by unfold DtL at h; rw [h] at e; simp at e
  | d :: r, _, 0, v, h, e => by
    unfold DtL at h
    obtain ⟨v, t, rfl, h1, h2⟩ := h
    simp only [List.getElem?_cons_zero, Option.some.injEq] at e
    subst e
    exact ⟨d, rfl, h1⟩
  | d :: r, _, i + 1, v, h, e => by
    unfold DtL at h
    obtain ⟨v, t, rfl, h1, h2⟩ := h
    rw [List.getElem?_cons_succ] at e ⊢
    exact DtL.get h2 e
theorem DtL.nil {H : Hp} : DtL H [] [] := by unfold DtL; rfl
theorem DtL.cons {H : Hp} {d : PyData} {v : V} {ds : List PyData} {vs : List V} (h : Dt H d v) (t : DtL H ds vs) : DtL H (d :: ds) (v :: vs) := by
  unfold DtL
  exact ⟨v, vs, rfl, h, t⟩
theorem DtL.app {H : Hp} : ∀ {ds es : List PyData} {vs us : List V}, DtL H ds vs → DtL H es us → DtL H (ds ++ es) (vs ++ us)
  | [], _, _, _, h, t => by unfold DtL at h; rw [h]; exact t
  | d :: r, _, _, _, h, t => by
    unfold DtL at h
    obtain ⟨v, q, rfl, h1, h2⟩ := h
    exact DtL.cons h1 (DtL.app h2 t)
/-! ### what the true heap reads -/
theorem keyIs_reads {h : Heap} {k : Key} {v : Value} (e : keyIs k v = true) : Reads h v (kD k) [] := by
  rcases keyIs_shape e with ⟨i, t, rfl, rfl⟩ | ⟨x, t, rfl, rfl⟩
  · exact .int i t
  · exact .str x t
mutual
theorem Dt.reads {P : Program} {w : World} {H : Hp} {h : Heap} (ok : HOk P w H h) (ns : ∀ a o, H a = some o → a ≠ sysModules) : ∀ {d : PyData} {v : V} {u : Value}, Dt H d v → RelV v u → ∃ as, Reads h u d as ∧ sysModules ∉ as
  | .none, v, u, q, r => by
    unfold Dt at q
    subst q
    cases (show u = Value.none from r)
    exact ⟨_, .none, nofun⟩
  | .bool b, v, u, q, r => by
    unfold Dt at q
    subst q
    cases (show u = Value.bool b from r)
    exact ⟨_, .bool b, nofun⟩
  | .int i, v, u, q, r => by
    unfold Dt at q
    subst q
    obtain ⟨t, rfl⟩ := r
    exact ⟨_, .int i t, nofun⟩
  | .str x, v, u, q, r => by
    unfold Dt at q
    subst q
    obtain ⟨t, rfl⟩ := r
    exact ⟨_, .str x t, nofun⟩
  | .list ds, v, u, q, r => by
    unfold Dt at q
    obtain ⟨a, vs, rfl, ha, hl⟩ := q
    cases (show u = Value.ref a from r)
    obtain ⟨_, its, n, rv, e⟩ := ha.ok ok
    obtain ⟨as, hr, hn⟩ := DtL.reads ok ns hl rv
    refine ⟨a :: as, .list e rfl rfl (by simpa using hr), fun z => ?_⟩
    rcases List.mem_cons.mp z with z | z
    · exact (rd_some ha).elim fun _ q => ns a _ q z.symm
    · exact hn z
  | .tuple ds, v, u, q, r => by
    unfold Dt at q
    obtain ⟨a, vs, rfl, ha, hl⟩ := q
    cases (show u = Value.ref a from r)
    obtain ⟨_, its, rv, o, e, hc, n, hd⟩ := ha.ok ok
    obtain ⟨as, hr, hn⟩ := DtL.reads ok ns hl rv
    exact ⟨as, .tuple e hc hd (by simpa using hr), hn⟩
  | .dict kvs, v, u, q, r => by
    unfold Dt at q
    obtain ⟨a, rfl, ⟨es, ha, nd, hl⟩ | ⟨k, x, ha, hl⟩⟩ := q
    · cases (show u = Value.ref a from r)
      obtain ⟨_, hs, vs, rk, o, rs, ep, e, hx, hd, _, pr, _⟩ := ha.ok ok
      obtain ⟨bs, hr, h2, hn⟩ := DtK.reads ok ns hl rk pr
      refine ⟨a :: [] ++ bs, .dict e hx.1 hd hr h2, fun z => ?_⟩
      rcases List.mem_cons.mp z with z | z
      · exact (rd_some ha).elim fun _ q => ns a _ q z.symm
      · exact hn z
    · cases (show u = Value.ref a from r)
      obtain ⟨⟨o, rs, ep, e, hs, e1, hx, hd, e2, rk, rv⟩, _, _⟩ := (show ObjOk P w H h a (.ext fun h => ∃ (o : Obj) (es : Array DictEntry) (ep : Nat) (e : DictEntry), (a == sysModules) = false ∧ h.get? a = some o ∧ o.ExactDict ∧ o.data = .dict es ep ∧ es.toList = [e] ∧ RelV k e.key ∧ RelV x e.val) from ha.ok ok)
      obtain ⟨as, bs, h1, h2, n1, n2⟩ := DtO.reads ok ns hl rk rv
      refine ⟨a :: as ++ bs, .dict e1 hx.1 hd (by rw [e2]; exact h1) (by rw [e2]; exact h2), fun z => ?_⟩
      rcases List.mem_cons.mp z with z | z
      · exact (rd_some ha).elim fun _ q => ns a _ q z.symm
      · rcases List.mem_append.mp z with z | z
        · exact n1 z
        · exact n2 z
theorem DtL.reads {P : Program} {w : World} {H : Hp} {h : Heap} (ok : HOk P w H h) (ns : ∀ a o, H a = some o → a ≠ sysModules) : ∀ {ds : List PyData} {vs : List V} {us : List Value}, DtL H ds vs → Vals vs us → ∃ as, ReadsAll h us ds as ∧ sysModules ∉ as
  | [], _, _, q, r => by
    unfold DtL at q
    subst q
    cases r
    exact ⟨_, .nil, nofun⟩
  | d :: ds, _, _, q, r => by
    unfold DtL at q
    obtain ⟨v, t, rfl, h1, h2⟩ := q
    cases r with
    | cons r1 r2 =>
      obtain ⟨as, a1, n1⟩ := Dt.reads ok ns h1 r1
      obtain ⟨bs, a2, n2⟩ := DtL.reads ok ns h2 r2
      exact ⟨_, .cons a1 a2, fun z => (List.mem_append.mp z).elim n1 n2⟩
theorem DtK.reads {P : Program} {w : World} {H : Hp} {h : Heap} (ok : HOk P w H h) (ns : ∀ a o, H a = some o → a ≠ sysModules) : ∀ {ds : List (PyData × PyData)} {es : List (Key × V)} {vs : List (Key × Value)} {rs : List DictEntry}, DtK H ds es → KV es vs → Pairs (mixKind P w) rs vs →
    ∃ bs, ReadsAll h (rs.map (·.key)) (ds.map (·.1)) [] ∧ ReadsAll h (rs.map (·.val)) (ds.map (·.2)) bs ∧ sysModules ∉ bs
  | [], _, _, rs, q, r, pr => by
    unfold DtK at q
    subst q
    cases r
    cases pr
    exact ⟨_, .nil, .nil, nofun⟩
  | (k, d) :: ds, _, _, rs, q, r, pr => by
    unfold DtK at q
    obtain ⟨x, v, t, rfl, rfl, h1, h2⟩ := q
    cases r with
    | cons r1 r2 =>
      rename_i y ys
      cases pr with
      | @cons e _ rs _ p1 p2 p3 =>
        obtain ⟨y1, y2⟩ := y
        obtain ⟨rk, rv⟩ := r1
        cases (show x = y1 from rk)
        obtain ⟨as, a1, n1⟩ := Dt.reads ok ns h1 (show RelV v e.val by rw [p2]; exact rv)
        obtain ⟨bs, b1, b2, n2⟩ := DtK.reads ok ns h2 r2 p3
        exact ⟨_, .cons (as := []) (bs := []) (keyIs_reads p1) b1, .cons a1 b2, fun z => (List.mem_append.mp z).elim n1 n2⟩
theorem DtO.reads {P : Program} {w : World} {H : Hp} {h : Heap} (ok : HOk P w H h) (ns : ∀ a o, H a = some o → a ≠ sysModules) : ∀ {ds : List (PyData × PyData)} {k v : V} {ku vu : Value}, DtO H ds k v → RelV k ku → RelV v vu →
    ∃ as bs, ReadsAll h [ku] (ds.map (·.1)) as ∧ ReadsAll h [vu] (ds.map (·.2)) bs ∧ sysModules ∉ as ∧ sysModules ∉ bs
  | [], _, _, _, _, q, _, _ => by
    unfold DtO at q
    exact q.elim
  | (k, d) :: ds, _, _, _, _, q, r1, r2 => by
    unfold DtO at q
    obtain ⟨rfl, _, h1, h2⟩ := q
    obtain ⟨as, a1, n1⟩ := Dt.reads ok ns h1 r1
    obtain ⟨bs, a2, n2⟩ := Dt.reads ok ns h2 r2
    refine ⟨_, _, .cons a1 .nil, .cons a2 .nil, ?_, ?_⟩
    · rw [List.append_nil]
      exact n1
    · rw [List.append_nil]
      exact n2
end
end LW

namespace LW
open PySem PySem.Spec PyProof.Rows L2
open Evl (Ex)
/-! ### repr of data -/
structure Calm (X : Cx) : Prop where
  gd : X.A.guards = some []
  sy : ∃ mm, X.base.Ns sysModules mm
  un : X.A.units + 180 < cLine
theorem Calm.of {X : Cx} {k : Nat} (gd : X.A.guards = some []) (sy : ∃ mm, X.base.Ns sysModules mm) (hr : Room k X.A) : Calm X := ⟨gd, sy, by have := hr.un; omega⟩
theorem inv_sys {X : Cx} {pins : List (Addr × Obj)} {σ : L2.St} {H : Hp} {s : Shared} (sy : ∃ mm, X.base.Ns sysModules mm) (I : Inv X pins σ H s) : ∀ a o, H a = some o → a ≠ sysModules := by
  intro a o h e
  subst e
  obtain ⟨mm, ob, es, ep, e, _⟩ := sy
  have q := (I.bs _ _ e).2
  rw [q] at h
  cases h
def rRep : List V → Hp → VK → Prop := fun xs H Q => ∃ v d, xs = [v] ∧ Dt H d v ∧ d.showable = true ∧ d.shown.length ≤ sizeLine ∧ d.depth ≤ 150 ∧ Q (.str d.shown) H
theorem call_repr {X : Cx} (c : Calm X) : CallR X (.builtin "repr") rRep := by
  intro pins s σ H xs us Q I r h
  obtain ⟨v, d, rfl, hd, hs, hz, hdp, q⟩ := h
  obtain ⟨u, rfl, ru⟩ := vals1 r
  have un := c.un
  obtain ⟨as, hr, hn⟩ := Dt.reads I.hok (inv_sys c.sy I) hd ru
  cases hr with
  | none =>
    simp only [PyData.shown] at q
    exact PySem.P.repr_of_none ⟨.str _, H, I.tok _, ⟨_, rfl⟩, q⟩
  | bool b =>
    simp only [PyData.shown] at q
    exact PySem.P.repr_of_bool ⟨.str _, H, I.tok _, ⟨_, rfl⟩, q⟩
  | int i t =>
    simp only [PyData.shown] at q
    exact PySem.P.repr_of_int (by simpa [PyData.showable] using hs) ⟨.str _, H, I.tok _, ⟨_, rfl⟩, q⟩
  | str x t =>
    simp only [PyData.shown] at q hz
    exact PySem.P.repr_of_str ⟨.str _, H, I.tok _, ⟨_, rfl⟩, q⟩ hz
  | list h1 h2 h3 h4 => exact repr_of_reads' (.list h1 h2 h3 h4) hs (fun _ => hn) c.gd (by omega) (fun _ _ e => e) (fun h' u tk k => ⟨.str _, H, I.kept (t' := tk) k, ⟨_, rfl⟩, q⟩) hz
  | tuple h1 h2 h3 h4 => exact repr_of_reads' (.tuple h1 h2 h3 h4) hs (fun _ => hn) c.gd (by omega) (fun _ _ e => e) (fun h' u tk k => ⟨.str _, H, I.kept (t' := tk) k, ⟨_, rfl⟩, q⟩) hz
  | dict h1 h2 h3 h4 h5 => exact repr_of_reads' (.dict h1 h2 h3 h4 h5) hs (fun _ => hn) c.gd (by omega) (fun _ _ e => e) (fun h' u tk k => ⟨.str _, H, I.kept (t' := tk) k, ⟨_, rfl⟩, q⟩) hz
end LW

namespace LW
open PySem PySem.Spec PyProof.Rows L2
open Evl (Ex)
/-! ### isinstance of data -/
def tyD : PyData → String
  | .none => "NoneType"
  | .bool _ => "bool"
  | .int _ => "int"
  | .str _ => "str"
  | .list _ => "list"
  | .tuple _ => "tuple"
  | .dict _ => "dict"
theorem rd_odd {P : Program} {w : World} {H : Hp} {h : Heap} {a : Addr} {k v : V} (ok : HOk P w H h) (r : L2.Rd H a (odd1 a k v)) :
    ∃ (o : Obj) (es : Array DictEntry) (ep : Nat) (e : DictEntry), (a == sysModules) = false ∧ h.get? a = some o ∧ o.ExactDict ∧ o.data = .dict es ep ∧ es.toList = [e] ∧ RelV k e.key ∧ RelV v e.val := (show ObjOk P w H h a (.ext fun h => ∃ (o : Obj) (es : Array DictEntry) (ep : Nat) (e : DictEntry), (a == sysModules) = false ∧ h.get? a = some o ∧ o.ExactDict ∧ o.data = .dict es ep ∧ es.toList = [e] ∧ RelV k e.key ∧ RelV v e.val) from r.ok ok).1
def rIsD (K : PySem.W.Frag) : List V → Hp → VK → Prop := fun xs H Q => ∃ (v : V) (d : PyData) (n : String) (b : Bool), xs = [v, .ty n] ∧ Dt H d v ∧ PySem.W.kitOne K (.type (tyD d)) (.type n) = some b ∧ Q (.bl b) H
theorem isD {X : Cx} (K : PySem.W.Frag) (hK : X.K = K := by rfl) : CallR X (.builtin "isinstance") (rIsD K) := by
  subst hK
  intro pins s σ H xs us Q I r h
  obtain ⟨v, d, n, b, rfl, hd, e, q⟩ := h
  have main : ∀ t, TyX X.K H v (.type t) → tyD d = t → wpAny (model X.prog X.w) X.A (call (.builtin "isinstance") us) (EP X pins σ Q) X.xe s := by
    intro t ht et
    refine call_isi pins s σ H _ us Q I r ⟨v, .ty n, .type t, .type n, b, rfl, .ty n, ht, ?_, q⟩
    rw [← et]
    exact e
  cases d with
  | none => unfold Dt at hd; subst hd; exact main _ (.base .non) rfl
  | bool y => unfold Dt at hd; subst hd; exact main _ (.base (.bl y)) rfl
  | int y => unfold Dt at hd; subst hd; exact main _ (.base (.int y)) rfl
  | str y => unfold Dt at hd; subst hd; exact main _ (.base (.str y)) rfl
  | list ds =>
    unfold Dt at hd
    obtain ⟨a, vs, rfl, ha | ⟨o, ha⟩, _⟩ := hd
    · exact main _ (.base (.lst ha)) rfl
    · exact main _ (.base (.frz ha)) rfl
  | tuple ds =>
    unfold Dt at hd
    obtain ⟨a, vs, rfl, ha | ⟨o, ha⟩, _⟩ := hd
    · exact main _ (.base (.tup ha)) rfl
    · exact main _ (.fTuple ha) rfl
  | dict kvs =>
    unfold Dt at hd
    obtain ⟨a, rfl, ⟨es, ha | ⟨o, ha⟩, _⟩ | ⟨k, u, ha, _⟩⟩ := hd
    · exact main _ (.base (.dK ha)) rfl
    · exact main _ (.fDict ha) rfl
    · obtain ⟨u1, u2, rfl, r1, r2⟩ := vals2 r
      cases (show u1 = Value.ref a from r1)
      cases (show u2 = Value.type n from r2)
      obtain ⟨o, es, ep, en, hs, e1, hx, _⟩ := rd_odd I.hok ha
      exact PySem.W.kia_one PySem.W.kitx_dict I.kIn (show ∃ o, _ from ⟨o, e1, hx.1⟩) e (fun z => nomatch z) fun tk => ⟨.bl b, H, I.tok tk, rfl, q⟩
/-! ### len of a dict -/
section
variable {prog : Program} {w : World} {A : Around} {E : Value → Shared → Prop} {s : Shared}
theorem len_raw {d : Addr} {o : Obj} {es : Array DictEntry} {ep : Nat} {Q : Value → Shared → Prop} (hd : (d == sysModules) = false) (ho : s.heap.get? d = some o) (hc : o.ExactDict) (hdat : o.data = .dict es ep) (hfit : (es.size : Int) < 2 ^ 63)
    (h : Q (.int es.size (s.toks + 1)) { s with toks := s.toks + 1 + 1 }) : wpAny (model prog w) A (call (.builtin "len") [.ref d]) Q E s := by
  have hT : s.TypeIs (.ref d) "dict" := ⟨o, ho, hc.1⟩
  have mt : MeetsIn prog w (Builtin.«dict.__len__» ⟨[.ref d], []⟩) (fun _ R s => s.heap.get? d = some o ∧ R (.ok (.ret (.int es.size s.toks))) { s with toks := s.toks + 1 }) :=
    .of_wp fun A R s q => by
      obtain ⟨ho, q⟩ := q
      show wpAny _ _ (dictSize d >>= _) _ _ s
      unfold dictSize
      apply wpAny_bind
      apply wpAny_bind
      apply wpAny_dictEntries ho hdat
      apply wpAny_pure
      show wpAny _ _ (Builtin.Dict.pendingCount d >>= _) _ _ s
      apply wpAny_bind
      apply wpAny_pendingCount_other hd
      apply wpAny_ret_mkInt
      exact q
  apply Calls.call_function_entry kind_len plain_len entry_len (args_len1 _)
  unfold Builtin.«len»
  refine wpAny_bind (m := oneArg "len" _) (wpAny_pure ?_)
  refine wpAny_bind (m := callSpecial? (.ref d) (Str.ofString "__len__")) (wpAny_callSpecial?_slot (name := Str.ofString "__len__") hT PySem.F.slot_dict_len (call_meetsIn PySem.F.slot_dict_len hT PySem.F.entry_dict_len (PySem.F.args_dict_len_1 _) mt ⟨ho, ?_⟩))
  show wpAny _ _ _ _ _ { s with toks := s.toks + 1 }
  apply wpAny_bind
  apply wpAny_holding
  apply wpAny_pure
  apply wpAny_bind
  apply wpAny_letGo
  show wpAny _ _ (if ((es.size : Nat) : Int) < 0 then _ else _) _ _ _
  rw [if_neg (by omega)]
  show wpAny _ _ (if ((es.size : Nat) : Int) ≥ 2 ^ 63 then _ else _) _ _ _
  rw [if_neg (by omega)]
  apply wpAny_bind
  apply wpAny_mkInt
  exact wpAny_pure ⟨_, rfl, h⟩
end
def rLnD : List V → Hp → VK → Prop := fun xs H Q => ∃ a, xs = [.ref a] ∧ ((∃ kvs, L2.Rd H a (.dK kvs) ∧ Q (.int kvs.length) H) ∨ ∃ k v, L2.Rd H a (odd1 a k v) ∧ Q (.int 1) H)
theorem lnD {X : Cx} : CallR X (.builtin "len") rLnD := by
  intro pins s σ H xs us Q I r h
  obtain ⟨a, rfl, ⟨kvs, ha, q⟩ | ⟨k, v, ha, q⟩⟩ := h
  · obtain ⟨u, rfl, ru⟩ := vals1 r
    cases (show u = Value.ref a from ru)
    exact d_len I ha fun t s' I' => ⟨.int kvs.length, H, I', ⟨_, rfl⟩, q⟩
  · obtain ⟨u, rfl, ru⟩ := vals1 r
    cases (show u = Value.ref a from ru)
    obtain ⟨o, es, ep, en, hs, e1, hx, hd, hl, _⟩ := rd_odd I.hok ha
    have hz : es.size = 1 := by
      rw [← Array.length_toList, hl]
      rfl
    refine len_raw hs e1 hx hd (by rw [hz]; decide) ?_
    rw [hz]
    exact ⟨.int 1, H, I.tok _, ⟨_, rfl⟩, q⟩
end LW

namespace LW
open PySem PySem.Spec PyProof.Rows L2
open Evl (Ex)
/-! ### for x in a dict, whatever its keys -/
def KeysAre (d : Addr) (u : HO) (ks : List V) : Prop := (∃ kvs : List (Key × V), u = .dK kvs ∧ ks = kvs.map fun p => kV p.1) ∨ ∃ k v, u = odd1 d k v ∧ ks = [k]
theorem pairs_at {P : Program} {w : World} : ∀ {rs : List DictEntry} {vs : List (Key × Value)} {kvs : List (Key × V)}, Pairs (mixKind P w) rs vs → KV kvs vs → rs.length = kvs.length ∧ ∀ (i : Nat) (x : V), (kvs.map fun p => kV p.1)[i]? = some x → ∃ en, rs[i]? = some en ∧ RelV x en.key := by
  intro rs vs kvs pr
  induction pr generalizing kvs with
  | nil =>
    intro r
    cases r
    exact ⟨rfl, fun i x e => by simp at e⟩
  | @cons en kv es vs h1 h2 h3 ih =>
    intro r
    cases r with
    | @cons p _ ps _ r1 r2 =>
      obtain ⟨l, g⟩ := ih r2
      refine ⟨by rw [List.length_cons, List.length_cons, l], ?_⟩
      intro i x e
      cases i with
      | zero =>
        rw [List.map_cons, List.getElem?_cons_zero] at e
        cases e
        refine ⟨en, rfl, relV_key ?_⟩
        rw [r1.1]
        exact h1
      | succ j =>
        rw [List.map_cons, List.getElem?_cons_succ] at e
        exact g j x e
section
variable {X : Cx} {pins : List (Addr × Obj)} {σ : L2.St} {H : Hp} {s : Shared} {d : Addr} {o : Obj}
theorem frz_keys {u : HO} {ks : List V} (I : Inv X pins σ H s) (h : H d = some (.frz o u)) (k : KeysAre d u ks) :
    (d == sysModules) = false ∧ s.heap.get? d = some o ∧ o.ExactDict ∧ ∃ (es : Array DictEntry) (ep : Nat), o.data = .dict es ep ∧ es.size = ks.length ∧ ∀ (i : Nat) (x : V), ks[i]? = some x → ∃ en, es[i]? = some en ∧ RelV x en.key := by
  rcases k with ⟨kvs, rfl, rfl⟩ | ⟨k, v, rfl, rfl⟩
  · obtain ⟨hd, _, hs, vs, kv, o', es, ep, ho, hx, hdt, _, pr, _⟩ := I.hok d _ h
    rw [hd] at ho
    cases ho
    obtain ⟨l, g⟩ := pairs_at pr kv
    refine ⟨hs, hd, hx, es, ep, hdt, ?_, fun i x e => ?_⟩
    · rw [← Array.length_toList, l, List.length_map]
    · obtain ⟨en, e1, e2⟩ := g i x e
      exact ⟨en, by rw [← Array.getElem?_toList]; exact e1, e2⟩
  · obtain ⟨hd, _⟩ := I.hok d _ h
    obtain ⟨o', es, ep, en, hs, e1, hx, hdt, hl, rk, _⟩ := rd_odd I.hok (.inr ⟨o, h⟩)
    rw [hd] at e1
    cases e1
    refine ⟨hs, hd, hx, es, ep, hdt, ?_, fun i x e => ?_⟩
    · rw [← Array.length_toList, hl]
      rfl
    · cases i with
      | zero =>
        cases e
        exact ⟨en, by rw [← Array.getElem?_toList, hl] <;> rfl, rk⟩
      | succ j => cases e
end
def Itka (d : Addr) (o : Obj) (u : HO) (ks : List V) : It :=
  ⟨fun i H => H d = some (.frz o u) ∧ i < ks.length, fun i H x H' => H' = H ∧ ks[i]? = some x, fun i H => H d = some (.frz o u) ∧ ks.length ≤ i⟩
theorem turn_ka {P : Program} {w : World} {K : PySem.W.Frag} {tg : Expr} {d : Addr} {o : Obj} {es : Array DictEntry} {ep : Nat} {u : HO} {ks : List V} (it : Addr) (hod : o.data = .dict es ep) (hk : KeysAre d u ks) :
    Turn P w K tg (Itka d o u ks) [it] it (fun i h => h.IsKeyIter it d i ks.length ep) where
  mem := List.mem_cons_self
  obj := by
    intro i h st b hb
    cases List.mem_singleton.mp hb
    obtain ⟨oi, e, c, dd⟩ := st
    refine ⟨oi, e, fun v z => ?_⟩
    rw [dd] at z
    cases z
  keep := by
    intro i h h' st k
    exact st.at fun oi e => k it List.mem_cons_self oi e
  item := by
    intro X hP hw hK hc i pins s σ H E I hf st hg
    subst hP hw hK
    obtain ⟨f0, f1, f2, f3, f4, f5⟩ := hf it List.mem_cons_self
    obtain ⟨hs, hgd, hx, es', ep', hdt, hsz, ent⟩ := frz_keys I hg.1 hk
    obtain ⟨rfl, rfl⟩ := dict_ep hod hdt
    obtain ⟨en, hen, rx⟩ := ent i _ (List.getElem?_eq_getElem hg.2)
    refine next_key_item st hgd hdt hsz hen ?_
    intro h' st' sb
    have I1 : Inv X pins σ H { s with heap := h' } := I.turned (t' := s.toks) (fun b ob hb e => (sb.2 b hb).trans e) f0 f1 f3 f4 f5
    obtain ⟨oi, e, c, dd⟩ := id st'
    exact ⟨en.key, rfl, go_of (s := { s with heap := h' }) e c dd (by decide) ⟨_, H, I1, rx, ⟨rfl, List.getElem?_eq_getElem hg.2⟩, st', fun b hb => (hf b hb).1⟩⟩
  done := by
    intro X hP hw hK hc i pins s σ H E I hf st hg
    subst hP hw hK
    obtain ⟨f0, f1, f2, f3, f4, f5⟩ := hf it List.mem_cons_self
    obtain ⟨hs, hgd, hx, es', ep', hdt, hsz, ent⟩ := frz_keys I hg.1 hk
    obtain ⟨rfl, rfl⟩ := dict_ep hod hdt
    refine next_key_end (I.ok.hd hc) st hgd hdt hsz hg.2 ?_
    intro h' eb
    exact ⟨rfl, I.turned (t' := s.toks) (fun b ob hb e => eb b ob hb e) f0 f1 f3 f4 f5⟩
  self := fun A i s Q E st h => wpAny_pyIter_keyiter st h
def iKa (td : TE) : TI := fun σ H R => td σ H fun x H1 => ∃ d o u ks, x = .ref d ∧ H1 d = some (.frz o u) ∧ KeysAre d u ks ∧ R (Itka d o u ks) H1
theorem pi_ka {X : Cx} {tg e : Expr} {td : TE} (he : PE X e td) : PI X tg e (iKa td) := by
  constructor
  intro pins s σ H R I h
  refine thn (he.run pins s σ H _ I h) ?_
  rintro v s1 ⟨x, H1, I1, rx, d, o, u, ks, rfl, hd, hk, q⟩
  cases (show v = Value.ref d from rx)
  obtain ⟨hs, hgd, hx, es, ep, hdt, hsz, _⟩ := frz_keys I1 hd hk
  refine iter_keys hs hgd hx hdt (pi_one (tk := s1.toks) I1 _ (turn_ka _ hdt hk) ⟨_, Heap.get?_push_size _ rfl, rfl, ?_⟩ q)
  rw [hsz] <;> rfl
/-! ### a loop over such keys -/
end LW

namespace LW
open PySem PySem.Spec PyProof.Rows L2
open Evl (Ex)
theorem walk_ka {d : Addr} {o : Obj} {u : HO} {ks : List V} : Walk (Itka d o u ks) ks.length (fun H => H d = some (.frz o u)) (YAt ks) :=
  ⟨fun _ _ hi q => ⟨q, hi⟩, fun _ q => ⟨q, Nat.le_refl _⟩, fun _ _ _ _ _ _ y => y⟩
/-! ### a dict of one entry, its key None or a tuple -/
def OddKey (H : Hp) (k : V) : Prop := k = .non ∨ ∃ t ks, k = .ref t ∧ H t = some (.tup (List.map kV ks))
def tOdd (tk tv : TE) : TE := fun σ H Q => ∀ p, H p = none → tPairs [(tk, tv)] σ (upd H p (.dK [])) fun ps H2 => ∃ k v, ps = [(k, v)] ∧ H2 p = some (.dK []) ∧ OddKey H2 k ∧ Q (.ref p) (upd H2 p (odd1 p k v))
theorem odd_ok {P : Program} {w : World} {H : Hp} {h : Heap} {a : Addr} {k v : V} {o : Obj} {es : Array DictEntry} {ep : Nat} {e : DictEntry} (hs : (a == sysModules) = false) (ho : h.get? a = some o) (hx : o.ExactDict) (hd : o.data = .dict es ep) (hl : es.toList = [e]) (rk : RelV k e.key) (rv : RelV v e.val) : ObjOk P w H h a (odd1 a k v) :=
  ⟨⟨o, es, ep, e, hs, ho, hx, hd, hl, rk, rv⟩, ⟨o, ho⟩, fun h1 h2 z kp => by
    obtain ⟨o, es, ep, e, hs, ho, q⟩ := z
    exact ⟨o, es, ep, e, hs, kp _ ho, q⟩⟩
theorem pe_odd {X : Cx} {k v : Expr} {tk tv : TE} {pos : Pos} (hu : X.A.units + 64 < cLine) (hk : PE X k tk) (hv : PE X v tv) : PE X (.Dict [some k] [v] pos) (tOdd tk tv) := by
  constructor
  intro pins s σ H Q I q
  have hn := I.hok.fresh (Nat.le_refl s.heap.objs.size)
  have I1 := I.laid (a := s.heap.objs.size) (o := .dK []) (h' := s.heap.push { cls := .type "dict", data := .dict #[] }) (t' := s.toks) (fun _ _ q => Heap.get?_push_of_some _ q) (Nat.le_refl _) (dk_empty s.heap I.big)
  refine wpAny_Dict_any (keys := [some k]) (values := [v]) rfl rfl nofun (by show 1 ≤ 15; decide) ?_
  refine thn ((pps_cons (pos := pos) hk hv pps_nil).run pins _ σ _ _ I1 (q _ hn)) ?_
  rintro ws s2 ⟨ps, H2, I2, rel, kk, vv, rfl, e, ok, q2⟩
  obtain ⟨_, hd, vs0, r0, dd⟩ := dk_of I2.hok e
  cases r0
  have fin : ∀ (h' : Heap) (tk' : Nat) (o : Obj) (es : Array DictEntry) (ep : Nat) (en : DictEntry), Heap.SameBut s.heap.objs.size s2.heap h' → h'.get? s.heap.objs.size = some o → o.ExactDict → o.data = .dict es ep → es.toList = [en] → RelV kk en.key → RelV vv en.val →
      EP X pins σ Q (.ref s.heap.objs.size) { s2 with heap := h', toks := tk' } := by
    intro h' tk' o es ep en hs ho hx hdt hl rk rv
    refine ⟨.ref s.heap.objs.size, _, ?_, rfl, q2⟩
    exact d_write I2 (by rw [e]; exact True.intro) hs ⟨o, ho⟩ (odd_ok hd ho hx hdt hl rk rv)
  cases rel with
  | @cons a b as bs r1 r2 =>
    cases r2
    obtain ⟨b1, b2⟩ := b
    obtain ⟨rk, rv⟩ := r1
    rcases ok with rfl | ⟨t, ks, rfl, ht⟩
    · cases (show b1 = Value.none from rk)
      have em : s2.heap.DictOf (noneKind X.prog X.w) s.heap.objs.size [] := by
        obtain ⟨o, es, ep, h1, h2, h3, h4, h5, h6⟩ := dd
        have he : es = #[] := by
          have : es.toList = [] := by
            cases h7 : es.toList with
            | nil => rfl
            | cons a b =>
              rw [h7] at h5
              cases h5
          exact Array.toList_eq_nil_iff.mp this
        subst he
        exact ⟨o, _, ep, h1, h2, h3, (by intro i hi; simp at hi), .nil, List.nodup_nil⟩
      refine wpAny_storeAll (knd := noneKind X.prog X.w) [(.none, b2)] [(none, b2)] [] s2 _ ⟨rfl, rfl, True.intro⟩ em (by show 0 + 1 ≤ sizeLine; decide) ?_
      intro h' dd' hs
      obtain ⟨o, es, ep, h1, h2, h3, h4, h5, h6⟩ := dd'
      have h5' : Pairs (noneKind X.prog X.w) es.toList [(none, b2)] := h5
      cases hh : es.toList with
      | nil =>
        rw [hh] at h5'
        cases h5'
      | cons en r =>
        rw [hh] at h5'
        cases h5' with
        | cons p1 p2 p3 =>
          cases p3
          refine fin h' _ o es ep en hs h1 h2 h3 hh ?_ ?_
          · exact nk_none p1
          · rw [p2]
            exact rv
    · cases (show b1 = Value.ref t from rk)
      have em : s2.heap.DictOfH (tupleKind (mixKind X.prog X.w)) s.heap.objs.size [] := by
        obtain ⟨o, es, ep, h1, h2, h3, h4, h5, h6⟩ := dd
        refine ⟨o, es, ep, h1, h2, h3, ?_, nofun, List.nodup_nil⟩
        cases h7 : es.toList with
        | nil => rfl
        | cons a b =>
          rw [h7] at h5
          cases h5
      refine PySem.wpAny_storeAllH (knd := tupleKind (mixKind X.prog X.w)) (show X.A.units < cLine by omega) [(.ref t, b2)] [(ks, t, b2)] [] s2 _ ⟨rfl, rfl, key_of I2.hok ht, True.intro⟩ em (by show 0 + 1 ≤ sizeLine; decide) ?_
      intro h' tk' dd' hs
      obtain ⟨o, es, ep, h1, h2, h3, h4, h5, h6⟩ := dd'
      exact fin h' tk' o es ep _ hs h1 h2 h3 h4 rfl rv
end LW

namespace LW
open PySem PySem.Spec PyProof.Rows L2
open Evl (Ex)
/-! ### o[i], o a list or a dict -/
def rIxA (K : PySem.W.Frag) : R2 := fun x y H Q => rIxL K x y H Q ∨ ∃ a kvs k v, x = .ref a ∧ y = kV k ∧ L2.Rd H a (.dK kvs) ∧ valV kvs k = some v ∧ Q v H
theorem ixA {X : Cx} (K : PySem.W.Frag) (hK : X.K = K := by rfl) : IxR X (rIxA K) := by
  subst hK
  intro value slice pins s σ H x y v u Q I rx ry h hs
  rcases h with h | ⟨a, kvs, k, z, rfl, rfl, ha, e, q⟩
  · exact ix_list value slice pins s σ H x y v u Q I rx ry h hs
  · cases (show v = Value.ref a from rx)
    obtain ⟨_, hd, vs, rel, dd⟩ := dk_rd I.hok ha
    obtain ⟨w', hw, rw'⟩ := RelO.some_of (v := z) (o := valueAt vs k) (by rw [← e]; exact rel.val k)
    exact subscriptTail_builtinR (x := w') dd.typeIs PySem.F.slot_dict_getitem.lookup (wpAny_getItem_of (Q := fun r s' => r = w' ∧ EP X pins σ Q r s') (kV_is ry) dd.mapOf hw ⟨rfl, z, H, I.tok _, rw', q⟩) hs
/-! ### o[i] = v, o a list or a dict -/
def rSetA : TSet := fun o i v H Q => rSetL o i v H Q ∨ rSetD o i v H Q
theorem setA {X : Cx} (hu : X.A.units + 1 < cLine) : PSet X rSetA := by
  intro pins s σ H o i v ov iv u Q I ro ri rv h
  rcases h with h | h
  · exact set_list pins s σ H o i v ov iv u Q I ro ri rv h
  · exact set_dict hu pins s σ H o i v ov iv u Q I ro ri rv h
end LW

namespace LW
open PySem PySem.Spec PyProof.Rows L2
open Evl (Ex)
/-! ### a comprehension without a test while the heap only grows: R by the turn, what was gathered, the heap without the new list -/
def LcP (R : Nat → List V → Hp → Prop) (H1 : Hp) (D : Addr) (i : Nat) (H : Hp) : Prop := ∃ acc, Ex H1 (del H D) ∧ H D = some (.lst acc) ∧ acc.length = i ∧ R i acc (del H D)
theorem lc_put {R : Nat → List V → Hp → Prop} {H1 H H4 : Hp} {D : Addr} {i : Nat} {acc : List V} {y : V} (e1 : Ex H1 (del H D)) (hD : H D = some (.lst acc)) (hl : acc.length = i) (hi : i < 100000) (e : Ex H H4) (r : R (i + 1) (acc ++ [y]) (del H4 D)) :
    ∃ acc, H4 D = some (.lst acc) ∧ acc.length < sizeLine ∧ LcP R H1 D (i + 1) (upd H4 D (.lst (acc ++ [y]))) := by
  refine ⟨acc, e _ _ hD, szlt (by omega), acc ++ [y], ?_, upd_same, ?_, ?_⟩
  · exact e1.trans (del_grow e)
  · rw [List.length_append, hl]
    rfl
  · rw [show del (upd H4 D (.lst (acc ++ [y]))) D = del H4 D from ?_]
    · exact r
    · funext b
      by_cases hb : b = D
      · rw [hb, del_same, del_same]
      · rw [del_ne hb, del_ne hb, upd_ne hb]
theorem del_none {H : Hp} {D : Addr} {o : HO} (h : H D = none) : del (upd H D o) D = H := by
  funext b
  by_cases hb : b = D
  · rw [hb, del_same, h]
  · rw [del_ne hb, upd_ne hb]
theorem lc_gr {J : It} {n : Nat} {G : Hp → Prop} {Y : Nat → Hp → V → Hp → Prop} (w : Walk J n G Y) {g : TG} {tt : TT} {te : TE} {vs : List Nat} {σ : L2.St} {H1 : Hp} {D : Addr} {Qd : Hp → Prop} (R : Nat → List V → Hp → Prop)
    (np : H1 D = none) (hn : n ≤ 100000) (h0 : R 0 [] H1) (hG : ∀ H, Ex H1 H → G H)
    (hs : ∀ i x acc H H', i < n → Ex H1 H → Ex H1 (del H D) → H D = some (.lst acc) → acc.length = i → R i acc (del H D) → Y i H x H' → g x (wipe σ vs) H' fun σ2 H2 => wipe σ2 vs = wipe σ vs ∧ tt σ2 H2 fun b H3 =>
      if b = true then te σ2 H3 fun y H4 => ∃ acc, H4 D = some (.lst acc) ∧ acc.length < sizeLine ∧ LcP R H1 D (i + 1) (upd H4 D (.lst (acc ++ [y]))) else LcP R H1 D (i + 1) H3)
    (hd : ∀ acc H, Ex H1 H → Ex H1 (del H D) → H D = some (.lst acc) → acc.length = n → R n acc (del H D) → Qd H) :
    ∃ W : Nat → Nat → Hp → Prop, (∃ m, W 0 m (upd H1 D (.lst []))) ∧ ∀ i m H, W i m H →
      (J.stop i H ∧ Qd H) ∨ (J.go i H ∧ ∃ Nx : Hp → Prop, (∀ H', Nx H' → ∃ m', m' < m ∧ W (i + 1) m' H') ∧ ∀ x H', J.yld i H x H' → g x (wipe σ vs) H' fun σ2 H2 => wipe σ2 vs = wipe σ vs ∧ tt σ2 H2 fun b H3 =>
        if b = true then te σ2 H3 fun y H4 => ∃ acc, H4 D = some (.lst acc) ∧ acc.length < sizeLine ∧ Nx (upd H4 D (.lst (acc ++ [y]))) else Nx H3) := by
  refine lc_it w (LcP R H1 D) ⟨[], ?_, upd_same, rfl, ?_⟩ ?_ ?_ ?_
  · rw [del_none np]
    exact fun _ _ h => h
  · rw [del_none np]
    exact h0
  · rintro i H hi ⟨acc, e, _⟩
    exact hG _ (e.trans ex_del)
  · rintro i x H H' hi ⟨acc, e, hD, hl, r⟩ y
    exact hs i x acc H H' hi (e.trans ex_del) e hD hl r y
  · rintro H ⟨acc, e, hD, hl, r⟩
    exact hd acc H (e.trans ex_del) e hD hl r
end LW

namespace LW
open PySem PySem.Spec L2
open Evl (Ex)
/-! ### small words -/
theorem if_t {c : Bool} {A B : Prop} (hc : c = true) (h : A) : if c = true then A else B := by
  rw [if_pos hc]
  exact h
theorem if_f {c : Bool} {A B : Prop} (hc : c = false) (h : B) : if c = true then A else B := by
  rw [hc, if_neg Bool.false_ne_true]
  exact h
theorem if_b {c : Bool} {A B : Prop} (h1 : c = true → A) (h2 : c = false → B) : if c = true then A else B := by
  cases c with
  | true => exact if_t rfl (h1 rfl)
  | false => exact if_f rfl (h2 rfl)
theorem at_some {α : Type} {xs : List α} {v : Int} (h0 : 0 ≤ v) (h1 : v < xs.length) : ∃ x, atI xs v = some x ∧ x ∈ xs ∧ xs[v.toNat]? = some x := by
  have hj : v.toNat < xs.length := by omega
  refine ⟨xs[v.toNat], ?_, List.getElem_mem hj, by simp [hj]⟩
  have e : ((v.toNat : Nat) : Int) = v := by omega
  have q : atI xs ((v.toNat : Nat) : Int) = some xs[v.toNat] := atI_nat (by simp [hj])
  rw [e] at q
  exact q
abbrev SqLo {K : PySem.W.Frag} {H : Hp} {a : Addr} {xs : List V} (h : H a = some (.lst xs)) : SqL K H a xs := Evl.sq_of h
abbrev SqTo {K : PySem.W.Frag} {H : Hp} {a : Addr} {xs : List V} (h : H a = some (.tup xs)) : SqT K H a xs := Evl.st_of h
/-! ### a statement while a dict is locked, or was locked already -/
def tLockA (t : TS) : TS := fun D σ H => tLock t D σ H ∨ t D σ H
theorem ps_lockA {X : Cx} {st : Stmt} {t : TS} (h : PS X st t) : PS X st (tLockA t) := by
  constructor
  intro pins s σ H D I hw
  rcases hw with hw | hw
  · exact (ps_lock h).run pins s σ H D I hw
  · exact h.run pins s σ H D I hw
theorem ex_unlock {H H' : Hp} {a : Addr} {o : Obj} {u : HO} (h : H a = some u) (e : Ex (upd H a (.frz o u)) H') : Ex H (upd H' a u) := fun b x q => by
  by_cases hb : b = a
  · subst hb
    rw [h] at q
    cases q
    exact upd_same
  · rw [upd_ne hb]
    exact e b x (by rw [upd_ne hb]; exact q)
/-- a returning statement over a dict that is locked or gets locked -/
theorem lockA_ret {t : TS} {D : Ends} {σ : L2.St} {H : Hp} {a : Addr} {u : HO} {y : V} (hu : L2.Rd H a u) (mu : Mut (some u)) (k : ∀ H', Ex H H' → D.rt y H')
    (body : ∀ (Hf : Hp) (o : Obj) (D' : Ends), RdX H Hf → Hf a = some (.frz o u) → (∀ H', Ex Hf H' → D'.rt y H') → t D' σ Hf) : tLockA t D σ H := by
  rcases hu with h | ⟨o, h⟩
  · left
    have nf : NF u := fun o' u' z => by
      rw [z] at mu
      exact mu
    refine ⟨a, u, h, mu, fun od => body _ od _ (rdx_lock h nf) upd_same ?_⟩
    intro H' e
    exact ⟨e _ _ upd_same, k _ (ex_unlock h e)⟩
  · right
    exact body H o D (fun _ _ _ h => h) h k
/-- the same, any result: th H' is the heap behind the unlocking -/
theorem lockA_any {t : TS} {D : Ends} {σ : L2.St} {H : Hp} {a : Addr} {u : HO} (hu : L2.Rd H a u) (mu : Mut (some u))
    (body : ∀ (Hf : Hp) (o : Obj) (D' : Ends) (th : Hp → Hp), RdX H Hf → Hf a = some (.frz o u) → (∀ b, Hf b = none → H b = none) → (∀ H', Ex Hf H' → Ex H (th H') ∧ RdX H' (th H') ∧ ∀ b, b ≠ a → th H' b = H' b) →
      (∀ v H', Ex Hf H' → D.rt v (th H') → D'.rt v H') → (∀ σ' H', Ex Hf H' → D.nx σ' (th H') → D'.nx σ' H') → t D' σ Hf) : tLockA t D σ H := by
  rcases hu with h | ⟨o, h⟩
  · left
    have nf : NF u := fun o' u' z => by
      rw [z] at mu
      exact mu
    refine ⟨a, u, h, mu, fun od => body _ od _ (fun H' => upd H' a u) (rdx_lock h nf) upd_same ?_ ?_ ?_ ?_⟩
    · intro b hb
      by_cases e : b = a
      · rw [e, upd_same] at hb
        cases hb
      · rw [upd_ne e] at hb
        exact hb
    · intro H' e
      exact ⟨ex_unlock h e, rdx_free (e _ _ upd_same), fun b hb => upd_ne hb⟩
    · intro v H' e q
      exact ⟨e _ _ upd_same, q⟩
    · intro v H' e q
      exact ⟨e _ _ upd_same, q⟩
  · right
    exact body H o D (fun H' => H') (fun _ _ _ h => h) h (fun _ h => h) (fun H' e => ⟨e, fun _ _ _ h => h, fun _ _ => rfl⟩) (fun _ _ _ q => q) (fun _ _ _ q => q)
theorem srK {X : Cx} (K : PySem.W.Frag) (h : X.K = K := by rfl) : CallR X (.builtin "sorted") (rSortedS K) := by
  subst h
  exact cr_sortedS
def rStrS : List V → Hp → VK → Prop := fun xs H Q => ∃ a, xs = [.str a] ∧ Q (.str a) H
theorem strS {X : Cx} : CallR X (.type "str") rStrS := SkE.call_str_str
def rLnA (K : PySem.W.Frag) : List V → Hp → VK → Prop := fun xs H Q => rLn K xs H Q ∨ rLnD xs H Q
theorem lnA {X : Cx} (K : PySem.W.Frag) (hK : X.K = K := by rfl) : CallR X (.builtin "len") (rLnA K) := by
  intro pins s σ H xs us Q I r h
  rcases h with h | h
  · exact lnK K hK pins s σ H xs us Q I r h
  · exact lnD pins s σ H xs us Q I r h
theorem pgc {X : Cx} {x : Str} {pos : Pos} {v : V} (hg : Gl X x) (h : ∃ u, X.mg x = some u ∧ RelV v u) (hd : (x == ("__debug__" : Str)) = false := by decide) : PE X (.Name x pos) (tC v) := by
  obtain ⟨u, hm, r⟩ := h
  exact pe_glob hg hm r hd
/-! ### pairs of lists -/
section
variable {α β : Type} {R S : α → β → Prop}
theorem Paired.imp (f : ∀ a b, R a b → S a b) : ∀ {l : List α} {m : List β}, Paired R l m → Paired S l m
  | _, _, .nil => .nil
  | _, _, .cons r t => .cons (f _ _ r) (Paired.imp f t)
theorem Paired.app : ∀ {l l' : List α} {m m' : List β}, Paired R l m → Paired R l' m' → Paired R (l ++ l') (m ++ m')
  | _, _, _, _, .nil, s => s
  | _, _, _, _, .cons r t, s => .cons r (Paired.app t s)
theorem Paired.get : ∀ {l : List α} {m : List β} {i : Nat} {a : α}, Paired R l m → l[i]? = some a → ∃ b, m[i]? = some b ∧ R a b
  | _, _, _, _, .nil, e => by simp at e
  | _, _, 0, _, .cons r _, e => by
    simp at e
    subst e
    exact ⟨_, rfl, r⟩
  | _, _, i + 1, a, .cons _ t, e => by
    obtain ⟨b, h1, h2⟩ := Paired.get (i := i) (a := a) t (by simpa using e)
    exact ⟨b, by simpa using h1, h2⟩
theorem Paired.get' : ∀ {l : List α} {m : List β} {i : Nat} {b : β}, Paired R l m → m[i]? = some b → ∃ a, l[i]? = some a ∧ R a b
  | _, _, _, _, .nil, e => by simp at e
  | _, _, 0, _, .cons r _, e => by
    simp at e
    subst e
    exact ⟨_, rfl, r⟩
  | _, _, i + 1, a, .cons _ t, e => by
    obtain ⟨b, h1, h2⟩ := Paired.get' (i := i) (b := a) t (by simpa using e)
    exact ⟨b, by simpa using h1, h2⟩
theorem Paired.len : ∀ {l : List α} {m : List β}, Paired R l m → l.length = m.length
  | _, _, .nil => rfl
  | _, _, .cons _ t => by simp [Paired.len t]
theorem Paired.of_get : ∀ {l : List α} {m : List β}, l.length = m.length → (∀ (i : Nat) (a : α) (b : β), l[i]? = some a → m[i]? = some b → R a b) → Paired R l m
  | [], [], _, _ => .nil
  | a :: l, b :: m, h, f => .cons (f 0 a b rfl rfl) (Paired.of_get (by simpa using h) fun i x y h1 h2 => f (i + 1) x y (by simpa using h1) (by simpa using h2))
end
end LW

namespace LW
open PySem PySem.Spec L2 PySem.SeqAt
open AutoSeq1 (wpAny_loadPart')
open MeetsSeq MeetsSeq2 MeetsSeq3 SeqRoads2
section
variable {prog : Program} {w : World}
/-- list != over items that are equal, one by one -/
theorem ne_same {p q : Addr} {xs ys : Array Value} {n m : Nat} {dp dq : Option Addr} {sp sq : Array (Option Value)} (hz : xs.size = ys.size) (left : Nat) :
    ∀ i : Nat, xs.size - i = left → MeetsIn prog w (Builtin.«list.__eq__.loop» ⟨[.ref p, .ref q, rawInt i, rawInt 3], []⟩) (fun A R s => s.heap.get? p = some ⟨.type "list", dp, .seq xs n, sp⟩ ∧ s.heap.get? q = some ⟨.type "list", dq, .seq ys m, sq⟩ ∧
        (∀ j (h1 : j < xs.size) (h2 : j < ys.size), EqP prog w A.in1 s xs[j] ys[j] true) ∧ R (.ok (.ret (.bool false))) s) := by
  induction left with
  | zero =>
    rintro i hi A R ⟨hp, g, d, tk, os⟩ ⟨ha, hb, he, h⟩
    wp_walk using wpAny_loadPart' ha, wpAny_loadPart' hb
    rw [show xs[((i : Nat) : Int).toNat]? = none by simp; omega, show ys[((i : Nat) : Int).toNat]? = none by simp; omega]
    wp_walk using wpAny_loadPart' ha, wpAny_loadPart' hb
    show R (.ok (.ret (.bool (xs.size != ys.size)))) _
    rw [hz, bne_self_eq_false]
    exact h
  | succ left ih =>
    rintro i hi A R ⟨hp, g, d, tk, os⟩ ⟨ha, hb, he, h⟩
    wp_walk using wpAny_loadPart' ha, wpAny_loadPart' hb
    have l1 : i < xs.size := by omega
    have l2 : i < ys.size := by omega
    rw [show xs[((i : Nat) : Int).toNat]? = some xs[i] by simp [l1], show ys[((i : Nat) : Int).toNat]? = some ys[i] by simp [l2]]
    refine wpAny_bind (he i l1 l2 _ _ ?_)
    wp_walk
    rw [show ((i : Int) + 1) = ((i + 1 : Nat) : Int) by omega]
    refine ⟨plainId_quiet plain_eq_loop _, codeAny_builtin entry_eq_loop ?_⟩
    rw [Around.under_plainId plain_eq_loop _]
    exact ih (i + 1) (by omega) A R _ ⟨ha, hb, he, h⟩
theorem list_ne_same {p q : Addr} {xs ys : Array Value} {n m : Nat} {dp dq : Option Addr} {sp sq : Array (Option Value)} (hz : xs.size = ys.size) :
    MeetsIn prog w (Builtin.«list.__ne__» ⟨[.ref p, .ref q], []⟩) (fun A R s => s.heap.get? p = some ⟨.type "list", dp, .seq xs n, sp⟩ ∧ s.heap.get? q = some ⟨.type "list", dq, .seq ys m, sq⟩ ∧
        (∀ j (h1 : j < xs.size) (h2 : j < ys.size), EqP prog w A.in1 s xs[j] ys[j] true) ∧ R (.ok (.ret (.bool false))) s) := by
  rintro A R ⟨hp, g, d, tk, os⟩ ⟨ha, hb, he, h⟩
  have sub := AutoSeq1.sub_list_list
  have lens : ¬ (xs.size != ys.size) = true := by simp [hz]
  wp_walk using wpAny_loadPart' ha, wpAny_loadPart' hb
  refine ⟨plainId_quiet plain_eq_loop _, codeAny_builtin entry_eq_loop ?_⟩
  rw [Around.under_plainId plain_eq_loop _]
  exact ne_same hz _ 0 rfl A R _ ⟨ha, hb, he, h⟩
theorem rcne_lists {A : Around} {s : Shared} {p q : Addr} {xs ys : Array Value} (ha : s.heap.IsList p xs) (hb : s.heap.IsList q ys) (hz : xs.size = ys.size) (hu : A.units < cLine)
    (he : ∀ j (h1 : j < xs.size) (h2 : j < ys.size), EqP prog w A.in1 s xs[j] ys[j] true) (E Q : Value → Shared → Prop) (h : Q (.bool false) s) : wpAny (model prog w) A (richCompare .NotEq (.ref p) (.ref q)) Q E s := by
  obtain ⟨⟨c1, d1, da1, s1⟩, o1, e1, n, e2⟩ := id ha
  obtain ⟨⟨c2, d2, da2, s2⟩, o2, e3, m, e4⟩ := id hb
  simp only at e1 e2 e3 e4
  subst e1 e2 e3 e4
  have t1 : s.TypeIs (.ref p) "list" := ⟨_, o1, rfl⟩
  have t2 : s.TypeIs (.ref q) "list" := ⟨_, o2, rfl⟩
  refine wpAny_richCompare_same_room (op := .NotEq) t1 t2 F.slot_list_ne (call_meetsIn F.slot_list_ne t1 F.entry_list_ne (F.args_list_ne_2 _ _) (list_ne_same hz) ⟨o1, o2, he, ?_⟩) hu
  exact ⟨(fun z => nomatch z), h⟩
theorem rcne_dicts {A : Around} {s : Shared} {κ : Type} [DecidableEq κ] {knd : KeyKind prog w κ} {a b : Addr} {ka kb : List (κ × Value)} (ha : (a == sysModules) = false) (hb : (b == sysModules) = false)
    (da : s.heap.DictOf knd a ka) (db : s.heap.DictOf knd b kb) (hu : A.units < cLine) (hl : ka.length = kb.length) (hits : PySem.W.KeqHitsP prog w A.in1 s kb ka true) (E Q : Value → Shared → Prop) (h : Q (.bool false) s) :
    wpAny (model prog w) A (richCompare .NotEq (.ref a) (.ref b)) Q E s := by
  refine wpAny_richCompare_same_room (op := .NotEq) da.typeIs db.typeIs F.slot_dict_ne (wpAny_call_entry F.slot_dict_ne da.typeIs F.entry_dict_ne ?_ (F.args_dict_ne_2 _ _)) hu
  show wpAny _ _ (Builtin.Dict.dictSlotArgs "__ne__" ⟨[Value.ref a, Value.ref b], []⟩ >>= _) _ _ s
  apply wpAny_bind
  unfold Builtin.Dict.dictSlotArgs
  refine wpAny_bind (wpAny_notOrdered_dict da.typeIs (show wpAny _ _ (pure (Value.ref a, Value.ref b)) _ _ s from wpAny_pure (wpAny_bind (wpAny_isInstance (T := "dict") db.typeIs F.sub_dict_dict ?_))))
  simp only [Bool.not_true, Bool.false_eq_true, if_false]
  refine wpAny_bind (wpAny_pure (wpAny_bind (wpAny_pure (wpAny_bind (PySem.W.samePairsP ha hb da db (fun _ => hits) ?_)))))
  refine wpAny_pure ⟨_, rfl, (fun z => nomatch z), ?_⟩
  rw [hl]
  simpa using h
end
/-! ### values with the same data are equal -/
mutual
def plainD : PyData → Prop
  | .int _ => True
  | .str _ => True
  | .list ds => plainL ds
  | .dict kvs => plainK kvs
  | _ => False
def plainL : List PyData → Prop
  | [] => True
  | d :: r => plainD d ∧ plainL r
def plainK : List (PyData × PyData) → Prop
  | [] => True
  | (k, d) :: r => (∃ x, k = .str x) ∧ plainD d ∧ plainK r
end
def Same (H : Hp) (n : Nat) (x y : V) : Prop := ∃ d, plainD d ∧ d.depth ≤ n ∧ Dt H d x ∧ Dt H d y
theorem same_list {H : Hp} {n : Nat} : ∀ {ds : List PyData} {xs ys : List V}, plainL ds → PyData.depthAll ds ≤ n → DtL H ds xs → DtL H ds ys → Paired (Same H n) xs ys
  | [], _, _, _, _, h, g => by
    unfold DtL at h g
    subst h g
    exact .nil
  | d :: r, _, _, hp, hd, h, g => by
    unfold plainL at hp
    unfold DtL at h g
    rw [PyData.depthAll] at hd
    obtain ⟨v, t, rfl, h1, h2⟩ := h
    obtain ⟨v', t', rfl, g1, g2⟩ := g
    exact .cons ⟨d, hp.1, by omega, h1, g1⟩ (same_list (n := n) hp.2 (by omega) h2 g2)
theorem same_keys {H : Hp} : ∀ {ds : List (PyData × PyData)} {xs ys : List (Key × V)}, plainK ds → DtK H ds xs → DtK H ds ys → xs.map (·.1) = ys.map (·.1)
  | [], _, _, _, h, g => by
    unfold DtK at h g
    subst h g
    rfl
  | (k, d) :: r, _, _, hp, h, g => by
    unfold plainK at hp
    unfold DtK at h g
    obtain ⟨x, v, t, rfl, hk, h1, h2⟩ := h
    obtain ⟨x', v', t', rfl, hk', g1, g2⟩ := g
    have e : x = x' := by
      rw [hk] at hk'
      cases x with
      | inl i => cases x' with
        | inl j => cases hk'; rfl
        | inr j => cases hk'
      | inr i => cases x' with
        | inl j => cases hk'
        | inr j => cases hk'; rfl
    rw [List.map_cons, List.map_cons, same_keys hp.2.2 h2 g2, e]
theorem val_cons {ls : List (Key × V)} {p : Key × V} {k : Key} {u : V} (h : valV ls k = some u) (hn : p.1 ∉ ls.map (·.1)) : valV (p :: ls) k = some u := by
  rw [valV_neg (p := p) fun e => ?_]
  · exact h
  · unfold valV at h
    cases f : ls.find? fun kv => decide (kv.1 = k) with
    | none =>
      rw [f] at h
      cases h
    | some q =>
      have h1 := List.mem_of_find?_eq_some f
      have h2 := List.find?_some f
      have h2 : q.1 = k := of_decide_eq_true h2
      exact hn (by rw [e, ← h2]; exact List.mem_map_of_mem h1)
theorem same_dict {H : Hp} {n : Nat} : ∀ {ds : List (PyData × PyData)} {xs ys : List (Key × V)}, plainK ds → PyData.depthKv ds ≤ n → (xs.map (·.1)).Nodup → DtK H ds xs → DtK H ds ys → ∀ p ∈ xs, ∃ u, valV ys p.1 = some u ∧ Same H n p.2 u
  | [], _, _, _, _, _, h, _ => by
    unfold DtK at h
    subst h
    exact nofun
  | (k, d) :: r, _, _, hp, hd, nd, h, g => by
    have hkeys := same_keys hp h g
    unfold plainK at hp
    unfold DtK at h g
    rw [PyData.depthKv] at hd
    obtain ⟨x, v, t, rfl, hk, h1, h2⟩ := h
    obtain ⟨x', v', t', rfl, hk', g1, g2⟩ := g
    rw [List.map_cons, List.map_cons] at hkeys
    have ex : x = x' := (List.cons.inj hkeys).1
    have et : t.map (·.1) = t'.map (·.1) := (List.cons.inj hkeys).2
    subst ex
    rw [List.map_cons, List.nodup_cons] at nd
    intro p hpm
    rcases List.mem_cons.mp hpm with rfl | hpm
    · exact ⟨v', valV_pos (p := (x, v')) rfl, d, hp.2.1, by omega, h1, g1⟩
    · obtain ⟨u, hu1, hu2⟩ := same_dict (n := n) hp.2.2 (by omega) nd.2 h2 g2 p hpm
      exact ⟨u, val_cons hu1 (by show x ∉ _; rw [← et]; exact nd.1), hu2⟩
theorem plain_no_odd {H : Hp} {ds : List (PyData × PyData)} {k v : V} (hp : plainK ds) (h : DtO H ds k v) : False := by
  match ds, hp, h with
  | [], _, h => unfold DtO at h; exact h
  | (kd, d) :: r, hp, h =>
    unfold DtO at h
    unfold plainK at hp
    obtain ⟨x, e⟩ := hp.1
    exact h.2.1 x e
section
variable {X : Cx} {pins : List (Addr × Obj)} {σ : L2.St} {H : Hp} {s : Shared}
theorem rd_list (I : L2.Inv X pins σ H s) {a : Addr} {xs : List V} (h : L2.Rd H a (.lst xs)) : ∃ us, Vals xs us ∧ s.heap.IsList a us.toArray := by
  obtain ⟨us, r, p, _⟩ := I.list (.inl h)
  exact ⟨us, r, p.isList⟩
/-- equality, and inequality, of two places with the same data -/
theorem same_run (I : L2.Inv X pins σ H s) : ∀ (n : Nat) (A : Around), A.units + n + 1 < cLine → ∀ (x y : V) (v u : Value), Same H n x y → RelV x v → RelV y u → EqP X.prog X.w A s v u true
  | n, A, hu, x, y, v, u, ⟨d, hp, hd, h, g⟩, rx, ry => by
    cases d with
    | int i =>
      unfold Dt at h g
      subst h g
      exact (eqAt_same rx ry rfl).eqP
    | str i =>
      unfold Dt at h g
      subst h g
      exact (eqAt_same rx ry rfl).eqP
    | list ds =>
      unfold plainD at hp
      rw [PyData.depth] at hd
      match n, hd with
      | n + 1, hd =>
      unfold Dt at h g
      obtain ⟨a, xs, rfl, ha, hl⟩ := h
      obtain ⟨b, ys, rfl, hb, gl⟩ := g
      cases (show v = Value.ref a from rx)
      cases (show u = Value.ref b from ry)
      by_cases e : a = b
      · subst e
        exact (SeqAt.EqAt.same _).eqP
      obtain ⟨us, r1, p1⟩ := rd_list I ha
      obtain ⟨ws, r2, p2⟩ := rd_list I hb
      have pr := same_list (n := n) hp (by omega) hl gl
      have hsz : us.toArray.size = ws.toArray.size := by
        rw [List.size_toArray, List.size_toArray, ← r1.length, ← r2.length]
        exact Paired.length pr
      refine SeqAt.eqP_refs e fun E Q q => SeqAt.rcP_lists (e := fun _ => true) p1 p2 hsz (by omega) (fun j h1 h2 => ?_) E Q ?_
      · have k := items_run (same_run I n A.in1 (by show A.units + 1 + n + 1 < cLine; omega)) pr r1 r2 j (by simpa using h1) (by simpa using h2)
        simpa using k
      · rw [show ((List.range us.toArray.size).all fun _ => true) = true from List.all_eq_true.mpr fun _ _ => rfl]
        exact q
    | dict kvs =>
      unfold plainD at hp
      rw [PyData.depth] at hd
      match n, hd with
      | n + 1, hd =>
      unfold Dt at h g
      obtain ⟨a, rfl, ⟨es, ha, nd, hl⟩ | ⟨k1, k2, _, hl⟩⟩ := h
      rotate_left
      · exact (plain_no_odd hp hl).elim
      obtain ⟨b, rfl, ⟨fs, hb, nd', gl⟩ | ⟨k1, k2, _, gl⟩⟩ := g
      rotate_left
      · exact (plain_no_odd hp gl).elim
      cases (show v = Value.ref a from rx)
      cases (show u = Value.ref b from ry)
      by_cases e : a = b
      · subst e
        exact (SeqAt.EqAt.same _).eqP
      obtain ⟨_, ya, va, ra, da⟩ := (show ObjOk X.prog X.w H s.heap a (.dK es) from ha.ok I.hok)
      obtain ⟨_, yb, vb, rb, db⟩ := (show ObjOk X.prog X.w H s.heap b (.dK fs) from hb.ok I.hok)
      have hlen : va.length = vb.length := by
        rw [← ra.length, ← rb.length]
        have := congrArg List.length (same_keys hp hl gl)
        rw [List.length_map, List.length_map] at this
        exact this
      refine SeqAt.eqP_refs e fun E Q q => PySem.W.rcP_dicts (knd := mixKind X.prog X.w) (r := true) ya yb da db (by omega) (fun _ => hits_run (same_run I n A.in1 (by show A.units + 1 + n + 1 < cLine; omega)) rb ra (same_dict (n := n) hp (by omega) nd hl gl)) E Q ?_
      rw [hlen]
      simpa using q
    | _ => unfold plainD at hp; exact hp.elim
end
/-- a != b of two with the same data -/
def rNeS : R2 := fun x y H Q => ∃ n, n ≤ 100 ∧ Same H n x y ∧ Q (.bl false) H
theorem op_neS {X : Cx} (hu : X.A.units + 180 < cLine) : OpR X (compareOp .NotEq) rNeS := by
  intro pins s σ H x y v u Q I rx ry h
  obtain ⟨n, hn, ⟨d, hp, hd, h, g⟩, q⟩ := h
  cases d with
  | int i =>
    unfold Dt at h g
    subst h g
    exact op_ne pins s σ H _ _ v u Q I rx ry ⟨rfl, by rw [decide_eq_true rfl]; exact q⟩
  | str i =>
    unfold Dt at h g
    subst h g
    exact op_ne pins s σ H _ _ v u Q I rx ry ⟨rfl, by rw [decide_eq_true rfl]; exact q⟩
  | list ds =>
    unfold plainD at hp
    rw [PyData.depth] at hd
    unfold Dt at h g
    obtain ⟨a, xs, rfl, ha, hl⟩ := h
    obtain ⟨b, ys, rfl, hb, gl⟩ := g
    cases (show v = Value.ref a from rx)
    cases (show u = Value.ref b from ry)
    obtain ⟨us, r1, p1⟩ := rd_list I ha
    obtain ⟨ws, r2, p2⟩ := rd_list I hb
    have pr := same_list (n := n) hp (by omega) hl gl
    have hsz : us.toArray.size = ws.toArray.size := by
      rw [List.size_toArray, List.size_toArray, ← r1.length, ← r2.length]
      exact Paired.length pr
    refine rcne_lists p1 p2 hsz (by omega) (fun j h1 h2 => ?_) _ _ ⟨.bl false, H, I, rfl, q⟩
    have k := items_run (same_run I n X.A.in1 (by show X.A.units + 1 + n + 1 < cLine; omega)) pr r1 r2 j (by simpa using h1) (by simpa using h2)
    simpa using k
  | dict kvs =>
    unfold plainD at hp
    rw [PyData.depth] at hd
    unfold Dt at h g
    obtain ⟨a, rfl, ⟨es, ha, nd, hl⟩ | ⟨k1, k2, _, hl⟩⟩ := h
    rotate_left
    · exact (plain_no_odd hp hl).elim
    obtain ⟨b, rfl, ⟨fs, hb, nd', gl⟩ | ⟨k1, k2, _, gl⟩⟩ := g
    rotate_left
    · exact (plain_no_odd hp gl).elim
    cases (show v = Value.ref a from rx)
    cases (show u = Value.ref b from ry)
    obtain ⟨_, ya, va, ra, da⟩ := (show ObjOk X.prog X.w H s.heap a (.dK es) from ha.ok I.hok)
    obtain ⟨_, yb, vb, rb, db⟩ := (show ObjOk X.prog X.w H s.heap b (.dK fs) from hb.ok I.hok)
    have hlen : va.length = vb.length := by
      rw [← ra.length, ← rb.length]
      have := congrArg List.length (same_keys hp hl gl)
      rw [List.length_map, List.length_map] at this
      exact this
    exact rcne_dicts (knd := mixKind X.prog X.w) ya yb da db (by omega) hlen (hits_run (same_run I n X.A.in1 (by show X.A.units + 1 + n + 1 < cLine; omega)) rb ra (same_dict (n := n) hp (by omega) nd hl gl)) _ _ ⟨.bl false, H, I, rfl, q⟩
  | _ => unfold plainD at hp; exact hp.elim
end LW

namespace LW
open PySem PySem.Spec L2 PySem.SeqAt
open AutoSeq1 (wpAny_loadPart')
open MeetsSeq MeetsSeq2 MeetsSeq3 SeqRoads2
theorem tuple_no_dict (p a : Addr) (xs : Array Value) (n : Nat) (dp dq : Option Addr) (sp sq : Array (Option Value)) (da : Data) :
    Meets (Builtin.«tuple.__eq__» ⟨[.ref p, .ref a], []⟩) (fun _ R s => s.heap.get? p = some ⟨.type "tuple", dp, .seq xs n, sp⟩ ∧ s.heap.get? a = some ⟨.type "dict", dq, da, sq⟩ ∧ R (.ok (.ret .notImplemented)) s) :=
  .of_wp fun prog w A R s h => by
    obtain ⟨hp, g, d, tk, os⟩ := s
    obtain ⟨h1, h2, h⟩ := h
    have sub := F.sub_dict_tuple
    wp_walk using wpAny_loadPart' h1, wpAny_loadPart' h2
    exact ⟨_, rfl, h⟩
theorem int_no_dict (i : Int) (u : Tok) (a : Addr) (dq : Option Addr) (sq : Array (Option Value)) (da : Data) :
    Meets (Builtin.«int.__eq__» ⟨[.int i u, .ref a], []⟩) (fun _ R s => s.heap.get? a = some ⟨.type "dict", dq, da, sq⟩ ∧ (∀ k es, da ≠ .seq k es) ∧ (∃ es ep, da = .dict es ep) ∧ R (.ok (.ret .notImplemented)) s) :=
  .of_wp fun prog w A R s h => by
    obtain ⟨hp, g, d, tk, os⟩ := s
    obtain ⟨h2, _, ⟨es, ep, rfl⟩, h⟩ := h
    wp_walk using wpAny_loadPart' h2, wpAny_load h2
    exact ⟨_, rfl, h⟩
theorem str_no_dict (i : Str) (u : Tok) (a : Addr) (dq : Option Addr) (sq : Array (Option Value)) (da : Data) :
    Meets (Builtin.«str.__eq__» ⟨[.str i u, .ref a], []⟩) (fun _ R s => s.heap.get? a = some ⟨.type "dict", dq, da, sq⟩ ∧ (∃ es ep, da = .dict es ep) ∧ R (.ok (.ret .notImplemented)) s) :=
  .of_wp fun prog w A R s h => by
    obtain ⟨hp, g, d, tk, os⟩ := s
    obtain ⟨h2, ⟨es, ep, rfl⟩, h⟩ := h
    wp_walk using wpAny_loadPart' h2, wpAny_load h2
    exact ⟨_, rfl, h⟩
section
variable {prog : Program} {w : World} {A : Around} {E : Value → Shared → Prop} {s : Shared}
theorem dict_no {a : Addr} {x : Value} {T : String} {Q : Value → Shared → Prop} (ta : s.TypeIs (.ref a) "dict") (tx : s.TypeIs x T) (hs : isSubtype (.type T) (.type "dict") = pure false) (h : Q .notImplemented s) :
    wpAny (model prog w) A (call (.builtin "dict.__eq__") [.ref a, x]) Q E s := by
  refine wpAny_call_entry F.slot_dict_eq ta F.entry_dict_eq ?_ (F.args_dict_eq_2 _ _)
  show wpAny _ _ (Builtin.Dict.dictSlotArgs "__eq__" ⟨[Value.ref a, x], []⟩ >>= _) _ _ s
  apply wpAny_bind
  unfold Builtin.Dict.dictSlotArgs
  refine wpAny_bind (wpAny_notOrdered_dict ta (show wpAny _ _ (pure (Value.ref a, x)) _ _ s from wpAny_pure (wpAny_bind (wpAny_isInstance (T := T) tx hs ?_))))
  simp only [Bool.not_false, if_true]
  refine wpAny_bind (wpAny_rule ?_)
  exact wpAny_bind (wpAny_pure (wpAny_pure ⟨_, rfl, h⟩))
end
section
variable {A : Around} {s : Shared} {a : Addr} {o : Obj} {es : Array DictEntry} {ep : Nat}
theorem eqAt_int_dict {i : Int} {t : Tok} (ho : s.heap.get? a = some o) (hx : o.ExactDict) (hd : o.data = .dict es ep) (hu : A.units < cLine) : EqAt A s (.int i t) (.ref a) false := by
  intro prog w E Q h
  obtain ⟨c, dq, da, sq⟩ := o
  have hc : c = .type "dict" := hx.1
  subst hc
  simp only at hd
  unfold eqBool
  refine wpAny_holding (wpAny_ite_split (fun hab => absurd (eq_of_beq hab) nofun) fun _ => wpAny_bind ?_)
  refine rc_eq_decline_or (k := false) rfl ⟨_, ho, rfl⟩ (by decide) F.sub_dict_int F.slot_int_eq F.slot_dict_eq_refl (fun _ hq => ?_) (fun _ hq => ?_) (fun _ hq => wpAny_of_eq (rfl : isSame (.int i t) (.ref a) = pure false) hq) (.inr hu) (wpAny_truthy_bool h)
  · exact call_meets F.slot_int_eq rfl F.entry_int_eq (F.args_int_eq_2 _ _) (int_no_dict i t a dq sq da) ⟨ho, (fun _ _ z => by rw [hd] at z; cases z), ⟨es, ep, hd⟩, hq⟩
  · exact dict_no ⟨_, ho, rfl⟩ (T := "int") rfl F.sub_int_dict hq
theorem eqAt_str_dict {i : Str} {t : Tok} (ho : s.heap.get? a = some o) (hx : o.ExactDict) (hd : o.data = .dict es ep) (hu : A.units < cLine) : EqAt A s (.str i t) (.ref a) false := by
  intro prog w E Q h
  obtain ⟨c, dq, da, sq⟩ := o
  have hc : c = .type "dict" := hx.1
  subst hc
  simp only at hd
  unfold eqBool
  refine wpAny_holding (wpAny_ite_split (fun hab => absurd (eq_of_beq hab) nofun) fun _ => wpAny_bind ?_)
  refine rc_eq_decline_or (k := false) rfl ⟨_, ho, rfl⟩ (by decide) F.sub_dict_str F.slot_str_eq F.slot_dict_eq_refl (fun _ hq => ?_) (fun _ hq => ?_) (fun _ hq => wpAny_of_eq (rfl : isSame (.str i t) (.ref a) = pure false) hq) (.inr hu) (wpAny_truthy_bool h)
  · exact call_meets F.slot_str_eq rfl F.entry_str_eq (F.args_str_eq_2 _ _) (str_no_dict i t a dq sq da) ⟨ho, ⟨es, ep, hd⟩, hq⟩
  · exact dict_no ⟨_, ho, rfl⟩ (T := "str") rfl F.sub_str_dict hq
theorem eqAt_tuple_dict {p : Addr} {xs : Array Value} (hp : s.heap.IsTuple p xs) (ho : s.heap.get? a = some o) (hx : o.ExactDict) (hu : A.units < cLine) : EqAt A s (.ref p) (.ref a) false := by
  have ne : p ≠ a := fun e => by
    obtain ⟨o2, h2, hc2, _⟩ := hp
    rw [e, ho] at h2
    cases h2
    have h1 : o.cls = .type "dict" := hx.1
    rw [h1] at hc2
    exact absurd hc2 (by simp)
  obtain ⟨⟨c, dp, dd, sp⟩, hp2, hc, n, hd⟩ := hp
  simp only at hc hd
  subst hc hd
  obtain ⟨c, dq, da, sq⟩ := o
  have hc : c = .type "dict" := hx.1
  subst hc
  refine .of_refs ne fun prog w E Q h => ?_
  refine rc_eq_decline_or (k := false) ⟨_, hp2, rfl⟩ ⟨_, ho, rfl⟩ (by decide) F.sub_dict_tuple F.slot_tuple_eq F.slot_dict_eq_refl (fun _ hq => ?_) (fun _ hq => ?_) (fun _ hq => wpAny_isSame_ref_other' ne hp2 ho (by simp) hq) (.inr hu) h
  · exact call_meets F.slot_tuple_eq ⟨_, hp2, rfl⟩ F.entry_tuple_eq (F.args_tuple_eq_2 _ _) (tuple_no_dict p a xs n dp dq sp sq da) ⟨hp2, ho, hq⟩
  · exact dict_no ⟨_, ho, rfl⟩ (T := "tuple") ⟨_, hp2, rfl⟩ F.sub_tuple_dict hq
end
/-- texts and ints -/
def flat2 (x : V) : Prop := (∃ i, x = .int i) ∨ ∃ y, x = .str y
/-- x not in l, x a dict or a tuple of one dict, l a list of tuples of ints and texts -/
def rNotO (K : PySem.W.Frag) : R2 := fun x y H Q => ∃ (l : Addr) (ts : List V), y = .ref l ∧ SqL K H l ts ∧ (∀ t ∈ ts, ∃ b vs, t = .ref b ∧ L2.Rd H b (.tup vs) ∧ ∀ u ∈ vs, flat2 u) ∧
  ((∃ a ks, x = .ref a ∧ L2.Rd H a (.dK ks)) ∨ ∃ p a ks, x = .ref p ∧ L2.Rd H p (.tup [.ref a]) ∧ L2.Rd H a (.dK ks)) ∧ Q (.bl true) H
theorem vals_mem {xs : List V} {us : List Value} (r : Vals xs us) {u : Value} (h : u ∈ us) : ∃ x ∈ xs, RelV x u := by
  obtain ⟨i, hi⟩ := List.mem_iff_getElem?.mp h
  obtain ⟨x, h1, h2⟩ := Paired.get' r hi
  exact ⟨x, List.mem_of_getElem? h1, h2⟩
section
variable {X : Cx} {pins : List (Addr × Obj)} {σ : L2.St} {H : Hp} {s : Shared}
theorem rd_tup (I : L2.Inv X pins σ H s) {a : Addr} {xs : List V} (h : L2.Rd H a (.tup xs)) : ∃ us, Vals xs us ∧ s.heap.IsTuple a us.toArray := by
  obtain ⟨_, us, r, o, e, hc, n, hd⟩ := (show ObjOk X.prog X.w H s.heap a (.tup xs) from h.ok I.hok)
  exact ⟨us, r, o, e, hc, n, hd⟩
theorem rd_dk (I : L2.Inv X pins σ H s) {a : Addr} {ks : List (Key × V)} (h : L2.Rd H a (.dK ks)) : ∃ o es ep, s.heap.get? a = some o ∧ o.ExactDict ∧ o.data = .dict es ep := by
  obtain ⟨_, _, _, _, o, es, ep, e, hx, hd, _⟩ := (show ObjOk X.prog X.w H s.heap a (.dK ks) from h.ok I.hok)
  exact ⟨o, es, ep, e, hx, hd⟩
end
theorem op_notO {X : Cx} (K : PySem.W.Frag) (hu : X.A.units + 64 < cLine) (hK : X.K = K := by rfl) : OpR X (compareOp .NotIn) (rNotO K) := by
  subst hK
  intro pins s σ H x y v u Q I rx ry h
  obtain ⟨l, ts, rfl, hl, hts, hx, q⟩ := h
  cases (show u = Value.ref l from ry)
  obtain ⟨us, r1, p1, _⟩ := I.list hl
  refine notIn_listAt (fun _ => false) p1.isList (fun yv hy => ?_) ?_
  · obtain ⟨t, htm, rt⟩ := vals_mem r1 (u := yv) (by simpa using hy)
    obtain ⟨b, vs, rfl, hb, hfl⟩ := hts t htm
    cases (show yv = Value.ref b from rt)
    obtain ⟨ws, r2, p2⟩ := rd_tup I hb
    rcases hx with ⟨a, ks, rfl, ha⟩ | ⟨p, a, ks, rfl, hp, ha⟩
    · cases (show v = Value.ref a from rx)
      obtain ⟨o, es, ep, ho, hx, hd⟩ := rd_dk I ha
      exact eqAt_tuple_dict p2 ho hx (by show X.A.units + 1 < cLine; omega)
    · cases (show v = Value.ref p from rx)
      obtain ⟨o, es, ep, ho, hx, hd⟩ := rd_dk I ha
      obtain ⟨zs, r3, p3⟩ := rd_tup I hp
      cases r3 with
      | @cons _ z _ _ rz rn =>
        cases rn
        cases (show z = Value.ref a from rz)
        by_cases e : b = p
        · subst e
          obtain ⟨o1, h1, h2, n1, h3⟩ := p2
          obtain ⟨o2, g1, g2, n2, g3⟩ := p3
          rw [h1] at g1
          cases g1
          rw [h3] at g3
          have g4 : ws.toArray = #[Value.ref a] := by
            cases g3
            rfl
          have g5 : ws = [Value.ref a] := by simpa using congrArg Array.toList g4
          subst g5
          cases r2 with
          | @cons v1 _ _ _ rv rn =>
            rcases hfl v1 List.mem_cons_self with ⟨i, rfl⟩ | ⟨i, rfl⟩
            · obtain ⟨t, ht⟩ := rv
              cases ht
            · obtain ⟨t, ht⟩ := rv
              cases ht
        · have rt := RcAt.tuples (A := X.A.in1) (e := fun _ => false) p2 p3 (by show X.A.units + 1 < cLine; omega) (fun j h1 h2 => by
            have hj : j = 0 := by
              have : j < 1 := by simpa using h2
              omega
            subst hj
            have h1' : 0 < ws.length := by simpa using h1
            obtain ⟨v1, hv1, rv1⟩ := vals_mem r2 (u := ws[0]) (List.getElem_mem h1')
            have e1 : (#[Value.ref a] : Array Value)[0] = .ref a := rfl
            have e2 : ws.toArray[0] = ws[0] := by simp
            rw [e2]
            show EqAt _ _ _ (.ref a) false
            rcases hfl v1 hv1 with ⟨i, rfl⟩ | ⟨i, rfl⟩
            · obtain ⟨t, ht⟩ := rv1
              rw [ht]
              exact eqAt_int_dict ho hx hd (by show X.A.units + 1 + 1 < cLine; omega)
            · obtain ⟨t, ht⟩ := rv1
              rw [ht]
              exact eqAt_str_dict ho hx hd (by show X.A.units + 1 + 1 < cLine; omega))
          have er : ((List.range (min ws.toArray.size (#[Value.ref a] : Array Value).size)).all (fun _ => false) && ws.toArray.size == (#[Value.ref a] : Array Value).size) = false := by
            cases ws with
            | nil => rfl
            | cons w1 wr =>
              have : min (w1 :: wr).toArray.size (#[Value.ref a] : Array Value).size = 1 := by simp
              rw [this]
              rfl
          have rt' : RcAt X.A.in1 s (.ref b) (.ref p) false := by
            rw [← er]
            exact rt
          exact .of_refs e rt'
  · have e : (us.toArray.any fun _ => false) = false := by simp
    rw [e]
    exact ⟨.bl true, H, I, rfl, q⟩
end LW

namespace LW
open PySem PySem.Spec L2 PySem.SeqAt
/-- x != y, two pairs of the same two texts -/
def rNe2 : R2 := fun x y H Q => ∃ (p q : Addr) (a b : Str), x = .ref p ∧ y = .ref q ∧ L2.Rd H p (.tup [.str a, .str b]) ∧ L2.Rd H q (.tup [.str a, .str b]) ∧ Q (.bl false) H
theorem op_ne2 {X : Cx} (hu : X.A.units + 64 < cLine) : OpR X (compareOp .NotEq) rNe2 := by
  intro pins s σ H x y v u Q I rx ry h
  obtain ⟨p, q, a, b, rfl, rfl, hp, hq, k⟩ := h
  cases (show v = Value.ref p from rx)
  cases (show u = Value.ref q from ry)
  obtain ⟨us, r1, p1⟩ := rd_tup I hp
  obtain ⟨ws, r2, p2⟩ := rd_tup I hq
  cases r1 with
  | cons a1 r1 => cases r1 with
    | cons a2 r1 =>
      cases r1
      cases r2 with
      | cons b1 r2 => cases r2 with
        | cons b2 r2 =>
          cases r2
          obtain ⟨t1, rfl⟩ := a1
          obtain ⟨t2, rfl⟩ := a2
          obtain ⟨t3, rfl⟩ := b1
          obtain ⟨t4, rfl⟩ := b2
          have rt := RcNeAt.tuples (A := X.A) (e := fun _ => true) p1 p2 (by omega) (fun j h1 h2 => by
            have : j = 0 ∨ j = 1 := by
              have : j < 2 := by simpa using h1
              omega
            rcases this with rfl | rfl
            · have q := EqAt.str_str (A := X.A.in1) (s := s) a t1 a t3
              rw [beq_self_eq_true] at q
              exact q
            · have q := EqAt.str_str (A := X.A.in1) (s := s) b t2 b t4
              rw [beq_self_eq_true] at q
              exact q)
          refine rt _ _ _ _ ?_
          exact ⟨.bl false, H, I, rfl, k⟩
def rNotA (K : PySem.W.Frag) : R2 := fun x y H Q => rNotInD K x y H Q ∨ rNotO K x y H Q
theorem op_notA {X : Cx} (K : PySem.W.Frag) (hu : X.A.units + 180 < cLine) (hK : X.K = K := by rfl) : OpR X (compareOp .NotIn) (rNotA K) := by
  subst hK
  intro pins s σ H x y v u Q I rx ry h
  rcases h with h | h
  · exact op_notInD (by omega) pins s σ H x y v u Q I rx ry h
  · exact op_notO _ (by omega) rfl pins s σ H x y v u Q I rx ry h
end LW

namespace VL
open PySem L2 LW
/-! ### values, plainly -/
mutual
def cnt : PyData → Nat
  | .list ds => 1 + cntL ds
  | .dict kvs => 1 + cntK kvs
  | _ => 1
def cntL : List PyData → Nat
  | [] => 0
  | d :: r => cnt d + cntL r
def cntK : List (PyData × PyData) → Nat
  | [] => 0
  | (_, d) :: r => cnt d + cntK r
end
def low (x : Str) : Bool := x.cps.toList.all fun c => decide (97 ≤ c) && decide (c ≤ 122)
def lets (x : Str) (a b : Nat) : Bool := decide (a ≤ x.length) && decide (x.length ≤ b) && low x
def big : Int := 1000000000000000000000000000000
def fld : PyData → Bool
  | .str x => lets x 1 8
  | _ => false
def okP : PyData → Bool
  | .int i => decide (-big < i) && decide (i < big)
  | .str x => lets x 0 20
  | .list ds => decide (ds.length < 60)
  | .dict kvs => decide (kvs.length ≤ 8) && kvs.all fun p => fld p.1
  | _ => false
mutual
def okA : PyData → Bool
  | .list ds => okP (.list ds) && okL ds
  | .dict kvs => okP (.dict kvs) && okK kvs
  | .none => false
  | .bool _ => false
  | .int i => okP (.int i)
  | .str x => okP (.str x)
  | .tuple _ => false
def okL : List PyData → Bool
  | [] => true
  | d :: r => okA d && okL r
def okK : List (PyData × PyData) → Bool
  | [] => true
  | (_, d) :: r => okA d && okK r
end
def kids : PyData → List PyData
  | .list ds => ds
  | .dict kvs => kvs.map (·.2)
  | _ => []
theorem cntK_eq : ∀ kvs : List (PyData × PyData), cntK kvs = cntL (kvs.map (·.2))
  | [] => by simp [cntK, cntL]
  | (k, d) :: r => by simp [cntK, cntL, cntK_eq r]
theorem okK_eq : ∀ kvs : List (PyData × PyData), okK kvs = okL (kvs.map (·.2))
  | [] => by simp [okK, okL]
  | (k, d) :: r => by simp [okK, okL, okK_eq r]
theorem okL_all : ∀ ds : List PyData, okL ds = ds.all okA
  | [] => by simp [okL]
  | d :: r => by simp [okL, okL_all r]
theorem cntL_sum : ∀ ds : List PyData, cntL ds = (ds.map cnt).sum
  | [] => by simp [cntL]
  | d :: r => by simp [cntL, cntL_sum r]
theorem cnt_kids (d : PyData) : cnt d = 1 + cntL (kids d) := by
  cases d <;> simp [cnt, kids, cntL, cntK_eq]
theorem okA_kids (d : PyData) : okA d = (okP d && okL (kids d)) := by
  cases d <;> simp [okA, okP, kids, okL, okK_eq]
theorem cnt_pos (d : PyData) : 1 ≤ cnt d := by
  rw [cnt_kids]
  omega
theorem cntL_app (xs ys : List PyData) : cntL (xs ++ ys) = cntL xs + cntL ys := by
  rw [cntL_sum, cntL_sum, cntL_sum, List.map_append, List.sum_append]
theorem okL_app (xs ys : List PyData) : okL (xs ++ ys) = (okL xs && okL ys) := by
  rw [okL_all, okL_all, okL_all, List.all_append]
theorem cntL_perm {xs ys : List PyData} (p : xs.Perm ys) : cntL xs = cntL ys := by
  induction p with
  | nil => rfl
  | cons x _ ih => rw [cntL, cntL, ih]
  | swap x y l => simp only [cntL]; omega
  | trans _ _ a b => exact a.trans b
theorem okL_perm {xs ys : List PyData} (p : xs.Perm ys) : okL xs = okL ys := by
  rw [okL_all, okL_all]
  exact p.all_eq
theorem cnt_kid {d c : PyData} (h : c ∈ kids d) : cnt c < cnt d := by
  rw [cnt_kids d]
  have : ∀ (l : List PyData), c ∈ l → cnt c ≤ cntL l := by
    intro l
    induction l with
    | nil => intro h; cases h
    | cons a r ih =>
      intro h
      rw [cntL]
      rcases List.mem_cons.mp h with rfl | h
      · omega
      · have := ih h
        omega
  have := this _ h
  omega
end VL

namespace VL
open PySem L2 LW
open Evl (Ex)
/-! ### records by their names -/
def nm : PyData → Str
  | .str x => x
  | _ => ""
def names (kvs : List (PyData × PyData)) : List Str := kvs.map fun p => nm p.1
def AllStr (kvs : List (PyData × PyData)) : Prop := ∀ p ∈ kvs, p.1 = .str (nm p.1)
def getN : List (PyData × PyData) → Str → PyData
  | [], _ => .none
  | (k, d) :: r, y => if nm k = y then d else getN r y
theorem getN_self : ∀ {kvs : List (PyData × PyData)}, AllStr kvs → (names kvs).Nodup → (names kvs).map (fun y => (PyData.str y, getN kvs y)) = kvs
  | [], _, _ => rfl
  | (k, d) :: r, ha, hn => by
    have hn' : (nm k :: names r).Nodup := hn
    obtain ⟨h1, h2⟩ := List.nodup_cons.mp hn'
    have ih := getN_self (fun p hp => ha p (List.mem_cons_of_mem _ hp)) h2
    show (PyData.str (nm k), getN ((k, d) :: r) (nm k)) :: (names r).map (fun y => (PyData.str y, getN ((k, d) :: r) y)) = (k, d) :: r
    have e1 : getN ((k, d) :: r) (nm k) = d := by
      unfold getN
      rw [if_pos rfl]
    have e2 : PyData.str (nm k) = k := (ha (k, d) List.mem_cons_self).symm
    rw [e1, e2]
    congr 1
    refine Eq.trans ?_ ih
    · apply List.map_congr_left
      intro y hy
      have : nm k ≠ y := fun e => h1 (e ▸ hy)
      show (PyData.str y, if nm k = y then d else getN r y) = _
      rw [if_neg this]
theorem allStr_of {kvs : List (PyData × PyData)} (h : okP (.dict kvs) = true) : AllStr kvs ∧ kvs.length ≤ 8 := by
  have h' : (decide (kvs.length ≤ 8) && kvs.all fun p => fld p.1) = true := h
  rw [Bool.and_eq_true] at h'
  refine ⟨fun p hp => ?_, of_decide_eq_true h'.1⟩
  have q := List.all_eq_true.mp h'.2 p hp
  cases e : p.1 with
  | str x => rfl
  | _ => rw [e] at q; cases q
/-- the names of a tracked dict -/
theorem dtk_names {H : Hp} : ∀ {kvs : List (PyData × PyData)} {es : List (Key × V)}, DtK H kvs es → AllStr kvs → es.map (·.1) = (names kvs).map fun y => (Sum.inr y : Key)
  | [], _, h, _ => by
    unfold DtK at h
    subst h
    rfl
  | (k, d) :: r, _, h, ha => by
    unfold DtK at h
    obtain ⟨x, v, t, rfl, hk, _, h2⟩ := h
    have ih := dtk_names h2 (fun p hp => ha p (List.mem_cons_of_mem _ hp))
    show x :: t.map (·.1) = Sum.inr (nm k) :: (names r).map fun y => (Sum.inr y : Key)
    rw [ih]
    have e := ha (k, d) List.mem_cons_self
    have e' : k = .str (nm k) := e
    congr 1
    cases x with
    | inl i =>
      rw [hk] at e'
      cases e'
    | inr z =>
      rw [hk]
      rfl
theorem nodup_names {H : Hp} {kvs : List (PyData × PyData)} {es : List (Key × V)} (h : DtK H kvs es) (ha : AllStr kvs) (nd : (es.map (·.1)).Nodup) : (names kvs).Nodup := by
  rw [dtk_names h ha] at nd
  exact List.Pairwise.imp (fun h e => h (by rw [e])) (List.pairwise_map.mp nd)
theorem dtk_get {H : Hp} : ∀ {kvs : List (PyData × PyData)} {es : List (Key × V)}, DtK H kvs es → AllStr kvs → ∀ y ∈ names kvs, ∃ v, valV es (Sum.inr y : Key) = some v ∧ Dt H (getN kvs y) v
  | [], _, _, _, y, hy => by cases hy
  | (k, d) :: r, _, h, ha, y, hy => by
    unfold DtK at h
    obtain ⟨x, v, t, rfl, hk, h1, h2⟩ := h
    have e' : k = .str (nm k) := ha (k, d) List.mem_cons_self
    have hx : x = Sum.inr (nm k) := by
      cases x with
      | inl i => rw [hk] at e'; cases e'
      | inr z => rw [hk]; rfl
    by_cases e : nm k = y
    · refine ⟨v, ?_, ?_⟩
      · unfold valV
        rw [List.find?_cons_of_pos (by rw [hx, e]; exact decide_eq_true rfl)]
        rfl
      · unfold getN
        rw [if_pos e]
        exact h1
    · have hy' : y ∈ names r := by
        rcases List.mem_cons.mp (show y ∈ nm k :: names r from hy) with q | q
        · exact (e q.symm).elim
        · exact q
      obtain ⟨u, h3, h4⟩ := dtk_get h2 (fun p hp => ha p (List.mem_cons_of_mem _ hp)) y hy'
      refine ⟨u, ?_, ?_⟩
      · unfold valV at h3 ⊢
        rw [List.find?_cons_of_neg (by rw [hx]; intro q; exact e (Sum.inr.inj (of_decide_eq_true q)))]
        exact h3
      · unfold getN
        rw [if_neg e]
        exact h4
/-! ### the children, step by step -/
def KidsAre (d : PyData) (cs : List (V × PyData)) : Prop := match d with
  | .list ds => cs = (List.range ds.length).zipWith (fun (i : Nat) c => (V.int i, c)) ds
  | .dict kvs => ∃ ys : List Str, ys.Perm (names kvs) ∧ PyProof.Rows.sortedS ys = true ∧ cs = ys.map fun y => (V.str y, getN kvs y)
  | _ => cs = []
theorem kids_perm {d : PyData} {cs : List (V × PyData)} (h : KidsAre d cs) (hn : ∀ kvs, d = .dict kvs → AllStr kvs ∧ (names kvs).Nodup) : (cs.map (·.2)).Perm (kids d) := by
  cases d with
  | list ds =>
    have h : cs = (List.range ds.length).zipWith (fun (i : Nat) c => (V.int i, c)) ds := h
    have e : cs.map (·.2) = ds := by
      rw [h, List.map_zipWith]
      apply List.ext_getElem?
      intro i
      rw [List.getElem?_zipWith]
      by_cases hi : i < ds.length
      · rw [List.getElem?_range hi, List.getElem?_eq_getElem hi]
      · rw [List.getElem?_eq_none (l := ds) (by omega)]
        cases (List.range ds.length)[i]? <;> rfl
    rw [e]
    exact List.Perm.refl _
  | dict kvs =>
    obtain ⟨ys, p, _, rfl⟩ := h
    obtain ⟨ha, nd⟩ := hn kvs rfl
    have q := (p.map (fun y => (PyData.str y, getN kvs y))).trans (List.Perm.of_eq (getN_self ha nd))
    have q2 := q.map (·.2)
    rw [List.map_map] at q2
    rw [List.map_map]
    exact q2
  | _ =>
    have h : cs = [] := h
    subst h
    exact List.Perm.refl _
end VL

namespace VL
open PySem PySem.Spec L2 LW
open Evl (Ex)
def top (i : Nat) : Stmt := PySem.Challenge.pw_latechecks_k02_places_and_parts.main.body.getD i (.Pass ⟨0, 0, 0, 0⟩)
abbrev s_InvalidValue___init__ : Stmt := inClass (top 2) 0
abbrev s_InvalidPlace___init__ : Stmt := inClass (top 3) 0
abbrev s_is_integer : Stmt := top 11
abbrev s_is_letters : Stmt := top 12
abbrev s_is_field : Stmt := top 13
abbrev s_is_leaf : Stmt := top 14
abbrev s_is_part : Stmt := top 15
abbrev s_children : Stmt := top 16
abbrev s_is_value : Stmt := top 17
abbrev s_check_value : Stmt := top 18
abbrev s_copy_of : Stmt := top 19
abbrev s_places_below : Stmt := top 20
abbrev s_places : Stmt := top 21
abbrev s_has_step : Stmt := top 22
abbrev s_has_place : Stmt := top 23
abbrev s_part_at : Stmt := top 24
abbrev s_at : Stmt := top 25
abbrev s_head_of : Stmt := top 26
abbrev s_head : Stmt := top 27
abbrev s__law_hand : Stmt := top 29
abbrev s__law_draw : Stmt := top 30
abbrev s__law_word : Stmt := top 31
abbrev s__law_leaf : Stmt := top 32
abbrev s__law_value : Stmt := top 33
abbrev s__law_below : Stmt := top 34
abbrev s__law_part : Stmt := top 35
abbrev s__law_top : Stmt := top 36
abbrev s__law_twin : Stmt := top 37
abbrev s__law_told : Stmt := top 38
abbrev s__law_bad_spot : Stmt := top 39
abbrev s__law_spoil : Stmt := top 40
abbrev s_law : Stmt := top 41
structure Txt (K : PySem.W.Frag) (mg : Str → Option Value) : Prop where
  b_len : mg "len" = none
  b_range : mg "range" = none
  b_isinstance : mg "isinstance" = none
  b_int : mg "int" = none
  b_str : mg "str" = none
  b_bool : mg "bool" = none
  b_list : mg "list" = none
  b_dict : mg "dict" = none
  b_tuple : mg "tuple" = none
  b_all : mg "all" = none
  b_enumerate : mg "enumerate" = none
  b_max : mg "max" = none
  b_min : mg "min" = none
  b_sum : mg "sum" = none
  b_sorted : mg "sorted" = none
  b_repr : mg "repr" = none
  g_LETTERS : ∃ u, mg "LETTERS" = some u ∧ RelV (.str "abcdefghijklmnopqrstuvwxyz") u
  g_GREATEST : ∃ u, mg "GREATEST" = some u ∧ RelV (.int 1000000000000000000000000000000) u
  g_LONGEST_TEXT : ∃ u, mg "LONGEST_TEXT" = some u ∧ RelV (.int 20) u
  g_LONGEST_NAME : ∃ u, mg "LONGEST_NAME" = some u ∧ RelV (.int 8) u
  g_MOST_FIELDS : ∃ u, mg "MOST_FIELDS" = some u ∧ RelV (.int 8) u
  g_MOST_PLACES : ∃ u, mg "MOST_PLACES" = some u ∧ RelV (.int 60) u
section
variable {P : Program} {w : World} {K : PySem.W.Frag} {mg : Str → Option Value} {base : Heap}
/-! ### _law_draw -/
def spDraw : Sp := fun vs H Q _ => ∃ (p : Addr) (n : Int), vs = [.ref p, .int n] ∧ Pool H p ∧ 0 < n ∧ n ≤ 10000000000000000000000000000000 ∧ ∀ v : Int, 0 ≤ v → v < n → Q (.int v) H
theorem sc__law_draw : FnScope ["_law_pool", "_law_many", "_law_found"] ["_law_pool", "_law_many"] (defScope s__law_draw) := ⟨rfl, rfl, rfl, by decide +kernel, rfl, by decide +kernel, by decide +kernel⟩
theorem bi__law_draw : BindsEq "_law_draw" s__law_draw ["_law_pool", "_law_many"] := fun _ _ _ _ _ _ us hl => match us, hl with | [_, _], _ => rfl
theorem ok_draw (F : Df K mg "_law_draw" s__law_draw) (T : Txt K mg) : Cal P w K mg base CX0 1 "_law_draw" spDraw := by
  refine cal0 F sc__law_draw bi__law_draw (fun vs H Q E h => ?_) (fun f cdv A outer s H vs Q E hr h => ?_)
  · obtain ⟨p, n, rfl, _⟩ := h
    rfl
  · obtain ⟨p, n, rfl, hp, n0, n1, k⟩ := h
    refine ⟨_, pss_focus (pss_cons (ps_if (pt_cmpR op_gt (pe_ix (ixl K) (pv 0) pe_int (fun _ _ => rfl)) pe_int (nomark _)) (pss_cons (ps_set (i := 2) sc__law_draw.nd rfl (Or.inl rfl) (pe_op op_mod (pe_callTy call_int1 rfl T.b_int (by decide +kernel) (pa_cons (pe_ix (ixl K) (pv 0) pe_int (fun _ _ => rfl)) pa_nil)) (pv 1)))
 (pss_cons (ps_asg (pe_op op_fdivW (pe_ix (ixl K) (pv 0) pe_int (fun _ _ => rfl)) (pv 1)) (pg_sub (pv 0) pe_int set_list))
 (pss_one (ps_ret (pv 2))))) pss_nil)
 (pss_cons (ps_asg (pe_op op_mod (pe_callTy call_int1 rfl T.b_int (by decide +kernel) (pa_cons (pe_op op_add (pe_op op_mul (pe_ix (ixl K) (pv 0) pe_int (fun _ _ => rfl)) pe_int) pe_int) pa_nil)) pe_int) (pg_sub (pv 0) pe_int set_list))
 (pss_one (ps_ret (pe_op op_mod (pe_op op_fdivW (pe_op op_mod (pe_callTy call_int1 rfl T.b_int (by decide +kernel) (pa_cons (pe_op op_mul (pe_ix (ixl K) (pv 0) pe_int (fun _ _ => rfl)) (pe_ix (ixl K) (pv 0) pe_int (fun _ _ => rfl))) pa_nil)) pe_int) pe_int) (pv 1)))))), ?_⟩
    refine ⟨p, hp, fun a b a0 b0 b1 => ?_⟩
    have hd : CDivW a n := wide_div (b := 110) n0 (by omega) (by decide) (by decide)
    have sq : ∀ x y : Int, SqL K (upd H p (.lst [.int x, .int y])) p [.int x, .int y] := fun x y => Evl.sq_of upd_same
    have a0' : ∀ x y : V, atI [x, y] 0 = some x := fun _ _ => rfl
    have a1' : ∀ x y : V, atI [x, y] 1 = some y := fun _ _ => rfl
    refine ⟨_, rfl, p, _, _, _, rfl, rfl, sq a b, a0' _ _, _, _, rfl, rfl, _, rfl, ?_⟩
    refine ite2 (fun h => ?_) (fun h => ?_)
    · have h : 0 < a := of_decide_eq_true h
      refine ⟨_, rfl, p, _, _, _, rfl, rfl, sq a b, a0' _ _, .inl ⟨_, rfl, _, rfl, _, _, rfl, rfl, n0, ?_⟩⟩
      refine ⟨_, rfl, p, _, _, _, rfl, rfl, sq a b, a0' _ _, _, rfl, _, _, rfl, rfl, hd, _, rfl, p, _, _, 0, rfl, rfl, upd_same, rfl, ?_⟩
      refine ⟨_, rfl, a / n, b, upd_same, ?_, b0, b1, ?_⟩
      · exact Int.ediv_nonneg a0 (by omega)
      · rw [upd_upd, upd_back hp]
        exact k _ (Int.emod_nonneg _ (by omega)) (Int.emod_lt_of_pos _ n0)
    · refine ⟨_, rfl, p, _, _, _, rfl, rfl, sq a b, a1' _ _, _, _, rfl, rfl, .inl ⟨by omega, by omega⟩, _, _, rfl, rfl, .inl ⟨_, rfl, _, _, rfl, rfl, (by show (0 : Int) < 2147483647; decide), ?_⟩⟩
      have c0 : 0 ≤ (b * 48271 + 11) % 2147483647 := Int.emod_nonneg _ (by decide)
      have c1 : (b * 48271 + 11) % 2147483647 < 2147483647 := Int.emod_lt_of_pos _ (by decide)
      refine ⟨_, rfl, p, _, _, 1, rfl, rfl, upd_same, rfl, ?_⟩
      rw [upd_upd]
      refine ⟨_, rfl, p, _, _, _, rfl, rfl, sq a ((b * 48271 + 11) % 2147483647), a1' _ _, _, rfl, p, _, _, _, rfl, rfl, sq a ((b * 48271 + 11) % 2147483647), a1' _ _, _, _, rfl, rfl, .inl ⟨by omega, by omega⟩, .inl ⟨_, rfl, _, _, rfl, rfl, (by show (0 : Int) < 2147483629; decide), _, _, rfl, rfl, ⟨by decide, by decide⟩, _, rfl, _, _, rfl, rfl, n0, ?_⟩⟩
      refine ⟨a, _, upd_same, a0, c0, c1, ?_⟩
      rw [upd_back hp]
      exact k _ (Int.emod_nonneg _ (by omega)) (Int.emod_lt_of_pos _ n0)
/-! ### _law_hand -/
theorem cut_mem {xs : List V} {lo hi : Option Int} {v : V} (h : v ∈ cutV xs lo hi) : v ∈ xs := List.mem_of_mem_drop (List.mem_of_mem_take h)
def spHand (K : PySem.W.Frag) : Sp := fun vs H Q _ => ∃ (a : Addr) (ns : List Int) (k : Int), vs = [.ref a, .int k] ∧ SqL K H a (ns.map V.int) ∧ ns.length ≤ 63 ∧ 0 ≤ k ∧ k ≤ 63 ∧ ∀ p H', H p = none → Ex H H' → Pool H' p → Q (.ref p) H'
theorem sc__law_hand : FnScope ["_law_script", "_law_k", "_law_cell", "_law_seed"] ["_law_script", "_law_k"] (defScope s__law_hand) := ⟨rfl, rfl, rfl, by decide +kernel, rfl, by decide +kernel, by decide +kernel⟩
theorem bi__law_hand : BindsEq "_law_hand" s__law_hand ["_law_script", "_law_k"] := fun _ _ _ _ _ _ us hl => match us, hl with | [_, _], _ => rfl
theorem ok_hand (F : Df K mg "_law_hand" s__law_hand) (T : Txt K mg) : Cal P w K mg base CX0 1 "_law_hand" (spHand K) := by
  refine cal0 F sc__law_hand bi__law_hand (fun vs H Q E h => ?_) (fun f cdv A outer s H vs Q E hr h => ?_)
  · obtain ⟨a, ns, j, rfl, _⟩ := h
    rfl
  · obtain ⟨a, ns, j, rfl, hS, hl, j0, j1, k⟩ := h
    refine ⟨_, (pss_cons (ps_set (i := 2) sc__law_hand.nd rfl (Or.inl rfl) (pe_ix (ixl K) (pe_op op_cat (pe_slice (slK K) (pv 0) (po_some (pv 1)) (po_some (pe_op op_add (pv 1) pe_int))) (pe_lst (pa_cons pe_int pa_nil))) pe_int (fun _ _ => rfl)))
 (pss_cons (ps_set (i := 3) sc__law_hand.nd rfl (Or.inl rfl) (pe_op op_mod (pe_op op_mul (pe_op op_add (pe_op op_add (pe_op op_mod (pe_callTy call_int1 rfl T.b_int (by decide +kernel) (pa_cons (pv 2) pa_nil)) pe_int) (pe_op op_mul pe_int (pv 1))) pe_int) pe_int) pe_int))
 (pss_one (ps_retPool (pe_lst (pa_cons (pe_op op_mul (pe_callTy call_int1 rfl T.b_int (by decide +kernel) (pa_cons (pe_cmpR op_ge (pv 2) (pe_op op_pow pe_int pe_int) (nomark _)) pa_nil)) (pv 2)) (pa_cons (pv 3) pa_nil))))))), ?_⟩
    refine ⟨_, rfl, _, rfl, _, rfl, _, rfl, _, _, rfl, rfl, _, rfl, a, _, rfl, hS, fun p1 np1 => ?_⟩
    obtain ⟨H1, hH1, x0_1, h1⟩ := newH _ np1
    rw [hH1]
    clear hH1
    have f1 := np1
    refine ⟨szl (by show 1 ≤ 100000; decide), fun p2 np2 => ?_⟩
    obtain ⟨H2, hH2, x1_2, h2⟩ := newH _ np2
    rw [hH2]
    clear hH2
    have x0_2 := x0_1.trans x1_2
    have f2 := ex_free x0_1 np2
    have hlen := cutV_length (ns.map V.int) (some j) (some (j + 1))
    rw [List.length_map] at hlen
    refine ⟨p1, p2, _, _, rfl, rfl, x1_2 _ _ h1, h2, szl (by show _ + 1 ≤ 100000; omega), fun p3 np3 => ?_⟩
    obtain ⟨H3, hH3, x2_3, h3⟩ := newH _ np3
    rw [hH3]
    clear hH3
    have x0_3 := x0_2.trans x2_3
    have x1_3 := x1_2.trans x2_3
    have f3 := ex_free x0_2 np3
    obtain ⟨c, hc⟩ : ∃ c : Int, atI (cutV (ns.map V.int) (some j) (some (j + 1)) ++ [V.int 0]) 0 = some (V.int c) := by
      obtain ⟨x, hx, hm, _⟩ := at_some (xs := cutV (ns.map V.int) (some j) (some (j + 1)) ++ [V.int 0]) (v := 0) (by decide) (by rw [List.length_append]; show (0 : Int) < ((_ + 1 : Nat) : Int); omega)
      rcases List.mem_append.mp hm with q | q
      · obtain ⟨c, _, e⟩ := List.mem_map.mp (cut_mem q)
        exact ⟨c, by rw [hx, e]⟩
      · have e : x = V.int 0 := by simpa using q
        exact ⟨0, by rw [hx, e]⟩
    refine ⟨p3, _, _, _, rfl, rfl, SqLo h3, hc, ?_⟩
    -- _law_seed
    refine ⟨_, rfl, .inl ⟨_, rfl, _, _, rfl, rfl, (by show (0 : Int) < 2147483647; decide), ?_⟩⟩
    have m0 : 0 ≤ c % 2147483647 := Int.emod_nonneg _ (by decide)
    have m1 : c % 2147483647 < 2147483647 := Int.emod_lt_of_pos _ (by decide)
    refine ⟨_, rfl, _, _, rfl, rfl, .inl ⟨by decide, by decide⟩, _, _, rfl, rfl, _, _, rfl, rfl, _, _, rfl, rfl, .inr ⟨by decide, by decide⟩, _, _, rfl, rfl, (by show (0 : Int) < 2147483629; decide), ?_⟩
    -- return
    refine ⟨_, rfl, _, _, rfl, rfl, ⟨by decide, by decide, by decide⟩, _, _, rfl, rfl, .inr ⟨_, rfl, _, rfl, _, _, rfl, rfl, .inl ?_, ?_⟩⟩
    · split <;> exact ⟨by decide, by decide⟩
    refine ⟨_, rfl, szl (by show 2 ≤ 100000; decide), fun p4 np4 => ?_⟩
    obtain ⟨H4, hH4, x3_4, h4⟩ := newH _ np4
    rw [hH4]
    clear hH4
    have x0_4 := x0_3.trans x3_4
    have x1_4 := x1_3.trans x3_4
    have x2_4 := x2_3.trans x3_4
    have f4 := ex_free x0_3 np4
    have np : H p4 = none := ex_free x0_3 np4
    refine ⟨p4, _, _, rfl, h4, ?_, ?_, ?_, k p4 _ np ?_ upd_same⟩
    · by_cases hb : (10 : Int) ^ (18 : Int).toNat ≤ c
      · rw [decide_eq_true hb]
        show 0 ≤ 1 * c
        have : (0 : Int) ≤ 10 ^ (18 : Int).toNat := by decide
        omega
      · rw [decide_eq_false hb]
        show 0 ≤ 0 * c
        omega
    · exact Int.emod_nonneg _ (by decide)
    · exact Int.lt_trans (Int.emod_lt_of_pos _ (by decide)) (by decide)
    · exact Ex.mut x0_4 np
/-! ### is_integer -/
def isI : PyData → Bool
  | .int _ => true
  | _ => false
def spIsInt : Sp := fun vs H Q _ => ∃ v d, vs = [v] ∧ Dt H d v ∧ Q (.bl (isI d)) H
theorem sc_is_integer : FnScope ["thing"] ["thing"] (defScope s_is_integer) := ⟨rfl, rfl, rfl, by decide +kernel, rfl, by decide +kernel, by decide +kernel⟩
theorem bi_is_integer : BindsEq "is_integer" s_is_integer ["thing"] := fun _ _ _ _ _ _ us hl => match us, hl with | [_], _ => rfl
theorem ok_isint (F : Df K mg "is_integer" s_is_integer) (T : Txt K mg) : Cal P w K mg base CX0 1 "is_integer" spIsInt := by
  refine cal0 F sc_is_integer bi_is_integer (fun vs H Q E h => ?_) (fun f cdv A outer s H vs Q E hr h => ?_)
  · obtain ⟨v, d, rfl, _⟩ := h
    rfl
  · obtain ⟨v, d, rfl, hd, k⟩ := h
    refine ⟨_, (pss_one (ps_ret (pe_and (pe_callB (isD K) rfl T.b_isinstance (by decide +kernel) (pa_cons (pv 0) (pa_cons (pe_bltn (v := .ty "int") rfl T.b_int (by decide +kernel) rfl) pa_nil))) (pe_one (pe_not (pe_callB (isD K) rfl T.b_isinstance (by decide +kernel) (pa_cons (pv 0) (pa_cons (pe_bltn (v := .ty "bool") rfl T.b_bool (by decide +kernel) rfl) pa_nil)))))))), ?_⟩
    cases d with
    | bool b => exact ⟨v, rfl, v, _, _, true, rfl, hd, rfl, _, rfl, if_t rfl ⟨v, rfl, v, _, _, true, rfl, hd, rfl, _, rfl, k⟩⟩
    | int i => exact ⟨v, rfl, v, _, _, true, rfl, hd, rfl, _, rfl, if_t rfl ⟨v, rfl, v, _, _, false, rfl, hd, rfl, _, rfl, k⟩⟩
    | none => exact ⟨v, rfl, v, _, _, false, rfl, hd, rfl, _, rfl, if_f rfl k⟩
    | str x => exact ⟨v, rfl, v, _, _, false, rfl, hd, rfl, _, rfl, if_f rfl k⟩
    | list x => exact ⟨v, rfl, v, _, _, false, rfl, hd, rfl, _, rfl, if_f rfl k⟩
    | tuple x => exact ⟨v, rfl, v, _, _, false, rfl, hd, rfl, _, rfl, if_f rfl k⟩
    | dict x => exact ⟨v, rfl, v, _, _, false, rfl, hd, rfl, _, rfl, if_f rfl k⟩
/-! ### is_letters -/
def letD (d : PyData) (a b : Nat) : Bool := match d with
  | .str x => lets x a b
  | _ => false
def spLets : Sp := fun vs H Q _ => ∃ (v : V) (d : PyData) (a b : Nat), vs = [v, .int a, .int b] ∧ Dt H d v ∧ b ≤ 1000 ∧ (∀ x, d = .str x → x.length ≤ sizeLine) ∧ ∀ H', Ex H H' → Q (.bl (letD d a b)) H'
theorem sc_is_letters : FnScope ["thing", "least", "most", "sign"] ["thing", "least", "most"] (defScope s_is_letters) := ⟨rfl, rfl, rfl, by decide +kernel, rfl, by decide +kernel, by decide +kernel⟩
theorem bi_is_letters : BindsEq "is_letters" s_is_letters ["thing", "least", "most"] := fun _ _ _ _ _ _ us hl => match us, hl with | [_, _, _], _ => rfl
theorem letters_mem (c : Nat) : decide (c ∈ ("abcdefghijklmnopqrstuvwxyz" : Str).cps.toList) = (decide (97 ≤ c) && decide (c ≤ 122)) := by
  have e : ("abcdefghijklmnopqrstuvwxyz" : Str).cps.toList = (List.range 26).map (· + 97) := by decide +kernel
  rw [e]
  by_cases h : 97 ≤ c ∧ c ≤ 122
  · rw [decide_eq_true h.1, decide_eq_true h.2]
    exact decide_eq_true (List.mem_map.mpr ⟨c - 97, List.mem_range.mpr (by omega), by omega⟩)
  · have : ¬ c ∈ (List.range 26).map (· + 97) := fun hm => by
      obtain ⟨a, h1, h2⟩ := List.mem_map.mp hm
      have := List.mem_range.mp h1
      omega
    rw [decide_eq_false this]
    by_cases h1 : 97 ≤ c
    · rw [decide_eq_true h1, decide_eq_false (by omega)]
      rfl
    · rw [decide_eq_false h1]
      rfl
theorem ok_lets (F : Df K mg "is_letters" s_is_letters) (T : Txt K mg) : Cal P w K mg base CX0 1 "is_letters" spLets := by
  refine cal0 F sc_is_letters bi_is_letters (fun vs H Q E h => ?_) (fun f cdv A outer s H vs Q E hr h => ?_)
  · obtain ⟨v, d, a, b, rfl, _⟩ := h
    rfl
  · obtain ⟨v, d, a, b, rfl, hd, hb, hx, k⟩ := h
    refine ⟨_, (pss_cons (ps_if (PW.pt (pw_or (pt_not (pt_val (pe_callB (isD K) rfl T.b_isinstance (by decide +kernel) (pa_cons (pv 0) (pa_cons (pe_bltn (v := .ty "str") rfl T.b_str (by decide +kernel) rfl) pa_nil))))) (pw_or1 (pt_not (pt_chain op_le op_le (pv 1) (pe_callB (lnK K) rfl T.b_len (by decide +kernel) (pa_cons (pv 0) pa_nil)) (pv 2)))))) (pss_one (ps_ret pe_bl)) pss_nil)
 (pss_one (ps_ret (pe_callB (allK K rfl) rfl T.b_all (by decide +kernel) (pa_cons (pe_lc (own := [("sign", 3)]) (by rfl) sc_is_letters.nd (pi_str (pv 0)) (blkOk_by (own := [("sign", 3)]) (N := ["thing", "least", "most", "sign"]) (sc := defScope s_is_letters) (by decide +kernel)) (fun _ _ _ _ _ => (pg_name (i := 3) sc_is_letters.nd rfl (Or.inl rfl))) (fun _ _ _ _ _ => pts_nil) (fun _ _ _ _ _ => (pe_cmpR op_in_sign (pv 3) (pgc rfl T.g_LETTERS) (by rfl)))) pa_nil))))), ?_⟩
    cases d with
    | str x =>
      have hv : v = .str x := by unfold Dt at hd; exact hd
      have hz := hx x rfl
      refine ⟨v, rfl, v, _, _, true, rfl, hd, rfl, _, rfl, if_f rfl ?_⟩
      subst hv
      refine ⟨_, rfl, _, rfl, .str x, x.length, rfl, ⟨hz, rfl⟩, _, _, rfl, rfl, _, rfl, if_b (fun h1 => ?_) (fun h1 => ?_)⟩
      · refine ⟨_, rfl, _, _, rfl, rfl, _, rfl, if_b (fun h2 => ?_) (fun h2 => ?_)⟩
        · have e : letD (.str x) a b = false := by
            have h2 : ¬ x.length ≤ b := fun q => by
              rw [decide_eq_true (show (x.length : Int) ≤ b by omega)] at h2
              cases h2
            show (decide (a ≤ x.length) && decide (x.length ≤ b) && low x) = false
            rw [decide_eq_false h2, Bool.and_false, Bool.false_and]
          have q := k H (fun _ _ h => h)
          rw [e] at q
          exact q
        · have h1 : a ≤ x.length := by
            have := of_decide_eq_true h1
            omega
          have h2 : x.length ≤ b := by
            have h2 : decide ((x.length : Int) ≤ b) = true := by simpa using h2
            have := of_decide_eq_true h2
            omega
          refine ⟨_, rfl, x, rfl, fun D nD => lc_gr walk_str (fun i acc _ => acc = (x.cps.toList.take i).map fun c => V.bl (decide (97 ≤ c) && decide (c ≤ 122))) nD (by show x.length ≤ 100000; omega) rfl (fun _ _ => True.intro) ?_ ?_⟩
          · rintro i v acc H1 H2 hi e e' hD hl rfl ⟨rfl, c, hc, rfl⟩
            refine ⟨rfl, _, rfl, c, _, rfl, rfl, lc_put e' hD hl (by have : i < x.length := hi; omega) (fun _ _ h => h) ?_⟩
            rw [letters_mem, List.take_add_one, List.map_append, Array.getElem?_toList, hc]
            rfl
          · rintro acc H1 e e' hD hl rfl
            refine ⟨D, x.cps.toList.map fun c => decide (97 ≤ c) && decide (c ≤ 122), rfl, ?_, ?_⟩
            · have e1 : x.cps.toList.take x.cps.size = x.cps.toList := List.take_of_length_le (by simp)
              rw [e1] at hD
              rw [List.map_map]
              exact SqLo hD
            · have q := k _ e
              have e2 : letD (.str x) a b = ((x.cps.toList.map fun c => decide (97 ≤ c) && decide (c ≤ 122)).all id) := by
                show (decide (a ≤ x.length) && decide (x.length ≤ b) && low x) = _
                rw [decide_eq_true h1, decide_eq_true h2, List.all_map]
                rfl
              rw [e2] at q
              exact q
      · refine ⟨_, rfl, if_t rfl ?_⟩
        have e : letD (.str x) a b = false := by
          have h1 : ¬ a ≤ x.length := fun q => by
            rw [decide_eq_true (show (a : Int) ≤ x.length by omega)] at h1
            cases h1
          show (decide (a ≤ x.length) && decide (x.length ≤ b) && low x) = false
          rw [decide_eq_false h1, Bool.false_and, Bool.false_and]
        have q := k H (fun _ _ h => h)
        rw [e] at q
        exact q
    | _ => exact ⟨v, rfl, v, _, _, false, rfl, hd, rfl, _, rfl, if_t rfl (if_t rfl (k H (fun _ _ h => h)))⟩
end
end VL

namespace VL
open PySem PySem.Spec L2 LW
open Evl (Ex)
section
variable {P : Program} {w : World} {K : PySem.W.Frag} {mg : Str → Option Value} {base : Heap}
/-! ### is_field -/
def spField : Sp := fun vs H Q _ => ∃ (v : V) (d : PyData), vs = [v] ∧ Dt H d v ∧ (∀ x, d = .str x → x.length ≤ sizeLine) ∧ ∀ H', Ex H H' → Q (.bl (fld d)) H'
theorem fld_eq (d : PyData) : letD d 1 8 = fld d := by cases d <;> rfl
theorem sc_is_field : FnScope ["thing"] ["thing"] (defScope s_is_field) := ⟨rfl, rfl, rfl, by decide +kernel, rfl, by decide +kernel, by decide +kernel⟩
theorem bi_is_field : BindsEq "is_field" s_is_field ["thing"] := fun _ _ _ _ _ _ us hl => match us, hl with | [_], _ => rfl
theorem ok_field (F : Df K mg "is_field" s_is_field) (T : Txt K mg) (C_is_letters : Cal P w K mg base CX0 1 "is_letters" spLets) : Cal P w K mg base CX0 2 "is_field" spField := by
  refine cal0 F sc_is_field bi_is_field (fun vs H Q E h => ?_) (fun f cdv A outer s H vs Q E hr h => ?_)
  · obtain ⟨v, d, rfl, _⟩ := h
    rfl
  · obtain ⟨v, d, rfl, hd, hx, k⟩ := h
    refine ⟨_, (pss_one (ps_ret (pe_k C_is_letters hr (by decide) rfl (pa_cons (pv 0) (pa_cons pe_int (pa_cons (pgc rfl T.g_LONGEST_NAME) pa_nil)))))), ?_⟩
    refine ⟨v, rfl, v, d, 1, 8, rfl, hd, by decide, hx, fun H' e => ?_⟩
    rw [fld_eq]
    exact k H' e
/-! ### is_leaf -/
def leafD (d : PyData) : Bool := match d with
  | .int i => okP (.int i)
  | .str x => okP (.str x)
  | _ => false
def spIsLeaf : Sp := fun vs H Q _ => ∃ (v : V) (d : PyData), vs = [v] ∧ Dt H d v ∧ (∀ x, d = .str x → x.length ≤ sizeLine) ∧ ∀ H', Ex H H' → Q (.bl (leafD d)) H'
theorem sc_is_leaf : FnScope ["thing"] ["thing"] (defScope s_is_leaf) := ⟨rfl, rfl, rfl, by decide +kernel, rfl, by decide +kernel, by decide +kernel⟩
theorem bi_is_leaf : BindsEq "is_leaf" s_is_leaf ["thing"] := fun _ _ _ _ _ _ us hl => match us, hl with | [_], _ => rfl
theorem ok_isleaf (F : Df K mg "is_leaf" s_is_leaf) (T : Txt K mg) (C_is_integer : Cal P w K mg base CX0 1 "is_integer" spIsInt) (C_is_letters : Cal P w K mg base CX0 1 "is_letters" spLets) : Cal P w K mg base CX0 2 "is_leaf" spIsLeaf := by
  refine cal0 F sc_is_leaf bi_is_leaf (fun vs H Q E h => ?_) (fun f cdv A outer s H vs Q E hr h => ?_)
  · obtain ⟨v, d, rfl, _⟩ := h
    rfl
  · obtain ⟨v, d, rfl, hd, hx, k⟩ := h
    refine ⟨_, (pss_cons (ps_if (pt_val (pe_k C_is_integer hr (by decide) rfl (pa_cons (pv 0) pa_nil))) (pss_one (ps_ret (pe_chain op_lt op_lt (pe_un un_neg (pgc rfl T.g_GREATEST)) (pv 0) (pgc rfl T.g_GREATEST)))) pss_nil)
 (pss_one (ps_ret (pe_k C_is_letters hr (by decide) rfl (pa_cons (pv 0) (pa_cons pe_int (pa_cons (pgc rfl T.g_LONGEST_TEXT) pa_nil))))))), ?_⟩
    refine ⟨v, rfl, v, d, rfl, hd, _, rfl, ?_⟩
    cases d with
    | int i =>
      have hv : v = .int i := by unfold Dt at hd; exact hd
      subst hv
      refine if_t rfl ?_
      have e : leafD (.int i) = (decide (-big < i) && decide (i < big)) := rfl
      have q := k H (fun _ _ h => h)
      rw [e] at q
      refine ⟨_, rfl, _, rfl, _, _, rfl, rfl, _, rfl, if_b (fun h1 => ?_) (fun h1 => ?_)⟩
      · refine ⟨_, _, rfl, rfl, ?_⟩
        rw [show decide (-big < i) = true from h1, Bool.true_and] at q
        exact q
      · rw [show decide (-big < i) = false from h1, Bool.false_and] at q
        exact q
    | _ =>
      refine if_f rfl ?_
      refine ⟨v, rfl, v, _, 0, 20, rfl, hd, by decide, hx, fun H' e => ?_⟩
      exact k H' e
/-! ### is_part -/
theorem dt_key {H : Hp} (k : Key) : Dt H (kD k) (kV k) := by
  cases k <;> (unfold kD kV Dt; rfl)
theorem DtK.keys {H : Hp} : ∀ {kvs : List (PyData × PyData)} {es : List (Key × V)}, DtK H kvs es → DtL H (kvs.map (·.1)) (es.map fun p => kV p.1)
  | [], _, h => by
    unfold DtK at h
    subst h
    exact DtL.nil
  | (k, d) :: r, _, h => by
    unfold DtK at h
    obtain ⟨x, v, t, rfl, rfl, _, h2⟩ := h
    exact DtL.cons (dt_key x) (DtK.keys h2)
theorem DtK.len {H : Hp} : ∀ {kvs : List (PyData × PyData)} {es : List (Key × V)}, DtK H kvs es → es.length = kvs.length
  | [], _, h => by
    unfold DtK at h
    subst h
    rfl
  | (k, d) :: r, _, h => by
    unfold DtK at h
    obtain ⟨x, v, t, rfl, rfl, _, h2⟩ := h
    rw [List.length_cons, List.length_cons, DtK.len h2]
/-- a dict's object and its keys -/
theorem dict_keys {H : Hp} {kvs : List (PyData × PyData)} {v : V} (h : Dt H (.dict kvs) v) : ∃ a u ks, v = .ref a ∧ L2.Rd H a u ∧ Mut (some u) ∧ KeysAre a u ks ∧ ks.length = kvs.length ∧ (∀ Hf, RdX H Hf → DtL Hf (kvs.map (·.1)) ks) ∧
    ∀ (Hf : Hp) (Q : VK), L2.Rd Hf a u → Q (.int kvs.length) Hf → rLnD [.ref a] Hf Q := by
  unfold Dt at h
  obtain ⟨a, rfl, ⟨es, ha, nd, hl⟩ | ⟨k, x, ha, hl⟩⟩ := h
  · refine ⟨a, _, _, rfl, ha, True.intro, .inl ⟨es, rfl, rfl⟩, ?_, fun Hf e => (DtK.keys hl).rdx e, fun Hf Q hf q => ⟨a, rfl, .inl ⟨es, hf, ?_⟩⟩⟩
    · rw [List.length_map, DtK.len hl]
    · rw [DtK.len hl]
      exact q
  · match kvs, hl with
    | [], hl =>
      unfold DtO at hl
      exact hl.elim
    | (kd, vd) :: r, hl =>
      unfold DtO at hl
      obtain ⟨rfl, _, h1, h2⟩ := hl
      exact ⟨a, _, _, rfl, ha, True.intro, .inr ⟨k, x, rfl, rfl⟩, rfl, fun Hf e => DtL.cons (h1.rdx e) DtL.nil, fun Hf Q hf q => ⟨a, rfl, .inr ⟨k, x, hf, q⟩⟩⟩
def SzD (d : PyData) : Prop := (∀ x, d = .str x → x.length ≤ sizeLine) ∧ ∀ kvs, d = .dict kvs → ∀ p ∈ kvs, ∀ x, p.1 = .str x → x.length ≤ sizeLine
def spPart : Sp := fun vs H Q _ => ∃ (v : V) (d : PyData), vs = [v] ∧ Dt H d v ∧ SzD d ∧ ∀ H', Ex H H' → Q (.bl (okP d)) H'
theorem sc_is_part : FnScope ["thing", "name"] ["thing"] (defScope s_is_part) := ⟨rfl, rfl, rfl, by decide +kernel, rfl, by decide +kernel, by decide +kernel⟩
theorem bi_is_part : BindsEq "is_part" s_is_part ["thing"] := fun _ _ _ _ _ _ us hl => match us, hl with | [_], _ => rfl
theorem ok_part (F : Df K mg "is_part" s_is_part) (T : Txt K mg) (C_is_leaf : Cal P w K mg base CX0 2 "is_leaf" spIsLeaf) (C_is_field : Cal P w K mg base CX0 2 "is_field" spField) : Cal P w K mg base CX0 3 "is_part" spPart := by
  refine cal0 F sc_is_part bi_is_part (fun vs H Q E h => ?_) (fun f cdv A outer s H vs Q E hr h => ?_)
  · obtain ⟨v, d, rfl, _⟩ := h
    rfl
  · obtain ⟨v, d, rfl, hd, hx, k⟩ := h
    refine ⟨_, (pss_cons (ps_if (pt_val (pe_callB (isD K) rfl T.b_isinstance (by decide +kernel) (pa_cons (pv 0) (pa_cons (pe_bltn (v := .ty "list") rfl T.b_list (by decide +kernel) rfl) pa_nil)))) (pss_one (ps_ret (pe_cmpR op_lt (pe_callB (lnA K) rfl T.b_len (by decide +kernel) (pa_cons (pv 0) pa_nil)) (pgc rfl T.g_MOST_PLACES) (nomark _)))) pss_nil)
 (pss_cons (ps_if (pt_val (pe_callB (isD K) rfl T.b_isinstance (by decide +kernel) (pa_cons (pv 0) (pa_cons (pe_bltn (v := .ty "dict") rfl T.b_dict (by decide +kernel) rfl) pa_nil)))) (pss_one (ps_lockA (ps_ret (pe_and (pe_cmpR op_le (pe_callB (lnA K) rfl T.b_len (by decide +kernel) (pa_cons (pv 0) pa_nil)) (pgc rfl T.g_MOST_FIELDS) (nomark _)) (pe_one (pe_callB (allK K rfl) rfl T.b_all (by decide +kernel) (pa_cons (pe_lc (own := [("name", 1)]) (by rfl) sc_is_part.nd (pi_ka (pv 0)) (blkOk_by (own := [("name", 1)]) (N := ["thing", "name"]) (sc := defScope s_is_part) (by decide +kernel)) (fun _ _ _ _ _ => (pg_name (i := 1) sc_is_part.nd rfl (Or.inl rfl))) (fun _ _ _ _ _ => pts_nil) (fun _ _ _ _ _ => (pe_k C_is_field hr (by decide) rfl (pa_cons (pv 1) pa_nil)))) pa_nil))))))) pss_nil)
 (pss_one (ps_ret (pe_k C_is_leaf hr (by decide) rfl (pa_cons (pv 0) pa_nil)))))), ?_⟩
    cases d with
    | list ds =>
      refine ⟨v, rfl, v, _, _, true, rfl, hd, rfl, _, rfl, if_t rfl ?_⟩
      unfold Dt at hd
      obtain ⟨a, vs, rfl, ha, hl⟩ := hd
      refine ⟨_, rfl, .inl ⟨_, vs.length, rfl, .inl ⟨vs, .inl ha, rfl⟩, _, _, rfl, rfl, ?_⟩⟩
      have q := k H (fun _ _ h => h)
      have e : okP (.list ds) = decide ((vs.length : Int) < 60) := by
        show decide (ds.length < 60) = _
        rw [hl.len]
        exact decide_eq_decide.mpr (by omega)
      rw [e] at q
      exact q
    | dict kvs =>
      refine ⟨v, rfl, v, _, _, false, rfl, hd, rfl, _, rfl, if_f rfl ?_⟩
      refine ⟨v, rfl, v, _, _, true, rfl, hd, rfl, _, rfl, if_t rfl ?_⟩
      obtain ⟨a, u, ks, rfl, ha, mu, hk, hlen, hkd, hln⟩ := dict_keys hd
      refine lockA_ret (y := .bl (okP (.dict kvs))) ha mu (fun H' e => k H' e) ?_
      intro Hf o D' rx hf kf
      refine ⟨_, rfl, .inr (hln Hf _ (.inr ⟨o, hf⟩) ⟨_, _, rfl, rfl, _, rfl, if_b (fun h1 => ?_) (fun h1 => ?_)⟩)⟩
      · have h1 : kvs.length ≤ 8 := by
          have := of_decide_eq_true h1
          omega
        refine ⟨_, rfl, a, o, u, ks, rfl, hf, hk, fun D nD => lc_gr walk_ka (fun i acc _ => acc = (kvs.take i).map fun p => V.bl (fld p.1)) nD (by omega) rfl (fun H' e => e _ _ hf) ?_ ?_⟩
        · rintro i x acc H1 H2 hi e e' hD hl rfl ⟨rfl, hx1⟩
          obtain ⟨kd, hkd1, hkd2⟩ := (hkd Hf rx).get hx1
          obtain ⟨p, hp1, rfl⟩ : ∃ p, kvs[i]? = some p ∧ p.1 = kd := by
            rw [List.getElem?_map] at hkd1
            cases hp : kvs[i]? with
            | none => rw [hp] at hkd1; cases hkd1
            | some p => rw [hp] at hkd1; exact ⟨p, rfl, Option.some.inj hkd1⟩
          refine ⟨rfl, _, rfl, x, p.1, rfl, hkd2.ex e, hx.2 kvs rfl p (List.mem_of_getElem? hp1), fun H4 e4 => lc_put e' hD hl (by omega) e4 ?_⟩
          rw [List.take_add_one, List.map_append, hp1]
          rfl
        · rintro acc H1 e e' hD hl rfl
          refine ⟨D, kvs.map fun p => fld p.1, rfl, ?_, ?_⟩
          · have e1 : kvs.take ks.length = kvs := List.take_of_length_le (by omega)
            rw [e1] at hD
            rw [List.map_map]
            exact SqLo hD
          · have q := kf _ e
            have e2 : okP (.dict kvs) = ((kvs.map fun p => fld p.1).all id) := by
              show (decide (kvs.length ≤ 8) && kvs.all fun p => fld p.1) = _
              rw [decide_eq_true h1, List.all_map]
              rfl
            rw [e2] at q
            exact q
      · have e2 : okP (.dict kvs) = false := by
          have h1 : ¬ kvs.length ≤ 8 := fun q => by
            rw [decide_eq_true (show (kvs.length : Int) ≤ 8 by omega)] at h1
            cases h1
          show (decide (kvs.length ≤ 8) && kvs.all fun p => fld p.1) = _
          rw [decide_eq_false h1, Bool.false_and]
        have q := kf Hf (fun _ _ h => h)
        rw [e2] at q
        exact q
    | _ =>
      refine ⟨v, rfl, v, _, _, false, rfl, hd, rfl, _, rfl, if_f rfl ?_⟩
      refine ⟨v, rfl, v, _, _, false, rfl, hd, rfl, _, rfl, if_f rfl ?_⟩
      exact ⟨v, rfl, v, _, rfl, hd, hx.1, k⟩
end
end VL

namespace VL
open PySem PySem.Spec L2 LW
open Evl (Ex)
/-! ### a dict of a value -/
theorem dict_val {H : Hp} {kvs : List (PyData × PyData)} {v : V} (h : Dt H (.dict kvs) v) (ok : AllStr kvs) : ∃ a es, v = .ref a ∧ L2.Rd H a (.dK es) ∧ (es.map (·.1)).Nodup ∧ DtK H kvs es := by
  unfold Dt at h
  obtain ⟨a, rfl, ⟨es, ha, nd, hl⟩ | ⟨k, x, ha, hl⟩⟩ := h
  · exact ⟨a, es, rfl, ha, nd, hl⟩
  · match kvs, hl with
    | [], hl =>
      unfold DtO at hl
      exact hl.elim
    | (kd, vd) :: r, hl =>
      unfold DtO at hl
      exact (hl.2.1 _ (ok (kd, vd) List.mem_cons_self)).elim
theorem names_kV {kvs : List (PyData × PyData)} {es : List (Key × V)} (e : es.map (·.1) = (names kvs).map fun y => (Sum.inr y : Key)) : (es.map fun p => kV p.1) = (names kvs).map V.str := by
  have q := congrArg (List.map kV) e
  rw [List.map_map, List.map_map] at q
  exact q
def RPair (H0 H : Hp) (v : V) (c : V × PyData) : Prop := ∃ t x, v = .ref t ∧ L2.Rd H t (.tup [c.1, x]) ∧ Dt H0 c.2 x
theorem RPair.rdx {H0 H H' : Hp} (e : RdX H H') {v : V} {c : V × PyData} (h : RPair H0 H v c) : RPair H0 H' v c := by
  obtain ⟨t, x, rfl, h1, h2⟩ := h
  exact ⟨t, x, rfl, e _ _ nf_tup h1, h2⟩
theorem RPair.ex {H0 H H' : Hp} (e : Ex H H') {v : V} {c : V × PyData} (h : RPair H0 H v c) : RPair H0 H' v c := h.rdx (rdx_ex e)
theorem pairs_ex {H0 H H' : Hp} (e : Ex H H') {vs : List V} {cs : List (V × PyData)} (h : Paired (RPair H0 H) vs cs) : Paired (RPair H0 H') vs cs := Paired.imp (fun _ _ q => RPair.ex e q) h
section
variable {P : Program} {w : World} {K : PySem.W.Frag} {mg : Str → Option Value} {base : Heap}
/-! ### children -/
def spKids : Sp := fun vs H Q _ => ∃ (v : V) (d : PyData) (H0 : Hp), vs = [v] ∧ Dt H0 d v ∧ Ex H0 H ∧ okP d = true ∧ ∀ p H' ts cs, Ex H H' → H p = none → H' p = some (.lst ts) → Paired (RPair H0 H') ts cs → KidsAre d cs → Q (.ref p) H'
theorem sc_children : FnScope ["value", "name", "index", "child", "field"] ["value"] (defScope s_children) := ⟨rfl, rfl, rfl, by decide +kernel, rfl, by decide +kernel, by decide +kernel⟩
theorem bi_children : BindsEq "children" s_children ["value"] := fun _ _ _ _ _ _ us hl => match us, hl with | [_], _ => rfl
theorem ok_kids (F : Df K mg "children" s_children) (T : Txt K mg) : Cal P w K mg base CX0 1 "children" spKids := by
  refine cal0 F sc_children bi_children (fun vs H Q E h => ?_) (fun f cdv A outer s H vs Q E hr h => ?_)
  · obtain ⟨v, d, H0, rfl, _⟩ := h
    rfl
  · obtain ⟨v, d, H0, rfl, hd0, x00, ho, k⟩ := h
    have hd := hd0.ex x00
    refine ⟨_, (pss_cons (ps_if (pt_val (pe_callB (isD K) rfl T.b_isinstance (by decide +kernel) (pa_cons (pv 0) (pa_cons (pe_bltn (v := .ty "dict") rfl T.b_dict (by decide +kernel) rfl) pa_nil)))) (pss_one (ps_lockA (ps_ret (pe_lc (own := [("name", 1)]) (by rfl) sc_children.nd (pil K (pe_callB (srK K) rfl T.b_sorted (by decide +kernel) (pa_cons (pe_lc (own := [("field", 4)]) (by rfl) sc_children.nd (pi_ka (pv 0)) (blkOk_by (own := [("field", 4)]) (N := ["value", "name", "index", "child", "field"]) (sc := defScope s_children) (by decide +kernel)) (fun _ _ _ _ _ => (pg_name (i := 4) sc_children.nd rfl (Or.inl rfl))) (fun _ _ _ _ _ => pts_nil) (fun _ _ _ _ _ => (pe_callTy strS rfl T.b_str (by decide +kernel) (pa_cons (pv 4) pa_nil)))) pa_nil))) (blkOk_by (own := [("name", 1)]) (N := ["value", "name", "index", "child", "field"]) (sc := defScope s_children) (by decide +kernel)) (fun _ _ _ _ _ => (pg_name (i := 1) sc_children.nd rfl (Or.inl rfl))) (fun _ _ _ _ _ => pts_nil) (fun _ _ _ _ _ => (pe_tup (pa_cons (pv 1) (pa_cons (pe_ix (ixA K) (pv 0) (pv 1) (fun _ _ => rfl)) pa_nil)))))))) pss_nil)
 (pss_cons (ps_if (pt_val (pe_callB (isD K) rfl T.b_isinstance (by decide +kernel) (pa_cons (pv 0) (pa_cons (pe_bltn (v := .ty "list") rfl T.b_list (by decide +kernel) rfl) pa_nil)))) (pss_one (ps_ret (pe_lc (own := [("index", 2), ("child", 3)]) (by rfl) sc_children.nd (pi_enum rfl T.b_enumerate (pa_cons (pv 0) pa_nil)) (blkOk_by (own := [("index", 2), ("child", 3)]) (N := ["value", "name", "index", "child", "field"]) (sc := defScope s_children) (by decide +kernel)) (fun _ _ _ _ _ => (pgt (n := 2) K rfl (pgs_cons (pg_name (i := 2) sc_children.nd rfl (Or.inl rfl)) (pgs_cons (pg_name (i := 3) sc_children.nd rfl (Or.inl rfl)) pgs_nil)))) (fun _ _ _ _ _ => pts_nil) (fun _ _ _ _ _ => (pe_tup (pa_cons (pv 2) (pa_cons (pv 3) pa_nil))))))) pss_nil)
 (pss_one (ps_ret (pe_lst pa_nil))))), ?_⟩
    cases d with
    | dict kvs =>
      refine ⟨v, rfl, v, _, _, true, rfl, hd, rfl, _, rfl, if_t rfl ?_⟩
      obtain ⟨ha, hlen⟩ := allStr_of ho
      obtain ⟨a, es, rfl, hae0, nd, hk⟩ := dict_val hd0 ha
      have hae := rd_ex x00 hae0
      have hnm := dtk_names hk ha
      have hks := names_kV hnm
      have hln : (names kvs).length = kvs.length := by
        unfold names
        rw [List.length_map]
      refine lockA_any hae True.intro ?_
      intro Hf o D' th rx hf hno hth kf _
      refine ⟨_, rfl, a, o, _, (names kvs).map V.str, rfl, hf, .inl ⟨es, rfl, hks.symm⟩, fun D1 nD1 => lc_gr walk_ka (fun i acc _ => acc = ((names kvs).take i).map V.str) nD1 (by rw [List.length_map]; omega) rfl (fun H' e => e _ _ hf) ?_ ?_⟩
      · rintro i x acc H1 H2 hi e e' hD hl rfl ⟨rfl, hx1⟩
        obtain ⟨y, hy, rfl⟩ : ∃ y, (names kvs)[i]? = some y ∧ V.str y = x := by
          rw [List.getElem?_map] at hx1
          cases hp : (names kvs)[i]? with
          | none => rw [hp] at hx1; cases hx1
          | some p => rw [hp] at hx1; exact ⟨p, rfl, Option.some.inj hx1⟩
        refine ⟨rfl, _, rfl, y, rfl, lc_put e' hD hl (by rw [List.length_map] at hi; omega) (fun _ _ h => h) ?_⟩
        rw [List.take_add_one, List.map_append, hy]
        rfl
      · rintro acc H1 e e' hD hl rfl
        have e1 : (names kvs).take ((names kvs).map V.str).length = names kvs := List.take_of_length_le (by rw [List.length_map]; exact Nat.le_refl _)
        rw [e1] at hD
        refine ⟨D1, names kvs, rfl, SqLo hD, by omega, fun ys p py sy np => ?_⟩
        have x1 : Ex H1 (upd H1 p (.lst (ys.map V.str))) := Ex.new np
        have hyl : ys.length = kvs.length := by rw [py.length_eq, hln]
        refine ⟨p, rfl, ⟨_, SqLo upd_same⟩, fun D2 nD2 => lc_gr (walk_list (xs := ys.map V.str)) (fun i acc Hc => Paired (RPair H0 Hc) acc ((ys.take i).map fun y => (V.str y, getN kvs y))) nD2 (by rw [List.length_map]; omega) .nil (fun H' e => SqLo (e _ _ upd_same)) ?_ ?_⟩
        · rintro i x acc H2 H3 hi g g' gD gl gr ⟨rfl, hx1⟩
          obtain ⟨y, hy, rfl⟩ : ∃ y, ys[i]? = some y ∧ V.str y = x := by
            rw [List.getElem?_map] at hx1
            cases hp : ys[i]? with
            | none => rw [hp] at hx1; cases hx1
            | some p => rw [hp] at hx1; exact ⟨p, rfl, Option.some.inj hx1⟩
          obtain ⟨u, hu1, hu2⟩ := dtk_get hk ha y (py.mem_iff.mp (List.mem_of_getElem? hy))
          have xf : Ex Hf H3 := e.trans (x1.trans g)
          have xf' : Ex Hf (del H3 D2) := e.trans (x1.trans g')
          refine ⟨rfl, _, rfl, _, rfl, _, rfl, .inr ⟨a, es, .inr y, u, rfl, rfl, .inr ⟨o, xf _ _ hf⟩, hu1, szl (by show 2 ≤ 100000; decide), fun q nq => ?_⟩⟩
          refine lc_put g' gD gl (by rw [List.length_map] at hi; omega) (Ex.new nq) ?_
          have ne : q ≠ D2 := fun z => by
            rw [z, gD] at nq
            cases nq
          have gx : Ex (del H3 D2) (del (upd H3 q (.tup [V.str y, u])) D2) := del_grow' (Ex.new nq)
          rw [List.take_add_one, List.map_append, hy]
          refine Paired.app (pairs_ex gx gr) (.cons ⟨q, u, rfl, .inl ?_, hu2⟩ .nil)
          rw [del_ne ne]
          exact upd_same
        · rintro acc H2 g g' gD gl gr
          have xf : Ex Hf H2 := e.trans (x1.trans g)
          refine kf _ H2 xf ?_
          obtain ⟨t1, t2, t3⟩ := hth H2 xf
          have nD : H D2 = none := hno _ (ex_free e (ex_free x1 nD2))
          have ne : D2 ≠ a := fun z => by
            obtain ⟨w, hw⟩ := rd_some hae
            rw [z, hw] at nD
            cases nD
          have e3 : ys.take (ys.map V.str).length = ys := List.take_of_length_le (by rw [List.length_map]; exact Nat.le_refl _)
          rw [e3] at gr
          refine k D2 _ acc _ t1 nD (by rw [t3 _ ne]; exact gD) (Paired.imp (fun _ _ q => (q.ex ex_del).rdx t2) gr) ⟨ys, py, sy, rfl⟩
    | list ds =>
      refine ⟨v, rfl, v, _, _, false, rfl, hd, rfl, _, rfl, if_f rfl ?_⟩
      refine ⟨v, rfl, v, _, _, true, rfl, hd, rfl, _, rfl, if_t rfl ?_⟩
      unfold Dt at hd0
      obtain ⟨a, xs, rfl, hax0, hl⟩ := hd0
      have hax := rd_ex x00 hax0
      have hlen := hl.len
      have h60 : ds.length < 60 := of_decide_eq_true ho
      refine ⟨_, rfl, a, xs, rfl, .inl hax, fun D nD => lc_gr (walk_enum (K := K) (a := a) (xs := xs)) (fun i acc Hc => Paired (RPair H0 Hc) acc (((List.range ds.length).zipWith (fun (i : Nat) c => (V.int i, c)) ds).take i)) nD (by omega) .nil (fun H' e => .inl (rd_ex e hax)) ?_ ?_⟩
      · rintro i x acc H1 H2 hi g g' gD gl gr ⟨q, y, z, rfl, nq, rfl, hy, hz⟩
        cases hy
        obtain ⟨dc, hdc, hdt⟩ := hl.get hz
        have gq : Ex H1 (upd H1 q (.tup [V.int i, z])) := Ex.new nq
        refine ⟨q, _, rfl, SqTo upd_same, rfl, _, _, rfl, _, _, rfl, rfl, rfl, _, rfl, _, rfl, szl (by show 2 ≤ 100000; decide), fun t nt => ?_⟩
        have gt : Ex H1 (upd (upd H1 q (.tup [V.int i, z])) t (.tup [V.int i, z])) := gq.trans (Ex.new nt)
        refine lc_put g' gD gl (by omega) gt ?_
        have ne : t ≠ D := fun e => by
          rw [e, gq _ _ gD] at nt
          cases nt
        have gx := del_grow' (p := D) gt
        rw [List.take_add_one]
        have e3 : ((List.range ds.length).zipWith (fun (i : Nat) c => (V.int i, c)) ds)[i]? = some (V.int i, dc) := by
          rw [List.getElem?_zipWith, List.getElem?_range (by omega), hdc]
        rw [e3]
        refine Paired.app (pairs_ex gx gr) (.cons ⟨t, z, rfl, .inl ?_, hdt⟩ .nil)
        rw [del_ne ne]
        exact upd_same
      · rintro acc H1 g g' gD gl gr
        refine k D H1 acc _ g nD gD (pairs_ex ex_del gr) ?_
        show _ = _
        exact List.take_of_length_le (by rw [List.length_zipWith, List.length_range]; omega)
    | _ =>
      refine ⟨v, rfl, v, _, _, false, rfl, hd, rfl, _, rfl, if_f rfl ?_⟩
      refine ⟨v, rfl, v, _, _, false, rfl, hd, rfl, _, rfl, if_f rfl ?_⟩
      refine ⟨szl (by decide), fun p np => k p _ [] [] (Ex.new np) np upd_same .nil rfl⟩
end
end VL

namespace VL
open PySem PySem.Spec L2 LW
open Evl (Ex)
/-! ### texts are short -/
mutual
def szA : PyData → Prop
  | .str x => x.length ≤ 1000
  | .list ds => szL ds
  | .dict kvs => szK kvs
  | _ => True
def szL : List PyData → Prop
  | [] => True
  | d :: r => szA d ∧ szL r
def szK : List (PyData × PyData) → Prop
  | [] => True
  | (k, d) :: r => szA k ∧ szA d ∧ szK r
end
theorem szL_mem : ∀ {ds : List PyData} {d : PyData}, szL ds → d ∈ ds → szA d
  | c :: r, d, h, m => by
    unfold szL at h
    rcases List.mem_cons.mp m with rfl | m
    · exact h.1
    · exact szL_mem h.2 m
theorem szL_of : ∀ {ds : List PyData}, (∀ d ∈ ds, szA d) → szL ds
  | [], _ => by unfold szL; trivial
  | c :: r, h => by
    unfold szL
    exact ⟨h c List.mem_cons_self, szL_of fun d m => h d (List.mem_cons_of_mem _ m)⟩
theorem szK_mem : ∀ {ds : List (PyData × PyData)} {p : PyData × PyData}, szK ds → p ∈ ds → szA p.1 ∧ szA p.2
  | c :: r, d, h, m => by
    unfold szK at h
    rcases List.mem_cons.mp m with rfl | m
    · exact ⟨h.1, h.2.1⟩
    · exact szK_mem h.2.2 m
theorem szK_of : ∀ {ds : List (PyData × PyData)}, (∀ p ∈ ds, szA p.1 ∧ szA p.2) → szK ds
  | [], _ => by unfold szK; trivial
  | c :: r, h => by
    unfold szK
    exact ⟨(h c List.mem_cons_self).1, (h c List.mem_cons_self).2, szK_of fun d m => h d (List.mem_cons_of_mem _ m)⟩
theorem szA_str {x : Str} (h : szA (.str x)) : x.length ≤ 1000 := by unfold szA at h; exact h
theorem szD_of {d : PyData} (h : szA d) : SzD d := by
  refine ⟨fun x e => ?_, fun kvs e p hp x ex => ?_⟩
  · subst e
    have := szA_str h
    exact szl (by omega)
  · subst e
    unfold szA at h
    have q := (szK_mem h hp).1
    rw [ex] at q
    have := szA_str q
    exact szl (by omega)
theorem szA_kids {d : PyData} (h : szA d) : szL (kids d) := by
  cases d with
  | list ds => unfold szA at h; exact h
  | dict kvs =>
    unfold szA at h
    refine szL_of fun c hc => ?_
    obtain ⟨p, hp, rfl⟩ := List.mem_map.mp hc
    exact (szK_mem h hp).2
  | _ => exact szL_of nofun
theorem kids_len {d : PyData} (h : okP d = true) : (kids d).length ≤ 60 := by
  cases d with
  | list ds =>
    have : ds.length < 60 := of_decide_eq_true h
    show ds.length ≤ 60
    omega
  | dict kvs =>
    obtain ⟨_, h8⟩ := allStr_of h
    show (kvs.map (·.2)).length ≤ 60
    rw [List.length_map]
    omega
  | _ => exact Nat.zero_le _
theorem kids_ns {H : Hp} {d : PyData} {v : V} (hd : Dt H d v) (h : okP d = true) : ∀ kvs, d = .dict kvs → AllStr kvs ∧ (names kvs).Nodup := by
  rintro kvs rfl
  obtain ⟨ha, _⟩ := allStr_of h
  obtain ⟨a, es, rfl, _, nd, hk⟩ := dict_val hd ha
  exact ⟨ha, nodup_names hk ha nd⟩
theorem dtl_drop {H : Hp} : ∀ {ds : List PyData} {vs : List V} {y : V}, DtL H ds vs → vs[vs.length - 1]? = some y → ∃ d, ds = ds.dropLast ++ [d] ∧ Dt H d y ∧ DtL H ds.dropLast vs.dropLast
  | [], _, y, h, e => by
    unfold DtL at h
    subst h
    cases e
  | [d], _, y, h, e => by
    unfold DtL at h
    obtain ⟨v, t, rfl, h1, h2⟩ := h
    unfold DtL at h2
    subst h2
    cases e
    exact ⟨d, rfl, h1, DtL.nil⟩
  | d :: c :: r, _, y, h, e => by
    unfold DtL at h
    obtain ⟨v, t, rfl, h1, h2⟩ := h
    have h2' := h2
    unfold DtL at h2'
    obtain ⟨u, t', rfl, _, _⟩ := h2'
    have e' : (u :: t')[(u :: t').length - 1]? = some y := by
      simpa using e
    obtain ⟨x, q1, q2, q3⟩ := dtl_drop h2 e'
    refine ⟨x, ?_, q2, ?_⟩
    · show d :: c :: r = (d :: (c :: r).dropLast) ++ [x]
      rw [List.cons_append, ← q1]
    · exact DtL.cons h1 q3
theorem dtl_of_pairs {H : Hp} : ∀ {ts : List V} {cs : List (V × PyData)} {us : List V}, (∀ (i : Nat) c, cs[i]? = some c → ∃ u, us[i]? = some u ∧ Dt H c.2 u) → us.length = cs.length → DtL H (cs.map (·.2)) us
  | _, [], us, _, e => by
    have : us = [] := List.length_eq_zero_iff.mp e
    subst this
    exact DtL.nil
  | ts, c :: r, us, h, e => by
    obtain ⟨u, h1, h2⟩ := h 0 c rfl
    match us, h1, e with
    | u' :: t, h1, e =>
      cases h1
      exact DtL.cons h2 (dtl_of_pairs (ts := ts) (fun i c hc => h (i + 1) c (by simpa using hc)) (by simpa using e))
def isV (d : PyData) : Bool := okA d && decide (cnt d ≤ 60)
theorem del_upd {H : Hp} {p : Addr} {o : HO} : del (upd H p o) p = del H p := by
  funext b
  by_cases hb : b = p
  · rw [hb, del_same, del_same]
  · rw [del_ne hb, del_ne hb, upd_ne hb]
theorem ex_del_upd {H : Hp} {p : Addr} {o : HO} : Ex (del H p) (upd H p o) := fun b u q => by
  by_cases hb : b = p
  · rw [hb, del_same] at q
    cases q
  · rw [del_ne hb] at q
    rw [upd_ne hb]
    exact q
/-! ### is_value -/
def spIsVal : Sp := fun vs H Q _ => ∃ (v : V) (d : PyData), vs = [v] ∧ Dt H d v ∧ szA d ∧ ∀ H', Ex H H' → Q (.bl (isV d)) H'
def IsVW (H : Hp) (v : V) (d : PyData) (p : Addr) (m : Nat) (σ : L2.St) (H' : Hp) : Prop := ∃ (many : Nat) (ws : List V) (ds : List PyData) (o3 o4 o5 : Option V), σ = [some v, some (.ref p), some (.int many), o3, o4, o5] ∧ m = cntL ds ∧ Ex H (del H' p) ∧ H' p = some (.lst ws) ∧ DtL (del H' p) ds ws ∧ szL ds ∧ many ≤ 60 ∧ ws.length ≤ 1 + 60 * many ∧ isV d = (okL ds && decide (many + cntL ds ≤ 60))
section
variable {P : Program} {w : World} {K : PySem.W.Frag} {mg : Str → Option Value} {base : Heap}
theorem sc_is_value : FnScope ["thing", "waiting", "many", "one", "step", "child"] ["thing"] (defScope s_is_value) := ⟨rfl, rfl, rfl, by decide +kernel, rfl, by decide +kernel, by decide +kernel⟩
theorem bi_is_value : BindsEq "is_value" s_is_value ["thing"] := fun _ _ _ _ _ _ us hl => match us, hl with | [_], _ => rfl
theorem ok_isval (F : Df K mg "is_value" s_is_value) (T : Txt K mg) (C_is_part : Cal P w K mg base CX0 3 "is_part" spPart) (C_children : Cal P w K mg base CX0 1 "children" spKids) : Cal P w K mg base CX0 4 "is_value" spIsVal := by
  refine cal0 F sc_is_value bi_is_value (fun vs H Q E h => ?_) (fun f cdv A outer s H vs Q E hr h => ?_)
  · obtain ⟨v, d, rfl, _⟩ := h
    rfl
  · obtain ⟨v, d, rfl, hd, hz, k⟩ := h
    refine ⟨_, (pss_cons (ps_set (i := 1) sc_is_value.nd rfl (Or.inl rfl) (pe_lst (pa_cons (pv 0) pa_nil)))
 (pss_cons (ps_set (i := 2) sc_is_value.nd rfl (Or.inl rfl) pe_int)
 (pss_cons (ps_while PassesOwn.never (pt_cmpR op_gt (pe_callB (lnK K) rfl T.b_len (by decide +kernel) (pa_cons (pv 1) pa_nil)) pe_int (nomark _)) (pss_cons (ps_set (i := 3) sc_is_value.nd rfl (Or.inl rfl) (pe_bm0 PySem.F.plainAttrs_list PySem.F.slot_list_pop PySem.F.type_list_pop mt_pop (pv 1)))
 (pss_cons (ps_aug (i := 2) sc_is_value.nd rfl (.inl rfl) pe_int ip_add)
 (pss_cons (ps_if (PW.pt (pw_or (pt_cmpR op_gt (pv 2) (pgc rfl T.g_MOST_PLACES) (nomark _)) (pw_or1 (pt_not (pt_val (pe_k C_is_part hr (by decide) rfl (pa_cons (pv 3) pa_nil))))))) (pss_one (ps_ret pe_bl)) pss_nil)
 (pss_one (ps_expr (pe_bm PySem.F.plainAttrs_list PySem.F.slot_list_extend PySem.F.type_list_extend mt_extend (pv 1) (pa_cons (pe_lc (own := [("step", 4), ("child", 5)]) (by rfl) sc_is_value.nd (pil K (pe_k C_children hr (by decide) rfl (pa_cons (pv 3) pa_nil))) (blkOk_by (own := [("step", 4), ("child", 5)]) (N := ["thing", "waiting", "many", "one", "step", "child"]) (sc := defScope s_is_value) (by decide +kernel)) (fun _ _ _ _ _ => (pgt (n := 2) K rfl (pgs_cons (pg_name (i := 4) sc_is_value.nd rfl (Or.inl rfl)) (pgs_cons (pg_name (i := 5) sc_is_value.nd rfl (Or.inl rfl)) pgs_nil)))) (fun _ _ _ _ _ => pts_nil) (fun _ _ _ _ _ => (pv 5))) pa_nil))))))))
 (pss_one (ps_ret pe_bl))))), ?_⟩
    refine ⟨_, rfl, szl (by show 1 ≤ 100000; decide), fun p np => ?_⟩
    refine ⟨IsVW H v d p, ?_, ?_⟩
    · refine ⟨_, 0, [v], [d], none, none, none, rfl, rfl, ?_, upd_same, ?_, ?_, by omega, by show 1 ≤ _; omega, ?_⟩
      · rw [del_none np]
        exact fun _ _ h => h
      · rw [del_none np]
        exact DtL.cons hd DtL.nil
      · exact szL_of fun c hc => by
          cases List.mem_singleton.mp hc
          exact hz
      · unfold isV okL okL cntL cntL
        rw [Bool.and_true, Nat.zero_add, Nat.add_zero]
    · rintro m σ H1 ⟨many, ws, ds, o3, o4, o5, rfl, rfl, e1, hp, hds, hsz, hm, hwl, hval⟩
      have e0 : Ex H H1 := e1.trans ex_del
      have hlen := hds.len
      refine ⟨_, rfl, .ref p, ws.length, rfl, .inl ⟨ws, .inl (.inl hp), rfl⟩, _, _, rfl, rfl, _, rfl, if_b (fun hc => ?_) (fun hc => ?_)⟩
      · have hw0 : 0 < ws.length := by
          have := of_decide_eq_true hc
          omega
        obtain ⟨y, hy⟩ : ∃ y, ws[ws.length - 1]? = some y := ⟨_, List.getElem?_eq_getElem (by omega)⟩
        obtain ⟨dd, hdd, hdy, hdl'⟩ := dtl_drop hds hy
        have hcl : cntL ds = cntL ds.dropLast + cnt dd := by
          conv => lhs; rw [hdd]
          rw [cntL_app]
          unfold cntL cntL
          omega
        have hol : okL ds = (okL ds.dropLast && okA dd) := by
          conv => lhs; rw [hdd]
          rw [okL_app]
          unfold okL okL
          rw [Bool.and_true]
        have hsd : szA dd := szL_mem hsz (by rw [hdd]; simp)
        have hpos := cnt_pos dd
        refine ⟨fun σ' H' => ∃ m', m' < cntL ds ∧ IsVW H v d p m' σ' H', fun _ _ h => h, ?_⟩
        refine ⟨_, rfl, .inl ⟨rfl, _, SqLo hp⟩, p, ws, y, rfl, rfl, hp, hy, ?_⟩
        have exA : Ex (del H1 p) (upd H1 p (.lst ws.dropLast)) := ex_del_upd
        generalize hA : upd H1 p (.lst ws.dropLast) = HA at exA ⊢
        have hpA : HA p = some (.lst ws.dropLast) := by rw [← hA]; exact upd_same
        have hdelA : del HA p = del H1 p := by rw [← hA]; exact del_upd
        refine ⟨_, rfl, _, _, rfl, rfl, ?_⟩
        refine ⟨_, rfl, _, _, rfl, rfl, _, rfl, if_b (fun h1 => ?_) (fun h1 => ?_)⟩
        · -- too many places
          have h1 : (60 : Int) < many + 1 := of_decide_eq_true h1
          have e : isV d = false := by
            rw [hval, decide_eq_false (by omega), Bool.and_false]
          have q := k HA (e1.trans exA)
          rw [e] at q
          exact q
        · have h1' : many < 60 := by
            have : ¬ (60 : Int) < many + 1 := of_decide_eq_false h1
            omega
          refine ⟨_, rfl, y, dd, rfl, hdy.ex exA, szD_of hsd, fun H2 x2 => ⟨_, rfl, if_b (fun h2 => ?_) (fun h2 => ?_)⟩⟩
          · -- no part
            have h2 : okP dd = false := by simpa using h2
            have e : isV d = false := by
              rw [hval, hol, okA_kids, h2, Bool.false_and, Bool.and_false, Bool.false_and]
            have q := k H2 (e1.trans (exA.trans x2))
            rw [e] at q
            exact q
          · have h2 : okP dd = true := by simpa using h2
            have ex2 : Ex (del H1 p) H2 := exA.trans x2
            have ex2' : Ex (del H1 p) (del H2 p) := by
              rw [← hdelA]
              exact del_grow' x2
            refine ⟨_, rfl, .inl ⟨rfl, _, SqLo (x2 _ _ hpA)⟩, _, rfl, y, dd, _, rfl, hdy, ex2, h2, fun q H3 ts cs x3 nq hq hts hcs => ?_⟩
            have hkp := kids_perm hcs (kids_ns hdy h2)
            have hkl : cs.length ≤ 60 := by
              have := kids_len h2
              have := hkp.length_eq
              rw [List.length_map] at this
              omega
            have htl : ts.length = cs.length := Paired.len hts
            refine ⟨q, rfl, ⟨_, SqLo hq⟩, fun D nD => lc_gr (walk_list (xs := ts)) (fun i acc _ => DtL (del H1 p) ((cs.take i).map (·.2)) acc) nD (by omega) DtL.nil (fun H' e => SqLo (e _ _ hq)) ?_ ?_⟩
            · rintro i x acc H4 H5 hi g g' gD gl gr ⟨rfl, hx1⟩
              obtain ⟨c, hc1, t, u, rfl, ht, hu⟩ := Paired.get hts hx1
              refine ⟨t, _, rfl, .inl (rd_ex g ht), rfl, _, _, rfl, _, _, rfl, rfl, rfl, _, rfl, lc_put g' gD gl (by omega) (fun _ _ h => h) ?_⟩
              rw [List.take_add_one, List.map_append, hc1]
              exact DtL.app gr (DtL.cons hu DtL.nil)
            · rintro acc H4 g g' gD gl gr
              have e3 : cs.take ts.length = cs := List.take_of_length_le (by omega)
              rw [e3] at gr
              have pD : p ≠ D := fun z => by
                rw [← z, x3 _ _ (x2 _ _ hpA)] at nD
                cases nD
              have hp4 : H4 p = some (.lst ws.dropLast) := g _ _ (x3 _ _ (x2 _ _ hpA))
              have hdl : ws.dropLast.length = ws.length - 1 := List.length_dropLast
              refine ⟨p, D, ws.dropLast, acc, rfl, rfl, hp4, gD, szl (by omega), ?_⟩
              have ex4 : Ex (del H1 p) (del H4 p) := ex2'.trans (del_grow' (x3.trans g))
              have hcc : cntL (cs.map (·.2)) + 1 = cnt dd := by
                rw [cntL_perm hkp, cnt_kids dd]
                omega
              refine ⟨cntL (ds.dropLast ++ cs.map (·.2)), ?_, many + 1, ws.dropLast ++ acc, ds.dropLast ++ cs.map (·.2), _, _, _, rfl, rfl, ?_, upd_same, ?_, ?_, by omega, ?_, ?_⟩
              · rw [cntL_app]
                omega
              · rw [del_upd]
                exact e1.trans ex4
              · rw [del_upd]
                exact (DtL.app hdl' gr).ex ex4
              · refine szL_of fun c hc => ?_
                rcases List.mem_append.mp hc with hc | hc
                · exact szL_mem hsz (List.dropLast_subset _ hc)
                · exact szL_mem (szA_kids hsd) (hkp.mem_iff.mp hc)
              · rw [List.length_append]
                omega
              · rw [hval, hol, okL_app, okL_perm hkp, okA_kids dd, h2, Bool.true_and, cntL_app]
                congr 1
                exact decide_eq_decide.mpr (by omega)
      · -- nothing waits
        have hw0 : ws = [] := by
          have : ¬ (0 : Int) < ws.length := of_decide_eq_false hc
          exact List.length_eq_zero_iff.mp (by omega)
        have hd0 : ds = [] := List.length_eq_zero_iff.mp (by rw [← hlen, hw0]; rfl)
        have e : isV d = true := by
          rw [hval, hd0]
          unfold okL cntL
          rw [Bool.true_and]
          exact decide_eq_true (by omega)
        have q := k H1 e0
        rw [e] at q
        exact q
end
end VL

namespace VL
open PySem L2 LW
/-! ### small data: what repr can show -/
mutual
def lim : PyData → Prop
  | .none => True
  | .bool _ => True
  | .int i => -big ≤ i ∧ i ≤ big
  | .str x => x.length ≤ 21 ∧ ∀ c ∈ x.cps.toList, c < 128
  | .list ds => limL ds
  | .tuple ds => limL ds
  | .dict kvs => limK kvs
def limL : List PyData → Prop
  | [] => True
  | d :: r => lim d ∧ limL r
def limK : List (PyData × PyData) → Prop
  | [] => True
  | (k, d) :: r => lim k ∧ lim d ∧ limK r
end
mutual
def nod : PyData → Nat
  | .list ds => 1 + nodL ds
  | .tuple ds => 1 + nodL ds
  | .dict kvs => 1 + nodK kvs
  | .none => 1
  | .bool _ => 1
  | .int _ => 1
  | .str _ => 1
def nodL : List PyData → Nat
  | [] => 0
  | d :: r => nod d + nodL r
def nodK : List (PyData × PyData) → Nat
  | [] => 0
  | (k, d) :: r => nod k + nod d + nodK r
end
theorem big_abs {i : Int} (h : -big ≤ i ∧ i ≤ big) : i.natAbs < 10 ^ 31 := by
  unfold big at h
  omega
mutual
theorem lim_short : ∀ d : PyData, lim d → d.leavesShort 40 = true
  | .none, _ => rfl
  | .bool _, _ => rfl
  | .int i, h => by
    unfold lim at h
    have e := int_text_length_le10 (a := i) (k := 31) (by decide) (big_abs h)
    simp only [PyData.leavesShort, PyData.shown, ofString_length]
    exact decide_eq_true (by omega)
  | .str x, h => by
    unfold lim at h
    simp only [PyData.leavesShort]
    exact List.all_eq_true.mpr fun c hc => decide_eq_true (Nat.lt_trans (h.2 c hc) (by decide))
  | .list ds, h => by
    unfold lim at h
    simp only [PyData.leavesShort]
    exact limL_short ds h
  | .tuple ds, h => by
    unfold lim at h
    simp only [PyData.leavesShort]
    exact limL_short ds h
  | .dict kvs, h => by
    unfold lim at h
    simp only [PyData.leavesShort]
    exact limK_short kvs h
theorem limL_short : ∀ ds : List PyData, limL ds → PyData.leavesShortAll 40 ds = true
  | [], _ => rfl
  | d :: r, h => by
    unfold limL at h
    simp only [PyData.leavesShortAll, lim_short d h.1, limL_short r h.2, Bool.and_self]
theorem limK_short : ∀ ds : List (PyData × PyData), limK ds → PyData.leavesShortKv 40 ds = true
  | [], _ => rfl
  | (k, d) :: r, h => by
    unfold limK at h
    simp only [PyData.leavesShortKv, lim_short k h.1, lim_short d h.2.1, limK_short r h.2.2, Bool.and_self]
end
mutual
theorem lim_show : ∀ d : PyData, lim d → d.showable = true
  | .none, _ => rfl
  | .bool _, _ => rfl
  | .int i, h => by
    unfold lim at h
    simp only [PyData.showable]
    refine decide_eq_true ?_
    have q := big_abs h
    by_cases h0 : i.natAbs = 0
    · rw [h0]
      decide
    · have q1 : i.natAbs.log2 < 104 := (Nat.log2_lt h0).mpr (Nat.lt_trans q (by decide))
      omega
  | .str x, h => rfl
  | .list ds, h => by
    unfold lim at h
    simp only [PyData.showable]
    exact limL_show ds h
  | .tuple ds, h => by
    unfold lim at h
    simp only [PyData.showable]
    exact limL_show ds h
  | .dict kvs, h => by
    unfold lim at h
    simp only [PyData.showable]
    exact limK_show kvs h
theorem limL_show : ∀ ds : List PyData, limL ds → PyData.showableAll ds = true
  | [], _ => rfl
  | d :: r, h => by
    unfold limL at h
    simp only [PyData.showableAll, lim_show d h.1, limL_show r h.2, Bool.and_self]
theorem limK_show : ∀ ds : List (PyData × PyData), limK ds → PyData.showableKv ds = true
  | [], _ => rfl
  | (k, d) :: r, h => by
    unfold limK at h
    simp only [PyData.showableKv, lim_show k h.1, lim_show d h.2.1, limK_show r h.2.2, Bool.and_self]
end
theorem nod_pos : ∀ d : PyData, 1 ≤ nod d
  | .none => by simp [nod]
  | .bool _ => by simp [nod]
  | .int i => by simp [nod]
  | .str x => by simp [nod]
  | .list ds => by simp only [nod]; omega
  | .tuple ds => by simp only [nod]; omega
  | .dict kvs => by simp only [nod]; omega
mutual
theorem bulk_le : ∀ d : PyData, lim d → d.bulk + 1 ≤ 24 * nod d
  | .none, _ => by simp [PyData.bulk, nod]
  | .bool _, _ => by simp [PyData.bulk, nod]
  | .int i, h => by simp [PyData.bulk, nod]
  | .str x, h => by
    unfold lim at h
    simp only [PyData.bulk, nod]
    have : x.cps.size ≤ 21 := h.1
    omega
  | .list ds, h => by
    unfold lim at h
    have := bulkL_le ds h
    simp only [PyData.bulk, nod]
    omega
  | .tuple ds, h => by
    unfold lim at h
    have := bulkL_le ds h
    simp only [PyData.bulk, nod]
    omega
  | .dict kvs, h => by
    unfold lim at h
    have := bulkK_le kvs h
    simp only [PyData.bulk, nod]
    omega
theorem bulkL_le : ∀ ds : List PyData, limL ds → PyData.bulkAll ds ≤ 24 * nodL ds
  | [], _ => by simp [PyData.bulkAll, nodL]
  | d :: r, h => by
    unfold limL at h
    have h1 := bulk_le d h.1
    have h2 := bulkL_le r h.2
    simp only [PyData.bulkAll, nodL]
    omega
theorem bulkK_le : ∀ ds : List (PyData × PyData), limK ds → PyData.bulkKv ds ≤ 24 * nodK ds
  | [], _ => by simp [PyData.bulkKv, nodK]
  | (k, d) :: r, h => by
    unfold limK at h
    have h1 := bulk_le k h.1
    have h2 := bulk_le d h.2.1
    have h3 := bulkK_le r h.2.2
    simp only [PyData.bulkKv, nodK]
    omega
end
mutual
theorem depth_le : ∀ d : PyData, d.depth ≤ nod d
  | .none => by simp [PyData.depth]
  | .bool _ => by simp [PyData.depth]
  | .int i => by simp [PyData.depth]
  | .str x => by simp [PyData.depth]
  | .list ds => by
    have := depthL_le ds
    simp only [PyData.depth, nod]
    omega
  | .tuple ds => by
    have := depthL_le ds
    simp only [PyData.depth, nod]
    omega
  | .dict kvs => by
    have := depthK_le kvs
    simp only [PyData.depth, nod]
    omega
theorem depthL_le : ∀ ds : List PyData, PyData.depthAll ds ≤ nodL ds
  | [] => by simp [PyData.depthAll]
  | d :: r => by
    have h1 := depth_le d
    have h2 := depthL_le r
    simp only [PyData.depthAll, nodL]
    omega
theorem depthK_le : ∀ ds : List (PyData × PyData), PyData.depthKv ds ≤ nodK ds
  | [] => by simp [PyData.depthKv]
  | (k, d) :: r => by
    have h1 := depth_le k
    have h2 := depth_le d
    have h3 := depthK_le r
    simp only [PyData.depthKv, nodK]
    omega
end
/-- data that repr shows -/
structure Sm (d : PyData) : Prop where
  l : lim d
  n : nod d ≤ 140
theorem Sm.show {d : PyData} (h : Sm d) : d.showable = true := lim_show d h.l
theorem Sm.depth {d : PyData} (h : Sm d) : d.depth ≤ 150 := Nat.le_trans (depth_le d) (Nat.le_trans h.n (by decide))
theorem Sm.size {d : PyData} (h : Sm d) : d.shown.length ≤ sizeLine := by
  have h1 := PyData.shown_le_bulk 40 (by decide) d (lim_short d h.l)
  have h2 := bulk_le d h.l
  have h3 := h.n
  refine Nat.le_trans (m := 200000) ?_ (by decide)
  have h4 : d.bulk ≤ 3360 := by omega
  have h5 : (40 + 2) * d.bulk ≤ (40 + 2) * 3360 := Nat.mul_le_mul_left _ h4
  omega
mutual
theorem lim_sz : ∀ d : PyData, lim d → szA d
  | .none, _ => by unfold szA; trivial
  | .bool _, _ => by unfold szA; trivial
  | .int i, h => by unfold szA; trivial
  | .tuple i, h => by unfold szA; trivial
  | .str x, h => by
    unfold lim at h
    unfold szA
    have := h.1
    omega
  | .list ds, h => by
    unfold lim at h
    unfold szA
    exact limL_sz ds h
  | .dict kvs, h => by
    unfold lim at h
    unfold szA
    exact limK_sz kvs h
theorem limL_sz : ∀ ds : List PyData, limL ds → szL ds
  | [], _ => by unfold szL; trivial
  | d :: r, h => by
    unfold limL at h
    unfold szL
    exact ⟨lim_sz d h.1, limL_sz r h.2⟩
theorem limK_sz : ∀ ds : List (PyData × PyData), limK ds → szK ds
  | [], _ => by unfold szK; trivial
  | (k, d) :: r, h => by
    unfold limK at h
    unfold szK
    exact ⟨lim_sz k h.1, lim_sz d h.2.1, limK_sz r h.2.2⟩
end
theorem low_lim {x : Str} {a b : Nat} (h : lets x a b = true) (hb : b ≤ 21) : lim (.str x) := by
  unfold lets at h
  rw [Bool.and_eq_true, Bool.and_eq_true] at h
  unfold lim
  refine ⟨Nat.le_trans (of_decide_eq_true h.1.2) hb, fun c hc => ?_⟩
  have q := List.all_eq_true.mp h.2 c hc
  rw [Bool.and_eq_true] at q
  have := of_decide_eq_true q.2
  omega
theorem fld_lim {k : PyData} (h : fld k = true) : lim k ∧ nod k = 1 := by
  cases k with
  | str x => exact ⟨low_lim h (by decide), rfl⟩
  | _ => cases h
mutual
/-- a value is small -/
theorem ok_lim : ∀ d : PyData, okA d = true → lim d ∧ nod d + 1 ≤ 2 * cnt d
  | .none, h => by cases h
  | .bool _, h => by cases h
  | .tuple _, h => by cases h
  | .int i, h => by
    have h' : (decide (-big < i) && decide (i < big)) = true := h
    rw [Bool.and_eq_true] at h'
    refine ⟨?_, by simp [nod, cnt]⟩
    unfold lim
    exact ⟨Int.le_of_lt (of_decide_eq_true h'.1), Int.le_of_lt (of_decide_eq_true h'.2)⟩
  | .str x, h => ⟨low_lim (a := 0) (b := 20) h (by decide), by simp [nod, cnt]⟩
  | .list ds, h => by
    unfold okA at h
    rw [Bool.and_eq_true] at h
    have q := okL_lim ds h.2
    unfold lim nod cnt
    exact ⟨q.1, by omega⟩
  | .dict kvs, h => by
    unfold okA at h
    rw [Bool.and_eq_true] at h
    have h1 : (decide (kvs.length ≤ 8) && kvs.all fun p => fld p.1) = true := h.1
    rw [Bool.and_eq_true] at h1
    have q := okK_lim kvs h.2 (fun p hp => List.all_eq_true.mp h1.2 p hp)
    unfold lim nod cnt
    exact ⟨q.1, by omega⟩
theorem okL_lim : ∀ ds : List PyData, okL ds = true → limL ds ∧ nodL ds ≤ 2 * cntL ds
  | [], _ => by unfold limL nodL cntL; exact ⟨trivial, by omega⟩
  | d :: r, h => by
    unfold okL at h
    rw [Bool.and_eq_true] at h
    have q1 := ok_lim d h.1
    have q2 := okL_lim r h.2
    unfold limL nodL cntL
    exact ⟨⟨q1.1, q2.1⟩, by omega⟩
theorem okK_lim : ∀ ds : List (PyData × PyData), okK ds = true → (∀ p ∈ ds, fld p.1 = true) → limK ds ∧ nodK ds ≤ 2 * cntK ds
  | [], _, _ => by unfold limK nodK cntK; exact ⟨trivial, by omega⟩
  | (k, d) :: r, h, hf => by
    unfold okK at h
    rw [Bool.and_eq_true] at h
    have q1 := ok_lim d h.1
    have q2 := okK_lim r h.2 (fun p hp => hf p (List.mem_cons_of_mem _ hp))
    have q3 : lim k ∧ nod k = 1 := fld_lim (hf (k, d) List.mem_cons_self)
    unfold limK nodK cntK
    exact ⟨⟨q3.1, q1.1, q2.1⟩, by have := q3.2; omega⟩
end
theorem ok_sm {d : PyData} (h : okA d = true) (hc : cnt d ≤ 60) : Sm d := ⟨(ok_lim d h).1, by have := (ok_lim d h).2; omega⟩
end VL

namespace VL
open PySem L2 LW
open Evl (Ex)
/-! ### trees: data no part of which lies twice -/
def Apart (A B : Hp) : Prop := ∀ b, A b = none ∨ B b = none
theorem Apart.sub {A A' B B' : Hp} (h : Apart A B) (e : Ex A' A) (g : Ex B' B) : Apart A' B' := fun b => by
  rcases h b with q | q
  · exact .inl (ex_free e q)
  · exact .inr (ex_free g q)
def un (A B : Hp) : Hp := fun b => match A b with
  | some o => some o
  | none => B b
theorem un_l {A B : Hp} : Ex A (un A B) := fun b o h => by
  unfold un
  rw [h]
theorem un_r {A B : Hp} (h : Apart A B) : Ex B (un A B) := fun b o q => by
  unfold un
  rcases h b with e | e
  · rw [e]
    exact q
  · rw [e] at q
    cases q
theorem un_le {A B H : Hp} (h : Ex A H) (g : Ex B H) : Ex (un A B) H := fun b o q => by
  unfold un at q
  cases e : A b with
  | none =>
    rw [e] at q
    exact g b o q
  | some u =>
    rw [e] at q
    cases q
    exact h b _ e
theorem un_apart {A B C : Hp} (h : Apart C A) (g : Apart C B) : Apart C (un A B) := fun b => by
  rcases h b with q | q
  · exact .inl q
  · rcases g b with q' | q'
    · exact .inl q'
    · right
      unfold un
      rw [q]
      exact q'
mutual
def Tr : PyData → Hp → V → Prop
  | .none, _, v => v = .non
  | .bool b, _, v => v = .bl b
  | .int i, _, v => v = .int i
  | .str x, _, v => v = .str x
  | .tuple _, _, _ => False
  | .list ds, H, v => ∃ a vs, v = .ref a ∧ H a = some (.lst vs) ∧ TrL ds (del H a) vs
  | .dict kvs, H, v => ∃ a es, v = .ref a ∧ H a = some (.dK es) ∧ (es.map (·.1)).Nodup ∧ TrK kvs (del H a) es
def TrL : List PyData → Hp → List V → Prop
  | [], _, vs => vs = []
  | d :: r, H, vs => ∃ v t A B, vs = v :: t ∧ Ex A H ∧ Ex B H ∧ Apart A B ∧ Tr d A v ∧ TrL r B t
def TrK : List (PyData × PyData) → Hp → List (Key × V) → Prop
  | [], _, es => es = []
  | (k, d) :: r, H, es => ∃ x v t A B, es = (x, v) :: t ∧ k = kD x ∧ Ex A H ∧ Ex B H ∧ Apart A B ∧ Tr d A v ∧ TrK r B t
end
mutual
theorem Tr.ex : ∀ {d : PyData} {H H' : Hp} {v : V}, Ex H H' → Tr d H v → Tr d H' v
  | .none, _, _, _, _, h => h
  | .bool _, _, _, _, _, h => h
  | .int _, _, _, _, _, h => h
  | .str _, _, _, _, _, h => h
  | .tuple _, _, _, _, _, h => h
  | .list ds, _, _, _, e, h => by
    unfold Tr at h ⊢
    obtain ⟨a, vs, rfl, ha, hl⟩ := h
    exact ⟨a, vs, rfl, e _ _ ha, TrL.ex (del_grow' e) hl⟩
  | .dict kvs, _, _, _, e, h => by
    unfold Tr at h ⊢
    obtain ⟨a, es, rfl, ha, nd, hl⟩ := h
    exact ⟨a, es, rfl, e _ _ ha, nd, TrK.ex (del_grow' e) hl⟩
theorem TrL.ex : ∀ {ds : List PyData} {H H' : Hp} {vs : List V}, Ex H H' → TrL ds H vs → TrL ds H' vs
  | [], _, _, _, _, h => h
  | d :: r, _, _, _, e, h => by
    unfold TrL at h ⊢
    obtain ⟨v, t, A, B, rfl, h1, h2, h3, h4, h5⟩ := h
    exact ⟨v, t, A, B, rfl, h1.trans e, h2.trans e, h3, h4, h5⟩
theorem TrK.ex : ∀ {ds : List (PyData × PyData)} {H H' : Hp} {vs : List (Key × V)}, Ex H H' → TrK ds H vs → TrK ds H' vs
  | [], _, _, _, _, h => h
  | (k, d) :: r, _, _, _, e, h => by
    unfold TrK at h ⊢
    obtain ⟨x, v, t, A, B, rfl, hk, h1, h2, h3, h4, h5⟩ := h
    exact ⟨x, v, t, A, B, rfl, hk, h1.trans e, h2.trans e, h3, h4, h5⟩
end
mutual
theorem Tr.dt : ∀ {d : PyData} {H : Hp} {v : V}, Tr d H v → Dt H d v
  | .none, _, _, h => h
  | .bool _, _, _, h => h
  | .int _, _, _, h => h
  | .str _, _, _, h => h
  | .tuple _, _, _, h => by unfold Tr at h; exact h.elim
  | .list ds, _, _, h => by
    unfold Tr at h
    unfold Dt
    obtain ⟨a, vs, rfl, ha, hl⟩ := h
    exact ⟨a, vs, rfl, .inl ha, (TrL.dt hl).ex ex_del⟩
  | .dict kvs, _, _, h => by
    unfold Tr at h
    unfold Dt
    obtain ⟨a, es, rfl, ha, nd, hl⟩ := h
    exact ⟨a, rfl, .inl ⟨es, .inl ha, nd, (TrK.dt hl).ex ex_del⟩⟩
theorem TrL.dt : ∀ {ds : List PyData} {H : Hp} {vs : List V}, TrL ds H vs → DtL H ds vs
  | [], _, _, h => by
    unfold TrL at h
    unfold DtL
    exact h
  | d :: r, _, _, h => by
    unfold TrL at h
    unfold DtL
    obtain ⟨v, t, A, B, rfl, h1, h2, h3, h4, h5⟩ := h
    exact ⟨v, t, rfl, (Tr.dt h4).ex h1, (TrL.dt h5).ex h2⟩
theorem TrK.dt : ∀ {ds : List (PyData × PyData)} {H : Hp} {vs : List (Key × V)}, TrK ds H vs → DtK H ds vs
  | [], _, _, h => by
    unfold TrK at h
    unfold DtK
    exact h
  | (k, d) :: r, _, _, h => by
    unfold TrK at h
    unfold DtK
    obtain ⟨x, v, t, A, B, rfl, hk, h1, h2, h3, h4, h5⟩ := h
    exact ⟨x, v, t, rfl, hk, (Tr.dt h4).ex h1, (TrK.dt h5).ex h2⟩
end
theorem TrL.snoc : ∀ {ds : List PyData} {d : PyData} {A B H : Hp} {vs : List V} {v : V}, TrL ds A vs → Tr d B v → Apart A B → Ex A H → Ex B H → TrL (ds ++ [d]) H (vs ++ [v])
  | [], d, A, B, H, _, v, h, q, ap, eA, eB => by
    unfold TrL at h
    subst h
    show TrL [d] H [v]
    unfold TrL
    exact ⟨v, [], B, fun _ => none, rfl, eB, fun _ _ z => (by cases z), fun _ => .inr rfl, q, by unfold TrL; rfl⟩
  | c :: r, d, A, B, H, _, v, h, q, ap, eA, eB => by
    unfold TrL at h
    obtain ⟨u, t, A0, B0, rfl, h1, h2, h3, h4, h5⟩ := h
    show TrL (c :: (r ++ [d])) H (u :: (t ++ [v]))
    unfold TrL
    have ab : Apart B0 B := ap.sub h2 (fun _ _ z => z)
    exact ⟨u, t ++ [v], A0, un B0 B, rfl, h1.trans eA, un_le (h2.trans eA) eB, un_apart h3 (ap.sub h1 (fun _ _ z => z)), h4, TrL.snoc h5 q ab un_l (un_r ab)⟩
theorem TrK.snoc : ∀ {ds : List (PyData × PyData)} {k d : PyData} {x : Key} {A B H : Hp} {vs : List (Key × V)} {v : V}, TrK ds A vs → Tr d B v → k = kD x → Apart A B → Ex A H → Ex B H → TrK (ds ++ [(k, d)]) H (vs ++ [(x, v)])
  | [], k, d, x, A, B, H, _, v, h, q, hk, ap, eA, eB => by
    unfold TrK at h
    subst h
    show TrK [(k, d)] H [(x, v)]
    unfold TrK
    exact ⟨x, v, [], B, fun _ => none, rfl, hk, eB, fun _ _ z => (by cases z), fun _ => .inr rfl, q, by unfold TrK; rfl⟩
  | (k0, c) :: r, k, d, x, A, B, H, _, v, h, q, hk, ap, eA, eB => by
    unfold TrK at h
    obtain ⟨x0, u, t, A0, B0, rfl, hk0, h1, h2, h3, h4, h5⟩ := h
    show TrK ((k0, c) :: (r ++ [(k, d)])) H ((x0, u) :: (t ++ [(x, v)]))
    unfold TrK
    have ab : Apart B0 B := ap.sub h2 (fun _ _ z => z)
    exact ⟨x0, u, t ++ [(x, v)], A0, un B0 B, rfl, hk0, h1.trans eA, un_le (h2.trans eA) eB, un_apart h3 (ap.sub h1 (fun _ _ z => z)), h4, TrK.snoc h5 q hk ab un_l (un_r ab)⟩
/-! ### parts by steps -/
def setM (kvs : List (PyData × PyData)) (y : Str) (x : PyData) : List (PyData × PyData) := kvs.map fun p => if nm p.1 = y then (p.1, x) else p
theorem setM_no : ∀ {kvs : List (PyData × PyData)} {y : Str} {x : PyData}, y ∉ names kvs → setM kvs y x = kvs
  | [], _, _, _ => rfl
  | (k, d) :: r, y, x, h => by
    have h' : y ∉ nm k :: names r := h
    rw [List.mem_cons, not_or] at h'
    show (if nm k = y then (k, x) else (k, d)) :: setM r y x = (k, d) :: r
    rw [if_neg (fun e => h'.1 e.symm), setM_no h'.2]
theorem setM_names (kvs : List (PyData × PyData)) (y : Str) (x : PyData) : names (setM kvs y x) = names kvs := by
  unfold names setM
  rw [List.map_map]
  apply List.map_congr_left
  intro p _
  show nm (if nm p.1 = y then (p.1, x) else p).1 = nm p.1
  split <;> rfl
def stepD : PyData → V → Option PyData
  | .list ds, .int i => if 0 ≤ i then ds[i.toNat]? else none
  | .dict kvs, .str y => if y ∈ names kvs then some (getN kvs y) else none
  | _, _ => none
def setD : PyData → V → PyData → PyData
  | .list ds, .int i, x => .list (ds.set i.toNat x)
  | .dict kvs, .str y, x => .dict (setM kvs y x)
  | d, _, _ => d
def At : PyData → List V → PyData → Prop
  | d, [], c => c = d
  | d, s :: p, c => ∃ e, stepD d s = some e ∧ At e p c
def putAt : PyData → List V → PyData → PyData
  | _, [], x => x
  | d, s :: p, x => match stepD d s with
    | some e => setD d s (putAt e p x)
    | none => d
theorem at_snoc : ∀ {p : List V} {d c : PyData} {s : V}, At d (p ++ [s]) c → ∃ e, At d p e ∧ stepD e s = some c
  | [], d, c, s, h => by
    obtain ⟨e, h1, h2⟩ := h
    have h2 : c = e := h2
    subst h2
    exact ⟨d, rfl, h1⟩
  | t :: p, d, c, s, h => by
    obtain ⟨e, h1, h2⟩ := h
    obtain ⟨g, h3, h4⟩ := at_snoc h2
    exact ⟨g, ⟨e, h1, h3⟩, h4⟩
theorem put_snoc : ∀ {p : List V} {d e c x : PyData} {s : V}, At d p e → stepD e s = some c → putAt d (p ++ [s]) x = putAt d p (setD e s x)
  | [], d, e, c, x, s, h, hs => by
    have h : e = d := h
    subst h
    show (match stepD e s with | some e' => setD e s (putAt e' [] x) | none => e) = setD e s x
    rw [hs]
    rfl
  | t :: p, d, e, c, x, s, h, hs => by
    obtain ⟨g, h1, h2⟩ := h
    show (match stepD d t with | some e' => setD d t (putAt e' (p ++ [s]) x) | none => d) = (match stepD d t with | some e' => setD d t (putAt e' p (setD e s x)) | none => d)
    rw [h1]
    show setD d t (putAt g (p ++ [s]) x) = setD d t (putAt g p (setD e s x))
    rw [put_snoc h2 hs]
/-- a step is into a list or a record -/
theorem step_cases {d c : PyData} {s : V} (h : stepD d s = some c) : (∃ ds i, d = .list ds ∧ s = .int i ∧ 0 ≤ i ∧ ds[i.toNat]? = some c) ∨ ∃ kvs y, d = .dict kvs ∧ s = .str y ∧ y ∈ names kvs ∧ getN kvs y = c := by
  cases d with
  | list ds =>
    cases s with
    | int i =>
      have h : (if 0 ≤ i then ds[i.toNat]? else none) = some c := h
      by_cases e : 0 ≤ i
      · rw [if_pos e] at h
        exact .inl ⟨ds, i, rfl, rfl, e, h⟩
      · rw [if_neg e] at h
        cases h
    | _ => cases h
  | dict kvs =>
    cases s with
    | str y =>
      have h : (if y ∈ names kvs then some (getN kvs y) else none) = some c := h
      by_cases e : y ∈ names kvs
      · rw [if_pos e] at h
        exact .inr ⟨kvs, y, rfl, rfl, e, Option.some.inj h⟩
      · rw [if_neg e] at h
        cases h
    | _ => cases h
  | _ => cases h
theorem getN_mem : ∀ {kvs : List (PyData × PyData)} {y : Str}, y ∈ names kvs → ∃ k, (k, getN kvs y) ∈ kvs ∧ nm k = y
  | (k, d) :: r, y, h => by
    have h' : y ∈ nm k :: names r := h
    by_cases e : nm k = y
    · refine ⟨k, ?_, e⟩
      unfold getN
      rw [if_pos e]
      exact List.mem_cons_self
    · rcases List.mem_cons.mp h' with q | q
      · exact (e q.symm).elim
      · obtain ⟨k', h1, h2⟩ := getN_mem q
        refine ⟨k', ?_, h2⟩
        unfold getN
        rw [if_neg e]
        exact List.mem_cons_of_mem _ h1
theorem step_kid {d c : PyData} {s : V} (h : stepD d s = some c) : c ∈ kids d := by
  rcases step_cases h with ⟨ds, i, rfl, rfl, h0, e⟩ | ⟨kvs, y, rfl, rfl, hy, rfl⟩
  · exact List.mem_of_getElem? e
  · obtain ⟨k, hk, _⟩ := getN_mem hy
    exact List.mem_map.mpr ⟨_, hk, rfl⟩
theorem okL_mem {ds : List PyData} (h : okL ds = true) {d : PyData} (m : d ∈ ds) : okA d = true := by
  rw [okL_all] at h
  exact List.all_eq_true.mp h d m
theorem okL_no {ds : List PyData} {d : PyData} (m : d ∈ ds) (h : okA d = false) : okL ds = false := by
  rw [okL_all]
  refine List.all_eq_false.mpr ⟨d, m, ?_⟩
  rw [h]
  exact Bool.false_ne_true
theorem step_ok {d c : PyData} {s : V} (h : stepD d s = some c) (o : okA d = true) : okA c = true := by
  rw [okA_kids, Bool.and_eq_true] at o
  exact okL_mem o.2 (step_kid h)
theorem at_ok : ∀ {p : List V} {d c : PyData}, At d p c → okA d = true → okA c = true
  | [], d, c, h, o => by
    have h : c = d := h
    rw [h]
    exact o
  | s :: p, d, c, h, o => by
    obtain ⟨e, h1, h2⟩ := h
    exact at_ok h2 (step_ok h1 o)
theorem setD_kid {d c x : PyData} {s : V} (h : stepD d s = some c) : x ∈ kids (setD d s x) := by
  rcases step_cases h with ⟨ds, i, rfl, rfl, h0, e⟩ | ⟨kvs, y, rfl, rfl, hy, rfl⟩
  · show x ∈ ds.set i.toNat x
    obtain ⟨hi, _⟩ := List.getElem?_eq_some_iff.mp e
    exact List.mem_of_getElem? (i := i.toNat) (by rw [List.getElem?_set_self hi])
  · obtain ⟨k, hk, he⟩ := getN_mem hy
    show x ∈ (setM kvs y x).map (·.2)
    refine List.mem_map.mpr ⟨(k, x), List.mem_map.mpr ⟨_, hk, ?_⟩, rfl⟩
    show (if nm k = y then (k, x) else _) = _
    rw [if_pos he]
theorem setD_bad {d c x : PyData} {s : V} (h : stepD d s = some c) (hx : okA x = false) : okA (setD d s x) = false := by
  rw [okA_kids, okL_no (setD_kid h) hx, Bool.and_false]
theorem putAt_bad : ∀ {p : List V} {d c x : PyData}, At d p c → okA x = false → okA (putAt d p x) = false
  | [], d, c, x, _, hx => hx
  | s :: p, d, c, x, h, hx => by
    obtain ⟨e, h1, h2⟩ := h
    show okA (match stepD d s with | some e => setD d s (putAt e p x) | none => d) = false
    rw [h1]
    exact setD_bad h1 (putAt_bad h2 hx)
/-! ### bounds of what is put -/
theorem nod_list (ds : List PyData) : nod (.list ds) = 1 + nodL ds := by rw [nod]
theorem nod_dict (ds : List (PyData × PyData)) : nod (.dict ds) = 1 + nodK ds := by rw [nod]
theorem limL_of : ∀ {ds : List PyData}, limL ds ↔ ∀ d ∈ ds, lim d
  | [] => ⟨fun _ d h => (by cases h), fun _ => by unfold limL; trivial⟩
  | c :: r => by
    unfold limL
    rw [limL_of (ds := r)]
    constructor
    · rintro ⟨h1, h2⟩ d hd
      rcases List.mem_cons.mp hd with rfl | hd
      · exact h1
      · exact h2 d hd
    · exact fun h => ⟨h c List.mem_cons_self, fun d hd => h d (List.mem_cons_of_mem _ hd)⟩
theorem limK_of : ∀ {ds : List (PyData × PyData)}, limK ds ↔ ∀ p ∈ ds, lim p.1 ∧ lim p.2
  | [] => ⟨fun _ d h => (by cases h), fun _ => by unfold limK; trivial⟩
  | (k, c) :: r => by
    unfold limK
    rw [limK_of (ds := r)]
    constructor
    · rintro ⟨h1, h2, h3⟩ d hd
      rcases List.mem_cons.mp hd with rfl | hd
      · exact ⟨h1, h2⟩
      · exact h3 d hd
    · exact fun h => ⟨(h (k, c) List.mem_cons_self).1, (h (k, c) List.mem_cons_self).2, fun d hd => h d (List.mem_cons_of_mem _ hd)⟩
theorem nodL_set : ∀ (ds : List PyData) (i : Nat) (x c : PyData), ds[i]? = some c → nodL (ds.set i x) + nod c = nodL ds + nod x
  | [], i, x, c, h => by simp at h
  | d :: r, 0, x, c, h => by
    simp only [List.getElem?_cons_zero, Option.some.injEq] at h
    subst h
    show nodL (x :: r) + _ = _
    unfold nodL
    omega
  | d :: r, i + 1, x, c, h => by
    rw [List.getElem?_cons_succ] at h
    have := nodL_set r i x c h
    show nodL (d :: r.set i x) + _ = _
    unfold nodL
    omega
theorem nodK_set : ∀ (kvs : List (PyData × PyData)) (y : Str) (x : PyData), (names kvs).Nodup → y ∈ names kvs → nodK (setM kvs y x) + nod (getN kvs y) = nodK kvs + nod x
  | [], y, x, _, h => by cases h
  | (k, d) :: r, y, x, nd, h => by
    have nd' : (nm k :: names r).Nodup := nd
    obtain ⟨n1, n2⟩ := List.nodup_cons.mp nd'
    have h' : y ∈ nm k :: names r := h
    show nodK ((if nm k = y then (k, x) else (k, d)) :: setM r y x) + nod (if nm k = y then d else getN r y) = _
    by_cases e : nm k = y
    · rw [if_pos e, if_pos e, setM_no (e ▸ n1)]
      unfold nodK
      omega
    · rw [if_neg e, if_neg e]
      have hy : y ∈ names r := by
        rcases List.mem_cons.mp h' with q | q
        · exact (e q.symm).elim
        · exact q
      have := nodK_set r y x n2 hy
      unfold nodK
      omega
/-! ### what a tree's part may be exchanged for -/
theorem DtL.set {H : Hp} : ∀ {ds : List PyData} {vs : List V} {i : Nat} {x : PyData} {u : V}, DtL H ds vs → Dt H x u → DtL H (ds.set i x) (vs.set i u)
  | [], _, i, x, u, h, q => by
    unfold DtL at h
    subst h
    exact DtL.nil
  | d :: r, _, 0, x, u, h, q => by
    unfold DtL at h
    obtain ⟨v, t, rfl, h1, h2⟩ := h
    exact DtL.cons q h2
  | d :: r, _, i + 1, x, u, h, q => by
    unfold DtL at h
    obtain ⟨v, t, rfl, h1, h2⟩ := h
    exact DtL.cons h1 (DtL.set h2 q)
theorem DtK.cons {H : Hp} {k d : PyData} {x : Key} {v : V} {r : List (PyData × PyData)} {t : List (Key × V)} (hk : k = kD x) (h : Dt H d v) (q : DtK H r t) : DtK H ((k, d) :: r) ((x, v) :: t) := by
  unfold DtK
  exact ⟨x, v, t, rfl, hk, h, q⟩
theorem key_nm {k : PyData} {x : Key} (hk : k = kD x) (h : k = .str (nm k)) : x = Sum.inr (nm k) := by
  cases x with
  | inl i =>
    rw [hk] at h
    cases h
  | inr z =>
    rw [hk]
    rfl
theorem DtK.setm {H : Hp} {y : Str} {x : PyData} {u : V} (q : Dt H x u) : ∀ {kvs : List (PyData × PyData)} {es : List (Key × V)}, DtK H kvs es → AllStr kvs → DtK H (setM kvs y x) (es.map fun kv => if kv.1 = (Sum.inr y : Key) then (kv.1, u) else kv)
  | [], _, h, _ => by
    unfold DtK at h
    subst h
    unfold setM DtK
    rfl
  | (k, d) :: r, _, h, ha => by
    unfold DtK at h
    obtain ⟨z, v, t, rfl, hk, h1, h2⟩ := h
    have hz := key_nm hk (ha (k, d) List.mem_cons_self)
    have ih := DtK.setm (y := y) q h2 (fun p hp => ha p (List.mem_cons_of_mem _ hp))
    show DtK H ((if nm k = y then (k, x) else (k, d)) :: setM r y x) ((if z = (Sum.inr y : Key) then (z, u) else (z, v)) :: _)
    by_cases e : nm k = y
    · rw [if_pos e, if_pos (by rw [hz, e])]
      exact DtK.cons hk q ih
    · rw [if_neg e, if_neg (by rw [hz]; exact fun w => e (Sum.inr.inj w))]
      exact DtK.cons hk h1 ih
theorem DtK.put {H : Hp} {y : Str} {x : PyData} {u : V} {kvs : List (PyData × PyData)} {es : List (Key × V)} (q : Dt H x u) (h : DtK H kvs es) (ha : AllStr kvs) (hy : y ∈ names kvs) : DtK H (setM kvs y x) (putK es (Sum.inr y) u) := by
  obtain ⟨v, hv, _⟩ := dtk_get h ha y hy
  unfold putK
  rw [valV_any, hv]
  exact DtK.setm q h ha
theorem putK_keys {es : List (Key × V)} {k : Key} {u : V} (h : (valV es k).isSome = true) : (putK es k u).map (·.1) = es.map (·.1) := by
  unfold putK
  rw [valV_any, h, if_pos rfl, List.map_map]
  apply List.map_congr_left
  intro p _
  show (if p.1 = k then (p.1, u) else p).1 = p.1
  split <;> rfl
theorem TrL.pick : ∀ {ds : List PyData} {H : Hp} {vs : List V} {i : Nat} {d : PyData}, TrL ds H vs → ds[i]? = some d → ∃ v A, vs[i]? = some v ∧ Ex A H ∧ Tr d A v ∧ ∀ H'' : Hp, (∀ b o, A b = none → H b = some o → H'' b = some o) → ∀ x, Dt H'' x v → DtL H'' (ds.set i x) vs
  | [], _, _, i, d, h, e => by simp at e
  | c :: r, H, _, 0, d, h, e => by
    unfold TrL at h
    obtain ⟨v, t, A, B, rfl, h1, h2, h3, h4, h5⟩ := h
    simp only [List.getElem?_cons_zero, Option.some.injEq] at e
    subst e
    refine ⟨v, A, rfl, h1, h4, fun H'' g x q => DtL.cons q ((TrL.dt h5).ex fun b o w => g b o ?_ (h2 b o w))⟩
    rcases h3 b with z | z
    · exact z
    · rw [z] at w
      cases w
  | c :: r, H, _, i + 1, d, h, e => by
    unfold TrL at h
    obtain ⟨v, t, A, B, rfl, h1, h2, h3, h4, h5⟩ := h
    rw [List.getElem?_cons_succ] at e
    obtain ⟨u, A', g1, g2, g3, g4⟩ := TrL.pick h5 e
    refine ⟨u, A', by rw [List.getElem?_cons_succ]; exact g1, g2.trans h2, g3, fun H'' g x q => DtL.cons ((Tr.dt h4).ex fun b o w => g b o ?_ (h1 b o w)) (g4 H'' (fun b o w w' => g b o w (h2 b o w')) x q)⟩
    rcases h3 b with z | z
    · rw [z] at w
      cases w
    · exact ex_free g2 z
theorem TrK.pick : ∀ {ds : List (PyData × PyData)} {H : Hp} {vs : List (Key × V)} {y : Str}, TrK ds H vs → AllStr ds → (names ds).Nodup → y ∈ names ds → ∃ v A, valV vs (Sum.inr y : Key) = some v ∧ Ex A H ∧ Tr (getN ds y) A v ∧
    ∀ H'' : Hp, (∀ b o, A b = none → H b = some o → H'' b = some o) → ∀ x, Dt H'' x v → DtK H'' (setM ds y x) vs
  | [], _, _, y, h, _, _, e => by cases e
  | (k, c) :: r, H, _, y, h, ha, nd, e => by
    unfold TrK at h
    obtain ⟨z, v, t, A, B, rfl, hk, h1, h2, h3, h4, h5⟩ := h
    have hz := key_nm hk (ha (k, c) List.mem_cons_self)
    have nd' : (nm k :: names r).Nodup := nd
    obtain ⟨n1, n2⟩ := List.nodup_cons.mp nd'
    have e' : y ∈ nm k :: names r := e
    by_cases ek : nm k = y
    · refine ⟨v, A, valV_pos (p := (z, v)) (by rw [← ek]; exact hz), h1, ?_, fun H'' g x q => ?_⟩
      · unfold getN
        rw [if_pos ek]
        exact h4
      · show DtK H'' ((if nm k = y then (k, x) else (k, c)) :: setM r y x) _
        rw [if_pos ek, setM_no (ek ▸ n1)]
        refine DtK.cons hk q ((TrK.dt h5).ex fun b o w => g b o ?_ (h2 b o w))
        rcases h3 b with z | z
        · exact z
        · rw [z] at w
          cases w
    · have hy : y ∈ names r := by
        rcases List.mem_cons.mp e' with q | q
        · exact (ek q.symm).elim
        · exact q
      obtain ⟨u, A', g1, g2, g3, g4⟩ := TrK.pick h5 (fun p hp => ha p (List.mem_cons_of_mem _ hp)) n2 hy
      refine ⟨u, A', ?_, g2.trans h2, ?_, fun H'' g x q => ?_⟩
      · rw [valV_neg (p := (z, v)) (by rw [hz]; exact fun w => ek (Sum.inr.inj w))]
        exact g1
      · unfold getN
        rw [if_neg ek]
        exact g3
      · show DtK H'' ((if nm k = y then (k, x) else (k, c)) :: setM r y x) _
        rw [if_neg ek]
        refine DtK.cons hk ((Tr.dt h4).ex fun b o w => g b o ?_ (h1 b o w)) (g4 H'' (fun b o w w' => g b o w (h2 b o w')) x q)
        rcases h3 b with z | z
        · rw [z] at w
          cases w
        · exact ex_free g2 z
/-- steps in the heap -/
def StepV (H : Hp) (v s u : V) : Prop := ∃ a, v = .ref a ∧ ((∃ vs i, L2.Rd H a (.lst vs) ∧ s = .int i ∧ atI vs i = some u) ∨ ∃ es k, L2.Rd H a (.dK es) ∧ s = kV k ∧ valV es k = some u)
def Wk (H : Hp) : V → List V → V → Prop
  | v, [], w => w = v
  | v, s :: p, w => ∃ u, StepV H v s u ∧ Wk H u p w
theorem StepV.ex {H H' : Hp} (e : Ex H H') {v s u : V} (h : StepV H v s u) : StepV H' v s u := by
  obtain ⟨a, rfl, ⟨vs, i, h1, h2, h3⟩ | ⟨es, k, h1, h2, h3⟩⟩ := h
  · exact ⟨a, rfl, .inl ⟨vs, i, rd_ex e h1, h2, h3⟩⟩
  · exact ⟨a, rfl, .inr ⟨es, k, rd_ex e h1, h2, h3⟩⟩
theorem Wk.ex {H H' : Hp} (e : Ex H H') : ∀ {p : List V} {v w : V}, Wk H v p w → Wk H' v p w
  | [], _, _, h => h
  | s :: p, _, _, ⟨u, h1, h2⟩ => ⟨u, h1.ex e, Wk.ex e h2⟩
theorem atI_of {xs : List V} {i : Int} {v : V} (h0 : 0 ≤ i) (h : xs[i.toNat]? = some v) : atI xs i = some v := by
  have e : ((i.toNat : Nat) : Int) = i := by omega
  have q : atI xs ((i.toNat : Nat) : Int) = some v := atI_nat h
  rw [e] at q
  exact q
theorem tr_ns {H : Hp} {kvs : List (PyData × PyData)} {es : List (Key × V)} (h : TrK kvs H es) (ho : okA (.dict kvs) = true) (nd : (es.map (·.1)).Nodup) : AllStr kvs ∧ (names kvs).Nodup := by
  rw [okA_kids, Bool.and_eq_true] at ho
  obtain ⟨ha, _⟩ := allStr_of ho.1
  exact ⟨ha, nodup_names (TrK.dt h) ha nd⟩
/-- exchanging one part of a tree -/
theorem hole : ∀ {p : List V} {d c : PyData} {H : Hp} {v : V}, Tr d H v → okA d = true → At d p c → ∃ w A, Wk H v p w ∧ Ex A H ∧ Tr c A w ∧
    (∀ a, w = .ref a → (∃ o, A a = some o) → ∀ H'' : Hp, (∀ b o, b ≠ a → H b = some o → H'' b = some o) → ∀ x, Dt H'' x w → Dt H'' (putAt d p x) v) ∧
    ∀ x, lim x → lim (putAt d p x) ∧ nod (putAt d p x) + nod c = nod d + nod x
  | [], d, c, H, v, h, ho, e => by
    have e : c = d := e
    subst e
    exact ⟨v, H, rfl, fun _ _ z => z, h, fun a _ _ H'' _ x q => q, fun x hx => ⟨hx, by show nod x + _ = _; omega⟩⟩
  | s :: p, d, c, H, v, h, ho, e => by
    obtain ⟨g, hs, he⟩ := e
    have hpa : ∀ x, putAt d (s :: p) x = setD d s (putAt g p x) := fun x => by
      show (match stepD d s with | some e' => setD d s (putAt e' p x) | none => d) = _
      rw [hs]
    have hlim := (ok_lim d ho).1
    have hog := step_ok hs ho
    rcases step_cases hs with ⟨ds, i, rfl, rfl, h0, hi⟩ | ⟨kvs, y, rfl, rfl, hy, rfl⟩
    · unfold Tr at h
      obtain ⟨b, vs, rfl, hb, hl⟩ := h
      obtain ⟨u, A, k1, k2, k3, k4⟩ := TrL.pick hl hi
      obtain ⟨w, A', m1, m2, m3, m4, m5⟩ := hole k3 hog he
      refine ⟨w, A', ⟨u, ⟨b, rfl, .inl ⟨vs, i, .inl hb, rfl, atI_of h0 k1⟩⟩, m1.ex (k2.trans ex_del)⟩, m2.trans (k2.trans ex_del), m3, ?_, ?_⟩
      · rintro a ea ⟨o, hao⟩ H'' hH x hx
        rw [hpa]
        have haA := m2 _ _ hao
        have hab : a ≠ b := fun z => by
          have := k2 _ _ haA
          rw [z, del_same] at this
          cases this
        have q := m4 a ea ⟨o, hao⟩ H'' (fun b' o' n w' => hH b' o' n (ex_del _ _ (k2 _ _ w'))) x hx
        show Dt H'' (.list (ds.set i.toNat (putAt g p x))) (.ref b)
        unfold Dt
        refine ⟨b, vs, rfl, .inl (hH b _ (fun z => hab z.symm) hb), k4 H'' (fun b' o' n w' => hH b' o' (fun z => ?_) (ex_del _ _ w')) _ q⟩
        rw [z, haA] at n
        cases n
      · intro x hx
        rw [hpa]
        obtain ⟨q1, q2⟩ := m5 x hx
        show lim (.list (ds.set i.toNat (putAt g p x))) ∧ nod (.list (ds.set i.toNat (putAt g p x))) + _ = _
        have q3 := nodL_set ds i.toNat (putAt g p x) g hi
        rw [nod_list, nod_list]
        unfold lim
        unfold lim at hlim
        refine ⟨limL_of.mpr fun z hz => ?_, by omega⟩
        rcases List.mem_or_eq_of_mem_set hz with hz | rfl
        · exact limL_of.mp hlim z hz
        · exact q1
    · unfold Tr at h
      obtain ⟨b, es, rfl, hb, nd, hl⟩ := h
      obtain ⟨ha, nds⟩ := tr_ns hl ho nd
      obtain ⟨u, A, k1, k2, k3, k4⟩ := TrK.pick hl ha nds hy
      obtain ⟨w, A', m1, m2, m3, m4, m5⟩ := hole k3 hog he
      refine ⟨w, A', ⟨u, ⟨b, rfl, .inr ⟨es, Sum.inr y, .inl hb, rfl, k1⟩⟩, m1.ex (k2.trans ex_del)⟩, m2.trans (k2.trans ex_del), m3, ?_, ?_⟩
      · rintro a ea ⟨o, hao⟩ H'' hH x hx
        rw [hpa]
        have haA := m2 _ _ hao
        have hab : a ≠ b := fun z => by
          have := k2 _ _ haA
          rw [z, del_same] at this
          cases this
        have q := m4 a ea ⟨o, hao⟩ H'' (fun b' o' n w' => hH b' o' n (ex_del _ _ (k2 _ _ w'))) x hx
        show Dt H'' (.dict (setM kvs y (putAt (getN kvs y) p x))) (.ref b)
        unfold Dt
        refine ⟨b, rfl, .inl ⟨es, .inl (hH b _ (fun z => hab z.symm) hb), nd, k4 H'' (fun b' o' n w' => hH b' o' (fun z => ?_) (ex_del _ _ w')) _ q⟩⟩
        rw [z, haA] at n
        cases n
      · intro x hx
        rw [hpa]
        obtain ⟨q1, q2⟩ := m5 x hx
        show lim (.dict (setM kvs y (putAt (getN kvs y) p x))) ∧ nod (.dict (setM kvs y (putAt (getN kvs y) p x))) + _ = _
        have q3 := nodK_set kvs y (putAt (getN kvs y) p x) nds hy
        rw [nod_dict, nod_dict]
        unfold lim
        unfold lim at hlim
        refine ⟨limK_of.mpr fun z hz => ?_, by omega⟩
        obtain ⟨z0, hz0, rfl⟩ := List.mem_map.mp hz
        have hz1 := limK_of.mp hlim z0 hz0
        by_cases ez : nm z0.1 = y
        · rw [if_pos ez]
          exact ⟨hz1.1, q1⟩
        · rw [if_neg ez]
          exact hz1
end VL

namespace VL
open PySem L2 LW PyProof.Rows
/-! ### names in their order -/
def leS (a b : Str) : Prop := a.cps.toList ≤ b.cps.toList
theorem leS_anti {a b : Str} (h : leS a b) (g : leS b a) : a = b := Str.ext' (Array.toList_inj.mp (List.le_antisymm h g))
theorem rising_pw : ∀ (l : List Str) (p : Str), risingS p l = true → (p :: l).Pairwise leS
  | [], p, _ => List.pairwise_singleton _ _
  | x :: r, p, h => by
    have h' : (!Spec.ltCps x.cps.toList p.cps.toList && risingS x r) = true := h
    rw [Bool.and_eq_true, ltCps_eq] at h'
    have ih := rising_pw r x h'.2
    have h1 : leS p x := by
      have : ¬ x.cps.toList < p.cps.toList := by simpa using h'.1
      exact List.not_lt.mp this
    refine List.Pairwise.cons (fun y hy => ?_) ih
    rcases List.mem_cons.mp hy with rfl | hy
    · exact h1
    · exact List.le_trans h1 ((List.pairwise_cons.mp ih).1 y hy)
theorem sorted_pw {l : List Str} (h : sortedS l = true) : l.Pairwise leS := by
  cases l with
  | nil => exact List.Pairwise.nil
  | cons x r => exact rising_pw r x h
theorem sorted_uniq {xs ys : List Str} (p : xs.Perm ys) (sx : sortedS xs = true) (sy : sortedS ys = true) : xs = ys :=
  p.eq_of_pairwise (fun _ _ _ _ h g => leS_anti h g) (sorted_pw sx) (sorted_pw sy)
noncomputable def srt (l : List Str) : List Str := open Classical in if h : ∃ ys : List Str, ys.Perm l ∧ sortedS ys = true then Classical.choose h else []
theorem srt_of {l ys : List Str} (p : ys.Perm l) (s : sortedS ys = true) : ys = srt l := by
  have h : ∃ ys : List Str, ys.Perm l ∧ sortedS ys = true := ⟨ys, p, s⟩
  unfold srt
  rw [dif_pos h]
  have q := Classical.choose_spec h
  exact sorted_uniq (p.trans q.1.symm) s q.2
/-- children, step by step, in their order -/
noncomputable def kidsOf : PyData → List (V × PyData)
  | .list ds => (List.range ds.length).zipWith (fun (i : Nat) c => (V.int i, c)) ds
  | .dict kvs => (srt (names kvs)).map fun y => (V.str y, getN kvs y)
  | _ => []
theorem kids_eq {d : PyData} {cs : List (V × PyData)} (h : KidsAre d cs) : cs = kidsOf d := by
  cases d with
  | list ds => exact h
  | dict kvs =>
    obtain ⟨ys, p, s, rfl⟩ := h
    show _ = (srt (names kvs)).map fun y => (V.str y, getN kvs y)
    rw [← srt_of p s]
  | _ => exact h
/-! ### all places, in their order -/
noncomputable def pathsN : Nat → PyData → List (List V)
  | 0, _ => []
  | n + 1, d => [] :: (kidsOf d).flatMap fun c => (pathsN n c.2).map (c.1 :: ·)
/-- kids that can be reached -/
def KOk (d : PyData) : Prop := ∀ c ∈ kidsOf d, stepD d c.1 = some c.2
theorem pathsN_eq : ∀ (n m : Nat) (d : PyData), (∀ c ∈ kidsOf d, cnt c.2 < cnt d) → cnt d ≤ n → cnt d ≤ m → (∀ k e, cnt e ≤ k → (∀ c ∈ kidsOf e, cnt c.2 < cnt e)) → pathsN n d = pathsN m d
  | 0, _, d, _, h, _, _ => by have := cnt_pos d; omega
  | _ + 1, 0, d, _, _, h, _ => by have := cnt_pos d; omega
  | n + 1, m + 1, d, hk, h1, h2, ha => by
    show [] :: (kidsOf d).flatMap (fun c => (pathsN n c.2).map (c.1 :: ·)) = [] :: (kidsOf d).flatMap (fun c => (pathsN m c.2).map (c.1 :: ·))
    congr 1
    rw [List.flatMap_def, List.flatMap_def]
    congr 1
    apply List.map_congr_left
    intro c hc
    have := hk c hc
    rw [pathsN_eq n m c.2 (ha (cnt c.2) c.2 (Nat.le_refl _)) (by omega) (by omega) ha]
theorem srt_mem {l : List Str} {y : Str} (h : y ∈ srt l) : y ∈ l := by
  unfold srt at h
  split at h
  · rename_i g
    exact (Classical.choose_spec g).1.mem_iff.mp h
  · cases h
theorem kidsOf_step {d : PyData} {c : V × PyData} (h : c ∈ kidsOf d) : stepD d c.1 = some c.2 := by
  cases d with
  | list ds =>
    obtain ⟨i, hi⟩ := List.mem_iff_getElem?.mp (show c ∈ (List.range ds.length).zipWith (fun (i : Nat) c => (V.int i, c)) ds from h)
    rw [List.getElem?_zipWith] at hi
    by_cases hl : i < ds.length
    · rw [List.getElem?_range hl, List.getElem?_eq_getElem hl] at hi
      have hi : (V.int i, ds[i]) = c := Option.some.inj hi
      rw [← hi]
      show (if (0 : Int) ≤ (i : Int) then ds[(i : Int).toNat]? else none) = some ds[i]
      rw [if_pos (by omega), Int.toNat_natCast, List.getElem?_eq_getElem hl]
    · rw [List.getElem?_eq_none (l := ds) (by omega)] at hi
      cases e : (List.range ds.length)[i]? <;> rw [e] at hi <;> cases hi
  | dict kvs =>
    obtain ⟨y, hy, rfl⟩ := List.mem_map.mp (show c ∈ (srt (names kvs)).map fun y => (V.str y, getN kvs y) from h)
    show (if y ∈ names kvs then some (getN kvs y) else none) = some (getN kvs y)
    rw [if_pos (srt_mem hy)]
  | _ => cases h
theorem kidsOf_cnt {d : PyData} {c : V × PyData} (h : c ∈ kidsOf d) : cnt c.2 < cnt d := cnt_kid (step_kid (kidsOf_step h))
noncomputable def paths (d : PyData) : List (List V) := pathsN (cnt d) d
noncomputable def pathsC (c : V × PyData) : List (List V) := (paths c.2).map (c.1 :: ·)
theorem paths_eq (d : PyData) : paths d = [] :: (kidsOf d).flatMap pathsC := by
  unfold paths
  have e : cnt d = (cnt d - 1) + 1 := by
    have := cnt_pos d
    omega
  rw [e]
  show [] :: (kidsOf d).flatMap (fun c => (pathsN (cnt d - 1) c.2).map (c.1 :: ·)) = _
  congr 1
  rw [List.flatMap_def, List.flatMap_def]
  congr 1
  apply List.map_congr_left
  intro c hc
  have h1 := kidsOf_cnt hc
  show _ = (pathsN (cnt c.2) c.2).map (c.1 :: ·)
  rw [pathsN_eq (cnt d - 1) (cnt c.2) c.2 (fun _ h => kidsOf_cnt h) (by omega) (Nat.le_refl _) (fun _ _ _ _ h => kidsOf_cnt h)]
theorem paths_at : ∀ (n : Nat) (d : PyData), cnt d ≤ n → ∀ p ∈ paths d, ∃ c, At d p c
  | 0, d, h, _, _ => by have := cnt_pos d; omega
  | n + 1, d, h, p, hp => by
    rw [paths_eq] at hp
    rcases List.mem_cons.mp hp with rfl | hp
    · exact ⟨d, rfl⟩
    · obtain ⟨c, hc, hp⟩ := List.mem_flatMap.mp hp
      obtain ⟨q, hq, rfl⟩ := List.mem_map.mp hp
      have h1 := kidsOf_cnt hc
      obtain ⟨e, he⟩ := paths_at n c.2 (by omega) q hq
      exact ⟨e, c.2, kidsOf_step hc, he⟩
/-- every child that a step leads to is among them, if the order is told -/
theorem kidsOf_all {d c : PyData} {s : V} (h : stepD d s = some c) (hs : ∀ kvs, d = .dict kvs → ∃ ys : List Str, ys.Perm (names kvs) ∧ sortedS ys = true) : (s, c) ∈ kidsOf d := by
  rcases step_cases h with ⟨ds, i, rfl, rfl, h0, e⟩ | ⟨kvs, y, rfl, rfl, hy, rfl⟩
  · show (V.int i, c) ∈ (List.range ds.length).zipWith (fun (i : Nat) c => (V.int i, c)) ds
    obtain ⟨hl, _⟩ := List.getElem?_eq_some_iff.mp e
    refine List.mem_of_getElem? (i := i.toNat) ?_
    rw [List.getElem?_zipWith, List.getElem?_range hl, e]
    show some (V.int ((i.toNat : Nat) : Int), c) = _
    rw [show ((i.toNat : Nat) : Int) = i by omega]
  · obtain ⟨ys, p, s⟩ := hs kvs rfl
    show _ ∈ (srt (names kvs)).map fun y => (V.str y, getN kvs y)
    rw [← srt_of p s]
    exact List.mem_map.mpr ⟨y, p.mem_iff.mpr hy, rfl⟩
/-- the head of a value -/
noncomputable def headD : PyData → PyData
  | .dict kvs => .tuple [.str "record", .tuple ((srt (names kvs)).map PyData.str)]
  | .list ds => .tuple [.str "list", .int ds.length]
  | .str x => .tuple [.str "text", .str x]
  | d => .tuple [.str "number", d]
end VL

namespace LW
open PySem PySem.Spec L2
section
variable {X : Cx} {k j : Nat} {x : Str} {sp : Sp} {p pos : Pos} {e : Expr} {es : List Expr} {t : TA} {E : XK}
theorem pe_kP (c : Cal X.prog X.w X.K X.mg X.base (L2.CX X.prog X.w) k x sp) (hr : Room j X.A) (hk : k ≤ j) (hx : Passes (L2.CX X.prog X.w) X E) (hg : Gl X x) (ha : PA X (e :: es) t)
    (hdb : (x == ("__debug__" : Str)) = false := by decide) (he : starEach (e :: es) X.env = (false, eval e X.env) :: starEach es X.env := by rfl) (hpl : (backTo pos (starEach es X.env)).any (·.1) = false := by rfl) :
    PE X (.Call (.Name x p) (e :: es) [] pos) (tCall sp [] E t) := by
  obtain ⟨f, fd, ps, F, hm, kp, b⟩ := c.ex
  exact pe_call F (hr.mono hk) hg hm kp b .nil hx ha hdb he hpl
theorem smK {X : Cx} (K : PySem.W.Frag) (hc : X.calm = true) (h : X.K = K := by rfl) : CallR X (.builtin "sum") (rSum K) := by
  subst h
  exact cr_sum hc
end
/-- a def of which nothing is asked -/
theorem cal_no {P : Program} {w : World} {K : PySem.W.Frag} {mg : Str → Option Value} {base : Heap} {x : Str} {st : Stmt} {N ps : List Str} {k : Nat} {sp : Sp} (F : Df K mg x st) (S : FnScope N ps (defScope st)) (hb : BindsEq x st ps) (no : ∀ vs H Q E, sp vs H Q E → False) : Cal P w K mg base CX0 (k + 1) x sp :=
  cal0 F S hb (fun vs H Q E h => (no vs H Q E h).elim) (fun f cdv A outer s H vs Q E hr h => (no vs H Q E h).elim)
end LW
namespace VL
open PySem PySem.Spec L2 LW
open Evl (Ex)
section
variable {P : Program} {w : World} {K : PySem.W.Frag} {mg : Str → Option Value} {base : Heap} {CI : Addr}
/-! ### InvalidValue -/
theorem sc_InvalidValue___init__ : FnScope ["self", "value"] ["self", "value"] (defScope s_InvalidValue___init__) := ⟨rfl, rfl, rfl, by decide +kernel, rfl, by decide +kernel, by decide +kernel⟩
theorem bi_InvalidValue___init__ : BindsM "__init__" "InvalidValue.__init__" s_InvalidValue___init__ ["self", "value"] := fun _ _ _ _ _ _ us hl => match us, hl with | [_, _], _ => rfl
theorem ok_iinit {f0 : Addr} {fd0 : FuncData} (F : FunD K "__init__" "InvalidValue.__init__" (defArgs s_InvalidValue___init__) (defBody s_InvalidValue___init__) (defScope s_InvalidValue___init__) [] [] f0 fd0) (ox : OexC K CI) (no : PySem.W.findIn K (.ref CI) "value" = some none) :
    FnOk P w K mg base CX0 1 f0 fd0 ["self", "value"] (spXI K CI "value") := by
  refine F.ok sc_InvalidValue___init__ (fun vs H Q E h => ?_) (fun cdv A outer s H vs Q E hr h => ?_)
  · obtain ⟨a, v, rfl, _⟩ := h
    rfl
  · obtain ⟨a, v, rfl, ha, k⟩ := h
    refine ⟨_, PSs.nox (pss_one (ps_ost (pv 0) (pv 1))), ?_⟩
    exact ⟨_, rfl, _, rfl, a, CI, rfl, ox, no, .inl ⟨ha, fun dx h1 h2 => k dx h1 h2⟩⟩
/-! ### check_value -/
def spCheckV (CI : Addr) : Sp := fun vs H Q E => ∃ (v : V) (d : PyData), vs = [v] ∧ Dt H d v ∧ szA d ∧ (isV d = true → ∀ H', Ex H H' → Q .non H') ∧
  (isV d = false → ∀ dd H', Ex H H' → H' dd = some (.xd [("value", v)]) → E (.ref CI) (some dd) H')
theorem sc_check_value : FnScope ["thing"] ["thing"] (defScope s_check_value) := ⟨rfl, rfl, rfl, by decide +kernel, rfl, by decide +kernel, by decide +kernel⟩
theorem bi_check_value : BindsEq "check_value" s_check_value ["thing"] := fun _ _ _ _ _ _ us hl => match us, hl with | [_], _ => rfl
theorem ok_checkv (F : Df K mg "check_value" s_check_value) (T : Txt K mg) (C_is_value : Cal P w K mg base CX0 4 "is_value" spIsVal) (X_InvalidValue : XMk P w K mg base 1 "InvalidValue" CI "value") : Cal P w K mg base (L2.CX P w) 5 "check_value" (spCheckV CI) := by
  refine calX F sc_check_value bi_check_value (fun vs H Q E h => ?_) (fun f cdv A outer s H vs Q E hr h => ?_)
  · obtain ⟨v, d, rfl, _⟩ := h
    rfl
  · obtain ⟨v, d, rfl, hd, hz, k1, k2⟩ := h
    refine ⟨_, (pss_one (ps_if (pt_not (pt_val (pe_k C_is_value hr (by decide) rfl (pa_cons (pv 0) pa_nil)))) (pss_one (ps_raise rfl (takes_of rfl rfl rfl rfl) (pmk_x X_InvalidValue hr (by decide) rfl (pa_cons (pv 0) pa_nil)))) pss_nil)), ?_⟩
    refine ⟨_, rfl, v, d, rfl, hd, hz, fun H1 e1 => ⟨_, rfl, if_b (fun h => ?_) (fun h => ?_)⟩⟩
    · exact ⟨_, rfl, xmk_go fun dd H2 _ e2 hdd => k2 (by simpa using h) dd H2 (e1.trans e2) hdd⟩
    · exact k1 (by simpa using h) H1 e1
end
end VL

namespace VL
open PySem PySem.Spec L2 LW
open Evl (Ex)
/-! ### words -/
def low1 (c : Nat) : Prop := 97 ≤ c ∧ c ≤ 122
theorem join_low : ∀ cs : List Nat, (Str.join "" (cs.map fun c => (⟨#[c]⟩ : Str))).cps.toList = cs
  | [] => rfl
  | [c] => rfl
  | c :: d :: r => by
    have ih := join_low (d :: r)
    show ((⟨#[c]⟩ : Str) ++ "" ++ Str.join "" ((d :: r).map fun c => (⟨#[c]⟩ : Str))).cps.toList = _
    rw [Str.cps_append, Array.toList_append, ih]
    rfl
theorem lets_of {x : Str} {a b : Nat} (h1 : a ≤ x.cps.toList.length) (h2 : x.cps.toList.length ≤ b) (h : ∀ c ∈ x.cps.toList, low1 c) : lets x a b = true := by
  rw [Array.length_toList] at h1 h2
  have e1 : a ≤ x.length := h1
  have e2 : x.length ≤ b := h2
  unfold lets low
  rw [decide_eq_true e1, decide_eq_true e2]
  show (true && _) = true
  rw [Bool.true_and]
  refine List.all_eq_true.mpr fun c hc => ?_
  rw [decide_eq_true (h c hc).1, decide_eq_true (h c hc).2]
  rfl
theorem sum_ones (cs : List Nat) : ((cs.map fun c => (⟨#[c]⟩ : Str)).map (·.length)).sum = cs.length := by
  induction cs with
  | nil => rfl
  | cons c r ih =>
    rw [List.map_cons, List.map_cons, List.sum_cons, ih, List.length_cons]
    show 1 + _ = _
    omega
section
variable {P : Program} {w : World} {K : PySem.W.Frag} {mg : Str → Option Value} {base : Heap}
def spWord : Sp := fun vs H Q _ => ∃ (p : Addr) (n : Nat), vs = [.ref p, .int n] ∧ Pool H p ∧ n ≤ 100 ∧ ∀ x H', Ex H H' → lets x n n = true → Q (.str x) H'
theorem sc__law_word : FnScope ["_law_pool", "_law_longest", "_law_letters", "_law_k"] ["_law_pool", "_law_longest"] (defScope s__law_word) := ⟨rfl, rfl, rfl, by decide +kernel, rfl, by decide +kernel, by decide +kernel⟩
theorem bi__law_word : BindsEq "_law_word" s__law_word ["_law_pool", "_law_longest"] := fun _ _ _ _ _ _ us hl => match us, hl with | [_, _], _ => rfl
theorem ok_word (F : Df K mg "_law_word" s__law_word) (T : Txt K mg) (C__law_draw : Cal P w K mg base CX0 1 "_law_draw" spDraw) : Cal P w K mg base CX0 2 "_law_word" spWord := by
  refine cal0 F sc__law_word bi__law_word (fun vs H Q E h => ?_) (fun f cdv A outer s H vs Q E hr h => ?_)
  · obtain ⟨p, n, rfl, _⟩ := h
    rfl
  · obtain ⟨p, n, rfl, hp, hn, k⟩ := h
    refine ⟨_, (pss_cons (ps_set (i := 2) sc__law_word.nd rfl (Or.inr rfl) pe_str)
 (pss_one (ps_ret (pe_join pe_str (pe_lc (own := [("_law_k", 3)]) (by rfl) sc__law_word.nd (pi_range1 rfl T.b_range (pa_cons (pv 1) pa_nil)) (blkOk_by (own := [("_law_k", 3)]) (N := ["_law_pool", "_law_longest", "_law_letters", "_law_k"]) (sc := defScope s__law_word) (by decide +kernel)) (fun _ _ _ _ _ => (pg_name (i := 3) sc__law_word.nd rfl (Or.inl rfl))) (fun _ _ _ _ _ => pts_nil) (fun _ _ _ _ _ => (pe_ix ix_str (pv 2) (pe_k C__law_draw hr (by decide) rfl (pa_cons (pv 0) (pa_cons pe_int pa_nil))) (fun _ _ => rfl)))))))), ?_⟩
    refine ⟨⟨_, rfl⟩, _, rfl, (n : Int), rfl, by omega, by omega, fun D nD => lc_gr walk_range (fun i acc _ => ∃ cs : List Nat, acc = cs.map (fun c => V.str ⟨#[c]⟩) ∧ cs.length = i ∧ ∀ c ∈ cs, low1 c) nD (by omega) ⟨[], rfl, rfl, nofun⟩ (fun _ _ => True.intro) ?_ ?_⟩
    · rintro i x acc H1 H2 hi e e' hD hl ⟨cs, rfl, hcs, hlo⟩ ⟨rfl, rfl⟩
      refine ⟨rfl, _, rfl, _, rfl, p, 26, rfl, hp.ex e, by decide, by decide, fun v v0 v1 => ?_⟩
      obtain ⟨c, hc1, hc2, _⟩ := at_some (xs := ("abcdefghijklmnopqrstuvwxyz" : Str).cps.toList) (v := v) v0 (by
        have e : ("abcdefghijklmnopqrstuvwxyz" : Str).cps.toList.length = 26 := by decide +kernel
        rw [e]
        exact v1)
      have hlow : low1 c := by
        have q := letters_mem c
        rw [decide_eq_true hc2] at q
        have q := (Bool.and_eq_true _ _).mp q.symm
        exact ⟨of_decide_eq_true q.1, of_decide_eq_true q.2⟩
      refine ⟨_, _, c, rfl, rfl, szl (by decide +kernel), hc1, lc_put e' hD hl (by omega) (fun _ _ h => h) ⟨cs ++ [c], ?_, ?_, ?_⟩⟩
      · rw [List.map_append]
        rfl
      · rw [List.length_append, hcs]
        rfl
      · intro z hz
        rcases List.mem_append.mp hz with hz | hz
        · exact hlo z hz
        · cases List.mem_singleton.mp hz
          exact hlow
    · rintro acc H1 e e' hD hl ⟨cs, rfl, hcs, hlo⟩
      have hj := join_low cs
      have hlen : cs.length = n := by omega
      refine ⟨_, D, cs.map fun c => (⟨#[c]⟩ : Str), rfl, rfl, .inl ?_, ?_, ?_⟩
      · rw [List.map_map]
        exact SqLo hD
      · rw [sum_ones, List.length_map]
        show cs.length + cs.length * 0 ≤ _
        omega
      · rw [show Txt.join "" (cs.map fun c => (⟨#[c]⟩ : Str)) = Str.join "" (cs.map fun c => (⟨#[c]⟩ : Str)) from TL.join_eq _ _]
        exact k _ _ e (lets_of (by rw [hj]; omega) (by rw [hj]; omega) (by rw [hj]; exact hlo))
/-! ### leaves -/
def Lf (d : PyData) (v : V) : Prop := (∃ i, d = .int i ∧ v = .int i) ∨ ∃ x, d = .str x ∧ v = .str x
theorem Lf.dt {H : Hp} {d : PyData} {v : V} (h : Lf d v) : Dt H d v := by
  rcases h with ⟨i, rfl, rfl⟩ | ⟨i, rfl, rfl⟩ <;> (unfold Dt; rfl)
theorem Lf.cnt {d : PyData} {v : V} (h : Lf d v) : cnt d = 1 := by
  rcases h with ⟨i, rfl, rfl⟩ | ⟨i, rfl, rfl⟩ <;> rfl
def spLeafV : Sp := fun vs H Q _ => ∃ (p : Addr), vs = [.ref p] ∧ Pool H p ∧ ∀ v d H', Ex H H' → Lf d v → okA d = true → Q v H'
theorem sc__law_leaf : FnScope ["_law_pool", "_law_way"] ["_law_pool"] (defScope s__law_leaf) := ⟨rfl, rfl, rfl, by decide +kernel, rfl, by decide +kernel, by decide +kernel⟩
theorem bi__law_leaf : BindsEq "_law_leaf" s__law_leaf ["_law_pool"] := fun _ _ _ _ _ _ us hl => match us, hl with | [_], _ => rfl
theorem int_ok {i : Int} (h1 : -big < i) (h2 : i < big) : okA (.int i) = true := by
  unfold okA
  show (decide (-big < i) && decide (i < big)) = true
  rw [decide_eq_true h1, decide_eq_true h2]
  rfl
theorem ok_leafv (F : Df K mg "_law_leaf" s__law_leaf) (T : Txt K mg) (C__law_draw : Cal P w K mg base CX0 1 "_law_draw" spDraw) (C__law_word : Cal P w K mg base CX0 2 "_law_word" spWord) : Cal P w K mg base CX0 3 "_law_leaf" spLeafV := by
  refine cal0 F sc__law_leaf bi__law_leaf (fun vs H Q E h => ?_) (fun f cdv A outer s H vs Q E hr h => ?_)
  · obtain ⟨p, rfl, _⟩ := h
    rfl
  · obtain ⟨p, rfl, hp, k⟩ := h
    refine ⟨_, (pss_cons (ps_set (i := 1) sc__law_leaf.nd rfl (Or.inl rfl) (pe_k C__law_draw hr (by decide) rfl (pa_cons (pv 0) (pa_cons pe_int pa_nil))))
 (pss_cons (ps_if (pt_cmpR op_lt (pv 1) pe_int (nomark _)) (pss_one (ps_ret (pe_op op_sub (pe_k C__law_draw hr (by decide) rfl (pa_cons (pv 0) (pa_cons pe_int pa_nil))) pe_int))) pss_nil)
 (pss_cons (ps_if (pt_cmpR op_eq (pv 1) pe_int (nomark _)) (pss_one (ps_ret (pe_op op_add (pe_op op_mul (pe_op op_sub (pe_k C__law_draw hr (by decide) rfl (pa_cons (pv 0) (pa_cons (pe_op op_mul pe_int (pe_op op_pow pe_int pe_int)) pa_nil))) (pe_op op_pow pe_int pe_int)) (pe_op op_pow pe_int pe_int)) (pe_k C__law_draw hr (by decide) rfl (pa_cons (pv 0) (pa_cons (pe_op op_pow pe_int pe_int) pa_nil)))))) pss_nil)
 (pss_cons (ps_if (pt_cmpR op_eq (pv 1) pe_int (nomark _)) (pss_one (ps_ret (pe_ix (ixl K) (pe_lst (pa_cons (pe_op op_sub (pe_op op_pow pe_int pe_int) pe_int) (pa_cons (pe_op op_sub pe_int (pe_op op_pow pe_int pe_int)) pa_nil))) (pe_k C__law_draw hr (by decide) rfl (pa_cons (pv 0) (pa_cons pe_int pa_nil))) (fun _ _ => rfl)))) pss_nil)
 (pss_one (ps_ret (pe_k C__law_word hr (by decide) rfl (pa_cons (pv 0) (pa_cons (pe_ix (ixl K) (pe_lst (pa_cons pe_int (pa_cons pe_int (pa_cons pe_int (pa_cons pe_int (pa_cons pe_int pa_nil)))))) (pe_k C__law_draw hr (by decide) rfl (pa_cons (pv 0) (pa_cons pe_int pa_nil))) (fun _ _ => rfl)) pa_nil))))))))), ?_⟩
    refine ⟨_, rfl, p, 8, rfl, hp, by decide, by decide, fun wy w0 w1 => ?_⟩
    refine ⟨_, rfl, _, _, rfl, rfl, _, rfl, if_b (fun h => ?_) (fun h => ?_)⟩
    · refine ⟨_, rfl, p, 7, rfl, hp, by decide, by decide, fun x x0 x1 => ⟨_, _, rfl, rfl, ?_⟩⟩
      exact k _ _ H (fun _ _ h => h) (.inl ⟨_, rfl, rfl⟩) (int_ok (by unfold big; omega) (by unfold big; omega))
    · refine ⟨_, rfl, rfl, _, rfl, if_b (fun h2 => ?_) (fun h2 => ?_)⟩
      · have c9 : (10 : Int) ^ (9 : Int).toNat = 1000000000 := by decide
        have c20 : (10 : Int) ^ (20 : Int).toNat = 100000000000000000000 := by decide
        have cp : CPow 10 9 := ⟨by decide, by decide, by decide⟩
        have cp2 : CPow 10 20 := ⟨by decide, by decide, by decide⟩
        refine ⟨_, rfl, _, _, rfl, rfl, cp, _, _, rfl, rfl, .inl ⟨by decide, by decide⟩, p, _, rfl, hp, by decide, by decide, fun x x0 x1 => ?_⟩
        refine ⟨_, _, rfl, rfl, cp, _, _, rfl, rfl, _, _, rfl, rfl, cp2, _, _, rfl, rfl, ?_, _, rfl, _, _, rfl, rfl, cp, p, _, rfl, hp, by decide, by decide, fun y y0 y1 => ⟨_, _, rfl, rfl, ?_⟩⟩
        · rw [c9]
          rw [c9] at x1
          exact .inl ⟨by omega, by omega⟩
        · rw [c9] at x1 y1
          rw [c9, c20]
          exact k _ _ H (fun _ _ h => h) (.inl ⟨_, rfl, rfl⟩) (int_ok (by unfold big; omega) (by unfold big; omega))
      · refine ⟨_, rfl, rfl, _, rfl, if_b (fun h3 => ?_) (fun h3 => ?_)⟩
        · have c30 : (10 : Int) ^ (30 : Int).toNat = big := by decide
          have cp3 : CPow 10 30 := ⟨by decide, by decide, by decide⟩
          refine ⟨_, _, rfl, rfl, cp3, _, _, rfl, rfl, _, _, rfl, rfl, cp3, _, _, rfl, rfl, szl (by show 2 ≤ 100000; decide), fun p1 np1 => ?_⟩
          obtain ⟨H1, hH1, x0_1, h1⟩ := newH _ np1
          rw [hH1]
          clear hH1
          have f1 := np1
          refine ⟨_, rfl, p, 2, rfl, hp.ex x0_1, by decide, by decide, fun x x0 x1 => ?_⟩
          obtain ⟨z, hz1, hz2, _⟩ := at_some (xs := [V.int ((10 : Int) ^ (30 : Int).toNat - 1), V.int (1 - (10 : Int) ^ (30 : Int).toNat)]) (v := x) x0 x1
          refine ⟨p1, _, _, _, rfl, rfl, SqLo h1, hz1, ?_⟩
          rw [c30] at hz2
          rcases List.mem_cons.mp hz2 with rfl | hz2
          · exact k _ _ _ x0_1 (.inl ⟨_, rfl, rfl⟩) (int_ok (by unfold big; omega) (by unfold big; omega))
          · cases List.mem_singleton.mp hz2
            exact k _ _ _ x0_1 (.inl ⟨_, rfl, rfl⟩) (int_ok (by unfold big; omega) (by unfold big; omega))
        · refine ⟨_, rfl, szl (by show 5 ≤ 100000; decide), fun p1 np1 => ?_⟩
          obtain ⟨H1, hH1, x0_1, h1⟩ := newH _ np1
          rw [hH1]
          clear hH1
          have f1 := np1
          refine ⟨_, rfl, p, 5, rfl, hp.ex x0_1, by decide, by decide, fun x x0 x1 => ?_⟩
          obtain ⟨z, hz1, hz2, _⟩ := at_some (xs := [V.int 0, V.int 1, V.int 2, V.int 3, V.int 20]) (v := x) x0 x1
          have hz3 : ∃ n : Nat, z = .int n ∧ n ≤ 20 := by
            simp only [List.mem_cons, List.not_mem_nil, or_false] at hz2
            rcases hz2 with rfl | rfl | rfl | rfl | rfl
            · exact ⟨0, rfl, by decide⟩
            · exact ⟨1, rfl, by decide⟩
            · exact ⟨2, rfl, by decide⟩
            · exact ⟨3, rfl, by decide⟩
            · exact ⟨20, rfl, by decide⟩
          obtain ⟨n, rfl, hn⟩ := hz3
          refine ⟨p1, _, _, _, rfl, rfl, SqLo h1, hz1, p, n, rfl, hp.ex x0_1, by omega, fun x H' e hx => ?_⟩
          refine k _ _ _ (x0_1.trans e) (.inr ⟨x, rfl, rfl⟩) ?_
          unfold okA
          unfold lets at hx
          rw [Bool.and_eq_true, Bool.and_eq_true] at hx
          have hx1 := of_decide_eq_true hx.1.2
          show (decide (0 ≤ x.length) && decide (x.length ≤ 20) && low x) = true
          rw [decide_eq_true (Nat.zero_le _), decide_eq_true (by omega), hx.2]
          rfl
end
end VL

namespace VL
open PySem PySem.Spec L2 LW
open Evl (Ex)
/-! ### putting into a record -/
def putP (kvs : List (PyData × PyData)) (y : Str) (x : PyData) : List (PyData × PyData) := if y ∈ names kvs then setM kvs y x else kvs ++ [(.str y, x)]
theorem cntK_set : ∀ (kvs : List (PyData × PyData)) (y : Str) (x : PyData), (names kvs).Nodup → y ∈ names kvs → cntK (setM kvs y x) + cnt (getN kvs y) = cntK kvs + cnt x
  | [], y, x, _, h => by cases h
  | (k, d) :: r, y, x, nd, h => by
    have nd' : (nm k :: names r).Nodup := nd
    obtain ⟨n1, n2⟩ := List.nodup_cons.mp nd'
    have h' : y ∈ nm k :: names r := h
    show cntK ((if nm k = y then (k, x) else (k, d)) :: setM r y x) + cnt (if nm k = y then d else getN r y) = _
    by_cases e : nm k = y
    · rw [if_pos e, if_pos e, setM_no (e ▸ n1)]
      rw [cntK, cntK]
      omega
    · rw [if_neg e, if_neg e]
      have hy : y ∈ names r := by
        rcases List.mem_cons.mp h' with q | q
        · exact (e q.symm).elim
        · exact q
      have := cntK_set r y x n2 hy
      rw [cntK, cntK]
      omega
theorem cntK_app (xs : List (PyData × PyData)) (k d : PyData) : cntK (xs ++ [(k, d)]) = cntK xs + cnt d := by
  rw [cntK_eq, cntK_eq, List.map_append, cntL_app]
  show _ + cntL [d] = _
  rw [cntL, cntL]
  omega
theorem putP_cnt (kvs : List (PyData × PyData)) (y : Str) (x : PyData) (nd : (names kvs).Nodup) : cntK (putP kvs y x) ≤ cntK kvs + cnt x := by
  unfold putP
  split
  · rename_i h
    have := cntK_set kvs y x nd h
    omega
  · rw [cntK_app]
    omega
theorem putP_len (kvs : List (PyData × PyData)) (y : Str) (x : PyData) : (putP kvs y x).length ≤ kvs.length + 1 := by
  unfold putP
  split
  · unfold setM
    rw [List.length_map]
    omega
  · rw [List.length_append]
    exact Nat.le_refl _
theorem putP_fld {kvs : List (PyData × PyData)} {y : Str} {x : PyData} (h : ∀ p ∈ kvs, fld p.1 = true) (hy : fld (.str y) = true) : ∀ p ∈ putP kvs y x, fld p.1 = true := by
  intro p hp
  unfold putP at hp
  split at hp
  · obtain ⟨z, hz, rfl⟩ := List.mem_map.mp hp
    split <;> exact h z hz
  · rcases List.mem_append.mp hp with hp | hp
    · exact h p hp
    · cases List.mem_singleton.mp hp
      exact hy
theorem okK_mem {kvs : List (PyData × PyData)} : okK kvs = true ↔ ∀ p ∈ kvs, okA p.2 = true := by
  rw [okK_eq, okL_all, List.all_eq_true]
  constructor
  · exact fun h p hp => h p.2 (List.mem_map_of_mem hp)
  · intro h d hd
    obtain ⟨p, hp, rfl⟩ := List.mem_map.mp hd
    exact h p hp
theorem putP_ok {kvs : List (PyData × PyData)} {y : Str} {x : PyData} (h : okK kvs = true) (hx : okA x = true) : okK (putP kvs y x) = true := by
  rw [okK_mem] at h ⊢
  intro p hp
  unfold putP at hp
  split at hp
  · obtain ⟨z, hz, rfl⟩ := List.mem_map.mp hp
    split
    · exact hx
    · exact h z hz
  · rcases List.mem_append.mp hp with hp | hp
    · exact h p hp
    · cases List.mem_singleton.mp hp
      exact hx
theorem allStr_fld {kvs : List (PyData × PyData)} (h : ∀ p ∈ kvs, fld p.1 = true) : AllStr kvs := fun p hp => by
  have q := h p hp
  cases e : p.1 with
  | str x => rfl
  | _ => rw [e] at q; cases q
theorem DtK.app1 {H : Hp} {k d : PyData} {x : Key} {v : V} (hk : k = kD x) (q : Dt H d v) : ∀ {kvs : List (PyData × PyData)} {es : List (Key × V)}, DtK H kvs es → DtK H (kvs ++ [(k, d)]) (es ++ [(x, v)])
  | [], _, h => by
    unfold DtK at h
    subst h
    refine DtK.cons hk q ?_
    unfold DtK
    rfl
  | (k0, d0) :: r, _, h => by
    unfold DtK at h
    obtain ⟨z, u, t, rfl, hk0, h1, h2⟩ := h
    exact DtK.cons hk0 h1 (DtK.app1 hk q h2)
theorem val_no {H : Hp} {kvs : List (PyData × PyData)} {es : List (Key × V)} (h : DtK H kvs es) (ha : AllStr kvs) {y : Str} (hy : y ∉ names kvs) : valV es (Sum.inr y : Key) = none := by
  have e := dtk_names h ha
  cases q : valV es (Sum.inr y : Key) with
  | none => rfl
  | some v =>
    exfalso
    unfold valV at q
    cases f : es.find? fun kv => decide (kv.1 = (Sum.inr y : Key)) with
    | none =>
      rw [f] at q
      cases q
    | some p =>
      have h1 := List.mem_of_find?_eq_some f
      have h2 := List.find?_some f
      have h3 : p.1 = (Sum.inr y : Key) := of_decide_eq_true h2
      have h4 : (Sum.inr y : Key) ∈ es.map (·.1) := by
        rw [← h3]
        exact List.mem_map_of_mem h1
      rw [e] at h4
      obtain ⟨z, hz, hz2⟩ := List.mem_map.mp h4
      cases hz2
      exact hy hz
theorem dtk_putP {H : Hp} {y : Str} {x : PyData} {u : V} {kvs : List (PyData × PyData)} {es : List (Key × V)} (q : Dt H x u) (h : DtK H kvs es) (ha : AllStr kvs) (nd : (es.map (·.1)).Nodup) :
    DtK H (putP kvs y x) (putK es (Sum.inr y) u) ∧ ((putK es (Sum.inr y : Key) u).map (·.1)).Nodup := by
  unfold putP
  by_cases hy : y ∈ names kvs
  · rw [if_pos hy]
    obtain ⟨v, hv, _⟩ := dtk_get h ha y hy
    refine ⟨DtK.put q h ha hy, ?_⟩
    rw [putK_keys (by rw [hv]; rfl)]
    exact nd
  · rw [if_neg hy]
    have hv := val_no h ha hy
    rw [putK_new u hv]
    refine ⟨DtK.app1 (k := .str y) (x := Sum.inr y) rfl q h, ?_⟩
    rw [List.map_append, List.nodup_append]
    refine ⟨nd, by simp, fun a ha' b hb => ?_⟩
    cases List.mem_singleton.mp hb
    rw [dtk_names h ha] at ha'
    obtain ⟨z, hz, rfl⟩ := List.mem_map.mp ha'
    exact fun e => hy (Sum.inr.inj e ▸ hz)
/-! ### _law_value -/
section
variable {P : Program} {w : World} {K : PySem.W.Frag} {mg : Str → Option Value} {base : Heap}
def spValue (n : Nat) : Sp := fun vs H Q _ => ∃ (pl ro : Addr) (r dp : Nat), vs = [.ref pl, .ref ro, .int dp] ∧ dp < n ∧ Pool H pl ∧ H ro = some (.lst [.int r]) ∧ r ≤ 59 ∧
  ∀ v d (r' : Nat) H', Ex (upd H ro (.lst [.int r'])) H' → Dt (fr H H') d v → okA d = true → cnt d + r' ≤ 1 + r → Q v H'
/-- the heap of the run: the room has changed, a new object stands at D -/
structure Rm (H Hi : Hp) (ro D : Addr) (o : HO) (r : Nat) : Prop where
  ex : Ex (upd H ro (.lst [.int r])) (del Hi D)
  hD : Hi D = some o
theorem Rm.next {H Hi H4 : Hp} {ro D : Addr} {o o' : HO} {r r' : Nat} {u : HO} (h : Rm H Hi ro D o r) (hro : H ro = some u) (nD : H D = none) (e : Ex (upd Hi ro (.lst [.int r'])) H4) : Rm H (upd H4 D o') ro D o' r' ∧ Ex (fr H (del Hi D)) (fr H (del (upd H4 D o') D)) ∧ Ex (fr Hi H4) (fr H (del (upd H4 D o') D)) ∧ H4 D = some o := by
  have ne : D ≠ ro := fun z => by rw [z, hro] at nD; cases nD
  have dm : ∀ b, Hi b = none → H b = none := fun b hb => by
    cases q : H b with
    | none => rfl
    | some x =>
      by_cases eb : b = ro
      · have := h.ex ro _ upd_same
        rw [eb] at hb
        rw [ex_del _ _ this] at hb
        cases hb
      · have := ex_del _ _ (h.ex b x (by rw [upd_ne eb]; exact q))
        rw [hb] at this
        cases this
  refine ⟨⟨fun b x q => ?_, upd_same⟩, fun b x q => ?_, fun b x q => ?_, ?_⟩
  · rw [del_upd]
    by_cases eb : b = ro
    · subst eb
      rw [upd_same] at q
      cases q
      exact del_get (e _ _ upd_same) (fun z => ne z.symm)
    · rw [upd_ne eb] at q
      have q1 := h.ex b x (by rw [upd_ne eb]; exact q)
      have eD : b ≠ D := fun z => by rw [z, del_same] at q1; cases q1
      exact del_get (e b x (by rw [upd_ne eb]; exact ex_del _ _ q1)) eD
  · obtain ⟨n, q⟩ := fr_some q
    have eD : b ≠ D := fun z => by rw [z, del_same] at q; cases q
    have eb : b ≠ ro := fun z => by rw [z, hro] at n; cases n
    rw [del_upd]
    exact fr_get n (del_get (e b x (by rw [upd_ne eb]; exact ex_del _ _ q)) eD)
  · obtain ⟨n, q⟩ := fr_some q
    have eD : b ≠ D := fun z => by rw [z, h.hD] at n; cases n
    rw [del_upd]
    exact fr_get (dm b n) (del_get q eD)
  · exact e _ _ (by rw [upd_ne ne]; exact h.hD)
theorem Rm.grow {H Hi H4 : Hp} {ro D : Addr} {o : HO} {r : Nat} (h : Rm H Hi ro D o r) (e : Ex Hi H4) : Rm H H4 ro D o r := ⟨h.ex.trans (del_grow' e), e _ _ h.hD⟩
theorem Rm.ro {H Hi : Hp} {ro D : Addr} {o : HO} {r : Nat} (h : Rm H Hi ro D o r) : Hi ro = some (.lst [.int r]) := ex_del _ _ (h.ex _ _ upd_same)
theorem Rm.old {H Hi : Hp} {ro D a : Addr} {o u : HO} {r : Nat} (h : Rm H Hi ro D o r) (q : H a = some u) (ne : a ≠ ro) : Hi a = some u := ex_del _ _ (h.ex _ _ (by rw [upd_ne ne]; exact q))
theorem upd_id {H : Hp} {a : Addr} {o : HO} (h : H a = some o) : upd H a o = H := by
  funext b
  by_cases hb : b = a
  · rw [hb, upd_same, h]
  · rw [upd_ne hb]
theorem at_heap {f : Hp → Prop} {A B : Hp} (e : A = B) (h : f B) : f A := e ▸ h
theorem fld_str {y : Str} (h : lets y 1 8 = true) : fld (.str y) = true := h
theorem sc__law_value : FnScope ["_law_pool", "_law_room", "_law_deep", "_law_way", "_law_many", "_law_k", "_law_found", "_law_name"] ["_law_pool", "_law_room", "_law_deep"] (defScope s__law_value) := ⟨rfl, rfl, rfl, by decide +kernel, rfl, by decide +kernel, by decide +kernel⟩
theorem bi__law_value : BindsEq "_law_value" s__law_value ["_law_pool", "_law_room", "_law_deep"] := fun _ _ _ _ _ _ us hl => match us, hl with | [_, _, _], _ => rfl
theorem ok_value (F : Df K mg "_law_value" s__law_value) (T : Txt K mg) (C__law_draw : Cal P w K mg base CX0 1 "_law_draw" spDraw) (C__law_word : Cal P w K mg base CX0 2 "_law_word" spWord) (C__law_leaf : Cal P w K mg base CX0 3 "_law_leaf" spLeafV) :
    ∀ n, Cal P w K mg base CX0 (n + 4) "_law_value" (spValue n)
  | 0 => cal_no F sc__law_value bi__law_value fun vs H Q E h => by
    obtain ⟨pl, ro, r, dp, _, hc, _⟩ := h
    omega
  | n + 1 => by
    have C__law_value := ok_value F T C__law_draw C__law_word C__law_leaf n
    refine cal0 F sc__law_value bi__law_value (fun vs H Q E h => ?_) (fun f cdv A outer s H vs Q E hr h => ?_)
    · obtain ⟨pl, ro, r, dp, rfl, _⟩ := h
      rfl
    · obtain ⟨pl, ro, r, dp, rfl, hdp, hp, hro, hr59, k⟩ := h
      have hu : (A.deeper (PyProof.Rows.envOfC "_law_value" (defScope s__law_value) s.heap.objs.size f cdv)).units + 1 < cLine := by have := hr.un; omega
      refine ⟨_, (pss_cons (ps_set (i := 3) sc__law_value.nd rfl (Or.inl rfl) (pe_k C__law_draw hr (by omega) rfl (pa_cons (pv 0) (pa_cons pe_int pa_nil))))
 (pss_cons (ps_set (i := 4) sc__law_value.nd rfl (Or.inl rfl) (pe_callB (call_min2 rfl) rfl T.b_min (by decide +kernel) (pa_cons (pe_callTy call_int1 rfl T.b_int (by decide +kernel) (pa_cons (pe_k C__law_draw hr (by omega) rfl (pa_cons (pv 0) (pa_cons pe_int pa_nil))) pa_nil)) (pa_cons (pe_callTy call_int1 rfl T.b_int (by decide +kernel) (pa_cons (pe_ix (ixl K) (pv 1) pe_int (fun _ _ => rfl)) pa_nil)) pa_nil))))
 (pss_cons (ps_if (PW.pt (pw_or (pt_cmpR op_eq (pv 2) pe_int (nomark _)) (pw_or1 (pt_cmpR op_lt (pv 3) pe_int (nomark _))))) (pss_one (ps_ret (pe_k C__law_leaf hr (by omega) rfl (pa_cons (pv 0) pa_nil)))) pss_nil)
 (pss_cons (ps_asg (pe_op op_sub (pe_ix (ixl K) (pv 1) pe_int (fun _ _ => rfl)) (pv 4)) (pg_sub (pv 1) pe_int set_list))
 (pss_cons (ps_if (pt_cmpR op_eq (pv 3) pe_int (nomark _)) (pss_one (ps_ret (pe_lc (own := [("_law_k", 5)]) (by rfl) sc__law_value.nd (pi_range1 rfl T.b_range (pa_cons (pv 4) pa_nil)) (blkOk_by (own := [("_law_k", 5)]) (N := ["_law_pool", "_law_room", "_law_deep", "_law_way", "_law_many", "_law_k", "_law_found", "_law_name"]) (sc := defScope s__law_value) (by decide +kernel)) (fun _ _ _ _ _ => (pg_name (i := 5) sc__law_value.nd rfl (Or.inl rfl))) (fun _ _ _ _ _ => pts_nil) (fun _ _ _ _ _ => (pe_k C__law_value hr (by omega) rfl (pa_cons (pv 0) (pa_cons (pv 1) (pa_cons (pe_op op_sub (pv 2) pe_int) pa_nil)))))))) pss_nil)
 (pss_cons (ps_set (i := 6) sc__law_value.nd rfl (Or.inl rfl) pe_dnewK)
 (pss_cons (ps_for PassesOwn.never rfl (pi_range1 rfl T.b_range (pa_cons (pv 4) pa_nil)) (pg_name (i := 5) sc__law_value.nd rfl (Or.inl rfl)) (pss_cons (ps_set (i := 7) sc__law_value.nd rfl (Or.inl rfl) (pe_ix (ixl K) (pe_lst (pa_cons (pe_ix (ixl K) (pe_lst (pa_cons pe_str (pa_cons pe_str (pa_cons pe_str (pa_cons pe_str pa_nil))))) (pv 5) (fun _ _ => rfl)) (pa_cons (pe_k C__law_word hr (by omega) rfl (pa_cons (pv 0) (pa_cons pe_int pa_nil))) pa_nil))) (pe_k C__law_draw hr (by omega) rfl (pa_cons (pv 0) (pa_cons pe_int pa_nil))) (fun _ _ => rfl)))
 (pss_one (ps_dput hu (pv 6) (pv 7) (pe_k C__law_value hr (by omega) rfl (pa_cons (pv 0) (pa_cons (pv 1) (pa_cons (pe_op op_sub (pv 2) pe_int) pa_nil)))) rfl))))
 (pss_one (ps_ret (pv 6)))))))))), ?_⟩
      refine ⟨_, rfl, pl, 4, rfl, hp, by decide, by decide, fun wy w0 w1 => ?_⟩
      refine ⟨_, rfl, pl, 5, rfl, hp, by decide, by decide, fun my m0 m1 => ?_⟩
      refine .inl ⟨_, rfl, _, rfl, ro, _, _, _, rfl, rfl, SqLo hro, (show atI [V.int r] 0 = some (.int r) from rfl), .inl ⟨_, rfl, _, _, rfl, ?_⟩⟩
      obtain ⟨m, hm, hm4, hmr⟩ : ∃ m : Nat, (if (r : Int) < my then (r : Int) else my) = m ∧ m ≤ 4 ∧ m ≤ r := by
        split
        · exact ⟨r, rfl, by omega, Nat.le_refl _⟩
        · exact ⟨my.toNat, by omega, by omega, by omega⟩
      rw [hm]
      have pr : pl ≠ ro := fun z => by
        have q := hp
        rw [z] at q
        rw [show H ro = some (poolO ro) from q] at hro
        cases hro
      have cast : dp ≠ 0 → (dp : Int) - 1 = ((dp - 1 : Nat) : Int) := fun h => by omega
      have leafGo : ∀ v d H', Ex H H' → Lf d v → okA d = true → Q v H' := fun v d H' e hl ho => k v d r H' (by rw [upd_id hro]; exact e) hl.dt ho (by rw [hl.cnt]; omega)
      refine ⟨_, rfl, rfl, _, rfl, if_b (fun h => ?_) (fun h => ?_)⟩
      · exact if_t rfl ⟨_, rfl, pl, rfl, hp, leafGo⟩
      · have dp0 : dp ≠ 0 := fun z => by
          rw [z] at h
          cases h
        refine ⟨_, rfl, _, _, rfl, rfl, _, rfl, if_b (fun h1 => ?_) (fun h1 => ?_)⟩
        · exact ⟨_, rfl, pl, rfl, hp, leafGo⟩
        refine ⟨_, rfl, ro, _, _, _, rfl, rfl, SqLo hro, (show atI [V.int r] 0 = some (.int r) from rfl), _, rfl, _, _, rfl, rfl, _, rfl, ro, _, _, 0, rfl, rfl, hro, rfl, ?_⟩
        refine at_heap (B := upd H ro (.lst [.int ((r - m : Nat) : Int)])) ?_ ?_
        · show upd H ro (HO.lst [V.int ((r : Int) - (m : Int))]) = _
          rw [show ((r : Int) - (m : Int)) = ((r - m : Nat) : Int) by omega]
        refine ⟨_, rfl, rfl, _, rfl, if_b (fun h2 => ?_) (fun h2 => ?_)⟩
        · -- a list
          refine ⟨_, rfl, (m : Int), rfl, by omega, by omega, fun D nD => ?_⟩
          have nD0 : H D = none := by
            by_cases e : D = ro
            · rw [e, upd_same] at nD
              cases nD
            · rw [upd_ne e] at nD
              exact nD
          refine lc_it walk_range (fun i Hi => ∃ acc ds ri, Rm H Hi ro D (.lst acc) ri ∧ DtL (fr H (del Hi D)) ds acc ∧ okL ds = true ∧ ds.length = i ∧ cntL ds + ri ≤ i + (r - m)) ?_ (fun _ _ _ _ => True.intro) ?_ ?_
          · refine ⟨[], [], r - m, ⟨?_, upd_same⟩, DtL.nil, rfl, rfl, by rw [cntL]; omega⟩
            rw [del_none nD]
            exact fun _ _ h => h
          · rintro i x Hi H2 hi ⟨acc, ds, ri, rm, hdl, hok, hlen, hcn⟩ ⟨rfl, rfl⟩
            have hl := hdl.len
            refine ⟨rfl, _, rfl, _, rfl, _, rfl, _, _, rfl, rfl, pl, ro, ri, dp - 1, ?_, by omega, rm.old hp pr, rm.ro, by omega, fun v d r'' H4 e4 hdt ho hc => ?_⟩
            · show [V.ref pl, V.ref ro, V.int ((dp : Int) - 1)] = _
              rw [cast dp0]
            · obtain ⟨n1, n2, n3, n4⟩ := rm.next (o' := .lst (acc ++ [v])) hro nD0 e4
              refine ⟨acc, n4, szlt (by omega), acc ++ [v], ds ++ [d], r'', n1, ?_, ?_, ?_, ?_⟩
              · exact DtL.app (hdl.ex n2) (DtL.cons (hdt.ex n3) DtL.nil)
              · rw [okL_app, hok, Bool.true_and, okL, okL, ho]
                rfl
              · rw [List.length_append, hlen]
                rfl
              · rw [cntL_app, cntL, cntL]
                omega
          · rintro Hi ⟨acc, ds, ri, rm, hdl, hok, hlen, hcn⟩
            refine k _ (.list ds) ri Hi (rm.ex.trans ex_del) ?_ ?_ ?_
            · unfold Dt
              exact ⟨D, acc, rfl, .inl (fr_get nD0 rm.hD), hdl.ex (fr_mono ex_del)⟩
            · unfold okA
              rw [hok, Bool.and_true]
              exact decide_eq_true (by omega)
            · rw [cnt]
              omega
        · -- a record
          intro D nD
          have nD0 : H D = none := by
            by_cases e : D = ro
            · rw [e, upd_same] at nD
              cases nD
            · rw [upd_ne e] at nD
              exact nD
          refine ⟨_, rfl, (m : Int), rfl, by omega, by omega, for_it walk_range (fun i σ' Hi => ∃ es kvs ri o5 o7, σ' = [some (.ref pl), some (.ref ro), some (.int dp), some (.int wy), some (.int m), o5, some (.ref D), o7] ∧ Rm H Hi ro D (.dK es) ri ∧ DtK (fr H (del Hi D)) kvs es ∧ (es.map (·.1)).Nodup ∧ (∀ p ∈ kvs, fld p.1 = true) ∧ okK kvs = true ∧ kvs.length ≤ i ∧ cntK kvs + ri ≤ i + (r - m)) ?_ (fun _ _ _ _ _ => True.intro) ?_ ?_⟩
          · refine ⟨[], [], r - m, none, none, rfl, ⟨?_, upd_same⟩, by unfold DtK; rfl, List.nodup_nil, nofun, rfl, Nat.le_refl _, by rw [cntK]; omega⟩
            rw [del_none nD]
            exact fun _ _ h => h
          · rintro i x σ' Hi H2 hi ⟨es, kvs, ri, o5, o7, rfl, rm, hdk, hnd, hfl, hok, hlen, hcn⟩ ⟨rfl, rfl⟩
            have hpi := rm.old hp pr
            refine ⟨szl (by show 4 ≤ 100000; decide), fun p1 np1 => ?_⟩
            obtain ⟨Ha, hHa, xa, ha⟩ := newH _ np1
            rw [hHa]
            clear hHa
            obtain ⟨z, hz1, hz2, _⟩ := at_some (xs := [V.str "b", V.str "a", V.str "ab", V.str "zz"]) (v := 0 + (i : Int)) (by omega) (by show (0 + (i : Int)) < 4; omega)
            have hz3 : ∃ y : Str, z = .str y ∧ fld (.str y) = true := by
              simp only [List.mem_cons, List.not_mem_nil, or_false] at hz2
              rcases hz2 with rfl | rfl | rfl | rfl
              · exact ⟨_, rfl, by decide +kernel⟩
              · exact ⟨_, rfl, by decide +kernel⟩
              · exact ⟨_, rfl, by decide +kernel⟩
              · exact ⟨_, rfl, by decide +kernel⟩
            obtain ⟨y1, rfl, hy1⟩ := hz3
            refine ⟨_, rfl, p1, _, _, _, rfl, rfl, SqLo ha, hz1, _, rfl, pl, 8, rfl, Pool.ex hpi xa, by decide, fun y2 Hb xb hy2 => ?_⟩
            have hf2 : fld (.str y2) = true := by
              unfold lets at hy2
              rw [Bool.and_eq_true, Bool.and_eq_true] at hy2
              have a1 := of_decide_eq_true hy2.1.1
              show (decide (1 ≤ y2.length) && decide (y2.length ≤ 8) && low y2) = true
              rw [decide_eq_true (by omega), hy2.1.2, hy2.2]
              rfl
            refine ⟨szl (by show 2 ≤ 100000; decide), fun p2 np2 => ?_⟩
            obtain ⟨Hc, hHc, xc, hc2⟩ := newH _ np2
            rw [hHc]
            clear hHc
            refine ⟨_, rfl, pl, 2, rfl, Pool.ex hpi (xa.trans (xb.trans xc)), by decide, by decide, fun u u0 u1 => ?_⟩
            obtain ⟨z, hz1, hz2, _⟩ := at_some (xs := [V.str y1, V.str y2]) (v := u) u0 u1
            have hz3 : ∃ y : Str, z = .str y ∧ fld (.str y) = true := by
              simp only [List.mem_cons, List.not_mem_nil, or_false] at hz2
              rcases hz2 with rfl | rfl
              · exact ⟨_, rfl, hy1⟩
              · exact ⟨_, rfl, hf2⟩
            obtain ⟨y, rfl, hy⟩ := hz3
            refine ⟨p2, _, _, _, rfl, rfl, SqLo hc2, hz1, ?_⟩
            have xi := xa.trans (xb.trans xc)
            have rmc := rm.grow xi
            refine ⟨_, rfl, _, rfl, _, rfl, _, _, rfl, rfl, pl, ro, ri, dp - 1, ?_, by omega, rmc.old hp pr, rmc.ro, by omega, fun v d r'' H4 e4 hdt ho hc => ?_⟩
            · show [V.ref pl, V.ref ro, V.int ((dp : Int) - 1)] = _
              rw [cast dp0]
            · obtain ⟨n1, n2, n3, n4⟩ := rmc.next (o' := .dK (putK es (Sum.inr y) v)) hro nD0 e4
              have hal := allStr_fld hfl
              have n2' := (fr_mono (H := H) (del_grow' (p := D) xi)).trans n2
              obtain ⟨q1, q2⟩ := dtk_putP (y := y) (hdt.ex n3) (hdk.ex n2') hal hnd
              have hkl : es.length = kvs.length := DtK.len hdk
              refine ⟨_, rfl, _, rfl, D, _, rfl, DPut.k (k := Sum.inr y) n4 (szlt (by omega)), _, putP kvs y d, r'', _, _, rfl, n1, q1, q2, putP_fld hfl hy, putP_ok hok ho, ?_, ?_⟩
              · have := putP_len kvs y d
                omega
              · have := putP_cnt kvs y d (nodup_names hdk hal hnd)
                omega
          · rintro σ' Hi ⟨es, kvs, ri, o5, o7, rfl, rm, hdk, hnd, hfl, hok, hlen, hcn⟩
            refine ⟨_, rfl, k _ (.dict kvs) ri Hi (rm.ex.trans ex_del) ?_ ?_ ?_⟩
            · unfold Dt
              exact ⟨D, rfl, .inl ⟨es, .inl (fr_get nD0 rm.hD), hnd, hdk.ex (fr_mono ex_del)⟩⟩
            · unfold okA
              rw [hok, Bool.and_true]
              show (decide (kvs.length ≤ 8) && kvs.all fun p => fld p.1) = true
              rw [decide_eq_true (by omega), Bool.true_and]
              exact List.all_eq_true.mpr hfl
            · rw [cnt]
              omega
end
end VL

namespace VL
open PySem PySem.Spec L2 LW
open Evl (Ex)
/-- a statement while a dict is locked: the heaps agree but there -/
theorem lockA_eq {t : TS} {D : Ends} {σ : L2.St} {H : Hp} {a : Addr} {u : HO} (hu : L2.Rd H a u) (mu : Mut (some u))
    (body : ∀ (Hf : Hp) (o : Obj) (D' : Ends) (th : Hp → Hp), (∀ b, b ≠ a → Hf b = H b) → Hf a = some (.frz o u) → RdX H Hf → (∀ H' b, b ≠ a → th H' b = H' b) → (∀ H', H' a = some (.frz o u) → th H' a = H a ∧ RdX H' (th H')) →
      (∀ v H', H' a = some (.frz o u) → D.rt v (th H') → D'.rt v H') → (∀ σ' H', H' a = some (.frz o u) → D.nx σ' (th H') → D'.nx σ' H') → t D' σ Hf) : tLockA t D σ H := by
  rcases hu with h | ⟨o, h⟩
  · left
    have nf : NF u := fun o' u' z => by
      rw [z] at mu
      exact mu
    refine ⟨a, u, h, mu, fun od => body _ od _ (fun H' => upd H' a u) (fun b hb => upd_ne hb) upd_same (rdx_lock h nf) (fun H' b hb => upd_ne hb) ?_ ?_ ?_⟩
    · intro H' e
      exact ⟨upd_same.trans h.symm, rdx_free e⟩
    · intro v H' e q
      exact ⟨e, q⟩
    · intro v H' e q
      exact ⟨e, q⟩
  · right
    exact body H o D (fun H' => H') (fun _ _ => rfl) h (fun _ _ _ h => h) (fun _ _ _ => rfl) (fun H' e => ⟨e.trans h.symm, fun _ _ _ h => h⟩) (fun _ _ _ q => q) (fun _ _ _ q => q)
theorem catA_of {K : PySem.W.Frag} {H : Hp} {Q : VK} {a b : Addr} {xs ys : List V} (hx : L2.Rd H a (.tup xs)) (hy : L2.Rd H b (.tup ys)) (ny : ys ≠ []) (hz : xs.length + ys.length ≤ 100000) (k : ∀ p H', Ex H H' → L2.Rd H' p (.tup (xs ++ ys)) → Q (.ref p) H') : rCatA K (.ref a) (.ref b) H Q := by
  refine ⟨a, b, xs, ys, rfl, rfl, .inl hx, .inl hy, szl hz, fun e => ?_, fun _ e => (ny e).elim, fun _ _ p np => k p _ (Ex.new np) (.inl upd_same)⟩
  subst e
  exact k b H (fun _ _ h => h) hy
/-- a place told below another -/
def PlaceAt (H : Hp) (p0 : List V) (d : PyData) (x : V) : Prop := ∃ b p c, x = .ref b ∧ L2.Rd H b (.tup (p0 ++ p)) ∧ At d p c
theorem PlaceAt.rdx {H H' : Hp} (e : RdX H H') {p0 : List V} {d : PyData} {x : V} (h : PlaceAt H p0 d x) : PlaceAt H' p0 d x := by
  obtain ⟨b, p, c, rfl, h1, h2⟩ := h
  exact ⟨b, p, c, rfl, e _ _ nf_tup h1, h2⟩
theorem PlaceAt.ex {H H' : Hp} (e : Ex H H') {p0 : List V} {d : PyData} {x : V} (h : PlaceAt H p0 d x) : PlaceAt H' p0 d x := h.rdx (rdx_ex e)
theorem PlaceAt.up {H : Hp} {p0 : List V} {d c : PyData} {s x : V} (hs : stepD d s = some c) (h : PlaceAt H (p0 ++ [s]) c x) : PlaceAt H p0 d x := by
  obtain ⟨b, p, e, rfl, h1, h2⟩ := h
  refine ⟨b, s :: p, e, rfl, ?_, ⟨c, hs, h2⟩⟩
  rw [List.append_assoc] at h1
  exact h1
section
variable {P : Program} {w : World} {K : PySem.W.Frag} {mg : Str → Option Value} {base : Heap}
/-! ### _law_below -/
def spBelow (n : Nat) : Sp := fun vs H Q _ => ∃ (v : V) (d : PyData) (t : Addr) (p0 : List V), vs = [v, .ref t] ∧ L2.Rd H t (.tup p0) ∧ Dt H d v ∧ okA d = true ∧ cnt d ≤ n ∧ p0.length + cnt d ≤ 200 ∧
  ∀ q H' ts, Ex H H' → H' q = some (.lst ts) → ts.length = cnt d → (∀ x ∈ ts, PlaceAt H' p0 d x) → Q (.ref q) H'
theorem sc__law_below : FnScope ["_law_value_here", "_law_spot", "_law_found", "_law_k", "_law_name", "_law_one"] ["_law_value_here", "_law_spot"] (defScope s__law_below) := ⟨rfl, rfl, rfl, by decide +kernel, rfl, by decide +kernel, by decide +kernel⟩
theorem bi__law_below : BindsEq "_law_below" s__law_below ["_law_value_here", "_law_spot"] := fun _ _ _ _ _ _ us hl => match us, hl with | [_, _], _ => rfl
theorem ok_below (F : Df K mg "_law_below" s__law_below) (T : Txt K mg) : ∀ n, Cal P w K mg base CX0 (n + 1) "_law_below" (spBelow n)
  | 0 => cal_no F sc__law_below bi__law_below fun vs H Q E h => by
    obtain ⟨v, d, t, p0, _, _, _, _, hc, _⟩ := h
    have := cnt_pos d
    omega
  | n + 1 => by
    have C__law_below := ok_below F T n
    refine cal0 F sc__law_below bi__law_below (fun vs H Q E h => ?_) (fun f cdv A outer s H vs Q E hr h => ?_)
    · obtain ⟨v, d, t, p0, rfl, _⟩ := h
      rfl
    · obtain ⟨v, d, t, p0, rfl, ht, hd, ho, hc, hpl, k⟩ := h
      refine ⟨_, (pss_cons (ps_set (i := 2) sc__law_below.nd rfl (Or.inl rfl) (pe_lst (pa_cons (pv 1) pa_nil)))
 (pss_cons (ps_if (pt_val (pe_callB (isD K) rfl T.b_isinstance (by decide +kernel) (pa_cons (pv 0) (pa_cons (pe_bltn (v := .ty "list") rfl T.b_list (by decide +kernel) rfl) pa_nil)))) (pss_one (ps_for PassesOwn.never rfl (pi_range1 rfl T.b_range (pa_cons (pe_callB (lnA K) rfl T.b_len (by decide +kernel) (pa_cons (pv 0) pa_nil)) pa_nil)) (pg_name (i := 3) sc__law_below.nd rfl (Or.inl rfl)) (pss_one (ps_set (i := 2) sc__law_below.nd rfl (Or.inl rfl) (pe_op op_cat (pv 2) (pe_k C__law_below hr (by omega) rfl (pa_cons (pe_ix (ixA K) (pv 0) (pv 3) (fun _ _ => rfl)) (pa_cons (pe_op op_catA (pv 1) (pe_tup (pa_cons (pv 3) pa_nil))) pa_nil)))))))) pss_nil)
 (pss_cons (ps_if (pt_val (pe_callB (isD K) rfl T.b_isinstance (by decide +kernel) (pa_cons (pv 0) (pa_cons (pe_bltn (v := .ty "dict") rfl T.b_dict (by decide +kernel) rfl) pa_nil)))) (pss_one (ps_lockA (ps_for PassesOwn.never rfl (pil K (pe_callB (srK K) rfl T.b_sorted (by decide +kernel) (pa_cons (pe_lc (own := [("_law_one", 5)]) (by rfl) sc__law_below.nd (pi_ka (pv 0)) (blkOk_by (own := [("_law_one", 5)]) (N := ["_law_value_here", "_law_spot", "_law_found", "_law_k", "_law_name", "_law_one"]) (sc := defScope s__law_below) (by decide +kernel)) (fun _ _ _ _ _ => (pg_name (i := 5) sc__law_below.nd rfl (Or.inl rfl))) (fun _ _ _ _ _ => pts_nil) (fun _ _ _ _ _ => (pe_callTy strS rfl T.b_str (by decide +kernel) (pa_cons (pv 5) pa_nil)))) pa_nil))) (pg_name (i := 4) sc__law_below.nd rfl (Or.inl rfl)) (pss_one (ps_set (i := 2) sc__law_below.nd rfl (Or.inl rfl) (pe_op op_cat (pv 2) (pe_k C__law_below hr (by omega) rfl (pa_cons (pe_ix (ixA K) (pv 0) (pv 4) (fun _ _ => rfl)) (pa_cons (pe_op op_catA (pv 1) (pe_tup (pa_cons (pv 4) pa_nil))) pa_nil))))))))) pss_nil)
 (pss_one (ps_ret (pv 2)))))), ?_⟩
      refine ⟨_, rfl, szl (by show 1 ≤ 100000; decide), fun p1 np1 => ?_⟩
      obtain ⟨H1, hH1, x0_1, h1⟩ := newH _ np1
      rw [hH1]
      clear hH1
      have f1 := np1
      have ho' := ho
      rw [okA_kids, Bool.and_eq_true] at ho'
      have hsp : PlaceAt H1 p0 d (.ref t) := ⟨t, [], d, rfl, by rw [List.append_nil]; exact rd_ex x0_1 ht, rfl⟩
      cases d with
      | list ds =>
        refine ⟨v, rfl, v, _, _, true, rfl, hd.ex x0_1, rfl, _, rfl, if_t rfl ?_⟩
        have hd2 := hd
        unfold Dt at hd2
        obtain ⟨a, xs, rfl, hax, hl⟩ := hd2
        have hlen := hl.len
        have h60 : ds.length < 60 := of_decide_eq_true ho'.1
        refine ⟨_, rfl, .inl ⟨_, xs.length, rfl, .inl ⟨xs, .inl (rd_ex x0_1 hax), rfl⟩, _, rfl, by omega, by omega, for_it walk_range (fun i σ' Hi => ∃ q ts o3, σ' = [some (.ref a), some (.ref t), some (.ref q), o3, none, none] ∧ Ex H1 Hi ∧ Hi q = some (.lst ts) ∧ ts.length = 1 + cntL (ds.take i) ∧ ∀ x ∈ ts, PlaceAt Hi p0 (.list ds) x) ?_ (fun _ _ _ _ _ => True.intro) ?_ ?_⟩⟩
        · exact ⟨p1, _, none, rfl, fun _ _ h => h, h1, rfl, fun x hx => by
            cases List.mem_singleton.mp hx
            exact hsp⟩
        · rintro i x σ' Ho Hi hi ⟨q, ts, o3, rfl, e, hq, htl, hts⟩ ⟨rfl, rfl⟩
          have hi' : i < xs.length := by
            have : i < ((xs.length : Nat) : Int).toNat := hi
            omega
          obtain ⟨u, hu1, _, hu3⟩ := at_some (xs := xs) (v := 0 + (i : Int)) (by omega) (by omega)
          have hti : (0 + (i : Int)).toNat = i := by omega
          rw [hti] at hu3
          obtain ⟨c, hc1, hcd⟩ := hl.get hu3
          have x0i : Ex H Hi := x0_1.trans e
          have hstep : stepD (.list ds) (V.int (0 + (i : Int))) = some c := by
            show (if (0 : Int) ≤ 0 + (i : Int) then ds[(0 + (i : Int)).toNat]? else none) = some c
            rw [if_pos (by omega), hti]
            exact hc1
          have hkid : c ∈ ds := List.mem_of_getElem? hc1
          have hcc : cnt c < cnt (.list ds) := cnt_kid (d := .list ds) hkid
          have htk : cntL (ds.take (i + 1)) = cntL (ds.take i) + cnt c := by
            rw [List.take_add_one, hc1, cntL_app]
            show _ + cntL [c] = _
            rw [cntL, cntL]
            omega
          have hsub : cntL (ds.take (i + 1)) ≤ cntL ds := by
            conv => rhs; rw [← List.take_append_drop (i + 1) ds]
            rw [cntL_app]
            omega
          have hcl : cnt (.list ds) = 1 + cntL ds := by rw [cnt]
          refine ⟨_, rfl, _, rfl, _, rfl, .inl ⟨a, xs, _, u, rfl, rfl, .inl (rd_ex x0i hax), hu1, _, rfl, _, rfl, szl (by show 1 ≤ 100000; decide), fun p2 np2 => ?_⟩⟩
          have x2 : Ex Hi (upd Hi p2 (.tup [V.int (0 + (i : Int))])) := Ex.new np2
          refine catA_of (rd_ex (x0i.trans x2) ht) (.inl upd_same) (by simp) (by show p0.length + 1 ≤ 100000; omega) fun z Hz xz hz => ?_
          have x0z := x0i.trans (x2.trans xz)
          refine ⟨u, c, z, _, rfl, hz, hcd.ex x0z, okL_mem ho'.2 hkid, by omega, by rw [List.length_append]; show p0.length + 1 + _ ≤ _; omega, fun q2 H4 ts2 x4 hq2 hl2 hp2 => ?_⟩
          have xi4 := x2.trans (xz.trans x4)
          refine ⟨q, q2, ts, ts2, rfl, rfl, xi4 _ _ hq, hq2, szl (by omega), fun p3 np3 => ?_⟩
          refine ⟨p3, ts ++ ts2, _, rfl, e.trans (xi4.trans (Ex.new np3)), upd_same, ?_, fun x hx => ?_⟩
          · rw [List.length_append, htl, hl2, htk]
            omega
          · rcases List.mem_append.mp hx with hx | hx
            · exact (hts x hx).ex (xi4.trans (Ex.new np3))
            · exact ((hp2 x hx).up hstep).ex (Ex.new np3)
        · rintro σ' Hi ⟨q, ts, o3, rfl, e, hq, htl, hts⟩
          refine ⟨_, rfl, .ref a, _, _, false, rfl, hd.ex (x0_1.trans e), rfl, _, rfl, if_f rfl ⟨_, rfl, k q Hi ts (x0_1.trans e) hq ?_ hts⟩⟩
          rw [htl, cnt]
          have e3 : ds.take ((xs.length : Nat) : Int).toNat = ds := List.take_of_length_le (by omega)
          have e4 : ds.take (Int.toNat (xs.length : Int)) = ds := e3
          rw [e4]
      | dict kvs =>
        refine ⟨v, rfl, v, _, _, false, rfl, hd.ex x0_1, rfl, _, rfl, if_f rfl ?_⟩
        refine ⟨v, rfl, v, _, _, true, rfl, hd.ex x0_1, rfl, _, rfl, if_t rfl ?_⟩
        obtain ⟨ha, hlen⟩ := allStr_of ho'.1
        obtain ⟨a, es, rfl, hae, nd, hk⟩ := dict_val hd ha
        have hnm := dtk_names hk ha
        have hks := names_kV hnm
        have hln : (names kvs).length = kvs.length := by
          unfold names
          rw [List.length_map]
        have hae1 := rd_ex x0_1 hae
        have na : p1 ≠ a := fun z => by
          obtain ⟨oo, q⟩ := rd_some hae
          rw [← z, f1] at q
          cases q
        refine lockA_eq hae1 True.intro ?_
        intro Hf o D' th hof hf rx hth hta _ kn
        have rx0 : RdX H Hf := (rdx_ex x0_1).trans rx
        have hkf := hk.rdx rx0
        have h1f : Hf p1 = some (.lst [.ref t]) := by
          rw [hof _ na]
          exact h1
        have htf : L2.Rd Hf t (.tup p0) := rx0 _ _ nf_tup ht
        refine ⟨_, rfl, a, o, _, (names kvs).map V.str, rfl, hf, .inl ⟨es, rfl, hks.symm⟩, fun D1 nD1 => lc_gr walk_ka (fun i acc _ => acc = ((names kvs).take i).map V.str) nD1 (by rw [List.length_map]; omega) rfl (fun H' e => e _ _ hf) ?_ ?_⟩
        · rintro i x acc Ho Hi hi e e' hD hl rfl ⟨rfl, hx1⟩
          obtain ⟨y, hy, rfl⟩ : ∃ y, (names kvs)[i]? = some y ∧ V.str y = x := by
            rw [List.getElem?_map] at hx1
            cases hp : (names kvs)[i]? with
            | none => rw [hp] at hx1; cases hx1
            | some p => rw [hp] at hx1; exact ⟨p, rfl, Option.some.inj hx1⟩
          refine ⟨rfl, _, rfl, y, rfl, lc_put e' hD hl (by rw [List.length_map] at hi; omega) (fun _ _ h => h) ?_⟩
          rw [List.take_add_one, List.map_append, hy]
          rfl
        · rintro acc H2 e e' hD hl rfl
          have e1 : (names kvs).take ((names kvs).map V.str).length = names kvs := List.take_of_length_le (by rw [List.length_map]; exact Nat.le_refl _)
          rw [e1] at hD
          refine ⟨D1, names kvs, rfl, SqLo hD, by omega, fun ys py pp sy np => ?_⟩
          have xf3 : Ex Hf (upd H2 py (.lst (ys.map V.str))) := e.trans (Ex.new np)
          have hyl : ys.length = kvs.length := by rw [pp.length_eq, hln]
          have hkp : (ys.map fun y => getN kvs y).Perm (kvs.map (·.2)) := by
            have q := kids_perm (d := .dict kvs) (cs := ys.map fun y => (V.str y, getN kvs y)) ⟨ys, pp, sy, rfl⟩ (fun kvs' e => by cases e; exact ⟨ha, nodup_names hk ha nd⟩)
            rw [List.map_map] at q
            exact q
          refine ⟨py, rfl, ⟨_, SqLo upd_same⟩, for_it (walk_list (K := K) (a := py) (xs := ys.map V.str)) (fun i σ' Hi => ∃ q ts o4, σ' = [some (.ref a), some (.ref t), some (.ref q), none, o4, none] ∧ Ex (upd H2 py (.lst (ys.map V.str))) Hi ∧ Hi q = some (.lst ts) ∧ ts.length = 1 + cntL ((ys.take i).map fun y => getN kvs y) ∧ ∀ x ∈ ts, PlaceAt Hi p0 (.dict kvs) x) ?_ ?_ ?_ ?_⟩
          · refine ⟨p1, _, none, rfl, fun _ _ h => h, xf3 _ _ h1f, rfl, fun x hx => ?_⟩
            cases List.mem_singleton.mp hx
            exact (hsp.rdx rx).ex xf3
          · rintro i σ' Hi _ ⟨q, ts, o4, _, x3, _⟩
            exact SqLo (x3 _ _ upd_same)
          · rintro i x σ' Ho Hi hi ⟨q, ts, o4, rfl, x3, hq, htl, hts⟩ ⟨rfl, hx1⟩
            obtain ⟨y, hy, rfl⟩ : ∃ y, ys[i]? = some y ∧ V.str y = x := by
              rw [List.getElem?_map] at hx1
              cases hp : ys[i]? with
              | none => rw [hp] at hx1; cases hx1
              | some p => rw [hp] at hx1; exact ⟨p, rfl, Option.some.inj hx1⟩
            have hym : y ∈ names kvs := pp.mem_iff.mp (List.mem_of_getElem? hy)
            obtain ⟨u, hu1, hu2⟩ := dtk_get hkf ha y hym
            have xfi : Ex Hf Hi := xf3.trans x3
            have hstep : stepD (.dict kvs) (V.str y) = some (getN kvs y) := by
              show (if y ∈ names kvs then some (getN kvs y) else none) = _
              rw [if_pos hym]
            have hkid := step_kid hstep
            have hcc : cnt (getN kvs y) < cnt (.dict kvs) := cnt_kid hkid
            have htk : cntL ((ys.take (i + 1)).map fun y => getN kvs y) = cntL ((ys.take i).map fun y => getN kvs y) + cnt (getN kvs y) := by
              rw [List.take_add_one, hy, List.map_append, cntL_app]
              show _ + cntL [getN kvs y] = _
              rw [cntL, cntL]
              omega
            have hsub : cntL ((ys.take (i + 1)).map fun y => getN kvs y) ≤ cntK kvs := by
              rw [cntK_eq, ← cntL_perm hkp]
              conv => rhs; rw [← List.take_append_drop (i + 1) ys]
              rw [List.map_append, cntL_app]
              omega
            have hcl : cnt (.dict kvs) = 1 + cntK kvs := by rw [cnt]
            refine ⟨_, rfl, _, rfl, _, rfl, .inr ⟨a, es, Sum.inr y, u, rfl, rfl, .inr ⟨o, xfi _ _ hf⟩, hu1, _, rfl, _, rfl, szl (by show 1 ≤ 100000; decide), fun p2 np2 => ?_⟩⟩
            have x2 : Ex Hi (upd Hi p2 (.tup [V.str y])) := Ex.new np2
            refine catA_of (rd_ex (xfi.trans x2) htf) (.inl upd_same) (by simp) (by show p0.length + 1 ≤ 100000; omega) fun z Hz xz hz => ?_
            refine ⟨u, _, z, _, rfl, hz, hu2.ex (xfi.trans (x2.trans xz)), okL_mem ho'.2 hkid, by omega, by rw [List.length_append]; show p0.length + 1 + _ ≤ _; omega, fun q2 H4 ts2 x4 hq2 hl2 hp2 => ?_⟩
            have xi4 := x2.trans (xz.trans x4)
            refine ⟨q, q2, ts, ts2, rfl, rfl, xi4 _ _ hq, hq2, szl (by omega), fun p3 np3 => ?_⟩
            refine ⟨p3, ts ++ ts2, _, rfl, x3.trans (xi4.trans (Ex.new np3)), upd_same, ?_, fun x hx => ?_⟩
            · rw [List.length_append, htl, hl2, htk]
              omega
            · rcases List.mem_append.mp hx with hx | hx
              · exact (hts x hx).ex (xi4.trans (Ex.new np3))
              · exact ((hp2 x hx).up hstep).ex (Ex.new np3)
          · rintro σ' Hi ⟨q, ts, o4, rfl, x3, hq, htl, hts⟩
            have xfi : Ex Hf Hi := xf3.trans x3
            have hai := xfi _ _ hf
            refine kn _ Hi hai ?_
            obtain ⟨t1, t2⟩ := hta Hi hai
            have hqa : q ≠ a := fun z => by
              rw [z, hai] at hq
              cases hq
            refine ⟨_, rfl, k q _ ts ?_ ?_ ?_ fun x hx => (hts x hx).rdx t2⟩
            · intro b oo hb
              by_cases eb : b = a
              · rw [eb, t1]
                rw [eb] at hb
                exact x0_1 _ _ hb
              · rw [hth _ _ eb]
                exact xfi _ _ (by rw [hof _ eb]; exact x0_1 _ _ hb)
            · rw [hth _ _ hqa]
              exact hq
            · rw [htl, cnt]
              have e3 : ys.take (ys.map V.str).length = ys := List.take_of_length_le (by rw [List.length_map]; exact Nat.le_refl _)
              rw [e3, cntL_perm hkp, cntK_eq]
      | _ =>
        refine ⟨v, rfl, v, _, _, false, rfl, hd.ex x0_1, rfl, _, rfl, if_f rfl ?_⟩
        refine ⟨v, rfl, v, _, _, false, rfl, hd.ex x0_1, rfl, _, rfl, if_f rfl ⟨_, rfl, k p1 _ _ x0_1 h1 rfl fun x hx => ?_⟩⟩
        cases List.mem_singleton.mp hx
        exact hsp
end
end VL

namespace VL
open PySem PySem.Spec L2 LW
open Evl (Ex)
/-! ### _law_twin -/
theorem tr_leaf {H : Hp} {d : PyData} {v : V} (h : Dt H d v) (ho : okA d = true) (h1 : ∀ ds, d ≠ .list ds) (h2 : ∀ kvs, d ≠ .dict kvs) (A : Hp) : Tr d A v := by
  cases d with
  | list ds => exact (h1 ds rfl).elim
  | dict kvs => exact (h2 kvs rfl).elim
  | int i =>
    unfold Dt at h
    unfold Tr
    exact h
  | str i =>
    unfold Dt at h
    unfold Tr
    exact h
  | _ => cases ho
theorem fr_out {H Hc : Hp} {D : Addr} : Ex (fr H (del Hc D)) (del (fr H Hc) D) := fun b o q => by
  obtain ⟨n, q⟩ := fr_some q
  have e : b ≠ D := fun z => by
    rw [z, del_same] at q
    cases q
  exact del_get (fr_get n (ex_del _ _ q)) e
theorem fr_apart {H H3 H4 : Hp} {D : Addr} : Apart (fr H (del H3 D)) (fr H3 H4) := fun b => by
  cases e : fr H (del H3 D) b with
  | none => exact .inl rfl
  | some o =>
    right
    have q := ex_del _ _ (fr_some e).2
    cases e2 : fr H3 H4 b with
    | none => rfl
    | some o2 =>
      rw [(fr_some e2).1] at q
      cases q
theorem fr_in {H H3 H4 : Hp} {D : Addr} {o : HO} (hD : H3 D = some o) (dm : ∀ b, H3 b = none → H b = none) : Ex (fr H3 H4) (fr H (del H4 D)) := fun b x q => by
  obtain ⟨n, q⟩ := fr_some q
  refine fr_get (dm b n) (del_get q fun z => ?_)
  rw [z, hD] at n
  cases n
theorem val_keys {es : List (Key × V)} {k : Key} (h : k ∉ es.map (·.1)) : valV es k = none := by
  unfold valV
  rw [List.find?_eq_none.mpr fun p hp q => h (List.mem_map.mpr ⟨p, hp, of_decide_eq_true q⟩)]
  rfl
theorem kvs_at {kvs : List (PyData × PyData)} (ha : AllStr kvs) (nd : (names kvs).Nodup) {i : Nat} {y : Str} (h : (names kvs)[i]? = some y) : kvs[i]? = some (.str y, getN kvs y) := by
  conv => lhs; rw [← getN_self ha nd]
  rw [List.getElem?_map, h]
  rfl
theorem nodup_take {ys : List Str} (nd : ys.Nodup) {i : Nat} {y : Str} (h : ys[i]? = some y) : y ∉ ys.take i := by
  intro hm
  obtain ⟨j, hj⟩ := List.mem_iff_getElem?.mp hm
  have hji : j < i := by
    by_cases q : j < i
    · exact q
    · rw [List.getElem?_eq_none (by rw [List.length_take]; omega)] at hj
      cases hj
  rw [List.getElem?_take_of_lt hji] at hj
  obtain ⟨h1, e1⟩ := List.getElem?_eq_some_iff.mp h
  obtain ⟨h2, e2⟩ := List.getElem?_eq_some_iff.mp hj
  exact (List.pairwise_iff_getElem.mp nd) j i h2 h1 hji (by rw [e1, e2])
section
variable {P : Program} {w : World} {K : PySem.W.Frag} {mg : Str → Option Value} {base : Heap}
def spTwin (n : Nat) : Sp := fun vs H Q _ => ∃ (v : V) (d : PyData), vs = [v] ∧ Dt H d v ∧ okA d = true ∧ cnt d ≤ n ∧ ∀ u H', Ex H H' → Tr d (fr H H') u → Q u H'
theorem sc__law_twin : FnScope ["_law_value_here", "_law_found", "_law_name", "_law_one"] ["_law_value_here"] (defScope s__law_twin) := ⟨rfl, rfl, rfl, by decide +kernel, rfl, by decide +kernel, by decide +kernel⟩
theorem bi__law_twin : BindsEq "_law_twin" s__law_twin ["_law_value_here"] := fun _ _ _ _ _ _ us hl => match us, hl with | [_], _ => rfl
theorem ok_twin (F : Df K mg "_law_twin" s__law_twin) (T : Txt K mg) : ∀ n, Cal P w K mg base CX0 (n + 1) "_law_twin" (spTwin n)
  | 0 => cal_no F sc__law_twin bi__law_twin fun vs H Q E h => by
    obtain ⟨v, d, _, _, _, hc, _⟩ := h
    have := cnt_pos d
    omega
  | n + 1 => by
    have C__law_twin := ok_twin F T n
    refine cal0 F sc__law_twin bi__law_twin (fun vs H Q E h => ?_) (fun f cdv A outer s H vs Q E hr h => ?_)
    · obtain ⟨v, d, rfl, _⟩ := h
      rfl
    · obtain ⟨v, d, rfl, hd, ho, hc, k⟩ := h
      have hu : (A.deeper (PyProof.Rows.envOfC "_law_twin" (defScope s__law_twin) s.heap.objs.size f cdv)).units + 1 < cLine := by have := hr.un; omega
      refine ⟨_, (pss_cons (ps_if (pt_val (pe_callB (isD K) rfl T.b_isinstance (by decide +kernel) (pa_cons (pv 0) (pa_cons (pe_bltn (v := .ty "list") rfl T.b_list (by decide +kernel) rfl) pa_nil)))) (pss_one (ps_ret (pe_lc (own := [("_law_one", 3)]) (by rfl) sc__law_twin.nd (pil K (pv 0)) (blkOk_by (own := [("_law_one", 3)]) (N := ["_law_value_here", "_law_found", "_law_name", "_law_one"]) (sc := defScope s__law_twin) (by decide +kernel)) (fun _ _ _ _ _ => (pg_name (i := 3) sc__law_twin.nd rfl (Or.inl rfl))) (fun _ _ _ _ _ => pts_nil) (fun _ _ _ _ _ => (pe_k C__law_twin hr (by omega) rfl (pa_cons (pv 3) pa_nil)))))) pss_nil)
 (pss_cons (ps_if (pt_val (pe_callB (isD K) rfl T.b_isinstance (by decide +kernel) (pa_cons (pv 0) (pa_cons (pe_bltn (v := .ty "dict") rfl T.b_dict (by decide +kernel) rfl) pa_nil)))) (pss_cons (ps_set (i := 1) sc__law_twin.nd rfl (Or.inl rfl) pe_dnewK)
 (pss_cons (ps_lockA (ps_for PassesOwn.never rfl (pi_ka (pv 0)) (pg_name (i := 2) sc__law_twin.nd rfl (Or.inl rfl)) (pss_one (ps_dput hu (pv 1) (pv 2) (pe_k C__law_twin hr (by omega) rfl (pa_cons (pe_ix (ixA K) (pv 0) (pv 2) (fun _ _ => rfl)) pa_nil)) rfl))))
 (pss_one (ps_ret (pv 1))))) pss_nil)
 (pss_one (ps_ret (pv 0))))), ?_⟩
      have ho' := ho
      rw [okA_kids, Bool.and_eq_true] at ho'
      cases d with
      | list ds =>
        refine ⟨v, rfl, v, _, _, true, rfl, hd, rfl, _, rfl, if_t rfl ?_⟩
        unfold Dt at hd
        obtain ⟨a, xs, rfl, hax, hl⟩ := hd
        have hlen := hl.len
        have h60 : ds.length < 60 := of_decide_eq_true ho'.1
        refine ⟨_, rfl, a, rfl, ⟨_, .inl hax⟩, fun D nD => lc_gr (walk_list (K := K) (a := a) (xs := xs)) (fun i acc Hc => TrL (ds.take i) (fr H Hc) acc) nD (by omega) (by unfold TrL; rfl) (fun H' e => .inl (rd_ex e hax)) ?_ ?_⟩
        · rintro i x acc Ho Hi hi e e' hD hl' hr' ⟨rfl, hx1⟩
          obtain ⟨c, hc1, hcd⟩ := hl.get hx1
          have hkid : c ∈ ds := List.mem_of_getElem? hc1
          have hcc : cnt c < cnt (.list ds) := cnt_kid (d := .list ds) hkid
          refine ⟨rfl, _, rfl, x, c, rfl, hcd.ex e, okL_mem ho'.2 hkid, by omega, fun u H4 e4 htr => lc_put e' hD hl' (by omega) e4 ?_⟩
          rw [List.take_add_one, hc1]
          exact TrL.snoc hr' htr fr_apart (fr_mono (del_grow' e4)) (fr_in hD (fun b hb => ex_free e hb))
        · rintro acc Hi e e' hD hl' hr'
          have e3 : ds.take xs.length = ds := List.take_of_length_le (by omega)
          rw [e3] at hr'
          refine k (.ref D) Hi e ?_
          unfold Tr
          exact ⟨D, acc, rfl, fr_get nD hD, hr'.ex fr_out⟩
      | dict kvs =>
        refine ⟨v, rfl, v, _, _, false, rfl, hd, rfl, _, rfl, if_f rfl ?_⟩
        refine ⟨v, rfl, v, _, _, true, rfl, hd, rfl, _, rfl, if_t rfl ?_⟩
        obtain ⟨ha, hlen⟩ := allStr_of ho'.1
        obtain ⟨a, es, rfl, hae, nd, hk⟩ := dict_val hd ha
        have hnm := dtk_names hk ha
        have hks := names_kV hnm
        have nds := nodup_names hk ha nd
        have hln : (names kvs).length = kvs.length := by
          unfold names
          rw [List.length_map]
        intro D nD
        have x01 : Ex H (upd H D (.dK [])) := Ex.new nD
        have na : D ≠ a := fun z => by
          obtain ⟨oo, q⟩ := rd_some hae
          rw [← z, nD] at q
          cases q
        refine lockA_eq (rd_ex x01 hae) True.intro ?_
        intro Hf o D' th hof hf rx hth hta _ kn
        have rx0 : RdX H Hf := (rdx_ex x01).trans rx
        have hDf : Hf D = some (.dK []) := by
          rw [hof _ na]
          exact upd_same
        have dmf : ∀ b x, H b = some x → ∃ y, Hf b = some y := fun b x q => by
          by_cases e : b = a
          · rw [e]
            exact ⟨_, hf⟩
          · rw [hof _ e]
            exact ⟨x, x01 _ _ q⟩
        refine ⟨_, rfl, a, o, _, (names kvs).map V.str, rfl, hf, .inl ⟨es, rfl, hks.symm⟩, for_it walk_ka (fun i σ' Hi => ∃ es' o2, σ' = [some (.ref a), some (.ref D), o2, none] ∧ (∀ b x, b ≠ D → Hf b = some x → Hi b = some x) ∧ Hi D = some (.dK es') ∧ TrK (kvs.take i) (fr H (del Hi D)) es' ∧ es'.map (·.1) = ((names kvs).take i).map fun y => (Sum.inr y : Key)) ?_ ?_ ?_ ?_⟩
        · exact ⟨[], none, rfl, fun _ _ _ h => h, hDf, by unfold TrK; rfl, rfl⟩
        · rintro i σ' Hi _ ⟨es', o2, _, h1, _⟩
          exact h1 _ _ (fun z => na z.symm) hf
        · rintro i x σ' Ho Hi hi ⟨es', o2, rfl, g1, gD, gt, gk⟩ ⟨rfl, hx1⟩
          obtain ⟨y, hy, rfl⟩ : ∃ y, (names kvs)[i]? = some y ∧ V.str y = x := by
            rw [List.getElem?_map] at hx1
            cases hp : (names kvs)[i]? with
            | none => rw [hp] at hx1; cases hx1
            | some p => rw [hp] at hx1; exact ⟨p, rfl, Option.some.inj hx1⟩
          have hym := List.mem_of_getElem? hy
          have hkat := kvs_at ha nds hy
          have hkid : getN kvs y ∈ kids (.dict kvs) := List.mem_map.mpr ⟨_, List.mem_of_getElem? hkat, rfl⟩
          have hcc : cnt (getN kvs y) < cnt (.dict kvs) := cnt_kid hkid
          obtain ⟨u, hu1, hu2⟩ := dtk_get hk ha y hym
          have hri : RdX H Hi := fun b x nx q => by
            have q1 := rx0 b x nx q
            have nb : b ≠ D := fun z => by
              obtain ⟨oo, q2⟩ := rd_some q
              rw [z, nD] at q2
              cases q2
            rcases q1 with q1 | ⟨o', q1⟩
            · exact .inl (g1 _ _ nb q1)
            · exact .inr ⟨o', g1 _ _ nb q1⟩
          have hai := g1 _ _ (fun z => na z.symm) hf
          have dmi : ∀ b, Hi b = none → H b = none := fun b hb => by
            cases q : H b with
            | none => rfl
            | some x =>
              obtain ⟨z, hz⟩ := dmf b x q
              have nb : b ≠ D := fun e => by
                rw [e, nD] at q
                cases q
              rw [g1 _ _ nb hz] at hb
              cases hb
          refine ⟨_, rfl, _, rfl, .inr ⟨a, es, Sum.inr y, u, rfl, rfl, .inr ⟨o, hai⟩, hu1, u, _, rfl, hu2.rdx hri, okL_mem ho'.2 hkid, by omega, fun w' H4 e4 htr => ?_⟩⟩
          have hl5 : es'.length ≤ 8 := by
            have := congrArg List.length gk
            rw [List.length_map, List.length_map, List.length_take] at this
            omega
          have hno : valV es' (Sum.inr y : Key) = none := val_keys (by
            rw [gk]
            intro hm
            obtain ⟨z, hz, hz2⟩ := List.mem_map.mp hm
            cases hz2
            exact nodup_take nds hy hz)
          refine ⟨_, rfl, _, rfl, D, _, rfl, DPut.k (k := Sum.inr y) (e4 _ _ gD) (szlt (by omega)), _, _, rfl, fun b x nb q => ?_, upd_same, ?_, ?_⟩
          · rw [upd_ne nb]
            exact e4 _ _ (g1 b x nb q)
          · rw [putK_new _ hno, del_upd, List.take_add_one, hkat]
            exact TrK.snoc gt htr rfl fr_apart (fr_mono (del_grow' e4)) (fr_in gD dmi)
          · rw [putK_new _ hno, List.map_append, gk, List.take_add_one, hy, List.map_append]
            rfl
        · rintro σ' Hi ⟨es', o2, rfl, g1, gD, gt, gk⟩
          have hai := g1 _ _ (fun z => na z.symm) hf
          obtain ⟨t1, t2⟩ := hta Hi hai
          refine kn _ Hi hai ⟨_, rfl, k (.ref D) _ ?_ ?_⟩
          · intro b x q
            by_cases eb : b = a
            · rw [eb, t1]
              rw [eb] at q
              exact x01 _ _ q
            · rw [hth _ _ eb]
              have nb : b ≠ D := fun e => by
                rw [e, nD] at q
                cases q
              exact g1 b x nb (by rw [hof _ eb]; exact x01 _ _ q)
          · have e3 : kvs.take ((names kvs).map V.str).length = kvs := List.take_of_length_le (by rw [List.length_map]; omega)
            have e4 : (names kvs).take ((names kvs).map V.str).length = names kvs := List.take_of_length_le (by rw [List.length_map]; omega)
            rw [e3] at gt
            rw [e4, ← hnm] at gk
            unfold Tr
            refine ⟨D, es', rfl, fr_get nD (by rw [hth _ _ na]; exact gD), by rw [gk]; exact nd, gt.ex fun b x q => ?_⟩
            obtain ⟨n1, q⟩ := fr_some q
            have nb : b ≠ D := fun e => by
              rw [e, del_same] at q
              cases q
            have nba : b ≠ a := fun e => by
              obtain ⟨oo, q2⟩ := rd_some hae
              rw [e, q2] at n1
              cases n1
            exact del_get (fr_get n1 (by rw [hth _ _ nba]; exact ex_del _ _ q)) nb
      | _ =>
        refine ⟨v, rfl, v, _, _, false, rfl, hd, rfl, _, rfl, if_f rfl ?_⟩
        refine ⟨v, rfl, v, _, _, false, rfl, hd, rfl, _, rfl, if_f rfl ⟨_, rfl, k _ H (fun _ _ h => h) (tr_leaf hd ho (fun _ z => nomatch z) (fun _ z => nomatch z) _)⟩⟩
end
end VL

namespace LW
open PySem PySem.Spec L2
theorem op_mulS {X : Cx} : OpR X (binaryOp .Mult) (fun x y H Q => ∃ z n, x = .str z ∧ y = .int n ∧ MulOk z n ∧ Q (.str (Txt.mul z n)) H) := by
  intro pins s σ H x y v u Q I rx ry h
  obtain ⟨z, n, rfl, rfl, ok, q⟩ := h
  obtain ⟨t, rfl⟩ := rx
  obtain ⟨t', rfl⟩ := ry
  exact SB.mul ok fun t'' k => ⟨.str _, H, I.tok _, ⟨_, rfl⟩, q⟩
end LW
namespace VL
open PySem PySem.Spec L2 LW
open Evl (Ex)
mutual
def limB : PyData → Bool
  | .none => true
  | .bool _ => true
  | .int i => decide (-big ≤ i) && decide (i ≤ big)
  | .str x => decide (x.length ≤ 21) && x.cps.toList.all fun c => decide (c < 128)
  | .list ds => limLB ds
  | .tuple ds => limLB ds
  | .dict kvs => limKB kvs
def limLB : List PyData → Bool
  | [] => true
  | d :: r => limB d && limLB r
def limKB : List (PyData × PyData) → Bool
  | [] => true
  | (k, d) :: r => limB k && (limB d && limKB r)
end
mutual
theorem limB_ok : ∀ d, limB d = true → lim d
  | .none, _ => by unfold lim; trivial
  | .bool _, _ => by unfold lim; trivial
  | .int i, h => by
    unfold limB at h
    rw [Bool.and_eq_true] at h
    unfold lim
    exact ⟨of_decide_eq_true h.1, of_decide_eq_true h.2⟩
  | .str x, h => by
    unfold limB at h
    rw [Bool.and_eq_true] at h
    unfold lim
    exact ⟨of_decide_eq_true h.1, fun c hc => of_decide_eq_true (List.all_eq_true.mp h.2 c hc)⟩
  | .list ds, h => by
    unfold limB at h
    unfold lim
    exact limLB_ok ds h
  | .tuple ds, h => by
    unfold limB at h
    unfold lim
    exact limLB_ok ds h
  | .dict ds, h => by
    unfold limB at h
    unfold lim
    exact limKB_ok ds h
theorem limLB_ok : ∀ ds, limLB ds = true → limL ds
  | [], _ => by unfold limL; trivial
  | d :: r, h => by
    unfold limLB at h
    rw [Bool.and_eq_true] at h
    unfold limL
    exact ⟨limB_ok d h.1, limLB_ok r h.2⟩
theorem limKB_ok : ∀ ds, limKB ds = true → limK ds
  | [], _ => by unfold limK; trivial
  | (k, d) :: r, h => by
    unfold limKB at h
    rw [Bool.and_eq_true, Bool.and_eq_true] at h
    unfold limK
    exact ⟨limB_ok k h.1, limB_ok d h.2.1, limKB_ok r h.2.2⟩
end
section
variable {P : Program} {w : World} {K : PySem.W.Frag} {mg : Str → Option Value} {base : Heap}
/-! ### _law_part -/
def spPartL : Sp := fun vs H Q _ => ∃ (v : V) (t : Addr) (p : List V) (u : V), vs = [v, .ref t] ∧ L2.Rd H t (.tup p) ∧ Wk H v p u ∧ Q u H
theorem sc__law_part : FnScope ["_law_value_here", "_law_spot", "_law_step"] ["_law_value_here", "_law_spot"] (defScope s__law_part) := ⟨rfl, rfl, rfl, by decide +kernel, rfl, by decide +kernel, by decide +kernel⟩
theorem bi__law_part : BindsEq "_law_part" s__law_part ["_law_value_here", "_law_spot"] := fun _ _ _ _ _ _ us hl => match us, hl with | [_, _], _ => rfl
theorem ok_partL (F : Df K mg "_law_part" s__law_part) (T : Txt K mg) : Cal P w K mg base CX0 1 "_law_part" spPartL := by
  refine cal0 F sc__law_part bi__law_part (fun vs H Q E h => ?_) (fun f cdv A outer s H vs Q E hr h => ?_)
  · obtain ⟨v, t, p, u, rfl, _⟩ := h
    rfl
  · obtain ⟨v, t, p, u, rfl, ht, hw, k⟩ := h
    refine ⟨_, (pss_cons (ps_for PassesOwn.never rfl (pit K (pv 1)) (pg_name (i := 2) sc__law_part.nd rfl (Or.inl rfl)) (pss_one (ps_set (i := 0) sc__law_part.nd rfl (Or.inl rfl) (pe_ix (ixA K) (pv 0) (pv 2) (fun _ _ => rfl)))))
 (pss_one (ps_ret (pv 0)))), ?_⟩
    refine ⟨_, rfl, t, rfl, ⟨_, .inl ht⟩, for_it (walk_tup (K := K) (a := t) (xs := p)) (fun i σ' Hi => Hi = H ∧ ∃ x o2, σ' = [some x, some (.ref t), o2] ∧ Wk H x (p.drop i) u) ?_ ?_ ?_ ?_⟩
    · exact ⟨rfl, v, none, rfl, hw⟩
    · rintro i σ' Hi _ ⟨rfl, _⟩
      exact .inl ht
    · rintro i y σ' Ho Hi hi ⟨rfl, x, o2, rfl, hx⟩ ⟨rfl, hy⟩
      have hdr : p.drop i = y :: p.drop (i + 1) := by
        obtain ⟨h1, h2⟩ := List.getElem?_eq_some_iff.mp hy
        rw [List.drop_eq_getElem_cons h1, h2]
      rw [hdr] at hx
      obtain ⟨z, ⟨a, rfl, hs⟩, hz⟩ := hx
      refine ⟨_, rfl, _, rfl, ?_⟩
      rcases hs with ⟨vs, j, h1, rfl, h3⟩ | ⟨es, j, h1, rfl, h3⟩
      · exact .inl ⟨a, vs, _, z, rfl, rfl, .inl h1, h3, rfl, z, _, rfl, hz⟩
      · exact .inr ⟨a, es, j, z, rfl, rfl, h1, h3, rfl, z, _, rfl, hz⟩
    · rintro σ' Hi ⟨rfl, x, o2, rfl, hx⟩
      rw [List.drop_length] at hx
      have hx : u = x := hx
      subst hx
      exact ⟨_, rfl, k⟩
/-! ### _law_odd -/
def OddV (H : Hp) (z : V) : Prop := ∃ d, Dt H d z ∧ okA d = false ∧ lim d ∧ nod d ≤ 4
def spOdd : Sp := fun vs H Q _ => ∃ (pl : Addr), vs = [.ref pl] ∧ Pool H pl ∧ ∀ z H', Ex H H' → OddV H' z → Q z H'
theorem odd_s {H : Hp} {d : PyData} {z : V} (h : Dt H d z) (h1 : okA d = false) (h2 : limB d = true) (h3 : nod d ≤ 4) : OddV H z := ⟨d, h, h1, limB_ok d h2, h3⟩
theorem dt_int {H : Hp} (i : Int) : Dt H (.int i) (.int i) := by unfold Dt; rfl
theorem dt_str {H : Hp} (i : Str) : Dt H (.str i) (.str i) := by unfold Dt; rfl
theorem dt_bl {H : Hp} (i : Bool) : Dt H (.bool i) (.bl i) := by unfold Dt; rfl
theorem dt_non {H : Hp} : Dt H .none .non := by unfold Dt; rfl
theorem dt_tup {H : Hp} {a : Addr} {ds : List PyData} {vs : List V} (h : H a = some (.tup vs)) (t : DtL H ds vs) : Dt H (.tuple ds) (.ref a) := by
  unfold Dt
  exact ⟨a, vs, rfl, .inl h, t⟩
theorem dt_lst {H : Hp} {a : Addr} {ds : List PyData} {vs : List V} (h : H a = some (.lst vs)) (t : DtL H ds vs) : Dt H (.list ds) (.ref a) := by
  unfold Dt
  exact ⟨a, vs, rfl, .inl h, t⟩
theorem dt_dk {H : Hp} {a : Addr} {ds : List (PyData × PyData)} {es : List (Key × V)} (h : H a = some (.dK es)) (nd : (es.map (·.1)).Nodup) (t : DtK H ds es) : Dt H (.dict ds) (.ref a) := by
  unfold Dt
  exact ⟨a, rfl, .inl ⟨es, .inl h, nd, t⟩⟩
theorem dt_dk1 {H : Hp} {a : Addr} {d : PyData} {k : Key} {v : V} (h : H a = some (.dK [(k, v)])) (t : Dt H d v) : Dt H (.dict [(kD k, d)]) (.ref a) := dt_dk h (by simp) (DtK.cons rfl t (by unfold DtK; rfl))
theorem dt_odd {H : Hp} {a : Addr} {kd d : PyData} {k v : V} (h : H a = some (odd1 a k v)) (hk : ∀ z, kd ≠ .str z) (h1 : Dt H kd k) (t : Dt H d v) : Dt H (.dict [(kd, d)]) (.ref a) := by
  unfold Dt
  exact ⟨a, rfl, .inr ⟨k, v, .inl h, by unfold DtO; exact ⟨rfl, hk, h1, t⟩⟩⟩
theorem lst_of {t : TA} {σ : L2.St} {H : Hp} {Q : VK} (h : t σ H fun xs H1 => xs.length ≤ sizeLine ∧ ∀ p, H1 p = none → Q (.ref p) (upd H1 p (.lst xs))) : tLst t σ H Q := h
theorem cons_of {te : TE} {t : TA} {σ : L2.St} {H : Hp} {Q : List V → Hp → Prop} (h : te σ H fun x H1 => t σ H1 fun xs H2 => Q (x :: xs) H2) : tCons te t σ H Q := h
theorem consC {x : V} {t : TA} {σ : L2.St} {H : Hp} {Q : List V → Hp → Prop} (h : t σ H fun xs H2 => Q (x :: xs) H2) : tCons (tC x) t σ H Q := h
theorem disp1 {k : Key} {kv v : V} {σ : L2.St} {H : Hp} {Q : VK} (hk : kv = kV k) (h : ∀ p H', H p = none → Ex H H' → H' p = some (.dK [(k, v)]) → Q (.ref p) H') : tDisp [(tC kv, tC v)] σ H Q := by
  intro p np
  refine ⟨upd_same, [(k, v)], ?_, by show 1 ≤ 15; decide, ?_⟩
  · rw [hk]
    rfl
  · rw [upd_upd]
    exact h p _ np (Ex.new np) upd_same
theorem oddN {v : V} {σ : L2.St} {H : Hp} {Q : VK} (h : ∀ p H', H p = none → Ex H H' → H' p = some (odd1 p .non v) → Q (.ref p) H') : tOdd (tC .non) (tC v) σ H Q := by
  intro p np
  refine ⟨.non, v, rfl, upd_same, .inl rfl, ?_⟩
  rw [upd_upd]
  exact h p _ np (Ex.new np) upd_same
theorem oddT {a : Str} {v : V} {σ : L2.St} {H : Hp} {Q : VK} (h : ∀ p t H', H p = none → Ex H H' → H' t = some (.tup [.str a]) → H' p = some (odd1 p (.ref t) v) → Q (.ref p) H') : tOdd (tTup (tCons (tC (.str a)) tNil)) (tC v) σ H Q := by
  intro p np
  refine ⟨szl (by show 1 ≤ 100000; decide), fun t nt => ?_⟩
  have ne : t ≠ p := fun z => by
    rw [z, upd_same] at nt
    cases nt
  refine ⟨.ref t, v, rfl, by rw [upd_ne (fun z => ne z.symm)]; exact upd_same, .inr ⟨t, [Sum.inr a], rfl, upd_same⟩, ?_⟩
  refine h p t _ np ?_ ?_ upd_same
  · exact Ex.mut ((Ex.new np).trans (Ex.new nt)) np
  · rw [upd_ne ne]
    exact upd_same
end
end VL

namespace VL
open PySem PySem.Spec L2 LW
open Evl (Ex)
/-! ### steps as data -/
def stV : V → PyData
  | .int i => .int i
  | .str y => .str y
  | _ => .none
def StOk (s : V) : Prop := (∃ i, s = .int i) ∨ ∃ y, s = .str y ∧ fld (.str y) = true
theorem step_st {d c : PyData} {s : V} (h : stepD d s = some c) (ho : okA d = true) : StOk s := by
  rcases step_cases h with ⟨ds, i, rfl, rfl, h0, e⟩ | ⟨kvs, y, rfl, rfl, hy, rfl⟩
  · exact .inl ⟨i, rfl⟩
  · refine .inr ⟨y, rfl, ?_⟩
    rw [okA_kids, Bool.and_eq_true] at ho
    have h1 : (decide (kvs.length ≤ 8) && kvs.all fun p => fld p.1) = true := ho.1
    rw [Bool.and_eq_true] at h1
    obtain ⟨ha, _⟩ := allStr_of ho.1
    obtain ⟨k, hk, he⟩ := getN_mem hy
    have q := List.all_eq_true.mp h1.2 _ hk
    have e := ha _ hk
    have e' : k = .str (nm k) := e
    rw [← he, ← e']
    exact q
theorem at_st : ∀ {p : List V} {d c : PyData}, At d p c → okA d = true → ∀ s ∈ p, StOk s
  | [], _, _, _, _ => nofun
  | s :: p, d, c, h, ho => by
    obtain ⟨e, h1, h2⟩ := h
    intro x hx
    rcases List.mem_cons.mp hx with rfl | hx
    · exact step_st h1 ho
    · exact at_st h2 (step_ok h1 ho) x hx
theorem fld_cps {y : Str} (h : fld (.str y) = true) : y.cps.all (· < 0x110000) = true := by
  have h : (decide (1 ≤ y.length) && decide (y.length ≤ 8) && low y) = true := h
  rw [Bool.and_eq_true] at h
  rw [Array.all_eq_true_iff_forall_mem]
  intro c hc
  have q := List.all_eq_true.mp h.2 c (Array.mem_toList_iff.mpr hc)
  rw [Bool.and_eq_true] at q
  have := of_decide_eq_true q.2
  exact decide_eq_true (by omega)
theorem st_dp {K : PySem.W.Frag} {H : Hp} {s : V} (h : StOk s) : Dp K H s (stV s) ∧ PyData.canLay0 (stV s) = true ∧ (stV s).depth = 0 := by
  rcases h with ⟨i, rfl⟩ | ⟨y, rfl, hy⟩
  · exact ⟨.int i, rfl, rfl⟩
  · refine ⟨.str y, ?_, rfl⟩
    show PyData.canLay0 (.str y) = true
    rw [PyData.canLay0]
    exact fld_cps hy
theorem st_all {K : PySem.W.Frag} {H : Hp} : ∀ {p : List V}, (∀ s ∈ p, StOk s) → DpAll K H p (p.map stV) ∧ PyData.canLayAll0 (p.map stV) = true ∧ PyData.depthAll (p.map stV) = 0
  | [], _ => ⟨.nil, rfl, rfl⟩
  | s :: p, h => by
    obtain ⟨h1, h2, h3⟩ := st_dp (K := K) (H := H) (h s List.mem_cons_self)
    obtain ⟨g1, g2, g3⟩ := st_all (K := K) (H := H) (p := p) fun x hx => h x (List.mem_cons_of_mem _ hx)
    refine ⟨.cons h1 g1, ?_, ?_⟩
    · rw [List.map_cons, PyData.canLayAll0, h2, g2]
      rfl
    · rw [List.map_cons, PyData.depthAll, h3, g3]
      rfl
theorem st_shaped {p : List V} (h : ∀ s ∈ p, StOk s) : SeqAt.shaped (.tuple (p.map stV)) = true := by
  obtain ⟨_, h2, h3⟩ := st_all (K := []) (H := fun _ => none) h
  unfold SeqAt.shaped
  rw [PyData.canLay0, PyData.depth, h2, h3]
  rfl
theorem eqv_nil (p : List V) : PyData.eqv (.tuple (p.map stV)) (.tuple []) = p.isEmpty := by
  cases p with
  | nil => rw [List.map_nil, PyData.eqv, PyData.eqvAll]; rfl
  | cons a b => rw [List.map_cons, PyData.eqv, PyData.eqvAll]; rfl
theorem six_last (p : List V) (s : V) : HT.sIx (p ++ [s]).length (p ++ [s]).length (some (-1)) = p.length := by
  show (if (-1 : Int) < 0 then (-1 + ((p ++ [s]).length : Int)).toNat else min (-1 : Int).toNat (p ++ [s]).length) = p.length
  rw [if_pos (by decide), List.length_append]
  show (-1 + ((p.length + 1 : Nat) : Int)).toNat = _
  omega
theorem cut_last (p : List V) (s : V) : cutV (p ++ [s]) none (some (-1)) = p := by
  unfold cutV
  rw [six_last]
  show ((p ++ [s]).drop 0).take (p.length - 0) = p
  rw [List.drop_zero, Nat.sub_zero, List.take_left']
  rfl
end VL

namespace LW
open PySem
theorem Paired.mapr {α β γ : Type} {R : α → γ → Prop} {f : β → γ} : ∀ {l : List α} {m : List β}, Paired (fun a b => R a (f b)) l m → Paired R l (m.map f)
  | _, _, .nil => .nil
  | _, _, .cons h t => .cons h (Paired.mapr t)
end LW
namespace VL
open PySem PySem.Spec L2 LW
open Evl (Ex)
def PlTup (H : Hp) (p0 : List V) (x : V) (p : List V) : Prop := ∃ b, x = .ref b ∧ L2.Rd H b (.tup (p0 ++ p))
theorem PlTup.rdx {H H' : Hp} (e : RdX H H') {p0 p : List V} {x : V} (h : PlTup H p0 x p) : PlTup H' p0 x p := by
  obtain ⟨b, rfl, h1⟩ := h
  exact ⟨b, rfl, e _ _ nf_tup h1⟩
theorem PlTup.ex {H H' : Hp} (e : Ex H H') {p0 p : List V} {x : V} (h : PlTup H p0 x p) : PlTup H' p0 x p := h.rdx (rdx_ex e)
theorem pl_ex {H H' : Hp} (e : Ex H H') {p0 : List V} {xs : List V} {ps : List (List V)} (h : Paired (PlTup H p0) xs ps) : Paired (PlTup H' p0) xs ps := Paired.imp (fun _ _ q => q.ex e) h
theorem pl_up {H : Hp} {p0 : List V} {c : V × PyData} {xs : List V} (h : Paired (PlTup H (p0 ++ [c.1])) xs (paths c.2)) : Paired (PlTup H p0) xs (pathsC c) :=
  Paired.mapr (Paired.imp (fun _ _ q => by
    obtain ⟨b, rfl, h1⟩ := q
    rw [List.append_assoc] at h1
    exact ⟨b, rfl, h1⟩) h)
theorem pl_step {H : Hp} {p0 : List V} {xs ys : List V} {ps : List (V × PyData)} {c : V × PyData} (h : Paired (PlTup H p0) xs ([] :: ps.flatMap pathsC)) (g : Paired (PlTup H p0) ys (pathsC c)) : Paired (PlTup H p0) (xs ++ ys) ([] :: (ps ++ [c]).flatMap pathsC) := by
  rw [List.flatMap_append, ← List.cons_append]
  refine Paired.app h ?_
  show Paired _ _ (pathsC c ++ [])
  rw [List.append_nil]
  exact g
section
variable {P : Program} {w : World} {K : PySem.W.Frag} {mg : Str → Option Value} {base : Heap}
/-! ### _law_below, the places in their order -/
def spBelowP (n : Nat) : Sp := fun vs H Q _ => ∃ (v : V) (d : PyData) (t : Addr) (p0 : List V), vs = [v, .ref t] ∧ L2.Rd H t (.tup p0) ∧ Dt H d v ∧ okA d = true ∧ cnt d ≤ n ∧ p0.length + cnt d ≤ 200 ∧
  ∀ q H' ts, Ex H H' → H q = none → H' q = some (.lst ts) → ts.length = cnt d → Paired (PlTup H' p0) ts (paths d) → Q (.ref q) H'
theorem ok_belowP (F : Df K mg "_law_below" s__law_below) (T : Txt K mg) : ∀ n, Cal P w K mg base CX0 (n + 1) "_law_below" (spBelowP n)
  | 0 => cal_no F sc__law_below bi__law_below fun vs H Q E h => by
    obtain ⟨v, d, t, p0, _, _, _, _, hc, _⟩ := h
    have := cnt_pos d
    omega
  | n + 1 => by
    have C__law_below := ok_belowP F T n
    refine cal0 F sc__law_below bi__law_below (fun vs H Q E h => ?_) (fun f cdv A outer s H vs Q E hr h => ?_)
    · obtain ⟨v, d, t, p0, rfl, _⟩ := h
      rfl
    · obtain ⟨v, d, t, p0, rfl, ht, hd, ho, hc, hpl, k⟩ := h
      refine ⟨_, (pss_cons (ps_set (i := 2) sc__law_below.nd rfl (Or.inl rfl) (pe_lst (pa_cons (pv 1) pa_nil)))
 (pss_cons (ps_if (pt_val (pe_callB (isD K) rfl T.b_isinstance (by decide +kernel) (pa_cons (pv 0) (pa_cons (pe_bltn (v := .ty "list") rfl T.b_list (by decide +kernel) rfl) pa_nil)))) (pss_one (ps_for PassesOwn.never rfl (pi_range1 rfl T.b_range (pa_cons (pe_callB (lnA K) rfl T.b_len (by decide +kernel) (pa_cons (pv 0) pa_nil)) pa_nil)) (pg_name (i := 3) sc__law_below.nd rfl (Or.inl rfl)) (pss_one (ps_set (i := 2) sc__law_below.nd rfl (Or.inl rfl) (pe_op op_cat (pv 2) (pe_k C__law_below hr (by omega) rfl (pa_cons (pe_ix (ixA K) (pv 0) (pv 3) (fun _ _ => rfl)) (pa_cons (pe_op op_catA (pv 1) (pe_tup (pa_cons (pv 3) pa_nil))) pa_nil)))))))) pss_nil)
 (pss_cons (ps_if (pt_val (pe_callB (isD K) rfl T.b_isinstance (by decide +kernel) (pa_cons (pv 0) (pa_cons (pe_bltn (v := .ty "dict") rfl T.b_dict (by decide +kernel) rfl) pa_nil)))) (pss_one (ps_lockA (ps_for PassesOwn.never rfl (pil K (pe_callB (srK K) rfl T.b_sorted (by decide +kernel) (pa_cons (pe_lc (own := [("_law_one", 5)]) (by rfl) sc__law_below.nd (pi_ka (pv 0)) (blkOk_by (own := [("_law_one", 5)]) (N := ["_law_value_here", "_law_spot", "_law_found", "_law_k", "_law_name", "_law_one"]) (sc := defScope s__law_below) (by decide +kernel)) (fun _ _ _ _ _ => (pg_name (i := 5) sc__law_below.nd rfl (Or.inl rfl))) (fun _ _ _ _ _ => pts_nil) (fun _ _ _ _ _ => (pe_callTy strS rfl T.b_str (by decide +kernel) (pa_cons (pv 5) pa_nil)))) pa_nil))) (pg_name (i := 4) sc__law_below.nd rfl (Or.inl rfl)) (pss_one (ps_set (i := 2) sc__law_below.nd rfl (Or.inl rfl) (pe_op op_cat (pv 2) (pe_k C__law_below hr (by omega) rfl (pa_cons (pe_ix (ixA K) (pv 0) (pv 4) (fun _ _ => rfl)) (pa_cons (pe_op op_catA (pv 1) (pe_tup (pa_cons (pv 4) pa_nil))) pa_nil))))))))) pss_nil)
 (pss_one (ps_ret (pv 2)))))), ?_⟩
      refine ⟨_, rfl, szl (by show 1 ≤ 100000; decide), fun p1 np1 => ?_⟩
      obtain ⟨H1, hH1, x0_1, h1⟩ := newH _ np1
      rw [hH1]
      clear hH1
      have f1 := np1
      have ho' := ho
      rw [okA_kids, Bool.and_eq_true] at ho'
      have hsp : Paired (PlTup H1 p0) [V.ref t] [[]] := .cons ⟨t, rfl, by rw [List.append_nil]; exact rd_ex x0_1 ht⟩ .nil
      cases d with
      | list ds =>
        refine ⟨v, rfl, v, _, _, true, rfl, hd.ex x0_1, rfl, _, rfl, if_t rfl ?_⟩
        have hd2 := hd
        unfold Dt at hd2
        obtain ⟨a, xs, rfl, hax, hl⟩ := hd2
        have hlen := hl.len
        have h60 : ds.length < 60 := of_decide_eq_true ho'.1
        have hkl : (kidsOf (.list ds)).length = ds.length := by
          show ((List.range ds.length).zipWith (fun (i : Nat) c => (V.int i, c)) ds).length = _
          rw [List.length_zipWith, List.length_range]
          omega
        refine ⟨_, rfl, .inl ⟨_, xs.length, rfl, .inl ⟨xs, .inl (rd_ex x0_1 hax), rfl⟩, _, rfl, by omega, by omega, for_it walk_range (fun i σ' Hi => ∃ q ts o3, σ' = [some (.ref a), some (.ref t), some (.ref q), o3, none, none] ∧ Ex H1 Hi ∧ H q = none ∧ Hi q = some (.lst ts) ∧ ts.length = 1 + cntL (ds.take i) ∧ Paired (PlTup Hi p0) ts ([] :: ((kidsOf (.list ds)).take i).flatMap pathsC)) ?_ (fun _ _ _ _ _ => True.intro) ?_ ?_⟩⟩
        · exact ⟨p1, _, none, rfl, fun _ _ h => h, f1, h1, rfl, hsp⟩
        · rintro i x σ' Ho Hi hi ⟨q, ts, o3, rfl, e, nq, hq, htl, hts⟩ ⟨rfl, rfl⟩
          have hi' : i < xs.length := by
            have : i < ((xs.length : Nat) : Int).toNat := hi
            omega
          obtain ⟨u, hu1, _, hu3⟩ := at_some (xs := xs) (v := 0 + (i : Int)) (by omega) (by omega)
          have hti : (0 + (i : Int)).toNat = i := by omega
          rw [hti] at hu3
          obtain ⟨c, hc1, hcd⟩ := hl.get hu3
          have x0i : Ex H Hi := x0_1.trans e
          have hkat : (kidsOf (.list ds))[i]? = some (V.int (0 + (i : Int)), c) := by
            show ((List.range ds.length).zipWith (fun (i : Nat) c => (V.int i, c)) ds)[i]? = _
            rw [List.getElem?_zipWith, List.getElem?_range (by omega), hc1]
            show some (V.int ((i : Nat) : Int), c) = _
            rw [show (0 + (i : Int)) = (i : Int) by omega]
          have hkid : c ∈ ds := List.mem_of_getElem? hc1
          have hcc : cnt c < cnt (.list ds) := cnt_kid (d := .list ds) hkid
          have htk : cntL (ds.take (i + 1)) = cntL (ds.take i) + cnt c := by
            rw [List.take_add_one, hc1, cntL_app]
            show _ + cntL [c] = _
            rw [cntL, cntL]
            omega
          have hsub : cntL (ds.take (i + 1)) ≤ cntL ds := by
            conv => rhs; rw [← List.take_append_drop (i + 1) ds]
            rw [cntL_app]
            omega
          have hcl : cnt (.list ds) = 1 + cntL ds := by rw [cnt]
          refine ⟨_, rfl, _, rfl, _, rfl, .inl ⟨a, xs, _, u, rfl, rfl, .inl (rd_ex x0i hax), hu1, _, rfl, _, rfl, szl (by show 1 ≤ 100000; decide), fun p2 np2 => ?_⟩⟩
          have x2 : Ex Hi (upd Hi p2 (.tup [V.int (0 + (i : Int))])) := Ex.new np2
          refine catA_of (rd_ex (x0i.trans x2) ht) (.inl upd_same) (by simp) (by show p0.length + 1 ≤ 100000; omega) fun z Hz xz hz => ?_
          have x0z := x0i.trans (x2.trans xz)
          refine ⟨u, c, z, _, rfl, hz, hcd.ex x0z, okL_mem ho'.2 hkid, by omega, by rw [List.length_append]; show p0.length + 1 + _ ≤ _; omega, fun q2 H4 ts2 x4 _ hq2 hl2 hp2 => ?_⟩
          have xi4 := x2.trans (xz.trans x4)
          refine ⟨q, q2, ts, ts2, rfl, rfl, xi4 _ _ hq, hq2, szl (by omega), fun p3 np3 => ?_⟩
          refine ⟨p3, ts ++ ts2, _, rfl, e.trans (xi4.trans (Ex.new np3)), ex_free (x0i.trans xi4) np3, upd_same, ?_, ?_⟩
          · rw [List.length_append, htl, hl2, htk]
            omega
          · rw [List.take_add_one, hkat]
            exact pl_step (pl_ex (xi4.trans (Ex.new np3)) hts) (pl_ex (Ex.new np3) (pl_up (c := (V.int (0 + (i : Int)), c)) hp2))
        · rintro σ' Hi ⟨q, ts, o3, rfl, e, nq, hq, htl, hts⟩
          have e4 : ds.take (Int.toNat (xs.length : Int)) = ds := List.take_of_length_le (by omega)
          have e5 : (kidsOf (.list ds)).take (Int.toNat (xs.length : Int)) = kidsOf (.list ds) := List.take_of_length_le (by rw [hkl]; omega)
          refine ⟨_, rfl, .ref a, _, _, false, rfl, hd.ex (x0_1.trans e), rfl, _, rfl, if_f rfl ⟨_, rfl, k q Hi ts (x0_1.trans e) nq hq ?_ ?_⟩⟩
          · rw [htl, cnt, e4]
          · rw [paths_eq]
            rw [e5] at hts
            exact hts
      | dict kvs =>
        refine ⟨v, rfl, v, _, _, false, rfl, hd.ex x0_1, rfl, _, rfl, if_f rfl ?_⟩
        refine ⟨v, rfl, v, _, _, true, rfl, hd.ex x0_1, rfl, _, rfl, if_t rfl ?_⟩
        obtain ⟨ha, hlen⟩ := allStr_of ho'.1
        obtain ⟨a, es, rfl, hae, nd, hk⟩ := dict_val hd ha
        have hnm := dtk_names hk ha
        have hks := names_kV hnm
        have hln : (names kvs).length = kvs.length := by
          unfold names
          rw [List.length_map]
        have hae1 := rd_ex x0_1 hae
        have na : p1 ≠ a := fun z => by
          obtain ⟨oo, q⟩ := rd_some hae
          rw [← z, f1] at q
          cases q
        refine lockA_eq hae1 True.intro ?_
        intro Hf o D' th hof hf rx hth hta _ kn
        have rx0 : RdX H Hf := (rdx_ex x0_1).trans rx
        have hkf := hk.rdx rx0
        have h1f : Hf p1 = some (.lst [.ref t]) := by
          rw [hof _ na]
          exact h1
        have htf : L2.Rd Hf t (.tup p0) := rx0 _ _ nf_tup ht
        have hdom : ∀ b, Hf b = none → H b = none := fun b hb => by
          by_cases eb : b = a
          · rw [eb, hf] at hb
            cases hb
          · rw [hof _ eb] at hb
            exact ex_free x0_1 hb
        refine ⟨_, rfl, a, o, _, (names kvs).map V.str, rfl, hf, .inl ⟨es, rfl, hks.symm⟩, fun D1 nD1 => lc_gr walk_ka (fun i acc _ => acc = ((names kvs).take i).map V.str) nD1 (by rw [List.length_map]; omega) rfl (fun H' e => e _ _ hf) ?_ ?_⟩
        · rintro i x acc Ho Hi hi e e' hD hl rfl ⟨rfl, hx1⟩
          obtain ⟨y, hy, rfl⟩ : ∃ y, (names kvs)[i]? = some y ∧ V.str y = x := by
            rw [List.getElem?_map] at hx1
            cases hp : (names kvs)[i]? with
            | none => rw [hp] at hx1; cases hx1
            | some p => rw [hp] at hx1; exact ⟨p, rfl, Option.some.inj hx1⟩
          refine ⟨rfl, _, rfl, y, rfl, lc_put e' hD hl (by rw [List.length_map] at hi; omega) (fun _ _ h => h) ?_⟩
          rw [List.take_add_one, List.map_append, hy]
          rfl
        · rintro acc H2 e e' hD hl rfl
          have e1 : (names kvs).take ((names kvs).map V.str).length = names kvs := List.take_of_length_le (by rw [List.length_map]; exact Nat.le_refl _)
          rw [e1] at hD
          refine ⟨D1, names kvs, rfl, SqLo hD, by omega, fun ys py pp sy np => ?_⟩
          have xf3 : Ex Hf (upd H2 py (.lst (ys.map V.str))) := e.trans (Ex.new np)
          have hyl : ys.length = kvs.length := by rw [pp.length_eq, hln]
          have hko : kidsOf (.dict kvs) = ys.map fun y => (V.str y, getN kvs y) := (kids_eq (d := .dict kvs) ⟨ys, pp, sy, rfl⟩).symm
          have hkp : (ys.map fun y => getN kvs y).Perm (kvs.map (·.2)) := by
            have q := kids_perm (d := .dict kvs) (cs := ys.map fun y => (V.str y, getN kvs y)) ⟨ys, pp, sy, rfl⟩ (fun kvs' e => by cases e; exact ⟨ha, nodup_names hk ha nd⟩)
            rw [List.map_map] at q
            exact q
          refine ⟨py, rfl, ⟨_, SqLo upd_same⟩, for_it (walk_list (K := K) (a := py) (xs := ys.map V.str)) (fun i σ' Hi => ∃ q ts o4, σ' = [some (.ref a), some (.ref t), some (.ref q), none, o4, none] ∧ Ex (upd H2 py (.lst (ys.map V.str))) Hi ∧ H q = none ∧ Hi q = some (.lst ts) ∧ ts.length = 1 + cntL ((ys.take i).map fun y => getN kvs y) ∧ Paired (PlTup Hi p0) ts ([] :: ((kidsOf (.dict kvs)).take i).flatMap pathsC)) ?_ ?_ ?_ ?_⟩
          · exact ⟨p1, _, none, rfl, fun _ _ h => h, f1, xf3 _ _ h1f, rfl, Paired.imp (fun _ _ q => (q.rdx rx).ex xf3) hsp⟩
          · rintro i σ' Hi _ ⟨q, ts, o4, _, x3, _⟩
            exact SqLo (x3 _ _ upd_same)
          · rintro i x σ' Ho Hi hi ⟨q, ts, o4, rfl, x3, nq, hq, htl, hts⟩ ⟨rfl, hx1⟩
            obtain ⟨y, hy, rfl⟩ : ∃ y, ys[i]? = some y ∧ V.str y = x := by
              rw [List.getElem?_map] at hx1
              cases hp : ys[i]? with
              | none => rw [hp] at hx1; cases hx1
              | some p => rw [hp] at hx1; exact ⟨p, rfl, Option.some.inj hx1⟩
            have hym : y ∈ names kvs := pp.mem_iff.mp (List.mem_of_getElem? hy)
            obtain ⟨u, hu1, hu2⟩ := dtk_get hkf ha y hym
            have xfi : Ex Hf Hi := xf3.trans x3
            have hkat : (kidsOf (.dict kvs))[i]? = some (V.str y, getN kvs y) := by
              rw [hko, List.getElem?_map, hy]
              rfl
            have hkid : getN kvs y ∈ kids (.dict kvs) := step_kid (kidsOf_step (List.mem_of_getElem? hkat))
            have hcc : cnt (getN kvs y) < cnt (.dict kvs) := cnt_kid hkid
            have htk : cntL ((ys.take (i + 1)).map fun y => getN kvs y) = cntL ((ys.take i).map fun y => getN kvs y) + cnt (getN kvs y) := by
              rw [List.take_add_one, hy, List.map_append, cntL_app]
              show _ + cntL [getN kvs y] = _
              rw [cntL, cntL]
              omega
            have hsub : cntL ((ys.take (i + 1)).map fun y => getN kvs y) ≤ cntK kvs := by
              rw [cntK_eq, ← cntL_perm hkp]
              conv => rhs; rw [← List.take_append_drop (i + 1) ys]
              rw [List.map_append, cntL_app]
              omega
            have hcl : cnt (.dict kvs) = 1 + cntK kvs := by rw [cnt]
            refine ⟨_, rfl, _, rfl, _, rfl, .inr ⟨a, es, Sum.inr y, u, rfl, rfl, .inr ⟨o, xfi _ _ hf⟩, hu1, _, rfl, _, rfl, szl (by show 1 ≤ 100000; decide), fun p2 np2 => ?_⟩⟩
            have x2 : Ex Hi (upd Hi p2 (.tup [V.str y])) := Ex.new np2
            refine catA_of (rd_ex (xfi.trans x2) htf) (.inl upd_same) (by simp) (by show p0.length + 1 ≤ 100000; omega) fun z Hz xz hz => ?_
            refine ⟨u, _, z, _, rfl, hz, hu2.ex (xfi.trans (x2.trans xz)), okL_mem ho'.2 hkid, by omega, by rw [List.length_append]; show p0.length + 1 + _ ≤ _; omega, fun q2 H4 ts2 x4 _ hq2 hl2 hp2 => ?_⟩
            have xi4 := x2.trans (xz.trans x4)
            refine ⟨q, q2, ts, ts2, rfl, rfl, xi4 _ _ hq, hq2, szl (by omega), fun p3 np3 => ?_⟩
            refine ⟨p3, ts ++ ts2, _, rfl, x3.trans (xi4.trans (Ex.new np3)), hdom _ (ex_free (xfi.trans xi4) np3), upd_same, ?_, ?_⟩
            · rw [List.length_append, htl, hl2, htk]
              omega
            · rw [List.take_add_one, hkat]
              exact pl_step (pl_ex (xi4.trans (Ex.new np3)) hts) (pl_ex (Ex.new np3) (pl_up (c := (V.str y, getN kvs y)) hp2))
          · rintro σ' Hi ⟨q, ts, o4, rfl, x3, nq, hq, htl, hts⟩
            have xfi : Ex Hf Hi := xf3.trans x3
            have hai := xfi _ _ hf
            refine kn _ Hi hai ?_
            obtain ⟨t1, t2⟩ := hta Hi hai
            have hqa : q ≠ a := fun z => by
              rw [z, hai] at hq
              cases hq
            have e5 : (kidsOf (.dict kvs)).take (ys.map V.str).length = kidsOf (.dict kvs) := List.take_of_length_le (by rw [hko, List.length_map, List.length_map]; exact Nat.le_refl _)
            refine ⟨_, rfl, k q _ ts ?_ nq ?_ ?_ ?_⟩
            · intro b oo hb
              by_cases eb : b = a
              · rw [eb, t1]
                rw [eb] at hb
                exact x0_1 _ _ hb
              · rw [hth _ _ eb]
                exact xfi _ _ (by rw [hof _ eb]; exact x0_1 _ _ hb)
            · rw [hth _ _ hqa]
              exact hq
            · rw [htl, cnt]
              have e3 : ys.take (ys.map V.str).length = ys := List.take_of_length_le (by rw [List.length_map]; exact Nat.le_refl _)
              rw [e3, cntL_perm hkp, cntK_eq]
            · rw [paths_eq]
              rw [e5] at hts
              exact Paired.imp (fun _ _ q => q.rdx t2) hts
      | _ =>
        refine ⟨v, rfl, v, _, _, false, rfl, hd.ex x0_1, rfl, _, rfl, if_f rfl ?_⟩
        refine ⟨v, rfl, v, _, _, false, rfl, hd.ex x0_1, rfl, _, rfl, if_f rfl ⟨_, rfl, k p1 _ _ x0_1 f1 h1 rfl ?_⟩⟩
        rw [paths_eq]
        exact hsp
end
end VL

namespace LW
open PySem PySem.Spec L2
/-- a dict comprehension over any walk -/
theorem dc_it {J : It} {n : Nat} {G : Hp → Prop} {Y : Nat → Hp → V → Hp → Prop} (wk : Walk J n G Y) {g : TG} {tt : TT} {tk tv : TE} {vs : List Nat} {σ : L2.St} {H1 : Hp} {D : Addr} {Qd : Hp → Prop} (Pv : Nat → Hp → Prop)
    (h0 : Pv 0 (upd H1 D (.dK []))) (hG : ∀ i H, i ≤ n → Pv i H → G H)
    (step : ∀ i x H H', i < n → Pv i H → Y i H x H' → g x (wipe σ vs) H' fun σ2 H2 => wipe σ2 vs = wipe σ vs ∧ tt σ2 H2 fun b H3 =>
      if b = true then tk σ2 H3 fun y H4 => tv σ2 H4 fun z H5 => ∃ kvs k, y = kV k ∧ H5 D = some (.dK kvs) ∧ kvs.length < sizeLine ∧ Pv (i + 1) (upd H5 D (.dK (putK kvs k z))) else Pv (i + 1) H3)
    (fin : ∀ H, Pv n H → Qd H) :
    ∃ W : Nat → Nat → Hp → Prop, (∃ m, W 0 m (upd H1 D (.dK []))) ∧ ∀ i m H, W i m H →
      (J.stop i H ∧ Qd H) ∨ (J.go i H ∧ ∃ Nx : Hp → Prop, (∀ H', Nx H' → ∃ m', m' < m ∧ W (i + 1) m' H') ∧ ∀ x H', J.yld i H x H' → g x (wipe σ vs) H' fun σ2 H2 => wipe σ2 vs = wipe σ vs ∧ tt σ2 H2 fun b H3 =>
        if b = true then tk σ2 H3 fun y H4 => tv σ2 H4 fun z H5 => ∃ kvs k, y = kV k ∧ H5 D = some (.dK kvs) ∧ kvs.length < sizeLine ∧ Nx (upd H5 D (.dK (putK kvs k z))) else Nx H3) := by
  refine ⟨fun i m H => m + i = n ∧ Pv i H, ⟨n, by omega, h0⟩, ?_⟩
  rintro i m H ⟨e, pv⟩
  have gh := hG i H (by omega) pv
  by_cases lt : i < n
  · right
    exact ⟨wk.goes i H lt gh, Pv (i + 1), fun H' p' => ⟨n - (i + 1), by omega, by omega, p'⟩, fun x H' y => step i x H H' lt pv (wk.yields i H x H' lt gh y)⟩
  · left
    have en : n = i := by omega
    subst en
    exact ⟨wk.stops H gh, fin H pv⟩
end LW
namespace VL
open PySem PySem.Spec L2 LW
open Evl (Ex)
theorem pl_del {H : Hp} {a : Addr} {xs p0 : List V} (h : H a = some (.lst xs)) {ys : List V} {ps : List (List V)} (g : Paired (PlTup H p0) ys ps) : Paired (PlTup (del H a) p0) ys ps := Paired.imp (fun x p q => by
  obtain ⟨b, rfl, h1⟩ := q
  have nb : b ≠ a := fun z => by
    rw [z] at h1
    rcases h1 with h1 | ⟨o, h1⟩
    · rw [h] at h1
      cases h1
    · rw [h] at h1
      cases h1
  refine ⟨b, rfl, ?_⟩
  rcases h1 with h1 | ⟨o, h1⟩
  · exact .inl (del_get h1 nb)
  · exact .inr ⟨o, del_get h1 nb⟩) g
section
variable {P : Program} {w : World} {K : PySem.W.Frag} {mg : Str → Option Value} {base : Heap} {CI CP : Addr}
/-! ### places_below, places -/
theorem sc_places_below : FnScope ["value", "place", "found", "step", "child"] ["value", "place"] (defScope s_places_below) := ⟨rfl, rfl, rfl, by decide +kernel, rfl, by decide +kernel, by decide +kernel⟩
theorem bi_places_below : BindsEq "places_below" s_places_below ["value", "place"] := fun _ _ _ _ _ _ us hl => match us, hl with | [_, _], _ => rfl
theorem ok_pbelow (F : Df K mg "places_below" s_places_below) (T : Txt K mg) (C_children : Cal P w K mg base CX0 1 "children" spKids) : ∀ n, Cal P w K mg base CX0 (n + 2) "places_below" (spBelowP n)
  | 0 => cal_no F sc_places_below bi_places_below fun vs H Q E h => by
    obtain ⟨v, d, t, p0, _, _, _, _, hc, _⟩ := h
    have := cnt_pos d
    omega
  | n + 1 => by
    have C_places_below := ok_pbelow F T C_children n
    refine cal0 F sc_places_below bi_places_below (fun vs H Q E h => ?_) (fun f cdv A outer s H vs Q E hr h => ?_)
    · obtain ⟨v, d, t, p0, rfl, _⟩ := h
      rfl
    · obtain ⟨v, d, t, p0, rfl, ht, hd, ho, hc, hpl, k⟩ := h
      refine ⟨_, (pss_cons (ps_set (i := 2) sc_places_below.nd rfl (Or.inl rfl) (pe_lst (pa_cons (pv 1) pa_nil)))
 (pss_cons (ps_for PassesOwn.never rfl (pil K (pe_k C_children hr (by omega) rfl (pa_cons (pv 0) pa_nil))) (pgt (n := 2) K rfl (pgs_cons (pg_name (i := 3) sc_places_below.nd rfl (Or.inl rfl)) (pgs_cons (pg_name (i := 4) sc_places_below.nd rfl (Or.inl rfl)) pgs_nil))) (pss_one (ps_expr (pe_bm PySem.F.plainAttrs_list PySem.F.slot_list_extend PySem.F.type_list_extend mt_extend (pv 2) (pa_cons (pe_k C_places_below hr (by omega) rfl (pa_cons (pv 4) (pa_cons (pe_op op_catA (pv 1) (pe_tup (pa_cons (pv 3) pa_nil))) pa_nil))) pa_nil)))))
 (pss_one (ps_ret (pv 2))))), ?_⟩
      refine ⟨_, rfl, szl (by show 1 ≤ 100000; decide), fun p1 np1 => ?_⟩
      obtain ⟨H1, hH1, x0_1, h1⟩ := newH _ np1
      rw [hH1]
      clear hH1
      have f1 := np1
      have ho' := ho
      rw [okA_kids, Bool.and_eq_true] at ho'
      refine ⟨_, rfl, v, d, H, rfl, hd, x0_1, ho'.1, fun q H3 ts cs x1_3 nq hq hts hcs => ?_⟩
      have hkp := kids_perm hcs (kids_ns hd ho'.1)
      have hke := kids_eq hcs
      have htl : ts.length = cs.length := Paired.len hts
      have hkl : cs.length ≤ 60 := by
        have := kids_len ho'.1
        have := hkp.length_eq
        rw [List.length_map] at this
        omega
      have x0_3 := x0_1.trans x1_3
      have h13 := x1_3 _ _ h1
      have nq1 : q ≠ p1 := fun z => by
        rw [z, h1] at nq
        cases nq
      refine ⟨q, rfl, ⟨_, SqLo hq⟩, for_it (walk_list (K := K) (a := q) (xs := ts)) (fun i σ' Hi => ∃ acc o3 o4, σ' = [some v, some (.ref t), some (.ref p1), o3, o4] ∧ Ex (del H3 p1) (del Hi p1) ∧ Hi p1 = some (.lst acc) ∧ acc.length = 1 + cntL ((cs.take i).map (·.2)) ∧ Paired (PlTup (del Hi p1) p0) acc ([] :: (cs.take i).flatMap pathsC)) ?_ ?_ ?_ ?_⟩
      · refine ⟨_, none, none, rfl, fun _ _ h => h, h13, rfl, pl_del h13 (.cons ⟨t, rfl, by rw [List.append_nil]; exact rd_ex x0_3 ht⟩ .nil)⟩
      · rintro i σ' Hi _ ⟨acc, o3, o4, _, e, _⟩
        exact SqLo (ex_del _ _ (e _ _ (del_get hq nq1)))
      · rintro i x σ' Ho Hi hi ⟨acc, o3, o4, rfl, e, hp1, hal, hap⟩ ⟨rfl, hx1⟩
        obtain ⟨c, hc1, tt, u, rfl, htt, hu⟩ := Paired.get hts hx1
        have x0i : Ex H Hi := ((ex_of_del x0_3 f1).trans e).trans ex_del
        have hck : c.2 ∈ kids d := hkp.mem_iff.mp (List.mem_map_of_mem (List.mem_of_getElem? hc1))
        have hcc : cnt c.2 < cnt d := cnt_kid hck
        have htt' : L2.Rd Hi tt (.tup [c.1, u]) := by
          have nt : tt ≠ p1 := fun z => by
            rw [z] at htt
            rcases htt with q | ⟨o, q⟩
            · rw [h13] at q
              cases q
            · rw [h13] at q
              cases q
          rcases htt with q | ⟨o, q⟩
          · exact .inl (ex_del _ _ (e _ _ (del_get q nt)))
          · exact .inr ⟨o, ex_del _ _ (e _ _ (del_get q nt))⟩
        have htk : cntL ((cs.take (i + 1)).map (·.2)) = cntL ((cs.take i).map (·.2)) + cnt c.2 := by
          rw [List.take_add_one, hc1, List.map_append, cntL_app]
          show _ + cntL [c.2] = _
          rw [cntL, cntL]
          omega
        have hsub : cntL ((cs.take (i + 1)).map (·.2)) + 1 ≤ cnt d := by
          rw [cnt_kids d, ← cntL_perm hkp]
          conv => rhs; rw [← List.take_append_drop (i + 1) cs]
          rw [List.map_append, cntL_app]
          omega
        refine ⟨tt, _, rfl, .inl htt', rfl, _, _, rfl, _, _, rfl, rfl, ?_⟩
        refine ⟨_, rfl, .inl ⟨rfl, _, SqLo hp1⟩, _, rfl, _, rfl, _, rfl, szl (by show 1 ≤ 100000; decide), fun p2 np2 => ?_⟩
        have x2 : Ex Hi (upd Hi p2 (.tup [c.1])) := Ex.new np2
        refine catA_of (rd_ex (x0i.trans x2) ht) (.inl upd_same) (by simp) (by show p0.length + 1 ≤ 100000; omega) fun z Hz xz hz => ?_
        refine ⟨u, c.2, z, _, rfl, hz, hu.ex (x0i.trans (x2.trans xz)), okL_mem ho'.2 hck, by omega, by rw [List.length_append]; show p0.length + 1 + _ ≤ _; omega, fun q2 H4 ts2 x4 _ hq2 hl2 hp2 => ?_⟩
        have xi4 := x2.trans (xz.trans x4)
        have hp14 := xi4 _ _ hp1
        refine ⟨p1, q2, acc, ts2, rfl, rfl, hp14, hq2, szl (by omega), _, _, _, rfl, ?_, upd_same, ?_, ?_⟩
        · rw [del_upd]
          exact e.trans (del_grow' xi4)
        · rw [List.length_append, hal, hl2, htk]
          omega
        · rw [del_upd, List.take_add_one, hc1]
          exact pl_step (pl_ex (del_grow' xi4) hap) (pl_del hp14 (pl_up (c := c) hp2))
      · rintro σ' Hi ⟨acc, o3, o4, rfl, e, hp1, hal, hap⟩
        have x0i : Ex H Hi := ((ex_of_del x0_3 f1).trans e).trans ex_del
        have e3 : cs.take ts.length = cs := List.take_of_length_le (by omega)
        rw [e3] at hal hap
        refine ⟨_, rfl, k p1 Hi acc x0i f1 hp1 ?_ ?_⟩
        · rw [hal, cntL_perm hkp, cnt_kids d]
        · rw [paths_eq, ← hke]
          exact pl_ex ex_del hap
def spPlaces (CI : Addr) : Sp := fun vs H Q E => ∃ (v : V) (d : PyData), vs = [v] ∧ Dt H d v ∧ szA d ∧ (isV d = true → ∀ q H' ts, Ex H H' → H q = none → H' q = some (.lst ts) → ts.length = cnt d → Paired (PlTup H' []) ts (paths d) → Q (.ref q) H') ∧
  (isV d = false → ∀ dd H', Ex H H' → H' dd = some (.xd [("value", v)]) → E (.ref CI) (some dd) H')
theorem sc_places : FnScope ["value"] ["value"] (defScope s_places) := ⟨rfl, rfl, rfl, by decide +kernel, rfl, by decide +kernel, by decide +kernel⟩
theorem bi_places : BindsEq "places" s_places ["value"] := fun _ _ _ _ _ _ us hl => match us, hl with | [_], _ => rfl
theorem isV_un {d : PyData} (h : isV d = true) : okA d = true ∧ cnt d ≤ 60 := by
  unfold isV at h
  rw [Bool.and_eq_true] at h
  exact ⟨h.1, of_decide_eq_true h.2⟩
theorem ok_places (F : Df K mg "places" s_places) (T : Txt K mg) (C_check_value : Cal P w K mg base (L2.CX P w) 5 "check_value" (spCheckV CI)) (C_places_below : Cal P w K mg base CX0 62 "places_below" (spBelowP 60)) : Cal P w K mg base (L2.CX P w) 63 "places" (spPlaces CI) := by
  refine calX F sc_places bi_places (fun vs H Q E h => ?_) (fun f cdv A outer s H vs Q E hr h => ?_)
  · obtain ⟨v, d, rfl, _⟩ := h
    rfl
  · obtain ⟨v, d, rfl, hd, hz, k1, k2⟩ := h
    refine ⟨_, (pss_cons (ps_expr (pe_kP C_check_value hr (by decide) (passes_call (takes_of rfl rfl rfl rfl) (fun _ _ _ _ h => h)) rfl (pa_cons (pv 0) pa_nil)))
 (pss_one (ps_ret (pe_k C_places_below hr (by decide) rfl (pa_cons (pv 0) (pa_cons (pe_tup pa_nil) pa_nil)))))), ?_⟩
    refine ⟨_, rfl, v, d, rfl, hd, hz, fun hv H1 e1 => ?_, k2⟩
    obtain ⟨ho, hc⟩ := isV_un hv
    refine ⟨_, rfl, szl (by show 0 ≤ 100000; decide), fun t nt => ?_⟩
    have x2 : Ex H1 (upd H1 t (.tup [])) := Ex.new nt
    exact ⟨v, d, t, [], rfl, .inl upd_same, hd.ex (e1.trans x2), ho, hc, by show 0 + _ ≤ 200; omega, fun q H' ts e nq hq hl hp => k1 hv q H' ts (e1.trans (x2.trans e)) (ex_free (e1.trans x2) nq) hq hl hp⟩
/-! ### part_at -/
theorem sc_part_at : FnScope ["value", "place", "part", "step"] ["value", "place"] (defScope s_part_at) := ⟨rfl, rfl, rfl, by decide +kernel, rfl, by decide +kernel, by decide +kernel⟩
theorem bi_part_at : BindsEq "part_at" s_part_at ["value", "place"] := fun _ _ _ _ _ _ us hl => match us, hl with | [_, _], _ => rfl
theorem ok_partAt (F : Df K mg "part_at" s_part_at) (T : Txt K mg) : Cal P w K mg base CX0 1 "part_at" spPartL := by
  refine cal0 F sc_part_at bi_part_at (fun vs H Q E h => ?_) (fun f cdv A outer s H vs Q E hr h => ?_)
  · obtain ⟨v, t, p, u, rfl, _⟩ := h
    rfl
  · obtain ⟨v, t, p, u, rfl, ht, hw, k⟩ := h
    refine ⟨_, (pss_cons (ps_set (i := 2) sc_part_at.nd rfl (Or.inl rfl) (pv 0))
 (pss_cons (ps_for PassesOwn.never rfl (pit K (pv 1)) (pg_name (i := 3) sc_part_at.nd rfl (Or.inl rfl)) (pss_one (ps_set (i := 2) sc_part_at.nd rfl (Or.inl rfl) (pe_ix (ixA K) (pv 2) (pv 3) (fun _ _ => rfl)))))
 (pss_one (ps_ret (pv 2))))), ?_⟩
    refine ⟨_, rfl, _, rfl, t, rfl, ⟨_, .inl ht⟩, for_it (walk_tup (K := K) (a := t) (xs := p)) (fun i σ' Hi => Hi = H ∧ ∃ x o3, σ' = [some v, some (.ref t), some x, o3] ∧ Wk H x (p.drop i) u) ?_ ?_ ?_ ?_⟩
    · exact ⟨rfl, v, none, rfl, hw⟩
    · rintro i σ' Hi _ ⟨rfl, _⟩
      exact .inl ht
    · rintro i y σ' Ho Hi hi ⟨rfl, x, o2, rfl, hx⟩ ⟨rfl, hy⟩
      have hdr : p.drop i = y :: p.drop (i + 1) := by
        obtain ⟨h1, h2⟩ := List.getElem?_eq_some_iff.mp hy
        rw [List.drop_eq_getElem_cons h1, h2]
      rw [hdr] at hx
      obtain ⟨z, ⟨a, rfl, hs⟩, hz⟩ := hx
      refine ⟨_, rfl, _, rfl, ?_⟩
      rcases hs with ⟨vs, j, h1, rfl, h3⟩ | ⟨es, j, h1, rfl, h3⟩
      · exact .inl ⟨a, vs, _, z, rfl, rfl, .inl h1, h3, rfl, z, _, rfl, hz⟩
      · exact .inr ⟨a, es, j, z, rfl, rfl, h1, h3, rfl, z, _, rfl, hz⟩
    · rintro σ' Hi ⟨rfl, x, o2, rfl, hx⟩
      rw [List.drop_length] at hx
      have hx : u = x := hx
      subst hx
      exact ⟨_, rfl, k⟩
end
end VL

namespace VL
open PySem PySem.Spec L2 LW
open Evl (Ex)
/-! ### steps as data -/
def stepP (d : PyData) : PyData → Option PyData
  | .int i => stepD d (.int i)
  | .str y => stepD d (.str y)
  | _ => none
def walkP : PyData → List PyData → Bool
  | _, [] => true
  | d, s :: r => match stepP d s with
    | none => false
    | some c => walkP c r
def hasP (d : PyData) : PyData → Bool
  | .tuple es => walkP d es
  | _ => false
theorem dict_val' {H : Hp} {kvs : List (PyData × PyData)} {v : V} (h : Dt H (.dict kvs) v) (ho : okA (.dict kvs) = true) : AllStr kvs ∧ ∃ a es, v = .ref a ∧ L2.Rd H a (.dK es) ∧ (es.map (·.1)).Nodup ∧ DtK H kvs es := by
  rw [okA_kids, Bool.and_eq_true] at ho
  obtain ⟨ha, _⟩ := allStr_of ho.1
  exact ⟨ha, dict_val h ha⟩
/-- a step of the data is one of the heap -/
theorem step_heap {H : Hp} {d c e : PyData} {v x : V} (hd : Dt H d v) (ho : okA d = true) (hx : Dt H e x) (h : stepP d e = some c) : ∃ u, StepV H v x u ∧ Dt H c u ∧ x = (match e with | .int i => V.int i | .str y => V.str y | _ => V.non) := by
  cases e with
  | int i =>
    unfold Dt at hx
    subst hx
    rcases step_cases (s := V.int i) h with ⟨ds, j, rfl, e, h0, hj⟩ | ⟨kvs, y, rfl, e, _⟩
    · cases e
      unfold Dt at hd
      obtain ⟨a, vs, rfl, ha, hl⟩ := hd
      have hlt : i.toNat < vs.length := by
        rw [hl.len]
        exact (List.getElem?_eq_some_iff.mp hj).1
      obtain ⟨c', h1, h2⟩ := hl.get (List.getElem?_eq_getElem hlt)
      rw [hj] at h1
      cases h1
      exact ⟨_, ⟨a, rfl, .inl ⟨vs, i, ha, rfl, atI_of h0 (List.getElem?_eq_getElem hlt)⟩⟩, h2, rfl⟩
    · cases e
  | str y =>
    unfold Dt at hx
    subst hx
    rcases step_cases (s := V.str y) h with ⟨ds, j, rfl, e, h0, hj⟩ | ⟨kvs, z, rfl, e, hz, rfl⟩
    · cases e
    · cases e
      obtain ⟨hal, a, es, rfl, hae, nd, hk⟩ := dict_val' hd ho
      obtain ⟨u, h1, h2⟩ := dtk_get hk hal y hz
      exact ⟨u, ⟨a, rfl, .inr ⟨es, Sum.inr y, hae, rfl, h1⟩⟩, h2, rfl⟩
  | _ => cases h
section
variable {P : Program} {w : World} {K : PySem.W.Frag} {mg : Str → Option Value} {base : Heap} {CI CP : Addr}
/-! ### has_step -/
def spHasStep : Sp := fun vs H Q _ => ∃ (v x : V) (d e : PyData), vs = [v, x] ∧ Dt H d v ∧ okA d = true ∧ Dt H e x ∧ Q (.bl (stepP d e).isSome) H
theorem sc_has_step : FnScope ["value", "step"] ["value", "step"] (defScope s_has_step) := ⟨rfl, rfl, rfl, by decide +kernel, rfl, by decide +kernel, by decide +kernel⟩
theorem bi_has_step : BindsEq "has_step" s_has_step ["value", "step"] := fun _ _ _ _ _ _ us hl => match us, hl with | [_, _], _ => rfl
theorem ok_hasStep (F : Df K mg "has_step" s_has_step) (T : Txt K mg) (C_is_integer : Cal P w K mg base CX0 1 "is_integer" spIsInt) : Cal P w K mg base CX0 2 "has_step" spHasStep := by
  refine cal0 F sc_has_step bi_has_step (fun vs H Q E h => ?_) (fun f cdv A outer s H vs Q E hr h => ?_)
  · obtain ⟨v, x, d, e, rfl, _⟩ := h
    rfl
  · obtain ⟨v, x, d, e, rfl, hd, ho, hx, k⟩ := h
    have hu : (A.deeper (PyProof.Rows.envOfC "has_step" (defScope s_has_step) s.heap.objs.size f cdv)).units + 1 < cLine := by have := hr.un; omega
    refine ⟨_, (pss_cons (ps_if (pt_val (pe_callB (isD K) rfl T.b_isinstance (by decide +kernel) (pa_cons (pv 0) (pa_cons (pe_bltn (v := .ty "dict") rfl T.b_dict (by decide +kernel) rfl) pa_nil)))) (pss_one (ps_ret (pe_and (pe_callB (isD K) rfl T.b_isinstance (by decide +kernel) (pa_cons (pv 1) (pa_cons (pe_bltn (v := .ty "str") rfl T.b_str (by decide +kernel) rfl) pa_nil))) (pe_one (pe_cmp (pc_din hu (pv 1) (pv 0)) rfl))))) pss_nil)
 (pss_cons (ps_if (pt_val (pe_callB (isD K) rfl T.b_isinstance (by decide +kernel) (pa_cons (pv 0) (pa_cons (pe_bltn (v := .ty "list") rfl T.b_list (by decide +kernel) rfl) pa_nil)))) (pss_one (ps_ret (pe_and (pe_k C_is_integer hr (by decide) rfl (pa_cons (pv 1) pa_nil)) (pe_one (pe_chain op_le op_lt pe_int (pv 1) (pe_callB (lnA K) rfl T.b_len (by decide +kernel) (pa_cons (pv 0) pa_nil))))))) pss_nil)
 (pss_one (ps_ret pe_bl)))), ?_⟩
    cases d with
    | dict kvs =>
      refine ⟨v, rfl, v, _, _, true, rfl, hd, rfl, _, rfl, if_t rfl ?_⟩
      cases e with
      | str y =>
        refine ⟨x, rfl, x, _, _, true, rfl, hx, rfl, _, rfl, if_t rfl ?_⟩
        have hxv : x = .str y := by unfold Dt at hx; exact hx
        subst hxv
        obtain ⟨hal, a, es, rfl, hae, nd, hk⟩ := dict_val' hd ho
        refine ⟨_, rfl, _, rfl, a, _, rfl, .inl ⟨es, Sum.inr y, hae, rfl, rfl⟩, ?_⟩
        have q := k
        show Q (.bl (valV es (Sum.inr y : Key)).isSome) H
        have e : (valV es (Sum.inr y : Key)).isSome = (stepP (.dict kvs) (.str y)).isSome := by
          show _ = (if y ∈ names kvs then some (getN kvs y) else none).isSome
          by_cases hy : y ∈ names kvs
          · obtain ⟨u, h1, _⟩ := dtk_get hk hal y hy
            rw [if_pos hy, h1]
            rfl
          · rw [if_neg hy, val_no hk hal hy]
            rfl
        rw [e]
        exact q
      | _ => exact ⟨x, rfl, x, _, _, false, rfl, hx, rfl, _, rfl, if_f rfl k⟩
    | list ds =>
      refine ⟨v, rfl, v, _, _, false, rfl, hd, rfl, _, rfl, if_f rfl ?_⟩
      refine ⟨v, rfl, v, _, _, true, rfl, hd, rfl, _, rfl, if_t rfl ?_⟩
      refine ⟨x, rfl, x, e, rfl, hx, _, rfl, ?_⟩
      cases e with
      | int i =>
        refine if_t rfl ?_
        have hxv : x = .int i := by unfold Dt at hx; exact hx
        subst hxv
        unfold Dt at hd
        obtain ⟨a, xs, rfl, hax, hl⟩ := hd
        have hlen := hl.len
        have e : (stepP (.list ds) (.int i)).isSome = (decide (0 ≤ i) && decide (i < (xs.length : Int))) := by
          show (if 0 ≤ i then ds[i.toNat]? else none).isSome = _
          by_cases h0 : 0 ≤ i
          · rw [if_pos h0, decide_eq_true h0, Bool.true_and]
            by_cases h1 : i < (xs.length : Int)
            · rw [decide_eq_true h1, List.getElem?_eq_getElem (by omega)]
              rfl
            · rw [decide_eq_false h1, List.getElem?_eq_none (by omega)]
              rfl
          · rw [if_neg h0, decide_eq_false h0]
            rfl
        rw [e] at k
        refine ⟨_, rfl, _, _, rfl, rfl, _, rfl, if_b (fun h1 => ?_) (fun h1 => ?_)⟩
        · refine ⟨_, rfl, .inl ⟨_, xs.length, rfl, .inl ⟨xs, .inl hax, rfl⟩, _, _, rfl, rfl, ?_⟩⟩
          rw [show decide (0 ≤ i) = true from h1, Bool.true_and] at k
          exact k
        · rw [show decide (0 ≤ i) = false from h1, Bool.false_and] at k
          exact k
      | _ => exact if_f rfl k
    | _ =>
      refine ⟨v, rfl, v, _, _, false, rfl, hd, rfl, _, rfl, if_f rfl ?_⟩
      refine ⟨v, rfl, v, _, _, false, rfl, hd, rfl, _, rfl, if_f rfl ?_⟩
      cases e <;> exact k
/-! ### has_place -/
def spHasPlace : Sp := fun vs H Q _ => ∃ (v x : V) (d e : PyData), vs = [v, x] ∧ Dt H d v ∧ okA d = true ∧ Dt H e x ∧ Q (.bl (hasP d e)) H
theorem sc_has_place : FnScope ["value", "place", "part", "step"] ["value", "place"] (defScope s_has_place) := ⟨rfl, rfl, rfl, by decide +kernel, rfl, by decide +kernel, by decide +kernel⟩
theorem bi_has_place : BindsEq "has_place" s_has_place ["value", "place"] := fun _ _ _ _ _ _ us hl => match us, hl with | [_, _], _ => rfl
theorem ok_hasPlace (F : Df K mg "has_place" s_has_place) (T : Txt K mg) (C_has_step : Cal P w K mg base CX0 2 "has_step" spHasStep) : Cal P w K mg base CX0 3 "has_place" spHasPlace := by
  refine cal0 F sc_has_place bi_has_place (fun vs H Q E h => ?_) (fun f cdv A outer s H vs Q E hr h => ?_)
  · obtain ⟨v, x, d, e, rfl, _⟩ := h
    rfl
  · obtain ⟨v, x, d, e, rfl, hd, ho, hx, k⟩ := h
    refine ⟨_, (pss_cons (ps_if (pt_not (pt_val (pe_callB (isD K) rfl T.b_isinstance (by decide +kernel) (pa_cons (pv 1) (pa_cons (pe_bltn (v := .ty "tuple") rfl T.b_tuple (by decide +kernel) rfl) pa_nil))))) (pss_one (ps_ret pe_bl)) pss_nil)
 (pss_cons (ps_set (i := 2) sc_has_place.nd rfl (Or.inl rfl) (pv 0))
 (pss_cons (ps_for PassesOwn.never rfl (pit K (pv 1)) (pg_name (i := 3) sc_has_place.nd rfl (Or.inl rfl)) (pss_cons (ps_if (pt_not (pt_val (pe_k C_has_step hr (by decide) rfl (pa_cons (pv 2) (pa_cons (pv 3) pa_nil))))) (pss_one (ps_ret pe_bl)) pss_nil)
 (pss_one (ps_set (i := 2) sc_has_place.nd rfl (Or.inl rfl) (pe_ix (ixA K) (pv 2) (pv 3) (fun _ _ => rfl))))))
 (pss_one (ps_ret pe_bl))))), ?_⟩
    cases e with
    | tuple es =>
      refine ⟨x, rfl, x, _, _, true, rfl, hx, rfl, _, rfl, if_f rfl ?_⟩
      unfold Dt at hx
      obtain ⟨b, xs, rfl, hb, hl⟩ := hx
      refine ⟨_, rfl, _, rfl, b, rfl, ⟨_, .inl hb⟩, for_it (walk_tup (K := K) (a := b) (xs := xs)) (fun i σ' Hi => Hi = H ∧ ∃ u c o3, σ' = [some v, some (.ref b), some u, o3] ∧ Dt H c u ∧ okA c = true ∧ hasP d (.tuple es) = walkP c (es.drop i)) ?_ ?_ ?_ ?_⟩
      · exact ⟨rfl, v, d, none, rfl, hd, ho, rfl⟩
      · rintro i σ' Hi _ ⟨rfl, _⟩
        exact .inl hb
      · rintro i y σ' Ho Hi hi ⟨rfl, u, c, o3, rfl, hu, hoc, hw⟩ ⟨rfl, hy⟩
        obtain ⟨ed, he1, he2⟩ := hl.get hy
        have hdr : es.drop i = ed :: es.drop (i + 1) := by
          obtain ⟨h1, h2⟩ := List.getElem?_eq_some_iff.mp he1
          rw [List.drop_eq_getElem_cons h1, h2]
        rw [hdr] at hw
        have hw : hasP d (.tuple es) = (match stepP c ed with | none => false | some c => walkP c (es.drop (i + 1))) := hw
        refine ⟨_, rfl, _, rfl, u, y, c, ed, rfl, hu, hoc, he2, _, rfl, ?_⟩
        cases hs : stepP c ed with
        | none =>
          refine if_t rfl ?_
          rw [hs] at hw
          rw [hw] at k
          exact k
        | some c' =>
          refine if_f rfl ?_
          rw [hs] at hw
          obtain ⟨u', ⟨a, rfl, hst⟩, hu', _⟩ := step_heap hu hoc he2 hs
          have hoc' : okA c' = true := by
            cases ed with
            | int j => exact step_ok (s := V.int j) hs hoc
            | str j => exact step_ok (s := V.str j) hs hoc
            | _ => cases hs
          refine ⟨_, rfl, _, rfl, ?_⟩
          rcases hst with ⟨vs, j, h1, rfl, h3⟩ | ⟨ks, j, h1, rfl, h3⟩
          · exact .inl ⟨a, vs, _, u', rfl, rfl, .inl h1, h3, rfl, u', c', _, rfl, hu', hoc', hw⟩
          · exact .inr ⟨a, ks, j, u', rfl, rfl, h1, h3, rfl, u', c', _, rfl, hu', hoc', hw⟩
      · rintro σ' Hi ⟨rfl, u, c, o3, rfl, hu, hoc, hw⟩
        rw [List.drop_of_length_le (by rw [hl.len]; exact Nat.le_refl _)] at hw
        have hw : hasP d (.tuple es) = true := hw
        rw [hw] at k
        exact k
    | _ => exact ⟨x, rfl, x, _, _, false, rfl, hx, rfl, _, rfl, if_t rfl k⟩
/-! ### head_of, head -/
def spHeadOf : Sp := fun vs H Q _ => ∃ (v : V) (d : PyData), vs = [v] ∧ Dt H d v ∧ okA d = true ∧ ∀ t H', Ex H H' → Dt H' (headD d) t → Q t H'
theorem sc_head_of : FnScope ["value", "name", "child"] ["value"] (defScope s_head_of) := ⟨rfl, rfl, rfl, by decide +kernel, rfl, by decide +kernel, by decide +kernel⟩
theorem bi_head_of : BindsEq "head_of" s_head_of ["value"] := fun _ _ _ _ _ _ us hl => match us, hl with | [_], _ => rfl
theorem srt_len {H : Hp} {l ys : List Str} (p : ys.Perm l) (s : PyProof.Rows.sortedS ys = true) : (srt l).length = l.length := by
  rw [← srt_of p s]
  exact p.length_eq
theorem ok_headOf (F : Df K mg "head_of" s_head_of) (T : Txt K mg) (C_children : Cal P w K mg base CX0 1 "children" spKids) : Cal P w K mg base CX0 2 "head_of" spHeadOf := by
  refine cal0 F sc_head_of bi_head_of (fun vs H Q E h => ?_) (fun f cdv A outer s H vs Q E hr h => ?_)
  · obtain ⟨v, d, rfl, _⟩ := h
    rfl
  · obtain ⟨v, d, rfl, hd, ho, k⟩ := h
    refine ⟨_, (pss_cons (ps_if (pt_val (pe_callB (isD K) rfl T.b_isinstance (by decide +kernel) (pa_cons (pv 0) (pa_cons (pe_bltn (v := .ty "dict") rfl T.b_dict (by decide +kernel) rfl) pa_nil)))) (pss_one (ps_ret (pe_tup (pa_cons pe_str (pa_cons (pe_callTy call_tuple_of rfl T.b_tuple (by decide +kernel) (pa_cons (pe_lc (own := [("name", 1), ("child", 2)]) (by rfl) sc_head_of.nd (pil K (pe_k C_children hr (by decide) rfl (pa_cons (pv 0) pa_nil))) (blkOk_by (own := [("name", 1), ("child", 2)]) (N := ["value", "name", "child"]) (sc := defScope s_head_of) (by decide +kernel)) (fun _ _ _ _ _ => (pgt (n := 2) K rfl (pgs_cons (pg_name (i := 1) sc_head_of.nd rfl (Or.inl rfl)) (pgs_cons (pg_name (i := 2) sc_head_of.nd rfl (Or.inl rfl)) pgs_nil)))) (fun _ _ _ _ _ => pts_nil) (fun _ _ _ _ _ => (pv 1))) pa_nil)) pa_nil))))) pss_nil)
 (pss_cons (ps_if (pt_val (pe_callB (isD K) rfl T.b_isinstance (by decide +kernel) (pa_cons (pv 0) (pa_cons (pe_bltn (v := .ty "list") rfl T.b_list (by decide +kernel) rfl) pa_nil)))) (pss_one (ps_ret (pe_tup (pa_cons pe_str (pa_cons (pe_callB (lnA K) rfl T.b_len (by decide +kernel) (pa_cons (pv 0) pa_nil)) pa_nil))))) pss_nil)
 (pss_cons (ps_if (pt_val (pe_callB (isD K) rfl T.b_isinstance (by decide +kernel) (pa_cons (pv 0) (pa_cons (pe_bltn (v := .ty "str") rfl T.b_str (by decide +kernel) rfl) pa_nil)))) (pss_one (ps_ret (pe_tup (pa_cons pe_str (pa_cons (pv 0) pa_nil))))) pss_nil)
 (pss_one (ps_ret (pe_tup (pa_cons pe_str (pa_cons (pv 0) pa_nil)))))))), ?_⟩
    have ho' := ho
    rw [okA_kids, Bool.and_eq_true] at ho'
    cases d with
    | dict kvs =>
      refine ⟨v, rfl, v, _, _, true, rfl, hd, rfl, _, rfl, if_t rfl ?_⟩
      refine ⟨_, rfl, v, _, H, rfl, hd, (fun _ _ h => h), ho'.1, fun q H1 ts cs x0_1 nq hq hts hcs => ?_⟩
      have hke := kids_eq hcs
      have htl : ts.length = cs.length := Paired.len hts
      have hkl : cs.length ≤ 60 := by
        have := kids_len ho'.1
        have := (kids_perm hcs (kids_ns hd ho'.1)).length_eq
        rw [List.length_map] at this
        omega
      have hkd : kidsOf (.dict kvs) = (srt (names kvs)).map fun y => (V.str y, getN kvs y) := rfl
      refine ⟨q, rfl, ⟨_, SqLo hq⟩, fun D nD => lc_gr (walk_list (xs := ts)) (fun i acc _ => acc = (cs.take i).map (·.1)) nD (by omega) rfl (fun H' e => SqLo (e _ _ hq)) ?_ ?_⟩
      · rintro i x acc Ho Hi hi g g' gD gl rfl ⟨rfl, hx1⟩
        obtain ⟨c, hc1, t, u, rfl, ht, hu⟩ := Paired.get hts hx1
        refine ⟨t, _, rfl, .inl (rd_ex g ht), rfl, _, _, rfl, _, _, rfl, rfl, rfl, _, rfl, lc_put g' gD gl (by omega) (fun _ _ h => h) ?_⟩
        rw [List.take_add_one, List.map_append, hc1]
        rfl
      · rintro acc H2 g g' gD gl rfl
        have e3 : cs.take ts.length = cs := List.take_of_length_le (by omega)
        rw [e3, hke, hkd, List.map_map] at gD
        refine ⟨D, _, rfl, .inl ⟨SqLo gD, fun p2 np2 => ?_⟩⟩
        obtain ⟨H3, hH3, x2_3, h3⟩ := newH _ np2
        rw [hH3]
        clear hH3
        refine ⟨szl (by show 2 ≤ 100000; decide), fun p4 np4 => ?_⟩
        have x3_4 : Ex H3 (upd H3 p4 (.tup [V.str "record", V.ref p2])) := Ex.new np4
        refine k _ _ (x0_1.trans (g.trans (x2_3.trans x3_4))) (dt_tup upd_same (DtL.cons (dt_str _) (DtL.cons (dt_tup (x3_4 _ _ h3) ?_) DtL.nil)))
        have : ∀ (l : List Str) (HH : Hp), DtL HH (l.map PyData.str) (l.map ((fun x => x.1) ∘ fun y => (V.str y, getN kvs y))) := by
          intro l HH
          induction l with
          | nil => exact DtL.nil
          | cons a r ih => exact DtL.cons (dt_str _) ih
        exact this _ _
    | list ds =>
      refine ⟨v, rfl, v, _, _, false, rfl, hd, rfl, _, rfl, if_f rfl ?_⟩
      refine ⟨v, rfl, v, _, _, true, rfl, hd, rfl, _, rfl, if_t rfl ?_⟩
      unfold Dt at hd
      obtain ⟨a, xs, rfl, hax, hl⟩ := hd
      refine ⟨_, rfl, .inl ⟨_, xs.length, rfl, .inl ⟨xs, .inl hax, rfl⟩, szl (by show 2 ≤ 100000; decide), fun p4 np4 => ?_⟩⟩
      rw [hl.len]
      exact k _ _ (Ex.new np4) (dt_tup upd_same (DtL.cons (dt_str _) (DtL.cons (dt_int _) DtL.nil)))
    | str x =>
      refine ⟨v, rfl, v, _, _, false, rfl, hd, rfl, _, rfl, if_f rfl ?_⟩
      refine ⟨v, rfl, v, _, _, false, rfl, hd, rfl, _, rfl, if_f rfl ?_⟩
      refine ⟨v, rfl, v, _, _, true, rfl, hd, rfl, _, rfl, if_t rfl ?_⟩
      refine ⟨_, rfl, szl (by show 2 ≤ 100000; decide), fun p4 np4 => ?_⟩
      exact k _ _ (Ex.new np4) (dt_tup upd_same (DtL.cons (dt_str _) (DtL.cons (hd.ex (Ex.new np4)) DtL.nil)))
    | int i =>
      refine ⟨v, rfl, v, _, _, false, rfl, hd, rfl, _, rfl, if_f rfl ?_⟩
      refine ⟨v, rfl, v, _, _, false, rfl, hd, rfl, _, rfl, if_f rfl ?_⟩
      refine ⟨v, rfl, v, _, _, false, rfl, hd, rfl, _, rfl, if_f rfl ?_⟩
      refine ⟨_, rfl, szl (by show 2 ≤ 100000; decide), fun p4 np4 => ?_⟩
      exact k _ _ (Ex.new np4) (dt_tup upd_same (DtL.cons (dt_str _) (DtL.cons (hd.ex (Ex.new np4)) DtL.nil)))
    | _ => cases ho
end
end VL

namespace VL
open PySem PySem.Spec L2 LW
open Evl (Ex)
section
variable {P : Program} {w : World} {K : PySem.W.Frag} {mg : Str → Option Value} {base : Heap} {CI CP : Addr}
/-! ### head -/
def spHead (CI : Addr) : Sp := fun vs H Q E => ∃ (v : V) (d : PyData), vs = [v] ∧ Dt H d v ∧ szA d ∧ (isV d = true → ∀ t H', Ex H H' → Dt H' (headD d) t → Q t H') ∧
  (isV d = false → ∀ dd H', Ex H H' → H' dd = some (.xd [("value", v)]) → E (.ref CI) (some dd) H')
theorem sc_head : FnScope ["value"] ["value"] (defScope s_head) := ⟨rfl, rfl, rfl, by decide +kernel, rfl, by decide +kernel, by decide +kernel⟩
theorem bi_head : BindsEq "head" s_head ["value"] := fun _ _ _ _ _ _ us hl => match us, hl with | [_], _ => rfl
theorem ok_head (F : Df K mg "head" s_head) (T : Txt K mg) (C_check_value : Cal P w K mg base (L2.CX P w) 5 "check_value" (spCheckV CI)) (C_head_of : Cal P w K mg base CX0 2 "head_of" spHeadOf) : Cal P w K mg base (L2.CX P w) 6 "head" (spHead CI) := by
  refine calX F sc_head bi_head (fun vs H Q E h => ?_) (fun f cdv A outer s H vs Q E hr h => ?_)
  · obtain ⟨v, d, rfl, _⟩ := h
    rfl
  · obtain ⟨v, d, rfl, hd, hz, k1, k2⟩ := h
    refine ⟨_, (pss_cons (ps_expr (pe_kP C_check_value hr (by decide) (passes_call (takes_of rfl rfl rfl rfl) (fun _ _ _ _ h => h)) rfl (pa_cons (pv 0) pa_nil)))
 (pss_one (ps_ret (pe_k C_head_of hr (by decide) rfl (pa_cons (pv 0) pa_nil))))), ?_⟩
    refine ⟨_, rfl, v, d, rfl, hd, hz, fun hv H1 e1 => ?_, k2⟩
    exact ⟨_, rfl, v, d, rfl, hd.ex e1, (isV_un hv).1, fun t H' e ht => k1 hv t H' (e1.trans e) ht⟩
/-! ### copy_of -/
theorem sc_copy_of : FnScope ["value", "name", "child"] ["value"] (defScope s_copy_of) := ⟨rfl, rfl, rfl, by decide +kernel, rfl, by decide +kernel, by decide +kernel⟩
theorem bi_copy_of : BindsEq "copy_of" s_copy_of ["value"] := fun _ _ _ _ _ _ us hl => match us, hl with | [_], _ => rfl
theorem ok_copy (F : Df K mg "copy_of" s_copy_of) (T : Txt K mg) : ∀ n, Cal P w K mg base CX0 (n + 1) "copy_of" (spTwin n)
  | 0 => cal_no F sc_copy_of bi_copy_of fun vs H Q E h => by
    obtain ⟨v, d, _, _, _, hc, _⟩ := h
    have := cnt_pos d
    omega
  | n + 1 => by
    have C_copy_of := ok_copy F T n
    refine cal0 F sc_copy_of bi_copy_of (fun vs H Q E h => ?_) (fun f cdv A outer s H vs Q E hr h => ?_)
    · obtain ⟨v, d, rfl, _⟩ := h
      rfl
    · obtain ⟨v, d, rfl, hd, ho, hc, k⟩ := h
      refine ⟨_, (pss_cons (ps_if (pt_val (pe_callB (isD K) rfl T.b_isinstance (by decide +kernel) (pa_cons (pv 0) (pa_cons (pe_bltn (v := .ty "dict") rfl T.b_dict (by decide +kernel) rfl) pa_nil)))) (pss_one (ps_lockA (ps_ret (pe_dc (own := [("name", 1)]) rfl sc_copy_of.nd (pi_ka (pv 0)) (blkOk_by (own := [("name", 1)]) (N := ["value", "name", "child"]) (sc := defScope s_copy_of) (by decide +kernel)) (fun _ _ _ _ _ => (pg_name (i := 1) sc_copy_of.nd rfl (Or.inl rfl))) (fun _ _ _ _ _ => pts_nil) (fun _ _ _ _ _ => (pv 1)) (fun _ _ _ _ _ => (pe_k C_copy_of hr (by omega) rfl (pa_cons (pe_ix (ixA K) (pv 0) (pv 1) (fun _ _ => rfl)) pa_nil))))))) pss_nil)
 (pss_cons (ps_if (pt_val (pe_callB (isD K) rfl T.b_isinstance (by decide +kernel) (pa_cons (pv 0) (pa_cons (pe_bltn (v := .ty "list") rfl T.b_list (by decide +kernel) rfl) pa_nil)))) (pss_one (ps_ret (pe_lc (own := [("child", 2)]) (by rfl) sc_copy_of.nd (pil K (pv 0)) (blkOk_by (own := [("child", 2)]) (N := ["value", "name", "child"]) (sc := defScope s_copy_of) (by decide +kernel)) (fun _ _ _ _ _ => (pg_name (i := 2) sc_copy_of.nd rfl (Or.inl rfl))) (fun _ _ _ _ _ => pts_nil) (fun _ _ _ _ _ => (pe_k C_copy_of hr (by omega) rfl (pa_cons (pv 2) pa_nil)))))) pss_nil)
 (pss_one (ps_ret (pv 0))))), ?_⟩
      have ho' := ho
      rw [okA_kids, Bool.and_eq_true] at ho'
      cases d with
      | list ds =>
        refine ⟨v, rfl, v, _, _, false, rfl, hd, rfl, _, rfl, if_f rfl ?_⟩
        refine ⟨v, rfl, v, _, _, true, rfl, hd, rfl, _, rfl, if_t rfl ?_⟩
        unfold Dt at hd
        obtain ⟨a, xs, rfl, hax, hl⟩ := hd
        have hlen := hl.len
        have h60 : ds.length < 60 := of_decide_eq_true ho'.1
        refine ⟨_, rfl, a, rfl, ⟨_, .inl hax⟩, fun D nD => lc_gr (walk_list (K := K) (a := a) (xs := xs)) (fun i acc Hc => TrL (ds.take i) (fr H Hc) acc) nD (by omega) (by unfold TrL; rfl) (fun H' e => .inl (rd_ex e hax)) ?_ ?_⟩
        · rintro i x acc Ho Hi hi e e' hD hl' hr' ⟨rfl, hx1⟩
          obtain ⟨c, hc1, hcd⟩ := hl.get hx1
          have hkid : c ∈ ds := List.mem_of_getElem? hc1
          have hcc : cnt c < cnt (.list ds) := cnt_kid (d := .list ds) hkid
          refine ⟨rfl, _, rfl, x, c, rfl, hcd.ex e, okL_mem ho'.2 hkid, by omega, fun u H4 e4 htr => lc_put e' hD hl' (by omega) e4 ?_⟩
          rw [List.take_add_one, hc1]
          exact TrL.snoc hr' htr fr_apart (fr_mono (del_grow' e4)) (fr_in hD (fun b hb => ex_free e hb))
        · rintro acc Hi e e' hD hl' hr'
          have e3 : ds.take xs.length = ds := List.take_of_length_le (by omega)
          rw [e3] at hr'
          refine k (.ref D) Hi e ?_
          unfold Tr
          exact ⟨D, acc, rfl, fr_get nD hD, hr'.ex fr_out⟩
      | dict kvs =>
        refine ⟨v, rfl, v, _, _, true, rfl, hd, rfl, _, rfl, if_t rfl ?_⟩
        obtain ⟨ha, hlen⟩ := allStr_of ho'.1
        obtain ⟨a, es, rfl, hae, nd, hk⟩ := dict_val hd ha
        have hnm := dtk_names hk ha
        have hks := names_kV hnm
        have nds := nodup_names hk ha nd
        have hln : (names kvs).length = kvs.length := by
          unfold names
          rw [List.length_map]
        refine lockA_eq hae True.intro ?_
        intro Hf o D' th hof hf rx hth hta kr _
        have dmf : ∀ b, Hf b = none → H b = none := fun b hb => by
          by_cases e : b = a
          · rw [e, hf] at hb
            cases hb
          · rw [hof _ e] at hb
            exact hb
        refine ⟨_, rfl, a, o, _, (names kvs).map V.str, rfl, hf, .inl ⟨es, rfl, hks.symm⟩, fun D nD => dc_it walk_ka (fun i Hi => ∃ es', Ex Hf (del Hi D) ∧ Hi D = some (.dK es') ∧ TrK (kvs.take i) (fr H (del Hi D)) es' ∧ es'.map (·.1) = ((names kvs).take i).map fun y => (Sum.inr y : Key)) ?_ ?_ ?_ ?_⟩
        · refine ⟨[], ?_, upd_same, by unfold TrK; rfl, rfl⟩
          rw [del_none nD]
          exact fun _ _ h => h
        · rintro i Hi _ ⟨es', h1, _⟩
          exact ex_del _ _ (h1 _ _ hf)
        · rintro i x Ho Hi hi ⟨es', g1, gD, gt, gk⟩ ⟨rfl, hx1⟩
          obtain ⟨y, hy, rfl⟩ : ∃ y, (names kvs)[i]? = some y ∧ V.str y = x := by
            rw [List.getElem?_map] at hx1
            cases hp : (names kvs)[i]? with
            | none => rw [hp] at hx1; cases hx1
            | some p => rw [hp] at hx1; exact ⟨p, rfl, Option.some.inj hx1⟩
          have hym := List.mem_of_getElem? hy
          have hkat := kvs_at ha nds hy
          have hkid : getN kvs y ∈ kids (.dict kvs) := List.mem_map.mpr ⟨_, List.mem_of_getElem? hkat, rfl⟩
          have hcc : cnt (getN kvs y) < cnt (.dict kvs) := cnt_kid hkid
          obtain ⟨u, hu1, hu2⟩ := dtk_get hk ha y hym
          have xfi : Ex Hf Hi := g1.trans ex_del
          have hri : RdX H Hi := rx.trans (rdx_ex xfi)
          have dmi : ∀ b, Hi b = none → H b = none := fun b hb => dmf b (ex_free xfi hb)
          refine ⟨rfl, _, rfl, _, rfl, _, rfl, .inr ⟨a, es, Sum.inr y, u, rfl, rfl, .inr ⟨o, xfi _ _ hf⟩, hu1, u, _, rfl, hu2.rdx hri, okL_mem ho'.2 hkid, by omega, fun w' H4 e4 htr => ?_⟩⟩
          have hl5 : es'.length ≤ 8 := by
            have := congrArg List.length gk
            rw [List.length_map, List.length_map, List.length_take] at this
            omega
          have hno : valV es' (Sum.inr y : Key) = none := val_keys (by
            rw [gk]
            intro hm
            obtain ⟨z, hz, hz2⟩ := List.mem_map.mp hm
            cases hz2
            exact nodup_take nds hy hz)
          refine ⟨es', Sum.inr y, rfl, e4 _ _ gD, szlt (by omega), _, ?_, upd_same, ?_, ?_⟩
          · rw [del_upd]
            exact g1.trans (del_grow' e4)
          · rw [putK_new _ hno, del_upd, List.take_add_one, hkat]
            exact TrK.snoc gt htr rfl fr_apart (fr_mono (del_grow' e4)) (fr_in gD dmi)
          · rw [putK_new _ hno, List.map_append, gk, List.take_add_one, hy, List.map_append]
            rfl
        · rintro Hi ⟨es', g1, gD, gt, gk⟩
          have xfi : Ex Hf Hi := g1.trans ex_del
          have hai := xfi _ _ hf
          obtain ⟨t1, t2⟩ := hta Hi hai
          have na : D ≠ a := fun z => by
            rw [z, hf] at nD
            cases nD
          have nDH := dmf _ nD
          refine kr _ Hi hai (k (.ref D) _ ?_ ?_)
          · intro b x q
            by_cases eb : b = a
            · rw [eb, t1]
              rw [eb] at q
              exact q
            · rw [hth _ _ eb]
              exact xfi b x (by rw [hof _ eb]; exact q)
          · have e3 : kvs.take ((names kvs).map V.str).length = kvs := List.take_of_length_le (by rw [List.length_map]; omega)
            have e4 : (names kvs).take ((names kvs).map V.str).length = names kvs := List.take_of_length_le (by rw [List.length_map]; omega)
            rw [e3] at gt
            rw [e4, ← hnm] at gk
            unfold Tr
            refine ⟨D, es', rfl, fr_get nDH (by rw [hth _ _ na]; exact gD), by rw [gk]; exact nd, gt.ex fun b x q => ?_⟩
            obtain ⟨n1, q⟩ := fr_some q
            have nb : b ≠ D := fun e => by
              rw [e, del_same] at q
              cases q
            have nba : b ≠ a := fun e => by
              obtain ⟨oo, q2⟩ := rd_some hae
              rw [e, q2] at n1
              cases n1
            exact del_get (fr_get n1 (by rw [hth _ _ nba]; exact ex_del _ _ q)) nb
      | _ =>
        refine ⟨v, rfl, v, _, _, false, rfl, hd, rfl, _, rfl, if_f rfl ?_⟩
        refine ⟨v, rfl, v, _, _, false, rfl, hd, rfl, _, rfl, if_f rfl ⟨_, rfl, k _ H (fun _ _ h => h) (tr_leaf hd ho (fun _ z => nomatch z) (fun _ z => nomatch z) _)⟩⟩
/-! ### at -/
/-- the steps of a place told as data lead as they do in the heap -/
theorem walk_heap {H : Hp} : ∀ {es : List PyData} {xs : List V} {d : PyData} {v : V}, Dt H d v → okA d = true → DtL H es xs → walkP d es = true → ∃ c u, Wk H v xs u ∧ Dt H c u ∧ At d xs c
  | [], xs, d, v, hd, ho, hl, h => by
    unfold DtL at hl
    subst hl
    exact ⟨d, v, rfl, hd, rfl⟩
  | e :: es, _, d, v, hd, ho, hl, h => by
    unfold DtL at hl
    obtain ⟨x, t, rfl, h1, h2⟩ := hl
    have h : (match stepP d e with | none => false | some c => walkP c es) = true := h
    cases hs : stepP d e with
    | none =>
      rw [hs] at h
      cases h
    | some c =>
      rw [hs] at h
      obtain ⟨u, hst, hu, hxe⟩ := step_heap hd ho h1 hs
      have hsd : stepD d x = some c := by
        rw [hxe]
        cases e with
        | int j => exact hs
        | str j => exact hs
        | _ => cases hs
      obtain ⟨c', u', w1, w2, w3⟩ := walk_heap hu (step_ok hsd ho) h2 h
      exact ⟨c', u', ⟨u, hst, w1⟩, w2, ⟨c, hsd, w3⟩⟩
theorem at_cnt : ∀ {p : List V} {d c : PyData}, At d p c → cnt c ≤ cnt d
  | [], d, c, h => by
    have h : c = d := h
    rw [h]
    exact Nat.le_refl _
  | s :: p, d, c, h => by
    obtain ⟨e, h1, h2⟩ := h
    have := cnt_kid (step_kid h1)
    have := at_cnt h2
    omega
def spAt (CI CP : Addr) : Sp := fun vs H Q E => ∃ (v x : V) (d e : PyData), vs = [v, x] ∧ Dt H d v ∧ szA d ∧ Dt H e x ∧
  (isV d = true → hasP d e = true → ∀ (b : Addr) (xs : List V) (c : PyData) (pv u : V) H', x = .ref b → L2.Rd H b (.tup xs) → Wk H v xs pv → Dt H c pv → At d xs c → Ex H H' → Tr c (fr H H') u → Q u H') ∧
  (isV d = true → hasP d e = false → ∀ dd H', Ex H H' → H' dd = some (.xd [("place", x)]) → E (.ref CP) (some dd) H') ∧
  (isV d = false → ∀ dd H', Ex H H' → H' dd = some (.xd [("value", v)]) → E (.ref CI) (some dd) H')
theorem sc_at : FnScope ["value", "place"] ["value", "place"] (defScope s_at) := ⟨rfl, rfl, rfl, by decide +kernel, rfl, by decide +kernel, by decide +kernel⟩
theorem bi_at : BindsEq "at" s_at ["value", "place"] := fun _ _ _ _ _ _ us hl => match us, hl with | [_, _], _ => rfl
theorem ok_at (F : Df K mg "at" s_at) (T : Txt K mg) (C_check_value : Cal P w K mg base (L2.CX P w) 5 "check_value" (spCheckV CI)) (C_has_place : Cal P w K mg base CX0 3 "has_place" spHasPlace) (C_part_at : Cal P w K mg base CX0 1 "part_at" spPartL)
    (C_copy_of : Cal P w K mg base CX0 61 "copy_of" (spTwin 60)) (X_InvalidPlace : XMk P w K mg base 1 "InvalidPlace" CP "place") : Cal P w K mg base (L2.CX P w) 62 "at" (spAt CI CP) := by
  refine calX F sc_at bi_at (fun vs H Q E h => ?_) (fun f cdv A outer s H vs Q E hr h => ?_)
  · obtain ⟨v, x, d, e, rfl, _⟩ := h
    rfl
  · obtain ⟨v, x, d, e, rfl, hd, hz, hx, k1, k2, k3⟩ := h
    refine ⟨_, (pss_cons (ps_expr (pe_kP C_check_value hr (by decide) (passes_call (takes_of rfl rfl rfl rfl) (fun _ _ _ _ h => h)) rfl (pa_cons (pv 0) pa_nil)))
 (pss_cons (ps_if (pt_not (pt_val (pe_k C_has_place hr (by decide) rfl (pa_cons (pv 0) (pa_cons (pv 1) pa_nil))))) (pss_one (ps_raise rfl (takes_of rfl rfl rfl rfl) (pmk_x X_InvalidPlace hr (by decide) rfl (pa_cons (pv 1) pa_nil)))) pss_nil)
 (pss_one (ps_ret (pe_k C_copy_of hr (by decide) rfl (pa_cons (pe_k C_part_at hr (by decide) rfl (pa_cons (pv 0) (pa_cons (pv 1) pa_nil))) pa_nil)))))), ?_⟩
    refine ⟨_, rfl, v, d, rfl, hd, hz, fun hv H1 e1 => ?_, k3⟩
    obtain ⟨ho, hc⟩ := isV_un hv
    refine ⟨_, rfl, _, rfl, v, x, d, e, rfl, hd.ex e1, ho, hx.ex e1, _, rfl, ?_⟩
    cases hp : hasP d e with
    | false => exact if_t rfl ⟨_, rfl, xmk_go fun dd H2 _ e2 hdd => k2 hv hp dd H2 (e1.trans e2) hdd⟩
    | true =>
      refine if_f rfl ?_
      cases e with
      | tuple es =>
        have hx2 := hx
        unfold Dt at hx2
        obtain ⟨b, xs, rfl, hb, hl⟩ := hx2
        obtain ⟨c, u, w1, w2, w3⟩ := walk_heap hd ho hl hp
        refine ⟨_, rfl, _, rfl, v, b, xs, u, rfl, rd_ex e1 hb, w1.ex e1, u, c, rfl, w2.ex e1, at_ok w3 ho, ?_, fun u' H2 e2 htr => ?_⟩
        · have := at_cnt w3
          omega
        · exact k1 hv hp b xs c u u' H2 rfl hb w1 w2 w3 (e1.trans e2) (htr.ex (fr_base (dm_ex e1)))
      | _ => cases hp
/-! ### _law_top -/
theorem sc__law_top : FnScope ["_law_value_here", "_law_one"] ["_law_value_here"] (defScope s__law_top) := ⟨rfl, rfl, rfl, by decide +kernel, rfl, by decide +kernel, by decide +kernel⟩
theorem bi__law_top : BindsEq "_law_top" s__law_top ["_law_value_here"] := fun _ _ _ _ _ _ us hl => match us, hl with | [_], _ => rfl
theorem ok_top (F : Df K mg "_law_top" s__law_top) (T : Txt K mg) : Cal P w K mg base CX0 1 "_law_top" spHeadOf := by
  refine cal0 F sc__law_top bi__law_top (fun vs H Q E h => ?_) (fun f cdv A outer s H vs Q E hr h => ?_)
  · obtain ⟨v, d, rfl, _⟩ := h
    rfl
  · obtain ⟨v, d, rfl, hd, ho, k⟩ := h
    refine ⟨_, (pss_cons (ps_if (pt_val (pe_callB (isD K) rfl T.b_isinstance (by decide +kernel) (pa_cons (pv 0) (pa_cons (pe_bltn (v := .ty "dict") rfl T.b_dict (by decide +kernel) rfl) pa_nil)))) (pss_one (ps_lockA (ps_ret (pe_tup (pa_cons pe_str (pa_cons (pe_callTy call_tuple_of rfl T.b_tuple (by decide +kernel) (pa_cons (pe_callB (srK K) rfl T.b_sorted (by decide +kernel) (pa_cons (pe_lc (own := [("_law_one", 1)]) (by rfl) sc__law_top.nd (pi_ka (pv 0)) (blkOk_by (own := [("_law_one", 1)]) (N := ["_law_value_here", "_law_one"]) (sc := defScope s__law_top) (by decide +kernel)) (fun _ _ _ _ _ => (pg_name (i := 1) sc__law_top.nd rfl (Or.inl rfl))) (fun _ _ _ _ _ => pts_nil) (fun _ _ _ _ _ => (pe_callTy strS rfl T.b_str (by decide +kernel) (pa_cons (pv 1) pa_nil)))) pa_nil)) pa_nil)) pa_nil)))))) pss_nil)
 (pss_cons (ps_if (pt_val (pe_callB (isD K) rfl T.b_isinstance (by decide +kernel) (pa_cons (pv 0) (pa_cons (pe_bltn (v := .ty "list") rfl T.b_list (by decide +kernel) rfl) pa_nil)))) (pss_one (ps_ret (pe_tup (pa_cons pe_str (pa_cons (pe_callB (lnA K) rfl T.b_len (by decide +kernel) (pa_cons (pv 0) pa_nil)) pa_nil))))) pss_nil)
 (pss_one (ps_ret (pe_ix (ixl K) (pe_lst (pa_cons (pe_tup (pa_cons pe_str (pa_cons (pv 0) pa_nil))) (pa_cons (pe_tup (pa_cons pe_str (pa_cons (pv 0) pa_nil))) pa_nil))) (pe_callTy call_int1 rfl T.b_int (by decide +kernel) (pa_cons (pe_callB (isD K) rfl T.b_isinstance (by decide +kernel) (pa_cons (pv 0) (pa_cons (pe_bltn (v := .ty "str") rfl T.b_str (by decide +kernel) rfl) pa_nil))) pa_nil)) (fun _ _ => rfl)))))), ?_⟩
    have ho' := ho
    rw [okA_kids, Bool.and_eq_true] at ho'
    cases d with
    | dict kvs =>
      refine ⟨v, rfl, v, _, _, true, rfl, hd, rfl, _, rfl, if_t rfl ?_⟩
      obtain ⟨ha, hlen⟩ := allStr_of ho'.1
      obtain ⟨a, es, rfl, hae, nd, hk⟩ := dict_val hd ha
      have hnm := dtk_names hk ha
      have hks := names_kV hnm
      have hln : (names kvs).length = kvs.length := by
        unfold names
        rw [List.length_map]
      refine lockA_any hae True.intro ?_
      intro Hf o D' th rx hf hno hth kf _
      refine ⟨_, rfl, a, o, _, (names kvs).map V.str, rfl, hf, .inl ⟨es, rfl, hks.symm⟩, fun D1 nD1 => lc_gr walk_ka (fun i acc _ => acc = ((names kvs).take i).map V.str) nD1 (by rw [List.length_map]; omega) rfl (fun H' e => e _ _ hf) ?_ ?_⟩
      · rintro i x acc Ho Hi hi e e' hD hl rfl ⟨rfl, hx1⟩
        obtain ⟨y, hy, rfl⟩ : ∃ y, (names kvs)[i]? = some y ∧ V.str y = x := by
          rw [List.getElem?_map] at hx1
          cases hp : (names kvs)[i]? with
          | none => rw [hp] at hx1; cases hx1
          | some p => rw [hp] at hx1; exact ⟨p, rfl, Option.some.inj hx1⟩
        refine ⟨rfl, _, rfl, y, rfl, lc_put e' hD hl (by rw [List.length_map] at hi; omega) (fun _ _ h => h) ?_⟩
        rw [List.take_add_one, List.map_append, hy]
        rfl
      · rintro acc H2 e e' hD hl rfl
        have e1 : (names kvs).take ((names kvs).map V.str).length = names kvs := List.take_of_length_le (by rw [List.length_map]; exact Nat.le_refl _)
        rw [e1] at hD
        refine ⟨D1, names kvs, rfl, SqLo hD, by omega, fun ys py pp sy np => ?_⟩
        have x2_3 : Ex H2 (upd H2 py (.lst (ys.map V.str))) := Ex.new np
        refine ⟨py, _, rfl, .inl ⟨SqLo upd_same, fun p4 np4 => ?_⟩⟩
        obtain ⟨H4, hH4, x3_4, h4⟩ := newH _ np4
        rw [hH4]
        clear hH4
        refine ⟨szl (by show 2 ≤ 100000; decide), fun p5 np5 => ?_⟩
        have x4_5 : Ex H4 (upd H4 p5 (.tup [V.str "record", V.ref p4])) := Ex.new np5
        have xf5 := e.trans (x2_3.trans (x3_4.trans x4_5))
        refine kf _ _ xf5 ?_
        obtain ⟨t1, t2, t3⟩ := hth _ xf5
        refine k _ _ t1 (Dt.rdx t2 (dt_tup upd_same (DtL.cons (dt_str _) (DtL.cons (dt_tup (x4_5 _ _ h4) ?_) DtL.nil))))
        rw [← srt_of pp sy]
        have : ∀ (l : List Str) (HH : Hp), DtL HH (l.map PyData.str) (l.map V.str) := by
          intro l HH
          induction l with
          | nil => exact DtL.nil
          | cons a r ih => exact DtL.cons (dt_str _) ih
        exact this _ _
    | list ds =>
      refine ⟨v, rfl, v, _, _, false, rfl, hd, rfl, _, rfl, if_f rfl ?_⟩
      refine ⟨v, rfl, v, _, _, true, rfl, hd, rfl, _, rfl, if_t rfl ?_⟩
      unfold Dt at hd
      obtain ⟨a, xs, rfl, hax, hl⟩ := hd
      refine ⟨_, rfl, .inl ⟨_, xs.length, rfl, .inl ⟨xs, .inl hax, rfl⟩, szl (by show 2 ≤ 100000; decide), fun p4 np4 => ?_⟩⟩
      rw [hl.len]
      exact k _ _ (Ex.new np4) (dt_tup upd_same (DtL.cons (dt_str _) (DtL.cons (dt_int _) DtL.nil)))
    | str x =>
      refine ⟨v, rfl, v, _, _, false, rfl, hd, rfl, _, rfl, if_f rfl ?_⟩
      refine ⟨v, rfl, v, _, _, false, rfl, hd, rfl, _, rfl, if_f rfl ?_⟩
      refine ⟨_, rfl, szl (by show 2 ≤ 100000; decide), fun p1 np1 => ?_⟩
      obtain ⟨H1, hH1, x0_1, h1⟩ := newH _ np1
      rw [hH1]
      clear hH1
      have f1 := np1
      refine ⟨_, rfl, szl (by show 2 ≤ 100000; decide), fun p2 np2 => ?_⟩
      obtain ⟨H2, hH2, x1_2, h2⟩ := newH _ np2
      rw [hH2]
      clear hH2
      have x0_2 := x0_1.trans x1_2
      have f2 := ex_free x0_1 np2
      refine ⟨szl (by show 2 ≤ 100000; decide), fun p3 np3 => ?_⟩
      obtain ⟨H3, hH3, x2_3, h3⟩ := newH _ np3
      rw [hH3]
      clear hH3
      have x0_3 := x0_2.trans x2_3
      have x1_3 := x1_2.trans x2_3
      have f3 := ex_free x0_2 np3
      refine ⟨_, rfl, v, _, _, true, rfl, hd.ex x0_3, rfl, .inr ⟨_, rfl, p3, _, _, _, rfl, rfl, SqLo h3, (show atI [V.ref p1, V.ref p2] 1 = some (V.ref p2) from rfl), k _ _ x0_3 (dt_tup (x2_3 _ _ h2) (DtL.cons (dt_str _) (DtL.cons (hd.ex x0_3) DtL.nil)))⟩⟩
    | int x =>
      refine ⟨v, rfl, v, _, _, false, rfl, hd, rfl, _, rfl, if_f rfl ?_⟩
      refine ⟨v, rfl, v, _, _, false, rfl, hd, rfl, _, rfl, if_f rfl ?_⟩
      refine ⟨_, rfl, szl (by show 2 ≤ 100000; decide), fun p1 np1 => ?_⟩
      obtain ⟨H1, hH1, x0_1, h1⟩ := newH _ np1
      rw [hH1]
      clear hH1
      have f1 := np1
      refine ⟨_, rfl, szl (by show 2 ≤ 100000; decide), fun p2 np2 => ?_⟩
      obtain ⟨H2, hH2, x1_2, h2⟩ := newH _ np2
      rw [hH2]
      clear hH2
      have x0_2 := x0_1.trans x1_2
      have f2 := ex_free x0_1 np2
      refine ⟨szl (by show 2 ≤ 100000; decide), fun p3 np3 => ?_⟩
      obtain ⟨H3, hH3, x2_3, h3⟩ := newH _ np3
      rw [hH3]
      clear hH3
      have x0_3 := x0_2.trans x2_3
      have x1_3 := x1_2.trans x2_3
      have f3 := ex_free x0_2 np3
      refine ⟨_, rfl, v, _, _, false, rfl, hd.ex x0_3, rfl, .inr ⟨_, rfl, p3, _, _, _, rfl, rfl, SqLo h3, (show atI [V.ref p1, V.ref p2] 0 = some (V.ref p1) from rfl), k _ _ x0_3 (dt_tup (x1_3 _ _ h1) (DtL.cons (dt_str _) (DtL.cons (hd.ex x0_3) DtL.nil)))⟩⟩
    | _ => cases ho
end
end VL

namespace LW
open PySem PySem.Spec L2
/-- list(x), x a list, a tuple or a dict -/
def rLofA (K : PySem.W.Frag) : List V → Hp → VK → Prop := fun xs H Q => rLof K xs H Q ∨ ∃ (a : Addr) (kvs : List (Key × V)), xs = [.ref a] ∧ L2.Rd H a (.dK kvs) ∧ ∀ p, H p = none → Q (.ref p) (upd H p (.lst (kvs.map fun kv => kV kv.1)))
theorem lofA {X : Cx} (K : PySem.W.Frag) (hc : X.calm = true) (hK : X.K = K := by rfl) : CallR X (.type "list") (rLofA K) := by
  intro pins s σ H xs us Q I r h
  rcases h with h | h
  · exact lofK K hK pins s σ H xs us Q I r h
  · exact call_listD hc pins s σ H xs us Q I r h
end LW
namespace VL
open PySem PySem.Spec L2 LW
open Evl (Ex)
/-! ### _law_spoil -/
/-- what is known stays but in S -/
def Out (S H H' : Hp) : Prop := ∀ b o, S b = none → H b = some o → H' b = some o
def noH : Hp := fun _ => none
theorem out_ex {S H H' : Hp} (e : Ex H H') : Out S H H' := fun b o _ q => e b o q
theorem ex_out {H H' : Hp} (h : Out noH H H') : Ex H H' := fun b o q => h b o rfl q
theorem noH_ex {H : Hp} : Ex noH H := fun _ _ q => by cases q
def FlatT (H : Hp) (v : V) : Prop := ∃ b vs, v = .ref b ∧ L2.Rd H b (.tup vs) ∧ ∀ u ∈ vs, flat2 u
theorem FlatT.ex {H H' : Hp} (e : Ex H H') {v : V} (h : FlatT H v) : FlatT H' v := by
  obtain ⟨b, vs, rfl, h1, h2⟩ := h
  exact ⟨b, vs, rfl, rd_ex e h1, h2⟩
def SpOk (n : Nat) (H S : Hp) (v : V) : Prop := (1 ≤ n ∧ flat2 v) ∨ (2 ≤ n ∧ FlatT H v) ∨ (3 ≤ n ∧ ∃ a ts, v = .ref a ∧ S a = some (.lst ts) ∧ ts.length ≤ 1000 ∧ ∀ t ∈ ts, FlatT H t) ∨ ∃ d, Tr d S v ∧ cnt d ≤ n ∧ okA d = true
theorem ty_tt {K : PySem.W.Frag} : PySem.W.kitOne K (.type "tuple") (.type "tuple") = some true := rfl
theorem ty_tl {K : PySem.W.Frag} : PySem.W.kitOne K (.type "tuple") (.type "list") = some false := rfl
theorem ty_td {K : PySem.W.Frag} : PySem.W.kitOne K (.type "tuple") (.type "dict") = some false := rfl
theorem rd_tyT {K : PySem.W.Frag} {H : Hp} {b : Addr} {vs : List V} (h : L2.Rd H b (.tup vs)) : TyX K H (.ref b) (.type "tuple") := by
  rcases h with h | ⟨o, h⟩
  · exact .base (.tup h)
  · exact .fTuple h
theorem drop_at {α : Type} {xs : List α} {i : Nat} {x : α} (h : xs[i]? = some x) : xs.drop i = x :: xs.drop (i + 1) := by
  obtain ⟨h1, h2⟩ := List.getElem?_eq_some_iff.mp h
  rw [List.drop_eq_getElem_cons h1, h2]
theorem val_at {es : List (Key × V)} (nd : (es.map (·.1)).Nodup) {p : Key × V} (h : p ∈ es) : valV es p.1 = some p.2 := by
  induction es with
  | nil => cases h
  | cons q r ih =>
    rw [List.map_cons, List.nodup_cons] at nd
    rcases List.mem_cons.mp h with rfl | h
    · exact valV_pos (p := p) rfl
    · rw [valV_neg (p := q) fun e => nd.1 (by rw [e]; exact List.mem_map_of_mem h)]
      exact ih nd.2 h
section
variable {P : Program} {w : World} {K : PySem.W.Frag} {mg : Str → Option Value} {base : Heap}
def spSpoil (n : Nat) : Sp := fun vs H Q _ => ∃ (v : V) (S : Hp), vs = [v] ∧ Ex S H ∧ SpOk n H S v ∧ ∀ H', Out S H H' → Q .non H'
theorem sc__law_spoil : FnScope ["_law_thing", "_law_one", "_law_name"] ["_law_thing"] (defScope s__law_spoil) := ⟨rfl, rfl, rfl, by decide +kernel, rfl, by decide +kernel, by decide +kernel⟩
theorem bi__law_spoil : BindsEq "_law_spoil" s__law_spoil ["_law_thing"] := fun _ _ _ _ _ _ us hl => match us, hl with | [_], _ => rfl
theorem ok_spoil (F : Df K mg "_law_spoil" s__law_spoil) (T : Txt K mg) : ∀ n, Cal P w K mg base CX0 (n + 1) "_law_spoil" (spSpoil n)
  | 0 => cal_no F sc__law_spoil bi__law_spoil fun vs H Q E h => by
    obtain ⟨v, S, _, _, hs, _⟩ := h
    rcases hs with ⟨h, _⟩ | ⟨h, _⟩ | ⟨h, _⟩ | ⟨d, _, h, _⟩
    · omega
    · omega
    · omega
    · have := cnt_pos d
      omega
  | n + 1 => by
    have C__law_spoil := ok_spoil F T n
    refine cal0 F sc__law_spoil bi__law_spoil (fun vs H Q E h => ?_) (fun f cdv A outer s H vs Q E hr h => ?_)
    · obtain ⟨v, S, rfl, _⟩ := h
      rfl
    · obtain ⟨v, S, rfl, hS, hs, k⟩ := h
      have hu : (A.deeper (PyProof.Rows.envOfC "_law_spoil" (defScope s__law_spoil) s.heap.objs.size f cdv)).units + 1 < cLine := by have := hr.un; omega
      refine ⟨_, (pss_cons (ps_if (pt_val (pe_callB (isiK K) rfl T.b_isinstance (by decide +kernel) (pa_cons (pv 0) (pa_cons (pe_bltn (v := .ty "tuple") rfl T.b_tuple (by decide +kernel) rfl) pa_nil)))) (pss_one (ps_for PassesOwn.never rfl (pit K (pv 0)) (pg_name (i := 1) sc__law_spoil.nd rfl (Or.inl rfl)) (pss_one (ps_expr (pe_k C__law_spoil hr (by omega) rfl (pa_cons (pv 1) pa_nil)))))) pss_nil)
 (pss_cons (ps_if (pt_val (pe_callB (isiK K) rfl T.b_isinstance (by decide +kernel) (pa_cons (pv 0) (pa_cons (pe_bltn (v := .ty "list") rfl T.b_list (by decide +kernel) rfl) pa_nil)))) (pss_cons (ps_for PassesOwn.never rfl (pil K (pe_callTy (lofA K rfl) rfl T.b_list (by decide +kernel) (pa_cons (pv 0) pa_nil))) (pg_name (i := 1) sc__law_spoil.nd rfl (Or.inl rfl)) (pss_one (ps_expr (pe_k C__law_spoil hr (by omega) rfl (pa_cons (pv 1) pa_nil)))))
 (pss_one (ps_expr (pe_bm PySem.F.plainAttrs_list PySem.F.slot_list_append PySem.F.type_list_append mt_append (pv 0) (pa_cons pe_str pa_nil))))) pss_nil)
 (pss_one (ps_if (pt_val (pe_callB (isiK K) rfl T.b_isinstance (by decide +kernel) (pa_cons (pv 0) (pa_cons (pe_bltn (v := .ty "dict") rfl T.b_dict (by decide +kernel) rfl) pa_nil)))) (pss_cons (ps_for PassesOwn.never rfl (pil K (pe_callTy (lofA K rfl) rfl T.b_list (by decide +kernel) (pa_cons (pv 0) pa_nil))) (pg_name (i := 2) sc__law_spoil.nd rfl (Or.inl rfl)) (pss_one (ps_expr (pe_k C__law_spoil hr (by omega) rfl (pa_cons (pe_ix (ixA K) (pv 0) (pv 2) (fun _ _ => rfl)) pa_nil)))))
 (pss_one (ps_dput hu (pv 0) pe_str pe_str rfl))) pss_nil)))), ?_⟩
      rcases hs with ⟨_, hf⟩ | ⟨h2, b, vs, rfl, hb, hfl⟩ | ⟨h3, a, ts, rfl, ha, htl, hts⟩ | ⟨d, htr, hc, ho⟩
      · -- a leaf
        have q := k H (out_ex fun _ _ h => h)
        rcases hf with ⟨i, rfl⟩ | ⟨i, rfl⟩
        · refine ⟨_, rfl, _, _, _, _, _, rfl, .ty "tuple", .base (.int _), rfl, _, rfl, if_f rfl ?_⟩
          refine ⟨_, rfl, _, _, _, _, _, rfl, .ty "list", .base (.int _), rfl, _, rfl, if_f rfl ?_⟩
          exact ⟨_, rfl, _, _, _, _, _, rfl, .ty "dict", .base (.int _), rfl, _, rfl, if_f rfl q⟩
        · refine ⟨_, rfl, _, _, _, _, _, rfl, .ty "tuple", .base (.str _), rfl, _, rfl, if_f rfl ?_⟩
          refine ⟨_, rfl, _, _, _, _, _, rfl, .ty "list", .base (.str _), rfl, _, rfl, if_f rfl ?_⟩
          exact ⟨_, rfl, _, _, _, _, _, rfl, .ty "dict", .base (.str _), rfl, _, rfl, if_f rfl q⟩
      · -- a tuple of leaves
        refine ⟨_, rfl, _, _, _, _, _, rfl, .ty "tuple", rd_tyT hb, rfl, _, rfl, if_t rfl ?_⟩
        refine ⟨_, rfl, b, rfl, ⟨_, .inl hb⟩, for_it (walk_tup (K := K) (a := b) (xs := vs)) (fun i σ' Hi => ∃ o1, σ' = [some (.ref b), o1, none] ∧ Ex H Hi) ?_ ?_ ?_ ?_⟩
        · exact ⟨none, rfl, fun _ _ h => h⟩
        · rintro i σ' Hi _ ⟨_, _, e⟩
          exact .inl (rd_ex e hb)
        · rintro i x σ' Ho Hi hi ⟨o1, rfl, e⟩ ⟨rfl, hx⟩
          exact ⟨_, rfl, x, noH, rfl, noH_ex, .inl ⟨by omega, hfl x (List.mem_of_getElem? hx)⟩, fun H' h' => ⟨_, rfl, e.trans (ex_out h')⟩⟩
        · rintro σ' Hi ⟨o1, rfl, e⟩
          refine ⟨_, rfl, _, _, _, _, _, rfl, .ty "list", rd_tyT (rd_ex e hb), rfl, _, rfl, if_f rfl ?_⟩
          exact ⟨_, rfl, _, _, _, _, _, rfl, .ty "dict", rd_tyT (rd_ex e hb), rfl, _, rfl, if_f rfl (k Hi (out_ex e))⟩
      · -- a list of tuples
        have hH := hS _ _ ha
        refine ⟨_, rfl, _, _, _, _, _, rfl, .ty "tuple", .base (.lst hH), rfl, _, rfl, if_f rfl ?_⟩
        refine ⟨_, rfl, _, _, _, _, _, rfl, .ty "list", .base (.lst hH), rfl, _, rfl, if_t rfl ?_⟩
        refine ⟨_, rfl, .inl ⟨a, ts, rfl, .inl (SqLo hH), fun l nl => ?_⟩⟩
        have x1 : Ex H (upd H l (.lst ts)) := Ex.new nl
        refine ⟨l, rfl, ⟨_, SqLo upd_same⟩, for_it (walk_list (K := K) (a := l) (xs := ts)) (fun i σ' Hi => ∃ o1, σ' = [some (.ref a), o1, none] ∧ Ex (upd H l (.lst ts)) Hi) ?_ ?_ ?_ ?_⟩
        · exact ⟨none, rfl, fun _ _ h => h⟩
        · rintro i σ' Hi _ ⟨_, _, e⟩
          exact SqLo (e _ _ upd_same)
        · rintro i x σ' Ho Hi hi ⟨o1, rfl, e⟩ ⟨rfl, hx⟩
          exact ⟨_, rfl, x, noH, rfl, noH_ex, .inr (.inl ⟨by omega, (hts x (List.mem_of_getElem? hx)).ex (x1.trans e)⟩), fun H' h' => ⟨_, rfl, e.trans (ex_out h')⟩⟩
        · rintro σ' Hi ⟨o1, rfl, e⟩
          have hi := (x1.trans e) _ _ hH
          refine ⟨_, rfl, .inl ⟨rfl, _, SqLo hi⟩, a, ts, _, rfl, rfl, hi, szlt (by omega), ?_⟩
          refine ⟨_, rfl, _, _, _, _, _, rfl, .ty "dict", .base (.lst upd_same), rfl, _, rfl, if_f rfl (k _ fun b o hb q => ?_)⟩
          have nb : b ≠ a := fun z => by
            rw [z, ha] at hb
            cases hb
          rw [upd_ne nb]
          exact (x1.trans e) _ _ q
      · -- a tree
        cases d with
        | int i =>
          unfold Tr at htr
          subst htr
          refine ⟨_, rfl, _, _, _, _, _, rfl, .ty "tuple", .base (.int _), rfl, _, rfl, if_f rfl ?_⟩
          refine ⟨_, rfl, _, _, _, _, _, rfl, .ty "list", .base (.int _), rfl, _, rfl, if_f rfl ?_⟩
          exact ⟨_, rfl, _, _, _, _, _, rfl, .ty "dict", .base (.int _), rfl, _, rfl, if_f rfl (k H (out_ex fun _ _ h => h))⟩
        | str i =>
          unfold Tr at htr
          subst htr
          refine ⟨_, rfl, _, _, _, _, _, rfl, .ty "tuple", .base (.str _), rfl, _, rfl, if_f rfl ?_⟩
          refine ⟨_, rfl, _, _, _, _, _, rfl, .ty "list", .base (.str _), rfl, _, rfl, if_f rfl ?_⟩
          exact ⟨_, rfl, _, _, _, _, _, rfl, .ty "dict", .base (.str _), rfl, _, rfl, if_f rfl (k H (out_ex fun _ _ h => h))⟩
        | list ds =>
          unfold Tr at htr
          obtain ⟨a, vs, rfl, ha, hl⟩ := htr
          have hH := hS _ _ ha
          have ho' := ho
          rw [okA_kids, Bool.and_eq_true] at ho'
          have hlen : vs.length = ds.length := (TrL.dt hl).len
          have h60 : ds.length < 60 := of_decide_eq_true ho'.1
          refine ⟨_, rfl, _, _, _, _, _, rfl, .ty "tuple", .base (.lst hH), rfl, _, rfl, if_f rfl ?_⟩
          refine ⟨_, rfl, _, _, _, _, _, rfl, .ty "list", .base (.lst hH), rfl, _, rfl, if_t rfl ?_⟩
          refine ⟨_, rfl, .inl ⟨a, vs, rfl, .inl (SqLo hH), fun l nl => ?_⟩⟩
          obtain ⟨H1, hH1, x0_1, h1⟩ := newH _ nl
          rw [hH1]
          clear hH1
          have hdS : del S a a = none := del_same
          have hSl : del S a l = none := by
            cases q : S l with
            | none =>
              by_cases e : l = a
              · rw [e]
                exact del_same
              · rw [del_ne e]
                exact q
            | some o =>
              rw [hS _ _ q] at nl
              cases nl
          refine ⟨l, rfl, ⟨_, SqLo h1⟩, for_it (walk_list (K := K) (a := l) (xs := vs)) (fun i σ' Hi => ∃ o1 B, σ' = [some (.ref a), o1, none] ∧ TrL (ds.drop i) B (vs.drop i) ∧ Ex B (del S a) ∧ Ex B Hi ∧ Out (del S a) H1 Hi) ?_ ?_ ?_ ?_⟩
          · exact ⟨none, del S a, rfl, hl, (fun _ _ h => h), (ex_del.trans hS).trans x0_1, out_ex fun _ _ h => h⟩
          · rintro i σ' Hi _ ⟨o1, B, _, _, _, _, e⟩
            exact SqLo (e _ _ hSl h1)
          · rintro i x σ' Ho Hi hi ⟨o1, B, rfl, ht, eS, eH, e⟩ ⟨rfl, hx⟩
            have hdx : ∃ c, ds[i]? = some c := ⟨_, List.getElem?_eq_getElem (by rw [← hlen]; exact hi)⟩
            obtain ⟨c, hc1⟩ := hdx
            rw [drop_at hx, drop_at hc1] at ht
            unfold TrL at ht
            obtain ⟨v', t', A1, B1, ev, eA, eB, ap, t1, t2⟩ := ht
            cases ev
            have hkid : c ∈ ds := List.mem_of_getElem? hc1
            have hcc : cnt c < cnt (.list ds) := cnt_kid (d := .list ds) hkid
            refine ⟨_, rfl, x, A1, rfl, eA.trans eH, .inr (.inr (.inr ⟨c, t1, by omega, okL_mem ho'.2 hkid⟩)), fun H' h' => ⟨_, B1, rfl, t2, eB.trans eS, fun b o q => ?_, fun b o hb q => ?_⟩⟩
            · refine h' b o ?_ ((eB.trans eH) b o q)
              rcases ap b with z | z
              · exact z
              · rw [z] at q
                cases q
            · exact h' b o (ex_free (eA.trans eS) hb) (e b o hb q)
          · rintro σ' Hi ⟨o1, B, rfl, ht, eS, eH, e⟩
            have hi := e _ _ hdS (x0_1 _ _ hH)
            refine ⟨_, rfl, .inl ⟨rfl, _, SqLo hi⟩, a, vs, _, rfl, rfl, hi, szlt (by omega), ?_⟩
            refine ⟨_, rfl, _, _, _, _, _, rfl, .ty "dict", .base (.lst upd_same), rfl, _, rfl, if_f rfl (k _ fun b o hb q => ?_)⟩
            have nb : b ≠ a := fun z => by
              rw [z, ha] at hb
              cases hb
            rw [upd_ne nb]
            exact e b o (by rw [del_ne nb]; exact hb) (x0_1 _ _ q)
        | dict kvs =>
          unfold Tr at htr
          obtain ⟨a, es, rfl, ha, nd, hl⟩ := htr
          have hH := hS _ _ ha
          have ho' := ho
          rw [okA_kids, Bool.and_eq_true] at ho'
          have hlen : es.length = kvs.length := DtK.len (TrK.dt hl)
          have h8 : kvs.length ≤ 8 := (allStr_of ho'.1).2
          refine ⟨_, rfl, _, _, _, _, _, rfl, .ty "tuple", .base (.dK hH), rfl, _, rfl, if_f rfl ?_⟩
          refine ⟨_, rfl, _, _, _, _, _, rfl, .ty "list", .base (.dK hH), rfl, _, rfl, if_f rfl ?_⟩
          refine ⟨_, rfl, _, _, _, _, _, rfl, .ty "dict", .base (.dK hH), rfl, _, rfl, if_t rfl ?_⟩
          refine ⟨_, rfl, .inr ⟨a, es, rfl, .inl hH, fun l nl => ?_⟩⟩
          obtain ⟨H1, hH1, x0_1, h1⟩ := newH _ nl
          rw [hH1]
          clear hH1
          have hdS : del S a a = none := del_same
          have hSl : del S a l = none := by
            cases q : S l with
            | none =>
              by_cases e : l = a
              · rw [e]
                exact del_same
              · rw [del_ne e]
                exact q
            | some o =>
              rw [hS _ _ q] at nl
              cases nl
          refine ⟨l, rfl, ⟨_, SqLo h1⟩, for_it (walk_list (K := K) (a := l) (xs := es.map fun kv => kV kv.1)) (fun i σ' Hi => ∃ o2 B, σ' = [some (.ref a), none, o2] ∧ TrK (kvs.drop i) B (es.drop i) ∧ Ex B (del S a) ∧ Ex B Hi ∧ Out (del S a) H1 Hi) ?_ ?_ ?_ ?_⟩
          · exact ⟨none, del S a, rfl, hl, (fun _ _ h => h), (ex_del.trans hS).trans x0_1, out_ex fun _ _ h => h⟩
          · rintro i σ' Hi _ ⟨o1, B, _, _, _, _, e⟩
            exact SqLo (e _ _ hSl h1)
          · rintro i x σ' Ho Hi hi ⟨o1, B, rfl, ht, eS, eH, e⟩ ⟨rfl, hx⟩
            rw [List.length_map] at hi
            obtain ⟨c, hc1⟩ : ∃ c, kvs[i]? = some c := ⟨_, List.getElem?_eq_getElem (by omega)⟩
            obtain ⟨pe, hpe⟩ : ∃ pe, es[i]? = some pe := ⟨_, List.getElem?_eq_getElem hi⟩
            have hxe : x = kV pe.1 := by
              rw [List.getElem?_map, hpe] at hx
              exact (Option.some.inj hx).symm
            subst hxe
            obtain ⟨kc, dc⟩ := c
            rw [drop_at hpe, drop_at hc1] at ht
            unfold TrK at ht
            obtain ⟨xk, v', t', A1, B1, ev, hkk, eA, eB, ap, t1, t2⟩ := ht
            obtain ⟨e1, e2⟩ := List.cons.inj ev
            subst e1 e2
            have hkid : dc ∈ kids (.dict kvs) := List.mem_map.mpr ⟨_, List.mem_of_getElem? hc1, rfl⟩
            have hcc : cnt dc < cnt (.dict kvs) := cnt_kid hkid
            have hai := e _ _ hdS (x0_1 _ _ hH)
            refine ⟨_, rfl, _, rfl, .inr ⟨a, es, xk, v', rfl, rfl, .inl hai, val_at nd (List.mem_of_getElem? hpe), ?_⟩⟩
            refine ⟨v', A1, rfl, eA.trans eH, .inr (.inr (.inr ⟨dc, t1, by omega, okL_mem ho'.2 hkid⟩)), fun H' h' => ⟨_, B1, rfl, t2, eB.trans eS, fun b o q => ?_, fun b o hb q => ?_⟩⟩
            · refine h' b o ?_ ((eB.trans eH) b o q)
              rcases ap b with z | z
              · exact z
              · rw [z] at q
                cases q
            · exact h' b o (ex_free (eA.trans eS) hb) (e b o hb q)
          · rintro σ' Hi ⟨o1, B, rfl, ht, eS, eH, e⟩
            have hi := e _ _ hdS (x0_1 _ _ hH)
            refine ⟨_, rfl, a, _, rfl, DPut.k (k := Sum.inr "spoilt") hi (szlt (by omega)), k _ fun b o hb q => ?_⟩
            have nb : b ≠ a := fun z => by
              rw [z, ha] at hb
              cases hb
            rw [upd_ne nb]
            exact e b o (by rw [del_ne nb]; exact hb) (x0_1 _ _ q)
        | _ => cases ho
end
end VL

namespace VL
open PySem PySem.Spec L2 LW
open Evl (Ex)
section
variable {P : Program} {w : World} {K : PySem.W.Frag} {mg : Str → Option Value} {base : Heap} {CC CI CP : Addr}
/-! ### InvalidPlace -/
theorem sc_InvalidPlace___init__ : FnScope ["self", "place"] ["self", "place"] (defScope s_InvalidPlace___init__) := ⟨rfl, rfl, rfl, by decide +kernel, rfl, by decide +kernel, by decide +kernel⟩
theorem bi_InvalidPlace___init__ : BindsM "__init__" "InvalidPlace.__init__" s_InvalidPlace___init__ ["self", "place"] := fun _ _ _ _ _ _ us hl => match us, hl with | [_, _], _ => rfl
theorem ok_pinit {f0 : Addr} {fd0 : FuncData} (F : FunD K "__init__" "InvalidPlace.__init__" (defArgs s_InvalidPlace___init__) (defBody s_InvalidPlace___init__) (defScope s_InvalidPlace___init__) [] [] f0 fd0) (ox : OexC K CP) (no : PySem.W.findIn K (.ref CP) "place" = some none) :
    FnOk P w K mg base CX0 1 f0 fd0 ["self", "place"] (spXI K CP "place") := by
  refine F.ok sc_InvalidPlace___init__ (fun vs H Q E h => ?_) (fun cdv A outer s H vs Q E hr h => ?_)
  · obtain ⟨a, v, rfl, _⟩ := h
    rfl
  · obtain ⟨a, v, rfl, ha, k⟩ := h
    refine ⟨_, PSs.nox (pss_one (ps_ost (pv 0) (pv 1))), ?_⟩
    exact ⟨_, rfl, _, rfl, a, CP, rfl, ox, no, .inl ⟨ha, fun dx h1 h2 => k dx h1 h2⟩⟩
/-! ### _law_told -/
structure TxP (K : PySem.W.Frag) (mg : Str → Option Value) (CC CI CP : Addr) : Prop where
  gC : mg "CheckError" = some (.ref CC)
  gI : mg "InvalidValue" = some (.ref CI)
  gP : mg "InvalidPlace" = some (.ref CP)
  xI : ExcD K CI
  xP : ExcD K CP
  nI : PySem.W.findIn K (.ref CI) "value" = some none
  nP : PySem.W.findIn K (.ref CP) "place" = some none
  eI : PySem.W.exmOne K (.ref CI) (.ref CC) = some true
  eP : PySem.W.exmOne K (.ref CP) (.ref CC) = some true
  kII : PySem.W.kitOne K (.ref CI) (.ref CI) = some true
  kIP : PySem.W.kitOne K (.ref CI) (.ref CP) = some false
  kPP : PySem.W.kitOne K (.ref CP) (.ref CP) = some true
  kPI : PySem.W.kitOne K (.ref CP) (.ref CI) = some false
def tIsY (K : PySem.W.Frag) (C : Addr) (a : Addr) (cls : Value) (d : Option Addr) : TE := tCB (rIsX K cls d a) (tCons (tVar 3) (tCons (tC (.ref C)) tNil))
def tSuiteT (K : PySem.W.Frag) (CI CP : Addr) : Addr → Value → Option Addr → TS := fun a cls d =>
  tSeq (tIfS (tAnd (tB (tIsY K CP a cls d)) (tNot (tB (tIsY K CI a cls d)))) (tRet (tTup (tCons (tC (.str "place")) (tCons (tCB rRep (tCons (tXg K a cls d "place" (tVar 3)) tNil)) tNil)))) tNext)
    (tRet (tTup (tCons (tC (.str "value")) (tCons (tAndV (tIsY K CI a cls d) (tCB rRep (tCons (tXg K a cls d "value" (tVar 3)) tNil))) tNil))))
def tTry (CI CP : Addr) (W : WX) : TS :=
  tSeq (tIfS (tTest (tOp rEq (tVar 0) (tC (.int 0)))) (tRet (tTup (tCons (tC (.str "told")) (tCons (tCallS (spPlaces CI) (WE W) (tCons (tVar 1) tNil)) tNil)))) tNext)
    (tSeq (tIfS (tTest (tOp rEq (tVar 0) (tC (.int 1)))) (tRet (tTup (tCons (tC (.str "told")) (tCons (tCallS (spAt CI CP) (WE W) (tCons (tVar 1) (tCons (tVar 2) tNil))) tNil)))) tNext)
      (tRet (tTup (tCons (tC (.str "told")) (tCons (tCallS (spHead CI) (WE W) (tCons (tVar 1) tNil)) tNil)))))
def spTold : Sp := fun vs H Q _ => ∃ (door : Nat) (v x : V) (d e : PyData), vs = [.int door, v, x] ∧ door ≤ 2 ∧ Dt H d v ∧ Sm d ∧ Dt H e x ∧ Sm e ∧
  (isV d = false → ∀ t H', Ex H H' → H' t = some (.tup [.str "value", .str d.shown]) → Q (.ref t) H') ∧
  (isV d = true → door = 0 → ∀ t q ts H', Ex H H' → H' t = some (.tup [.str "told", .ref q]) → H q = none → H' q = some (.lst ts) → ts.length = cnt d → Paired (PlTup H' []) ts (paths d) → Q (.ref t) H') ∧
  (isV d = true → door = 2 → ∀ t u H', Ex H H' → H' t = some (.tup [.str "told", u]) → Dt H' (headD d) u → Q (.ref t) H') ∧
  (isV d = true → door = 1 → hasP d e = false ∧ ∀ t H', Ex H H' → H' t = some (.tup [.str "place", .str e.shown]) → Q (.ref t) H')
theorem bad_value (Te : TxP K mg CC CI CP) {D : Ends} {σ' : L2.St} {H1 : Hp} {a dd : Addr} {v : V} {d : PyData} (hσ : σ'[3]? = some (some (.ref a))) (hdd : H1 dd = some (.xd [("value", v)])) (hd : Dt H1 d v) (hs : Sm d)
    (k : ∀ t H', Ex H1 H' → H' t = some (.tup [.str "value", .str d.shown]) → D.rt (.ref t) H') : tSuiteT K CI CP a (.ref CI) (some dd) D σ' H1 := by
  have hx : ∀ d', some dd = some d' → ∃ fs, H1 d' = some (.xd fs) := fun d' e => by cases e; exact ⟨_, hdd⟩
  refine ⟨_, hσ, CI, _, _, _, rfl, rfl, Te.xI, hx, .own CP, Te.kIP, _, rfl, if_f rfl ?_⟩
  refine ⟨_, hσ, CI, _, _, _, rfl, rfl, Te.xI, hx, .own CI, Te.kII, _, rfl, if_t rfl ?_⟩
  refine ⟨_, hσ, rfl, CI, dd, _, _, rfl, Te.xI.xf, Te.nI, rfl, hdd, rfl, v, d, rfl, hd, hs.show, hs.size, hs.depth, szl (by show 2 ≤ 100000; decide), fun t nt => ?_⟩
  exact k t _ (Ex.new nt) upd_same
theorem bad_place (Te : TxP K mg CC CI CP) {D : Ends} {σ' : L2.St} {H1 : Hp} {a dd : Addr} {v : V} {d : PyData} (hσ : σ'[3]? = some (some (.ref a))) (hdd : H1 dd = some (.xd [("place", v)])) (hd : Dt H1 d v) (hs : Sm d)
    (k : ∀ t H', Ex H1 H' → H' t = some (.tup [.str "place", .str d.shown]) → D.rt (.ref t) H') : tSuiteT K CI CP a (.ref CP) (some dd) D σ' H1 := by
  have hx : ∀ d', some dd = some d' → ∃ fs, H1 d' = some (.xd fs) := fun d' e => by cases e; exact ⟨_, hdd⟩
  refine ⟨_, hσ, CP, _, _, _, rfl, rfl, Te.xP, hx, .own CP, Te.kPP, _, rfl, if_t rfl ?_⟩
  refine ⟨_, hσ, CP, _, _, _, rfl, rfl, Te.xP, hx, .own CI, Te.kPI, _, rfl, if_t rfl ?_⟩
  refine ⟨_, hσ, rfl, CP, dd, _, _, rfl, Te.xP.xf, Te.nP, rfl, hdd, rfl, v, d, rfl, hd, hs.show, hs.size, hs.depth, szl (by show 2 ≤ 100000; decide), fun t nt => ?_⟩
  exact k t _ (Ex.new nt) upd_same
theorem sc__law_told : FnScope ["_law_door", "_law_value_here", "_law_spot", "e"] ["_law_door", "_law_value_here", "_law_spot"] (defScope s__law_told) := ⟨rfl, rfl, rfl, by decide +kernel, rfl, by decide +kernel, by decide +kernel⟩
theorem bi__law_told : BindsEq "_law_told" s__law_told ["_law_door", "_law_value_here", "_law_spot"] := fun _ _ _ _ _ _ us hl => match us, hl with | [_, _, _], _ => rfl
theorem ok_told (F : Df K mg "_law_told" s__law_told) (T : Txt K mg) (Te : TxP K mg CC CI CP) (sy : ∃ mm, base.Ns sysModules mm) (C_places : Cal P w K mg base (L2.CX P w) 63 "places" (spPlaces CI)) (C_at : Cal P w K mg base (L2.CX P w) 62 "at" (spAt CI CP)) (C_head : Cal P w K mg base (L2.CX P w) 6 "head" (spHead CI)) :
    CalG P w K mg base CX0 64 "_law_told" spTold := by
  refine calG F sc__law_told bi__law_told (fun vs H Q E h => ?_) (fun f cdv A outer s H vs Q E gd hr h => ?_)
  · obtain ⟨door, v, x, d, e, rfl, _⟩ := h
    rfl
  · obtain ⟨door, v, x, d, e, rfl, hdo, hd, hs, hx, hxs, k1, k2, k3, k4⟩ := h
    have un := hr.un
    have un2 : (A.deeper (PyProof.Rows.envOfC "_law_told" (defScope s__law_told) s.heap.objs.size f cdv)).units + 180 < cLine := by omega
    refine ⟨_, PSs.nox (pss_one (ps_try_as (i := 3) (tb := tTry CI CP) (ts := tSuiteT K CI CP) (Wout := fun _ _ _ _ => False) rfl rfl sc__law_told.nd rfl rfl ⟨rfl, by decide, Or.inl Te.gC⟩ takes0
        (fun W pn xe tk _ => pss_cons (ps_if (pt_cmpR op_eq (pv 0) pe_int (nomark _)) (pss_one (ps_ret (pe_tup (pa_cons pe_str (pa_cons (pe_kS C_places hr (by decide) tk rfl (pa_cons (pv 1) pa_nil)) pa_nil))))) pss_nil)
          (pss_cons (ps_if (pt_cmpR op_eq (pv 0) pe_int (nomark _)) (pss_one (ps_ret (pe_tup (pa_cons pe_str (pa_cons (pe_kS C_at hr (by decide) tk rfl (pa_cons (pv 1) (pa_cons (pv 2) pa_nil))) pa_nil))))) pss_nil)
            (pss_one (ps_ret (pe_tup (pa_cons pe_str (pa_cons (pe_kS C_head hr (by decide) tk rfl (pa_cons (pv 1) pa_nil)) pa_nil)))))))
        (fun a oe cls dd pn hz hf => pss_cons (ps_if (PW.pt (pw_and (pt_val (pe_callB (call_isX hz hf) rfl T.b_isinstance (by decide +kernel) (pa_cons (pv 3) (pa_cons (pe_glob rfl Te.gP rfl) pa_nil)))) (pw_and1 (pt_not (pt_val (pe_callB (call_isX hz hf) rfl T.b_isinstance (by decide +kernel) (pa_cons (pv 3) (pa_cons (pe_glob rfl Te.gI rfl) pa_nil))))))))
            (pss_one (ps_ret (pe_tup (pa_cons pe_str (pa_cons (pe_callB (call_repr ⟨gd, sy, un2⟩) rfl T.b_repr (by decide +kernel) (pa_cons (pe_xg hz hf (pv 3)) pa_nil)) pa_nil))))) pss_nil)
          (pss_one (ps_ret (pe_tup (pa_cons pe_str (pa_cons (pe_and (pe_callB (call_isX hz hf) rfl T.b_isinstance (by decide +kernel) (pa_cons (pv 3) (pa_cons (pe_glob rfl Te.gI rfl) pa_nil))) (pe_one (pe_callB (call_repr ⟨gd, sy, un2⟩) rfl T.b_repr (by decide +kernel) (pa_cons (pe_xg hz hf (pv 3)) pa_nil)))) pa_nil)))))))), ?_⟩
    have hz := lim_sz d hs.l
    have hdo' : door = 0 ∨ door = 1 ∨ door = 2 := by omega
    rcases hdo' with rfl | rfl | rfl
    · refine ⟨_, rfl, rfl, _, rfl, if_t (by decide) ?_⟩
      refine ⟨_, rfl, v, d, rfl, hd, hz, fun hv q H1 ts e1 nq hq hl hp => ?_, fun hv dd H1 x0_1 hdd => ?_⟩
      · refine ⟨szl (by show 2 ≤ 100000; decide), fun t nt => ?_⟩
        have x1 : Ex H1 (upd H1 t (.tup [V.str "told", V.ref q])) := Ex.new nt
        exact k2 hv rfl t q ts _ (e1.trans x1) upd_same nq (x1 _ _ hq) hl (pl_ex x1 hp)
      · refine ⟨true, Te.eI, fun _ a ha => ?_, fun q => Bool.noConfusion q⟩
        exact bad_value Te rfl hdd (hd.ex x0_1) hs fun t H' e h => k1 hv t H' (x0_1.trans e) h
    · refine ⟨_, rfl, rfl, _, rfl, if_f (by decide) ?_⟩
      refine ⟨_, rfl, rfl, _, rfl, if_t (by decide) ?_⟩
      refine ⟨_, rfl, _, rfl, v, x, d, e, rfl, hd, hz, hx, fun hv hp => ?_, fun hv hp dd H1 x0_1 hdd => ?_, fun hv dd H1 x0_1 hdd => ?_⟩
      · rw [(k4 hv rfl).1] at hp
        cases hp
      · refine ⟨true, Te.eP, fun _ a ha => ?_, fun q => Bool.noConfusion q⟩
        exact bad_place Te rfl hdd (hx.ex x0_1) hxs fun t H' e h => (k4 hv rfl).2 t H' (x0_1.trans e) h
      · refine ⟨true, Te.eI, fun _ a ha => ?_, fun q => Bool.noConfusion q⟩
        exact bad_value Te rfl hdd (hd.ex x0_1) hs fun t H' e h => k1 hv t H' (x0_1.trans e) h
    · refine ⟨_, rfl, rfl, _, rfl, if_f (by decide) ?_⟩
      refine ⟨_, rfl, rfl, _, rfl, if_f (by decide) ?_⟩
      refine ⟨_, rfl, v, d, rfl, hd, hz, fun hv u H1 e1 hu => ?_, fun hv dd H1 x0_1 hdd => ?_⟩
      · refine ⟨szl (by show 2 ≤ 100000; decide), fun t nt => ?_⟩
        have x1 : Ex H1 (upd H1 t (.tup [V.str "told", u])) := Ex.new nt
        exact k3 hv rfl t u _ (e1.trans x1) upd_same (hu.ex x1)
      · refine ⟨true, Te.eI, fun _ a ha => ?_, fun q => Bool.noConfusion q⟩
        exact bad_value Te rfl hdd (hd.ex x0_1) hs fun t H' e h => k1 hv t H' (x0_1.trans e) h
end
end VL

namespace VL
open PySem PySem.Spec L2 LW
open Evl (Ex)
/-! ### steps, bounded -/
def StG (s : V) : Prop := StOk s ∧ lim (stV s) ∧ nod (stV s) = 1
theorem step_g {d c : PyData} {s : V} (h : stepD d s = some c) (ho : okA d = true) : StG s := by
  have hst := step_st h ho
  refine ⟨hst, ?_⟩
  rcases step_cases h with ⟨ds, i, rfl, rfl, h0, e⟩ | ⟨kvs, y, rfl, rfl, hy, rfl⟩
  · refine ⟨?_, rfl⟩
    show lim (.int i)
    unfold lim
    rw [okA_kids, Bool.and_eq_true] at ho
    have h60 : ds.length < 60 := of_decide_eq_true ho.1
    obtain ⟨hl, _⟩ := List.getElem?_eq_some_iff.mp e
    unfold big
    omega
  · rcases hst with ⟨i, hi⟩ | ⟨z, hz, hf⟩
    · cases hi
    · cases hz
      exact fld_lim hf
theorem at_g : ∀ {p : List V} {d c : PyData}, At d p c → okA d = true → (∀ s ∈ p, StG s) ∧ p.length + cnt c ≤ cnt d
  | [], d, c, h, _ => by
    have h : c = d := h
    subst h
    exact ⟨nofun, by show 0 + _ ≤ _; omega⟩
  | s :: p, d, c, h, ho => by
    obtain ⟨e, h1, h2⟩ := h
    obtain ⟨g1, g2⟩ := at_g h2 (step_ok h1 ho)
    have := cnt_kid (step_kid h1)
    refine ⟨fun x hx => ?_, by rw [List.length_cons]; omega⟩
    rcases List.mem_cons.mp hx with rfl | hx
    · exact step_g h1 ho
    · exact g1 x hx
theorem st_dt {H : Hp} {s : V} (h : StOk s) : Dt H (stV s) s := by
  rcases h with ⟨i, rfl⟩ | ⟨y, rfl, _⟩
  · exact dt_int i
  · exact dt_str y
theorem st_dtl {H : Hp} : ∀ {p : List V}, (∀ s ∈ p, StG s) → DtL H (p.map stV) p ∧ limL (p.map stV) ∧ nodL (p.map stV) = p.length
  | [], _ => ⟨DtL.nil, by unfold limL; trivial, by unfold nodL; rfl⟩
  | s :: p, h => by
    obtain ⟨h1, h2, h3⟩ := h s List.mem_cons_self
    obtain ⟨g1, g2, g3⟩ := st_dtl (H := H) (p := p) fun x hx => h x (List.mem_cons_of_mem _ hx)
    refine ⟨DtL.cons (st_dt h1) g1, ?_, ?_⟩
    · rw [List.map_cons, limL]
      exact ⟨h2, g2⟩
    · rw [List.map_cons, nodL, h3, g3, List.length_cons]
      omega
theorem dpAll_app {K : PySem.W.Frag} {H : Hp} : ∀ {xs ys : List V} {ds es : List PyData}, DpAll K H xs ds → DpAll K H ys es → DpAll K H (xs ++ ys) (ds ++ es)
  | _, _, _, _, .nil, g => g
  | _, _, _, _, .cons h t, g => .cons h (dpAll_app t g)
theorem lay_app : ∀ (ds es : List PyData), PyData.canLayAll0 (ds ++ es) = (PyData.canLayAll0 ds && PyData.canLayAll0 es)
  | [], es => by simp [PyData.canLayAll0]
  | d :: r, es => by
    rw [List.cons_append, PyData.canLayAll0, PyData.canLayAll0, lay_app r es, Bool.and_assoc]
theorem depth_app : ∀ (ds es : List PyData), PyData.depthAll (ds ++ es) = max (PyData.depthAll ds) (PyData.depthAll es)
  | [], es => by simp [PyData.depthAll]
  | d :: r, es => by
    rw [List.cons_append, PyData.depthAll, PyData.depthAll, depth_app r es]
    omega
theorem nodL_app : ∀ (ds es : List PyData), nodL (ds ++ es) = nodL ds + nodL es
  | [], es => by rw [List.nil_append, nodL]; omega
  | d :: r, es => by
    rw [List.cons_append, nodL, nodL, nodL_app r es]
    omega
/-- a thing in the place of a place -/
def BadOk (K : PySem.W.Frag) (H : Hp) (z : V) : Prop := ∃ e, Dt H e z ∧ lim e ∧ nod e ≤ 130 ∧ ((Dp K H z e ∧ SeqAt.shaped e = true) ∨ (∃ a ks kvs, z = .ref a ∧ L2.Rd H a (.dK ks) ∧ e = .dict kvs) ∨ ∃ p a ks kvs, z = .ref p ∧ L2.Rd H p (.tup [.ref a]) ∧ L2.Rd H a (.dK ks) ∧ e = .tuple [.dict kvs])
theorem bad_s {K : PySem.W.Frag} {H : Hp} {z : V} {e : PyData} (h : Dt H e z) (h1 : limB e = true) (h2 : nod e ≤ 130) (h3 : Dp K H z e) (h4 : SeqAt.shaped e = true) : BadOk K H z := ⟨e, h, limB_ok e h1, h2, .inl ⟨h3, h4⟩⟩
theorem bad_cat {K : PySem.W.Frag} {H : Hp} {z : Addr} {p : List V} {x : V} {xd : PyData} (hz : L2.Rd H z (.tup (p ++ [x]))) (hp : ∀ s ∈ p, StG s) (hl : p.length ≤ 60) (hx : Dt H xd x) (dx : Dp K H x xd) (lx : limB xd = true) (nx : nod xd ≤ 5) (cx : PyData.canLay0 xd = true) (ex : xd.depth ≤ 5) : BadOk K H (.ref z) := by
  obtain ⟨g1, g2, g3⟩ := st_dtl (H := H) hp
  obtain ⟨q1, q2, q3⟩ := st_all (K := K) (H := H) fun s hs => (hp s hs).1
  refine ⟨.tuple (p.map stV ++ [xd]), ?_, ?_, ?_, .inl ⟨.tup (.inl hz) (dpAll_app q1 (.cons dx .nil)), ?_⟩⟩
  · unfold Dt
    exact ⟨z, _, rfl, hz, DtL.app g1 (DtL.cons hx DtL.nil)⟩
  · unfold lim
    refine limL_of.mpr fun d hd => ?_
    rcases List.mem_append.mp hd with hd | hd
    · exact limL_of.mp g2 d hd
    · cases List.mem_singleton.mp hd
      exact limB_ok _ lx
  · rw [nod, nodL_app, g3, nodL, nodL]
    omega
  · unfold SeqAt.shaped
    rw [PyData.canLay0, lay_app, q2, PyData.canLayAll0, cx, PyData.depth, depth_app, q3, PyData.depthAll]
    show (true && decide (max 0 (max xd.depth (PyData.depthAll [])) + 1 ≤ 64)) = true
    rw [Bool.true_and]
    refine decide_eq_true ?_
    have : PyData.depthAll [] = 0 := rfl
    omega
section
variable {P : Program} {w : World} {K : PySem.W.Frag} {mg : Str → Option Value} {base : Heap}
/-! ### _law_bad_spot -/
def spBadSpot (K : PySem.W.Frag) : Sp := fun vs H Q _ => ∃ (pl sp : Addr) (ts : List V), vs = [.ref pl, .ref sp] ∧ Pool H pl ∧ H sp = some (.lst ts) ∧ 0 < ts.length ∧ ts.length ≤ 100 ∧ (∀ x ∈ ts, ∃ b p, x = .ref b ∧ L2.Rd H b (.tup p) ∧ p.length ≤ 60 ∧ ∀ s ∈ p, StG s) ∧
  ∀ z H', Ex H H' → BadOk K H' z → Q z H'
theorem sc__law_bad_spot : FnScope ["_law_pool", "_law_spots", "_law_one", "_law_some"] ["_law_pool", "_law_spots"] (defScope s__law_bad_spot) := ⟨rfl, rfl, rfl, by decide +kernel, rfl, by decide +kernel, by decide +kernel⟩
theorem bi__law_bad_spot : BindsEq "_law_bad_spot" s__law_bad_spot ["_law_pool", "_law_spots"] := fun _ _ _ _ _ _ us hl => match us, hl with | [_, _], _ => rfl
theorem ok_badspot (F : Df K mg "_law_bad_spot" s__law_bad_spot) (T : Txt K mg) (C__law_draw : Cal P w K mg base CX0 1 "_law_draw" spDraw) : Cal P w K mg base CX0 2 "_law_bad_spot" (spBadSpot K) := by
  refine cal0 F sc__law_bad_spot bi__law_bad_spot (fun vs H Q E h => ?_) (fun f cdv A outer s H vs Q E hr h => ?_)
  · obtain ⟨pl, sp, ts, rfl, _⟩ := h
    rfl
  · obtain ⟨pl, sp, ts, rfl, hp, hsp, hl0, hl1, hts, k⟩ := h
    refine ⟨_, (pss_cons (ps_set (i := 2) sc__law_bad_spot.nd rfl (Or.inl rfl) (pe_ix (ixl K) (pv 1) (pe_k C__law_draw hr (by decide) rfl (pa_cons (pv 0) (pa_cons (pe_callB (lnK K) rfl T.b_len (by decide +kernel) (pa_cons (pv 1) pa_nil)) pa_nil))) (fun _ _ => rfl)))
 (pss_cons (ps_set (i := 3) sc__law_bad_spot.nd rfl (Or.inl rfl) (pe_lst (pa_cons pe_non (pa_cons pe_int (pa_cons pe_str (pa_cons (pe_lst pa_nil) (pa_cons pe_dnewK (pa_cons pe_bl (pa_cons (pe_tup (pa_cons pe_non pa_nil)) (pa_cons (pe_tup (pa_cons pe_bl pa_nil)) (pa_cons (pe_tup (pa_cons pe_bl pa_nil)) (pa_cons (pe_tup (pa_cons pe_str pa_nil)) (pa_cons (pe_tup (pa_cons (pe_un un_neg pe_int) pa_nil)) (pa_cons (pe_tup (pa_cons (pe_lst pa_nil) pa_nil)) (pa_cons (pe_tup (pa_cons pe_dnewK pa_nil)) (pa_cons (pe_tup (pa_cons (pe_tup pa_nil) pa_nil)) pa_nil))))))))))))))))
 (pss_cons (ps_set (i := 3) sc__law_bad_spot.nd rfl (Or.inl rfl) (pe_op op_cat (pv 3) (pe_lst (pa_cons (pe_op op_catA (pv 2) (pe_tup (pa_cons pe_str pa_nil))) (pa_cons (pe_op op_catA (pv 2) (pe_tup (pa_cons pe_int pa_nil))) (pa_cons (pe_op op_catA (pv 2) (pe_tup (pa_cons (pe_un un_neg pe_int) pa_nil))) (pa_cons (pe_op op_catA (pv 2) (pe_tup (pa_cons pe_bl pa_nil))) (pa_cons (pe_op op_catA (pv 2) (pe_tup (pa_cons pe_non pa_nil))) (pa_cons (pe_op op_catA (pv 2) (pe_tup (pa_cons (pe_lst (pa_cons pe_int pa_nil)) pa_nil))) (pa_cons (pe_callTy (lofK K) rfl T.b_list (by decide +kernel) (pa_cons (pv 2) pa_nil)) pa_nil))))))))))
 (pss_one (ps_ret (pe_ix (ixl K) (pv 3) (pe_k C__law_draw hr (by decide) rfl (pa_cons (pv 0) (pa_cons (pe_callB (lnK K) rfl T.b_len (by decide +kernel) (pa_cons (pv 3) pa_nil)) pa_nil))) (fun _ _ => rfl))))))), ?_⟩
    refine ⟨_, rfl, _, rfl, _, rfl, .ref sp, ts.length, rfl, .inl ⟨ts, SqLo hsp, rfl⟩, pl, _, rfl, hp, by omega, by omega, fun y y0 y1 => ?_⟩
    obtain ⟨z, hz1, hz2, _⟩ := at_some (xs := ts) (v := y) y0 y1
    obtain ⟨b, p, rfl, hb, hpl, hpg⟩ := hts z hz2
    refine ⟨sp, ts, _, _, rfl, rfl, SqLo hsp, hz1, ?_⟩
    -- the first list
    refine ⟨szl (by show 0 ≤ 100000; decide), fun p1 np1 => ?_⟩
    obtain ⟨H1, hH1, x0_1, h1⟩ := newH _ np1
    rw [hH1]
    clear hH1
    have f1 := np1
    refine cons_of (fun p2 np2 => ?_)
    obtain ⟨H2, hH2, x1_2, h2⟩ := newH _ np2
    rw [hH2]
    clear hH2
    have x0_2 := x0_1.trans x1_2
    have f2 := ex_free x0_1 np2
    refine ⟨szl (by show 1 ≤ 100000; decide), fun p3 np3 => ?_⟩
    obtain ⟨H3, hH3, x2_3, h3⟩ := newH _ np3
    rw [hH3]
    clear hH3
    have x0_3 := x0_2.trans x2_3
    have x1_3 := x1_2.trans x2_3
    have f3 := ex_free x0_2 np3
    refine ⟨szl (by show 1 ≤ 100000; decide), fun p4 np4 => ?_⟩
    obtain ⟨H4, hH4, x3_4, h4⟩ := newH _ np4
    rw [hH4]
    clear hH4
    have x0_4 := x0_3.trans x3_4
    have x1_4 := x1_3.trans x3_4
    have x2_4 := x2_3.trans x3_4
    have f4 := ex_free x0_3 np4
    refine ⟨szl (by show 1 ≤ 100000; decide), fun p5 np5 => ?_⟩
    obtain ⟨H5, hH5, x4_5, h5⟩ := newH _ np5
    rw [hH5]
    clear hH5
    have x0_5 := x0_4.trans x4_5
    have x1_5 := x1_4.trans x4_5
    have x2_5 := x2_4.trans x4_5
    have x3_5 := x3_4.trans x4_5
    have f5 := ex_free x0_4 np5
    refine ⟨szl (by show 1 ≤ 100000; decide), fun p6 np6 => ?_⟩
    obtain ⟨H6, hH6, x5_6, h6⟩ := newH _ np6
    rw [hH6]
    clear hH6
    have x0_6 := x0_5.trans x5_6
    have x1_6 := x1_5.trans x5_6
    have x2_6 := x2_5.trans x5_6
    have x3_6 := x3_5.trans x5_6
    have x4_6 := x4_5.trans x5_6
    have f6 := ex_free x0_5 np6
    refine ⟨_, rfl, szl (by show 1 ≤ 100000; decide), fun p7 np7 => ?_⟩
    obtain ⟨H7, hH7, x6_7, h7⟩ := newH _ np7
    rw [hH7]
    clear hH7
    have x0_7 := x0_6.trans x6_7
    have x1_7 := x1_6.trans x6_7
    have x2_7 := x2_6.trans x6_7
    have x3_7 := x3_6.trans x6_7
    have x4_7 := x4_6.trans x6_7
    have x5_7 := x5_6.trans x6_7
    have f7 := ex_free x0_6 np7
    refine ⟨szl (by show 0 ≤ 100000; decide), fun p8 np8 => ?_⟩
    obtain ⟨H8, hH8, x7_8, h8⟩ := newH _ np8
    rw [hH8]
    clear hH8
    have x0_8 := x0_7.trans x7_8
    have x1_8 := x1_7.trans x7_8
    have x2_8 := x2_7.trans x7_8
    have x3_8 := x3_7.trans x7_8
    have x4_8 := x4_7.trans x7_8
    have x5_8 := x5_7.trans x7_8
    have x6_8 := x6_7.trans x7_8
    have f8 := ex_free x0_7 np8
    refine ⟨szl (by show 1 ≤ 100000; decide), fun p9 np9 => ?_⟩
    obtain ⟨H9, hH9, x8_9, h9⟩ := newH _ np9
    rw [hH9]
    clear hH9
    have x0_9 := x0_8.trans x8_9
    have x1_9 := x1_8.trans x8_9
    have x2_9 := x2_8.trans x8_9
    have x3_9 := x3_8.trans x8_9
    have x4_9 := x4_8.trans x8_9
    have x5_9 := x5_8.trans x8_9
    have x6_9 := x6_8.trans x8_9
    have x7_9 := x7_8.trans x8_9
    have f9 := ex_free x0_8 np9
    refine cons_of (fun p10 np10 => ?_)
    obtain ⟨H10, hH10, x9_10, h10⟩ := newH _ np10
    rw [hH10]
    clear hH10
    have x0_10 := x0_9.trans x9_10
    have x1_10 := x1_9.trans x9_10
    have x2_10 := x2_9.trans x9_10
    have x3_10 := x3_9.trans x9_10
    have x4_10 := x4_9.trans x9_10
    have x5_10 := x5_9.trans x9_10
    have x6_10 := x6_9.trans x9_10
    have x7_10 := x7_9.trans x9_10
    have x8_10 := x8_9.trans x9_10
    have f10 := ex_free x0_9 np10
    refine ⟨szl (by show 1 ≤ 100000; decide), fun p11 np11 => ?_⟩
    obtain ⟨H11, hH11, x10_11, h11⟩ := newH _ np11
    rw [hH11]
    clear hH11
    have x0_11 := x0_10.trans x10_11
    have x1_11 := x1_10.trans x10_11
    have x2_11 := x2_10.trans x10_11
    have x3_11 := x3_10.trans x10_11
    have x4_11 := x4_10.trans x10_11
    have x5_11 := x5_10.trans x10_11
    have x6_11 := x6_10.trans x10_11
    have x7_11 := x7_10.trans x10_11
    have x8_11 := x8_10.trans x10_11
    have x9_11 := x9_10.trans x10_11
    have f11 := ex_free x0_10 np11
    refine ⟨szl (by show 0 ≤ 100000; decide), fun p12 np12 => ?_⟩
    obtain ⟨H12, hH12, x11_12, h12⟩ := newH _ np12
    rw [hH12]
    clear hH12
    have x0_12 := x0_11.trans x11_12
    have x1_12 := x1_11.trans x11_12
    have x2_12 := x2_11.trans x11_12
    have x3_12 := x3_11.trans x11_12
    have x4_12 := x4_11.trans x11_12
    have x5_12 := x5_11.trans x11_12
    have x6_12 := x6_11.trans x11_12
    have x7_12 := x7_11.trans x11_12
    have x8_12 := x8_11.trans x11_12
    have x9_12 := x9_11.trans x11_12
    have x10_12 := x10_11.trans x11_12
    have f12 := ex_free x0_11 np12
    refine ⟨szl (by show 1 ≤ 100000; decide), fun p13 np13 => ?_⟩
    obtain ⟨H13, hH13, x12_13, h13⟩ := newH _ np13
    rw [hH13]
    clear hH13
    have x0_13 := x0_12.trans x12_13
    have x1_13 := x1_12.trans x12_13
    have x2_13 := x2_12.trans x12_13
    have x3_13 := x3_12.trans x12_13
    have x4_13 := x4_12.trans x12_13
    have x5_13 := x5_12.trans x12_13
    have x6_13 := x6_12.trans x12_13
    have x7_13 := x7_12.trans x12_13
    have x8_13 := x8_12.trans x12_13
    have x9_13 := x9_12.trans x12_13
    have x10_13 := x10_12.trans x12_13
    have x11_13 := x11_12.trans x12_13
    have f13 := ex_free x0_12 np13
    refine ⟨szl (by show 14 ≤ 100000; decide), fun p14 np14 => ?_⟩
    obtain ⟨H14, hH14, x13_14, h14⟩ := newH _ np14
    rw [hH14]
    clear hH14
    have x0_14 := x0_13.trans x13_14
    have x1_14 := x1_13.trans x13_14
    have x2_14 := x2_13.trans x13_14
    have x3_14 := x3_13.trans x13_14
    have x4_14 := x4_13.trans x13_14
    have x5_14 := x5_13.trans x13_14
    have x6_14 := x6_13.trans x13_14
    have x7_14 := x7_13.trans x13_14
    have x8_14 := x8_13.trans x13_14
    have x9_14 := x9_13.trans x13_14
    have x10_14 := x10_13.trans x13_14
    have x11_14 := x11_13.trans x13_14
    have x12_14 := x12_13.trans x13_14
    have f14 := ex_free x0_13 np14
    -- the second list
    refine ⟨_, rfl, _, rfl, szl (by show 1 ≤ 100000; decide), fun p15 np15 => ?_⟩
    obtain ⟨H15, hH15, x14_15, h15⟩ := newH _ np15
    rw [hH15]
    clear hH15
    have x0_15 := x0_14.trans x14_15
    have x1_15 := x1_14.trans x14_15
    have x2_15 := x2_14.trans x14_15
    have x3_15 := x3_14.trans x14_15
    have x4_15 := x4_14.trans x14_15
    have x5_15 := x5_14.trans x14_15
    have x6_15 := x6_14.trans x14_15
    have x7_15 := x7_14.trans x14_15
    have x8_15 := x8_14.trans x14_15
    have x9_15 := x9_14.trans x14_15
    have x10_15 := x10_14.trans x14_15
    have x11_15 := x11_14.trans x14_15
    have x12_15 := x12_14.trans x14_15
    have x13_15 := x13_14.trans x14_15
    have f15 := ex_free x0_14 np15
    refine catA_of (rd_ex x0_15 hb) (.inl h15) (by simp) (by show p.length + 1 ≤ 100000; omega) fun z16 H16 x15_16 g16 => ?_
    have x0_16 := x0_15.trans x15_16
    have x1_16 := x1_15.trans x15_16
    have x2_16 := x2_15.trans x15_16
    have x3_16 := x3_15.trans x15_16
    have x4_16 := x4_15.trans x15_16
    have x5_16 := x5_15.trans x15_16
    have x6_16 := x6_15.trans x15_16
    have x7_16 := x7_15.trans x15_16
    have x8_16 := x8_15.trans x15_16
    have x9_16 := x9_15.trans x15_16
    have x10_16 := x10_15.trans x15_16
    have x11_16 := x11_15.trans x15_16
    have x12_16 := x12_15.trans x15_16
    have x13_16 := x13_15.trans x15_16
    have x14_16 := x14_15.trans x15_16
    refine ⟨_, rfl, szl (by show 1 ≤ 100000; decide), fun p17 np17 => ?_⟩
    obtain ⟨H17, hH17, x16_17, h17⟩ := newH _ np17
    rw [hH17]
    clear hH17
    have x0_17 := x0_16.trans x16_17
    have x1_17 := x1_16.trans x16_17
    have x2_17 := x2_16.trans x16_17
    have x3_17 := x3_16.trans x16_17
    have x4_17 := x4_16.trans x16_17
    have x5_17 := x5_16.trans x16_17
    have x6_17 := x6_16.trans x16_17
    have x7_17 := x7_16.trans x16_17
    have x8_17 := x8_16.trans x16_17
    have x9_17 := x9_16.trans x16_17
    have x10_17 := x10_16.trans x16_17
    have x11_17 := x11_16.trans x16_17
    have x12_17 := x12_16.trans x16_17
    have x13_17 := x13_16.trans x16_17
    have x14_17 := x14_16.trans x16_17
    have x15_17 := x15_16.trans x16_17
    have f17 := ex_free x0_16 np17
    refine catA_of (rd_ex x0_17 hb) (.inl h17) (by simp) (by show p.length + 1 ≤ 100000; omega) fun z18 H18 x17_18 g18 => ?_
    have x0_18 := x0_17.trans x17_18
    have x1_18 := x1_17.trans x17_18
    have x2_18 := x2_17.trans x17_18
    have x3_18 := x3_17.trans x17_18
    have x4_18 := x4_17.trans x17_18
    have x5_18 := x5_17.trans x17_18
    have x6_18 := x6_17.trans x17_18
    have x7_18 := x7_17.trans x17_18
    have x8_18 := x8_17.trans x17_18
    have x9_18 := x9_17.trans x17_18
    have x10_18 := x10_17.trans x17_18
    have x11_18 := x11_17.trans x17_18
    have x12_18 := x12_17.trans x17_18
    have x13_18 := x13_17.trans x17_18
    have x14_18 := x14_17.trans x17_18
    have x15_18 := x15_17.trans x17_18
    have x16_18 := x16_17.trans x17_18
    refine ⟨_, rfl, _, rfl, szl (by show 1 ≤ 100000; decide), fun p19 np19 => ?_⟩
    obtain ⟨H19, hH19, x18_19, h19⟩ := newH _ np19
    rw [hH19]
    clear hH19
    have x0_19 := x0_18.trans x18_19
    have x1_19 := x1_18.trans x18_19
    have x2_19 := x2_18.trans x18_19
    have x3_19 := x3_18.trans x18_19
    have x4_19 := x4_18.trans x18_19
    have x5_19 := x5_18.trans x18_19
    have x6_19 := x6_18.trans x18_19
    have x7_19 := x7_18.trans x18_19
    have x8_19 := x8_18.trans x18_19
    have x9_19 := x9_18.trans x18_19
    have x10_19 := x10_18.trans x18_19
    have x11_19 := x11_18.trans x18_19
    have x12_19 := x12_18.trans x18_19
    have x13_19 := x13_18.trans x18_19
    have x14_19 := x14_18.trans x18_19
    have x15_19 := x15_18.trans x18_19
    have x16_19 := x16_18.trans x18_19
    have x17_19 := x17_18.trans x18_19
    have f19 := ex_free x0_18 np19
    refine catA_of (rd_ex x0_19 hb) (.inl h19) (by simp) (by show p.length + 1 ≤ 100000; omega) fun z20 H20 x19_20 g20 => ?_
    have x0_20 := x0_19.trans x19_20
    have x1_20 := x1_19.trans x19_20
    have x2_20 := x2_19.trans x19_20
    have x3_20 := x3_19.trans x19_20
    have x4_20 := x4_19.trans x19_20
    have x5_20 := x5_19.trans x19_20
    have x6_20 := x6_19.trans x19_20
    have x7_20 := x7_19.trans x19_20
    have x8_20 := x8_19.trans x19_20
    have x9_20 := x9_19.trans x19_20
    have x10_20 := x10_19.trans x19_20
    have x11_20 := x11_19.trans x19_20
    have x12_20 := x12_19.trans x19_20
    have x13_20 := x13_19.trans x19_20
    have x14_20 := x14_19.trans x19_20
    have x15_20 := x15_19.trans x19_20
    have x16_20 := x16_19.trans x19_20
    have x17_20 := x17_19.trans x19_20
    have x18_20 := x18_19.trans x19_20
    refine ⟨_, rfl, szl (by show 1 ≤ 100000; decide), fun p21 np21 => ?_⟩
    obtain ⟨H21, hH21, x20_21, h21⟩ := newH _ np21
    rw [hH21]
    clear hH21
    have x0_21 := x0_20.trans x20_21
    have x1_21 := x1_20.trans x20_21
    have x2_21 := x2_20.trans x20_21
    have x3_21 := x3_20.trans x20_21
    have x4_21 := x4_20.trans x20_21
    have x5_21 := x5_20.trans x20_21
    have x6_21 := x6_20.trans x20_21
    have x7_21 := x7_20.trans x20_21
    have x8_21 := x8_20.trans x20_21
    have x9_21 := x9_20.trans x20_21
    have x10_21 := x10_20.trans x20_21
    have x11_21 := x11_20.trans x20_21
    have x12_21 := x12_20.trans x20_21
    have x13_21 := x13_20.trans x20_21
    have x14_21 := x14_20.trans x20_21
    have x15_21 := x15_20.trans x20_21
    have x16_21 := x16_20.trans x20_21
    have x17_21 := x17_20.trans x20_21
    have x18_21 := x18_20.trans x20_21
    have x19_21 := x19_20.trans x20_21
    have f21 := ex_free x0_20 np21
    refine catA_of (rd_ex x0_21 hb) (.inl h21) (by simp) (by show p.length + 1 ≤ 100000; omega) fun z22 H22 x21_22 g22 => ?_
    have x0_22 := x0_21.trans x21_22
    have x1_22 := x1_21.trans x21_22
    have x2_22 := x2_21.trans x21_22
    have x3_22 := x3_21.trans x21_22
    have x4_22 := x4_21.trans x21_22
    have x5_22 := x5_21.trans x21_22
    have x6_22 := x6_21.trans x21_22
    have x7_22 := x7_21.trans x21_22
    have x8_22 := x8_21.trans x21_22
    have x9_22 := x9_21.trans x21_22
    have x10_22 := x10_21.trans x21_22
    have x11_22 := x11_21.trans x21_22
    have x12_22 := x12_21.trans x21_22
    have x13_22 := x13_21.trans x21_22
    have x14_22 := x14_21.trans x21_22
    have x15_22 := x15_21.trans x21_22
    have x16_22 := x16_21.trans x21_22
    have x17_22 := x17_21.trans x21_22
    have x18_22 := x18_21.trans x21_22
    have x19_22 := x19_21.trans x21_22
    have x20_22 := x20_21.trans x21_22
    refine ⟨_, rfl, szl (by show 1 ≤ 100000; decide), fun p23 np23 => ?_⟩
    obtain ⟨H23, hH23, x22_23, h23⟩ := newH _ np23
    rw [hH23]
    clear hH23
    have x0_23 := x0_22.trans x22_23
    have x1_23 := x1_22.trans x22_23
    have x2_23 := x2_22.trans x22_23
    have x3_23 := x3_22.trans x22_23
    have x4_23 := x4_22.trans x22_23
    have x5_23 := x5_22.trans x22_23
    have x6_23 := x6_22.trans x22_23
    have x7_23 := x7_22.trans x22_23
    have x8_23 := x8_22.trans x22_23
    have x9_23 := x9_22.trans x22_23
    have x10_23 := x10_22.trans x22_23
    have x11_23 := x11_22.trans x22_23
    have x12_23 := x12_22.trans x22_23
    have x13_23 := x13_22.trans x22_23
    have x14_23 := x14_22.trans x22_23
    have x15_23 := x15_22.trans x22_23
    have x16_23 := x16_22.trans x22_23
    have x17_23 := x17_22.trans x22_23
    have x18_23 := x18_22.trans x22_23
    have x19_23 := x19_22.trans x22_23
    have x20_23 := x20_22.trans x22_23
    have x21_23 := x21_22.trans x22_23
    have f23 := ex_free x0_22 np23
    refine catA_of (rd_ex x0_23 hb) (.inl h23) (by simp) (by show p.length + 1 ≤ 100000; omega) fun z24 H24 x23_24 g24 => ?_
    have x0_24 := x0_23.trans x23_24
    have x1_24 := x1_23.trans x23_24
    have x2_24 := x2_23.trans x23_24
    have x3_24 := x3_23.trans x23_24
    have x4_24 := x4_23.trans x23_24
    have x5_24 := x5_23.trans x23_24
    have x6_24 := x6_23.trans x23_24
    have x7_24 := x7_23.trans x23_24
    have x8_24 := x8_23.trans x23_24
    have x9_24 := x9_23.trans x23_24
    have x10_24 := x10_23.trans x23_24
    have x11_24 := x11_23.trans x23_24
    have x12_24 := x12_23.trans x23_24
    have x13_24 := x13_23.trans x23_24
    have x14_24 := x14_23.trans x23_24
    have x15_24 := x15_23.trans x23_24
    have x16_24 := x16_23.trans x23_24
    have x17_24 := x17_23.trans x23_24
    have x18_24 := x18_23.trans x23_24
    have x19_24 := x19_23.trans x23_24
    have x20_24 := x20_23.trans x23_24
    have x21_24 := x21_23.trans x23_24
    have x22_24 := x22_23.trans x23_24
    refine ⟨_, rfl, szl (by show 1 ≤ 100000; decide), fun p25 np25 => ?_⟩
    obtain ⟨H25, hH25, x24_25, h25⟩ := newH _ np25
    rw [hH25]
    clear hH25
    have x0_25 := x0_24.trans x24_25
    have x1_25 := x1_24.trans x24_25
    have x2_25 := x2_24.trans x24_25
    have x3_25 := x3_24.trans x24_25
    have x4_25 := x4_24.trans x24_25
    have x5_25 := x5_24.trans x24_25
    have x6_25 := x6_24.trans x24_25
    have x7_25 := x7_24.trans x24_25
    have x8_25 := x8_24.trans x24_25
    have x9_25 := x9_24.trans x24_25
    have x10_25 := x10_24.trans x24_25
    have x11_25 := x11_24.trans x24_25
    have x12_25 := x12_24.trans x24_25
    have x13_25 := x13_24.trans x24_25
    have x14_25 := x14_24.trans x24_25
    have x15_25 := x15_24.trans x24_25
    have x16_25 := x16_24.trans x24_25
    have x17_25 := x17_24.trans x24_25
    have x18_25 := x18_24.trans x24_25
    have x19_25 := x19_24.trans x24_25
    have x20_25 := x20_24.trans x24_25
    have x21_25 := x21_24.trans x24_25
    have x22_25 := x22_24.trans x24_25
    have x23_25 := x23_24.trans x24_25
    have f25 := ex_free x0_24 np25
    refine ⟨szl (by show 1 ≤ 100000; decide), fun p26 np26 => ?_⟩
    obtain ⟨H26, hH26, x25_26, h26⟩ := newH _ np26
    rw [hH26]
    clear hH26
    have x0_26 := x0_25.trans x25_26
    have x1_26 := x1_25.trans x25_26
    have x2_26 := x2_25.trans x25_26
    have x3_26 := x3_25.trans x25_26
    have x4_26 := x4_25.trans x25_26
    have x5_26 := x5_25.trans x25_26
    have x6_26 := x6_25.trans x25_26
    have x7_26 := x7_25.trans x25_26
    have x8_26 := x8_25.trans x25_26
    have x9_26 := x9_25.trans x25_26
    have x10_26 := x10_25.trans x25_26
    have x11_26 := x11_25.trans x25_26
    have x12_26 := x12_25.trans x25_26
    have x13_26 := x13_25.trans x25_26
    have x14_26 := x14_25.trans x25_26
    have x15_26 := x15_25.trans x25_26
    have x16_26 := x16_25.trans x25_26
    have x17_26 := x17_25.trans x25_26
    have x18_26 := x18_25.trans x25_26
    have x19_26 := x19_25.trans x25_26
    have x20_26 := x20_25.trans x25_26
    have x21_26 := x21_25.trans x25_26
    have x22_26 := x22_25.trans x25_26
    have x23_26 := x23_25.trans x25_26
    have x24_26 := x24_25.trans x25_26
    have f26 := ex_free x0_25 np26
    refine catA_of (rd_ex x0_26 hb) (.inl h26) (by simp) (by show p.length + 1 ≤ 100000; omega) fun z27 H27 x26_27 g27 => ?_
    have x0_27 := x0_26.trans x26_27
    have x1_27 := x1_26.trans x26_27
    have x2_27 := x2_26.trans x26_27
    have x3_27 := x3_26.trans x26_27
    have x4_27 := x4_26.trans x26_27
    have x5_27 := x5_26.trans x26_27
    have x6_27 := x6_26.trans x26_27
    have x7_27 := x7_26.trans x26_27
    have x8_27 := x8_26.trans x26_27
    have x9_27 := x9_26.trans x26_27
    have x10_27 := x10_26.trans x26_27
    have x11_27 := x11_26.trans x26_27
    have x12_27 := x12_26.trans x26_27
    have x13_27 := x13_26.trans x26_27
    have x14_27 := x14_26.trans x26_27
    have x15_27 := x15_26.trans x26_27
    have x16_27 := x16_26.trans x26_27
    have x17_27 := x17_26.trans x26_27
    have x18_27 := x18_26.trans x26_27
    have x19_27 := x19_26.trans x26_27
    have x20_27 := x20_26.trans x26_27
    have x21_27 := x21_26.trans x26_27
    have x22_27 := x22_26.trans x26_27
    have x23_27 := x23_26.trans x26_27
    have x24_27 := x24_26.trans x26_27
    have x25_27 := x25_26.trans x26_27
    refine ⟨_, rfl, b, p, rfl, .inr (.inl (rd_ex x0_27 hb)), fun p28 np28 => ?_⟩
    obtain ⟨H28, hH28, x27_28, h28⟩ := newH _ np28
    rw [hH28]
    clear hH28
    have x0_28 := x0_27.trans x27_28
    have x1_28 := x1_27.trans x27_28
    have x2_28 := x2_27.trans x27_28
    have x3_28 := x3_27.trans x27_28
    have x4_28 := x4_27.trans x27_28
    have x5_28 := x5_27.trans x27_28
    have x6_28 := x6_27.trans x27_28
    have x7_28 := x7_27.trans x27_28
    have x8_28 := x8_27.trans x27_28
    have x9_28 := x9_27.trans x27_28
    have x10_28 := x10_27.trans x27_28
    have x11_28 := x11_27.trans x27_28
    have x12_28 := x12_27.trans x27_28
    have x13_28 := x13_27.trans x27_28
    have x14_28 := x14_27.trans x27_28
    have x15_28 := x15_27.trans x27_28
    have x16_28 := x16_27.trans x27_28
    have x17_28 := x17_27.trans x27_28
    have x18_28 := x18_27.trans x27_28
    have x19_28 := x19_27.trans x27_28
    have x20_28 := x20_27.trans x27_28
    have x21_28 := x21_27.trans x27_28
    have x22_28 := x22_27.trans x27_28
    have x23_28 := x23_27.trans x27_28
    have x24_28 := x24_27.trans x27_28
    have x25_28 := x25_27.trans x27_28
    have x26_28 := x26_27.trans x27_28
    have f28 := ex_free x0_27 np28
    refine ⟨szl (by show 7 ≤ 100000; decide), fun p29 np29 => ?_⟩
    obtain ⟨H29, hH29, x28_29, h29⟩ := newH _ np29
    rw [hH29]
    clear hH29
    have x0_29 := x0_28.trans x28_29
    have x1_29 := x1_28.trans x28_29
    have x2_29 := x2_28.trans x28_29
    have x3_29 := x3_28.trans x28_29
    have x4_29 := x4_28.trans x28_29
    have x5_29 := x5_28.trans x28_29
    have x6_29 := x6_28.trans x28_29
    have x7_29 := x7_28.trans x28_29
    have x8_29 := x8_28.trans x28_29
    have x9_29 := x9_28.trans x28_29
    have x10_29 := x10_28.trans x28_29
    have x11_29 := x11_28.trans x28_29
    have x12_29 := x12_28.trans x28_29
    have x13_29 := x13_28.trans x28_29
    have x14_29 := x14_28.trans x28_29
    have x15_29 := x15_28.trans x28_29
    have x16_29 := x16_28.trans x28_29
    have x17_29 := x17_28.trans x28_29
    have x18_29 := x18_28.trans x28_29
    have x19_29 := x19_28.trans x28_29
    have x20_29 := x20_28.trans x28_29
    have x21_29 := x21_28.trans x28_29
    have x22_29 := x22_28.trans x28_29
    have x23_29 := x23_28.trans x28_29
    have x24_29 := x24_28.trans x28_29
    have x25_29 := x25_28.trans x28_29
    have x26_29 := x26_28.trans x28_29
    have x27_29 := x27_28.trans x28_29
    have f29 := ex_free x0_28 np29
    refine ⟨p14, p29, _, _, rfl, rfl, x14_29 _ _ h14, h29, szl (by show 14 + 7 ≤ 100000; decide), fun p30 np30 => ?_⟩
    obtain ⟨H30, hH30, x29_30, h30⟩ := newH _ np30
    rw [hH30]
    clear hH30
    have x0_30 := x0_29.trans x29_30
    have x1_30 := x1_29.trans x29_30
    have x2_30 := x2_29.trans x29_30
    have x3_30 := x3_29.trans x29_30
    have x4_30 := x4_29.trans x29_30
    have x5_30 := x5_29.trans x29_30
    have x6_30 := x6_29.trans x29_30
    have x7_30 := x7_29.trans x29_30
    have x8_30 := x8_29.trans x29_30
    have x9_30 := x9_29.trans x29_30
    have x10_30 := x10_29.trans x29_30
    have x11_30 := x11_29.trans x29_30
    have x12_30 := x12_29.trans x29_30
    have x13_30 := x13_29.trans x29_30
    have x14_30 := x14_29.trans x29_30
    have x15_30 := x15_29.trans x29_30
    have x16_30 := x16_29.trans x29_30
    have x17_30 := x17_29.trans x29_30
    have x18_30 := x18_29.trans x29_30
    have x19_30 := x19_29.trans x29_30
    have x20_30 := x20_29.trans x29_30
    have x21_30 := x21_29.trans x29_30
    have x22_30 := x22_29.trans x29_30
    have x23_30 := x23_29.trans x29_30
    have x24_30 := x24_29.trans x29_30
    have x25_30 := x25_29.trans x29_30
    have x26_30 := x26_29.trans x29_30
    have x27_30 := x27_29.trans x29_30
    have x28_30 := x28_29.trans x29_30
    have f30 := ex_free x0_29 np30
    refine ⟨_, rfl, _, rfl, _, rfl, .ref p30, 21, rfl, .inl ⟨_, SqLo h30, rfl⟩, pl, _, rfl, hp.ex x0_30, by decide, by decide, fun x x0 x1 => ?_⟩
    obtain ⟨z, hz1, hz2, _⟩ := at_some (xs := [V.non, V.int 0, V.str "a", .ref p1, .ref p2, V.bl true, .ref p3, .ref p4, .ref p5, .ref p6, .ref p7, .ref p9, .ref p11, .ref p13] ++ [V.ref z16, V.ref z18, V.ref z20, V.ref z22, V.ref z24, V.ref z27, V.ref p28]) (v := x) x0 x1
    refine ⟨p30, _, _, _, rfl, rfl, SqLo h30, hz1, k z H30 x0_30 ?_⟩
    simp only [List.mem_append, List.mem_cons, List.not_mem_nil, or_false] at hz2
    have o1 : BadOk K H30 (V.non) := bad_s (dt_non) (by decide +kernel) (by decide +kernel) (.non) (by decide +kernel)
    have o2 : BadOk K H30 (V.int 0) := bad_s (dt_int 0) (by decide +kernel) (by decide +kernel) (.int 0) (by decide +kernel)
    have o3 : BadOk K H30 (V.str "a") := bad_s (dt_str "a") (by decide +kernel) (by decide +kernel) (.str "a") (by decide +kernel)
    have o4 : BadOk K H30 (.ref p1) := bad_s (dt_lst (x1_30 _ _ h1) DtL.nil) (by decide +kernel) (by decide +kernel) (.lst (SqLo (x1_30 _ _ h1)) .nil) (by decide +kernel)
    have o5 : BadOk K H30 (.ref p2) := ⟨.dict [], dt_dk (es := []) (x2_30 _ _ h2) List.nodup_nil (by unfold DtK; rfl), limB_ok _ rfl, by decide, .inr (.inl ⟨p2, [], [], rfl, .inl (x2_30 _ _ h2), rfl⟩)⟩
    have o6 : BadOk K H30 (V.bl true) := bad_s (dt_bl true) (by decide +kernel) (by decide +kernel) (.bl true) (by decide +kernel)
    have o7 : BadOk K H30 (.ref p3) := bad_s (dt_tup (x3_30 _ _ h3) (DtL.cons dt_non DtL.nil)) (by decide +kernel) (by decide +kernel) (.tup (SqTo (x3_30 _ _ h3)) (.cons .non .nil)) (by decide +kernel)
    have o8 : BadOk K H30 (.ref p4) := bad_s (dt_tup (x4_30 _ _ h4) (DtL.cons (dt_bl _) DtL.nil)) (by decide +kernel) (by decide +kernel) (.tup (SqTo (x4_30 _ _ h4)) (.cons (.bl _) .nil)) (by decide +kernel)
    have o9 : BadOk K H30 (.ref p5) := bad_s (dt_tup (x5_30 _ _ h5) (DtL.cons (dt_bl _) DtL.nil)) (by decide +kernel) (by decide +kernel) (.tup (SqTo (x5_30 _ _ h5)) (.cons (.bl _) .nil)) (by decide +kernel)
    have o10 : BadOk K H30 (.ref p6) := bad_s (dt_tup (x6_30 _ _ h6) (DtL.cons (dt_str _) DtL.nil)) (by decide +kernel) (by decide +kernel) (.tup (SqTo (x6_30 _ _ h6)) (.cons (.str _) .nil)) (by decide +kernel)
    have o11 : BadOk K H30 (.ref p7) := bad_s (dt_tup (x7_30 _ _ h7) (DtL.cons (dt_int _) DtL.nil)) (by decide +kernel) (by decide +kernel) (.tup (SqTo (x7_30 _ _ h7)) (.cons (.int _) .nil)) (by decide +kernel)
    have o12 : BadOk K H30 (.ref p9) := bad_s (dt_tup (x9_30 _ _ h9) (DtL.cons (dt_lst (x8_30 _ _ h8) DtL.nil) DtL.nil)) (by decide +kernel) (by decide +kernel) (.tup (SqTo (x9_30 _ _ h9)) (.cons (.lst (SqLo (x8_30 _ _ h8)) .nil) .nil)) (by decide +kernel)
    have o13 : BadOk K H30 (.ref p11) := ⟨.tuple [.dict []], dt_tup (x11_30 _ _ h11) (DtL.cons (dt_dk (es := []) (x10_30 _ _ h10) List.nodup_nil (by unfold DtK; rfl)) DtL.nil), limB_ok _ rfl, by decide, .inr (.inr ⟨p11, p10, [], [], rfl, .inl (x11_30 _ _ h11), .inl (x10_30 _ _ h10), rfl⟩)⟩
    have o14 : BadOk K H30 (.ref p13) := bad_s (dt_tup (x13_30 _ _ h13) (DtL.cons (dt_tup (x12_30 _ _ h12) DtL.nil) DtL.nil)) (by decide +kernel) (by decide +kernel) (.tup (SqTo (x13_30 _ _ h13)) (.cons (.tup (SqTo (x12_30 _ _ h12)) .nil) .nil)) (by decide +kernel)
    have o15 : BadOk K H30 (.ref z16) := bad_cat (rd_ex x16_30 g16) hpg hpl (dt_str "missing") (.str "missing") (by decide +kernel) (by decide +kernel) (by decide +kernel) (by decide +kernel)
    have o16 : BadOk K H30 (.ref z18) := bad_cat (rd_ex x18_30 g18) hpg hpl (dt_int 60) (.int 60) (by decide +kernel) (by decide +kernel) (by decide +kernel) (by decide +kernel)
    have o17 : BadOk K H30 (.ref z20) := bad_cat (rd_ex x20_30 g20) hpg hpl (dt_int (-1)) (.int (-1)) (by decide +kernel) (by decide +kernel) (by decide +kernel) (by decide +kernel)
    have o18 : BadOk K H30 (.ref z22) := bad_cat (rd_ex x22_30 g22) hpg hpl (dt_bl true) (.bl true) (by decide +kernel) (by decide +kernel) (by decide +kernel) (by decide +kernel)
    have o19 : BadOk K H30 (.ref z24) := bad_cat (rd_ex x24_30 g24) hpg hpl (dt_non) (.non) (by decide +kernel) (by decide +kernel) (by decide +kernel) (by decide +kernel)
    have o20 : BadOk K H30 (.ref z27) := bad_cat (rd_ex x27_30 g27) hpg hpl (dt_lst (x25_30 _ _ h25) (DtL.cons (dt_int 0) DtL.nil)) (.lst (SqLo (x25_30 _ _ h25)) (.cons (.int 0) .nil)) (by decide +kernel) (by decide +kernel) (by decide +kernel) (by decide +kernel)
    have o21 : BadOk K H30 (.ref p28) := by
      obtain ⟨g1, g2, g3⟩ := st_dtl (H := H30) hpg
      obtain ⟨q1, q2, q3⟩ := st_all (K := K) (H := H30) fun s hs => (hpg s hs).1
      refine ⟨.list (p.map stV), dt_lst (x28_30 _ _ h28) g1, by unfold lim; exact g2, by rw [nod_list, g3]; omega, .inl ⟨.lst (SqLo (x28_30 _ _ h28)) q1, ?_⟩⟩
      unfold SeqAt.shaped
      rw [PyData.canLay0, PyData.depth, q2, q3]
      rfl
    rcases hz2 with (rfl | rfl | rfl | rfl | rfl | rfl | rfl | rfl | rfl | rfl | rfl | rfl | rfl | rfl) | (rfl | rfl | rfl | rfl | rfl | rfl | rfl)
    all_goals assumption
end
end VL

namespace VL
open PySem PySem.Spec L2 LW PyProof.Rows
open Evl (Ex)
/-! ### every list of names has an order -/
theorem ex_sorted (l : List Str) : ∃ ys : List Str, ys.Perm l ∧ sortedS ys = true := by
  let le : Str → Str → Bool := fun a b => decide (a.cps.toList ≤ b.cps.toList)
  refine ⟨l.mergeSort le, List.mergeSort_perm l le, sortedS_of_pairwise _ ?_⟩
  have q := List.pairwise_mergeSort (le := le) (fun a b c h1 h2 => decide_eq_true (List.le_trans (of_decide_eq_true h1) (of_decide_eq_true h2))) (fun a b => by
    rcases List.le_total a.cps.toList b.cps.toList with h | h
    · show (decide _ || decide _) = true
      rw [decide_eq_true h]
      rfl
    · show (decide _ || decide _) = true
      rw [decide_eq_true h, Bool.or_true]) l
  refine List.Pairwise.imp (fun {a b} h => ?_) q
  rw [ltCps_eq]
  exact decide_eq_false (List.not_lt.mpr (of_decide_eq_true h))
theorem srt_perm (l : List Str) : (srt l).Perm l := by
  obtain ⟨ys, p, s⟩ := ex_sorted l
  rw [← srt_of p s]
  exact p
/-- places that are told by data -/
theorem hasP_path : ∀ {es : List PyData} {d : PyData}, walkP d es = true → ∃ p ∈ paths d, es = p.map stV
  | [], d, _ => ⟨[], by rw [paths_eq]; exact List.mem_cons_self, rfl⟩
  | e :: es, d, h => by
    have h : (match stepP d e with | none => false | some c => walkP c es) = true := h
    cases hs : stepP d e with
    | none =>
      rw [hs] at h
      cases h
    | some c =>
      rw [hs] at h
      obtain ⟨p, hp, rfl⟩ := hasP_path h
      obtain ⟨s, hs1, hs2⟩ : ∃ s, stepD d s = some c ∧ e = stV s := by
        cases e with
        | int i => exact ⟨.int i, hs, rfl⟩
        | str i => exact ⟨.str i, hs, rfl⟩
        | _ => cases hs
      refine ⟨s :: p, ?_, by rw [hs2]; rfl⟩
      rw [paths_eq]
      refine List.mem_cons_of_mem _ (List.mem_flatMap.mpr ⟨(s, c), kidsOf_all hs1 fun kvs _ => ex_sorted _, ?_⟩)
      exact List.mem_map.mpr ⟨p, hp, rfl⟩
theorem at_walk : ∀ {p : List V} {d c : PyData}, At d p c → okA d = true → walkP d (p.map stV) = true
  | [], _, _, _, _ => rfl
  | s :: p, d, c, h, ho => by
    obtain ⟨e, h1, h2⟩ := h
    have ih := at_walk h2 (step_ok h1 ho)
    show (match stepP d (stV s) with | none => false | some c => walkP c (p.map stV)) = true
    have hs : stepP d (stV s) = some e := by
      rcases step_st h1 ho with ⟨i, rfl⟩ | ⟨y, rfl, _⟩ <;> exact h1
    rw [hs]
    exact ih
/-! ### the places as data -/
noncomputable def pathsD (d : PyData) : PyData := .list ((paths d).map fun p => .tuple (p.map stV))
theorem dp_paths {K : PySem.W.Frag} {H : Hp} : ∀ {ts : List V} {ps : List (List V)}, Paired (PlTup H []) ts ps → (∀ p ∈ ps, ∀ s ∈ p, StG s) → DpAll K H ts (ps.map fun p => .tuple (p.map stV))
  | _, _, .nil, _ => .nil
  | _, _, .cons h t, hp => by
    obtain ⟨b, rfl, hb⟩ := h
    exact .cons (.tup (.inl hb) (st_all fun s hs => (hp _ List.mem_cons_self s hs).1).1) (dp_paths t fun p hpm => hp p (List.mem_cons_of_mem _ hpm))
theorem lay_paths : ∀ (ps : List (List V)), (∀ p ∈ ps, ∀ s ∈ p, StG s) → PyData.canLayAll0 (ps.map fun p => PyData.tuple (p.map stV)) = true ∧ PyData.depthAll (ps.map fun p => PyData.tuple (p.map stV)) ≤ 1
  | [], _ => ⟨rfl, by rw [List.map_nil, PyData.depthAll]; omega⟩
  | p :: ps, h => by
    obtain ⟨g1, g2⟩ := lay_paths ps fun q hq => h q (List.mem_cons_of_mem _ hq)
    obtain ⟨_, q2, q3⟩ := st_all (K := []) (H := fun _ => none) fun s hs => (h p List.mem_cons_self s hs).1
    rw [List.map_cons, PyData.canLayAll0, PyData.depthAll, PyData.canLay0, PyData.depth, q2, q3, g1]
    exact ⟨rfl, by omega⟩
theorem paths_g {d : PyData} (ho : okA d = true) : ∀ p ∈ paths d, (∀ s ∈ p, StG s) ∧ p.length ≤ cnt d := fun p hp => by
  obtain ⟨c, hc⟩ := paths_at (cnt d) d (Nat.le_refl _) p hp
  obtain ⟨g1, g2⟩ := at_g hc ho
  exact ⟨g1, by omega⟩
theorem shaped_paths {d : PyData} (ho : okA d = true) : SeqAt.shaped (pathsD d) = true ∧ SeqAt.shaped (.tuple [.str "told", pathsD d]) = true := by
  obtain ⟨g1, g2⟩ := lay_paths (paths d) fun p hp => (paths_g ho p hp).1
  have h1 : PyData.canLay0 (pathsD d) = true := by
    unfold pathsD
    rw [PyData.canLay0]
    exact g1
  have h2 : (pathsD d).depth ≤ 2 := by
    unfold pathsD
    rw [PyData.depth]
    omega
  constructor
  · unfold SeqAt.shaped
    rw [h1, Bool.true_and]
    exact decide_eq_true (by omega)
  · unfold SeqAt.shaped
    rw [PyData.canLay0, PyData.canLayAll0, PyData.canLayAll0, PyData.canLayAll0, h1, PyData.depth, PyData.depthAll, PyData.depthAll, PyData.depthAll]
    have : PyData.canLay0 (.str "told") = true := by decide +kernel
    rw [this]
    show (true && decide _) = true
    rw [Bool.true_and]
    refine decide_eq_true ?_
    have : (PyData.str "told").depth = 0 := rfl
    omega
/-! ### values are plain, heads are small -/
mutual
theorem ok_plain : ∀ d : PyData, okA d = true → plainD d ∧ d.depth ≤ cnt d
  | .none, h => by cases h
  | .bool _, h => by cases h
  | .tuple _, h => by cases h
  | .int i, _ => ⟨by unfold plainD; trivial, by rw [PyData.depth]; omega⟩
  | .str i, _ => ⟨by unfold plainD; trivial, by rw [PyData.depth]; omega⟩
  | .list ds, h => by
    unfold okA at h
    rw [Bool.and_eq_true] at h
    obtain ⟨g1, g2⟩ := okL_plain ds h.2
    refine ⟨by unfold plainD; exact g1, ?_⟩
    rw [PyData.depth, cnt]
    omega
  | .dict kvs, h => by
    unfold okA at h
    rw [Bool.and_eq_true] at h
    obtain ⟨g1, g2⟩ := okK_plain kvs h.2 (allStr_of h.1).1
    refine ⟨by unfold plainD; exact g1, ?_⟩
    rw [PyData.depth, cnt]
    omega
theorem okL_plain : ∀ ds : List PyData, okL ds = true → plainL ds ∧ PyData.depthAll ds ≤ cntL ds
  | [], _ => ⟨by unfold plainL; trivial, by rw [PyData.depthAll]; omega⟩
  | d :: r, h => by
    unfold okL at h
    rw [Bool.and_eq_true] at h
    obtain ⟨g1, g2⟩ := ok_plain d h.1
    obtain ⟨g3, g4⟩ := okL_plain r h.2
    refine ⟨by unfold plainL; exact ⟨g1, g3⟩, ?_⟩
    rw [PyData.depthAll, cntL]
    omega
theorem okK_plain : ∀ ds : List (PyData × PyData), okK ds = true → AllStr ds → plainK ds ∧ PyData.depthKv ds ≤ cntK ds
  | [], _, _ => ⟨by unfold plainK; trivial, by rw [PyData.depthKv]; omega⟩
  | (k, d) :: r, h, ha => by
    unfold okK at h
    rw [Bool.and_eq_true] at h
    obtain ⟨g1, g2⟩ := ok_plain d h.1
    obtain ⟨g3, g4⟩ := okK_plain r h.2 (fun p hp => ha p (List.mem_cons_of_mem _ hp))
    have hk : k = .str (nm k) := ha (k, d) List.mem_cons_self
    refine ⟨by unfold plainK; exact ⟨⟨_, hk⟩, g1, g3⟩, ?_⟩
    rw [PyData.depthKv, cntK]
    have : k.depth = 0 := by
      rw [hk]
      rfl
    omega
end
theorem lim_told : lim (.str "told") := limB_ok _ (by decide +kernel)
theorem head_sm {d : PyData} (ho : okA d = true) (w : Str) (hw : lim (.str w)) : Sm (.tuple [.str w, headD d]) ∧ Sm (headD d) := by
  have main : lim (headD d) ∧ nod (headD d) ≤ 20 := by
    have hl := ok_lim d ho
    cases d with
    | dict kvs =>
      show lim (.tuple [.str "record", .tuple ((srt (names kvs)).map PyData.str)]) ∧ nod (.tuple [.str "record", .tuple ((srt (names kvs)).map PyData.str)]) ≤ 20
      rw [okA_kids, Bool.and_eq_true] at ho
      have h1 : (decide (kvs.length ≤ 8) && kvs.all fun p => fld p.1) = true := ho.1
      rw [Bool.and_eq_true] at h1
      obtain ⟨ha, h8⟩ := allStr_of ho.1
      have hmem : ∀ y ∈ srt (names kvs), lim (.str y) := fun y hy => by
        obtain ⟨p, hp, e⟩ := List.mem_map.mp (srt_mem hy)
        have q := List.all_eq_true.mp h1.2 p hp
        have e2 := ha p hp
        rw [← e, ← e2]
        exact (fld_lim q).1
      have hlen : (srt (names kvs)).length = kvs.length := by
        rw [(srt_perm _).length_eq]
        unfold names
        rw [List.length_map]
      have hn : ∀ l : List Str, nodL (l.map PyData.str) = l.length := by
        intro l
        induction l with
        | nil => rw [List.map_nil, nodL]; rfl
        | cons a r ih =>
          rw [List.map_cons, nodL, ih, List.length_cons]
          show 1 + _ = _
          omega
      constructor
      · unfold lim limL limL limL
        refine ⟨limB_ok (.str "record") (by decide +kernel), ?_, trivial⟩
        unfold lim
        refine limL_of.mpr fun z hz => ?_
        obtain ⟨y, hy, rfl⟩ := List.mem_map.mp hz
        exact hmem y hy
      · rw [nod, nodL, nodL, nodL, nod, hn, hlen]
        have : nod (.str "record") = 1 := rfl
        omega
    | list ds =>
      show lim (.tuple [.str "list", .int ds.length]) ∧ nod (.tuple [.str "list", .int ds.length]) ≤ 20
      rw [okA_kids, Bool.and_eq_true] at ho
      have h60 : ds.length < 60 := of_decide_eq_true ho.1
      constructor
      · unfold lim limL limL limL
        refine ⟨limB_ok (.str "list") (by decide +kernel), ?_, trivial⟩
        unfold lim big
        omega
      · rw [nod, nodL, nodL, nodL]
        show 1 + (1 + (1 + 0)) ≤ 20
        omega
    | str x =>
      show lim (.tuple [.str "text", .str x]) ∧ nod (.tuple [.str "text", .str x]) ≤ 20
      constructor
      · unfold lim limL limL limL
        exact ⟨limB_ok (.str "text") (by decide +kernel), hl.1, trivial⟩
      · rw [nod, nodL, nodL, nodL]
        show 1 + (1 + (1 + 0)) ≤ 20
        omega
    | int x =>
      show lim (.tuple [.str "number", .int x]) ∧ nod (.tuple [.str "number", .int x]) ≤ 20
      constructor
      · unfold lim limL limL limL
        exact ⟨limB_ok (.str "number") (by decide +kernel), hl.1, trivial⟩
      · rw [nod, nodL, nodL, nodL]
        show 1 + (1 + (1 + 0)) ≤ 20
        omega
    | _ => cases ho
  refine ⟨⟨?_, ?_⟩, main.1, by omega⟩
  · unfold lim limL limL limL
    exact ⟨hw, main.1, trivial⟩
  · rw [nod, nodL, nodL, nodL]
    have : nod (.str w) = 1 := rfl
    omega
end VL

namespace LW
open PySem PySem.Spec L2
section
variable {X : Cx} {k j : Nat} {x : Str} {sp : Sp} {p pos : Pos} {e : Expr} {es : List Expr} {t : TA}
theorem pe_kL (c : Cal X.prog X.w X.K X.mg X.base (L2.CX X.prog X.w) k x sp) (hr : Room j X.A) (hk : k ≤ j) (hg : Gl X x) (ha : PA X (e :: es) t)
    (hdb : (x == ("__debug__" : Str)) = false := by decide) (he : starEach (e :: es) X.env = (false, eval e X.env) :: starEach es X.env := by rfl) (hpl : (backTo pos (starEach es X.env)).any (·.1) = false := by rfl) :
    PE X (.Call (.Name x p) (e :: es) [] pos) (tCall sp [] E0 t) := by
  obtain ⟨f, fd, ps, F, hm, kp, b⟩ := c.ex
  exact pe_call F (hr.mono hk) hg hm kp b .nil passL ha hdb he hpl
end
end LW
namespace VL
open PySem PySem.Spec L2 LW
open Evl (Ex)
theorem ex_room {H H1 H' : Hp} {ro : Addr} {o o' : HO} (h : H ro = none) (e1 : upd H ro o = H1) (e : Ex (upd H1 ro o') H') : Ex H H' := fun b x q => by
  have nb : b ≠ ro := fun z => by
    rw [z, h] at q
    cases q
  refine e b x ?_
  rw [upd_ne nb, ← e1, upd_ne nb]
  exact q
theorem isV_t {d : PyData} (h1 : okA d = true) (h2 : cnt d ≤ 60) : isV d = true := by
  unfold isV
  rw [h1, decide_eq_true h2]
  rfl
theorem sm_none : Sm .none := ⟨by unfold lim; trivial, by decide⟩
section
variable {P : Program} {w : World} {K : PySem.W.Frag} {mg : Str → Option Value} {base : Heap} {CC CI CP : Addr}
def spLaw (K : PySem.W.Frag) : Sp := fun vs H Q _ => ∃ (a : Addr) (ns : List Int), vs = [.ref a] ∧ SqL K H a (ns.map V.int) ∧ ns.length ≤ 63 ∧ ∀ H', Q (.bl true) H'
/-! ### the doors, with what is no value -/
def tDoors (K : PySem.W.Frag) : TS := tFor (iRng1 (tCons (tC (V.int 3)) tNil)) (gName 10)
  (tSeq (tAsg (tOp (rIxL K) (tLst (tCons (tC V.non) (tCons (tC (V.bl true)) (tCons (tTup tNil) (tCons (tDisp [(tC (V.str ""), tC (V.int 0))]) (tCons (tOp (rI CPow fun i j => V.int (i ^ j.toNat)) (tC (V.int 10)) (tC (V.int 30))) (tCons (tLst (tCons (tVar 3) (tCons (tC V.non) tNil))) tNil)))))))
      (tCall spDraw [] E0 (tCons (tVar 2) (tCons (tC (V.int 6)) tNil)))) (gName 11))
    (tIfS (tTest (tOp rNe2 (tCall spTold [] E0 (tCons (tVar 10) (tCons (tVar 11) (tCons (tVar 9) tNil)))) (tTup (tCons (tC (V.str "value")) (tCons (tCB LW.rRep (tCons (tVar 11) tNil)) tNil))))) (tRet (tC (V.bl false))) tNext))
def NoV (H : Hp) (z : V) : Prop := ∃ e, Dt H e z ∧ isV e = false ∧ Sm e
theorem doors_go {D : Ends} {H : Hp} {s0 s1 s4 s5 s6 s7 s8 s10 s11 : Option V} {p : Addr} {v bz : V} {d e : PyData} (hp : Pool H p) (hd : Dt H d v) (ho : okA d = true) (hc : cnt d ≤ 60) (hbd : Dt H e bz) (hbs : Sm e)
    (k : ∀ v10 v11 H', Ex H H' → D.nx [s0, s1, some (.ref p), some v, s4, s5, s6, s7, s8, some bz, v10, v11] H') : tDoors K D [s0, s1, some (.ref p), some v, s4, s5, s6, s7, s8, some bz, s10, s11] H := by
  refine ⟨3, rfl, by decide, by decide, for_range (lo := 0) (fun j σ' Hi => ∃ v10 v11 : Option V, σ' = [s0, s1, some (.ref p), some v, s4, s5, s6, s7, s8, some bz, v10, v11] ∧ Ex H Hi) ⟨_, _, rfl, fun _ _ h => h⟩ ?_ ?_⟩
  · rintro j σ' H0 hj ⟨v10, v11, rfl, e0⟩
    have hj3 : j < 3 := hj
    have cp3 : CPow 10 30 := ⟨by decide, by decide, by decide⟩
    have c30 : (10 : Int) ^ (30 : Int).toNat = big := by decide
    refine ⟨szl (by show 0 ≤ 100000; decide), fun p1 np1 => ?_⟩
    obtain ⟨H1, hH1, x0_1, h1⟩ := newH _ np1
    rw [hH1]
    clear hH1
    refine cons_of (disp1 (k := Sum.inr "") rfl fun p2 H2 np2 x1_2 h2 => ?_)
    refine ⟨_, _, rfl, rfl, cp3, _, rfl, szl (by show 2 ≤ 100000; decide), fun p3 np3 => ?_⟩
    obtain ⟨H3, hH3, x2_3, h3⟩ := newH _ np3
    rw [hH3]
    clear hH3
    refine ⟨szl (by show 6 ≤ 100000; decide), fun p4 np4 => ?_⟩
    obtain ⟨H4, hH4, x3_4, h4⟩ := newH _ np4
    rw [hH4]
    clear hH4
    have x1_4 := x1_2.trans (x2_3.trans x3_4)
    have x04 := e0.trans (x0_1.trans x1_4)
    refine ⟨_, rfl, p, 6, rfl, hp.ex x04, by decide, by decide, fun x x0 x1 => ?_⟩
    obtain ⟨z, hz1, hz2, _⟩ := at_some (xs := [V.non, V.bl true, V.ref p1, V.ref p2, V.int (10 ^ (30 : Int).toNat), V.ref p3]) (v := x) x0 x1
    refine ⟨p4, _, _, _, rfl, rfl, SqLo h4, hz1, ?_⟩
    have hz3 : NoV H4 z := by
      rw [c30] at hz2
      simp only [List.mem_cons, List.not_mem_nil, or_false] at hz2
      have o1 : NoV H4 V.non := ⟨.none, dt_non, rfl, sm_none⟩
      have o2 : NoV H4 (V.bl true) := ⟨.bool true, dt_bl true, rfl, limB_ok _ rfl, by decide⟩
      have o3 : NoV H4 (V.ref p1) := ⟨.tuple [], dt_tup (x1_4 _ _ h1) DtL.nil, rfl, limB_ok _ rfl, by decide⟩
      have o4 : NoV H4 (V.ref p2) := ⟨_, dt_dk1 ((x2_3.trans x3_4) _ _ h2) (dt_int 0), by decide +kernel, limB_ok _ (by decide +kernel), by decide +kernel⟩
      have o5 : NoV H4 (V.int big) := ⟨.int big, dt_int _, by decide +kernel, limB_ok _ (by decide +kernel), by decide⟩
      have o6 : NoV H4 (V.ref p3) := by
        refine ⟨.list [d, .none], dt_lst (x3_4 _ _ h3) (DtL.cons (hd.ex x04) (DtL.cons dt_non DtL.nil)), ?_, ?_, ?_⟩
        · unfold isV okA okL okL
          rw [show okA .none = false from rfl, Bool.false_and, Bool.and_false, Bool.and_false, Bool.false_and]
        · unfold lim limL limL limL
          exact ⟨(ok_lim d ho).1, by unfold lim; trivial, trivial⟩
        · rw [nod_list, nodL, nodL, nodL]
          have := (ok_lim d ho).2
          have : nod .none = 1 := rfl
          omega
      rcases hz2 with rfl | rfl | rfl | rfl | rfl | rfl
      all_goals assumption
    obtain ⟨ez, hzd, hzv, hzs⟩ := hz3
    refine ⟨_, rfl, _, rfl, _, rfl, j, z, bz, ez, e, ?_, by omega, hzd, hzs, hbd.ex x04, hbs, fun _ t H5 x4_5 ht => ?_, fun hv => ?_, fun hv => ?_, fun hv => ?_⟩
    · show [V.int (0 + (j : Int)), z, bz] = _
      rw [show (0 + (j : Int)) = (j : Int) by omega]
    · refine ⟨_, rfl, z, ez, rfl, hzd.ex x4_5, hzs.show, hzs.size, hzs.depth, szl (by show 2 ≤ 100000; decide), fun p6 np6 => ?_⟩
      obtain ⟨H6, hH6, x5_6, h6⟩ := newH _ np6
      rw [hH6]
      clear hH6
      exact ⟨t, p6, _, _, rfl, rfl, .inl (x5_6 _ _ ht), .inl h6, _, rfl, if_f rfl ⟨_, _, rfl, x04.trans (x4_5.trans x5_6)⟩⟩
    · rw [hzv] at hv
      cases hv
    · rw [hzv] at hv
      cases hv
    · rw [hzv] at hv
      cases hv
  · rintro σ' Hi ⟨v10, v11, rfl, e0⟩
    exact k v10 v11 Hi e0
theorem sc_law : FnScope ["_law_script", "_law_k", "_law_pool", "_law_whole", "_law_kept", "_law_spots", "_law_turn", "_law_found", "_law_spot", "_law_bad", "_law_door", "_law_thing"] ["_law_script"] (defScope s_law) := ⟨rfl, rfl, rfl, by decide +kernel, rfl, by decide +kernel, by decide +kernel⟩
theorem bi_law : BindsEq "law" s_law ["_law_script"] := fun _ _ _ _ _ _ us hl => match us, hl with | [_], _ => rfl
theorem ok_law {f : Addr} {fd : FuncData} (F : FnP K "law" s_law f fd) (T : Txt K mg) (sy : ∃ mm, base.Ns sysModules mm) (C__law_hand : Cal P w K mg base CX0 1 "_law_hand" (spHand K)) (C__law_draw : Cal P w K mg base CX0 1 "_law_draw" spDraw)
    (C__law_value : Cal P w K mg base CX0 11 "_law_value" (spValue 7)) (C__law_below : Cal P w K mg base CX0 61 "_law_below" (spBelowP 60)) (C__law_told : CalG P w K mg base CX0 64 "_law_told" spTold) (C__law_top : Cal P w K mg base CX0 1 "_law_top" spHeadOf)
    (C__law_spoil : Cal P w K mg base CX0 61 "_law_spoil" (spSpoil 60)) (C_at : Cal P w K mg base (L2.CX P w) 62 "at" (spAt CI CP)) (C__law_part : Cal P w K mg base CX0 1 "_law_part" spPartL) (C_head : Cal P w K mg base (L2.CX P w) 6 "head" (spHead CI))
    (C__law_bad_spot : Cal P w K mg base CX0 2 "_law_bad_spot" (spBadSpot K)) : FnG P w K mg base CX0 65 f fd ["_law_script"] (spLaw K) := by
  refine FnG.of F sc_law (fun vs H Q E h => ?_) (fun cdv A outer s H vs Q E gd hr h => ?_)
  · obtain ⟨a, ns, rfl, _⟩ := h
    rfl
  · obtain ⟨a, ns, rfl, hS, hl, k⟩ := h
    have un := hr.un
    have un2 : (A.deeper (PyProof.Rows.envOfC "law" (defScope s_law) s.heap.objs.size f cdv)).units + 180 < cLine := by omega
    have cm : Calm (cxOf CX0 P w K mg base ["_law_script", "_law_k", "_law_pool", "_law_whole", "_law_kept", "_law_spots", "_law_turn", "_law_found", "_law_spot", "_law_bad", "_law_door", "_law_thing"] "law" (defScope s_law) f cdv A outer s H E).nox := ⟨gd, sy, un2⟩
    refine ⟨_, PSs.nox (pss_cons (ps_for PassesOwn.never rfl (pi_range1 rfl T.b_range (pa_cons (pe_callB (call_max2 rfl) rfl T.b_max (by decide +kernel) (pa_cons pe_int (pa_cons (pe_callB (call_min2 rfl) rfl T.b_min (by decide +kernel) (pa_cons (pe_callB (lnK K) rfl T.b_len (by decide +kernel) (pa_cons (pv 0) pa_nil)) (pa_cons pe_int pa_nil))) pa_nil))) pa_nil)) (pg_name (i := 1) sc_law.nd rfl (Or.inl rfl)) (pss_cons (ps_set (i := 2) sc_law.nd rfl (Or.inl rfl) (pe_k C__law_hand hr (by decide) rfl (pa_cons (pv 0) (pa_cons (pv 1) pa_nil))))
 (pss_cons (ps_set (i := 3) sc_law.nd rfl (Or.inl rfl) (pe_k C__law_value hr (by decide) rfl (pa_cons (pv 2) (pa_cons (pe_lst (pa_cons pe_int pa_nil)) (pa_cons pe_int pa_nil)))))
 (pss_cons (ps_set (i := 4) sc_law.nd rfl (Or.inl rfl) (pe_callB (call_repr cm) rfl T.b_repr (by decide +kernel) (pa_cons (pv 3) pa_nil)))
 (pss_cons (ps_set (i := 5) sc_law.nd rfl (Or.inl rfl) (pe_k C__law_below hr (by decide) rfl (pa_cons (pv 3) (pa_cons (pe_tup pa_nil) pa_nil))))
 (pss_cons (ps_for PassesOwn.never rfl (pi_range1 rfl T.b_range (pa_cons pe_int pa_nil)) (pg_name (i := 6) sc_law.nd rfl (Or.inl rfl)) (pss_cons (ps_set (i := 7) sc_law.nd rfl (Or.inl rfl) (pe_kG C__law_told gd hr (by decide) rfl (pa_cons pe_int (pa_cons (pv 3) (pa_cons pe_non pa_nil)))))
 (pss_cons (ps_if (PW.pt (pw_or (pt_cmpR (neDK K hr.units) (pv 7) (pe_tup (pa_cons pe_str (pa_cons (pv 5) pa_nil))) (nomark _)) (pw_or1 (pt_cmpR op_ne (pe_callB (call_repr cm) rfl T.b_repr (by decide +kernel) (pa_cons (pe_kG C__law_told gd hr (by decide) rfl (pa_cons pe_int (pa_cons (pv 3) (pa_cons pe_non pa_nil)))) pa_nil)) (pe_callB (call_repr cm) rfl T.b_repr (by decide +kernel) (pa_cons (pe_tup (pa_cons pe_str (pa_cons (pe_k C__law_top hr (by decide) rfl (pa_cons (pv 3) pa_nil)) pa_nil))) pa_nil)) (nomark _))))) (pss_one (ps_ret pe_bl)) pss_nil)
 (pss_one (ps_expr (pe_k C__law_spoil hr (by decide) rfl (pa_cons (pe_ix (ixt K) (pv 7) pe_int (fun _ _ => rfl)) pa_nil)))))))
 (pss_cons (ps_for PassesOwn.never rfl (pi_range1 rfl T.b_range (pa_cons pe_int pa_nil)) (pg_name (i := 6) sc_law.nd rfl (Or.inl rfl)) (pss_cons (ps_set (i := 8) sc_law.nd rfl (Or.inl rfl) (pe_ix (ixl K) (pv 5) (pe_k C__law_draw hr (by decide) rfl (pa_cons (pv 2) (pa_cons (pe_callB (lnK K) rfl T.b_len (by decide +kernel) (pa_cons (pv 5) pa_nil)) pa_nil))) (fun _ _ => rfl)))
 (pss_cons (ps_set (i := 7) sc_law.nd rfl (Or.inl rfl) (pe_kL C_at hr (by decide) rfl (pa_cons (pv 3) (pa_cons (pv 8) pa_nil))))
 (pss_cons (ps_if (PW.pt (pw_or (pt_cmpR (op_neS un2) (pv 7) (pe_k C__law_part hr (by decide) rfl (pa_cons (pv 3) (pa_cons (pv 8) pa_nil))) (nomark _)) (pw_or1 (pt_cmpR op_ne (pe_callB (call_repr cm) rfl T.b_repr (by decide +kernel) (pa_cons (pe_kL C_head hr (by decide) rfl (pa_cons (pv 7) pa_nil)) pa_nil)) (pe_callB (call_repr cm) rfl T.b_repr (by decide +kernel) (pa_cons (pe_k C__law_top hr (by decide) rfl (pa_cons (pv 7) pa_nil)) pa_nil)) (nomark _))))) (pss_one (ps_ret pe_bl)) pss_nil)
 (pss_cons (ps_expr (pe_k C__law_spoil hr (by decide) rfl (pa_cons (pv 7) pa_nil)))
 (pss_cons (ps_set (i := 9) sc_law.nd rfl (Or.inl rfl) (pe_k C__law_bad_spot hr (by decide) rfl (pa_cons (pv 2) (pa_cons (pv 5) pa_nil))))
 (pss_cons (ps_if (PW.pt (pw_and (pt_cmpR (op_notA K un2) (pv 9) (pv 5) (by rfl)) (pw_and1 (pt_cmpR (op_ne2 hr.units) (pe_kG C__law_told gd hr (by decide) rfl (pa_cons pe_int (pa_cons (pv 3) (pa_cons (pv 9) pa_nil)))) (pe_tup (pa_cons pe_str (pa_cons (pe_callB (call_repr cm) rfl T.b_repr (by decide +kernel) (pa_cons (pv 9) pa_nil)) pa_nil))) (nomark _))))) (pss_one (ps_ret pe_bl)) pss_nil)
 (pss_one (ps_for PassesOwn.never rfl (pi_range1 rfl T.b_range (pa_cons pe_int pa_nil)) (pg_name (i := 10) sc_law.nd rfl (Or.inl rfl)) (pss_cons (ps_set (i := 11) sc_law.nd rfl (Or.inl rfl) (pe_ix (ixl K) (pe_lst (pa_cons pe_non (pa_cons pe_bl (pa_cons (pe_tup pa_nil) (pa_cons (pe_disp (pps_cons pe_str pe_int pps_nil) (by rfl) (by rfl) (fun z => by cases z) (by decide)) (pa_cons (pe_op op_pow pe_int pe_int) (pa_cons (pe_lst (pa_cons (pv 3) (pa_cons pe_non pa_nil))) pa_nil))))))) (pe_k C__law_draw hr (by decide) rfl (pa_cons (pv 2) (pa_cons pe_int pa_nil))) (fun _ _ => rfl)))
 (pss_one (ps_if (pt_cmpR (op_ne2 hr.units) (pe_kG C__law_told gd hr (by decide) rfl (pa_cons (pv 10) (pa_cons (pv 11) (pa_cons (pv 9) pa_nil)))) (pe_tup (pa_cons pe_str (pa_cons (pe_callB (call_repr cm) rfl T.b_repr (by decide +kernel) (pa_cons (pv 11) pa_nil)) pa_nil))) (nomark _)) (pss_one (ps_ret pe_bl)) pss_nil))))))))))))
 (pss_one (ps_if (pt_cmpR op_ne (pe_callB (call_repr cm) rfl T.b_repr (by decide +kernel) (pa_cons (pv 3) pa_nil)) (pv 4) (nomark _)) (pss_one (ps_ret pe_bl)) pss_nil)))))))))
 (pss_one (ps_ret pe_bl))), ?_⟩
    have hlen : (ns.map V.int).length ≤ 63 := by rw [List.length_map]; exact hl
    generalize hn : (ns.map V.int).length = n0 at hlen
    refine ⟨_, rfl, _, n0, rfl, .inl ⟨_, hS, hn.symm⟩, _, _, rfl, _, _, rfl, _, rfl, by split <;> split <;> omega, by split <;> split <;> omega, ?_⟩
    refine for_range (lo := 0) (fun i σ' H' => ∃ v1 v2 v3 v4 v5 v6 v7 v8 v9 v10 v11 : Option V, σ' = [some (.ref a), v1, v2, v3, v4, v5, v6, v7, v8, v9, v10, v11] ∧ Ex H H') ?_ ?_ ?_
    · exact ⟨none, none, none, none, none, none, none, none, none, none, none, rfl, Ex.refl _⟩
    · rintro i σ' H0 hi ⟨v1, v2, v3, v4, v5, v6, v7, v8, v9, v10, v11, rfl, e0⟩
      have hi63 : i < 63 := by
        have : (if (if (6 : Int) < (n0 : Int) then (6 : Int) else (n0 : Int)) > 1 then (if (6 : Int) < (n0 : Int) then (6 : Int) else (n0 : Int)) else 1).toNat ≤ 63 := by split <;> split <;> omega
        exact Nat.lt_of_lt_of_le hi this
      -- _law_pool
      refine ⟨_, rfl, _, rfl, a, ns, _, rfl, Evl.ex_l e0 hS, hl, by omega, by omega, fun p H1 np x0_1 hp => ?_⟩
      -- _law_whole
      refine ⟨_, rfl, szl (by show 1 ≤ 100000; decide), fun ro nro => ?_⟩
      obtain ⟨Hr, hHr, x1_r, hro⟩ := newH _ nro
      rw [hHr]
      refine ⟨p, ro, 59, 6, rfl, by decide, hp.ex x1_r, hro, by decide, fun v d r' H2 x2 hdt ho hc => ?_⟩
      have x1_2 : Ex H1 H2 := ex_room nro hHr x2
      have hd2 := hdt.ex fr_sub
      have hc60 : cnt d ≤ 60 := by omega
      clear hdt x2 hro x1_r hHr
      have hsm := ok_sm ho hc60
      have hvt := isV_t ho hc60
      have hpos := cnt_pos d
      have hp2 := hp.ex x1_2
      have hpg := paths_g ho
      obtain ⟨hh1, hh2⟩ := head_sm ho "told" lim_told
      obtain ⟨hsp1, hsp2⟩ := shaped_paths ho
      -- _law_kept
      refine ⟨_, rfl, v, d, rfl, hd2, hsm.show, hsm.size, hsm.depth, ?_⟩
      -- _law_spots
      refine ⟨_, rfl, szl (by show 0 ≤ 100000; decide), fun t nt => ?_⟩
      obtain ⟨H3, hH3, x2_3, ht⟩ := newH _ nt
      rw [hH3]
      clear hH3
      refine ⟨v, d, t, [], rfl, .inl ht, hd2.ex x2_3, ho, hc60, by show 0 + cnt d ≤ 200; omega, fun q H4 ts x3_4 _ hq htl hts => ?_⟩
      have x2_4 := x2_3.trans x3_4
      have hd4 := hd2.ex x2_4
      have hp4 := hp2.ex x2_4
      have x04 : Ex H H4 := e0.trans (x0_1.trans (x1_2.trans x2_4))
      clear ht nt hd2 hp2 hp
      -- the first loop
      refine ⟨2, rfl, by decide, by decide, for_range (lo := 0) (fun j σ' Hi => ∃ v6 v7 : Option V, σ' = [some (.ref a), some (.int (0 + (i : Int))), some (.ref p), some v, some (.str d.shown), some (.ref q), v6, v7, v8, v9, v10, v11] ∧ Ex H4 Hi) ?_ ?_ ?_⟩
      · exact ⟨_, _, rfl, fun _ _ h => h⟩
      · rintro j σ' H5 hj ⟨v6', v7', rfl, x4_5⟩
        have x05 := x04.trans x4_5
        refine ⟨_, rfl, 0, v, .non, d, .none, rfl, by decide, hd4.ex x4_5, hsm, dt_non, sm_none, (fun z => by rw [hvt] at z; cases z), fun _ _ t5 q5 ts5 H6 x5_6 ht5 nq5 hq5 hl5 hp5 => ?_, (fun _ z => by cases z), (fun _ z => by cases z)⟩
        refine ⟨_, rfl, _, rfl, szl (by show 2 ≤ 100000; decide), fun p6 np6 => ?_⟩
        obtain ⟨H7, hH7, x6_7, h7⟩ := newH _ np6
        rw [hH7]
        clear hH7
        have x4_7 := x4_5.trans (x5_6.trans x6_7)
        have dpA : DpAll K H7 ts ((paths d).map fun p => .tuple (p.map stV)) := dp_paths (pl_ex x4_7 hts) fun p hp => (hpg p hp).1
        have dpB : DpAll K H7 ts5 ((paths d).map fun p => .tuple (p.map stV)) := dp_paths (pl_ex x6_7 hp5) fun p hp => (hpg p hp).1
        have dA : Dp K H7 (.ref p6) (.tuple [.str "told", pathsD d]) := .tup (SqTo h7) (.cons (.str _) (.cons (.lst (SqLo (x4_7 _ _ hq)) dpA) .nil))
        have dB : Dp K H7 (.ref t5) (.tuple [.str "told", pathsD d]) := .tup (SqTo (x6_7 _ _ ht5)) (.cons (.str _) (.cons (.lst (SqLo (x6_7 _ _ hq5)) dpB) .nil))
        refine ⟨_, _, dB, dA, hsp2, hsp2, _, rfl, if_f (by rw [SeqAt.eqv_refl _ (SeqAt.canLay_of_shaped hsp2)]; rfl) ?_⟩
        refine ⟨_, rfl, 2, v, .non, d, .none, rfl, by decide, hd4.ex x4_7, hsm, dt_non, sm_none, (fun z => by rw [hvt] at z; cases z), (fun _ z => by cases z), fun _ _ t8 u8 H8 x7_8 ht8 hu8 => ?_, (fun _ z => by cases z)⟩
        refine ⟨.ref t8, .tuple [.str "told", headD d], rfl, dt_tup ht8 (DtL.cons (dt_str _) (DtL.cons hu8 DtL.nil)), hh1.show, hh1.size, hh1.depth, ?_⟩
        refine ⟨_, rfl, v, d, rfl, hd4.ex (x4_7.trans x7_8), ho, fun t9 H9 x8_9 ht9 => ⟨szl (by show 2 ≤ 100000; decide), fun p10 np10 => ?_⟩⟩
        obtain ⟨H10, hH10, x9_10, h10⟩ := newH _ np10
        rw [hH10]
        clear hH10
        refine ⟨.ref p10, .tuple [.str "told", headD d], rfl, dt_tup h10 (DtL.cons (dt_str _) (DtL.cons (ht9.ex x9_10) DtL.nil)), hh1.show, hh1.size, hh1.depth, rfl, _, rfl, if_f (by rw [decide_eq_true rfl]; rfl) ?_⟩
        have x6_10 := x6_7.trans (x7_8.trans (x8_9.trans x9_10))
        refine ⟨_, rfl, t5, _, _, _, rfl, rfl, SqTo (x6_10 _ _ ht5), (show atI [V.str "told", V.ref q5] 1 = some (V.ref q5) from rfl), .ref q5, upd noH q5 (.lst ts5), rfl, fun b o z => ?_, .inr (.inr (.inl ⟨by decide, q5, ts5, rfl, upd_same, by omega, fun x hx => ?_⟩)), fun H11 hout => ⟨_, _, rfl, fun b o z => ?_⟩⟩
        · by_cases eb : b = q5
          · rw [eb, upd_same] at z
            cases z
            rw [eb]
            exact x6_10 _ _ hq5
          · rw [upd_ne eb] at z
            cases z
        · obtain ⟨i', hi'⟩ := List.mem_iff_getElem?.mp hx
          obtain ⟨pp, hpp, b, rfl, hb⟩ := Paired.get hp5 hi'
          refine ⟨b, pp, rfl, rd_ex x6_10 hb, fun s hs => ?_⟩
          rcases ((hpg pp (List.mem_of_getElem? hpp)).1 s hs).1 with ⟨i2, rfl⟩ | ⟨y2, rfl, _⟩
          · exact .inl ⟨i2, rfl⟩
          · exact .inr ⟨y2, rfl⟩
        · refine hout b o ?_ ((x4_5.trans (x5_6.trans x6_10)) b o z)
          rw [upd_ne (fun eb => by
            rw [eb] at z
            rw [x4_5 _ _ z] at nq5
            cases nq5)]
          rfl
      · rintro σ' H5 ⟨v6', v7', rfl, x4_5⟩
        -- the second loop
        refine ⟨4, rfl, by decide, by decide, for_range (lo := 0) (fun j σ' Hi => ∃ v6 v7 v8 v9 v10 v11 : Option V, σ' = [some (.ref a), some (.int (0 + (i : Int))), some (.ref p), some v, some (.str d.shown), some (.ref q), v6, v7, v8, v9, v10, v11] ∧ Ex H4 Hi) ?_ ?_ ?_⟩
        · exact ⟨_, _, _, _, _, _, rfl, x4_5⟩
        · clear x4_5 v6' v7'
          rintro j σ' H5 hj ⟨v6', v7', v8', v9', v10', v11', rfl, x4_5⟩
          refine ⟨_, rfl, _, rfl, _, rfl, .ref q, ts.length, rfl, .inl ⟨ts, SqLo (x4_5 _ _ hq), rfl⟩, p, _, rfl, hp4.ex x4_5, by omega, by omega, fun y y0 y1 => ?_⟩
          obtain ⟨z, hz1, hz2, hz3⟩ := at_some (xs := ts) (v := y) y0 y1
          obtain ⟨pp, hpp, b, rfl, hb⟩ := Paired.get hts hz3
          have hb : L2.Rd H4 b (.tup pp) := hb
          have hppm := List.mem_of_getElem? hpp
          obtain ⟨cc, hcc⟩ := paths_at (cnt d) d (Nat.le_refl _) pp hppm
          have hwalk := at_walk hcc ho
          refine ⟨q, ts, _, _, rfl, rfl, SqLo (x4_5 _ _ hq), hz1, ?_⟩
          -- at
          have hed : Dt H5 (.tuple (pp.map stV)) (.ref b) := by
            unfold Dt
            exact ⟨b, pp, rfl, rd_ex x4_5 hb, (st_dtl (hpg pp hppm).1).1⟩
          refine ⟨_, rfl, _, rfl, v, .ref b, d, .tuple (pp.map stV), rfl, hd4.ex x4_5, lim_sz d hsm.l, hed, fun _ _ b' xs c pv u H6 eb hb' hw hcd hat x5_6 htr => ?_, (fun _ z => ?_), (fun z => ?_)⟩
          rotate_left
          · have : hasP d (.tuple (pp.map stV)) = true := hwalk
            rw [this] at z
            cases z
          · rw [hvt] at z
            cases z
          cases eb
          have hcok := at_ok hat ho
          have hccnt : cnt c ≤ 60 := by
            have := at_cnt hat
            omega
          have hcv := isV_t hcok hccnt
          have hcs := ok_sm hcok hccnt
          obtain ⟨_, hch⟩ := head_sm hcok "told" lim_told
          have hu6 : Dt H6 c u := (Tr.dt htr).ex fr_sub
          have x4_6 := x4_5.trans x5_6
          refine ⟨_, rfl, _, rfl, _, rfl, v, b, xs, pv, rfl, rd_ex x5_6 hb', hw.ex x5_6, 60, by decide, ⟨c, (ok_plain c hcok).1, by have := (ok_plain c hcok).2; omega, hu6, hcd.ex x5_6⟩, _, rfl, if_f rfl ?_⟩
          refine ⟨_, rfl, u, c, rfl, hu6, lim_sz c hcs.l, fun _ t8 H8 x6_8 ht8 => ?_, (fun z => ?_)⟩
          rotate_left
          · rw [hcv] at z
            cases z
          refine ⟨t8, headD c, rfl, ht8, hch.show, hch.size, hch.depth, ?_⟩
          refine ⟨_, rfl, u, c, rfl, hu6.ex x6_8, hcok, fun t9 H9 x8_9 ht9 => ?_⟩
          refine ⟨t9, headD c, rfl, ht9, hch.show, hch.size, hch.depth, rfl, _, rfl, if_f (by rw [decide_eq_true rfl]; rfl) ?_⟩
          have x6_9 := x6_8.trans x8_9
          -- spoil
          refine ⟨_, rfl, u, fr H5 H6, rfl, fr_sub.trans x6_9, .inr (.inr (.inr ⟨c, htr, hccnt, hcok⟩)), fun H10 hout => ?_⟩
          have x4_10 : Ex H4 H10 := fun b2 o2 z2 => by
            refine hout b2 o2 ?_ ((x4_6.trans x6_9) b2 o2 z2)
            unfold fr
            rw [x4_5 _ _ z2]
          -- bad
          refine ⟨_, rfl, _, rfl, p, q, ts, rfl, hp4.ex x4_10, x4_10 _ _ hq, by omega, by omega, fun x hx => ?_, fun bz H11 x10_11 hbad => ?_⟩
          · obtain ⟨i', hi'⟩ := List.mem_iff_getElem?.mp hx
            obtain ⟨p2, hp2, b2, rfl, hb2⟩ := Paired.get hts hi'
            have hp2m := List.mem_of_getElem? hp2
            refine ⟨b2, p2, rfl, rd_ex x4_10 hb2, ?_, (hpg p2 hp2m).1⟩
            have := (hpg p2 hp2m).2
            omega
          obtain ⟨e, hbd, hbl, hbn, hcls⟩ := hbad
          have hbs : Sm e := ⟨hbl, by omega⟩
          have x4_11 := x4_10.trans x10_11
          have hq11 := x4_11 _ _ hq
          have dpA : DpAll K H11 ts ((paths d).map fun p => .tuple (p.map stV)) := dp_paths (pl_ex x4_11 hts) fun p hp => (hpg p hp).1
          have dA : Dp K H11 (.ref q) (pathsD d) := .lst (SqLo hq11) dpA
          have fin : ∀ (s7 s8 : Option V) (D : Ends) (H12 : Hp), Ex H11 H12 → (∀ v10 v11 H', Ex H12 H' → D.nx [some (.ref a), some (.int (0 + (i : Int))), some (.ref p), some v, some (.str d.shown), some (.ref q), some (.int (0 + (j : Int))), s7, s8, some bz, v10, v11] H') → tDoors K D [some (.ref a), some (.int (0 + (i : Int))), some (.ref p), some v, some (.str d.shown), some (.ref q), some (.int (0 + (j : Int))), s7, s8, some bz, v10', v11'] H12 := by
            intro s7 s8 D H12 x kk
            exact doors_go (hp4.ex (x4_11.trans x)) (hd4.ex (x4_11.trans x)) ho hc60 (hbd.ex x) hbs kk
          have tups : ∀ x ∈ ts, ∃ b vs, x = .ref b ∧ L2.Rd H11 b (.tup vs) ∧ ∀ u ∈ vs, flat2 u := fun x hx => by
              obtain ⟨i', hi'⟩ := List.mem_iff_getElem?.mp hx
              obtain ⟨p2, hp2, b2, rfl, hb2⟩ := Paired.get hts hi'
              refine ⟨b2, p2, rfl, rd_ex x4_11 hb2, fun s hs => ?_⟩
              rcases ((hpg p2 (List.mem_of_getElem? hp2)).1 s hs).1 with ⟨i2, rfl⟩ | ⟨y2, rfl, _⟩
              · exact .inl ⟨i2, rfl⟩
              · exact .inr ⟨y2, rfl⟩
          refine ⟨_, rfl, _, rfl, ?_⟩
          cases hnp : hasP d e with
          | true =>
            rcases hcls with ⟨dpE, shE⟩ | ⟨a1, ks, kvs, _, _, rfl⟩ | ⟨p1, a1, ks, kvs, _, _, _, rfl⟩
            · refine .inl ⟨e, _, dpE, dA, shE, hsp1, _, rfl, if_f ?_ ?_⟩
              · have : ((paths d).map fun p => PyData.tuple (p.map stV)).any (fun z => PyData.eqv z e) = true := by
                  cases e with
                  | tuple es =>
                    obtain ⟨p2, hp2, rfl⟩ := hasP_path (d := d) (es := es) hnp
                    refine List.any_eq_true.mpr ⟨_, List.mem_map.mpr ⟨p2, hp2, rfl⟩, SeqAt.eqv_refl _ (SeqAt.canLay_of_shaped shE)⟩
                  | _ => cases hnp
                rw [this]
                rfl
              · exact fin _ _ _ H11 (fun _ _ h => h) fun v10 v11 H' e' => ⟨_, _, _, _, _, _, rfl, x4_11.trans e'⟩
            · cases hnp
            · cases hnp
          | false =>
            rcases hcls with ⟨dpE, shE⟩ | ⟨a1, ks, kvs, rfl, ha1, _⟩ | ⟨p1, a1, ks, kvs, rfl, hp1, ha1, _⟩
            · refine .inl ⟨e, _, dpE, dA, shE, hsp1, _, rfl, if_b (fun _ => ?_) (fun _ => ?_)⟩
              · refine ⟨_, rfl, _, rfl, 1, v, _, d, e, rfl, by decide, hd4.ex x4_11, hsm, hbd, hbs, (fun z => by rw [hvt] at z; cases z), (fun _ z => by cases z), (fun _ z => by cases z), fun _ _ => ⟨hnp, fun t13 H13 x11_13 ht13 => ?_⟩⟩
                refine ⟨_, rfl, _, e, rfl, hbd.ex x11_13, hbs.show, hbs.size, hbs.depth, szl (by show 2 ≤ 100000; decide), fun p14 np14 => ?_⟩
                obtain ⟨H14, hH14, x13_14, h14⟩ := newH _ np14
                rw [hH14]
                clear hH14
                refine ⟨t13, p14, _, _, rfl, rfl, .inl (x13_14 _ _ ht13), .inl h14, _, rfl, if_f rfl ?_⟩
                exact fin _ _ _ H14 (x11_13.trans x13_14) fun v10 v11 H' e' => ⟨_, _, _, _, _, _, rfl, x4_11.trans ((x11_13.trans x13_14).trans e')⟩
              · exact fin _ _ _ H11 (fun _ _ h => h) fun v10 v11 H' e' => ⟨_, _, _, _, _, _, rfl, x4_11.trans e'⟩
            · refine .inr ⟨q, ts, rfl, SqLo hq11, tups, .inl ⟨a1, ks, rfl, ha1⟩, _, rfl, if_t rfl ?_⟩
              refine ⟨_, rfl, _, rfl, 1, v, _, d, e, rfl, by decide, hd4.ex x4_11, hsm, hbd, hbs, (fun z => by rw [hvt] at z; cases z), (fun _ z => by cases z), (fun _ z => by cases z), fun _ _ => ⟨hnp, fun t13 H13 x11_13 ht13 => ?_⟩⟩
              refine ⟨_, rfl, _, e, rfl, hbd.ex x11_13, hbs.show, hbs.size, hbs.depth, szl (by show 2 ≤ 100000; decide), fun p14 np14 => ?_⟩
              obtain ⟨H14, hH14, x13_14, h14⟩ := newH _ np14
              rw [hH14]
              clear hH14
              refine ⟨t13, p14, _, _, rfl, rfl, .inl (x13_14 _ _ ht13), .inl h14, _, rfl, if_f rfl ?_⟩
              exact fin _ _ _ H14 (x11_13.trans x13_14) fun v10 v11 H' e' => ⟨_, _, _, _, _, _, rfl, x4_11.trans ((x11_13.trans x13_14).trans e')⟩
            · refine .inr ⟨q, ts, rfl, SqLo hq11, tups, .inr ⟨p1, a1, ks, rfl, hp1, ha1⟩, _, rfl, if_t rfl ?_⟩
              refine ⟨_, rfl, _, rfl, 1, v, _, d, e, rfl, by decide, hd4.ex x4_11, hsm, hbd, hbs, (fun z => by rw [hvt] at z; cases z), (fun _ z => by cases z), (fun _ z => by cases z), fun _ _ => ⟨hnp, fun t13 H13 x11_13 ht13 => ?_⟩⟩
              refine ⟨_, rfl, _, e, rfl, hbd.ex x11_13, hbs.show, hbs.size, hbs.depth, szl (by show 2 ≤ 100000; decide), fun p14 np14 => ?_⟩
              obtain ⟨H14, hH14, x13_14, h14⟩ := newH _ np14
              rw [hH14]
              clear hH14
              refine ⟨t13, p14, _, _, rfl, rfl, .inl (x13_14 _ _ ht13), .inl h14, _, rfl, if_f rfl ?_⟩
              exact fin _ _ _ H14 (x11_13.trans x13_14) fun v10 v11 H' e' => ⟨_, _, _, _, _, _, rfl, x4_11.trans ((x11_13.trans x13_14).trans e')⟩
        · rintro σ' H6 ⟨v6', v7', v8', v9', v10', v11', rfl, x4_6⟩
          refine ⟨_, rfl, v, d, rfl, hd4.ex x4_6, hsm.show, hsm.size, hsm.depth, _, rfl, rfl, _, rfl, if_f (by rw [decide_eq_true rfl]; rfl) ?_⟩
          exact ⟨_, _, _, _, _, _, _, _, _, _, _, rfl, x04.trans x4_6⟩
    · rintro σ' H1 ⟨v1, v2, v3, v4, v5, v6, v7, v8, v9, v10, v11, rfl, e0⟩
      exact k H1
end
end VL

namespace VL
open PySem PySem.Spec L2 LW
/-! ### the head: facts by names, the run -/
def d_is_integer : He.DefD := ⟨("is_integer", none), "is_integer", "is_integer", defArgs s_is_integer, defBody s_is_integer, defScope s_is_integer, [], []⟩
def d_is_letters : He.DefD := ⟨("is_letters", none), "is_letters", "is_letters", defArgs s_is_letters, defBody s_is_letters, defScope s_is_letters, [], []⟩
def d_is_field : He.DefD := ⟨("is_field", none), "is_field", "is_field", defArgs s_is_field, defBody s_is_field, defScope s_is_field, [], []⟩
def d_is_leaf : He.DefD := ⟨("is_leaf", none), "is_leaf", "is_leaf", defArgs s_is_leaf, defBody s_is_leaf, defScope s_is_leaf, [], []⟩
def d_is_part : He.DefD := ⟨("is_part", none), "is_part", "is_part", defArgs s_is_part, defBody s_is_part, defScope s_is_part, [], []⟩
def d_children : He.DefD := ⟨("children", none), "children", "children", defArgs s_children, defBody s_children, defScope s_children, [], []⟩
def d_is_value : He.DefD := ⟨("is_value", none), "is_value", "is_value", defArgs s_is_value, defBody s_is_value, defScope s_is_value, [], []⟩
def d_check_value : He.DefD := ⟨("check_value", none), "check_value", "check_value", defArgs s_check_value, defBody s_check_value, defScope s_check_value, [], []⟩
def d_copy_of : He.DefD := ⟨("copy_of", none), "copy_of", "copy_of", defArgs s_copy_of, defBody s_copy_of, defScope s_copy_of, [], []⟩
def d_places_below : He.DefD := ⟨("places_below", none), "places_below", "places_below", defArgs s_places_below, defBody s_places_below, defScope s_places_below, [], []⟩
def d_places : He.DefD := ⟨("places", none), "places", "places", defArgs s_places, defBody s_places, defScope s_places, [], []⟩
def d_has_step : He.DefD := ⟨("has_step", none), "has_step", "has_step", defArgs s_has_step, defBody s_has_step, defScope s_has_step, [], []⟩
def d_has_place : He.DefD := ⟨("has_place", none), "has_place", "has_place", defArgs s_has_place, defBody s_has_place, defScope s_has_place, [], []⟩
def d_part_at : He.DefD := ⟨("part_at", none), "part_at", "part_at", defArgs s_part_at, defBody s_part_at, defScope s_part_at, [], []⟩
def d_at : He.DefD := ⟨("at", none), "at", "at", defArgs s_at, defBody s_at, defScope s_at, [], []⟩
def d_head_of : He.DefD := ⟨("head_of", none), "head_of", "head_of", defArgs s_head_of, defBody s_head_of, defScope s_head_of, [], []⟩
def d_head : He.DefD := ⟨("head", none), "head", "head", defArgs s_head, defBody s_head, defScope s_head, [], []⟩
def d__law_hand : He.DefD := ⟨("_law_hand", none), "_law_hand", "_law_hand", defArgs s__law_hand, defBody s__law_hand, defScope s__law_hand, [], []⟩
def d__law_draw : He.DefD := ⟨("_law_draw", none), "_law_draw", "_law_draw", defArgs s__law_draw, defBody s__law_draw, defScope s__law_draw, [], []⟩
def d__law_word : He.DefD := ⟨("_law_word", none), "_law_word", "_law_word", defArgs s__law_word, defBody s__law_word, defScope s__law_word, [], []⟩
def d__law_leaf : He.DefD := ⟨("_law_leaf", none), "_law_leaf", "_law_leaf", defArgs s__law_leaf, defBody s__law_leaf, defScope s__law_leaf, [], []⟩
def d__law_value : He.DefD := ⟨("_law_value", none), "_law_value", "_law_value", defArgs s__law_value, defBody s__law_value, defScope s__law_value, [], []⟩
def d__law_below : He.DefD := ⟨("_law_below", none), "_law_below", "_law_below", defArgs s__law_below, defBody s__law_below, defScope s__law_below, [], []⟩
def d__law_part : He.DefD := ⟨("_law_part", none), "_law_part", "_law_part", defArgs s__law_part, defBody s__law_part, defScope s__law_part, [], []⟩
def d__law_top : He.DefD := ⟨("_law_top", none), "_law_top", "_law_top", defArgs s__law_top, defBody s__law_top, defScope s__law_top, [], []⟩
def d__law_told : He.DefD := ⟨("_law_told", none), "_law_told", "_law_told", defArgs s__law_told, defBody s__law_told, defScope s__law_told, [], []⟩
def d__law_bad_spot : He.DefD := ⟨("_law_bad_spot", none), "_law_bad_spot", "_law_bad_spot", defArgs s__law_bad_spot, defBody s__law_bad_spot, defScope s__law_bad_spot, [], []⟩
def d__law_spoil : He.DefD := ⟨("_law_spoil", none), "_law_spoil", "_law_spoil", defArgs s__law_spoil, defBody s__law_spoil, defScope s__law_spoil, [], []⟩
def d_law : He.DefD := ⟨("law", none), "law", "law", defArgs s_law, defBody s_law, defScope s_law, [], []⟩
def d_InvalidValue___init__ : He.DefD := ⟨("InvalidValue", some "__init__"), "__init__", "InvalidValue.__init__", defArgs s_InvalidValue___init__, defBody s_InvalidValue___init__, defScope s_InvalidValue___init__, [], []⟩
def d_InvalidPlace___init__ : He.DefD := ⟨("InvalidPlace", some "__init__"), "__init__", "InvalidPlace.__init__", defArgs s_InvalidPlace___init__, defBody s_InvalidPlace___init__, defScope s_InvalidPlace___init__, [], []⟩
def fn : List He.DefD := [d_is_integer, d_is_letters, d_is_field, d_is_leaf, d_is_part, d_children, d_is_value, d_check_value, d_copy_of, d_places_below, d_places, d_has_step, d_has_place, d_part_at, d_at, d_head_of, d_head, d__law_hand, d__law_draw, d__law_word, d__law_leaf, d__law_value, d__law_below, d__law_part, d__law_top, d__law_told, d__law_bad_spot, d__law_spoil, d_law, d_InvalidValue___init__, d_InvalidPlace___init__]
def fa0 : List He.Fa := [.glo "is_integer", .glo "is_letters", .glo "is_field", .glo "is_leaf", .glo "is_part", .glo "children", .glo "is_value", .glo "check_value", .glo "copy_of", .glo "places_below", .glo "places", .glo "has_step", .glo "has_place", .glo "part_at", .glo "at", .glo "head_of", .glo "head", .glo "_law_hand", .glo "_law_draw", .glo "_law_word"]
def fa1 : List He.Fa := [.glo "_law_leaf", .glo "_law_value", .glo "_law_below", .glo "_law_part", .glo "_law_top", .glo "_law_told", .glo "_law_bad_spot", .glo "_law_spoil", .glo "law", .glo "CheckError", .glo "InvalidValue", .glo "InvalidPlace", .free "len", .free "range", .free "isinstance", .free "int", .free "str", .free "bool", .free "list", .free "dict"]
def fa2 : List He.Fa := [.free "tuple", .free "all", .free "enumerate", .free "max", .free "min", .free "sum", .free "sorted", .free "repr", .int "GREATEST" 1000000000000000000000000000000, .int "LONGEST_TEXT" 20, .int "LONGEST_NAME" 8, .int "MOST_FIELDS" 8, .int "MOST_PLACES" 60, .str "LETTERS" "abcdefghijklmnopqrstuvwxyz", .exm "InvalidValue" "CheckError" true, .exm "InvalidPlace" "CheckError" true, .noat "InvalidValue" "value", .noat "InvalidPlace" "place"]
def fa : List He.Fa := fa0 ++ fa1 ++ fa2
def ex (K : PySem.W.Frag) : Bool := (oexB K (He.ga K "InvalidValue") && (excB K (He.ga K "InvalidValue") && (He.eqO (PySem.W.findIn K (.ref (He.ga K "InvalidValue")) "__init__") (some (some (.ref (He.ma K (He.ga K "InvalidValue") "__init__")))) && decide (PySem.W.typeIn K (.ref (He.ma K (He.ga K "InvalidValue") "__init__")) = some (.type "function"))))) && ((oexB K (He.ga K "InvalidPlace") && (excB K (He.ga K "InvalidPlace") && (He.eqO (PySem.W.findIn K (.ref (He.ga K "InvalidPlace")) "__init__") (some (some (.ref (He.ma K (He.ga K "InvalidPlace") "__init__")))) && decide (PySem.W.typeIn K (.ref (He.ma K (He.ga K "InvalidPlace") "__init__")) = some (.type "function"))))) && (decide (PySem.W.kitOne K (.ref (He.ga K "InvalidValue")) (.ref (He.ga K "InvalidValue")) = some true) && (decide (PySem.W.kitOne K (.ref (He.ga K "InvalidValue")) (.ref (He.ga K "InvalidPlace")) = some false) && (decide (PySem.W.kitOne K (.ref (He.ga K "InvalidPlace")) (.ref (He.ga K "InvalidPlace")) = some true) && decide (PySem.W.kitOne K (.ref (He.ga K "InvalidPlace")) (.ref (He.ga K "InvalidValue")) = some false)))))
def loose0 : List Str := ["CheckError", "InvalidValue", "InvalidPlace", "LETTERS", "GREATEST", "LONGEST_TEXT", "LONGEST_NAME", "MOST_FIELDS", "MOST_PLACES", "is_integer", "is_letters", "is_field", "is_leaf", "is_part", "children", "is_value", "check_value", "copy_of", "places_below", "places"]
def loose1 : List Str := ["has_step", "has_place", "part_at", "at", "head_of", "head", "_law_hand", "_law_draw", "_law_word", "_law_leaf", "_law_value", "_law_below", "_law_part", "_law_top", "_law_twin", "_law_told", "_law_bad_spot", "_law_spoil"]
def loose : List Str := loose0 ++ loose1
abbrev R : PySem.W.OpenRow := PySem.W.OpenLaw.row PySem.Challenge.rw_latechecks_k02_places_and_parts
abbrev hk : PySem.W.Hook := LW.hookM 5 fa fn ex
def ob (s : PySem.W.SharedT) : LW.AlM := LW.obsM 5 fa fn ex (HandSHeadRun.getT s)
theorem ob_eq (s : PySem.W.SharedT) : ob s = hk.obs s.abs := LW.obsM_eq (HandSHeadRun.getT_eq s)
theorem run (w : World) : HandSHeadRun.RunEq R (PySem.W.view R.prog [41]) hk ob 6000 loose w := by
  intro os
  kernel_rfl
section
variable {P : Program} {w : World} {K : PySem.W.Frag} {mg : Str → Option Value} {h : Heap}
theorem hg_is_integer (c : SaysM fa fn ex K) : (He.Fa.glo "is_integer").ok K = true := c.d.fact 0 (f := .glo "is_integer") rfl
theorem hg_is_letters (c : SaysM fa fn ex K) : (He.Fa.glo "is_letters").ok K = true := c.d.fact 1 (f := .glo "is_letters") rfl
theorem hg_is_field (c : SaysM fa fn ex K) : (He.Fa.glo "is_field").ok K = true := c.d.fact 2 (f := .glo "is_field") rfl
theorem hg_is_leaf (c : SaysM fa fn ex K) : (He.Fa.glo "is_leaf").ok K = true := c.d.fact 3 (f := .glo "is_leaf") rfl
theorem hg_is_part (c : SaysM fa fn ex K) : (He.Fa.glo "is_part").ok K = true := c.d.fact 4 (f := .glo "is_part") rfl
theorem hg_children (c : SaysM fa fn ex K) : (He.Fa.glo "children").ok K = true := c.d.fact 5 (f := .glo "children") rfl
theorem hg_is_value (c : SaysM fa fn ex K) : (He.Fa.glo "is_value").ok K = true := c.d.fact 6 (f := .glo "is_value") rfl
theorem hg_check_value (c : SaysM fa fn ex K) : (He.Fa.glo "check_value").ok K = true := c.d.fact 7 (f := .glo "check_value") rfl
theorem hg_copy_of (c : SaysM fa fn ex K) : (He.Fa.glo "copy_of").ok K = true := c.d.fact 8 (f := .glo "copy_of") rfl
theorem hg_places_below (c : SaysM fa fn ex K) : (He.Fa.glo "places_below").ok K = true := c.d.fact 9 (f := .glo "places_below") rfl
theorem hg_places (c : SaysM fa fn ex K) : (He.Fa.glo "places").ok K = true := c.d.fact 10 (f := .glo "places") rfl
theorem hg_has_step (c : SaysM fa fn ex K) : (He.Fa.glo "has_step").ok K = true := c.d.fact 11 (f := .glo "has_step") rfl
theorem hg_has_place (c : SaysM fa fn ex K) : (He.Fa.glo "has_place").ok K = true := c.d.fact 12 (f := .glo "has_place") rfl
theorem hg_part_at (c : SaysM fa fn ex K) : (He.Fa.glo "part_at").ok K = true := c.d.fact 13 (f := .glo "part_at") rfl
theorem hg_at (c : SaysM fa fn ex K) : (He.Fa.glo "at").ok K = true := c.d.fact 14 (f := .glo "at") rfl
theorem hg_head_of (c : SaysM fa fn ex K) : (He.Fa.glo "head_of").ok K = true := c.d.fact 15 (f := .glo "head_of") rfl
theorem hg_head (c : SaysM fa fn ex K) : (He.Fa.glo "head").ok K = true := c.d.fact 16 (f := .glo "head") rfl
theorem hg__law_hand (c : SaysM fa fn ex K) : (He.Fa.glo "_law_hand").ok K = true := c.d.fact 17 (f := .glo "_law_hand") rfl
theorem hg__law_draw (c : SaysM fa fn ex K) : (He.Fa.glo "_law_draw").ok K = true := c.d.fact 18 (f := .glo "_law_draw") rfl
theorem hg__law_word (c : SaysM fa fn ex K) : (He.Fa.glo "_law_word").ok K = true := c.d.fact 19 (f := .glo "_law_word") rfl
theorem hg__law_leaf (c : SaysM fa fn ex K) : (He.Fa.glo "_law_leaf").ok K = true := c.d.fact 20 (f := .glo "_law_leaf") rfl
theorem hg__law_value (c : SaysM fa fn ex K) : (He.Fa.glo "_law_value").ok K = true := c.d.fact 21 (f := .glo "_law_value") rfl
theorem hg__law_below (c : SaysM fa fn ex K) : (He.Fa.glo "_law_below").ok K = true := c.d.fact 22 (f := .glo "_law_below") rfl
theorem hg__law_part (c : SaysM fa fn ex K) : (He.Fa.glo "_law_part").ok K = true := c.d.fact 23 (f := .glo "_law_part") rfl
theorem hg__law_top (c : SaysM fa fn ex K) : (He.Fa.glo "_law_top").ok K = true := c.d.fact 24 (f := .glo "_law_top") rfl
theorem hg__law_told (c : SaysM fa fn ex K) : (He.Fa.glo "_law_told").ok K = true := c.d.fact 25 (f := .glo "_law_told") rfl
theorem hg__law_bad_spot (c : SaysM fa fn ex K) : (He.Fa.glo "_law_bad_spot").ok K = true := c.d.fact 26 (f := .glo "_law_bad_spot") rfl
theorem hg__law_spoil (c : SaysM fa fn ex K) : (He.Fa.glo "_law_spoil").ok K = true := c.d.fact 27 (f := .glo "_law_spoil") rfl
theorem hg_law (c : SaysM fa fn ex K) : (He.Fa.glo "law").ok K = true := c.d.fact 28 (f := .glo "law") rfl
theorem hg_CheckError (c : SaysM fa fn ex K) : (He.Fa.glo "CheckError").ok K = true := c.d.fact 29 (f := .glo "CheckError") rfl
theorem hg_InvalidValue (c : SaysM fa fn ex K) : (He.Fa.glo "InvalidValue").ok K = true := c.d.fact 30 (f := .glo "InvalidValue") rfl
theorem hg_InvalidPlace (c : SaysM fa fn ex K) : (He.Fa.glo "InvalidPlace").ok K = true := c.d.fact 31 (f := .glo "InvalidPlace") rfl
theorem hf_len (c : SaysM fa fn ex K) : (He.Fa.free "len").ok K = true := c.d.fact 32 (f := .free "len") rfl
theorem hf_range (c : SaysM fa fn ex K) : (He.Fa.free "range").ok K = true := c.d.fact 33 (f := .free "range") rfl
theorem hf_isinstance (c : SaysM fa fn ex K) : (He.Fa.free "isinstance").ok K = true := c.d.fact 34 (f := .free "isinstance") rfl
theorem hf_int (c : SaysM fa fn ex K) : (He.Fa.free "int").ok K = true := c.d.fact 35 (f := .free "int") rfl
theorem hf_str (c : SaysM fa fn ex K) : (He.Fa.free "str").ok K = true := c.d.fact 36 (f := .free "str") rfl
theorem hf_bool (c : SaysM fa fn ex K) : (He.Fa.free "bool").ok K = true := c.d.fact 37 (f := .free "bool") rfl
theorem hf_list (c : SaysM fa fn ex K) : (He.Fa.free "list").ok K = true := c.d.fact 38 (f := .free "list") rfl
theorem hf_dict (c : SaysM fa fn ex K) : (He.Fa.free "dict").ok K = true := c.d.fact 39 (f := .free "dict") rfl
theorem hf_tuple (c : SaysM fa fn ex K) : (He.Fa.free "tuple").ok K = true := c.d.fact 40 (f := .free "tuple") rfl
theorem hf_all (c : SaysM fa fn ex K) : (He.Fa.free "all").ok K = true := c.d.fact 41 (f := .free "all") rfl
theorem hf_enumerate (c : SaysM fa fn ex K) : (He.Fa.free "enumerate").ok K = true := c.d.fact 42 (f := .free "enumerate") rfl
theorem hf_max (c : SaysM fa fn ex K) : (He.Fa.free "max").ok K = true := c.d.fact 43 (f := .free "max") rfl
theorem hf_min (c : SaysM fa fn ex K) : (He.Fa.free "min").ok K = true := c.d.fact 44 (f := .free "min") rfl
theorem hf_sum (c : SaysM fa fn ex K) : (He.Fa.free "sum").ok K = true := c.d.fact 45 (f := .free "sum") rfl
theorem hf_sorted (c : SaysM fa fn ex K) : (He.Fa.free "sorted").ok K = true := c.d.fact 46 (f := .free "sorted") rfl
theorem hf_repr (c : SaysM fa fn ex K) : (He.Fa.free "repr").ok K = true := c.d.fact 47 (f := .free "repr") rfl
theorem hi_GREATEST (c : SaysM fa fn ex K) : (He.Fa.int "GREATEST" 1000000000000000000000000000000).ok K = true := c.d.fact 48 (f := .int "GREATEST" 1000000000000000000000000000000) rfl
theorem hi_LONGEST_TEXT (c : SaysM fa fn ex K) : (He.Fa.int "LONGEST_TEXT" 20).ok K = true := c.d.fact 49 (f := .int "LONGEST_TEXT" 20) rfl
theorem hi_LONGEST_NAME (c : SaysM fa fn ex K) : (He.Fa.int "LONGEST_NAME" 8).ok K = true := c.d.fact 50 (f := .int "LONGEST_NAME" 8) rfl
theorem hi_MOST_FIELDS (c : SaysM fa fn ex K) : (He.Fa.int "MOST_FIELDS" 8).ok K = true := c.d.fact 51 (f := .int "MOST_FIELDS" 8) rfl
theorem hi_MOST_PLACES (c : SaysM fa fn ex K) : (He.Fa.int "MOST_PLACES" 60).ok K = true := c.d.fact 52 (f := .int "MOST_PLACES" 60) rfl
theorem hs_LETTERS (c : SaysM fa fn ex K) : (He.Fa.str "LETTERS" "abcdefghijklmnopqrstuvwxyz").ok K = true := c.d.fact 53 (f := .str "LETTERS" "abcdefghijklmnopqrstuvwxyz") rfl
theorem hm_0 (c : SaysM fa fn ex K) : (He.Fa.exm "InvalidValue" "CheckError" true).ok K = true := c.d.fact 54 (f := .exm "InvalidValue" "CheckError" true) rfl
theorem hm_1 (c : SaysM fa fn ex K) : (He.Fa.exm "InvalidPlace" "CheckError" true).ok K = true := c.d.fact 55 (f := .exm "InvalidPlace" "CheckError" true) rfl
theorem hm_2 (c : SaysM fa fn ex K) : (He.Fa.noat "InvalidValue" "value").ok K = true := c.d.fact 56 (f := .noat "InvalidValue" "value") rfl
theorem hm_3 (c : SaysM fa fn ex K) : (He.Fa.noat "InvalidPlace" "place").ok K = true := c.d.fact 57 (f := .noat "InvalidPlace" "place") rfl
theorem df_of (X : K.In h) (G : h.Ns mainGlobals mg) (c : SaysM fa fn ex K) {x : Str} {st : Stmt} (i : Nat) {d : He.DefD} (hd : fn[i]? = some d) (e : d = ⟨(x, none), x, x, defArgs st, defBody st, defScope st, [], []⟩) (hg : (He.Fa.glo x).ok K = true) : Df K mg x st := by
  obtain ⟨fd, F⟩ := c.d.def_ i hd
  subst e
  exact ⟨_, fd, F, He.glo_ok X G hg⟩
theorem D_is_integer (X : K.In h) (G : h.Ns mainGlobals mg) (c : SaysM fa fn ex K) : Df K mg "is_integer" s_is_integer := df_of X G c 0 (d := d_is_integer) rfl rfl (hg_is_integer c)
theorem D_is_letters (X : K.In h) (G : h.Ns mainGlobals mg) (c : SaysM fa fn ex K) : Df K mg "is_letters" s_is_letters := df_of X G c 1 (d := d_is_letters) rfl rfl (hg_is_letters c)
theorem D_is_field (X : K.In h) (G : h.Ns mainGlobals mg) (c : SaysM fa fn ex K) : Df K mg "is_field" s_is_field := df_of X G c 2 (d := d_is_field) rfl rfl (hg_is_field c)
theorem D_is_leaf (X : K.In h) (G : h.Ns mainGlobals mg) (c : SaysM fa fn ex K) : Df K mg "is_leaf" s_is_leaf := df_of X G c 3 (d := d_is_leaf) rfl rfl (hg_is_leaf c)
theorem D_is_part (X : K.In h) (G : h.Ns mainGlobals mg) (c : SaysM fa fn ex K) : Df K mg "is_part" s_is_part := df_of X G c 4 (d := d_is_part) rfl rfl (hg_is_part c)
theorem D_children (X : K.In h) (G : h.Ns mainGlobals mg) (c : SaysM fa fn ex K) : Df K mg "children" s_children := df_of X G c 5 (d := d_children) rfl rfl (hg_children c)
theorem D_is_value (X : K.In h) (G : h.Ns mainGlobals mg) (c : SaysM fa fn ex K) : Df K mg "is_value" s_is_value := df_of X G c 6 (d := d_is_value) rfl rfl (hg_is_value c)
theorem D_check_value (X : K.In h) (G : h.Ns mainGlobals mg) (c : SaysM fa fn ex K) : Df K mg "check_value" s_check_value := df_of X G c 7 (d := d_check_value) rfl rfl (hg_check_value c)
theorem D_copy_of (X : K.In h) (G : h.Ns mainGlobals mg) (c : SaysM fa fn ex K) : Df K mg "copy_of" s_copy_of := df_of X G c 8 (d := d_copy_of) rfl rfl (hg_copy_of c)
theorem D_places_below (X : K.In h) (G : h.Ns mainGlobals mg) (c : SaysM fa fn ex K) : Df K mg "places_below" s_places_below := df_of X G c 9 (d := d_places_below) rfl rfl (hg_places_below c)
theorem D_places (X : K.In h) (G : h.Ns mainGlobals mg) (c : SaysM fa fn ex K) : Df K mg "places" s_places := df_of X G c 10 (d := d_places) rfl rfl (hg_places c)
theorem D_has_step (X : K.In h) (G : h.Ns mainGlobals mg) (c : SaysM fa fn ex K) : Df K mg "has_step" s_has_step := df_of X G c 11 (d := d_has_step) rfl rfl (hg_has_step c)
theorem D_has_place (X : K.In h) (G : h.Ns mainGlobals mg) (c : SaysM fa fn ex K) : Df K mg "has_place" s_has_place := df_of X G c 12 (d := d_has_place) rfl rfl (hg_has_place c)
theorem D_part_at (X : K.In h) (G : h.Ns mainGlobals mg) (c : SaysM fa fn ex K) : Df K mg "part_at" s_part_at := df_of X G c 13 (d := d_part_at) rfl rfl (hg_part_at c)
theorem D_at (X : K.In h) (G : h.Ns mainGlobals mg) (c : SaysM fa fn ex K) : Df K mg "at" s_at := df_of X G c 14 (d := d_at) rfl rfl (hg_at c)
theorem D_head_of (X : K.In h) (G : h.Ns mainGlobals mg) (c : SaysM fa fn ex K) : Df K mg "head_of" s_head_of := df_of X G c 15 (d := d_head_of) rfl rfl (hg_head_of c)
theorem D_head (X : K.In h) (G : h.Ns mainGlobals mg) (c : SaysM fa fn ex K) : Df K mg "head" s_head := df_of X G c 16 (d := d_head) rfl rfl (hg_head c)
theorem D__law_hand (X : K.In h) (G : h.Ns mainGlobals mg) (c : SaysM fa fn ex K) : Df K mg "_law_hand" s__law_hand := df_of X G c 17 (d := d__law_hand) rfl rfl (hg__law_hand c)
theorem D__law_draw (X : K.In h) (G : h.Ns mainGlobals mg) (c : SaysM fa fn ex K) : Df K mg "_law_draw" s__law_draw := df_of X G c 18 (d := d__law_draw) rfl rfl (hg__law_draw c)
theorem D__law_word (X : K.In h) (G : h.Ns mainGlobals mg) (c : SaysM fa fn ex K) : Df K mg "_law_word" s__law_word := df_of X G c 19 (d := d__law_word) rfl rfl (hg__law_word c)
theorem D__law_leaf (X : K.In h) (G : h.Ns mainGlobals mg) (c : SaysM fa fn ex K) : Df K mg "_law_leaf" s__law_leaf := df_of X G c 20 (d := d__law_leaf) rfl rfl (hg__law_leaf c)
theorem D__law_value (X : K.In h) (G : h.Ns mainGlobals mg) (c : SaysM fa fn ex K) : Df K mg "_law_value" s__law_value := df_of X G c 21 (d := d__law_value) rfl rfl (hg__law_value c)
theorem D__law_below (X : K.In h) (G : h.Ns mainGlobals mg) (c : SaysM fa fn ex K) : Df K mg "_law_below" s__law_below := df_of X G c 22 (d := d__law_below) rfl rfl (hg__law_below c)
theorem D__law_part (X : K.In h) (G : h.Ns mainGlobals mg) (c : SaysM fa fn ex K) : Df K mg "_law_part" s__law_part := df_of X G c 23 (d := d__law_part) rfl rfl (hg__law_part c)
theorem D__law_top (X : K.In h) (G : h.Ns mainGlobals mg) (c : SaysM fa fn ex K) : Df K mg "_law_top" s__law_top := df_of X G c 24 (d := d__law_top) rfl rfl (hg__law_top c)
theorem D__law_told (X : K.In h) (G : h.Ns mainGlobals mg) (c : SaysM fa fn ex K) : Df K mg "_law_told" s__law_told := df_of X G c 25 (d := d__law_told) rfl rfl (hg__law_told c)
theorem D__law_bad_spot (X : K.In h) (G : h.Ns mainGlobals mg) (c : SaysM fa fn ex K) : Df K mg "_law_bad_spot" s__law_bad_spot := df_of X G c 26 (d := d__law_bad_spot) rfl rfl (hg__law_bad_spot c)
theorem D__law_spoil (X : K.In h) (G : h.Ns mainGlobals mg) (c : SaysM fa fn ex K) : Df K mg "_law_spoil" s__law_spoil := df_of X G c 27 (d := d__law_spoil) rfl rfl (hg__law_spoil c)
theorem D_law (X : K.In h) (G : h.Ns mainGlobals mg) (c : SaysM fa fn ex K) : Df K mg "law" s_law := df_of X G c 28 (d := d_law) rfl rfl (hg_law c)
theorem facts {f : Addr} (X : K.In h) (G : h.Ns mainGlobals mg) (hfa : mg ("law" : Str) = some (.ref f)) (c : SaysM fa fn ex K) :
    ∃ fd : FuncData, (∀ (s : Shared) (v : Value), BindsTo s fd ⟨[v], []⟩ [("_law_script", v)]) ∧ ∀ base : Heap, K.In base → base.Ns mainGlobals mg → (∃ mm, base.Ns sysModules mm) → FnG P w K mg base CX0 65 f fd ["_law_script"] (spLaw K) := by
  have gi : ∀ {x : Str} {i : Int}, (He.Fa.int x i).ok K = true → ∃ u, mg x = some u ∧ RelV (.int i) u := fun c => by
    obtain ⟨t, e⟩ := He.int_ok X G c
    exact ⟨_, e, t, rfl⟩
  have gs : ∀ {x z : Str}, (He.Fa.str x z).ok K = true → ∃ u, mg x = some u ∧ RelV (.str z) u := fun c => by
    obtain ⟨t, e⟩ := He.str_ok X G c
    exact ⟨_, e, t, rfl⟩
  have T : Txt K mg := ⟨He.free_ok X G (hf_len c), He.free_ok X G (hf_range c), He.free_ok X G (hf_isinstance c), He.free_ok X G (hf_int c), He.free_ok X G (hf_str c), He.free_ok X G (hf_bool c), He.free_ok X G (hf_list c), He.free_ok X G (hf_dict c), He.free_ok X G (hf_tuple c), He.free_ok X G (hf_all c), He.free_ok X G (hf_enumerate c), He.free_ok X G (hf_max c), He.free_ok X G (hf_min c), He.free_ok X G (hf_sum c), He.free_ok X G (hf_sorted c), He.free_ok X G (hf_repr c),
    gs (hs_LETTERS c), gi (hi_GREATEST c), gi (hi_LONGEST_TEXT c), gi (hi_LONGEST_NAME c), gi (hi_MOST_FIELDS c), gi (hi_MOST_PLACES c)⟩
  obtain ⟨mI, m⟩ := He.ba c.more
  obtain ⟨mP, m⟩ := He.ba m
  obtain ⟨i1, mI⟩ := He.ba mI
  obtain ⟨i2, mI⟩ := He.ba mI
  obtain ⟨i3, i4⟩ := He.ba mI
  obtain ⟨p1, mP⟩ := He.ba mP
  obtain ⟨p2, mP⟩ := He.ba mP
  obtain ⟨p3, p4⟩ := He.ba mP
  obtain ⟨k1, m⟩ := He.ba m
  obtain ⟨k2, m⟩ := He.ba m
  obtain ⟨k3, k4⟩ := He.ba m
  have noI : PySem.W.findIn K (.ref (He.ga K "InvalidValue")) "value" = some none := He.noat_ok (hm_2 c)
  have noP : PySem.W.findIn K (.ref (He.ga K "InvalidPlace")) "place" = some none := He.noat_ok (hm_3 c)
  have Te : TxP K mg (He.ga K "CheckError") (He.ga K "InvalidValue") (He.ga K "InvalidPlace") := ⟨He.glo_ok X G (hg_CheckError c), He.glo_ok X G (hg_InvalidValue c), He.glo_ok X G (hg_InvalidPlace c), excB_ok i2, excB_ok p2, noI, noP, He.exm_ok (hm_0 c), He.exm_ok (hm_1 c), of_decide_eq_true k1, of_decide_eq_true k2, of_decide_eq_true k3, of_decide_eq_true k4⟩
  obtain ⟨fdU, FU⟩ := c.d.def_ 29 (d := d_InvalidValue___init__) rfl
  obtain ⟨fdV, FV⟩ := c.d.def_ 30 (d := d_InvalidPlace___init__) rfl
  have bU : Binds K fdU ["self", "value"] [] := FU.bindsN bi_InvalidValue___init__
  have bV : Binds K fdV ["self", "place"] [] := FV.bindsN bi_InvalidPlace___init__
  obtain ⟨fL, fdL, FL, gL⟩ := (D_law X G c).ex
  have e := hfa.symm.trans gL
  cases e
  refine ⟨fdL, fun s v => FunD.bindsA (ps := ["_law_script"]) FL bi_law s [v] rfl, fun base _ _ sy => ?_⟩
  have cDraw : Cal P w K mg base CX0 1 "_law_draw" spDraw := ok_draw (D__law_draw X G c) T
  have cHand : Cal P w K mg base CX0 1 "_law_hand" (spHand K) := ok_hand (D__law_hand X G c) T
  have cInt : Cal P w K mg base CX0 1 "is_integer" spIsInt := ok_isint (D_is_integer X G c) T
  have cLets : Cal P w K mg base CX0 1 "is_letters" spLets := ok_lets (D_is_letters X G c) T
  have cField : Cal P w K mg base CX0 2 "is_field" spField := ok_field (D_is_field X G c) T cLets
  have cLeafQ : Cal P w K mg base CX0 2 "is_leaf" spIsLeaf := ok_isleaf (D_is_leaf X G c) T cInt cLets
  have cPart : Cal P w K mg base CX0 3 "is_part" spPart := ok_part (D_is_part X G c) T cLeafQ cField
  have cKids : Cal P w K mg base CX0 1 "children" spKids := ok_kids (D_children X G c) T
  have cIsV : Cal P w K mg base CX0 4 "is_value" spIsVal := ok_isval (D_is_value X G c) T cPart cKids
  have xU : XMk P w K mg base 1 "InvalidValue" (He.ga K "InvalidValue") "value" := ⟨⟨Te.gI, oexB_ok i1, Te.xI⟩, ⟨_, fdU, _, He.eqO_ok i3, of_decide_eq_true i4, ok_iinit FU (oexB_ok i1) noI, bU⟩, noI⟩
  have xP : XMk P w K mg base 1 "InvalidPlace" (He.ga K "InvalidPlace") "place" := ⟨⟨Te.gP, oexB_ok p1, Te.xP⟩, ⟨_, fdV, _, He.eqO_ok p3, of_decide_eq_true p4, ok_pinit FV (oexB_ok p1) noP, bV⟩, noP⟩
  have cCheck := ok_checkv (P := P) (w := w) (base := base) (D_check_value X G c) T cIsV xU
  have cCopy := ok_copy (P := P) (w := w) (base := base) (D_copy_of X G c) T 60
  have cPB := ok_pbelow (P := P) (w := w) (base := base) (D_places_below X G c) T cKids 60
  have cPlaces := ok_places (P := P) (w := w) (base := base) (D_places X G c) T cCheck cPB
  have cHS := ok_hasStep (P := P) (w := w) (base := base) (D_has_step X G c) T cInt
  have cHP := ok_hasPlace (P := P) (w := w) (base := base) (D_has_place X G c) T cHS
  have cPA := ok_partAt (P := P) (w := w) (base := base) (D_part_at X G c) T
  have cAt := ok_at (P := P) (w := w) (base := base) (D_at X G c) T cCheck cHP cPA cCopy xP
  have cHO := ok_headOf (P := P) (w := w) (base := base) (D_head_of X G c) T cKids
  have cHead := ok_head (P := P) (w := w) (base := base) (D_head X G c) T cCheck cHO
  have cWord := ok_word (P := P) (w := w) (base := base) (D__law_word X G c) T cDraw
  have cLeaf := ok_leafv (P := P) (w := w) (base := base) (D__law_leaf X G c) T cDraw cWord
  have cValue := ok_value (P := P) (w := w) (base := base) (D__law_value X G c) T cDraw cWord cLeaf 7
  have cBelow := ok_belowP (P := P) (w := w) (base := base) (D__law_below X G c) T 60
  have cPartL := ok_partL (P := P) (w := w) (base := base) (D__law_part X G c) T
  have cTop := ok_top (P := P) (w := w) (base := base) (D__law_top X G c) T
  have cTold := ok_told (P := P) (w := w) (base := base) (D__law_told X G c) T Te sy cPlaces cAt cHead
  have cBad := ok_badspot (P := P) (w := w) (base := base) (D__law_bad_spot X G c) T cDraw
  have cSpoil := ok_spoil (P := P) (w := w) (base := base) (D__law_spoil X G c) T 60
  exact ok_law FL T sy cHand cDraw cValue cBelow cTold cTop cSpoil cAt cPartL cHead cBad
end

end VL
open PySem PySem.W PySem.Calls PyProof.Rows
set_option maxRecDepth 100000 in
set_option maxHeartbeats 0 in
theorem PySem.Challenge.cw_latechecks_k02_places_and_parts_holds : PySem.Challenge.rw_latechecks_k02_places_and_parts.Holds := by
  w_on; o_law
  refine HandSHeadRun.head_any (r := OpenLaw.row PySem.Challenge.rw_latechecks_k02_places_and_parts) (q := view (OpenLaw.row PySem.Challenge.rw_latechecks_k02_places_and_parts).prog [41]) (H := VL.hk) (ob := VL.ob) (M := 6000) (loose := VL.loose) (d := HandSHeadRun.topDef (OpenLaw.row PySem.Challenge.rw_latechecks_k02_places_and_parts).prog 41) (kwd := []) VL.ob_eq
    (by kernel_rfl) (fun s => by kernel_rfl) VL.run (by kernel_rfl) (by kernel_rfl) (by kernel_rfl) (by rfl) (by first | assumption | decide +kernel) (by decide +kernel) ⟨rfl, rfl, rfl, rfl, rfl, by decide +kernel⟩ ?hw ?hc
  case hw => w_witness2
  case hc =>
    refine LW.walkG (l := PySem.Challenge.rw_latechecks_k02_places_and_parts) (n := 63) (k := 65) (x := "_law_script") (CX := L2.CX0) rfl (by decide) (by kernel_rfl) ⟨rfl, by decide, by decide⟩ (by kernel_rfl) ?F (fun _ _ _ _ z => z)
    intro w mg fa h Y G hmg0
    obtain ⟨K, KX, c⟩ := Y
    have hmg : mg ("law" : PySem.Str) = some (.ref fa) := by
      have e : (HandSHeadRun.topDef (OpenLaw.row PySem.Challenge.rw_latechecks_k02_places_and_parts).prog 41).name = ("law" : PySem.Str) := by kernel_rfl
      rw [← e]
      exact hmg0
    obtain ⟨fd, hb, hF⟩ := VL.facts (P := (PySem.Challenge.rw_latechecks_k02_places_and_parts).prog) (w := w) KX G hmg c
    exact ⟨K, fd, VL.spLaw K, KX, hb, fun H a ns hl _ hS => ⟨a, ns, rfl, hS, hl, fun _ => rfl⟩, hF⟩
#print axioms PySem.Challenge.cw_latechecks_k02_places_and_parts_holds
