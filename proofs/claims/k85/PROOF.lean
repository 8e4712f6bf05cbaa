import PyProof.Rows.All
import Wide.All
import OpenK.AllK
import Wide.FinOn
import KE.KStateDown
import HandS.ForMost
import HandS.ForExc
import HandS.Defaults
import HandS.Head0
import HandS.Head1
import HandS.Head2
import HandS.HeadEnd
import HandS.HeadHook1
import HandS.HeadHook2
import HandS.ExcInit
import HandS.ExcField
import HandS.ExcIs
import HandS.IsInst
import HandS.Evl
import HandS.Wide
import HandS.Walk
import KE.KExcIs
import HandS.More
import PyProof.ReprRoads
import HandS.RaiseMore
import HandS.NoneIn
import PyProof.DictTruth
import KE.KDictDisplayH
import HandS.Small
import PyProof.ReprBulk
import HandS.Codes
import PyProof.Rows.SortStr
import HandS.FStr
import HandS.StrMore
import HandS.DeepEq
import HandS.Deep
import HandS.TupLe
import PyProof.NeKinds
import KE.KDictCopyH
import KE.KDictPairs
import HandS.Style
import HandS.TupAny
import PySem.Challenge.RW_latechecks_k85_values_as_texts
set_option Elab.async false
set_option linter.all false
set_option maxRecDepth 100000
set_option maxHeartbeats 8000000
namespace LW
open PySem PySem.Spec PyProof.Rows L2
/-! ### the head's Hook: facts, defs, one more Bool -/
abbrev AlM : Type := He.AlD × Bool
def obsM (n : Nat) (fa : List He.Fa) (fn : List He.DefD) (ex : PySem.W.Frag → Bool) (g : Addr → Option Obj) : AlM := (He.obsD fa fn (He.frG g (He.asD g n)), ex (He.frG g (He.asD g n)))
structure SaysM (fa : List He.Fa) (fn : List He.DefD) (ex : PySem.W.Frag → Bool) (K : PySem.W.Frag) : Prop where
  d : He.SaysD fa fn K
  more : ex K = true
def hookM (n : Nat) (fa : List He.Fa) (fn : List He.DefD) (ex : PySem.W.Frag → Bool) : PySem.W.Hook where
  α := AlM
  obs := fun s => obsM n fa fn ex s.heap.get?
  val := fun _ => (He.valD fn, true)
  says := fun _ h => ∃ K : PySem.W.Frag, K.In h ∧ SaysM fa fn ex K
  of := fun _ _ e => ⟨_, He.frG_in, ⟨congrArg (fun z : AlM => z.1) e, congrArg (fun z : AlM => z.2) e⟩⟩
  keeps := fun _ _ _ ⟨K, hK, c⟩ k => ⟨K, PySem.W.Frag.In.keeps hK k, c⟩
theorem obsM_eq {n : Nat} {fa : List He.Fa} {fn : List He.DefD} {ex : PySem.W.Frag → Bool} {g : Addr → Option Obj} {s : Shared} (h : ∀ a, g a = s.heap.get? a) : obsM n fa fn ex g = (hookM n fa fn ex).obs s := by
  have e : g = s.heap.get? := funext h
  rw [e] <;> rfl
theorem SaysM.fact {fa : List He.Fa} {fn : List He.DefD} {ex : PySem.W.Frag → Bool} {K : PySem.W.Frag} (c : SaysM fa fn ex K) {f : He.Fa} (h : f ∈ fa) : f.ok K = true := by
  have c1 := (He.ba (show ((fa.all fun f => f.ok K) && fn.all fun d => d.ok K) = true from congrArg (fun z : He.AlD => z.1) c.d)).1
  exact List.all_eq_true.mp c1 f h
end LW

namespace VL
open PySem PySem.Spec L2 LW
def top (i : Nat) : Stmt := PySem.Challenge.pw_latechecks_k85_values_as_texts.main.body.getD i (.Pass ⟨0, 0, 0, 0⟩)
abbrev s_InvalidValue___init__ : Stmt := inClass (top 2) 0
abbrev s_InvalidPlace___init__ : Stmt := inClass (top 3) 0
abbrev s_is_integer : Stmt := top 11
abbrev s_is_letters : Stmt := top 12
abbrev s_is_field : Stmt := top 13
abbrev s_is_leaf : Stmt := top 14
abbrev s_is_part : Stmt := top 15
abbrev s_children : Stmt := top 16
abbrev s_is_value : Stmt := top 17
abbrev s_check_value : Stmt := top 18
abbrev s_written : Stmt := top 21
abbrev s_shown_value : Stmt := top 22
abbrev s_Reader___init__ : Stmt := inClass (top 23) 0
abbrev s_Reader_takes : Stmt := inClass (top 23) 1
abbrev s_Reader_until : Stmt := inClass (top 23) 2
abbrev s_Reader_next_value : Stmt := inClass (top 23) 3
abbrev s_Reader_list_items : Stmt := inClass (top 23) 4
abbrev s_Reader_record_fields : Stmt := inClass (top 23) 5
abbrev s_read_value : Stmt := top 24
abbrev s__law_hand : Stmt := top 26
abbrev s__law_draw : Stmt := top 27
abbrev s__law_word : Stmt := top 28
abbrev s__law_leaf : Stmt := top 29
abbrev s__law_value : Stmt := top 30
abbrev s__law_below : Stmt := top 31
abbrev s__law_part : Stmt := top 32
abbrev s__law_top : Stmt := top 33
abbrev s__law_twin : Stmt := top 34
abbrev s__law_written : Stmt := top 35
abbrev s__law_asked : Stmt := top 36
abbrev s__law_end : Stmt := top 37
abbrev s__law_number : Stmt := top 38
abbrev s__law_letters : Stmt := top 39
abbrev s__law_leaf_read : Stmt := top 40
abbrev s__law_list_read : Stmt := top 41
abbrev s__law_record_read : Stmt := top 42
abbrev s__law_read : Stmt := top 43
abbrev s__law_due : Stmt := top 44
abbrev s__law_bent : Stmt := top 45
abbrev s_law : Stmt := top 46
end VL

namespace LW
open PySem PySem.Spec PyProof.Rows L2
open Evl (Ex)
/-! ### heaps that grow -/
theorem new_ {H : Hp} {o : HO} {Q : VK} (k : ∀ p H1, H p = none → Ex H H1 → H1 p = some o → Q (.ref p) H1) : ∀ p, H p = none → Q (.ref p) (upd H p o) := fun p h => k p _ h (Ex.new h) upd_same
theorem newH {H : Hp} {p : Addr} (o : HO) (np : H p = none) : ∃ H1, upd H p o = H1 ∧ Ex H H1 ∧ H1 p = some o := ⟨_, rfl, Ex.new np, upd_same⟩
theorem ex_free {H H' : Hp} {p : Addr} (e : Ex H H') (h : H' p = none) : H p = none := Evl.fresh_back e h
theorem upd_back {H : Hp} {p : Addr} {o x : HO} (h : H p = some o) : upd (upd H p x) p o = H := by
  funext b
  by_cases hb : b = p
  · rw [hb, upd_same, h]
  · rw [upd_ne hb, upd_ne hb]
/-- small sizes -/
theorem szl {n : Nat} (h : n ≤ 100000) : n ≤ sizeLine := Nat.le_trans h (by decide)
theorem szlt {n : Nat} (h : n < 100000) : n < sizeLine := Nat.lt_of_lt_of_le h (by decide)

/-! ### a heap without one address -/
theorem ex_del {H : Hp} {p : Addr} : Ex (del H p) H := fun a o h => by
  by_cases e : a = p
  · rw [e, del_same] at h
    cases h
  · rw [del_ne e] at h
    exact h
theorem ex_of_del {H H' : Hp} {p : Addr} (e : Ex H H') (h : H p = none) : Ex H (del H' p) := fun a o q => by
  rw [del_ne (ne_of_none q h)]
  exact e a o q
theorem del_grow {H H1 : Hp} {p : Addr} {o : HO} (e : Ex H H1) : Ex (del H p) (del (upd H1 p o) p) := fun a u q => by
  by_cases ea : a = p
  · rw [ea, del_same] at q
    cases q
  · rw [del_ne ea] at q ⊢
    rw [upd_ne ea]
    exact e a u q
theorem del_grow' {H H1 : Hp} {p : Addr} (e : Ex H H1) : Ex (del H p) (del H1 p) := fun a u q => by
  by_cases ea : a = p
  · rw [ea, del_same] at q
    cases q
  · rw [del_ne ea] at q ⊢
    exact e a u q
theorem del_get {H : Hp} {p a : Addr} {o : HO} (h : H a = some o) (ne : a ≠ p) : del H p a = some o := by
  rw [del_ne ne]
  exact h
theorem up_ne {H : Hp} {p a : Addr} {o x : HO} (h : H a = some o) (ne : a ≠ p) : upd H p x a = some o := by
  rw [upd_ne ne]
  exact h
/-- the heap behind a change of an object that the entry does not know -/
theorem ex_mut {H H' : Hp} {p : Addr} {o : HO} (e : Ex H H') (h : H p = none) : Ex H (upd H' p o) := Ex.mut e h

/-! ### what is new since a heap -/
def fr (H H' : Hp) : Hp := fun b => match H b with
  | none => H' b
  | some _ => none
/-- what is tracked stays tracked -/
def Dm (H H' : Hp) : Prop := ∀ b, H' b = none → H b = none
theorem Dm.refl (H : Hp) : Dm H H := fun _ h => h
theorem Dm.trans {H H1 H2 : Hp} (a : Dm H H1) (b : Dm H1 H2) : Dm H H2 := fun c h => a c (b c h)
theorem dm_ex {H H' : Hp} (e : Ex H H') : Dm H H' := fun _ h => ex_free e h
theorem dm_upd {H H' : Hp} {p : Addr} {o : HO} (d : Dm H H') : Dm H (upd H' p o) := fun b h => by
  by_cases e : b = p
  · rw [e, upd_same] at h
    cases h
  · rw [upd_ne e] at h
    exact d b h
theorem fr_get {H H' : Hp} {a : Addr} {o : HO} (n : H a = none) (h : H' a = some o) : fr H H' a = some o := by
  unfold fr
  rw [n]
  exact h
theorem fr_some {H H' : Hp} {a : Addr} {o : HO} (h : fr H H' a = some o) : H a = none ∧ H' a = some o := by
  unfold fr at h
  cases e : H a with
  | none =>
    rw [e] at h
    exact ⟨rfl, h⟩
  | some u =>
    rw [e] at h
    cases h
theorem fr_sub {H H' : Hp} : Ex (fr H H') H' := fun _ _ h => (fr_some h).2
theorem fr_mono {H H' H'' : Hp} (e : Ex H' H'') : Ex (fr H H') (fr H H'') := fun _ _ h => fr_get (fr_some h).1 (e _ _ (fr_some h).2)
theorem fr_base {H0 H H' : Hp} (d : Dm H0 H) : Ex (fr H H') (fr H0 H') := fun _ _ h => fr_get (d _ (fr_some h).1) (fr_some h).2
theorem fr_upd {H H' : Hp} {p : Addr} {o u : HO} (h : H p = some u) : Ex (fr H H') (fr H (upd H' p o)) := fun a v q => by
  obtain ⟨n, q⟩ := fr_some q
  refine fr_get n ?_
  rw [upd_ne (fun e => by rw [e, h] at n; cases n)]
  exact q
theorem fr_all {H H' : Hp} (e : Ex H H') {a : Addr} {o : HO} (h : H' a = some o) (ne : H a = none) : fr H H' a = some o := fr_get ne h
theorem fr_del {H H' : Hp} {p : Addr} {u : HO} (h : H p = some u) : Ex (fr H H') (del H' p) := fun a v q => by
  obtain ⟨n, q⟩ := fr_some q
  exact del_get q (fun e => by rw [e, h] at n; cases n)

/-! ### what an object is told to be may change while it stands -/
section
variable {X : Cx} {pins : List (Addr × Obj)} {σ : L2.St} {H : Hp} {s : Shared} {p : Addr} {o : HO}
theorem inv_recast (I : L2.Inv X pins σ H s) (mu : Mut (H p)) (ob : ObjOk X.prog X.w (upd H p o) s.heap p o) : L2.Inv X pins σ (upd H p o) s := by
  have hex : ∃ u, s.heap.get? p = some u := by
    cases e : H p with
    | none => rw [e] at mu; exact mu.elim
    | some u =>
      have x := I.hok p u e
      cases u with
      | lst xs => obtain ⟨_, _, _, _, e⟩ := x; exact ⟨_, e⟩
      | dK kvs => obtain ⟨_, _, _, _, o, _, _, e, _⟩ := x; exact ⟨_, e⟩
      | dT kvs => obtain ⟨_, _, _, _, o, _, _, e, _⟩ := x; exact ⟨_, e⟩
      | set S n => obtain ⟨o, _, _, _, e, _⟩ := x; exact ⟨_, e⟩
      | ins C dx fs => obtain ⟨_, _, _, e, _⟩ := x; exact ⟨_, e⟩
      | ext φ => obtain ⟨_, ⟨o, e⟩, _⟩ := x; exact ⟨_, e⟩
      | _ => rw [e] at mu; exact mu.elim
  exact I.write (t' := s.toks) (x := p) (e := p) (o := o) mu (.inl rfl) (fun b u _ h => h) hex ob
end

/-! ### the pool of draws: a list of two ints, told by its bounds alone -/
def poolO (p : Addr) : HO := .ext fun h => ∃ (a b : Int) (ta tb : Tok) (n : Nat), 0 ≤ a ∧ 0 ≤ b ∧ b < 2147483647 ∧ h.get? p = some { cls := .type "list", data := .seq #[.int a ta, .int b tb] n }
def Pool (H : Hp) (p : Addr) : Prop := H p = some (poolO p)
theorem Pool.ex {H H' : Hp} {p : Addr} (h : Pool H p) (e : Ex H H') : Pool H' p := e _ _ h
section
variable {P : Program} {w : World} {H H' : Hp} {h : Heap} {p : Addr}
theorem pool_open (x : HOk P w H h) (hp : Pool H p) : ∃ a b : Int, 0 ≤ a ∧ 0 ≤ b ∧ b < 2147483647 ∧ ObjOk P w H' h p (.lst [.int a, .int b]) := by
  have q : ObjOk P w H h p (.ext fun h => ∃ (a b : Int) (ta tb : Tok) (n : Nat), 0 ≤ a ∧ 0 ≤ b ∧ b < 2147483647 ∧ h.get? p = some { cls := .type "list", data := .seq #[.int a ta, .int b tb] n }) := x p _ hp
  obtain ⟨⟨a, b, ta, tb, n, h0, h1, h2, e⟩, _, _⟩ := q
  exact ⟨a, b, h0, h1, h2, szl (by show 2 ≤ 100000; decide), [.int a ta, .int b tb], n, .cons ⟨ta, rfl⟩ (.cons ⟨tb, rfl⟩ .nil), e⟩
theorem pool_shut {a b : Int} (x : ObjOk P w H h p (.lst [.int a, .int b])) (h0 : 0 ≤ a) (h1 : 0 ≤ b) (h2 : b < 2147483647) : ObjOk P w H' h p (poolO p) := by
  obtain ⟨_, its, n, r, e⟩ := x
  cases r with
  | cons r1 r =>
    cases r with
    | cons r2 r =>
      cases r
      obtain ⟨ta, rfl⟩ := r1
      obtain ⟨tb, rfl⟩ := r2
      exact ⟨⟨a, b, ta, tb, n, h0, h1, h2, e⟩, ⟨_, e⟩, fun g1 g2 z k => by
        obtain ⟨a, b, ta, tb, n, q0, q1, q2, q⟩ := z
        exact ⟨a, b, ta, tb, n, q0, q1, q2, k _ q⟩⟩
end
/-- a body in which the pool is looked into and put back at a return -/
def tFocus (t : TS) : TS := fun D σ H => ∃ p, Pool H p ∧ ∀ a b : Int, 0 ≤ a → 0 ≤ b → b < 2147483647 →
  t { nx := fun _ _ => False, rt := fun v H' => ∃ a' b' : Int, H' p = some (.lst [.int a', .int b']) ∧ 0 ≤ a' ∧ 0 ≤ b' ∧ b' < 2147483647 ∧ D.rt v (upd H' p (poolO p)) } σ (upd H p (.lst [.int a, .int b]))
/-- return of a new pool -/
def tRetPool (te : TE) : TS := fun D σ H => te σ H fun v H' => ∃ (p : Addr) (a b : Int), v = .ref p ∧ H' p = some (.lst [.int a, .int b]) ∧ 0 ≤ a ∧ 0 ≤ b ∧ b < 2147483647 ∧ D.rt v (upd H' p (poolO p))
section
variable {X : Cx}
theorem pss_focus {body : List Stmt} {t : TS} (h : PSs X body t) : PSs X body (tFocus t) := by
  refine ⟨fun pins s σ H D I ht => ?_⟩
  obtain ⟨p, hp, k⟩ := ht
  obtain ⟨a, b, h0, h1, h2, ob⟩ : ∃ a b : Int, 0 ≤ a ∧ 0 ≤ b ∧ b < 2147483647 ∧ ObjOk X.prog X.w (upd H p (.lst [.int a, .int b])) s.heap p (.lst [.int a, .int b]) := by
    obtain ⟨a, b, h0, h1, h2, ob⟩ := pool_open (H' := H) I.hok hp
    exact ⟨a, b, h0, h1, h2, ob⟩
  have mu : Mut (H p) := by
    rw [show H p = some (poolO p) from hp]
    exact True.intro
  have J := inv_recast I mu ob
  refine thn (h.run pins s σ _ _ J (k a b h0 h1 h2)) fun f s' q => ?_
  cases f with
  | ret u =>
    obtain ⟨v, σ', H', I', r, a', b', e, g0, g1, g2, hD⟩ := q
    have mu' : Mut (H' p) := by
      rw [e]
      exact True.intro
    exact ⟨v, σ', _, inv_recast I' mu' (pool_shut (I'.hok p _ e) g0 g1 g2), r, hD⟩
  | next =>
    obtain ⟨_, _, _, q⟩ := q
    exact q.elim
  | brk =>
    obtain ⟨_, _, _, q⟩ := q
    exact q.elim
  | cont =>
    obtain ⟨_, _, _, q⟩ := q
    exact q.elim
theorem ps_retPool {e : Expr} {te : TE} {pos : Pos} (he : PE X e te) : PS X (.Return (some e) pos) (tRetPool te) := by
  refine ⟨fun pins s σ H D I h => ?_⟩
  refine wpAny_Return_some (thn (he.run pins s σ H _ I h) fun v s1 ⟨x, H1, I1, r1, p, a, b, ev, e, g0, g1, g2, hD⟩ => ?_)
  have mu' : Mut (H1 p) := by
    rw [e]
    exact True.intro
  exact ⟨x, σ, _, inv_recast I1 mu' (pool_shut (I1.hok p _ e) g0 g1 g2), r1, hD⟩
end

/-! ### the rules that speak of the written part, K told (for comprehensions) -/
section
variable {X : Cx}
theorem ixl (K : PySem.W.Frag) (h : X.K = K := by rfl) : IxR X (rIxL K) := by
  subst h
  exact ix_list
theorem ixt (K : PySem.W.Frag) (h : X.K = K := by rfl) : IxR X (rIxT K) := by
  subst h
  exact ix_tup
theorem inq (K : PySem.W.Frag) (h : X.K = K := by rfl) : OpR X (compareOp .In) (rIn K false) := by
  subst h
  exact op_in_seq
theorem ninq (K : PySem.W.Frag) (h : X.K = K := by rfl) : OpR X (compareOp .NotIn) (rIn K true) := by
  subst h
  exact op_notIn_seq
def rLn (K : PySem.W.Frag) : List V → Hp → VK → Prop := fun xs H Q => ∃ x n, xs = [x] ∧ LenV K x H n ∧ Q (.int n) H
theorem lnK (K : PySem.W.Frag) (h : X.K = K := by rfl) : CallR X (.builtin "len") (rLn K) := by
  subst h
  exact call_len
theorem isiK (K : PySem.W.Frag) (h : X.K = K := by rfl) : CallR X (.builtin "isinstance") (rIsi K) := by
  subst h
  exact call_isi
theorem isiTK (K : PySem.W.Frag) (h : X.K = K := by rfl) : CallR X (.builtin "isinstance") (rIsiT K) := by
  subst h
  exact call_isiT
def rLof (K : PySem.W.Frag) : List V → Hp → VK → Prop := fun xs H Q => ∃ p ys, xs = [.ref p] ∧ (SqL K H p ys ∨ SqT K H p ys) ∧ ∀ l, H l = none → Q (.ref l) (upd H l (.lst ys))
theorem lofK (K : PySem.W.Frag) (h : X.K = K := by rfl) : CallR X (.type "list") (rLof K) := by
  subst h
  exact call_list_of
theorem allK (K : PySem.W.Frag) (hc : X.calm = true) (h : X.K = K := by rfl) : CallR X (.builtin "all") (rAll K) := by
  subst h
  exact cr_all hc
theorem pgt {pos : Pos} {es : List Expr} {k : Nat} {t : TGs} {n : Nat} (K : PySem.W.Frag) (hc : X.calm = true) (h : PGs X es t) (e : X.K = K := by rfl)
    (hn : (assignEach es X.env).length = n := by rfl) (hst : (assignEach es X.env).findIdx? (·.1) = none := by rfl) : PG X (.Tuple es k pos) (gTup K n t) := by
  subst e
  exact pg_tup hc h hn hst
theorem pfl {e : Expr} {ta : TE} {f : Str} {pos : Pos} (K : PySem.W.Frag) (he : PE X e ta) (hb : attributeBase e f X.env (eval e X.env) = eval e X.env) (h : X.K = K := by rfl) : PE X (.Attribute e f pos) (tFld K ta f) := by
  subst h
  exact pe_fld he hb
theorem pil {tg l : Expr} {tl : TE} (K : PySem.W.Frag) (hl : PE X l tl) (h : X.K = K := by rfl) : PI X tg l (iList K tl) := by
  subst h
  exact pi_list hl
theorem pit {tg l : Expr} {tl : TE} (K : PySem.W.Frag) (hl : PE X l tl) (h : X.K = K := by rfl) : PI X tg l (iTup K tl) := by
  subst h
  exact pi_tup hl
theorem eqDK (K : PySem.W.Frag) (hu : X.A.units + 64 < cLine) (h : X.K = K := by rfl) : OpR X (compareOp .Eq) (rEqD K) := by
  subst h
  exact op_eqD hu
theorem neDK (K : PySem.W.Frag) (hu : X.A.units + 64 < cLine) (h : X.K = K := by rfl) : OpR X (compareOp .NotEq) (rNeD K) := by
  subst h
  exact op_neD hu
theorem slK (K : PySem.W.Frag) (h : X.K = K := by rfl) : SlR X (rSlL K) := by
  subst h
  exact sl_list
theorem units65 {A : Around} {k : Nat} (hr : Room k A) : A.units + 65 < cLine := by
  have := hr.un
  omega
end
/-! ### defs by name -/
structure Cal (P : Program) (w : World) (K : PySem.W.Frag) (mg : Str → Option Value) (base : Heap) (CX : CXT) (k : Nat) (x : Str) (sp : Sp) : Prop where
  ex : ∃ (f : Addr) (fd : FuncData) (ps : List Str), FnOk P w K mg base CX k f fd ps sp ∧ mg x = some (.ref f) ∧ PySem.W.keepIn K (.ref f) = true ∧ Binds K fd ps []
abbrev FnP (K : PySem.W.Frag) (x : Str) (st : Stmt) (f : Addr) (fd : FuncData) : Prop := FunD K x x (defArgs st) (defBody st) (defScope st) [] [] f fd
/-- a def of the module -/
structure Df (K : PySem.W.Frag) (mg : Str → Option Value) (x : Str) (st : Stmt) : Prop where
  ex : ∃ (f : Addr) (fd : FuncData), FnP K x st f fd ∧ mg x = some (.ref f)
def BindsEq (x : Str) (st : Stmt) (ps : List Str) : Prop := ∀ (kV doc pm : Value) (an : Option Addr) (cdv ct : Value) (us : List Value), us.length = ps.length →
  bindArgs (PySem.W.fnOf x x (defArgs st) (defBody st) (defScope st) .none kV doc pm an cdv ct) ⟨us, []⟩ = pure (ps.zip us)
section
variable {P : Program} {w : World} {K : PySem.W.Frag} {mg : Str → Option Value} {base : Heap}
theorem cal0 {x : Str} {st : Stmt} {N ps : List Str} {k : Nat} {sp : Sp} (F : Df K mg x st) (S : FnScope N ps (defScope st)) (hb : BindsEq x st ps) (len : ∀ vs H Q E, sp vs H Q E → vs.length = ps.length)
    (hbody : ∀ (f : Addr) (cdv : Value) (A : Around) (outer : List Env) (s : Shared) (H : Hp) (vs : List V) (Q : VK) (E : XK), Room k (A.deeper (envOfC x (defScope st) s.heap.objs.size f cdv)) → sp vs H Q E →
      ∃ t, PSs (cxOf CX0 P w K mg base N x (defScope st) f cdv A outer s H E).nox (defBody st) t ∧ t { nx := fun _ H' => Q .non H', rt := Q } (start N vs) H) : Cal P w K mg base CX0 (k + 1) x sp := by
  obtain ⟨f, fd, F, hm⟩ := F.ex
  exact ⟨f, fd, ps, F.ok S len (fun cdv A outer s H vs Q E hr h => by
    obtain ⟨t, h1, h2⟩ := hbody f cdv A outer s H vs Q E hr h
    exact ⟨t, h1.nox, h2⟩), hm, F.kp, F.bindsN hb⟩
theorem calX {x : Str} {st : Stmt} {N ps : List Str} {k : Nat} {sp : Sp} (F : Df K mg x st) (S : FnScope N ps (defScope st)) (hb : BindsEq x st ps) (len : ∀ vs H Q E, sp vs H Q E → vs.length = ps.length)
    (hbody : ∀ (f : Addr) (cdv : Value) (A : Around) (outer : List Env) (s : Shared) (H : Hp) (vs : List V) (Q : VK) (E : XK), Room k (A.deeper (envOfC x (defScope st) s.heap.objs.size f cdv)) → sp vs H Q E →
      ∃ t, PSs (cxOf (L2.CX P w) P w K mg base N x (defScope st) f cdv A outer s H E) (defBody st) t ∧ t { nx := fun _ H' => Q .non H', rt := Q } (start N vs) H) : Cal P w K mg base (L2.CX P w) (k + 1) x sp := by
  obtain ⟨f, fd, F, hm⟩ := F.ex
  exact ⟨f, fd, ps, F.ok S len (fun cdv A outer s H vs Q E hr h => hbody f cdv A outer s H vs Q E hr h), hm, F.kp, F.bindsN hb⟩
end
section
variable {X : Cx} {k j : Nat} {x : Str} {sp : Sp} {p pos : Pos} {e : Expr} {es : List Expr} {t : TA}
theorem pe_k (c : Cal X.prog X.w X.K X.mg X.base CX0 k x sp) (hr : Room j X.A) (hk : k ≤ j) (hg : Gl X x) (ha : PA X (e :: es) t)
    (hdb : (x == ("__debug__" : Str)) = false := by decide) (he : starEach (e :: es) X.env = (false, eval e X.env) :: starEach es X.env := by rfl) (hpl : (backTo pos (starEach es X.env)).any (·.1) = false := by rfl) :
    PE X (.Call (.Name x p) (e :: es) [] pos) (tCall sp [] E0 t) := by
  obtain ⟨f, fd, ps, F, hm, kp, b⟩ := c.ex
  exact pe_call F (hr.mono hk) hg hm kp b .nil pass0 ha hdb he hpl
end
end LW

namespace LW
open PySem PySem.Spec L2
open Evl (Ex)
/-! ### exception classes of the program, with an __init__ of their own -/
def oexB (K : PySem.W.Frag) (C : Addr) : Bool := (match K.lookup C with
  | some ⟨.type "type", _, .cls cd, sl⟩ => (match cd.mro, sl.toList with
    | .ref C' :: bm, [_, _, _, _, some (.builtin n), _] => C' == C && n == "ValueError.__new__" && !cd.hasDel && PySem.HandSPX.refsVE bm && cd.hasDict
    | _, _ => false)
  | _ => false) && (He.eqO (PySem.W.findIn K (.ref C) "__setattr__") (some (some (.builtin "object.__setattr__"))) && (decide (PySem.W.subIn K (.ref C) (.type "BaseException") = some true) && (decide (PySem.W.typeIn K (.ref C) = some (.type "type")) && PySem.W.keepIn K (.ref C))))
theorem oexB_ok {K : PySem.W.Frag} {C : Addr} (h : oexB K C = true) : OexC K C := by
  obtain ⟨q, h⟩ := He.ba h
  obtain ⟨h1, h⟩ := He.ba h
  obtain ⟨h2, h⟩ := He.ba h
  obtain ⟨h3, h4⟩ := He.ba h
  refine ⟨?_, He.eqO_ok h1, of_decide_eq_true h2, of_decide_eq_true h3, h4⟩
  split at q
  · rename_i dd cd sl ho
    split at q
    · rename_i C' bm k0 k1 k2 k3 n k5 hm hs
      simp only [Bool.and_eq_true, beq_iff_eq, Bool.not_eq_true'] at q
      obtain ⟨⟨⟨⟨rfl, rfl⟩, hdel⟩, ht⟩, hdd⟩ := q
      obtain ⟨nm, bs, mro, ns, qn, hd, sn, sub, ab, col, del⟩ := cd
      dsimp only at hm hdel hdd
      subst hm hdel hdd
      have hsl : sl = #[k0, k1, k2, k3, some (.builtin "ValueError.__new__"), k5] := by
        obtain ⟨l⟩ := sl
        simp only at hs
        rw [hs]
      subst hsl
      exact ⟨nm, qn, ns, bs, bm, sn, sub, ab, col, dd, k0, k1, k2, k3, k5, ho, ht⟩
    · cases q
  · cases q
def excB (K : PySem.W.Frag) (D : Addr) : Bool := xfB K D && (He.eqO (PySem.W.findIn K (.ref D) "__class__") (some (some (.builtin "object.__class__"))) && (He.eqO (PySem.W.specialIn K (.builtin "object.__class__") "__get__") (some (some (.builtin "getset_descriptor.__get__"))) &&
  (decide (PySem.W.takesIn K (.builtin "object.__class__") = some true) && (decide (PySem.W.mroIn K D (.type "object") = some true) && (PySem.W.clsIn K D).isSome))))
structure ExcD (K : PySem.W.Frag) (D : Addr) : Prop where
  xf : XfC K D
  ha : PySem.W.findIn K (.ref D) "__class__" = some (some (.builtin "object.__class__"))
  hn : PySem.W.specialIn K (.builtin "object.__class__") "__get__" = some (some (.builtin "getset_descriptor.__get__"))
  ht : PySem.W.takesIn K (.builtin "object.__class__") = some true
  hm : PySem.W.mroIn K D (.type "object") = some true
  hc : (PySem.W.clsIn K D).isSome = true
theorem excB_ok {K : PySem.W.Frag} {D : Addr} (h : excB K D = true) : ExcD K D := by
  obtain ⟨h1, h⟩ := He.ba h
  obtain ⟨h2, h⟩ := He.ba h
  obtain ⟨h3, h⟩ := He.ba h
  obtain ⟨h4, h⟩ := He.ba h
  obtain ⟨h5, h6⟩ := He.ba h
  exact ⟨xfB_ok h1, He.eqO_ok h2, He.eqO_ok h3, of_decide_eq_true h4, of_decide_eq_true h5, h6⟩
/-- isinstance(e, c), e the exception that the suite holds (with a dict of its own or without) -/
def rIsX (K : PySem.W.Frag) (cls : Value) (d : Option Addr) (a : Addr) : List V → Hp → VK → Prop := fun xs H Q => ∃ (D : Addr) (c : V) (cv : Value) (b : Bool), xs = [.ref a, c] ∧ cls = .ref D ∧ ExcD K D ∧ (∀ dd, d = some dd → ∃ fs, H dd = some (.xd fs)) ∧ ClsV c cv ∧ PySem.W.kitOne K (.ref D) cv = some b ∧ Q (.bl b) H
theorem call_isX {X : Cx} {a : Addr} {oe : Obj} {cls : Value} {d : Option Addr} {pn : List (Addr × Obj)} (hz : Zc cls d oe) (hf : ∃ vs, oe.data = .fields vs) : CallR (X.suite a ((a, oe) :: pn)) (.builtin "isinstance") (rIsX X.K cls d a) := by
  intro pins s σ H xs us Q I r h
  obtain ⟨D, c, cv, b, rfl, rfl, C, hdd, kc, e, q⟩ := h
  obtain ⟨u1, u2, rfl, r1, r2⟩ := vals2 r
  cases r1
  have ec := kc.eq r2
  subst ec
  obtain ⟨hget, _⟩ := I.pin (a, oe) (List.mem_append.mpr (.inl List.mem_cons_self))
  obtain ⟨vs, hv⟩ := hf
  have J : ∃ od, PySem.W.InstAt s.heap a oe D od := by
    cases d with
    | none => exact ⟨none, hget, hz.1, by unfold PySem.W.notCls; rw [hv] <;> rfl, by rw [hz.2]; trivial⟩
    | some dd =>
      obtain ⟨fs, hfs⟩ := hdd dd rfl
      obtain ⟨mA, hns, _⟩ := (show ObjOk X.prog X.w H s.heap dd (.xd fs) from I.hok dd _ hfs)
      obtain ⟨od, ho, _⟩ := lookIn_ns hns
      exact ⟨some od, hget, hz.1, by unfold PySem.W.notCls; rw [hv] <;> rfl, by rw [hz.2]; exact ho⟩
  obtain ⟨od, J⟩ := J
  exact PySem.W.kia_one (PySem.W.kitx_exc C.hc C.xf.ga C.xf.gg C.xf.exC C.ha C.hn C.ht C.hm) I.kIn J e (fun z => nomatch z) fun tk => ⟨.bl b, H, I.kept (t' := tk) fun _ _ z => z, rfl, q⟩
/-- e.f in the suite, K told, the class found at the reading -/
def tXg (K : PySem.W.Frag) (a : Addr) (cls : Value) (d : Option Addr) (f : Str) (te : TE) : TE := fun σ H Q => te σ H fun x H1 => x = .ref a ∧ ∃ (C dd : Addr) (fs : List (Str × V)) (v : V), cls = .ref C ∧ XfC K C ∧ PySem.W.findIn K (.ref C) f = some none ∧ d = some dd ∧ H1 dd = some (.xd fs) ∧ fs.lookup f = some v ∧ Q v H1
theorem pe_xg {X : Cx} {a : Addr} {oe : Obj} {cls : Value} {d : Option Addr} {pn : List (Addr × Obj)} {e : Expr} {te : TE} {pos : Pos} {n : Str}
    (hz : Zc cls d oe) (hf : ∃ vs, oe.data = .fields vs) (he : PE (X.suite a ((a, oe) :: pn)) e te) (hb : attributeBase e n X.env (eval e X.env) = eval e X.env := by rfl) :
    PE (X.suite a ((a, oe) :: pn)) (.Attribute e n pos) (tXg X.K a cls d n te) := by
  refine ⟨fun pins s σ H Q I h => ?_⟩
  have h' : ∃ C, te σ H fun x H1 => x = .ref a ∧ ∃ (C dd : Addr) (fs : List (Str × V)) (v : V), cls = .ref C ∧ XfC X.K C ∧ PySem.W.findIn X.K (.ref C) n = some none ∧ d = some dd ∧ H1 dd = some (.xd fs) ∧ fs.lookup n = some v ∧ Q v H1 := ⟨a, h⟩
  refine attr_of hb (thn (he.run pins s σ H _ I h) fun u s1 hh => ?_)
  obtain ⟨x, H1, I1, rx, ex, C, dd, fs, v, ec, T, hno, ed, ea, l, q⟩ := hh
  subst ex
  obtain rfl : u = Value.ref a := rx
  subst ec
  subst ed
  obtain ⟨ha, _⟩ := I1.pin (a, oe) (List.mem_append_left _ List.mem_cons_self)
  obtain ⟨vs, hd⟩ := hf
  have hx : ObjOk X.prog X.w H1 s1.heap dd (.xd fs) := I1.hok dd _ ea
  obtain ⟨mA, hns, hr⟩ := hx
  obtain ⟨od, ho, hl⟩ := lookIn_ns hns
  obtain ⟨u, hu, ru⟩ := RelO.some_of (v := v) (o := mA n) (by rw [← l]; exact hr n)
  have J : PySem.W.InstAt s1.heap a oe C (some od) := ⟨ha, hz.1, by unfold PySem.W.notCls; rw [hd] <;> rfl, by rw [hz.2]; exact ho⟩
  exact HandSPX.exc_get I1.kIn J T.ga T.gg T.exC (PySem.W.findObj_own T.hdC hno rfl (by rw [hl, hu])) (handed_of ru) ⟨v, H1, I1.tok _, ru, q⟩
/-! ### __init__ of such a class: self.f = f, one field -/
structure XCl (K : PySem.W.Frag) (mg : Str → Option Value) (x : Str) (C : Addr) : Prop where
  gC : mg x = some (.ref C)
  ox : OexC K C
  xd : ExcD K C
/-- what __init__ promises: the new exception at a gets its dict -/
def spXI (K : PySem.W.Frag) (C : Addr) (f : Str) : Sp := fun vs H Q _ => ∃ (a : Addr) (v : V), vs = [.ref a, v] ∧ H a = some (exo a C none) ∧ ∀ dx, H dx = none → dx ≠ a → Q .non (upd (upd H dx (exd dx [(f, v)])) a (exo a C (some dx)))
/-- the class's maker -/
structure XMk (P : Program) (w : World) (K : PySem.W.Frag) (mg : Str → Option Value) (base : Heap) (k : Nat) (x : Str) (C : Addr) (f : Str) : Prop where
  cl : XCl K mg x C
  ex : ∃ (fI : Addr) (fd : FuncData) (ps : List Str), PySem.W.findIn K (.ref C) "__init__" = some (some (.ref fI)) ∧ PySem.W.typeIn K (.ref fI) = some (.type "function") ∧ FnOk P w K mg base CX0 k fI fd ps (spXI K C f) ∧ Binds K fd ps []
  no : PySem.W.findIn K (.ref C) f = some none
section
variable {X : Cx} {k j : Nat} {C : Addr} {x f : Str} {e : Expr} {ta : TA} {p pos pos2 : Pos}
theorem pmk_x (M : XMk X.prog X.w X.K X.mg X.base k x C f) (hr : Room j X.A) (hj : k + 1 ≤ j) (hg : Gl X x) (ha : PA X [e] ta) (hdb : (x == ("__debug__" : Str)) = false := by decide)
    (he : starEach [e] X.env = (false, eval e X.env) :: starEach [] X.env := by rfl) (hpl : (backTo pos (starEach [] X.env)).any (·.1) = false := by rfl) : PMk X (.Call (.Name x p) [e] [] pos) (tMkO C (spXI X.K C f) [] ta) := by
  obtain ⟨fI, fd, ps, iC, tI, F1, hb⟩ := M.ex
  exact pmk_oex M.cl.ox iC tI F1 (hr.mono hj) hb .nil (pass0) hg M.cl.gC ha hdb he hpl
end
/-- what the making leaves: a new dict with the field -/
theorem xmk_go {K : PySem.W.Frag} {C : Addr} {f : Str} {v : V} {H1 : Hp} {Q : XK} (h : ∀ d H2, H1 d = none → Ex H1 H2 → H2 d = some (.xd [(f, v)]) → Q (.ref C) (some d) H2) :
    [v].length ≤ 1000 ∧ ∀ a, H1 a = none → spXI K C f (.ref a :: ([v] ++ [])) (upd H1 a (exo a C none)) (fun v' H2 => v' = .non ∧ ∃ (d : Addr) (fs : List (Str × V)), H2 a = some (exo a C (some d)) ∧ H2 d = some (exd d fs) ∧ H1 d = none ∧ Q (.ref C) (some d) (upd (del H2 a) d (.xd fs))) (fun _ _ _ => False) := by
  refine ⟨by show 1 ≤ 1000; decide, fun a na => ⟨a, v, rfl, upd_same, fun dx ndx ne => ?_⟩⟩
  rw [upd_ne ne] at ndx
  refine ⟨rfl, dx, [(f, v)], upd_same, by rw [upd_ne ne, upd_same], ndx, h dx _ ndx (fun b o q => ?_) upd_same⟩
  have hb : b ≠ a := ne_of_none q na
  rw [upd_ne (ne_of_none q ndx), del_ne hb, upd_ne hb, upd_ne (ne_of_none q ndx), upd_ne hb]
  exact q
/-! ### methods of a class -/
structure Mt (P : Program) (w : World) (K : PySem.W.Frag) (mg : Str → Option Value) (base : Heap) (CX : CXT) (k : Nat) (C : Addr) (m : Str) (sp : Sp) : Prop where
  ex : ∃ (g : Addr) (fd : FuncData) (ps : List Str), Cls K C ∧ Meth K C m g ∧ FnOk P w K mg base CX k g fd ps sp ∧ Binds K fd ps []
/-- a method as the top leaves it -/
structure Dm_ (K : PySem.W.Frag) (C : Addr) (m qual : Str) (st : Stmt) : Prop where
  ex : ∃ (g : Addr) (fd : FuncData), FunD K m qual (defArgs st) (defBody st) (defScope st) [] [] g fd ∧ Meth K C m g
def BindsM (m qual : Str) (st : Stmt) (ps : List Str) : Prop := ∀ (kV doc pm : Value) (an : Option Addr) (cdv ct : Value) (us : List Value), us.length = ps.length →
  bindArgs (PySem.W.fnOf m qual (defArgs st) (defBody st) (defScope st) .none kV doc pm an cdv ct) ⟨us, []⟩ = pure (ps.zip us)
section
variable {P : Program} {w : World} {K : PySem.W.Frag} {mg : Str → Option Value} {base : Heap} {C : Addr} {m qual : Str} {st : Stmt} {N ps : List Str} {k : Nat} {sp : Sp}
theorem mt0 (c : Cls K C) (F : Dm_ K C m qual st) (S : FnScope N ps (defScope st)) (hb : BindsM m qual st ps) (len : ∀ vs H Q E, sp vs H Q E → vs.length = ps.length)
    (hbody : ∀ (f : Addr) (cdv : Value) (A : Around) (outer : List Env) (s : Shared) (H : Hp) (vs : List V) (Q : VK) (E : XK), Room k (A.deeper (PyProof.Rows.envOfC qual (defScope st) s.heap.objs.size f cdv)) → sp vs H Q E →
      ∃ t, PSs (cxOf CX0 P w K mg base N qual (defScope st) f cdv A outer s H E).nox (defBody st) t ∧ t { nx := fun _ H' => Q .non H', rt := Q } (start N vs) H) : Mt P w K mg base CX0 (k + 1) C m sp := by
  obtain ⟨g, fd, F, hm⟩ := F.ex
  exact ⟨g, fd, ps, c, hm, F.ok S len (fun cdv A outer s H vs Q E hr h => by
    obtain ⟨t, h1, h2⟩ := hbody g cdv A outer s H vs Q E hr h
    exact ⟨t, h1.nox, h2⟩), F.bindsN hb⟩
theorem mtX (c : Cls K C) (F : Dm_ K C m qual st) (S : FnScope N ps (defScope st)) (hb : BindsM m qual st ps) (len : ∀ vs H Q E, sp vs H Q E → vs.length = ps.length)
    (hbody : ∀ (f : Addr) (cdv : Value) (A : Around) (outer : List Env) (s : Shared) (H : Hp) (vs : List V) (Q : VK) (E : XK), Room k (A.deeper (PyProof.Rows.envOfC qual (defScope st) s.heap.objs.size f cdv)) → sp vs H Q E →
      ∃ t, PSs (cxOf (L2.CX P w) P w K mg base N qual (defScope st) f cdv A outer s H E) (defBody st) t ∧ t { nx := fun _ H' => Q .non H', rt := Q } (start N vs) H) : Mt P w K mg base (L2.CX P w) (k + 1) C m sp := by
  obtain ⟨g, fd, F, hm⟩ := F.ex
  exact ⟨g, fd, ps, c, hm, F.ok S len (fun cdv A outer s H vs Q E hr h => hbody g cdv A outer s H vs Q E hr h), F.bindsN hb⟩
/-- X(e): an instance, its __init__ by the promise sp -/
structure Mkr (P : Program) (w : World) (K : PySem.W.Frag) (mg : Str → Option Value) (base : Heap) (CX : CXT) (k : Nat) (x : Str) (C : Addr) (sp : Sp) : Prop where
  ex : ∃ (f : Addr) (fd : FuncData) (ps : List Str), Mk K C f ∧ FnOk P w K mg base CX k f fd ps sp ∧ mg x = some (.ref C) ∧ Binds K fd ps []
end
section
variable {X : Cx} {CX : CXT} {k j : Nat} {C : Addr} {m x : Str} {sp : Sp} {E : XK} {o e : Expr} {es : List Expr} {to : TE} {t : TA} {p apos pos : Pos} {pl : Sem Bool}
/-- o.m(e, ..), what is raised passing as E -/
theorem pe_mx (c : Mt X.prog X.w X.K X.mg X.base CX k C m sp) (hr : Room j X.A) (hk : k ≤ j) (hx : Passes CX X E) (he : PE X o to) (ha : PA X (e :: es) t)
    (hst : starEach (e :: es) X.env = (false, eval e X.env) :: starEach es X.env := by rfl) (hpl : (backTo pos (starEach es X.env)).any (·.1) = false := by rfl)
    (ht : eval (.Call (.Attribute o m apos) (e :: es) [] pos) X.env = (do
      let ov ← eval o X.env
      standAt apos.atName
      let (f, first) ← holding [ov] (getMethod ov m pl)
      callWith pos f first (backTo pos (starEach (e :: es) X.env)) (backToKw pos (keywordEach [] X.env))) := by rfl) :
    PE X (.Call (.Attribute o m apos) (e :: es) [] pos) (tMeth C m sp [] E to t) := by
  obtain ⟨g, fd, ps, cl, hm, F, b⟩ := c.ex
  exact pe_meth (pl := pl) he cl hm F (hr.mono hk) b .nil hx ha hst hpl ht
theorem pe_mkr (c : Mkr X.prog X.w X.K X.mg X.base CX k x C sp) (hr : Room j X.A) (hk : k + 1 ≤ j) (hx : Passes CX X E) (hg : Gl X x) (ha : PA X (e :: es) t)
    (hdb : (x == ("__debug__" : Str)) = false := by decide) (he : starEach (e :: es) X.env = (false, eval e X.env) :: starEach es X.env := by rfl) (hpl : (backTo pos (starEach es X.env)).any (·.1) = false := by rfl) :
    PE X (.Call (.Name x p) (e :: es) [] pos) (tMake C sp [] E t) := by
  obtain ⟨f, fd, ps, M, F, hm, b⟩ := c.ex
  exact pe_make M F (hr.mono hk) hg hm b .nil hx ha hdb he hpl
/-- f(e, ..), what is raised wished for at the slots -/
theorem pe_kS {W : WX} (c : Cal X.prog X.w X.K X.mg X.base (L2.CX X.prog X.w) k x sp) (hr : Room j X.A) (hk : k ≤ j) (tk : Takes X W) (hg : Gl X x) (ha : PA X (e :: es) t)
    (hdb : (x == ("__debug__" : Str)) = false := by decide) (he : starEach (e :: es) X.env = (false, eval e X.env) :: starEach es X.env := by rfl) (hpl : (backTo pos (starEach es X.env)).any (·.1) = false := by rfl) :
    PE X (.Call (.Name x p) (e :: es) [] pos) (tCallS sp (WE W) t) := by
  obtain ⟨f, fd, ps, F, hm, kp, b⟩ := c.ex
  exact pe_callS F (hr.mono hk) hg hm kp b (fun σ => passAt tk σ) ha hdb he hpl
end
end LW

namespace WT
open PySem PySem.Spec L2 LW VL
/-! ### the head: facts by names, the run -/
def d_is_integer : He.DefD := ⟨("is_integer", none), "is_integer", "is_integer", defArgs s_is_integer, defBody s_is_integer, defScope s_is_integer, [], []⟩
def d_is_letters : He.DefD := ⟨("is_letters", none), "is_letters", "is_letters", defArgs s_is_letters, defBody s_is_letters, defScope s_is_letters, [], []⟩
def d_is_field : He.DefD := ⟨("is_field", none), "is_field", "is_field", defArgs s_is_field, defBody s_is_field, defScope s_is_field, [], []⟩
def d_is_leaf : He.DefD := ⟨("is_leaf", none), "is_leaf", "is_leaf", defArgs s_is_leaf, defBody s_is_leaf, defScope s_is_leaf, [], []⟩
def d_is_part : He.DefD := ⟨("is_part", none), "is_part", "is_part", defArgs s_is_part, defBody s_is_part, defScope s_is_part, [], []⟩
def d_children : He.DefD := ⟨("children", none), "children", "children", defArgs s_children, defBody s_children, defScope s_children, [], []⟩
def d_is_value : He.DefD := ⟨("is_value", none), "is_value", "is_value", defArgs s_is_value, defBody s_is_value, defScope s_is_value, [], []⟩
def d_check_value : He.DefD := ⟨("check_value", none), "check_value", "check_value", defArgs s_check_value, defBody s_check_value, defScope s_check_value, [], []⟩
def d_written : He.DefD := ⟨("written", none), "written", "written", defArgs s_written, defBody s_written, defScope s_written, [], []⟩
def d_shown_value : He.DefD := ⟨("shown_value", none), "shown_value", "shown_value", defArgs s_shown_value, defBody s_shown_value, defScope s_shown_value, [], []⟩
def d_read_value : He.DefD := ⟨("read_value", none), "read_value", "read_value", defArgs s_read_value, defBody s_read_value, defScope s_read_value, [], []⟩
def d__law_hand : He.DefD := ⟨("_law_hand", none), "_law_hand", "_law_hand", defArgs s__law_hand, defBody s__law_hand, defScope s__law_hand, [], []⟩
def d__law_draw : He.DefD := ⟨("_law_draw", none), "_law_draw", "_law_draw", defArgs s__law_draw, defBody s__law_draw, defScope s__law_draw, [], []⟩
def d__law_word : He.DefD := ⟨("_law_word", none), "_law_word", "_law_word", defArgs s__law_word, defBody s__law_word, defScope s__law_word, [], []⟩
def d__law_leaf : He.DefD := ⟨("_law_leaf", none), "_law_leaf", "_law_leaf", defArgs s__law_leaf, defBody s__law_leaf, defScope s__law_leaf, [], []⟩
def d__law_value : He.DefD := ⟨("_law_value", none), "_law_value", "_law_value", defArgs s__law_value, defBody s__law_value, defScope s__law_value, [], []⟩
def d__law_below : He.DefD := ⟨("_law_below", none), "_law_below", "_law_below", defArgs s__law_below, defBody s__law_below, defScope s__law_below, [], []⟩
def d__law_written : He.DefD := ⟨("_law_written", none), "_law_written", "_law_written", defArgs s__law_written, defBody s__law_written, defScope s__law_written, [], []⟩
def d__law_asked : He.DefD := ⟨("_law_asked", none), "_law_asked", "_law_asked", defArgs s__law_asked, defBody s__law_asked, defScope s__law_asked, [], []⟩
def d__law_end : He.DefD := ⟨("_law_end", none), "_law_end", "_law_end", defArgs s__law_end, defBody s__law_end, defScope s__law_end, [], []⟩
def d__law_number : He.DefD := ⟨("_law_number", none), "_law_number", "_law_number", defArgs s__law_number, defBody s__law_number, defScope s__law_number, [], []⟩
def d__law_letters : He.DefD := ⟨("_law_letters", none), "_law_letters", "_law_letters", defArgs s__law_letters, defBody s__law_letters, defScope s__law_letters, [], []⟩
def d__law_leaf_read : He.DefD := ⟨("_law_leaf_read", none), "_law_leaf_read", "_law_leaf_read", defArgs s__law_leaf_read, defBody s__law_leaf_read, defScope s__law_leaf_read, [], []⟩
def d__law_list_read : He.DefD := ⟨("_law_list_read", none), "_law_list_read", "_law_list_read", defArgs s__law_list_read, defBody s__law_list_read, defScope s__law_list_read, [], []⟩
def d__law_record_read : He.DefD := ⟨("_law_record_read", none), "_law_record_read", "_law_record_read", defArgs s__law_record_read, defBody s__law_record_read, defScope s__law_record_read, [], []⟩
def d__law_read : He.DefD := ⟨("_law_read", none), "_law_read", "_law_read", defArgs s__law_read, defBody s__law_read, defScope s__law_read, [], []⟩
def d__law_due : He.DefD := ⟨("_law_due", none), "_law_due", "_law_due", defArgs s__law_due, defBody s__law_due, defScope s__law_due, [], []⟩
def d__law_bent : He.DefD := ⟨("_law_bent", none), "_law_bent", "_law_bent", defArgs s__law_bent, defBody s__law_bent, defScope s__law_bent, [], []⟩
def d_law : He.DefD := ⟨("law", none), "law", "law", defArgs s_law, defBody s_law, defScope s_law, [], []⟩
def d_InvalidValue___init__ : He.DefD := ⟨("InvalidValue", some "__init__"), "__init__", "InvalidValue.__init__", defArgs s_InvalidValue___init__, defBody s_InvalidValue___init__, defScope s_InvalidValue___init__, [], []⟩
def d_Reader___init__ : He.DefD := ⟨("Reader", some "__init__"), "__init__", "Reader.__init__", defArgs s_Reader___init__, defBody s_Reader___init__, defScope s_Reader___init__, [], []⟩
def d_Reader_takes : He.DefD := ⟨("Reader", some "takes"), "takes", "Reader.takes", defArgs s_Reader_takes, defBody s_Reader_takes, defScope s_Reader_takes, [], []⟩
def d_Reader_until : He.DefD := ⟨("Reader", some "until"), "until", "Reader.until", defArgs s_Reader_until, defBody s_Reader_until, defScope s_Reader_until, [], []⟩
def d_Reader_next_value : He.DefD := ⟨("Reader", some "next_value"), "next_value", "Reader.next_value", defArgs s_Reader_next_value, defBody s_Reader_next_value, defScope s_Reader_next_value, [], []⟩
def d_Reader_list_items : He.DefD := ⟨("Reader", some "list_items"), "list_items", "Reader.list_items", defArgs s_Reader_list_items, defBody s_Reader_list_items, defScope s_Reader_list_items, [], []⟩
def d_Reader_record_fields : He.DefD := ⟨("Reader", some "record_fields"), "record_fields", "Reader.record_fields", defArgs s_Reader_record_fields, defBody s_Reader_record_fields, defScope s_Reader_record_fields, [], []⟩
def fn : List He.DefD := [d_is_integer, d_is_letters, d_is_field, d_is_leaf, d_is_part, d_children, d_is_value, d_check_value, d_written, d_shown_value, d_read_value, d__law_hand, d__law_draw, d__law_word, d__law_leaf, d__law_value, d__law_below, d__law_written, d__law_asked, d__law_end, d__law_number, d__law_letters, d__law_leaf_read, d__law_list_read, d__law_record_read, d__law_read, d__law_due, d__law_bent, d_law, d_InvalidValue___init__, d_Reader___init__, d_Reader_takes, d_Reader_until, d_Reader_next_value, d_Reader_list_items, d_Reader_record_fields]
def fa0 : List He.Fa := [.glo "is_integer", .glo "is_letters", .glo "is_field", .glo "is_leaf", .glo "is_part", .glo "children", .glo "is_value", .glo "check_value", .glo "written", .glo "shown_value", .glo "read_value", .glo "_law_hand", .glo "_law_draw", .glo "_law_word", .glo "_law_leaf", .glo "_law_value", .glo "_law_below", .glo "_law_written", .glo "_law_asked", .glo "_law_end"]
def fa1 : List He.Fa := [.glo "_law_number", .glo "_law_letters", .glo "_law_leaf_read", .glo "_law_list_read", .glo "_law_record_read", .glo "_law_read", .glo "_law_due", .glo "_law_bent", .glo "law", .glo "CheckError", .glo "InvalidValue", .glo "InvalidPlace", .glo "Reader", .free "len", .free "range", .free "isinstance", .free "int", .free "str", .free "bool", .free "list"]
def fa2 : List He.Fa := [.free "dict", .free "tuple", .free "all", .free "enumerate", .free "max", .free "min", .free "sum", .free "sorted", .free "repr", .int "GREATEST" 1000000000000000000000000000000, .int "LONGEST_TEXT" 20, .int "LONGEST_NAME" 8, .int "MOST_FIELDS" 8, .int "MOST_PLACES" 60, .str "LETTERS" "abcdefghijklmnopqrstuvwxyz", .str "DIGITS" "0123456789", .exm "InvalidValue" "CheckError" true, .noat "InvalidValue" "value", .cls "Reader", .noat "Reader" "text"]
def fa3 : List He.Fa := [.noat "Reader" "spot", .noat "Reader" "many", .mkr "Reader", .meth "Reader" "takes", .meth "Reader" "until", .meth "Reader" "next_value", .meth "Reader" "list_items", .meth "Reader" "record_fields"]
def fa : List He.Fa := fa0 ++ fa1 ++ fa2 ++ fa3
def ex (K : PySem.W.Frag) : Bool := oexB K (He.ga K "InvalidValue") && (excB K (He.ga K "InvalidValue") && (He.eqO (PySem.W.findIn K (.ref (He.ga K "InvalidValue")) "__init__") (some (some (.ref (He.ma K (He.ga K "InvalidValue") "__init__")))) && (decide (PySem.W.typeIn K (.ref (He.ma K (He.ga K "InvalidValue") "__init__")) = some (.type "function")) && (decide (PySem.W.kitOne K (.ref (He.ga K "InvalidValue")) (.ref (He.ga K "InvalidValue")) = some true) && decide (PySem.W.kitOne K (.ref (He.ga K "InvalidValue")) (.ref (He.ga K "InvalidPlace")) = some false)))))
def loose0 : List Str := ["CheckError", "InvalidValue", "InvalidPlace", "LETTERS", "GREATEST", "LONGEST_TEXT", "LONGEST_NAME", "MOST_FIELDS", "MOST_PLACES", "is_integer", "is_letters", "is_field", "is_leaf", "is_part", "children", "is_value", "check_value", "DIGITS", "written", "shown_value"]
def loose1 : List Str := ["Reader", "read_value", "_law_hand", "_law_draw", "_law_word", "_law_leaf", "_law_value", "_law_below", "_law_part", "_law_top", "_law_twin", "_law_written", "_law_asked", "_law_end", "_law_number", "_law_letters", "_law_leaf_read", "_law_list_read", "_law_record_read", "_law_read"]
def loose2 : List Str := ["_law_due", "_law_bent"]
def loose : List Str := loose0 ++ loose1 ++ loose2
abbrev R : PySem.W.OpenRow := PySem.W.OpenLaw.row PySem.Challenge.rw_latechecks_k85_values_as_texts
abbrev hk : PySem.W.Hook := LW.hookM 5 fa fn ex
def ob (s : PySem.W.SharedT) : LW.AlM := LW.obsM 5 fa fn ex (HandSHeadRun.getT s)
theorem ob_eq (s : PySem.W.SharedT) : ob s = hk.obs s.abs := LW.obsM_eq (HandSHeadRun.getT_eq s)
set_option maxHeartbeats 0 in
theorem run (w : World) : HandSHeadRun.RunEq R (PySem.W.view R.prog [46]) hk ob 6000 loose w := by
  intro os
  kernel_rfl
end WT

namespace LW
open PySem PySem.Spec PyProof.Rows L2
open Evl (Ex)
/-! ### defs that run where no repr is under way -/
structure FnG (P : Program) (w : World) (K : PySem.W.Frag) (mg : Str → Option Value) (base : Heap) (CX : CXT) (k : Nat) (f : Addr) (fd : FuncData) (ps : List Str) (sp : Sp) : Prop where
  len : ∀ (vs : List V) (H : Hp) (Q : VK) (E : XK), sp vs H Q E → vs.length = ps.length
  go : ∀ (A : Around) (outer : List Env) (s : Shared) (H : Hp) (args : Args) (us : List Value) (vs : List V) (Q : VK) (E : XK), A.guards = some [] → Room k A → Env0 P w K mg base A outer s H → BindsTo s fd args (ps.zip us) →
    Vals vs us → sp vs H Q E → codeAny (model P w) A (.call (.ref f) args) (CR CX outer P w H s Q E) s
section
variable {P : Program} {w : World} {K : PySem.W.Frag} {mg : Str → Option Value} {base : Heap} {x qual : Str} {params : Arguments} {body : List Stmt} {scope : Scope} {dvs : List V} {kws : List (Str × V)} {f : Addr} {fd : FuncData}
theorem FnG.of {CX : CXT} {N ps : List Str} {k : Nat} {sp : Sp} (F : FunD K x qual params body scope dvs kws f fd) (S : FnScope N ps scope) (len : ∀ (vs : List V) (H : Hp) (Q : VK) (E : XK), sp vs H Q E → vs.length = ps.length)
    (hbody : ∀ (cdv : Value) (A : Around) (outer : List Env) (s : Shared) (H : Hp) (vs : List V) (Q : VK) (E : XK), A.guards = some [] → Room k (A.deeper (envOfC qual scope s.heap.objs.size f cdv)) → sp vs H Q E →
      ∃ t, PSs (cxOf CX P w K mg base N qual scope f cdv A outer s H E) body t ∧ t { nx := fun _ H' => Q .non H', rt := Q } (start N vs) H) : FnG P w K mg base CX (k + 1) f fd ps sp := by
  obtain ⟨oc, od, dV, kV, doc, pm, an, cdv, ct, osl, efd, lk, hcd, _, _⟩ := F.ex
  subst efd
  refine ⟨len, ?_⟩
  intro A outer s H args us vs Q E gd hr e0 hb rv hsp
  have kp : ∀ b o, base.get? b = some o → s.heap.get? b = some o := fun b o e => (e0.bs b o e).1
  have KX : K.In s.heap := e0.mod.kin.keeps kp
  have lim : s.heap.NoLimit := e0.mod.nolimit.keeps kp
  have hkind : ∀ y ∈ ps.zip us, scope.names.lookup y.1 = some .local ∨ (scope.names.lookup y.1 = some .cell ∧ ((cellsFrom (s.heap.objs.size + 1) scope.names []).lookup y.1).isSome = true) := by
    rintro ⟨n, v⟩ hy
    rcases S.par n (List.of_mem_zip hy).1 with q | q
    · left
      exact q
    · right
      exact ⟨q, PySem.W.cellsFrom_some _ _ _ (Or.inl q)⟩
  apply codeAny_call_function hr.depth (KX _ _ lk) rfl S.co S.gen rfl (PySem.W.codeRec_of KX hcd)
  apply hb
  refine wpAny_newFunctionEnv_cells S.kind hkind ?_
  rintro env rfl s1 x
  refine ⟨lim.keeps x.toInCall.keep, ?_⟩
  apply codeAny_func
  obtain ⟨t, ht, hq⟩ := hbody cdv A outer s H vs Q E gd (hr.deeper _) hsp
  have I : Inv (cxOf CX P w K mg base N qual scope f cdv A outer s H E) [] (start N vs) H s1 := inv_start S hr.hd e0 (len _ _ _ _ hsp) rv x
  apply wpAny_mono (ht.run [] s1 (start N vs) H _ I hq)
  · intro fl s' hs
    cases fl with
    | ret u =>
      obtain ⟨v, σ', H', J, r1, q⟩ := hs
      exact ⟨v, H', J.os, J.bare, J.base, J.hok, r1, q⟩
    | next =>
      obtain ⟨σ', H', J, q⟩ := hs
      exact ⟨V.non, H', J.os, J.bare, J.base, J.hok, rfl, q⟩
    | brk => exact hs.elim fun _ h => h.elim fun _ h => h.2.elim
    | cont => exact hs.elim fun _ h => h.elim fun _ h => h.2.elim
  · intro e s' hs
    exact hs
end
/-- a def as one that asks for no repr -/
theorem FnG.ofOk {P : Program} {w : World} {K : PySem.W.Frag} {mg : Str → Option Value} {base : Heap} {CX : CXT} {k : Nat} {f : Addr} {fd : FuncData} {ps : List Str} {sp : Sp} (F : FnOk P w K mg base CX k f fd ps sp) : FnG P w K mg base CX k f fd ps sp :=
  ⟨F.len, fun A outer s H args us vs Q E _ hr => F.run A outer s H args us vs Q E hr⟩
structure CalG (P : Program) (w : World) (K : PySem.W.Frag) (mg : Str → Option Value) (base : Heap) (CX : CXT) (k : Nat) (x : Str) (sp : Sp) : Prop where
  ex : ∃ (f : Addr) (fd : FuncData) (ps : List Str), FnG P w K mg base CX k f fd ps sp ∧ mg x = some (.ref f) ∧ PySem.W.keepIn K (.ref f) = true ∧ Binds K fd ps []
section
variable {X : Cx} {k j : Nat} {x : Str} {sp : Sp} {p pos : Pos} {e : Expr} {es : List Expr} {t : TA}
theorem pe_kG (c : CalG X.prog X.w X.K X.mg X.base CX0 k x sp) (gd : X.A.guards = some []) (hr : Room j X.A) (hk : k ≤ j) (hg : Gl X x) (ha : PA X (e :: es) t)
    (hdb : (x == ("__debug__" : Str)) = false := by decide) (he : starEach (e :: es) X.env = (false, eval e X.env) :: starEach es X.env := by rfl) (hpl : (backTo pos (starEach es X.env)).any (·.1) = false := by rfl) :
    PE X (.Call (.Name x p) (e :: es) [] pos) (tCall sp [] E0 t) := by
  obtain ⟨f, fd, ps, F, hm, kp, b⟩ := c.ex
  constructor
  intro pins s σ H Q I h
  apply wpAny_Call_Name_kw
  apply ld_glob I hg hm _ hdb
  refine PySem.W.callWith_K (h₀ := X.base) I.ok.mod.kin kp (thn (ha.run pos pins s σ H _ I h) ?_) he hpl
  rintro us s1 ⟨vs, H1, I1, r, q⟩
  refine ⟨I1.kIn, ?_⟩
  have q' : sp vs H1 Q E0 := by
    have := q
    rwa [List.append_nil] at this
  have hl : us.length = ps.length := by
    rw [← r.length]
    exact F.len _ _ _ _ q'
  have bb := b s1 us I1.kIn (by rw [List.append_nil]; exact hl)
  rw [List.append_nil] at bb
  refine wpAny_call (codeAny_mono (F.go X.A X.stack s1 H1 ⟨us, []⟩ us vs Q E0 gd (hr.mono hk) I1.env0 bb r q') ?_)
  intro fl s' hq
  cases fl with
  | error e => exact pass0 pins σ H1 s1 e s' I1 hq
  | ok fl =>
    cases fl with
    | ret u => exact I1.after hq
    | next => exact hq.elim
    | brk => exact hq.elim
    | cont => exact hq.elim
end
section
variable {P : Program} {w : World} {K : PySem.W.Frag} {mg : Str → Option Value} {base : Heap}
theorem calG {CX : CXT} {x : Str} {st : Stmt} {N ps : List Str} {k : Nat} {sp : Sp} (F : Df K mg x st) (S : FnScope N ps (defScope st)) (hb : BindsEq x st ps) (len : ∀ vs H Q E, sp vs H Q E → vs.length = ps.length)
    (hbody : ∀ (f : Addr) (cdv : Value) (A : Around) (outer : List Env) (s : Shared) (H : Hp) (vs : List V) (Q : VK) (E : XK), A.guards = some [] → Room k (A.deeper (envOfC x (defScope st) s.heap.objs.size f cdv)) → sp vs H Q E →
      ∃ t, PSs (cxOf CX P w K mg base N x (defScope st) f cdv A outer s H E) (defBody st) t ∧ t { nx := fun _ H' => Q .non H', rt := Q } (start N vs) H) : CalG P w K mg base CX (k + 1) x sp := by
  obtain ⟨f, fd, F, hm⟩ := F.ex
  exact ⟨f, fd, ps, FnG.of F S len (fun cdv A outer s H vs Q E gd hr h => hbody f cdv A outer s H vs Q E gd hr h), hm, F.kp, F.bindsN hb⟩
end
end LW

namespace LW
open PySem PySem.Spec PyProof.Rows L2
open Evl (Ex)
/-! ### the law's own call, with sys.modules in the base -/
theorem call_lawG {P : Program} {w : World} {K : PySem.W.Frag} {mg mb : Str → Option Value} {CX : CXT} {k : Nat} {fa a : Addr} {fd : FuncData} {x : Str} {sp : Sp} {s₁ : Shared} {vs : List Value} {ns : List Int}
    (KX : K.In s₁.heap) (hns : s₁.heap.Ns mainGlobals mg) (hb : s₁.heap.Ns builtinsNs mb) (hbb : ∀ x : Str, x ≠ "__name__" → mb x = bootBuiltins x) (hlim : s₁.heap.NoLimit) (hsy : ∃ mm, s₁.heap.Ns sysModules mm) (hg : s₁.gens = #[])
    (ha : s₁.heap.get? a = some { cls := .type "list", data := .seq vs.toArray }) (hi : IntsAre vs ns) (hl : ns.length ≤ sizeLine) (hr : Room k callerA)
    (F : ∀ base : Heap, K.In base → base.Ns mainGlobals mg → (∃ mm, base.Ns sysModules mm) → FnG P w K mg base CX k fa fd [x] sp) (hbind : ∀ (s : Shared) (u : Value), BindsTo s fd ⟨[u], []⟩ [(x, u)])
    (hsp : ∀ H : Hp, Only H → SqL K H a (ns.map V.int) → sp [.ref a] H (fun v _ => v = .bl true) fun _ _ _ => False)
    (hCX : ∀ H e s', CX [] H s₁ (fun _ _ _ => False) e s' → False) :
    codeAny (model P w) callerA (.call (.ref fa) ⟨[.ref a], []⟩) (fun r s' => r = .ok (.ret (.bool true)) ∧ OldK s₁.heap s'.heap ∧ s'.os = s₁.os ∧ AllBare s'.gens) s₁ := by
  have lenV := hi.length
  have core : ∀ H : Hp, Only H → SqL K H a (ns.map V.int) → HOk P w H s₁.heap → (∀ b, H b ≠ none → b = a) → (H a ≠ none → K.lookup a = none) →
      codeAny (model P w) callerA (.call (.ref fa) ⟨[.ref a], []⟩) (fun r s' => r = .ok (.ret (.bool true)) ∧ OldK s₁.heap s'.heap ∧ s'.os = s₁.os ∧ AllBare s'.gens) s₁ := by
    intro H hO hS hok hA hK
    have eqa : ∀ {b : Addr} {u : HO}, H b = some u → b = a := fun {b u} q => hA b (by rw [q]; exact nofun)
    have nsK : ∀ {b : Addr} {m : Str → Option Value}, s₁.heap.Ns b m → (hidT s₁.heap H).Ns b m := by
      rintro b m ⟨o, es, ep, e, d, r⟩
      refine ⟨o, es, ep, hidT_get e ?_, d, r⟩
      cases q : H b with
      | none => rfl
      | some u =>
        cases eqa q
        rw [ha] at e
        cases e
        exact nomatch d
    have hKb : K.In (hidT s₁.heap H) := by
      intro b o e
      refine hidT_get (KX b o e) ?_
      cases q : H b with
      | none => rfl
      | some u =>
        cases eqa q
        rw [hK (by rw [q]; exact nofun)] at e
        cases e
    have hM : Mod K mg (hidT s₁.heap H) := by
      refine ⟨hKb, nsK hns, ⟨mb, nsK hb, hbb⟩, ?_⟩
      obtain ⟨mc, h1, h2⟩ := hlim
      exact ⟨mc, nsK h1, h2⟩
    have hsy' : ∃ mm, (hidT s₁.heap H).Ns sysModules mm := by
      obtain ⟨mm, h1⟩ := hsy
      exact ⟨mm, nsK h1⟩
    have e0 : Env0 P w K mg (hidT s₁.heap H) callerA [] s₁ H := ⟨rfl, hM, fun b o e => of_hidT e, Nat.le_of_eq (hidT_size _ _), trivial, (fun b hb => nomatch (show b ∈ ([] : List Addr) from hb)), hok, .of_eq hg⟩
    refine codeAny_mono ((F _ hKb (nsK hns) hsy').go callerA [] s₁ H ⟨[.ref a], []⟩ [.ref a] [.ref a] _ _ rfl hr e0 (hbind s₁ (.ref a)) (.cons rfl .nil) (hsp H hO hS)) ?_
    intro r s' h
    match r, h with
    | .error e, h => exact (hCX H e s' h).elim
    | .ok .next, h => exact h.elim
    | .ok .brk, h => exact h.elim
    | .ok .cont, h => exact h.elim
    | .ok (.ret u), h =>
      obtain ⟨v, H', os, bare, un, hok', r', q⟩ := h
      cases (show v = .bl true from q)
      cases (show u = Value.bool true from r')
      refine ⟨rfl, OldK.of_keep ?_, os, bare⟩
      intro b o e
      cases q : H b with
      | none => exact un.keep b o e q (fun z => nomatch (show b ∈ ([] : List Addr) from z)) (fun z => nomatch z)
      | some u =>
        rcases hO b with z | ⟨ob, xs, z⟩
        · rw [q] at z
          cases z
        · obtain ⟨e1, _⟩ := hok b _ z
          obtain ⟨e2, _⟩ := hok' b _ (un.frzs b ob _ z)
          rw [e] at e1
          cases e1
          exact e2
  cases hk : K.lookup a with
  | some o =>
    have e := KX a o hk
    rw [ha] at e
    cases e
    refine core (fun _ => none) (fun _ => .inl rfl) (.inr ⟨_, vs.toArray, _, hk, rfl, rfl, rfl, ?_, ?_⟩) (fun b u z => nomatch (show (none : Option HO) = some u from z)) (fun b z => (z rfl).elim) fun z => (z rfl).elim
    · rw [List.size_toArray, lenV]
      exact hl
    · exact vals_ints hi
  | none =>
    refine core (upd (fun _ => none) a (.frz { cls := .type "list", data := .seq vs.toArray } (.lst (ns.map V.int)))) (fun b => ?_) (.inl (.inr ⟨{ cls := .type "list", data := .seq vs.toArray }, upd_same⟩)) (fun b u z => ?_) (fun b z => ?_) fun _ => hk
    · by_cases hb : b = a
      · subst hb
        exact .inr ⟨_, _, upd_same⟩
      · exact .inl (upd_ne hb)
    · by_cases hb : b = a
      · subst hb
        rw [upd_same] at z
        cases z
        exact ⟨ha, by rw [List.length_map]; exact hl, vs, _, vals_ints hi, ha⟩
      · rw [upd_ne hb] at z
        cases z
    · by_cases hb : b = a
      · exact hb
      · exact (z (upd_ne hb)).elim
theorem walkG {l : PySem.W.OpenLaw} {n k : Nat} {q : Program} {loose : List Str} {XP : (Str → Option Value) → Heap → Prop} {YP : World → Heap → Prop} {d : DefRec} {CX : CXT} {x : Str}
    (hn : l.most = some n) (hn2 : n ≤ sizeLine) (hdf : d.params.defaults = []) (hr : Room k callerA) (hi : importsNone q = true)
    (F : ∀ (w : World) (mg : Str → Option Value) (fa : Addr) (h : Heap), YP w h → h.Ns mainGlobals mg → mg d.name = some (.ref fa) →
      ∃ (K : PySem.W.Frag) (fd : FuncData) (sp : Sp), K.In h ∧ (∀ (s : Shared) (u : Value), BindsTo s fd ⟨[u], []⟩ [(x, u)]) ∧
        (∀ (H : Hp) (a : Addr) (ns : List Int), ns.length ≤ n → Only H → SqL K H a (ns.map V.int) → sp [.ref a] H (fun v _ => v = .bl true) fun _ _ _ => False) ∧
        ∀ base : Heap, K.In base → base.Ns mainGlobals mg → (∃ mm, base.Ns sysModules mm) → FnG l.prog w K mg base CX k fa fd [x] sp)
    (hCX : ∀ (H : Hp) (s : Shared) (e : Value) (s' : Shared), CX [] H s (fun _ _ _ => False) e s' → False) :
    PySem.W.WalkO q loose XP YP l.row.toRowW d [] (fun f vs => PySem.call f vs) := by
  apply Att.attach_call hn hdf
  intro w s₀ s₁ mg mb fa o pm cd doc a vs ns G Y ho hd hcd hmg hobj hints hlen hg
  obtain ⟨K, fd, sp, KX, hb, hsp, hF⟩ := F w mg fa _ Y G.T.g hmg
  obtain ⟨mm, hm, _⟩ := (G.T.seer hi).mods
  exact call_lawG KX G.T.g G.T.b G.T.builtins G.T.nolimit ⟨mm, hm⟩ hg hobj hints (Nat.le_trans hlen hn2) hr hF hb (fun H hO hS => hsp H a ns hlen hO hS) fun H e s' => hCX H s₁ e s'
end LW

namespace LW
open PySem PySem.Spec PyProof.Rows L2
open Evl (Ex)
/-! ### data in the tracked heap -/
def kD : Key → PyData
  | .inl i => .int i
  | .inr x => .str x
/-- a dict of one entry, whatever its key -/
def odd1 (a : Addr) (k v : V) : HO := .ext fun h => ∃ (o : Obj) (es : Array DictEntry) (ep : Nat) (e : DictEntry), (a == sysModules) = false ∧ h.get? a = some o ∧ o.ExactDict ∧ o.data = .dict es ep ∧ es.toList = [e] ∧ RelV k e.key ∧ RelV v e.val
mutual
def Dt (H : Hp) : PyData → V → Prop
  | .none, v => v = .non
  | .bool b, v => v = .bl b
  | .int i, v => v = .int i
  | .str x, v => v = .str x
  | .list ds, v => ∃ a vs, v = .ref a ∧ L2.Rd H a (.lst vs) ∧ DtL H ds vs
  | .tuple ds, v => ∃ a vs, v = .ref a ∧ L2.Rd H a (.tup vs) ∧ DtL H ds vs
  | .dict kvs, v => ∃ a, v = .ref a ∧ ((∃ es : List (Key × V), L2.Rd H a (.dK es) ∧ (es.map (·.1)).Nodup ∧ DtK H kvs es) ∨ ∃ k u, L2.Rd H a (odd1 a k u) ∧ DtO H kvs k u)
def DtL (H : Hp) : List PyData → List V → Prop
  | [], vs => vs = []
  | d :: r, vs => ∃ v t, vs = v :: t ∧ Dt H d v ∧ DtL H r t
def DtK (H : Hp) : List (PyData × PyData) → List (Key × V) → Prop
  | [], es => es = []
  | (k, d) :: r, es => ∃ x v t, es = (x, v) :: t ∧ k = kD x ∧ Dt H d v ∧ DtK H r t
def DtO (H : Hp) : List (PyData × PyData) → V → V → Prop
  | [], _, _ => False
  | (k, d) :: r, x, v => r = [] ∧ (∀ z, k ≠ .str z) ∧ Dt H k x ∧ Dt H d v
end
theorem rd_ex {H H' : Hp} (e : Ex H H') {a : Addr} {u : HO} (h : L2.Rd H a u) : L2.Rd H' a u := by
  rcases h with h | ⟨o, h⟩
  · exact .inl (e _ _ h)
  · exact .inr ⟨o, e _ _ h⟩
theorem rd_some {H : Hp} {a : Addr} {u : HO} (h : L2.Rd H a u) : ∃ o, H a = some o := by
  rcases h with h | ⟨o, h⟩
  · exact ⟨_, h⟩
  · exact ⟨_, h⟩
/-- what is readable in the one heap is so in the other -/
def NF (u : HO) : Prop := ∀ o' u', u ≠ .frz o' u'
def RdX (H H' : Hp) : Prop := ∀ a u, NF u → L2.Rd H a u → L2.Rd H' a u
theorem nf_lst {vs : List V} : NF (.lst vs) := fun _ _ h => by cases h
theorem nf_tup {vs : List V} : NF (.tup vs) := fun _ _ h => by cases h
theorem nf_dK {vs : List (Key × V)} : NF (.dK vs) := fun _ _ h => by cases h
theorem nf_odd {a : Addr} {k v : V} : NF (odd1 a k v) := fun _ _ h => by
  unfold odd1 at h
  cases h
theorem rdx_ex {H H' : Hp} (e : Ex H H') : RdX H H' := fun _ _ _ h => rd_ex e h
theorem RdX.trans {H H1 H2 : Hp} (a : RdX H H1) (b : RdX H1 H2) : RdX H H2 := fun c u n h => b c u n (a c u n h)
theorem rdx_lock {H : Hp} {a : Addr} {o : Obj} {u : HO} (h : H a = some u) (hu : NF u) : RdX H (upd H a (.frz o u)) := fun b x nx q => by
  by_cases e : b = a
  · subst e
    rcases q with q | ⟨o', q⟩
    · rw [h] at q
      cases q
      exact .inr ⟨o, upd_same⟩
    · rw [h] at q
      cases q
      exact (hu _ _ rfl).elim
  · rcases q with q | ⟨o', q⟩
    · exact .inl (by rw [upd_ne e]; exact q)
    · exact .inr ⟨o', by rw [upd_ne e]; exact q⟩
theorem rdx_free {H : Hp} {a : Addr} {o : Obj} {u : HO} (h : H a = some (.frz o u)) : RdX H (upd H a u) := fun b x nx q => by
  by_cases e : b = a
  · subst e
    rcases q with q | ⟨o', q⟩
    · rw [h] at q
      cases q
      exact (nx _ _ rfl).elim
    · rw [h] at q
      cases q
      exact .inl upd_same
  · rcases q with q | ⟨o', q⟩
    · exact .inl (by rw [upd_ne e]; exact q)
    · exact .inr ⟨o', by rw [upd_ne e]; exact q⟩
theorem rdx_upd {H : Hp} {a : Addr} {o : HO} (h : H a = none) : RdX H (upd H a o) := rdx_ex (Ex.new h)
mutual
theorem Dt.rdx {H H' : Hp} (e : RdX H H') : ∀ {d : PyData} {v : V}, Dt H d v → Dt H' d v
  | .none, _, h => h
  | .bool _, _, h => h
  | .int _, _, h => h
  | .str _, _, h => h
  | .list ds, _, h => by
    unfold Dt at h ⊢
    obtain ⟨a, vs, rfl, ha, hl⟩ := h
    exact ⟨a, vs, rfl, e _ _ nf_lst ha, DtL.rdx e hl⟩
  | .tuple ds, _, h => by
    unfold Dt at h ⊢
    obtain ⟨a, vs, rfl, ha, hl⟩ := h
    exact ⟨a, vs, rfl, e _ _ nf_tup ha, DtL.rdx e hl⟩
  | .dict kvs, _, h => by
    unfold Dt at h ⊢
    obtain ⟨a, rfl, ⟨es, ha, nd, hl⟩ | ⟨k, u, ha, hl⟩⟩ := h
    · exact ⟨a, rfl, .inl ⟨es, e _ _ nf_dK ha, nd, DtK.rdx e hl⟩⟩
    · exact ⟨a, rfl, .inr ⟨k, u, e _ _ nf_odd ha, DtO.rdx e hl⟩⟩
theorem DtL.rdx {H H' : Hp} (e : RdX H H') : ∀ {ds : List PyData} {vs : List V}, DtL H ds vs → DtL H' ds vs
  | [], _, h => h
  | d :: r, _, h => by
    unfold DtL at h ⊢
    obtain ⟨v, t, rfl, h1, h2⟩ := h
    exact ⟨v, t, rfl, Dt.rdx e h1, DtL.rdx e h2⟩
theorem DtK.rdx {H H' : Hp} (e : RdX H H') : ∀ {ds : List (PyData × PyData)} {es : List (Key × V)}, DtK H ds es → DtK H' ds es
  | [], _, h => h
  | (k, d) :: r, _, h => by
    unfold DtK at h ⊢
    obtain ⟨x, v, t, rfl, hk, h1, h2⟩ := h
    exact ⟨x, v, t, rfl, hk, Dt.rdx e h1, DtK.rdx e h2⟩
theorem DtO.rdx {H H' : Hp} (e : RdX H H') : ∀ {ds : List (PyData × PyData)} {k v : V}, DtO H ds k v → DtO H' ds k v
  | [], _, _, h => h
  | (k, d) :: r, _, _, h => by
    unfold DtO at h ⊢
    obtain ⟨hr, hz, h1, h2⟩ := h
    exact ⟨hr, hz, Dt.rdx e h1, Dt.rdx e h2⟩
end
theorem Dt.ex {H H' : Hp} (e : Ex H H') {d : PyData} {v : V} (h : Dt H d v) : Dt H' d v := h.rdx (rdx_ex e)
theorem DtL.ex {H H' : Hp} (e : Ex H H') {d : List PyData} {v : List V} (h : DtL H d v) : DtL H' d v := h.rdx (rdx_ex e)
theorem DtK.ex {H H' : Hp} (e : Ex H H') {d : List (PyData × PyData)} {v : List (Key × V)} (h : DtK H d v) : DtK H' d v := h.rdx (rdx_ex e)
/-! ### lists of data -/
theorem DtL.len {H : Hp} : ∀ {ds : List PyData} {vs : List V}, DtL H ds vs → vs.length = ds.length
  | [], _, h => by unfold DtL at h; rw [h] <;> rfl
  | d :: r, _, h => by
    unfold DtL at h
    obtain ⟨v, t, rfl, _, h2⟩ := h
    rw [List.length_cons, List.length_cons, DtL.len h2]
theorem DtL.get {H : Hp} : ∀ {ds : List PyData} {vs : List V} {i : Nat} {v : V}, DtL H ds vs → vs[i]? = some v → ∃ d, ds[i]? = some d ∧ Dt H d v
  | [], _, i, v, h, e => by unfold DtL at h; rw [h] at e; simp at e
  | d :: r, _, 0, v, h, e => by
    unfold DtL at h
    obtain ⟨v, t, rfl, h1, h2⟩ := h
    simp only [List.getElem?_cons_zero, Option.some.injEq] at e
    subst e
    exact ⟨d, rfl, h1⟩
  | d :: r, _, i + 1, v, h, e => by
    unfold DtL at h
    obtain ⟨v, t, rfl, h1, h2⟩ := h
    rw [List.getElem?_cons_succ] at e ⊢
    exact DtL.get h2 e
theorem DtL.nil {H : Hp} : DtL H [] [] := by unfold DtL; rfl
theorem DtL.cons {H : Hp} {d : PyData} {v : V} {ds : List PyData} {vs : List V} (h : Dt H d v) (t : DtL H ds vs) : DtL H (d :: ds) (v :: vs) := by
  unfold DtL
  exact ⟨v, vs, rfl, h, t⟩
theorem DtL.app {H : Hp} : ∀ {ds es : List PyData} {vs us : List V}, DtL H ds vs → DtL H es us → DtL H (ds ++ es) (vs ++ us)
  | [], _, _, _, h, t => by unfold DtL at h; rw [h]; exact t
  | d :: r, _, _, _, h, t => by
    unfold DtL at h
    obtain ⟨v, q, rfl, h1, h2⟩ := h
    exact DtL.cons h1 (DtL.app h2 t)
/-! ### what the true heap reads -/
theorem keyIs_reads {h : Heap} {k : Key} {v : Value} (e : keyIs k v = true) : Reads h v (kD k) [] := by
  rcases keyIs_shape e with ⟨i, t, rfl, rfl⟩ | ⟨x, t, rfl, rfl⟩
  · exact .int i t
  · exact .str x t
mutual
theorem Dt.reads {P : Program} {w : World} {H : Hp} {h : Heap} (ok : HOk P w H h) (ns : ∀ a o, H a = some o → a ≠ sysModules) : ∀ {d : PyData} {v : V} {u : Value}, Dt H d v → RelV v u → ∃ as, Reads h u d as ∧ sysModules ∉ as
  | .none, v, u, q, r => by
    unfold Dt at q
    subst q
    cases (show u = Value.none from r)
    exact ⟨_, .none, nofun⟩
  | .bool b, v, u, q, r => by
    unfold Dt at q
    subst q
    cases (show u = Value.bool b from r)
    exact ⟨_, .bool b, nofun⟩
  | .int i, v, u, q, r => by
    unfold Dt at q
    subst q
    obtain ⟨t, rfl⟩ := r
    exact ⟨_, .int i t, nofun⟩
  | .str x, v, u, q, r => by
    unfold Dt at q
    subst q
    obtain ⟨t, rfl⟩ := r
    exact ⟨_, .str x t, nofun⟩
  | .list ds, v, u, q, r => by
    unfold Dt at q
    obtain ⟨a, vs, rfl, ha, hl⟩ := q
    cases (show u = Value.ref a from r)
    obtain ⟨_, its, n, rv, e⟩ := ha.ok ok
    obtain ⟨as, hr, hn⟩ := DtL.reads ok ns hl rv
    refine ⟨a :: as, .list e rfl rfl (by simpa using hr), fun z => ?_⟩
    rcases List.mem_cons.mp z with z | z
    · exact (rd_some ha).elim fun _ q => ns a _ q z.symm
    · exact hn z
  | .tuple ds, v, u, q, r => by
    unfold Dt at q
    obtain ⟨a, vs, rfl, ha, hl⟩ := q
    cases (show u = Value.ref a from r)
    obtain ⟨_, its, rv, o, e, hc, n, hd⟩ := ha.ok ok
    obtain ⟨as, hr, hn⟩ := DtL.reads ok ns hl rv
    exact ⟨as, .tuple e hc hd (by simpa using hr), hn⟩
  | .dict kvs, v, u, q, r => by
    unfold Dt at q
    obtain ⟨a, rfl, ⟨es, ha, nd, hl⟩ | ⟨k, x, ha, hl⟩⟩ := q
    · cases (show u = Value.ref a from r)
      obtain ⟨_, hs, vs, rk, o, rs, ep, e, hx, hd, _, pr, _⟩ := ha.ok ok
      obtain ⟨bs, hr, h2, hn⟩ := DtK.reads ok ns hl rk pr
      refine ⟨a :: [] ++ bs, .dict e hx.1 hd hr h2, fun z => ?_⟩
      rcases List.mem_cons.mp z with z | z
      · exact (rd_some ha).elim fun _ q => ns a _ q z.symm
      · exact hn z
    · cases (show u = Value.ref a from r)
      obtain ⟨⟨o, rs, ep, e, hs, e1, hx, hd, e2, rk, rv⟩, _, _⟩ := (show ObjOk P w H h a (.ext fun h => ∃ (o : Obj) (es : Array DictEntry) (ep : Nat) (e : DictEntry), (a == sysModules) = false ∧ h.get? a = some o ∧ o.ExactDict ∧ o.data = .dict es ep ∧ es.toList = [e] ∧ RelV k e.key ∧ RelV x e.val) from ha.ok ok)
      obtain ⟨as, bs, h1, h2, n1, n2⟩ := DtO.reads ok ns hl rk rv
      refine ⟨a :: as ++ bs, .dict e1 hx.1 hd (by rw [e2]; exact h1) (by rw [e2]; exact h2), fun z => ?_⟩
      rcases List.mem_cons.mp z with z | z
      · exact (rd_some ha).elim fun _ q => ns a _ q z.symm
      · rcases List.mem_append.mp z with z | z
        · exact n1 z
        · exact n2 z
theorem DtL.reads {P : Program} {w : World} {H : Hp} {h : Heap} (ok : HOk P w H h) (ns : ∀ a o, H a = some o → a ≠ sysModules) : ∀ {ds : List PyData} {vs : List V} {us : List Value}, DtL H ds vs → Vals vs us → ∃ as, ReadsAll h us ds as ∧ sysModules ∉ as
  | [], _, _, q, r => by
    unfold DtL at q
    subst q
    cases r
    exact ⟨_, .nil, nofun⟩
  | d :: ds, _, _, q, r => by
    unfold DtL at q
    obtain ⟨v, t, rfl, h1, h2⟩ := q
    cases r with
    | cons r1 r2 =>
      obtain ⟨as, a1, n1⟩ := Dt.reads ok ns h1 r1
      obtain ⟨bs, a2, n2⟩ := DtL.reads ok ns h2 r2
      exact ⟨_, .cons a1 a2, fun z => (List.mem_append.mp z).elim n1 n2⟩
theorem DtK.reads {P : Program} {w : World} {H : Hp} {h : Heap} (ok : HOk P w H h) (ns : ∀ a o, H a = some o → a ≠ sysModules) : ∀ {ds : List (PyData × PyData)} {es : List (Key × V)} {vs : List (Key × Value)} {rs : List DictEntry}, DtK H ds es → KV es vs → Pairs (mixKind P w) rs vs →
    ∃ bs, ReadsAll h (rs.map (·.key)) (ds.map (·.1)) [] ∧ ReadsAll h (rs.map (·.val)) (ds.map (·.2)) bs ∧ sysModules ∉ bs
  | [], _, _, rs, q, r, pr => by
    unfold DtK at q
    subst q
    cases r
    cases pr
    exact ⟨_, .nil, .nil, nofun⟩
  | (k, d) :: ds, _, _, rs, q, r, pr => by
    unfold DtK at q
    obtain ⟨x, v, t, rfl, rfl, h1, h2⟩ := q
    cases r with
    | cons r1 r2 =>
      rename_i y ys
      cases pr with
      | @cons e _ rs _ p1 p2 p3 =>
        obtain ⟨y1, y2⟩ := y
        obtain ⟨rk, rv⟩ := r1
        cases (show x = y1 from rk)
        obtain ⟨as, a1, n1⟩ := Dt.reads ok ns h1 (show RelV v e.val by rw [p2]; exact rv)
        obtain ⟨bs, b1, b2, n2⟩ := DtK.reads ok ns h2 r2 p3
        exact ⟨_, .cons (as := []) (bs := []) (keyIs_reads p1) b1, .cons a1 b2, fun z => (List.mem_append.mp z).elim n1 n2⟩
theorem DtO.reads {P : Program} {w : World} {H : Hp} {h : Heap} (ok : HOk P w H h) (ns : ∀ a o, H a = some o → a ≠ sysModules) : ∀ {ds : List (PyData × PyData)} {k v : V} {ku vu : Value}, DtO H ds k v → RelV k ku → RelV v vu →
    ∃ as bs, ReadsAll h [ku] (ds.map (·.1)) as ∧ ReadsAll h [vu] (ds.map (·.2)) bs ∧ sysModules ∉ as ∧ sysModules ∉ bs
  | [], _, _, _, _, q, _, _ => by
    unfold DtO at q
    exact q.elim
  | (k, d) :: ds, _, _, _, _, q, r1, r2 => by
    unfold DtO at q
    obtain ⟨rfl, _, h1, h2⟩ := q
    obtain ⟨as, a1, n1⟩ := Dt.reads ok ns h1 r1
    obtain ⟨bs, a2, n2⟩ := Dt.reads ok ns h2 r2
    refine ⟨_, _, .cons a1 .nil, .cons a2 .nil, ?_, ?_⟩
    · rw [List.append_nil]
      exact n1
    · rw [List.append_nil]
      exact n2
end
end LW

namespace LW
open PySem PySem.Spec PyProof.Rows L2
open Evl (Ex)
/-! ### repr of data -/
structure Calm (X : Cx) : Prop where
  gd : X.A.guards = some []
  sy : ∃ mm, X.base.Ns sysModules mm
  un : X.A.units + 180 < cLine
theorem Calm.of {X : Cx} {k : Nat} (gd : X.A.guards = some []) (sy : ∃ mm, X.base.Ns sysModules mm) (hr : Room k X.A) : Calm X := ⟨gd, sy, by have := hr.un; omega⟩
theorem inv_sys {X : Cx} {pins : List (Addr × Obj)} {σ : L2.St} {H : Hp} {s : Shared} (sy : ∃ mm, X.base.Ns sysModules mm) (I : Inv X pins σ H s) : ∀ a o, H a = some o → a ≠ sysModules := by
  intro a o h e
  subst e
  obtain ⟨mm, ob, es, ep, e, _⟩ := sy
  have q := (I.bs _ _ e).2
  rw [q] at h
  cases h
def rRep : List V → Hp → VK → Prop := fun xs H Q => ∃ v d, xs = [v] ∧ Dt H d v ∧ d.showable = true ∧ d.shown.length ≤ sizeLine ∧ d.depth ≤ 150 ∧ Q (.str d.shown) H
theorem call_repr {X : Cx} (c : Calm X) : CallR X (.builtin "repr") rRep := by
  intro pins s σ H xs us Q I r h
  obtain ⟨v, d, rfl, hd, hs, hz, hdp, q⟩ := h
  obtain ⟨u, rfl, ru⟩ := vals1 r
  have un := c.un
  obtain ⟨as, hr, hn⟩ := Dt.reads I.hok (inv_sys c.sy I) hd ru
  cases hr with
  | none =>
    simp only [PyData.shown] at q
    exact PySem.P.repr_of_none ⟨.str _, H, I.tok _, ⟨_, rfl⟩, q⟩
  | bool b =>
    simp only [PyData.shown] at q
    exact PySem.P.repr_of_bool ⟨.str _, H, I.tok _, ⟨_, rfl⟩, q⟩
  | int i t =>
    simp only [PyData.shown] at q
    exact PySem.P.repr_of_int (by simpa [PyData.showable] using hs) ⟨.str _, H, I.tok _, ⟨_, rfl⟩, q⟩
  | str x t =>
    simp only [PyData.shown] at q hz
    exact PySem.P.repr_of_str ⟨.str _, H, I.tok _, ⟨_, rfl⟩, q⟩ hz
  | list h1 h2 h3 h4 => exact repr_of_reads' (.list h1 h2 h3 h4) hs (fun _ => hn) c.gd (by omega) (fun _ _ e => e) (fun h' u tk k => ⟨.str _, H, I.kept (t' := tk) k, ⟨_, rfl⟩, q⟩) hz
  | tuple h1 h2 h3 h4 => exact repr_of_reads' (.tuple h1 h2 h3 h4) hs (fun _ => hn) c.gd (by omega) (fun _ _ e => e) (fun h' u tk k => ⟨.str _, H, I.kept (t' := tk) k, ⟨_, rfl⟩, q⟩) hz
  | dict h1 h2 h3 h4 h5 => exact repr_of_reads' (.dict h1 h2 h3 h4 h5) hs (fun _ => hn) c.gd (by omega) (fun _ _ e => e) (fun h' u tk k => ⟨.str _, H, I.kept (t' := tk) k, ⟨_, rfl⟩, q⟩) hz
end LW

namespace LW
open PySem PySem.Spec PyProof.Rows L2
open Evl (Ex)
/-! ### isinstance of data -/
def tyD : PyData → String
  | .none => "NoneType"
  | .bool _ => "bool"
  | .int _ => "int"
  | .str _ => "str"
  | .list _ => "list"
  | .tuple _ => "tuple"
  | .dict _ => "dict"
theorem rd_odd {P : Program} {w : World} {H : Hp} {h : Heap} {a : Addr} {k v : V} (ok : HOk P w H h) (r : L2.Rd H a (odd1 a k v)) :
    ∃ (o : Obj) (es : Array DictEntry) (ep : Nat) (e : DictEntry), (a == sysModules) = false ∧ h.get? a = some o ∧ o.ExactDict ∧ o.data = .dict es ep ∧ es.toList = [e] ∧ RelV k e.key ∧ RelV v e.val := (show ObjOk P w H h a (.ext fun h => ∃ (o : Obj) (es : Array DictEntry) (ep : Nat) (e : DictEntry), (a == sysModules) = false ∧ h.get? a = some o ∧ o.ExactDict ∧ o.data = .dict es ep ∧ es.toList = [e] ∧ RelV k e.key ∧ RelV v e.val) from r.ok ok).1
def rIsD (K : PySem.W.Frag) : List V → Hp → VK → Prop := fun xs H Q => ∃ (v : V) (d : PyData) (n : String) (b : Bool), xs = [v, .ty n] ∧ Dt H d v ∧ PySem.W.kitOne K (.type (tyD d)) (.type n) = some b ∧ Q (.bl b) H
theorem isD {X : Cx} (K : PySem.W.Frag) (hK : X.K = K := by rfl) : CallR X (.builtin "isinstance") (rIsD K) := by
  subst hK
  intro pins s σ H xs us Q I r h
  obtain ⟨v, d, n, b, rfl, hd, e, q⟩ := h
  have main : ∀ t, TyX X.K H v (.type t) → tyD d = t → wpAny (model X.prog X.w) X.A (call (.builtin "isinstance") us) (EP X pins σ Q) X.xe s := by
    intro t ht et
    refine call_isi pins s σ H _ us Q I r ⟨v, .ty n, .type t, .type n, b, rfl, .ty n, ht, ?_, q⟩
    rw [← et]
    exact e
  cases d with
  | none => unfold Dt at hd; subst hd; exact main _ (.base .non) rfl
  | bool y => unfold Dt at hd; subst hd; exact main _ (.base (.bl y)) rfl
  | int y => unfold Dt at hd; subst hd; exact main _ (.base (.int y)) rfl
  | str y => unfold Dt at hd; subst hd; exact main _ (.base (.str y)) rfl
  | list ds =>
    unfold Dt at hd
    obtain ⟨a, vs, rfl, ha | ⟨o, ha⟩, _⟩ := hd
    · exact main _ (.base (.lst ha)) rfl
    · exact main _ (.base (.frz ha)) rfl
  | tuple ds =>
    unfold Dt at hd
    obtain ⟨a, vs, rfl, ha | ⟨o, ha⟩, _⟩ := hd
    · exact main _ (.base (.tup ha)) rfl
    · exact main _ (.fTuple ha) rfl
  | dict kvs =>
    unfold Dt at hd
    obtain ⟨a, rfl, ⟨es, ha | ⟨o, ha⟩, _⟩ | ⟨k, u, ha, _⟩⟩ := hd
    · exact main _ (.base (.dK ha)) rfl
    · exact main _ (.fDict ha) rfl
    · obtain ⟨u1, u2, rfl, r1, r2⟩ := vals2 r
      cases (show u1 = Value.ref a from r1)
      cases (show u2 = Value.type n from r2)
      obtain ⟨o, es, ep, en, hs, e1, hx, _⟩ := rd_odd I.hok ha
      exact PySem.W.kia_one PySem.W.kitx_dict I.kIn (show ∃ o, _ from ⟨o, e1, hx.1⟩) e (fun z => nomatch z) fun tk => ⟨.bl b, H, I.tok tk, rfl, q⟩
/-! ### len of a dict -/
section
variable {prog : Program} {w : World} {A : Around} {E : Value → Shared → Prop} {s : Shared}
theorem len_raw {d : Addr} {o : Obj} {es : Array DictEntry} {ep : Nat} {Q : Value → Shared → Prop} (hd : (d == sysModules) = false) (ho : s.heap.get? d = some o) (hc : o.ExactDict) (hdat : o.data = .dict es ep) (hfit : (es.size : Int) < 2 ^ 63)
    (h : Q (.int es.size (s.toks + 1)) { s with toks := s.toks + 1 + 1 }) : wpAny (model prog w) A (call (.builtin "len") [.ref d]) Q E s := by
  have hT : s.TypeIs (.ref d) "dict" := ⟨o, ho, hc.1⟩
  have mt : MeetsIn prog w (Builtin.«dict.__len__» ⟨[.ref d], []⟩) (fun _ R s => s.heap.get? d = some o ∧ R (.ok (.ret (.int es.size s.toks))) { s with toks := s.toks + 1 }) :=
    .of_wp fun A R s q => by
      obtain ⟨ho, q⟩ := q
      show wpAny _ _ (dictSize d >>= _) _ _ s
      unfold dictSize
      apply wpAny_bind
      apply wpAny_bind
      apply wpAny_dictEntries ho hdat
      apply wpAny_pure
      show wpAny _ _ (Builtin.Dict.pendingCount d >>= _) _ _ s
      apply wpAny_bind
      apply wpAny_pendingCount_other hd
      apply wpAny_ret_mkInt
      exact q
  apply Calls.call_function_entry kind_len plain_len entry_len (args_len1 _)
  unfold Builtin.«len»
  refine wpAny_bind (m := oneArg "len" _) (wpAny_pure ?_)
  refine wpAny_bind (m := callSpecial? (.ref d) (Str.ofString "__len__")) (wpAny_callSpecial?_slot (name := Str.ofString "__len__") hT PySem.F.slot_dict_len (call_meetsIn PySem.F.slot_dict_len hT PySem.F.entry_dict_len (PySem.F.args_dict_len_1 _) mt ⟨ho, ?_⟩))
  show wpAny _ _ _ _ _ { s with toks := s.toks + 1 }
  apply wpAny_bind
  apply wpAny_holding
  apply wpAny_pure
  apply wpAny_bind
  apply wpAny_letGo
  show wpAny _ _ (if ((es.size : Nat) : Int) < 0 then _ else _) _ _ _
  rw [if_neg (by omega)]
  show wpAny _ _ (if ((es.size : Nat) : Int) ≥ 2 ^ 63 then _ else _) _ _ _
  rw [if_neg (by omega)]
  apply wpAny_bind
  apply wpAny_mkInt
  exact wpAny_pure ⟨_, rfl, h⟩
end
def rLnD : List V → Hp → VK → Prop := fun xs H Q => ∃ a, xs = [.ref a] ∧ ((∃ kvs, L2.Rd H a (.dK kvs) ∧ Q (.int kvs.length) H) ∨ ∃ k v, L2.Rd H a (odd1 a k v) ∧ Q (.int 1) H)
theorem lnD {X : Cx} : CallR X (.builtin "len") rLnD := by
  intro pins s σ H xs us Q I r h
  obtain ⟨a, rfl, ⟨kvs, ha, q⟩ | ⟨k, v, ha, q⟩⟩ := h
  · obtain ⟨u, rfl, ru⟩ := vals1 r
    cases (show u = Value.ref a from ru)
    exact d_len I ha fun t s' I' => ⟨.int kvs.length, H, I', ⟨_, rfl⟩, q⟩
  · obtain ⟨u, rfl, ru⟩ := vals1 r
    cases (show u = Value.ref a from ru)
    obtain ⟨o, es, ep, en, hs, e1, hx, hd, hl, _⟩ := rd_odd I.hok ha
    have hz : es.size = 1 := by
      rw [← Array.length_toList, hl]
      rfl
    refine len_raw hs e1 hx hd (by rw [hz]; decide) ?_
    rw [hz]
    exact ⟨.int 1, H, I.tok _, ⟨_, rfl⟩, q⟩
end LW

namespace LW
open PySem PySem.Spec PyProof.Rows L2
open Evl (Ex)
/-! ### for x in a dict, whatever its keys -/
def KeysAre (d : Addr) (u : HO) (ks : List V) : Prop := (∃ kvs : List (Key × V), u = .dK kvs ∧ ks = kvs.map fun p => kV p.1) ∨ ∃ k v, u = odd1 d k v ∧ ks = [k]
theorem pairs_at {P : Program} {w : World} : ∀ {rs : List DictEntry} {vs : List (Key × Value)} {kvs : List (Key × V)}, Pairs (mixKind P w) rs vs → KV kvs vs → rs.length = kvs.length ∧ ∀ (i : Nat) (x : V), (kvs.map fun p => kV p.1)[i]? = some x → ∃ en, rs[i]? = some en ∧ RelV x en.key := by
  intro rs vs kvs pr
  induction pr generalizing kvs with
  | nil =>
    intro r
    cases r
    exact ⟨rfl, fun i x e => by simp at e⟩
  | @cons en kv es vs h1 h2 h3 ih =>
    intro r
    cases r with
    | @cons p _ ps _ r1 r2 =>
      obtain ⟨l, g⟩ := ih r2
      refine ⟨by rw [List.length_cons, List.length_cons, l], ?_⟩
      intro i x e
      cases i with
      | zero =>
        rw [List.map_cons, List.getElem?_cons_zero] at e
        cases e
        refine ⟨en, rfl, relV_key ?_⟩
        rw [r1.1]
        exact h1
      | succ j =>
        rw [List.map_cons, List.getElem?_cons_succ] at e
        exact g j x e
section
variable {X : Cx} {pins : List (Addr × Obj)} {σ : L2.St} {H : Hp} {s : Shared} {d : Addr} {o : Obj}
theorem frz_keys {u : HO} {ks : List V} (I : Inv X pins σ H s) (h : H d = some (.frz o u)) (k : KeysAre d u ks) :
    (d == sysModules) = false ∧ s.heap.get? d = some o ∧ o.ExactDict ∧ ∃ (es : Array DictEntry) (ep : Nat), o.data = .dict es ep ∧ es.size = ks.length ∧ ∀ (i : Nat) (x : V), ks[i]? = some x → ∃ en, es[i]? = some en ∧ RelV x en.key := by
  rcases k with ⟨kvs, rfl, rfl⟩ | ⟨k, v, rfl, rfl⟩
  · obtain ⟨hd, _, hs, vs, kv, o', es, ep, ho, hx, hdt, _, pr, _⟩ := I.hok d _ h
    rw [hd] at ho
    cases ho
    obtain ⟨l, g⟩ := pairs_at pr kv
    refine ⟨hs, hd, hx, es, ep, hdt, ?_, fun i x e => ?_⟩
    · rw [← Array.length_toList, l, List.length_map]
    · obtain ⟨en, e1, e2⟩ := g i x e
      exact ⟨en, by rw [← Array.getElem?_toList]; exact e1, e2⟩
  · obtain ⟨hd, _⟩ := I.hok d _ h
    obtain ⟨o', es, ep, en, hs, e1, hx, hdt, hl, rk, _⟩ := rd_odd I.hok (.inr ⟨o, h⟩)
    rw [hd] at e1
    cases e1
    refine ⟨hs, hd, hx, es, ep, hdt, ?_, fun i x e => ?_⟩
    · rw [← Array.length_toList, hl]
      rfl
    · cases i with
      | zero =>
        cases e
        exact ⟨en, by rw [← Array.getElem?_toList, hl] <;> rfl, rk⟩
      | succ j => cases e
end
def Itka (d : Addr) (o : Obj) (u : HO) (ks : List V) : It :=
  ⟨fun i H => H d = some (.frz o u) ∧ i < ks.length, fun i H x H' => H' = H ∧ ks[i]? = some x, fun i H => H d = some (.frz o u) ∧ ks.length ≤ i⟩
theorem turn_ka {P : Program} {w : World} {K : PySem.W.Frag} {tg : Expr} {d : Addr} {o : Obj} {es : Array DictEntry} {ep : Nat} {u : HO} {ks : List V} (it : Addr) (hod : o.data = .dict es ep) (hk : KeysAre d u ks) :
    Turn P w K tg (Itka d o u ks) [it] it (fun i h => h.IsKeyIter it d i ks.length ep) where
  mem := List.mem_cons_self
  obj := by
    intro i h st b hb
    cases List.mem_singleton.mp hb
    obtain ⟨oi, e, c, dd⟩ := st
    refine ⟨oi, e, fun v z => ?_⟩
    rw [dd] at z
    cases z
  keep := by
    intro i h h' st k
    exact st.at fun oi e => k it List.mem_cons_self oi e
  item := by
    intro X hP hw hK hc i pins s σ H E I hf st hg
    subst hP hw hK
    obtain ⟨f0, f1, f2, f3, f4, f5⟩ := hf it List.mem_cons_self
    obtain ⟨hs, hgd, hx, es', ep', hdt, hsz, ent⟩ := frz_keys I hg.1 hk
    obtain ⟨rfl, rfl⟩ := dict_ep hod hdt
    obtain ⟨en, hen, rx⟩ := ent i _ (List.getElem?_eq_getElem hg.2)
    refine next_key_item st hgd hdt hsz hen ?_
    intro h' st' sb
    have I1 : Inv X pins σ H { s with heap := h' } := I.turned (t' := s.toks) (fun b ob hb e => (sb.2 b hb).trans e) f0 f1 f3 f4 f5
    obtain ⟨oi, e, c, dd⟩ := id st'
    exact ⟨en.key, rfl, go_of (s := { s with heap := h' }) e c dd (by decide) ⟨_, H, I1, rx, ⟨rfl, List.getElem?_eq_getElem hg.2⟩, st', fun b hb => (hf b hb).1⟩⟩
  done := by
    intro X hP hw hK hc i pins s σ H E I hf st hg
    subst hP hw hK
    obtain ⟨f0, f1, f2, f3, f4, f5⟩ := hf it List.mem_cons_self
    obtain ⟨hs, hgd, hx, es', ep', hdt, hsz, ent⟩ := frz_keys I hg.1 hk
    obtain ⟨rfl, rfl⟩ := dict_ep hod hdt
    refine next_key_end (I.ok.hd hc) st hgd hdt hsz hg.2 ?_
    intro h' eb
    exact ⟨rfl, I.turned (t' := s.toks) (fun b ob hb e => eb b ob hb e) f0 f1 f3 f4 f5⟩
  self := fun A i s Q E st h => wpAny_pyIter_keyiter st h
def iKa (td : TE) : TI := fun σ H R => td σ H fun x H1 => ∃ d o u ks, x = .ref d ∧ H1 d = some (.frz o u) ∧ KeysAre d u ks ∧ R (Itka d o u ks) H1
theorem pi_ka {X : Cx} {tg e : Expr} {td : TE} (he : PE X e td) : PI X tg e (iKa td) := by
  constructor
  intro pins s σ H R I h
  refine thn (he.run pins s σ H _ I h) ?_
  rintro v s1 ⟨x, H1, I1, rx, d, o, u, ks, rfl, hd, hk, q⟩
  cases (show v = Value.ref d from rx)
  obtain ⟨hs, hgd, hx, es, ep, hdt, hsz, _⟩ := frz_keys I1 hd hk
  refine iter_keys hs hgd hx hdt (pi_one (tk := s1.toks) I1 _ (turn_ka _ hdt hk) ⟨_, Heap.get?_push_size _ rfl, rfl, ?_⟩ q)
  rw [hsz] <;> rfl
/-! ### a loop over such keys -/
end LW

namespace LW
open PySem PySem.Spec PyProof.Rows L2
open Evl (Ex)
theorem walk_ka {d : Addr} {o : Obj} {u : HO} {ks : List V} : Walk (Itka d o u ks) ks.length (fun H => H d = some (.frz o u)) (YAt ks) :=
  ⟨fun _ _ hi q => ⟨q, hi⟩, fun _ q => ⟨q, Nat.le_refl _⟩, fun _ _ _ _ _ _ y => y⟩
/-! ### a dict of one entry, its key None or a tuple -/
def OddKey (H : Hp) (k : V) : Prop := k = .non ∨ ∃ t ks, k = .ref t ∧ H t = some (.tup (List.map kV ks))
def tOdd (tk tv : TE) : TE := fun σ H Q => ∀ p, H p = none → tPairs [(tk, tv)] σ (upd H p (.dK [])) fun ps H2 => ∃ k v, ps = [(k, v)] ∧ H2 p = some (.dK []) ∧ OddKey H2 k ∧ Q (.ref p) (upd H2 p (odd1 p k v))
theorem odd_ok {P : Program} {w : World} {H : Hp} {h : Heap} {a : Addr} {k v : V} {o : Obj} {es : Array DictEntry} {ep : Nat} {e : DictEntry} (hs : (a == sysModules) = false) (ho : h.get? a = some o) (hx : o.ExactDict) (hd : o.data = .dict es ep) (hl : es.toList = [e]) (rk : RelV k e.key) (rv : RelV v e.val) : ObjOk P w H h a (odd1 a k v) :=
  ⟨⟨o, es, ep, e, hs, ho, hx, hd, hl, rk, rv⟩, ⟨o, ho⟩, fun h1 h2 z kp => by
    obtain ⟨o, es, ep, e, hs, ho, q⟩ := z
    exact ⟨o, es, ep, e, hs, kp _ ho, q⟩⟩
theorem pe_odd {X : Cx} {k v : Expr} {tk tv : TE} {pos : Pos} (hu : X.A.units + 64 < cLine) (hk : PE X k tk) (hv : PE X v tv) : PE X (.Dict [some k] [v] pos) (tOdd tk tv) := by
  constructor
  intro pins s σ H Q I q
  have hn := I.hok.fresh (Nat.le_refl s.heap.objs.size)
  have I1 := I.laid (a := s.heap.objs.size) (o := .dK []) (h' := s.heap.push { cls := .type "dict", data := .dict #[] }) (t' := s.toks) (fun _ _ q => Heap.get?_push_of_some _ q) (Nat.le_refl _) (dk_empty s.heap I.big)
  refine wpAny_Dict_any (keys := [some k]) (values := [v]) rfl rfl nofun (by show 1 ≤ 15; decide) ?_
  refine thn ((pps_cons (pos := pos) hk hv pps_nil).run pins _ σ _ _ I1 (q _ hn)) ?_
  rintro ws s2 ⟨ps, H2, I2, rel, kk, vv, rfl, e, ok, q2⟩
  obtain ⟨_, hd, vs0, r0, dd⟩ := dk_of I2.hok e
  cases r0
  have fin : ∀ (h' : Heap) (tk' : Nat) (o : Obj) (es : Array DictEntry) (ep : Nat) (en : DictEntry), Heap.SameBut s.heap.objs.size s2.heap h' → h'.get? s.heap.objs.size = some o → o.ExactDict → o.data = .dict es ep → es.toList = [en] → RelV kk en.key → RelV vv en.val →
      EP X pins σ Q (.ref s.heap.objs.size) { s2 with heap := h', toks := tk' } := by
    intro h' tk' o es ep en hs ho hx hdt hl rk rv
    refine ⟨.ref s.heap.objs.size, _, ?_, rfl, q2⟩
    exact d_write I2 (by rw [e]; exact True.intro) hs ⟨o, ho⟩ (odd_ok hd ho hx hdt hl rk rv)
  cases rel with
  | @cons a b as bs r1 r2 =>
    cases r2
    obtain ⟨b1, b2⟩ := b
    obtain ⟨rk, rv⟩ := r1
    rcases ok with rfl | ⟨t, ks, rfl, ht⟩
    · cases (show b1 = Value.none from rk)
      have em : s2.heap.DictOf (noneKind X.prog X.w) s.heap.objs.size [] := by
        obtain ⟨o, es, ep, h1, h2, h3, h4, h5, h6⟩ := dd
        have he : es = #[] := by
          have : es.toList = [] := by
            cases h7 : es.toList with
            | nil => rfl
            | cons a b =>
              rw [h7] at h5
              cases h5
          exact Array.toList_eq_nil_iff.mp this
        subst he
        exact ⟨o, _, ep, h1, h2, h3, (by intro i hi; simp at hi), .nil, List.nodup_nil⟩
      refine wpAny_storeAll (knd := noneKind X.prog X.w) [(.none, b2)] [(none, b2)] [] s2 _ ⟨rfl, rfl, True.intro⟩ em (by show 0 + 1 ≤ sizeLine; decide) ?_
      intro h' dd' hs
      obtain ⟨o, es, ep, h1, h2, h3, h4, h5, h6⟩ := dd'
      have h5' : Pairs (noneKind X.prog X.w) es.toList [(none, b2)] := h5
      cases hh : es.toList with
      | nil =>
        rw [hh] at h5'
        cases h5'
      | cons en r =>
        rw [hh] at h5'
        cases h5' with
        | cons p1 p2 p3 =>
          cases p3
          refine fin h' _ o es ep en hs h1 h2 h3 hh ?_ ?_
          · exact nk_none p1
          · rw [p2]
            exact rv
    · cases (show b1 = Value.ref t from rk)
      have em : s2.heap.DictOfH (tupleKind (mixKind X.prog X.w)) s.heap.objs.size [] := by
        obtain ⟨o, es, ep, h1, h2, h3, h4, h5, h6⟩ := dd
        refine ⟨o, es, ep, h1, h2, h3, ?_, nofun, List.nodup_nil⟩
        cases h7 : es.toList with
        | nil => rfl
        | cons a b =>
          rw [h7] at h5
          cases h5
      refine PySem.wpAny_storeAllH (knd := tupleKind (mixKind X.prog X.w)) (show X.A.units < cLine by omega) [(.ref t, b2)] [(ks, t, b2)] [] s2 _ ⟨rfl, rfl, key_of I2.hok ht, True.intro⟩ em (by show 0 + 1 ≤ sizeLine; decide) ?_
      intro h' tk' dd' hs
      obtain ⟨o, es, ep, h1, h2, h3, h4, h5, h6⟩ := dd'
      exact fin h' tk' o es ep _ hs h1 h2 h3 h4 rfl rv
end LW

namespace LW
open PySem PySem.Spec PyProof.Rows L2
open Evl (Ex)
/-! ### o[i], o a list or a dict -/
def rIxA (K : PySem.W.Frag) : R2 := fun x y H Q => rIxL K x y H Q ∨ ∃ a kvs k v, x = .ref a ∧ y = kV k ∧ L2.Rd H a (.dK kvs) ∧ valV kvs k = some v ∧ Q v H
theorem ixA {X : Cx} (K : PySem.W.Frag) (hK : X.K = K := by rfl) : IxR X (rIxA K) := by
  subst hK
  intro value slice pins s σ H x y v u Q I rx ry h hs
  rcases h with h | ⟨a, kvs, k, z, rfl, rfl, ha, e, q⟩
  · exact ix_list value slice pins s σ H x y v u Q I rx ry h hs
  · cases (show v = Value.ref a from rx)
    obtain ⟨_, hd, vs, rel, dd⟩ := dk_rd I.hok ha
    obtain ⟨w', hw, rw'⟩ := RelO.some_of (v := z) (o := valueAt vs k) (by rw [← e]; exact rel.val k)
    exact subscriptTail_builtinR (x := w') dd.typeIs PySem.F.slot_dict_getitem.lookup (wpAny_getItem_of (Q := fun r s' => r = w' ∧ EP X pins σ Q r s') (kV_is ry) dd.mapOf hw ⟨rfl, z, H, I.tok _, rw', q⟩) hs
/-! ### o[i] = v, o a list or a dict -/
def rSetA : TSet := fun o i v H Q => rSetL o i v H Q ∨ rSetD o i v H Q
theorem setA {X : Cx} (hu : X.A.units + 1 < cLine) : PSet X rSetA := by
  intro pins s σ H o i v ov iv u Q I ro ri rv h
  rcases h with h | h
  · exact set_list pins s σ H o i v ov iv u Q I ro ri rv h
  · exact set_dict hu pins s σ H o i v ov iv u Q I ro ri rv h
end LW

namespace LW
open PySem PySem.Spec PyProof.Rows L2
open Evl (Ex)
/-! ### a comprehension without a test while the heap only grows: R by the turn, what was gathered, the heap without the new list -/
def LcP (R : Nat → List V → Hp → Prop) (H1 : Hp) (D : Addr) (i : Nat) (H : Hp) : Prop := ∃ acc, Ex H1 (del H D) ∧ H D = some (.lst acc) ∧ acc.length = i ∧ R i acc (del H D)
theorem lc_put {R : Nat → List V → Hp → Prop} {H1 H H4 : Hp} {D : Addr} {i : Nat} {acc : List V} {y : V} (e1 : Ex H1 (del H D)) (hD : H D = some (.lst acc)) (hl : acc.length = i) (hi : i < 100000) (e : Ex H H4) (r : R (i + 1) (acc ++ [y]) (del H4 D)) :
    ∃ acc, H4 D = some (.lst acc) ∧ acc.length < sizeLine ∧ LcP R H1 D (i + 1) (upd H4 D (.lst (acc ++ [y]))) := by
  refine ⟨acc, e _ _ hD, szlt (by omega), acc ++ [y], ?_, upd_same, ?_, ?_⟩
  · exact e1.trans (del_grow e)
  · rw [List.length_append, hl]
    rfl
  · rw [show del (upd H4 D (.lst (acc ++ [y]))) D = del H4 D from ?_]
    · exact r
    · funext b
      by_cases hb : b = D
      · rw [hb, del_same, del_same]
      · rw [del_ne hb, del_ne hb, upd_ne hb]
theorem del_none {H : Hp} {D : Addr} {o : HO} (h : H D = none) : del (upd H D o) D = H := by
  funext b
  by_cases hb : b = D
  · rw [hb, del_same, h]
  · rw [del_ne hb, upd_ne hb]
theorem lc_gr {J : It} {n : Nat} {G : Hp → Prop} {Y : Nat → Hp → V → Hp → Prop} (w : Walk J n G Y) {g : TG} {tt : TT} {te : TE} {vs : List Nat} {σ : L2.St} {H1 : Hp} {D : Addr} {Qd : Hp → Prop} (R : Nat → List V → Hp → Prop)
    (np : H1 D = none) (hn : n ≤ 100000) (h0 : R 0 [] H1) (hG : ∀ H, Ex H1 H → G H)
    (hs : ∀ i x acc H H', i < n → Ex H1 H → Ex H1 (del H D) → H D = some (.lst acc) → acc.length = i → R i acc (del H D) → Y i H x H' → g x (wipe σ vs) H' fun σ2 H2 => wipe σ2 vs = wipe σ vs ∧ tt σ2 H2 fun b H3 =>
      if b = true then te σ2 H3 fun y H4 => ∃ acc, H4 D = some (.lst acc) ∧ acc.length < sizeLine ∧ LcP R H1 D (i + 1) (upd H4 D (.lst (acc ++ [y]))) else LcP R H1 D (i + 1) H3)
    (hd : ∀ acc H, Ex H1 H → Ex H1 (del H D) → H D = some (.lst acc) → acc.length = n → R n acc (del H D) → Qd H) :
    ∃ W : Nat → Nat → Hp → Prop, (∃ m, W 0 m (upd H1 D (.lst []))) ∧ ∀ i m H, W i m H →
      (J.stop i H ∧ Qd H) ∨ (J.go i H ∧ ∃ Nx : Hp → Prop, (∀ H', Nx H' → ∃ m', m' < m ∧ W (i + 1) m' H') ∧ ∀ x H', J.yld i H x H' → g x (wipe σ vs) H' fun σ2 H2 => wipe σ2 vs = wipe σ vs ∧ tt σ2 H2 fun b H3 =>
        if b = true then te σ2 H3 fun y H4 => ∃ acc, H4 D = some (.lst acc) ∧ acc.length < sizeLine ∧ Nx (upd H4 D (.lst (acc ++ [y]))) else Nx H3) := by
  refine lc_it w (LcP R H1 D) ⟨[], ?_, upd_same, rfl, ?_⟩ ?_ ?_ ?_
  · rw [del_none np]
    exact fun _ _ h => h
  · rw [del_none np]
    exact h0
  · rintro i H hi ⟨acc, e, _⟩
    exact hG _ (e.trans ex_del)
  · rintro i x H H' hi ⟨acc, e, hD, hl, r⟩ y
    exact hs i x acc H H' hi (e.trans ex_del) e hD hl r y
  · rintro H ⟨acc, e, hD, hl, r⟩
    exact hd acc H (e.trans ex_del) e hD hl r
end LW

namespace LW
open PySem PySem.Spec L2
open Evl (Ex)
/-! ### small words -/
theorem if_t {c : Bool} {A B : Prop} (hc : c = true) (h : A) : if c = true then A else B := by
  rw [if_pos hc]
  exact h
theorem if_f {c : Bool} {A B : Prop} (hc : c = false) (h : B) : if c = true then A else B := by
  rw [hc, if_neg Bool.false_ne_true]
  exact h
theorem if_b {c : Bool} {A B : Prop} (h1 : c = true → A) (h2 : c = false → B) : if c = true then A else B := by
  cases c with
  | true => exact if_t rfl (h1 rfl)
  | false => exact if_f rfl (h2 rfl)
theorem at_some {α : Type} {xs : List α} {v : Int} (h0 : 0 ≤ v) (h1 : v < xs.length) : ∃ x, atI xs v = some x ∧ x ∈ xs ∧ xs[v.toNat]? = some x := by
  have hj : v.toNat < xs.length := by omega
  refine ⟨xs[v.toNat], ?_, List.getElem_mem hj, by simp [hj]⟩
  have e : ((v.toNat : Nat) : Int) = v := by omega
  have q : atI xs ((v.toNat : Nat) : Int) = some xs[v.toNat] := atI_nat (by simp [hj])
  rw [e] at q
  exact q
abbrev SqLo {K : PySem.W.Frag} {H : Hp} {a : Addr} {xs : List V} (h : H a = some (.lst xs)) : SqL K H a xs := Evl.sq_of h
abbrev SqTo {K : PySem.W.Frag} {H : Hp} {a : Addr} {xs : List V} (h : H a = some (.tup xs)) : SqT K H a xs := Evl.st_of h
/-! ### a statement while a dict is locked, or was locked already -/
def tLockA (t : TS) : TS := fun D σ H => tLock t D σ H ∨ t D σ H
theorem ps_lockA {X : Cx} {st : Stmt} {t : TS} (h : PS X st t) : PS X st (tLockA t) := by
  constructor
  intro pins s σ H D I hw
  rcases hw with hw | hw
  · exact (ps_lock h).run pins s σ H D I hw
  · exact h.run pins s σ H D I hw
theorem ex_unlock {H H' : Hp} {a : Addr} {o : Obj} {u : HO} (h : H a = some u) (e : Ex (upd H a (.frz o u)) H') : Ex H (upd H' a u) := fun b x q => by
  by_cases hb : b = a
  · subst hb
    rw [h] at q
    cases q
    exact upd_same
  · rw [upd_ne hb]
    exact e b x (by rw [upd_ne hb]; exact q)
/-- a returning statement over a dict that is locked or gets locked -/
theorem lockA_ret {t : TS} {D : Ends} {σ : L2.St} {H : Hp} {a : Addr} {u : HO} {y : V} (hu : L2.Rd H a u) (mu : Mut (some u)) (k : ∀ H', Ex H H' → D.rt y H')
    (body : ∀ (Hf : Hp) (o : Obj) (D' : Ends), RdX H Hf → Hf a = some (.frz o u) → (∀ H', Ex Hf H' → D'.rt y H') → t D' σ Hf) : tLockA t D σ H := by
  rcases hu with h | ⟨o, h⟩
  · left
    have nf : NF u := fun o' u' z => by
      rw [z] at mu
      exact mu
    refine ⟨a, u, h, mu, fun od => body _ od _ (rdx_lock h nf) upd_same ?_⟩
    intro H' e
    exact ⟨e _ _ upd_same, k _ (ex_unlock h e)⟩
  · right
    exact body H o D (fun _ _ _ h => h) h k
/-- the same, any result: th H' is the heap behind the unlocking -/
theorem lockA_any {t : TS} {D : Ends} {σ : L2.St} {H : Hp} {a : Addr} {u : HO} (hu : L2.Rd H a u) (mu : Mut (some u))
    (body : ∀ (Hf : Hp) (o : Obj) (D' : Ends) (th : Hp → Hp), RdX H Hf → Hf a = some (.frz o u) → (∀ b, Hf b = none → H b = none) → (∀ H', Ex Hf H' → Ex H (th H') ∧ RdX H' (th H') ∧ ∀ b, b ≠ a → th H' b = H' b) →
      (∀ v H', Ex Hf H' → D.rt v (th H') → D'.rt v H') → (∀ σ' H', Ex Hf H' → D.nx σ' (th H') → D'.nx σ' H') → t D' σ Hf) : tLockA t D σ H := by
  rcases hu with h | ⟨o, h⟩
  · left
    have nf : NF u := fun o' u' z => by
      rw [z] at mu
      exact mu
    refine ⟨a, u, h, mu, fun od => body _ od _ (fun H' => upd H' a u) (rdx_lock h nf) upd_same ?_ ?_ ?_ ?_⟩
    · intro b hb
      by_cases e : b = a
      · rw [e, upd_same] at hb
        cases hb
      · rw [upd_ne e] at hb
        exact hb
    · intro H' e
      exact ⟨ex_unlock h e, rdx_free (e _ _ upd_same), fun b hb => upd_ne hb⟩
    · intro v H' e q
      exact ⟨e _ _ upd_same, q⟩
    · intro v H' e q
      exact ⟨e _ _ upd_same, q⟩
  · right
    exact body H o D (fun H' => H') (fun _ _ _ h => h) h (fun _ h => h) (fun H' e => ⟨e, fun _ _ _ h => h, fun _ _ => rfl⟩) (fun _ _ _ q => q) (fun _ _ _ q => q)
theorem srK {X : Cx} (K : PySem.W.Frag) (h : X.K = K := by rfl) : CallR X (.builtin "sorted") (rSortedS K) := by
  subst h
  exact cr_sortedS
def rStrS : List V → Hp → VK → Prop := fun xs H Q => ∃ a, xs = [.str a] ∧ Q (.str a) H
theorem strS {X : Cx} : CallR X (.type "str") rStrS := SkE.call_str_str
def rLnA (K : PySem.W.Frag) : List V → Hp → VK → Prop := fun xs H Q => rLn K xs H Q ∨ rLnD xs H Q
theorem lnA {X : Cx} (K : PySem.W.Frag) (hK : X.K = K := by rfl) : CallR X (.builtin "len") (rLnA K) := by
  intro pins s σ H xs us Q I r h
  rcases h with h | h
  · exact lnK K hK pins s σ H xs us Q I r h
  · exact lnD pins s σ H xs us Q I r h
theorem pgc {X : Cx} {x : Str} {pos : Pos} {v : V} (hg : Gl X x) (h : ∃ u, X.mg x = some u ∧ RelV v u) (hd : (x == ("__debug__" : Str)) = false := by decide) : PE X (.Name x pos) (tC v) := by
  obtain ⟨u, hm, r⟩ := h
  exact pe_glob hg hm r hd
/-! ### pairs of lists -/
section
variable {α β : Type} {R S : α → β → Prop}
theorem Paired.imp (f : ∀ a b, R a b → S a b) : ∀ {l : List α} {m : List β}, Paired R l m → Paired S l m
  | _, _, .nil => .nil
  | _, _, .cons r t => .cons (f _ _ r) (Paired.imp f t)
theorem Paired.app : ∀ {l l' : List α} {m m' : List β}, Paired R l m → Paired R l' m' → Paired R (l ++ l') (m ++ m')
  | _, _, _, _, .nil, s => s
  | _, _, _, _, .cons r t, s => .cons r (Paired.app t s)
theorem Paired.get : ∀ {l : List α} {m : List β} {i : Nat} {a : α}, Paired R l m → l[i]? = some a → ∃ b, m[i]? = some b ∧ R a b
  | _, _, _, _, .nil, e => by simp at e
  | _, _, 0, _, .cons r _, e => by
    simp at e
    subst e
    exact ⟨_, rfl, r⟩
  | _, _, i + 1, a, .cons _ t, e => by
    obtain ⟨b, h1, h2⟩ := Paired.get (i := i) (a := a) t (by simpa using e)
    exact ⟨b, by simpa using h1, h2⟩
theorem Paired.get' : ∀ {l : List α} {m : List β} {i : Nat} {b : β}, Paired R l m → m[i]? = some b → ∃ a, l[i]? = some a ∧ R a b
  | _, _, _, _, .nil, e => by simp at e
  | _, _, 0, _, .cons r _, e => by
    simp at e
    subst e
    exact ⟨_, rfl, r⟩
  | _, _, i + 1, a, .cons _ t, e => by
    obtain ⟨b, h1, h2⟩ := Paired.get' (i := i) (b := a) t (by simpa using e)
    exact ⟨b, by simpa using h1, h2⟩
theorem Paired.len : ∀ {l : List α} {m : List β}, Paired R l m → l.length = m.length
  | _, _, .nil => rfl
  | _, _, .cons _ t => by simp [Paired.len t]
theorem Paired.of_get : ∀ {l : List α} {m : List β}, l.length = m.length → (∀ (i : Nat) (a : α) (b : β), l[i]? = some a → m[i]? = some b → R a b) → Paired R l m
  | [], [], _, _ => .nil
  | a :: l, b :: m, h, f => .cons (f 0 a b rfl rfl) (Paired.of_get (by simpa using h) fun i x y h1 h2 => f (i + 1) x y (by simpa using h1) (by simpa using h2))
end
end LW

namespace VL
open PySem L2 LW
/-! ### values, plainly -/
mutual
def cnt : PyData → Nat
  | .list ds => 1 + cntL ds
  | .dict kvs => 1 + cntK kvs
  | _ => 1
def cntL : List PyData → Nat
  | [] => 0
  | d :: r => cnt d + cntL r
def cntK : List (PyData × PyData) → Nat
  | [] => 0
  | (_, d) :: r => cnt d + cntK r
end
def low (x : Str) : Bool := x.cps.toList.all fun c => decide (97 ≤ c) && decide (c ≤ 122)
def lets (x : Str) (a b : Nat) : Bool := decide (a ≤ x.length) && decide (x.length ≤ b) && low x
def big : Int := 1000000000000000000000000000000
def fld : PyData → Bool
  | .str x => lets x 1 8
  | _ => false
def okP : PyData → Bool
  | .int i => decide (-big < i) && decide (i < big)
  | .str x => lets x 0 20
  | .list ds => decide (ds.length < 60)
  | .dict kvs => decide (kvs.length ≤ 8) && kvs.all fun p => fld p.1
  | _ => false
mutual
def okA : PyData → Bool
  | .list ds => okP (.list ds) && okL ds
  | .dict kvs => okP (.dict kvs) && okK kvs
  | .none => false
  | .bool _ => false
  | .int i => okP (.int i)
  | .str x => okP (.str x)
  | .tuple _ => false
def okL : List PyData → Bool
  | [] => true
  | d :: r => okA d && okL r
def okK : List (PyData × PyData) → Bool
  | [] => true
  | (_, d) :: r => okA d && okK r
end
def kids : PyData → List PyData
  | .list ds => ds
  | .dict kvs => kvs.map (·.2)
  | _ => []
theorem cntK_eq : ∀ kvs : List (PyData × PyData), cntK kvs = cntL (kvs.map (·.2))
  | [] => by simp [cntK, cntL]
  | (k, d) :: r => by simp [cntK, cntL, cntK_eq r]
theorem okK_eq : ∀ kvs : List (PyData × PyData), okK kvs = okL (kvs.map (·.2))
  | [] => by simp [okK, okL]
  | (k, d) :: r => by simp [okK, okL, okK_eq r]
theorem okL_all : ∀ ds : List PyData, okL ds = ds.all okA
  | [] => by simp [okL]
  | d :: r => by simp [okL, okL_all r]
theorem cntL_sum : ∀ ds : List PyData, cntL ds = (ds.map cnt).sum
  | [] => by simp [cntL]
  | d :: r => by simp [cntL, cntL_sum r]
theorem cnt_kids (d : PyData) : cnt d = 1 + cntL (kids d) := by
  cases d <;> simp [cnt, kids, cntL, cntK_eq]
theorem okA_kids (d : PyData) : okA d = (okP d && okL (kids d)) := by
  cases d <;> simp [okA, okP, kids, okL, okK_eq]
theorem cnt_pos (d : PyData) : 1 ≤ cnt d := by
  rw [cnt_kids]
  omega
theorem cntL_app (xs ys : List PyData) : cntL (xs ++ ys) = cntL xs + cntL ys := by
  rw [cntL_sum, cntL_sum, cntL_sum, List.map_append, List.sum_append]
theorem okL_app (xs ys : List PyData) : okL (xs ++ ys) = (okL xs && okL ys) := by
  rw [okL_all, okL_all, okL_all, List.all_append]
theorem cntL_perm {xs ys : List PyData} (p : xs.Perm ys) : cntL xs = cntL ys := by
  induction p with
  | nil => rfl
  | cons x _ ih => rw [cntL, cntL, ih]
  | swap x y l => simp only [cntL]; omega
  | trans _ _ a b => exact a.trans b
theorem okL_perm {xs ys : List PyData} (p : xs.Perm ys) : okL xs = okL ys := by
  rw [okL_all, okL_all]
  exact p.all_eq
theorem cnt_kid {d c : PyData} (h : c ∈ kids d) : cnt c < cnt d := by
  rw [cnt_kids d]
  have : ∀ (l : List PyData), c ∈ l → cnt c ≤ cntL l := by
    intro l
    induction l with
    | nil => intro h; cases h
    | cons a r ih =>
      intro h
      rw [cntL]
      rcases List.mem_cons.mp h with rfl | h
      · omega
      · have := ih h
        omega
  have := this _ h
  omega
end VL

namespace VL
open PySem PySem.Spec L2 LW
open Evl (Ex)
structure Txt (K : PySem.W.Frag) (mg : Str → Option Value) : Prop where
  b_len : mg "len" = none
  b_range : mg "range" = none
  b_isinstance : mg "isinstance" = none
  b_int : mg "int" = none
  b_str : mg "str" = none
  b_bool : mg "bool" = none
  b_list : mg "list" = none
  b_dict : mg "dict" = none
  b_tuple : mg "tuple" = none
  b_all : mg "all" = none
  b_enumerate : mg "enumerate" = none
  b_max : mg "max" = none
  b_min : mg "min" = none
  b_sum : mg "sum" = none
  b_sorted : mg "sorted" = none
  b_repr : mg "repr" = none
  g_LETTERS : ∃ u, mg "LETTERS" = some u ∧ RelV (.str "abcdefghijklmnopqrstuvwxyz") u
  g_GREATEST : ∃ u, mg "GREATEST" = some u ∧ RelV (.int 1000000000000000000000000000000) u
  g_LONGEST_TEXT : ∃ u, mg "LONGEST_TEXT" = some u ∧ RelV (.int 20) u
  g_LONGEST_NAME : ∃ u, mg "LONGEST_NAME" = some u ∧ RelV (.int 8) u
  g_MOST_FIELDS : ∃ u, mg "MOST_FIELDS" = some u ∧ RelV (.int 8) u
  g_MOST_PLACES : ∃ u, mg "MOST_PLACES" = some u ∧ RelV (.int 60) u
section
variable {P : Program} {w : World} {K : PySem.W.Frag} {mg : Str → Option Value} {base : Heap}
/-! ### _law_draw -/
def spDraw : Sp := fun vs H Q _ => ∃ (p : Addr) (n : Int), vs = [.ref p, .int n] ∧ Pool H p ∧ 0 < n ∧ n ≤ 10000000000000000000000000000000 ∧ ∀ v : Int, 0 ≤ v → v < n → Q (.int v) H
theorem sc__law_draw : FnScope ["_law_pool", "_law_many", "_law_found"] ["_law_pool", "_law_many"] (defScope s__law_draw) := ⟨rfl, rfl, rfl, by decide +kernel, rfl, by decide +kernel, by decide +kernel⟩
theorem bi__law_draw : BindsEq "_law_draw" s__law_draw ["_law_pool", "_law_many"] := fun _ _ _ _ _ _ us hl => match us, hl with | [_, _], _ => rfl
theorem ok_draw (F : Df K mg "_law_draw" s__law_draw) (T : Txt K mg) : Cal P w K mg base CX0 1 "_law_draw" spDraw := by
  refine cal0 F sc__law_draw bi__law_draw (fun vs H Q E h => ?_) (fun f cdv A outer s H vs Q E hr h => ?_)
  · obtain ⟨p, n, rfl, _⟩ := h
    rfl
  · obtain ⟨p, n, rfl, hp, n0, n1, k⟩ := h
    refine ⟨_, pss_focus (pss_cons (ps_if (pt_cmpR op_gt (pe_ix (ixl K) (pv 0) pe_int (fun _ _ => rfl)) pe_int (nomark _)) (pss_cons (ps_set (i := 2) sc__law_draw.nd rfl (Or.inl rfl) (pe_op op_mod (pe_callTy call_int1 rfl T.b_int (by decide +kernel) (pa_cons (pe_ix (ixl K) (pv 0) pe_int (fun _ _ => rfl)) pa_nil)) (pv 1)))
 (pss_cons (ps_asg (pe_op op_fdivW (pe_ix (ixl K) (pv 0) pe_int (fun _ _ => rfl)) (pv 1)) (pg_sub (pv 0) pe_int set_list))
 (pss_one (ps_ret (pv 2))))) pss_nil)
 (pss_cons (ps_asg (pe_op op_mod (pe_callTy call_int1 rfl T.b_int (by decide +kernel) (pa_cons (pe_op op_add (pe_op op_mul (pe_ix (ixl K) (pv 0) pe_int (fun _ _ => rfl)) pe_int) pe_int) pa_nil)) pe_int) (pg_sub (pv 0) pe_int set_list))
 (pss_one (ps_ret (pe_op op_mod (pe_op op_fdivW (pe_op op_mod (pe_callTy call_int1 rfl T.b_int (by decide +kernel) (pa_cons (pe_op op_mul (pe_ix (ixl K) (pv 0) pe_int (fun _ _ => rfl)) (pe_ix (ixl K) (pv 0) pe_int (fun _ _ => rfl))) pa_nil)) pe_int) pe_int) (pv 1)))))), ?_⟩
    refine ⟨p, hp, fun a b a0 b0 b1 => ?_⟩
    have hd : CDivW a n := wide_div (b := 110) n0 (by omega) (by decide) (by decide)
    have sq : ∀ x y : Int, SqL K (upd H p (.lst [.int x, .int y])) p [.int x, .int y] := fun x y => Evl.sq_of upd_same
    have a0' : ∀ x y : V, atI [x, y] 0 = some x := fun _ _ => rfl
    have a1' : ∀ x y : V, atI [x, y] 1 = some y := fun _ _ => rfl
    refine ⟨_, rfl, p, _, _, _, rfl, rfl, sq a b, a0' _ _, _, _, rfl, rfl, _, rfl, ?_⟩
    refine ite2 (fun h => ?_) (fun h => ?_)
    · have h : 0 < a := of_decide_eq_true h
      refine ⟨_, rfl, p, _, _, _, rfl, rfl, sq a b, a0' _ _, .inl ⟨_, rfl, _, rfl, _, _, rfl, rfl, n0, ?_⟩⟩
      refine ⟨_, rfl, p, _, _, _, rfl, rfl, sq a b, a0' _ _, _, rfl, _, _, rfl, rfl, hd, _, rfl, p, _, _, 0, rfl, rfl, upd_same, rfl, ?_⟩
      refine ⟨_, rfl, a / n, b, upd_same, ?_, b0, b1, ?_⟩
      · exact Int.ediv_nonneg a0 (by omega)
      · rw [upd_upd, upd_back hp]
        exact k _ (Int.emod_nonneg _ (by omega)) (Int.emod_lt_of_pos _ n0)
    · refine ⟨_, rfl, p, _, _, _, rfl, rfl, sq a b, a1' _ _, _, _, rfl, rfl, .inl ⟨by omega, by omega⟩, _, _, rfl, rfl, .inl ⟨_, rfl, _, _, rfl, rfl, (by show (0 : Int) < 2147483647; decide), ?_⟩⟩
      have c0 : 0 ≤ (b * 48271 + 11) % 2147483647 := Int.emod_nonneg _ (by decide)
      have c1 : (b * 48271 + 11) % 2147483647 < 2147483647 := Int.emod_lt_of_pos _ (by decide)
      refine ⟨_, rfl, p, _, _, 1, rfl, rfl, upd_same, rfl, ?_⟩
      rw [upd_upd]
      refine ⟨_, rfl, p, _, _, _, rfl, rfl, sq a ((b * 48271 + 11) % 2147483647), a1' _ _, _, rfl, p, _, _, _, rfl, rfl, sq a ((b * 48271 + 11) % 2147483647), a1' _ _, _, _, rfl, rfl, .inl ⟨by omega, by omega⟩, .inl ⟨_, rfl, _, _, rfl, rfl, (by show (0 : Int) < 2147483629; decide), _, _, rfl, rfl, ⟨by decide, by decide⟩, _, rfl, _, _, rfl, rfl, n0, ?_⟩⟩
      refine ⟨a, _, upd_same, a0, c0, c1, ?_⟩
      rw [upd_back hp]
      exact k _ (Int.emod_nonneg _ (by omega)) (Int.emod_lt_of_pos _ n0)
/-! ### _law_hand -/
theorem cut_mem {xs : List V} {lo hi : Option Int} {v : V} (h : v ∈ cutV xs lo hi) : v ∈ xs := List.mem_of_mem_drop (List.mem_of_mem_take h)
def spHand (K : PySem.W.Frag) : Sp := fun vs H Q _ => ∃ (a : Addr) (ns : List Int) (k : Int), vs = [.ref a, .int k] ∧ SqL K H a (ns.map V.int) ∧ ns.length ≤ 63 ∧ 0 ≤ k ∧ k ≤ 63 ∧ ∀ p H', H p = none → Ex H H' → Pool H' p → Q (.ref p) H'
theorem sc__law_hand : FnScope ["_law_script", "_law_k", "_law_cell", "_law_seed"] ["_law_script", "_law_k"] (defScope s__law_hand) := ⟨rfl, rfl, rfl, by decide +kernel, rfl, by decide +kernel, by decide +kernel⟩
theorem bi__law_hand : BindsEq "_law_hand" s__law_hand ["_law_script", "_law_k"] := fun _ _ _ _ _ _ us hl => match us, hl with | [_, _], _ => rfl
theorem ok_hand (F : Df K mg "_law_hand" s__law_hand) (T : Txt K mg) : Cal P w K mg base CX0 1 "_law_hand" (spHand K) := by
  refine cal0 F sc__law_hand bi__law_hand (fun vs H Q E h => ?_) (fun f cdv A outer s H vs Q E hr h => ?_)
  · obtain ⟨a, ns, j, rfl, _⟩ := h
    rfl
  · obtain ⟨a, ns, j, rfl, hS, hl, j0, j1, k⟩ := h
    refine ⟨_, (pss_cons (ps_set (i := 2) sc__law_hand.nd rfl (Or.inl rfl) (pe_ix (ixl K) (pe_op op_cat (pe_slice (slK K) (pv 0) (po_some (pv 1)) (po_some (pe_op op_add (pv 1) pe_int))) (pe_lst (pa_cons pe_int pa_nil))) pe_int (fun _ _ => rfl)))
 (pss_cons (ps_set (i := 3) sc__law_hand.nd rfl (Or.inl rfl) (pe_op op_mod (pe_op op_mul (pe_op op_add (pe_op op_add (pe_op op_mod (pe_callTy call_int1 rfl T.b_int (by decide +kernel) (pa_cons (pv 2) pa_nil)) pe_int) (pe_op op_mul pe_int (pv 1))) pe_int) pe_int) pe_int))
 (pss_one (ps_retPool (pe_lst (pa_cons (pe_op op_mul (pe_callTy call_int1 rfl T.b_int (by decide +kernel) (pa_cons (pe_cmpR op_ge (pv 2) (pe_op op_pow pe_int pe_int) (nomark _)) pa_nil)) (pv 2)) (pa_cons (pv 3) pa_nil))))))), ?_⟩
    refine ⟨_, rfl, _, rfl, _, rfl, _, rfl, _, _, rfl, rfl, _, rfl, a, _, rfl, hS, fun p1 np1 => ?_⟩
    obtain ⟨H1, hH1, x0_1, h1⟩ := newH _ np1
    rw [hH1]
    clear hH1
    have f1 := np1
    refine ⟨szl (by show 1 ≤ 100000; decide), fun p2 np2 => ?_⟩
    obtain ⟨H2, hH2, x1_2, h2⟩ := newH _ np2
    rw [hH2]
    clear hH2
    have x0_2 := x0_1.trans x1_2
    have f2 := ex_free x0_1 np2
    have hlen := cutV_length (ns.map V.int) (some j) (some (j + 1))
    rw [List.length_map] at hlen
    refine ⟨p1, p2, _, _, rfl, rfl, x1_2 _ _ h1, h2, szl (by show _ + 1 ≤ 100000; omega), fun p3 np3 => ?_⟩
    obtain ⟨H3, hH3, x2_3, h3⟩ := newH _ np3
    rw [hH3]
    clear hH3
    have x0_3 := x0_2.trans x2_3
    have x1_3 := x1_2.trans x2_3
    have f3 := ex_free x0_2 np3
    obtain ⟨c, hc⟩ : ∃ c : Int, atI (cutV (ns.map V.int) (some j) (some (j + 1)) ++ [V.int 0]) 0 = some (V.int c) := by
      obtain ⟨x, hx, hm, _⟩ := at_some (xs := cutV (ns.map V.int) (some j) (some (j + 1)) ++ [V.int 0]) (v := 0) (by decide) (by rw [List.length_append]; show (0 : Int) < ((_ + 1 : Nat) : Int); omega)
      rcases List.mem_append.mp hm with q | q
      · obtain ⟨c, _, e⟩ := List.mem_map.mp (cut_mem q)
        exact ⟨c, by rw [hx, e]⟩
      · have e : x = V.int 0 := by simpa using q
        exact ⟨0, by rw [hx, e]⟩
    refine ⟨p3, _, _, _, rfl, rfl, SqLo h3, hc, ?_⟩
    -- _law_seed
    refine ⟨_, rfl, .inl ⟨_, rfl, _, _, rfl, rfl, (by show (0 : Int) < 2147483647; decide), ?_⟩⟩
    have m0 : 0 ≤ c % 2147483647 := Int.emod_nonneg _ (by decide)
    have m1 : c % 2147483647 < 2147483647 := Int.emod_lt_of_pos _ (by decide)
    refine ⟨_, rfl, _, _, rfl, rfl, .inl ⟨by decide, by decide⟩, _, _, rfl, rfl, _, _, rfl, rfl, _, _, rfl, rfl, .inr ⟨by decide, by decide⟩, _, _, rfl, rfl, (by show (0 : Int) < 2147483629; decide), ?_⟩
    -- return
    refine ⟨_, rfl, _, _, rfl, rfl, ⟨by decide, by decide, by decide⟩, _, _, rfl, rfl, .inr ⟨_, rfl, _, rfl, _, _, rfl, rfl, .inl ?_, ?_⟩⟩
    · split <;> exact ⟨by decide, by decide⟩
    refine ⟨_, rfl, szl (by show 2 ≤ 100000; decide), fun p4 np4 => ?_⟩
    obtain ⟨H4, hH4, x3_4, h4⟩ := newH _ np4
    rw [hH4]
    clear hH4
    have x0_4 := x0_3.trans x3_4
    have x1_4 := x1_3.trans x3_4
    have x2_4 := x2_3.trans x3_4
    have f4 := ex_free x0_3 np4
    have np : H p4 = none := ex_free x0_3 np4
    refine ⟨p4, _, _, rfl, h4, ?_, ?_, ?_, k p4 _ np ?_ upd_same⟩
    · by_cases hb : (10 : Int) ^ (18 : Int).toNat ≤ c
      · rw [decide_eq_true hb]
        show 0 ≤ 1 * c
        have : (0 : Int) ≤ 10 ^ (18 : Int).toNat := by decide
        omega
      · rw [decide_eq_false hb]
        show 0 ≤ 0 * c
        omega
    · exact Int.emod_nonneg _ (by decide)
    · exact Int.lt_trans (Int.emod_lt_of_pos _ (by decide)) (by decide)
    · exact Ex.mut x0_4 np
/-! ### is_integer -/
def isI : PyData → Bool
  | .int _ => true
  | _ => false
def spIsInt : Sp := fun vs H Q _ => ∃ v d, vs = [v] ∧ Dt H d v ∧ Q (.bl (isI d)) H
theorem sc_is_integer : FnScope ["thing"] ["thing"] (defScope s_is_integer) := ⟨rfl, rfl, rfl, by decide +kernel, rfl, by decide +kernel, by decide +kernel⟩
theorem bi_is_integer : BindsEq "is_integer" s_is_integer ["thing"] := fun _ _ _ _ _ _ us hl => match us, hl with | [_], _ => rfl
theorem ok_isint (F : Df K mg "is_integer" s_is_integer) (T : Txt K mg) : Cal P w K mg base CX0 1 "is_integer" spIsInt := by
  refine cal0 F sc_is_integer bi_is_integer (fun vs H Q E h => ?_) (fun f cdv A outer s H vs Q E hr h => ?_)
  · obtain ⟨v, d, rfl, _⟩ := h
    rfl
  · obtain ⟨v, d, rfl, hd, k⟩ := h
    refine ⟨_, (pss_one (ps_ret (pe_and (pe_callB (isD K) rfl T.b_isinstance (by decide +kernel) (pa_cons (pv 0) (pa_cons (pe_bltn (v := .ty "int") rfl T.b_int (by decide +kernel) rfl) pa_nil))) (pe_one (pe_not (pe_callB (isD K) rfl T.b_isinstance (by decide +kernel) (pa_cons (pv 0) (pa_cons (pe_bltn (v := .ty "bool") rfl T.b_bool (by decide +kernel) rfl) pa_nil)))))))), ?_⟩
    cases d with
    | bool b => exact ⟨v, rfl, v, _, _, true, rfl, hd, rfl, _, rfl, if_t rfl ⟨v, rfl, v, _, _, true, rfl, hd, rfl, _, rfl, k⟩⟩
    | int i => exact ⟨v, rfl, v, _, _, true, rfl, hd, rfl, _, rfl, if_t rfl ⟨v, rfl, v, _, _, false, rfl, hd, rfl, _, rfl, k⟩⟩
    | none => exact ⟨v, rfl, v, _, _, false, rfl, hd, rfl, _, rfl, if_f rfl k⟩
    | str x => exact ⟨v, rfl, v, _, _, false, rfl, hd, rfl, _, rfl, if_f rfl k⟩
    | list x => exact ⟨v, rfl, v, _, _, false, rfl, hd, rfl, _, rfl, if_f rfl k⟩
    | tuple x => exact ⟨v, rfl, v, _, _, false, rfl, hd, rfl, _, rfl, if_f rfl k⟩
    | dict x => exact ⟨v, rfl, v, _, _, false, rfl, hd, rfl, _, rfl, if_f rfl k⟩
/-! ### is_letters -/
def letD (d : PyData) (a b : Nat) : Bool := match d with
  | .str x => lets x a b
  | _ => false
def spLets : Sp := fun vs H Q _ => ∃ (v : V) (d : PyData) (a b : Nat), vs = [v, .int a, .int b] ∧ Dt H d v ∧ b ≤ 1000 ∧ (∀ x, d = .str x → x.length ≤ sizeLine) ∧ ∀ H', Ex H H' → Q (.bl (letD d a b)) H'
theorem sc_is_letters : FnScope ["thing", "least", "most", "sign"] ["thing", "least", "most"] (defScope s_is_letters) := ⟨rfl, rfl, rfl, by decide +kernel, rfl, by decide +kernel, by decide +kernel⟩
theorem bi_is_letters : BindsEq "is_letters" s_is_letters ["thing", "least", "most"] := fun _ _ _ _ _ _ us hl => match us, hl with | [_, _, _], _ => rfl
theorem letters_mem (c : Nat) : decide (c ∈ ("abcdefghijklmnopqrstuvwxyz" : Str).cps.toList) = (decide (97 ≤ c) && decide (c ≤ 122)) := by
  have e : ("abcdefghijklmnopqrstuvwxyz" : Str).cps.toList = (List.range 26).map (· + 97) := by decide +kernel
  rw [e]
  by_cases h : 97 ≤ c ∧ c ≤ 122
  · rw [decide_eq_true h.1, decide_eq_true h.2]
    exact decide_eq_true (List.mem_map.mpr ⟨c - 97, List.mem_range.mpr (by omega), by omega⟩)
  · have : ¬ c ∈ (List.range 26).map (· + 97) := fun hm => by
      obtain ⟨a, h1, h2⟩ := List.mem_map.mp hm
      have := List.mem_range.mp h1
      omega
    rw [decide_eq_false this]
    by_cases h1 : 97 ≤ c
    · rw [decide_eq_true h1, decide_eq_false (by omega)]
      rfl
    · rw [decide_eq_false h1]
      rfl
theorem ok_lets (F : Df K mg "is_letters" s_is_letters) (T : Txt K mg) : Cal P w K mg base CX0 1 "is_letters" spLets := by
  refine cal0 F sc_is_letters bi_is_letters (fun vs H Q E h => ?_) (fun f cdv A outer s H vs Q E hr h => ?_)
  · obtain ⟨v, d, a, b, rfl, _⟩ := h
    rfl
  · obtain ⟨v, d, a, b, rfl, hd, hb, hx, k⟩ := h
    refine ⟨_, (pss_cons (ps_if (PW.pt (pw_or (pt_not (pt_val (pe_callB (isD K) rfl T.b_isinstance (by decide +kernel) (pa_cons (pv 0) (pa_cons (pe_bltn (v := .ty "str") rfl T.b_str (by decide +kernel) rfl) pa_nil))))) (pw_or1 (pt_not (pt_chain op_le op_le (pv 1) (pe_callB (lnK K) rfl T.b_len (by decide +kernel) (pa_cons (pv 0) pa_nil)) (pv 2)))))) (pss_one (ps_ret pe_bl)) pss_nil)
 (pss_one (ps_ret (pe_callB (allK K rfl) rfl T.b_all (by decide +kernel) (pa_cons (pe_lc (own := [("sign", 3)]) (by rfl) sc_is_letters.nd (pi_str (pv 0)) (blkOk_by (own := [("sign", 3)]) (N := ["thing", "least", "most", "sign"]) (sc := defScope s_is_letters) (by decide +kernel)) (fun _ _ _ _ _ => (pg_name (i := 3) sc_is_letters.nd rfl (Or.inl rfl))) (fun _ _ _ _ _ => pts_nil) (fun _ _ _ _ _ => (pe_cmpR op_in_sign (pv 3) (pgc rfl T.g_LETTERS) (by rfl)))) pa_nil))))), ?_⟩
    cases d with
    | str x =>
      have hv : v = .str x := by unfold Dt at hd; exact hd
      have hz := hx x rfl
      refine ⟨v, rfl, v, _, _, true, rfl, hd, rfl, _, rfl, if_f rfl ?_⟩
      subst hv
      refine ⟨_, rfl, _, rfl, .str x, x.length, rfl, ⟨hz, rfl⟩, _, _, rfl, rfl, _, rfl, if_b (fun h1 => ?_) (fun h1 => ?_)⟩
      · refine ⟨_, rfl, _, _, rfl, rfl, _, rfl, if_b (fun h2 => ?_) (fun h2 => ?_)⟩
        · have e : letD (.str x) a b = false := by
            have h2 : ¬ x.length ≤ b := fun q => by
              rw [decide_eq_true (show (x.length : Int) ≤ b by omega)] at h2
              cases h2
            show (decide (a ≤ x.length) && decide (x.length ≤ b) && low x) = false
            rw [decide_eq_false h2, Bool.and_false, Bool.false_and]
          have q := k H (fun _ _ h => h)
          rw [e] at q
          exact q
        · have h1 : a ≤ x.length := by
            have := of_decide_eq_true h1
            omega
          have h2 : x.length ≤ b := by
            have h2 : decide ((x.length : Int) ≤ b) = true := by simpa using h2
            have := of_decide_eq_true h2
            omega
          refine ⟨_, rfl, x, rfl, fun D nD => lc_gr walk_str (fun i acc _ => acc = (x.cps.toList.take i).map fun c => V.bl (decide (97 ≤ c) && decide (c ≤ 122))) nD (by show x.length ≤ 100000; omega) rfl (fun _ _ => True.intro) ?_ ?_⟩
          · rintro i v acc H1 H2 hi e e' hD hl rfl ⟨rfl, c, hc, rfl⟩
            refine ⟨rfl, _, rfl, c, _, rfl, rfl, lc_put e' hD hl (by have : i < x.length := hi; omega) (fun _ _ h => h) ?_⟩
            rw [letters_mem, List.take_add_one, List.map_append, Array.getElem?_toList, hc]
            rfl
          · rintro acc H1 e e' hD hl rfl
            refine ⟨D, x.cps.toList.map fun c => decide (97 ≤ c) && decide (c ≤ 122), rfl, ?_, ?_⟩
            · have e1 : x.cps.toList.take x.cps.size = x.cps.toList := List.take_of_length_le (by simp)
              rw [e1] at hD
              rw [List.map_map]
              exact SqLo hD
            · have q := k _ e
              have e2 : letD (.str x) a b = ((x.cps.toList.map fun c => decide (97 ≤ c) && decide (c ≤ 122)).all id) := by
                show (decide (a ≤ x.length) && decide (x.length ≤ b) && low x) = _
                rw [decide_eq_true h1, decide_eq_true h2, List.all_map]
                rfl
              rw [e2] at q
              exact q
      · refine ⟨_, rfl, if_t rfl ?_⟩
        have e : letD (.str x) a b = false := by
          have h1 : ¬ a ≤ x.length := fun q => by
            rw [decide_eq_true (show (a : Int) ≤ x.length by omega)] at h1
            cases h1
          show (decide (a ≤ x.length) && decide (x.length ≤ b) && low x) = false
          rw [decide_eq_false h1, Bool.false_and, Bool.false_and]
        have q := k H (fun _ _ h => h)
        rw [e] at q
        exact q
    | _ => exact ⟨v, rfl, v, _, _, false, rfl, hd, rfl, _, rfl, if_t rfl (if_t rfl (k H (fun _ _ h => h)))⟩
end
end VL

namespace VL
open PySem PySem.Spec L2 LW
open Evl (Ex)
section
variable {P : Program} {w : World} {K : PySem.W.Frag} {mg : Str → Option Value} {base : Heap}
/-! ### is_field -/
def spField : Sp := fun vs H Q _ => ∃ (v : V) (d : PyData), vs = [v] ∧ Dt H d v ∧ (∀ x, d = .str x → x.length ≤ sizeLine) ∧ ∀ H', Ex H H' → Q (.bl (fld d)) H'
theorem fld_eq (d : PyData) : letD d 1 8 = fld d := by cases d <;> rfl
theorem sc_is_field : FnScope ["thing"] ["thing"] (defScope s_is_field) := ⟨rfl, rfl, rfl, by decide +kernel, rfl, by decide +kernel, by decide +kernel⟩
theorem bi_is_field : BindsEq "is_field" s_is_field ["thing"] := fun _ _ _ _ _ _ us hl => match us, hl with | [_], _ => rfl
theorem ok_field (F : Df K mg "is_field" s_is_field) (T : Txt K mg) (C_is_letters : Cal P w K mg base CX0 1 "is_letters" spLets) : Cal P w K mg base CX0 2 "is_field" spField := by
  refine cal0 F sc_is_field bi_is_field (fun vs H Q E h => ?_) (fun f cdv A outer s H vs Q E hr h => ?_)
  · obtain ⟨v, d, rfl, _⟩ := h
    rfl
  · obtain ⟨v, d, rfl, hd, hx, k⟩ := h
    refine ⟨_, (pss_one (ps_ret (pe_k C_is_letters hr (by decide) rfl (pa_cons (pv 0) (pa_cons pe_int (pa_cons (pgc rfl T.g_LONGEST_NAME) pa_nil)))))), ?_⟩
    refine ⟨v, rfl, v, d, 1, 8, rfl, hd, by decide, hx, fun H' e => ?_⟩
    rw [fld_eq]
    exact k H' e
/-! ### is_leaf -/
def leafD (d : PyData) : Bool := match d with
  | .int i => okP (.int i)
  | .str x => okP (.str x)
  | _ => false
def spIsLeaf : Sp := fun vs H Q _ => ∃ (v : V) (d : PyData), vs = [v] ∧ Dt H d v ∧ (∀ x, d = .str x → x.length ≤ sizeLine) ∧ ∀ H', Ex H H' → Q (.bl (leafD d)) H'
theorem sc_is_leaf : FnScope ["thing"] ["thing"] (defScope s_is_leaf) := ⟨rfl, rfl, rfl, by decide +kernel, rfl, by decide +kernel, by decide +kernel⟩
theorem bi_is_leaf : BindsEq "is_leaf" s_is_leaf ["thing"] := fun _ _ _ _ _ _ us hl => match us, hl with | [_], _ => rfl
theorem ok_isleaf (F : Df K mg "is_leaf" s_is_leaf) (T : Txt K mg) (C_is_integer : Cal P w K mg base CX0 1 "is_integer" spIsInt) (C_is_letters : Cal P w K mg base CX0 1 "is_letters" spLets) : Cal P w K mg base CX0 2 "is_leaf" spIsLeaf := by
  refine cal0 F sc_is_leaf bi_is_leaf (fun vs H Q E h => ?_) (fun f cdv A outer s H vs Q E hr h => ?_)
  · obtain ⟨v, d, rfl, _⟩ := h
    rfl
  · obtain ⟨v, d, rfl, hd, hx, k⟩ := h
    refine ⟨_, (pss_cons (ps_if (pt_val (pe_k C_is_integer hr (by decide) rfl (pa_cons (pv 0) pa_nil))) (pss_one (ps_ret (pe_chain op_lt op_lt (pe_un un_neg (pgc rfl T.g_GREATEST)) (pv 0) (pgc rfl T.g_GREATEST)))) pss_nil)
 (pss_one (ps_ret (pe_k C_is_letters hr (by decide) rfl (pa_cons (pv 0) (pa_cons pe_int (pa_cons (pgc rfl T.g_LONGEST_TEXT) pa_nil))))))), ?_⟩
    refine ⟨v, rfl, v, d, rfl, hd, _, rfl, ?_⟩
    cases d with
    | int i =>
      have hv : v = .int i := by unfold Dt at hd; exact hd
      subst hv
      refine if_t rfl ?_
      have e : leafD (.int i) = (decide (-big < i) && decide (i < big)) := rfl
      have q := k H (fun _ _ h => h)
      rw [e] at q
      refine ⟨_, rfl, _, rfl, _, _, rfl, rfl, _, rfl, if_b (fun h1 => ?_) (fun h1 => ?_)⟩
      · refine ⟨_, _, rfl, rfl, ?_⟩
        rw [show decide (-big < i) = true from h1, Bool.true_and] at q
        exact q
      · rw [show decide (-big < i) = false from h1, Bool.false_and] at q
        exact q
    | _ =>
      refine if_f rfl ?_
      refine ⟨v, rfl, v, _, 0, 20, rfl, hd, by decide, hx, fun H' e => ?_⟩
      exact k H' e
/-! ### is_part -/
theorem dt_key {H : Hp} (k : Key) : Dt H (kD k) (kV k) := by
  cases k <;> (unfold kD kV Dt; rfl)
theorem DtK.keys {H : Hp} : ∀ {kvs : List (PyData × PyData)} {es : List (Key × V)}, DtK H kvs es → DtL H (kvs.map (·.1)) (es.map fun p => kV p.1)
  | [], _, h => by
    unfold DtK at h
    subst h
    exact DtL.nil
  | (k, d) :: r, _, h => by
    unfold DtK at h
    obtain ⟨x, v, t, rfl, rfl, _, h2⟩ := h
    exact DtL.cons (dt_key x) (DtK.keys h2)
theorem DtK.len {H : Hp} : ∀ {kvs : List (PyData × PyData)} {es : List (Key × V)}, DtK H kvs es → es.length = kvs.length
  | [], _, h => by
    unfold DtK at h
    subst h
    rfl
  | (k, d) :: r, _, h => by
    unfold DtK at h
    obtain ⟨x, v, t, rfl, rfl, _, h2⟩ := h
    rw [List.length_cons, List.length_cons, DtK.len h2]
/-- a dict's object and its keys -/
theorem dict_keys {H : Hp} {kvs : List (PyData × PyData)} {v : V} (h : Dt H (.dict kvs) v) : ∃ a u ks, v = .ref a ∧ L2.Rd H a u ∧ Mut (some u) ∧ KeysAre a u ks ∧ ks.length = kvs.length ∧ (∀ Hf, RdX H Hf → DtL Hf (kvs.map (·.1)) ks) ∧
    ∀ (Hf : Hp) (Q : VK), L2.Rd Hf a u → Q (.int kvs.length) Hf → rLnD [.ref a] Hf Q := by
  unfold Dt at h
  obtain ⟨a, rfl, ⟨es, ha, nd, hl⟩ | ⟨k, x, ha, hl⟩⟩ := h
  · refine ⟨a, _, _, rfl, ha, True.intro, .inl ⟨es, rfl, rfl⟩, ?_, fun Hf e => (DtK.keys hl).rdx e, fun Hf Q hf q => ⟨a, rfl, .inl ⟨es, hf, ?_⟩⟩⟩
    · rw [List.length_map, DtK.len hl]
    · rw [DtK.len hl]
      exact q
  · match kvs, hl with
    | [], hl =>
      unfold DtO at hl
      exact hl.elim
    | (kd, vd) :: r, hl =>
      unfold DtO at hl
      obtain ⟨rfl, _, h1, h2⟩ := hl
      exact ⟨a, _, _, rfl, ha, True.intro, .inr ⟨k, x, rfl, rfl⟩, rfl, fun Hf e => DtL.cons (h1.rdx e) DtL.nil, fun Hf Q hf q => ⟨a, rfl, .inr ⟨k, x, hf, q⟩⟩⟩
def SzD (d : PyData) : Prop := (∀ x, d = .str x → x.length ≤ sizeLine) ∧ ∀ kvs, d = .dict kvs → ∀ p ∈ kvs, ∀ x, p.1 = .str x → x.length ≤ sizeLine
def spPart : Sp := fun vs H Q _ => ∃ (v : V) (d : PyData), vs = [v] ∧ Dt H d v ∧ SzD d ∧ ∀ H', Ex H H' → Q (.bl (okP d)) H'
theorem sc_is_part : FnScope ["thing", "name"] ["thing"] (defScope s_is_part) := ⟨rfl, rfl, rfl, by decide +kernel, rfl, by decide +kernel, by decide +kernel⟩
theorem bi_is_part : BindsEq "is_part" s_is_part ["thing"] := fun _ _ _ _ _ _ us hl => match us, hl with | [_], _ => rfl
theorem ok_part (F : Df K mg "is_part" s_is_part) (T : Txt K mg) (C_is_leaf : Cal P w K mg base CX0 2 "is_leaf" spIsLeaf) (C_is_field : Cal P w K mg base CX0 2 "is_field" spField) : Cal P w K mg base CX0 3 "is_part" spPart := by
  refine cal0 F sc_is_part bi_is_part (fun vs H Q E h => ?_) (fun f cdv A outer s H vs Q E hr h => ?_)
  · obtain ⟨v, d, rfl, _⟩ := h
    rfl
  · obtain ⟨v, d, rfl, hd, hx, k⟩ := h
    refine ⟨_, (pss_cons (ps_if (pt_val (pe_callB (isD K) rfl T.b_isinstance (by decide +kernel) (pa_cons (pv 0) (pa_cons (pe_bltn (v := .ty "list") rfl T.b_list (by decide +kernel) rfl) pa_nil)))) (pss_one (ps_ret (pe_cmpR op_lt (pe_callB (lnA K) rfl T.b_len (by decide +kernel) (pa_cons (pv 0) pa_nil)) (pgc rfl T.g_MOST_PLACES) (nomark _)))) pss_nil)
 (pss_cons (ps_if (pt_val (pe_callB (isD K) rfl T.b_isinstance (by decide +kernel) (pa_cons (pv 0) (pa_cons (pe_bltn (v := .ty "dict") rfl T.b_dict (by decide +kernel) rfl) pa_nil)))) (pss_one (ps_lockA (ps_ret (pe_and (pe_cmpR op_le (pe_callB (lnA K) rfl T.b_len (by decide +kernel) (pa_cons (pv 0) pa_nil)) (pgc rfl T.g_MOST_FIELDS) (nomark _)) (pe_one (pe_callB (allK K rfl) rfl T.b_all (by decide +kernel) (pa_cons (pe_lc (own := [("name", 1)]) (by rfl) sc_is_part.nd (pi_ka (pv 0)) (blkOk_by (own := [("name", 1)]) (N := ["thing", "name"]) (sc := defScope s_is_part) (by decide +kernel)) (fun _ _ _ _ _ => (pg_name (i := 1) sc_is_part.nd rfl (Or.inl rfl))) (fun _ _ _ _ _ => pts_nil) (fun _ _ _ _ _ => (pe_k C_is_field hr (by decide) rfl (pa_cons (pv 1) pa_nil)))) pa_nil))))))) pss_nil)
 (pss_one (ps_ret (pe_k C_is_leaf hr (by decide) rfl (pa_cons (pv 0) pa_nil)))))), ?_⟩
    cases d with
    | list ds =>
      refine ⟨v, rfl, v, _, _, true, rfl, hd, rfl, _, rfl, if_t rfl ?_⟩
      unfold Dt at hd
      obtain ⟨a, vs, rfl, ha, hl⟩ := hd
      refine ⟨_, rfl, .inl ⟨_, vs.length, rfl, .inl ⟨vs, .inl ha, rfl⟩, _, _, rfl, rfl, ?_⟩⟩
      have q := k H (fun _ _ h => h)
      have e : okP (.list ds) = decide ((vs.length : Int) < 60) := by
        show decide (ds.length < 60) = _
        rw [hl.len]
        exact decide_eq_decide.mpr (by omega)
      rw [e] at q
      exact q
    | dict kvs =>
      refine ⟨v, rfl, v, _, _, false, rfl, hd, rfl, _, rfl, if_f rfl ?_⟩
      refine ⟨v, rfl, v, _, _, true, rfl, hd, rfl, _, rfl, if_t rfl ?_⟩
      obtain ⟨a, u, ks, rfl, ha, mu, hk, hlen, hkd, hln⟩ := dict_keys hd
      refine lockA_ret (y := .bl (okP (.dict kvs))) ha mu (fun H' e => k H' e) ?_
      intro Hf o D' rx hf kf
      refine ⟨_, rfl, .inr (hln Hf _ (.inr ⟨o, hf⟩) ⟨_, _, rfl, rfl, _, rfl, if_b (fun h1 => ?_) (fun h1 => ?_)⟩)⟩
      · have h1 : kvs.length ≤ 8 := by
          have := of_decide_eq_true h1
          omega
        refine ⟨_, rfl, a, o, u, ks, rfl, hf, hk, fun D nD => lc_gr walk_ka (fun i acc _ => acc = (kvs.take i).map fun p => V.bl (fld p.1)) nD (by omega) rfl (fun H' e => e _ _ hf) ?_ ?_⟩
        · rintro i x acc H1 H2 hi e e' hD hl rfl ⟨rfl, hx1⟩
          obtain ⟨kd, hkd1, hkd2⟩ := (hkd Hf rx).get hx1
          obtain ⟨p, hp1, rfl⟩ : ∃ p, kvs[i]? = some p ∧ p.1 = kd := by
            rw [List.getElem?_map] at hkd1
            cases hp : kvs[i]? with
            | none => rw [hp] at hkd1; cases hkd1
            | some p => rw [hp] at hkd1; exact ⟨p, rfl, Option.some.inj hkd1⟩
          refine ⟨rfl, _, rfl, x, p.1, rfl, hkd2.ex e, hx.2 kvs rfl p (List.mem_of_getElem? hp1), fun H4 e4 => lc_put e' hD hl (by omega) e4 ?_⟩
          rw [List.take_add_one, List.map_append, hp1]
          rfl
        · rintro acc H1 e e' hD hl rfl
          refine ⟨D, kvs.map fun p => fld p.1, rfl, ?_, ?_⟩
          · have e1 : kvs.take ks.length = kvs := List.take_of_length_le (by omega)
            rw [e1] at hD
            rw [List.map_map]
            exact SqLo hD
          · have q := kf _ e
            have e2 : okP (.dict kvs) = ((kvs.map fun p => fld p.1).all id) := by
              show (decide (kvs.length ≤ 8) && kvs.all fun p => fld p.1) = _
              rw [decide_eq_true h1, List.all_map]
              rfl
            rw [e2] at q
            exact q
      · have e2 : okP (.dict kvs) = false := by
          have h1 : ¬ kvs.length ≤ 8 := fun q => by
            rw [decide_eq_true (show (kvs.length : Int) ≤ 8 by omega)] at h1
            cases h1
          show (decide (kvs.length ≤ 8) && kvs.all fun p => fld p.1) = _
          rw [decide_eq_false h1, Bool.false_and]
        have q := kf Hf (fun _ _ h => h)
        rw [e2] at q
        exact q
    | _ =>
      refine ⟨v, rfl, v, _, _, false, rfl, hd, rfl, _, rfl, if_f rfl ?_⟩
      refine ⟨v, rfl, v, _, _, false, rfl, hd, rfl, _, rfl, if_f rfl ?_⟩
      exact ⟨v, rfl, v, _, rfl, hd, hx.1, k⟩
end
end VL

namespace VL
open PySem L2 LW
open Evl (Ex)
/-! ### records by their names -/
def nm : PyData → Str
  | .str x => x
  | _ => ""
def names (kvs : List (PyData × PyData)) : List Str := kvs.map fun p => nm p.1
def AllStr (kvs : List (PyData × PyData)) : Prop := ∀ p ∈ kvs, p.1 = .str (nm p.1)
def getN : List (PyData × PyData) → Str → PyData
  | [], _ => .none
  | (k, d) :: r, y => if nm k = y then d else getN r y
theorem getN_self : ∀ {kvs : List (PyData × PyData)}, AllStr kvs → (names kvs).Nodup → (names kvs).map (fun y => (PyData.str y, getN kvs y)) = kvs
  | [], _, _ => rfl
  | (k, d) :: r, ha, hn => by
    have hn' : (nm k :: names r).Nodup := hn
    obtain ⟨h1, h2⟩ := List.nodup_cons.mp hn'
    have ih := getN_self (fun p hp => ha p (List.mem_cons_of_mem _ hp)) h2
    show (PyData.str (nm k), getN ((k, d) :: r) (nm k)) :: (names r).map (fun y => (PyData.str y, getN ((k, d) :: r) y)) = (k, d) :: r
    have e1 : getN ((k, d) :: r) (nm k) = d := by
      unfold getN
      rw [if_pos rfl]
    have e2 : PyData.str (nm k) = k := (ha (k, d) List.mem_cons_self).symm
    rw [e1, e2]
    congr 1
    refine Eq.trans ?_ ih
    · apply List.map_congr_left
      intro y hy
      have : nm k ≠ y := fun e => h1 (e ▸ hy)
      show (PyData.str y, if nm k = y then d else getN r y) = _
      rw [if_neg this]
theorem allStr_of {kvs : List (PyData × PyData)} (h : okP (.dict kvs) = true) : AllStr kvs ∧ kvs.length ≤ 8 := by
  have h' : (decide (kvs.length ≤ 8) && kvs.all fun p => fld p.1) = true := h
  rw [Bool.and_eq_true] at h'
  refine ⟨fun p hp => ?_, of_decide_eq_true h'.1⟩
  have q := List.all_eq_true.mp h'.2 p hp
  cases e : p.1 with
  | str x => rfl
  | _ => rw [e] at q; cases q
/-- the names of a tracked dict -/
theorem dtk_names {H : Hp} : ∀ {kvs : List (PyData × PyData)} {es : List (Key × V)}, DtK H kvs es → AllStr kvs → es.map (·.1) = (names kvs).map fun y => (Sum.inr y : Key)
  | [], _, h, _ => by
    unfold DtK at h
    subst h
    rfl
  | (k, d) :: r, _, h, ha => by
    unfold DtK at h
    obtain ⟨x, v, t, rfl, hk, _, h2⟩ := h
    have ih := dtk_names h2 (fun p hp => ha p (List.mem_cons_of_mem _ hp))
    show x :: t.map (·.1) = Sum.inr (nm k) :: (names r).map fun y => (Sum.inr y : Key)
    rw [ih]
    have e := ha (k, d) List.mem_cons_self
    have e' : k = .str (nm k) := e
    congr 1
    cases x with
    | inl i =>
      rw [hk] at e'
      cases e'
    | inr z =>
      rw [hk]
      rfl
theorem nodup_names {H : Hp} {kvs : List (PyData × PyData)} {es : List (Key × V)} (h : DtK H kvs es) (ha : AllStr kvs) (nd : (es.map (·.1)).Nodup) : (names kvs).Nodup := by
  rw [dtk_names h ha] at nd
  exact List.Pairwise.imp (fun h e => h (by rw [e])) (List.pairwise_map.mp nd)
theorem dtk_get {H : Hp} : ∀ {kvs : List (PyData × PyData)} {es : List (Key × V)}, DtK H kvs es → AllStr kvs → ∀ y ∈ names kvs, ∃ v, valV es (Sum.inr y : Key) = some v ∧ Dt H (getN kvs y) v
  | [], _, _, _, y, hy => by cases hy
  | (k, d) :: r, _, h, ha, y, hy => by
    unfold DtK at h
    obtain ⟨x, v, t, rfl, hk, h1, h2⟩ := h
    have e' : k = .str (nm k) := ha (k, d) List.mem_cons_self
    have hx : x = Sum.inr (nm k) := by
      cases x with
      | inl i => rw [hk] at e'; cases e'
      | inr z => rw [hk]; rfl
    by_cases e : nm k = y
    · refine ⟨v, ?_, ?_⟩
      · unfold valV
        rw [List.find?_cons_of_pos (by rw [hx, e]; exact decide_eq_true rfl)]
        rfl
      · unfold getN
        rw [if_pos e]
        exact h1
    · have hy' : y ∈ names r := by
        rcases List.mem_cons.mp (show y ∈ nm k :: names r from hy) with q | q
        · exact (e q.symm).elim
        · exact q
      obtain ⟨u, h3, h4⟩ := dtk_get h2 (fun p hp => ha p (List.mem_cons_of_mem _ hp)) y hy'
      refine ⟨u, ?_, ?_⟩
      · unfold valV at h3 ⊢
        rw [List.find?_cons_of_neg (by rw [hx]; intro q; exact e (Sum.inr.inj (of_decide_eq_true q)))]
        exact h3
      · unfold getN
        rw [if_neg e]
        exact h4
/-! ### the children, step by step -/
def KidsAre (d : PyData) (cs : List (V × PyData)) : Prop := match d with
  | .list ds => cs = (List.range ds.length).zipWith (fun (i : Nat) c => (V.int i, c)) ds
  | .dict kvs => ∃ ys : List Str, ys.Perm (names kvs) ∧ PyProof.Rows.sortedS ys = true ∧ cs = ys.map fun y => (V.str y, getN kvs y)
  | _ => cs = []
theorem kids_perm {d : PyData} {cs : List (V × PyData)} (h : KidsAre d cs) (hn : ∀ kvs, d = .dict kvs → AllStr kvs ∧ (names kvs).Nodup) : (cs.map (·.2)).Perm (kids d) := by
  cases d with
  | list ds =>
    have h : cs = (List.range ds.length).zipWith (fun (i : Nat) c => (V.int i, c)) ds := h
    have e : cs.map (·.2) = ds := by
      rw [h, List.map_zipWith]
      apply List.ext_getElem?
      intro i
      rw [List.getElem?_zipWith]
      by_cases hi : i < ds.length
      · rw [List.getElem?_range hi, List.getElem?_eq_getElem hi]
      · rw [List.getElem?_eq_none (l := ds) (by omega)]
        cases (List.range ds.length)[i]? <;> rfl
    rw [e]
    exact List.Perm.refl _
  | dict kvs =>
    obtain ⟨ys, p, _, rfl⟩ := h
    obtain ⟨ha, nd⟩ := hn kvs rfl
    have q := (p.map (fun y => (PyData.str y, getN kvs y))).trans (List.Perm.of_eq (getN_self ha nd))
    have q2 := q.map (·.2)
    rw [List.map_map] at q2
    rw [List.map_map]
    exact q2
  | _ =>
    have h : cs = [] := h
    subst h
    exact List.Perm.refl _
end VL

namespace VL
open PySem PySem.Spec L2 LW
open Evl (Ex)
/-! ### a dict of a value -/
theorem dict_val {H : Hp} {kvs : List (PyData × PyData)} {v : V} (h : Dt H (.dict kvs) v) (ok : AllStr kvs) : ∃ a es, v = .ref a ∧ L2.Rd H a (.dK es) ∧ (es.map (·.1)).Nodup ∧ DtK H kvs es := by
  unfold Dt at h
  obtain ⟨a, rfl, ⟨es, ha, nd, hl⟩ | ⟨k, x, ha, hl⟩⟩ := h
  · exact ⟨a, es, rfl, ha, nd, hl⟩
  · match kvs, hl with
    | [], hl =>
      unfold DtO at hl
      exact hl.elim
    | (kd, vd) :: r, hl =>
      unfold DtO at hl
      exact (hl.2.1 _ (ok (kd, vd) List.mem_cons_self)).elim
theorem names_kV {kvs : List (PyData × PyData)} {es : List (Key × V)} (e : es.map (·.1) = (names kvs).map fun y => (Sum.inr y : Key)) : (es.map fun p => kV p.1) = (names kvs).map V.str := by
  have q := congrArg (List.map kV) e
  rw [List.map_map, List.map_map] at q
  exact q
def RPair (H0 H : Hp) (v : V) (c : V × PyData) : Prop := ∃ t x, v = .ref t ∧ L2.Rd H t (.tup [c.1, x]) ∧ Dt H0 c.2 x
theorem RPair.rdx {H0 H H' : Hp} (e : RdX H H') {v : V} {c : V × PyData} (h : RPair H0 H v c) : RPair H0 H' v c := by
  obtain ⟨t, x, rfl, h1, h2⟩ := h
  exact ⟨t, x, rfl, e _ _ nf_tup h1, h2⟩
theorem RPair.ex {H0 H H' : Hp} (e : Ex H H') {v : V} {c : V × PyData} (h : RPair H0 H v c) : RPair H0 H' v c := h.rdx (rdx_ex e)
theorem pairs_ex {H0 H H' : Hp} (e : Ex H H') {vs : List V} {cs : List (V × PyData)} (h : Paired (RPair H0 H) vs cs) : Paired (RPair H0 H') vs cs := Paired.imp (fun _ _ q => RPair.ex e q) h
section
variable {P : Program} {w : World} {K : PySem.W.Frag} {mg : Str → Option Value} {base : Heap}
/-! ### children -/
def spKids : Sp := fun vs H Q _ => ∃ (v : V) (d : PyData) (H0 : Hp), vs = [v] ∧ Dt H0 d v ∧ Ex H0 H ∧ okP d = true ∧ ∀ p H' ts cs, Ex H H' → H p = none → H' p = some (.lst ts) → Paired (RPair H0 H') ts cs → KidsAre d cs → Q (.ref p) H'
theorem sc_children : FnScope ["value", "name", "index", "child", "field"] ["value"] (defScope s_children) := ⟨rfl, rfl, rfl, by decide +kernel, rfl, by decide +kernel, by decide +kernel⟩
theorem bi_children : BindsEq "children" s_children ["value"] := fun _ _ _ _ _ _ us hl => match us, hl with | [_], _ => rfl
theorem ok_kids (F : Df K mg "children" s_children) (T : Txt K mg) : Cal P w K mg base CX0 1 "children" spKids := by
  refine cal0 F sc_children bi_children (fun vs H Q E h => ?_) (fun f cdv A outer s H vs Q E hr h => ?_)
  · obtain ⟨v, d, H0, rfl, _⟩ := h
    rfl
  · obtain ⟨v, d, H0, rfl, hd0, x00, ho, k⟩ := h
    have hd := hd0.ex x00
    refine ⟨_, (pss_cons (ps_if (pt_val (pe_callB (isD K) rfl T.b_isinstance (by decide +kernel) (pa_cons (pv 0) (pa_cons (pe_bltn (v := .ty "dict") rfl T.b_dict (by decide +kernel) rfl) pa_nil)))) (pss_one (ps_lockA (ps_ret (pe_lc (own := [("name", 1)]) (by rfl) sc_children.nd (pil K (pe_callB (srK K) rfl T.b_sorted (by decide +kernel) (pa_cons (pe_lc (own := [("field", 4)]) (by rfl) sc_children.nd (pi_ka (pv 0)) (blkOk_by (own := [("field", 4)]) (N := ["value", "name", "index", "child", "field"]) (sc := defScope s_children) (by decide +kernel)) (fun _ _ _ _ _ => (pg_name (i := 4) sc_children.nd rfl (Or.inl rfl))) (fun _ _ _ _ _ => pts_nil) (fun _ _ _ _ _ => (pe_callTy strS rfl T.b_str (by decide +kernel) (pa_cons (pv 4) pa_nil)))) pa_nil))) (blkOk_by (own := [("name", 1)]) (N := ["value", "name", "index", "child", "field"]) (sc := defScope s_children) (by decide +kernel)) (fun _ _ _ _ _ => (pg_name (i := 1) sc_children.nd rfl (Or.inl rfl))) (fun _ _ _ _ _ => pts_nil) (fun _ _ _ _ _ => (pe_tup (pa_cons (pv 1) (pa_cons (pe_ix (ixA K) (pv 0) (pv 1) (fun _ _ => rfl)) pa_nil)))))))) pss_nil)
 (pss_cons (ps_if (pt_val (pe_callB (isD K) rfl T.b_isinstance (by decide +kernel) (pa_cons (pv 0) (pa_cons (pe_bltn (v := .ty "list") rfl T.b_list (by decide +kernel) rfl) pa_nil)))) (pss_one (ps_ret (pe_lc (own := [("index", 2), ("child", 3)]) (by rfl) sc_children.nd (pi_enum rfl T.b_enumerate (pa_cons (pv 0) pa_nil)) (blkOk_by (own := [("index", 2), ("child", 3)]) (N := ["value", "name", "index", "child", "field"]) (sc := defScope s_children) (by decide +kernel)) (fun _ _ _ _ _ => (pgt (n := 2) K rfl (pgs_cons (pg_name (i := 2) sc_children.nd rfl (Or.inl rfl)) (pgs_cons (pg_name (i := 3) sc_children.nd rfl (Or.inl rfl)) pgs_nil)))) (fun _ _ _ _ _ => pts_nil) (fun _ _ _ _ _ => (pe_tup (pa_cons (pv 2) (pa_cons (pv 3) pa_nil))))))) pss_nil)
 (pss_one (ps_ret (pe_lst pa_nil))))), ?_⟩
    cases d with
    | dict kvs =>
      refine ⟨v, rfl, v, _, _, true, rfl, hd, rfl, _, rfl, if_t rfl ?_⟩
      obtain ⟨ha, hlen⟩ := allStr_of ho
      obtain ⟨a, es, rfl, hae0, nd, hk⟩ := dict_val hd0 ha
      have hae := rd_ex x00 hae0
      have hnm := dtk_names hk ha
      have hks := names_kV hnm
      have hln : (names kvs).length = kvs.length := by
        unfold names
        rw [List.length_map]
      refine lockA_any hae True.intro ?_
      intro Hf o D' th rx hf hno hth kf _
      refine ⟨_, rfl, a, o, _, (names kvs).map V.str, rfl, hf, .inl ⟨es, rfl, hks.symm⟩, fun D1 nD1 => lc_gr walk_ka (fun i acc _ => acc = ((names kvs).take i).map V.str) nD1 (by rw [List.length_map]; omega) rfl (fun H' e => e _ _ hf) ?_ ?_⟩
      · rintro i x acc H1 H2 hi e e' hD hl rfl ⟨rfl, hx1⟩
        obtain ⟨y, hy, rfl⟩ : ∃ y, (names kvs)[i]? = some y ∧ V.str y = x := by
          rw [List.getElem?_map] at hx1
          cases hp : (names kvs)[i]? with
          | none => rw [hp] at hx1; cases hx1
          | some p => rw [hp] at hx1; exact ⟨p, rfl, Option.some.inj hx1⟩
        refine ⟨rfl, _, rfl, y, rfl, lc_put e' hD hl (by rw [List.length_map] at hi; omega) (fun _ _ h => h) ?_⟩
        rw [List.take_add_one, List.map_append, hy]
        rfl
      · rintro acc H1 e e' hD hl rfl
        have e1 : (names kvs).take ((names kvs).map V.str).length = names kvs := List.take_of_length_le (by rw [List.length_map]; exact Nat.le_refl _)
        rw [e1] at hD
        refine ⟨D1, names kvs, rfl, SqLo hD, by omega, fun ys p py sy np => ?_⟩
        have x1 : Ex H1 (upd H1 p (.lst (ys.map V.str))) := Ex.new np
        have hyl : ys.length = kvs.length := by rw [py.length_eq, hln]
        refine ⟨p, rfl, ⟨_, SqLo upd_same⟩, fun D2 nD2 => lc_gr (walk_list (xs := ys.map V.str)) (fun i acc Hc => Paired (RPair H0 Hc) acc ((ys.take i).map fun y => (V.str y, getN kvs y))) nD2 (by rw [List.length_map]; omega) .nil (fun H' e => SqLo (e _ _ upd_same)) ?_ ?_⟩
        · rintro i x acc H2 H3 hi g g' gD gl gr ⟨rfl, hx1⟩
          obtain ⟨y, hy, rfl⟩ : ∃ y, ys[i]? = some y ∧ V.str y = x := by
            rw [List.getElem?_map] at hx1
            cases hp : ys[i]? with
            | none => rw [hp] at hx1; cases hx1
            | some p => rw [hp] at hx1; exact ⟨p, rfl, Option.some.inj hx1⟩
          obtain ⟨u, hu1, hu2⟩ := dtk_get hk ha y (py.mem_iff.mp (List.mem_of_getElem? hy))
          have xf : Ex Hf H3 := e.trans (x1.trans g)
          have xf' : Ex Hf (del H3 D2) := e.trans (x1.trans g')
          refine ⟨rfl, _, rfl, _, rfl, _, rfl, .inr ⟨a, es, .inr y, u, rfl, rfl, .inr ⟨o, xf _ _ hf⟩, hu1, szl (by show 2 ≤ 100000; decide), fun q nq => ?_⟩⟩
          refine lc_put g' gD gl (by rw [List.length_map] at hi; omega) (Ex.new nq) ?_
          have ne : q ≠ D2 := fun z => by
            rw [z, gD] at nq
            cases nq
          have gx : Ex (del H3 D2) (del (upd H3 q (.tup [V.str y, u])) D2) := del_grow' (Ex.new nq)
          rw [List.take_add_one, List.map_append, hy]
          refine Paired.app (pairs_ex gx gr) (.cons ⟨q, u, rfl, .inl ?_, hu2⟩ .nil)
          rw [del_ne ne]
          exact upd_same
        · rintro acc H2 g g' gD gl gr
          have xf : Ex Hf H2 := e.trans (x1.trans g)
          refine kf _ H2 xf ?_
          obtain ⟨t1, t2, t3⟩ := hth H2 xf
          have nD : H D2 = none := hno _ (ex_free e (ex_free x1 nD2))
          have ne : D2 ≠ a := fun z => by
            obtain ⟨w, hw⟩ := rd_some hae
            rw [z, hw] at nD
            cases nD
          have e3 : ys.take (ys.map V.str).length = ys := List.take_of_length_le (by rw [List.length_map]; exact Nat.le_refl _)
          rw [e3] at gr
          refine k D2 _ acc _ t1 nD (by rw [t3 _ ne]; exact gD) (Paired.imp (fun _ _ q => (q.ex ex_del).rdx t2) gr) ⟨ys, py, sy, rfl⟩
    | list ds =>
      refine ⟨v, rfl, v, _, _, false, rfl, hd, rfl, _, rfl, if_f rfl ?_⟩
      refine ⟨v, rfl, v, _, _, true, rfl, hd, rfl, _, rfl, if_t rfl ?_⟩
      unfold Dt at hd0
      obtain ⟨a, xs, rfl, hax0, hl⟩ := hd0
      have hax := rd_ex x00 hax0
      have hlen := hl.len
      have h60 : ds.length < 60 := of_decide_eq_true ho
      refine ⟨_, rfl, a, xs, rfl, .inl hax, fun D nD => lc_gr (walk_enum (K := K) (a := a) (xs := xs)) (fun i acc Hc => Paired (RPair H0 Hc) acc (((List.range ds.length).zipWith (fun (i : Nat) c => (V.int i, c)) ds).take i)) nD (by omega) .nil (fun H' e => .inl (rd_ex e hax)) ?_ ?_⟩
      · rintro i x acc H1 H2 hi g g' gD gl gr ⟨q, y, z, rfl, nq, rfl, hy, hz⟩
        cases hy
        obtain ⟨dc, hdc, hdt⟩ := hl.get hz
        have gq : Ex H1 (upd H1 q (.tup [V.int i, z])) := Ex.new nq
        refine ⟨q, _, rfl, SqTo upd_same, rfl, _, _, rfl, _, _, rfl, rfl, rfl, _, rfl, _, rfl, szl (by show 2 ≤ 100000; decide), fun t nt => ?_⟩
        have gt : Ex H1 (upd (upd H1 q (.tup [V.int i, z])) t (.tup [V.int i, z])) := gq.trans (Ex.new nt)
        refine lc_put g' gD gl (by omega) gt ?_
        have ne : t ≠ D := fun e => by
          rw [e, gq _ _ gD] at nt
          cases nt
        have gx := del_grow' (p := D) gt
        rw [List.take_add_one]
        have e3 : ((List.range ds.length).zipWith (fun (i : Nat) c => (V.int i, c)) ds)[i]? = some (V.int i, dc) := by
          rw [List.getElem?_zipWith, List.getElem?_range (by omega), hdc]
        rw [e3]
        refine Paired.app (pairs_ex gx gr) (.cons ⟨t, z, rfl, .inl ?_, hdt⟩ .nil)
        rw [del_ne ne]
        exact upd_same
      · rintro acc H1 g g' gD gl gr
        refine k D H1 acc _ g nD gD (pairs_ex ex_del gr) ?_
        show _ = _
        exact List.take_of_length_le (by rw [List.length_zipWith, List.length_range]; omega)
    | _ =>
      refine ⟨v, rfl, v, _, _, false, rfl, hd, rfl, _, rfl, if_f rfl ?_⟩
      refine ⟨v, rfl, v, _, _, false, rfl, hd, rfl, _, rfl, if_f rfl ?_⟩
      refine ⟨szl (by decide), fun p np => k p _ [] [] (Ex.new np) np upd_same .nil rfl⟩
end
end VL

namespace VL
open PySem PySem.Spec L2 LW
open Evl (Ex)
/-! ### texts are short -/
mutual
def szA : PyData → Prop
  | .str x => x.length ≤ 10000
  | .list ds => szL ds
  | .dict kvs => szK kvs
  | _ => True
def szL : List PyData → Prop
  | [] => True
  | d :: r => szA d ∧ szL r
def szK : List (PyData × PyData) → Prop
  | [] => True
  | (k, d) :: r => szA k ∧ szA d ∧ szK r
end
theorem szL_mem : ∀ {ds : List PyData} {d : PyData}, szL ds → d ∈ ds → szA d
  | c :: r, d, h, m => by
    unfold szL at h
    rcases List.mem_cons.mp m with rfl | m
    · exact h.1
    · exact szL_mem h.2 m
theorem szL_of : ∀ {ds : List PyData}, (∀ d ∈ ds, szA d) → szL ds
  | [], _ => by unfold szL; trivial
  | c :: r, h => by
    unfold szL
    exact ⟨h c List.mem_cons_self, szL_of fun d m => h d (List.mem_cons_of_mem _ m)⟩
theorem szK_mem : ∀ {ds : List (PyData × PyData)} {p : PyData × PyData}, szK ds → p ∈ ds → szA p.1 ∧ szA p.2
  | c :: r, d, h, m => by
    unfold szK at h
    rcases List.mem_cons.mp m with rfl | m
    · exact ⟨h.1, h.2.1⟩
    · exact szK_mem h.2.2 m
theorem szK_of : ∀ {ds : List (PyData × PyData)}, (∀ p ∈ ds, szA p.1 ∧ szA p.2) → szK ds
  | [], _ => by unfold szK; trivial
  | c :: r, h => by
    unfold szK
    exact ⟨(h c List.mem_cons_self).1, (h c List.mem_cons_self).2, szK_of fun d m => h d (List.mem_cons_of_mem _ m)⟩
theorem szA_str {x : Str} (h : szA (.str x)) : x.length ≤ 10000 := by unfold szA at h; exact h
theorem szD_of {d : PyData} (h : szA d) : SzD d := by
  refine ⟨fun x e => ?_, fun kvs e p hp x ex => ?_⟩
  · subst e
    have := szA_str h
    exact szl (by omega)
  · subst e
    unfold szA at h
    have q := (szK_mem h hp).1
    rw [ex] at q
    have := szA_str q
    exact szl (by omega)
theorem szA_kids {d : PyData} (h : szA d) : szL (kids d) := by
  cases d with
  | list ds => unfold szA at h; exact h
  | dict kvs =>
    unfold szA at h
    refine szL_of fun c hc => ?_
    obtain ⟨p, hp, rfl⟩ := List.mem_map.mp hc
    exact (szK_mem h hp).2
  | _ => exact szL_of nofun
theorem kids_len {d : PyData} (h : okP d = true) : (kids d).length ≤ 60 := by
  cases d with
  | list ds =>
    have : ds.length < 60 := of_decide_eq_true h
    show ds.length ≤ 60
    omega
  | dict kvs =>
    obtain ⟨_, h8⟩ := allStr_of h
    show (kvs.map (·.2)).length ≤ 60
    rw [List.length_map]
    omega
  | _ => exact Nat.zero_le _
theorem kids_ns {H : Hp} {d : PyData} {v : V} (hd : Dt H d v) (h : okP d = true) : ∀ kvs, d = .dict kvs → AllStr kvs ∧ (names kvs).Nodup := by
  rintro kvs rfl
  obtain ⟨ha, _⟩ := allStr_of h
  obtain ⟨a, es, rfl, _, nd, hk⟩ := dict_val hd ha
  exact ⟨ha, nodup_names hk ha nd⟩
theorem dtl_drop {H : Hp} : ∀ {ds : List PyData} {vs : List V} {y : V}, DtL H ds vs → vs[vs.length - 1]? = some y → ∃ d, ds = ds.dropLast ++ [d] ∧ Dt H d y ∧ DtL H ds.dropLast vs.dropLast
  | [], _, y, h, e => by
    unfold DtL at h
    subst h
    cases e
  | [d], _, y, h, e => by
    unfold DtL at h
    obtain ⟨v, t, rfl, h1, h2⟩ := h
    unfold DtL at h2
    subst h2
    cases e
    exact ⟨d, rfl, h1, DtL.nil⟩
  | d :: c :: r, _, y, h, e => by
    unfold DtL at h
    obtain ⟨v, t, rfl, h1, h2⟩ := h
    have h2' := h2
    unfold DtL at h2'
    obtain ⟨u, t', rfl, _, _⟩ := h2'
    have e' : (u :: t')[(u :: t').length - 1]? = some y := by
      simpa using e
    obtain ⟨x, q1, q2, q3⟩ := dtl_drop h2 e'
    refine ⟨x, ?_, q2, ?_⟩
    · show d :: c :: r = (d :: (c :: r).dropLast) ++ [x]
      rw [List.cons_append, ← q1]
    · exact DtL.cons h1 q3
theorem dtl_of_pairs {H : Hp} : ∀ {ts : List V} {cs : List (V × PyData)} {us : List V}, (∀ (i : Nat) c, cs[i]? = some c → ∃ u, us[i]? = some u ∧ Dt H c.2 u) → us.length = cs.length → DtL H (cs.map (·.2)) us
  | _, [], us, _, e => by
    have : us = [] := List.length_eq_zero_iff.mp e
    subst this
    exact DtL.nil
  | ts, c :: r, us, h, e => by
    obtain ⟨u, h1, h2⟩ := h 0 c rfl
    match us, h1, e with
    | u' :: t, h1, e =>
      cases h1
      exact DtL.cons h2 (dtl_of_pairs (ts := ts) (fun i c hc => h (i + 1) c (by simpa using hc)) (by simpa using e))
def isV (d : PyData) : Bool := okA d && decide (cnt d ≤ 60)
theorem del_upd {H : Hp} {p : Addr} {o : HO} : del (upd H p o) p = del H p := by
  funext b
  by_cases hb : b = p
  · rw [hb, del_same, del_same]
  · rw [del_ne hb, del_ne hb, upd_ne hb]
theorem ex_del_upd {H : Hp} {p : Addr} {o : HO} : Ex (del H p) (upd H p o) := fun b u q => by
  by_cases hb : b = p
  · rw [hb, del_same] at q
    cases q
  · rw [del_ne hb] at q
    rw [upd_ne hb]
    exact q
/-! ### is_value -/
def spIsVal : Sp := fun vs H Q _ => ∃ (v : V) (d : PyData), vs = [v] ∧ Dt H d v ∧ szA d ∧ ∀ H', Ex H H' → Q (.bl (isV d)) H'
def IsVW (H : Hp) (v : V) (d : PyData) (p : Addr) (m : Nat) (σ : L2.St) (H' : Hp) : Prop := ∃ (many : Nat) (ws : List V) (ds : List PyData) (o3 o4 o5 : Option V), σ = [some v, some (.ref p), some (.int many), o3, o4, o5] ∧ m = cntL ds ∧ Ex H (del H' p) ∧ H' p = some (.lst ws) ∧ DtL (del H' p) ds ws ∧ szL ds ∧ many ≤ 60 ∧ ws.length ≤ 1 + 60 * many ∧ isV d = (okL ds && decide (many + cntL ds ≤ 60))
section
variable {P : Program} {w : World} {K : PySem.W.Frag} {mg : Str → Option Value} {base : Heap}
theorem sc_is_value : FnScope ["thing", "waiting", "many", "one", "step", "child"] ["thing"] (defScope s_is_value) := ⟨rfl, rfl, rfl, by decide +kernel, rfl, by decide +kernel, by decide +kernel⟩
theorem bi_is_value : BindsEq "is_value" s_is_value ["thing"] := fun _ _ _ _ _ _ us hl => match us, hl with | [_], _ => rfl
theorem ok_isval (F : Df K mg "is_value" s_is_value) (T : Txt K mg) (C_is_part : Cal P w K mg base CX0 3 "is_part" spPart) (C_children : Cal P w K mg base CX0 1 "children" spKids) : Cal P w K mg base CX0 4 "is_value" spIsVal := by
  refine cal0 F sc_is_value bi_is_value (fun vs H Q E h => ?_) (fun f cdv A outer s H vs Q E hr h => ?_)
  · obtain ⟨v, d, rfl, _⟩ := h
    rfl
  · obtain ⟨v, d, rfl, hd, hz, k⟩ := h
    refine ⟨_, (pss_cons (ps_set (i := 1) sc_is_value.nd rfl (Or.inl rfl) (pe_lst (pa_cons (pv 0) pa_nil)))
 (pss_cons (ps_set (i := 2) sc_is_value.nd rfl (Or.inl rfl) pe_int)
 (pss_cons (ps_while PassesOwn.never (pt_cmpR op_gt (pe_callB (lnK K) rfl T.b_len (by decide +kernel) (pa_cons (pv 1) pa_nil)) pe_int (nomark _)) (pss_cons (ps_set (i := 3) sc_is_value.nd rfl (Or.inl rfl) (pe_bm0 PySem.F.plainAttrs_list PySem.F.slot_list_pop PySem.F.type_list_pop mt_pop (pv 1)))
 (pss_cons (ps_aug (i := 2) sc_is_value.nd rfl (.inl rfl) pe_int ip_add)
 (pss_cons (ps_if (PW.pt (pw_or (pt_cmpR op_gt (pv 2) (pgc rfl T.g_MOST_PLACES) (nomark _)) (pw_or1 (pt_not (pt_val (pe_k C_is_part hr (by decide) rfl (pa_cons (pv 3) pa_nil))))))) (pss_one (ps_ret pe_bl)) pss_nil)
 (pss_one (ps_expr (pe_bm PySem.F.plainAttrs_list PySem.F.slot_list_extend PySem.F.type_list_extend mt_extend (pv 1) (pa_cons (pe_lc (own := [("step", 4), ("child", 5)]) (by rfl) sc_is_value.nd (pil K (pe_k C_children hr (by decide) rfl (pa_cons (pv 3) pa_nil))) (blkOk_by (own := [("step", 4), ("child", 5)]) (N := ["thing", "waiting", "many", "one", "step", "child"]) (sc := defScope s_is_value) (by decide +kernel)) (fun _ _ _ _ _ => (pgt (n := 2) K rfl (pgs_cons (pg_name (i := 4) sc_is_value.nd rfl (Or.inl rfl)) (pgs_cons (pg_name (i := 5) sc_is_value.nd rfl (Or.inl rfl)) pgs_nil)))) (fun _ _ _ _ _ => pts_nil) (fun _ _ _ _ _ => (pv 5))) pa_nil))))))))
 (pss_one (ps_ret pe_bl))))), ?_⟩
    refine ⟨_, rfl, szl (by show 1 ≤ 100000; decide), fun p np => ?_⟩
    refine ⟨IsVW H v d p, ?_, ?_⟩
    · refine ⟨_, 0, [v], [d], none, none, none, rfl, rfl, ?_, upd_same, ?_, ?_, by omega, by show 1 ≤ _; omega, ?_⟩
      · rw [del_none np]
        exact fun _ _ h => h
      · rw [del_none np]
        exact DtL.cons hd DtL.nil
      · exact szL_of fun c hc => by
          cases List.mem_singleton.mp hc
          exact hz
      · unfold isV okL okL cntL cntL
        rw [Bool.and_true, Nat.zero_add, Nat.add_zero]
    · rintro m σ H1 ⟨many, ws, ds, o3, o4, o5, rfl, rfl, e1, hp, hds, hsz, hm, hwl, hval⟩
      have e0 : Ex H H1 := e1.trans ex_del
      have hlen := hds.len
      refine ⟨_, rfl, .ref p, ws.length, rfl, .inl ⟨ws, .inl (.inl hp), rfl⟩, _, _, rfl, rfl, _, rfl, if_b (fun hc => ?_) (fun hc => ?_)⟩
      · have hw0 : 0 < ws.length := by
          have := of_decide_eq_true hc
          omega
        obtain ⟨y, hy⟩ : ∃ y, ws[ws.length - 1]? = some y := ⟨_, List.getElem?_eq_getElem (by omega)⟩
        obtain ⟨dd, hdd, hdy, hdl'⟩ := dtl_drop hds hy
        have hcl : cntL ds = cntL ds.dropLast + cnt dd := by
          conv => lhs; rw [hdd]
          rw [cntL_app]
          unfold cntL cntL
          omega
        have hol : okL ds = (okL ds.dropLast && okA dd) := by
          conv => lhs; rw [hdd]
          rw [okL_app]
          unfold okL okL
          rw [Bool.and_true]
        have hsd : szA dd := szL_mem hsz (by rw [hdd]; simp)
        have hpos := cnt_pos dd
        refine ⟨fun σ' H' => ∃ m', m' < cntL ds ∧ IsVW H v d p m' σ' H', fun _ _ h => h, ?_⟩
        refine ⟨_, rfl, .inl ⟨rfl, _, SqLo hp⟩, p, ws, y, rfl, rfl, hp, hy, ?_⟩
        have exA : Ex (del H1 p) (upd H1 p (.lst ws.dropLast)) := ex_del_upd
        generalize hA : upd H1 p (.lst ws.dropLast) = HA at exA ⊢
        have hpA : HA p = some (.lst ws.dropLast) := by rw [← hA]; exact upd_same
        have hdelA : del HA p = del H1 p := by rw [← hA]; exact del_upd
        refine ⟨_, rfl, _, _, rfl, rfl, ?_⟩
        refine ⟨_, rfl, _, _, rfl, rfl, _, rfl, if_b (fun h1 => ?_) (fun h1 => ?_)⟩
        · -- too many places
          have h1 : (60 : Int) < many + 1 := of_decide_eq_true h1
          have e : isV d = false := by
            rw [hval, decide_eq_false (by omega), Bool.and_false]
          have q := k HA (e1.trans exA)
          rw [e] at q
          exact q
        · have h1' : many < 60 := by
            have : ¬ (60 : Int) < many + 1 := of_decide_eq_false h1
            omega
          refine ⟨_, rfl, y, dd, rfl, hdy.ex exA, szD_of hsd, fun H2 x2 => ⟨_, rfl, if_b (fun h2 => ?_) (fun h2 => ?_)⟩⟩
          · -- no part
            have h2 : okP dd = false := by simpa using h2
            have e : isV d = false := by
              rw [hval, hol, okA_kids, h2, Bool.false_and, Bool.and_false, Bool.false_and]
            have q := k H2 (e1.trans (exA.trans x2))
            rw [e] at q
            exact q
          · have h2 : okP dd = true := by simpa using h2
            have ex2 : Ex (del H1 p) H2 := exA.trans x2
            have ex2' : Ex (del H1 p) (del H2 p) := by
              rw [← hdelA]
              exact del_grow' x2
            refine ⟨_, rfl, .inl ⟨rfl, _, SqLo (x2 _ _ hpA)⟩, _, rfl, y, dd, _, rfl, hdy, ex2, h2, fun q H3 ts cs x3 nq hq hts hcs => ?_⟩
            have hkp := kids_perm hcs (kids_ns hdy h2)
            have hkl : cs.length ≤ 60 := by
              have := kids_len h2
              have := hkp.length_eq
              rw [List.length_map] at this
              omega
            have htl : ts.length = cs.length := Paired.len hts
            refine ⟨q, rfl, ⟨_, SqLo hq⟩, fun D nD => lc_gr (walk_list (xs := ts)) (fun i acc _ => DtL (del H1 p) ((cs.take i).map (·.2)) acc) nD (by omega) DtL.nil (fun H' e => SqLo (e _ _ hq)) ?_ ?_⟩
            · rintro i x acc H4 H5 hi g g' gD gl gr ⟨rfl, hx1⟩
              obtain ⟨c, hc1, t, u, rfl, ht, hu⟩ := Paired.get hts hx1
              refine ⟨t, _, rfl, .inl (rd_ex g ht), rfl, _, _, rfl, _, _, rfl, rfl, rfl, _, rfl, lc_put g' gD gl (by omega) (fun _ _ h => h) ?_⟩
              rw [List.take_add_one, List.map_append, hc1]
              exact DtL.app gr (DtL.cons hu DtL.nil)
            · rintro acc H4 g g' gD gl gr
              have e3 : cs.take ts.length = cs := List.take_of_length_le (by omega)
              rw [e3] at gr
              have pD : p ≠ D := fun z => by
                rw [← z, x3 _ _ (x2 _ _ hpA)] at nD
                cases nD
              have hp4 : H4 p = some (.lst ws.dropLast) := g _ _ (x3 _ _ (x2 _ _ hpA))
              have hdl : ws.dropLast.length = ws.length - 1 := List.length_dropLast
              refine ⟨p, D, ws.dropLast, acc, rfl, rfl, hp4, gD, szl (by omega), ?_⟩
              have ex4 : Ex (del H1 p) (del H4 p) := ex2'.trans (del_grow' (x3.trans g))
              have hcc : cntL (cs.map (·.2)) + 1 = cnt dd := by
                rw [cntL_perm hkp, cnt_kids dd]
                omega
              refine ⟨cntL (ds.dropLast ++ cs.map (·.2)), ?_, many + 1, ws.dropLast ++ acc, ds.dropLast ++ cs.map (·.2), _, _, _, rfl, rfl, ?_, upd_same, ?_, ?_, by omega, ?_, ?_⟩
              · rw [cntL_app]
                omega
              · rw [del_upd]
                exact e1.trans ex4
              · rw [del_upd]
                exact (DtL.app hdl' gr).ex ex4
              · refine szL_of fun c hc => ?_
                rcases List.mem_append.mp hc with hc | hc
                · exact szL_mem hsz (List.dropLast_subset _ hc)
                · exact szL_mem (szA_kids hsd) (hkp.mem_iff.mp hc)
              · rw [List.length_append]
                omega
              · rw [hval, hol, okL_app, okL_perm hkp, okA_kids dd, h2, Bool.true_and, cntL_app]
                congr 1
                exact decide_eq_decide.mpr (by omega)
      · -- nothing waits
        have hw0 : ws = [] := by
          have : ¬ (0 : Int) < ws.length := of_decide_eq_false hc
          exact List.length_eq_zero_iff.mp (by omega)
        have hd0 : ds = [] := List.length_eq_zero_iff.mp (by rw [← hlen, hw0]; rfl)
        have e : isV d = true := by
          rw [hval, hd0]
          unfold okL cntL
          rw [Bool.true_and]
          exact decide_eq_true (by omega)
        have q := k H1 e0
        rw [e] at q
        exact q
end
end VL

namespace VL
open PySem L2 LW
/-! ### small data: what repr can show -/
mutual
def lim : PyData → Prop
  | .none => True
  | .bool _ => True
  | .int i => -big ≤ i ∧ i ≤ big
  | .str x => x.length ≤ 21 ∧ ∀ c ∈ x.cps.toList, c < 128
  | .list ds => limL ds
  | .tuple ds => limL ds
  | .dict kvs => limK kvs
def limL : List PyData → Prop
  | [] => True
  | d :: r => lim d ∧ limL r
def limK : List (PyData × PyData) → Prop
  | [] => True
  | (k, d) :: r => lim k ∧ lim d ∧ limK r
end
mutual
def nod : PyData → Nat
  | .list ds => 1 + nodL ds
  | .tuple ds => 1 + nodL ds
  | .dict kvs => 1 + nodK kvs
  | .none => 1
  | .bool _ => 1
  | .int _ => 1
  | .str _ => 1
def nodL : List PyData → Nat
  | [] => 0
  | d :: r => nod d + nodL r
def nodK : List (PyData × PyData) → Nat
  | [] => 0
  | (k, d) :: r => nod k + nod d + nodK r
end
theorem big_abs {i : Int} (h : -big ≤ i ∧ i ≤ big) : i.natAbs < 10 ^ 31 := by
  unfold big at h
  omega
mutual
theorem lim_short : ∀ d : PyData, lim d → d.leavesShort 40 = true
  | .none, _ => rfl
  | .bool _, _ => rfl
  | .int i, h => by
    unfold lim at h
    have e := int_text_length_le10 (a := i) (k := 31) (by decide) (big_abs h)
    simp only [PyData.leavesShort, PyData.shown, ofString_length]
    exact decide_eq_true (by omega)
  | .str x, h => by
    unfold lim at h
    simp only [PyData.leavesShort]
    exact List.all_eq_true.mpr fun c hc => decide_eq_true (Nat.lt_trans (h.2 c hc) (by decide))
  | .list ds, h => by
    unfold lim at h
    simp only [PyData.leavesShort]
    exact limL_short ds h
  | .tuple ds, h => by
    unfold lim at h
    simp only [PyData.leavesShort]
    exact limL_short ds h
  | .dict kvs, h => by
    unfold lim at h
    simp only [PyData.leavesShort]
    exact limK_short kvs h
theorem limL_short : ∀ ds : List PyData, limL ds → PyData.leavesShortAll 40 ds = true
  | [], _ => rfl
  | d :: r, h => by
    unfold limL at h
    simp only [PyData.leavesShortAll, lim_short d h.1, limL_short r h.2, Bool.and_self]
theorem limK_short : ∀ ds : List (PyData × PyData), limK ds → PyData.leavesShortKv 40 ds = true
  | [], _ => rfl
  | (k, d) :: r, h => by
    unfold limK at h
    simp only [PyData.leavesShortKv, lim_short k h.1, lim_short d h.2.1, limK_short r h.2.2, Bool.and_self]
end
mutual
theorem lim_show : ∀ d : PyData, lim d → d.showable = true
  | .none, _ => rfl
  | .bool _, _ => rfl
  | .int i, h => by
    unfold lim at h
    simp only [PyData.showable]
    refine decide_eq_true ?_
    have q := big_abs h
    by_cases h0 : i.natAbs = 0
    · rw [h0]
      decide
    · have q1 : i.natAbs.log2 < 104 := (Nat.log2_lt h0).mpr (Nat.lt_trans q (by decide))
      omega
  | .str x, h => rfl
  | .list ds, h => by
    unfold lim at h
    simp only [PyData.showable]
    exact limL_show ds h
  | .tuple ds, h => by
    unfold lim at h
    simp only [PyData.showable]
    exact limL_show ds h
  | .dict kvs, h => by
    unfold lim at h
    simp only [PyData.showable]
    exact limK_show kvs h
theorem limL_show : ∀ ds : List PyData, limL ds → PyData.showableAll ds = true
  | [], _ => rfl
  | d :: r, h => by
    unfold limL at h
    simp only [PyData.showableAll, lim_show d h.1, limL_show r h.2, Bool.and_self]
theorem limK_show : ∀ ds : List (PyData × PyData), limK ds → PyData.showableKv ds = true
  | [], _ => rfl
  | (k, d) :: r, h => by
    unfold limK at h
    simp only [PyData.showableKv, lim_show k h.1, lim_show d h.2.1, limK_show r h.2.2, Bool.and_self]
end
theorem nod_pos : ∀ d : PyData, 1 ≤ nod d
  | .none => by simp [nod]
  | .bool _ => by simp [nod]
  | .int i => by simp [nod]
  | .str x => by simp [nod]
  | .list ds => by simp only [nod]; omega
  | .tuple ds => by simp only [nod]; omega
  | .dict kvs => by simp only [nod]; omega
mutual
theorem bulk_le : ∀ d : PyData, lim d → d.bulk + 1 ≤ 24 * nod d
  | .none, _ => by simp [PyData.bulk, nod]
  | .bool _, _ => by simp [PyData.bulk, nod]
  | .int i, h => by simp [PyData.bulk, nod]
  | .str x, h => by
    unfold lim at h
    simp only [PyData.bulk, nod]
    have : x.cps.size ≤ 21 := h.1
    omega
  | .list ds, h => by
    unfold lim at h
    have := bulkL_le ds h
    simp only [PyData.bulk, nod]
    omega
  | .tuple ds, h => by
    unfold lim at h
    have := bulkL_le ds h
    simp only [PyData.bulk, nod]
    omega
  | .dict kvs, h => by
    unfold lim at h
    have := bulkK_le kvs h
    simp only [PyData.bulk, nod]
    omega
theorem bulkL_le : ∀ ds : List PyData, limL ds → PyData.bulkAll ds ≤ 24 * nodL ds
  | [], _ => by simp [PyData.bulkAll, nodL]
  | d :: r, h => by
    unfold limL at h
    have h1 := bulk_le d h.1
    have h2 := bulkL_le r h.2
    simp only [PyData.bulkAll, nodL]
    omega
theorem bulkK_le : ∀ ds : List (PyData × PyData), limK ds → PyData.bulkKv ds ≤ 24 * nodK ds
  | [], _ => by simp [PyData.bulkKv, nodK]
  | (k, d) :: r, h => by
    unfold limK at h
    have h1 := bulk_le k h.1
    have h2 := bulk_le d h.2.1
    have h3 := bulkK_le r h.2.2
    simp only [PyData.bulkKv, nodK]
    omega
end
mutual
theorem depth_le : ∀ d : PyData, d.depth ≤ nod d
  | .none => by simp [PyData.depth]
  | .bool _ => by simp [PyData.depth]
  | .int i => by simp [PyData.depth]
  | .str x => by simp [PyData.depth]
  | .list ds => by
    have := depthL_le ds
    simp only [PyData.depth, nod]
    omega
  | .tuple ds => by
    have := depthL_le ds
    simp only [PyData.depth, nod]
    omega
  | .dict kvs => by
    have := depthK_le kvs
    simp only [PyData.depth, nod]
    omega
theorem depthL_le : ∀ ds : List PyData, PyData.depthAll ds ≤ nodL ds
  | [] => by simp [PyData.depthAll]
  | d :: r => by
    have h1 := depth_le d
    have h2 := depthL_le r
    simp only [PyData.depthAll, nodL]
    omega
theorem depthK_le : ∀ ds : List (PyData × PyData), PyData.depthKv ds ≤ nodK ds
  | [] => by simp [PyData.depthKv]
  | (k, d) :: r => by
    have h1 := depth_le k
    have h2 := depth_le d
    have h3 := depthK_le r
    simp only [PyData.depthKv, nodK]
    omega
end
/-- data that repr shows -/
structure Sm (d : PyData) : Prop where
  l : lim d
  n : nod d ≤ 140
theorem Sm.show {d : PyData} (h : Sm d) : d.showable = true := lim_show d h.l
theorem Sm.depth {d : PyData} (h : Sm d) : d.depth ≤ 150 := Nat.le_trans (depth_le d) (Nat.le_trans h.n (by decide))
theorem Sm.size {d : PyData} (h : Sm d) : d.shown.length ≤ sizeLine := by
  have h1 := PyData.shown_le_bulk 40 (by decide) d (lim_short d h.l)
  have h2 := bulk_le d h.l
  have h3 := h.n
  refine Nat.le_trans (m := 200000) ?_ (by decide)
  have h4 : d.bulk ≤ 3360 := by omega
  have h5 : (40 + 2) * d.bulk ≤ (40 + 2) * 3360 := Nat.mul_le_mul_left _ h4
  omega
mutual
theorem lim_sz : ∀ d : PyData, lim d → szA d
  | .none, _ => by unfold szA; trivial
  | .bool _, _ => by unfold szA; trivial
  | .int i, h => by unfold szA; trivial
  | .tuple i, h => by unfold szA; trivial
  | .str x, h => by
    unfold lim at h
    unfold szA
    have := h.1
    omega
  | .list ds, h => by
    unfold lim at h
    unfold szA
    exact limL_sz ds h
  | .dict kvs, h => by
    unfold lim at h
    unfold szA
    exact limK_sz kvs h
theorem limL_sz : ∀ ds : List PyData, limL ds → szL ds
  | [], _ => by unfold szL; trivial
  | d :: r, h => by
    unfold limL at h
    unfold szL
    exact ⟨lim_sz d h.1, limL_sz r h.2⟩
theorem limK_sz : ∀ ds : List (PyData × PyData), limK ds → szK ds
  | [], _ => by unfold szK; trivial
  | (k, d) :: r, h => by
    unfold limK at h
    unfold szK
    exact ⟨lim_sz k h.1, lim_sz d h.2.1, limK_sz r h.2.2⟩
end
theorem low_lim {x : Str} {a b : Nat} (h : lets x a b = true) (hb : b ≤ 21) : lim (.str x) := by
  unfold lets at h
  rw [Bool.and_eq_true, Bool.and_eq_true] at h
  unfold lim
  refine ⟨Nat.le_trans (of_decide_eq_true h.1.2) hb, fun c hc => ?_⟩
  have q := List.all_eq_true.mp h.2 c hc
  rw [Bool.and_eq_true] at q
  have := of_decide_eq_true q.2
  omega
theorem fld_lim {k : PyData} (h : fld k = true) : lim k ∧ nod k = 1 := by
  cases k with
  | str x => exact ⟨low_lim h (by decide), rfl⟩
  | _ => cases h
mutual
/-- a value is small -/
theorem ok_lim : ∀ d : PyData, okA d = true → lim d ∧ nod d + 1 ≤ 2 * cnt d
  | .none, h => by cases h
  | .bool _, h => by cases h
  | .tuple _, h => by cases h
  | .int i, h => by
    have h' : (decide (-big < i) && decide (i < big)) = true := h
    rw [Bool.and_eq_true] at h'
    refine ⟨?_, by simp [nod, cnt]⟩
    unfold lim
    exact ⟨Int.le_of_lt (of_decide_eq_true h'.1), Int.le_of_lt (of_decide_eq_true h'.2)⟩
  | .str x, h => ⟨low_lim (a := 0) (b := 20) h (by decide), by simp [nod, cnt]⟩
  | .list ds, h => by
    unfold okA at h
    rw [Bool.and_eq_true] at h
    have q := okL_lim ds h.2
    unfold lim nod cnt
    exact ⟨q.1, by omega⟩
  | .dict kvs, h => by
    unfold okA at h
    rw [Bool.and_eq_true] at h
    have h1 : (decide (kvs.length ≤ 8) && kvs.all fun p => fld p.1) = true := h.1
    rw [Bool.and_eq_true] at h1
    have q := okK_lim kvs h.2 (fun p hp => List.all_eq_true.mp h1.2 p hp)
    unfold lim nod cnt
    exact ⟨q.1, by omega⟩
theorem okL_lim : ∀ ds : List PyData, okL ds = true → limL ds ∧ nodL ds ≤ 2 * cntL ds
  | [], _ => by unfold limL nodL cntL; exact ⟨trivial, by omega⟩
  | d :: r, h => by
    unfold okL at h
    rw [Bool.and_eq_true] at h
    have q1 := ok_lim d h.1
    have q2 := okL_lim r h.2
    unfold limL nodL cntL
    exact ⟨⟨q1.1, q2.1⟩, by omega⟩
theorem okK_lim : ∀ ds : List (PyData × PyData), okK ds = true → (∀ p ∈ ds, fld p.1 = true) → limK ds ∧ nodK ds ≤ 2 * cntK ds
  | [], _, _ => by unfold limK nodK cntK; exact ⟨trivial, by omega⟩
  | (k, d) :: r, h, hf => by
    unfold okK at h
    rw [Bool.and_eq_true] at h
    have q1 := ok_lim d h.1
    have q2 := okK_lim r h.2 (fun p hp => hf p (List.mem_cons_of_mem _ hp))
    have q3 : lim k ∧ nod k = 1 := fld_lim (hf (k, d) List.mem_cons_self)
    unfold limK nodK cntK
    exact ⟨⟨q3.1, q1.1, q2.1⟩, by have := q3.2; omega⟩
end
theorem ok_sm {d : PyData} (h : okA d = true) (hc : cnt d ≤ 60) : Sm d := ⟨(ok_lim d h).1, by have := (ok_lim d h).2; omega⟩
end VL

namespace VL
open PySem L2 LW
open Evl (Ex)
/-! ### trees: data no part of which lies twice -/
def Apart (A B : Hp) : Prop := ∀ b, A b = none ∨ B b = none
theorem Apart.sub {A A' B B' : Hp} (h : Apart A B) (e : Ex A' A) (g : Ex B' B) : Apart A' B' := fun b => by
  rcases h b with q | q
  · exact .inl (ex_free e q)
  · exact .inr (ex_free g q)
def un (A B : Hp) : Hp := fun b => match A b with
  | some o => some o
  | none => B b
theorem un_l {A B : Hp} : Ex A (un A B) := fun b o h => by
  unfold un
  rw [h]
theorem un_r {A B : Hp} (h : Apart A B) : Ex B (un A B) := fun b o q => by
  unfold un
  rcases h b with e | e
  · rw [e]
    exact q
  · rw [e] at q
    cases q
theorem un_le {A B H : Hp} (h : Ex A H) (g : Ex B H) : Ex (un A B) H := fun b o q => by
  unfold un at q
  cases e : A b with
  | none =>
    rw [e] at q
    exact g b o q
  | some u =>
    rw [e] at q
    cases q
    exact h b _ e
theorem un_apart {A B C : Hp} (h : Apart C A) (g : Apart C B) : Apart C (un A B) := fun b => by
  rcases h b with q | q
  · exact .inl q
  · rcases g b with q' | q'
    · exact .inl q'
    · right
      unfold un
      rw [q]
      exact q'
mutual
def Tr : PyData → Hp → V → Prop
  | .none, _, v => v = .non
  | .bool b, _, v => v = .bl b
  | .int i, _, v => v = .int i
  | .str x, _, v => v = .str x
  | .tuple _, _, _ => False
  | .list ds, H, v => ∃ a vs, v = .ref a ∧ H a = some (.lst vs) ∧ TrL ds (del H a) vs
  | .dict kvs, H, v => ∃ a es, v = .ref a ∧ H a = some (.dK es) ∧ (es.map (·.1)).Nodup ∧ TrK kvs (del H a) es
def TrL : List PyData → Hp → List V → Prop
  | [], _, vs => vs = []
  | d :: r, H, vs => ∃ v t A B, vs = v :: t ∧ Ex A H ∧ Ex B H ∧ Apart A B ∧ Tr d A v ∧ TrL r B t
def TrK : List (PyData × PyData) → Hp → List (Key × V) → Prop
  | [], _, es => es = []
  | (k, d) :: r, H, es => ∃ x v t A B, es = (x, v) :: t ∧ k = kD x ∧ Ex A H ∧ Ex B H ∧ Apart A B ∧ Tr d A v ∧ TrK r B t
end
mutual
theorem Tr.ex : ∀ {d : PyData} {H H' : Hp} {v : V}, Ex H H' → Tr d H v → Tr d H' v
  | .none, _, _, _, _, h => h
  | .bool _, _, _, _, _, h => h
  | .int _, _, _, _, _, h => h
  | .str _, _, _, _, _, h => h
  | .tuple _, _, _, _, _, h => h
  | .list ds, _, _, _, e, h => by
    unfold Tr at h ⊢
    obtain ⟨a, vs, rfl, ha, hl⟩ := h
    exact ⟨a, vs, rfl, e _ _ ha, TrL.ex (del_grow' e) hl⟩
  | .dict kvs, _, _, _, e, h => by
    unfold Tr at h ⊢
    obtain ⟨a, es, rfl, ha, nd, hl⟩ := h
    exact ⟨a, es, rfl, e _ _ ha, nd, TrK.ex (del_grow' e) hl⟩
theorem TrL.ex : ∀ {ds : List PyData} {H H' : Hp} {vs : List V}, Ex H H' → TrL ds H vs → TrL ds H' vs
  | [], _, _, _, _, h => h
  | d :: r, _, _, _, e, h => by
    unfold TrL at h ⊢
    obtain ⟨v, t, A, B, rfl, h1, h2, h3, h4, h5⟩ := h
    exact ⟨v, t, A, B, rfl, h1.trans e, h2.trans e, h3, h4, h5⟩
theorem TrK.ex : ∀ {ds : List (PyData × PyData)} {H H' : Hp} {vs : List (Key × V)}, Ex H H' → TrK ds H vs → TrK ds H' vs
  | [], _, _, _, _, h => h
  | (k, d) :: r, _, _, _, e, h => by
    unfold TrK at h ⊢
    obtain ⟨x, v, t, A, B, rfl, hk, h1, h2, h3, h4, h5⟩ := h
    exact ⟨x, v, t, A, B, rfl, hk, h1.trans e, h2.trans e, h3, h4, h5⟩
end
mutual
theorem Tr.dt : ∀ {d : PyData} {H : Hp} {v : V}, Tr d H v → Dt H d v
  | .none, _, _, h => h
  | .bool _, _, _, h => h
  | .int _, _, _, h => h
  | .str _, _, _, h => h
  | .tuple _, _, _, h => by unfold Tr at h; exact h.elim
  | .list ds, _, _, h => by
    unfold Tr at h
    unfold Dt
    obtain ⟨a, vs, rfl, ha, hl⟩ := h
    exact ⟨a, vs, rfl, .inl ha, (TrL.dt hl).ex ex_del⟩
  | .dict kvs, _, _, h => by
    unfold Tr at h
    unfold Dt
    obtain ⟨a, es, rfl, ha, nd, hl⟩ := h
    exact ⟨a, rfl, .inl ⟨es, .inl ha, nd, (TrK.dt hl).ex ex_del⟩⟩
theorem TrL.dt : ∀ {ds : List PyData} {H : Hp} {vs : List V}, TrL ds H vs → DtL H ds vs
  | [], _, _, h => by
    unfold TrL at h
    unfold DtL
    exact h
  | d :: r, _, _, h => by
    unfold TrL at h
    unfold DtL
    obtain ⟨v, t, A, B, rfl, h1, h2, h3, h4, h5⟩ := h
    exact ⟨v, t, rfl, (Tr.dt h4).ex h1, (TrL.dt h5).ex h2⟩
theorem TrK.dt : ∀ {ds : List (PyData × PyData)} {H : Hp} {vs : List (Key × V)}, TrK ds H vs → DtK H ds vs
  | [], _, _, h => by
    unfold TrK at h
    unfold DtK
    exact h
  | (k, d) :: r, _, _, h => by
    unfold TrK at h
    unfold DtK
    obtain ⟨x, v, t, A, B, rfl, hk, h1, h2, h3, h4, h5⟩ := h
    exact ⟨x, v, t, rfl, hk, (Tr.dt h4).ex h1, (TrK.dt h5).ex h2⟩
end
theorem TrL.snoc : ∀ {ds : List PyData} {d : PyData} {A B H : Hp} {vs : List V} {v : V}, TrL ds A vs → Tr d B v → Apart A B → Ex A H → Ex B H → TrL (ds ++ [d]) H (vs ++ [v])
  | [], d, A, B, H, _, v, h, q, ap, eA, eB => by
    unfold TrL at h
    subst h
    show TrL [d] H [v]
    unfold TrL
    exact ⟨v, [], B, fun _ => none, rfl, eB, fun _ _ z => (by cases z), fun _ => .inr rfl, q, by unfold TrL; rfl⟩
  | c :: r, d, A, B, H, _, v, h, q, ap, eA, eB => by
    unfold TrL at h
    obtain ⟨u, t, A0, B0, rfl, h1, h2, h3, h4, h5⟩ := h
    show TrL (c :: (r ++ [d])) H (u :: (t ++ [v]))
    unfold TrL
    have ab : Apart B0 B := ap.sub h2 (fun _ _ z => z)
    exact ⟨u, t ++ [v], A0, un B0 B, rfl, h1.trans eA, un_le (h2.trans eA) eB, un_apart h3 (ap.sub h1 (fun _ _ z => z)), h4, TrL.snoc h5 q ab un_l (un_r ab)⟩
theorem TrK.snoc : ∀ {ds : List (PyData × PyData)} {k d : PyData} {x : Key} {A B H : Hp} {vs : List (Key × V)} {v : V}, TrK ds A vs → Tr d B v → k = kD x → Apart A B → Ex A H → Ex B H → TrK (ds ++ [(k, d)]) H (vs ++ [(x, v)])
  | [], k, d, x, A, B, H, _, v, h, q, hk, ap, eA, eB => by
    unfold TrK at h
    subst h
    show TrK [(k, d)] H [(x, v)]
    unfold TrK
    exact ⟨x, v, [], B, fun _ => none, rfl, hk, eB, fun _ _ z => (by cases z), fun _ => .inr rfl, q, by unfold TrK; rfl⟩
  | (k0, c) :: r, k, d, x, A, B, H, _, v, h, q, hk, ap, eA, eB => by
    unfold TrK at h
    obtain ⟨x0, u, t, A0, B0, rfl, hk0, h1, h2, h3, h4, h5⟩ := h
    show TrK ((k0, c) :: (r ++ [(k, d)])) H ((x0, u) :: (t ++ [(x, v)]))
    unfold TrK
    have ab : Apart B0 B := ap.sub h2 (fun _ _ z => z)
    exact ⟨x0, u, t ++ [(x, v)], A0, un B0 B, rfl, hk0, h1.trans eA, un_le (h2.trans eA) eB, un_apart h3 (ap.sub h1 (fun _ _ z => z)), h4, TrK.snoc h5 q hk ab un_l (un_r ab)⟩
/-! ### parts by steps -/
def setM (kvs : List (PyData × PyData)) (y : Str) (x : PyData) : List (PyData × PyData) := kvs.map fun p => if nm p.1 = y then (p.1, x) else p
theorem setM_no : ∀ {kvs : List (PyData × PyData)} {y : Str} {x : PyData}, y ∉ names kvs → setM kvs y x = kvs
  | [], _, _, _ => rfl
  | (k, d) :: r, y, x, h => by
    have h' : y ∉ nm k :: names r := h
    rw [List.mem_cons, not_or] at h'
    show (if nm k = y then (k, x) else (k, d)) :: setM r y x = (k, d) :: r
    rw [if_neg (fun e => h'.1 e.symm), setM_no h'.2]
theorem setM_names (kvs : List (PyData × PyData)) (y : Str) (x : PyData) : names (setM kvs y x) = names kvs := by
  unfold names setM
  rw [List.map_map]
  apply List.map_congr_left
  intro p _
  show nm (if nm p.1 = y then (p.1, x) else p).1 = nm p.1
  split <;> rfl
def stepD : PyData → V → Option PyData
  | .list ds, .int i => if 0 ≤ i then ds[i.toNat]? else none
  | .dict kvs, .str y => if y ∈ names kvs then some (getN kvs y) else none
  | _, _ => none
def setD : PyData → V → PyData → PyData
  | .list ds, .int i, x => .list (ds.set i.toNat x)
  | .dict kvs, .str y, x => .dict (setM kvs y x)
  | d, _, _ => d
def At : PyData → List V → PyData → Prop
  | d, [], c => c = d
  | d, s :: p, c => ∃ e, stepD d s = some e ∧ At e p c
def putAt : PyData → List V → PyData → PyData
  | _, [], x => x
  | d, s :: p, x => match stepD d s with
    | some e => setD d s (putAt e p x)
    | none => d
theorem at_snoc : ∀ {p : List V} {d c : PyData} {s : V}, At d (p ++ [s]) c → ∃ e, At d p e ∧ stepD e s = some c
  | [], d, c, s, h => by
    obtain ⟨e, h1, h2⟩ := h
    have h2 : c = e := h2
    subst h2
    exact ⟨d, rfl, h1⟩
  | t :: p, d, c, s, h => by
    obtain ⟨e, h1, h2⟩ := h
    obtain ⟨g, h3, h4⟩ := at_snoc h2
    exact ⟨g, ⟨e, h1, h3⟩, h4⟩
theorem put_snoc : ∀ {p : List V} {d e c x : PyData} {s : V}, At d p e → stepD e s = some c → putAt d (p ++ [s]) x = putAt d p (setD e s x)
  | [], d, e, c, x, s, h, hs => by
    have h : e = d := h
    subst h
    show (match stepD e s with | some e' => setD e s (putAt e' [] x) | none => e) = setD e s x
    rw [hs]
    rfl
  | t :: p, d, e, c, x, s, h, hs => by
    obtain ⟨g, h1, h2⟩ := h
    show (match stepD d t with | some e' => setD d t (putAt e' (p ++ [s]) x) | none => d) = (match stepD d t with | some e' => setD d t (putAt e' p (setD e s x)) | none => d)
    rw [h1]
    show setD d t (putAt g (p ++ [s]) x) = setD d t (putAt g p (setD e s x))
    rw [put_snoc h2 hs]
/-- a step is into a list or a record -/
theorem step_cases {d c : PyData} {s : V} (h : stepD d s = some c) : (∃ ds i, d = .list ds ∧ s = .int i ∧ 0 ≤ i ∧ ds[i.toNat]? = some c) ∨ ∃ kvs y, d = .dict kvs ∧ s = .str y ∧ y ∈ names kvs ∧ getN kvs y = c := by
  cases d with
  | list ds =>
    cases s with
    | int i =>
      have h : (if 0 ≤ i then ds[i.toNat]? else none) = some c := h
      by_cases e : 0 ≤ i
      · rw [if_pos e] at h
        exact .inl ⟨ds, i, rfl, rfl, e, h⟩
      · rw [if_neg e] at h
        cases h
    | _ => cases h
  | dict kvs =>
    cases s with
    | str y =>
      have h : (if y ∈ names kvs then some (getN kvs y) else none) = some c := h
      by_cases e : y ∈ names kvs
      · rw [if_pos e] at h
        exact .inr ⟨kvs, y, rfl, rfl, e, Option.some.inj h⟩
      · rw [if_neg e] at h
        cases h
    | _ => cases h
  | _ => cases h
theorem getN_mem : ∀ {kvs : List (PyData × PyData)} {y : Str}, y ∈ names kvs → ∃ k, (k, getN kvs y) ∈ kvs ∧ nm k = y
  | (k, d) :: r, y, h => by
    have h' : y ∈ nm k :: names r := h
    by_cases e : nm k = y
    · refine ⟨k, ?_, e⟩
      unfold getN
      rw [if_pos e]
      exact List.mem_cons_self
    · rcases List.mem_cons.mp h' with q | q
      · exact (e q.symm).elim
      · obtain ⟨k', h1, h2⟩ := getN_mem q
        refine ⟨k', ?_, h2⟩
        unfold getN
        rw [if_neg e]
        exact List.mem_cons_of_mem _ h1
theorem step_kid {d c : PyData} {s : V} (h : stepD d s = some c) : c ∈ kids d := by
  rcases step_cases h with ⟨ds, i, rfl, rfl, h0, e⟩ | ⟨kvs, y, rfl, rfl, hy, rfl⟩
  · exact List.mem_of_getElem? e
  · obtain ⟨k, hk, _⟩ := getN_mem hy
    exact List.mem_map.mpr ⟨_, hk, rfl⟩
theorem okL_mem {ds : List PyData} (h : okL ds = true) {d : PyData} (m : d ∈ ds) : okA d = true := by
  rw [okL_all] at h
  exact List.all_eq_true.mp h d m
theorem okL_no {ds : List PyData} {d : PyData} (m : d ∈ ds) (h : okA d = false) : okL ds = false := by
  rw [okL_all]
  refine List.all_eq_false.mpr ⟨d, m, ?_⟩
  rw [h]
  exact Bool.false_ne_true
theorem step_ok {d c : PyData} {s : V} (h : stepD d s = some c) (o : okA d = true) : okA c = true := by
  rw [okA_kids, Bool.and_eq_true] at o
  exact okL_mem o.2 (step_kid h)
theorem at_ok : ∀ {p : List V} {d c : PyData}, At d p c → okA d = true → okA c = true
  | [], d, c, h, o => by
    have h : c = d := h
    rw [h]
    exact o
  | s :: p, d, c, h, o => by
    obtain ⟨e, h1, h2⟩ := h
    exact at_ok h2 (step_ok h1 o)
theorem setD_kid {d c x : PyData} {s : V} (h : stepD d s = some c) : x ∈ kids (setD d s x) := by
  rcases step_cases h with ⟨ds, i, rfl, rfl, h0, e⟩ | ⟨kvs, y, rfl, rfl, hy, rfl⟩
  · show x ∈ ds.set i.toNat x
    obtain ⟨hi, _⟩ := List.getElem?_eq_some_iff.mp e
    exact List.mem_of_getElem? (i := i.toNat) (by rw [List.getElem?_set_self hi])
  · obtain ⟨k, hk, he⟩ := getN_mem hy
    show x ∈ (setM kvs y x).map (·.2)
    refine List.mem_map.mpr ⟨(k, x), List.mem_map.mpr ⟨_, hk, ?_⟩, rfl⟩
    show (if nm k = y then (k, x) else _) = _
    rw [if_pos he]
theorem setD_bad {d c x : PyData} {s : V} (h : stepD d s = some c) (hx : okA x = false) : okA (setD d s x) = false := by
  rw [okA_kids, okL_no (setD_kid h) hx, Bool.and_false]
theorem putAt_bad : ∀ {p : List V} {d c x : PyData}, At d p c → okA x = false → okA (putAt d p x) = false
  | [], d, c, x, _, hx => hx
  | s :: p, d, c, x, h, hx => by
    obtain ⟨e, h1, h2⟩ := h
    show okA (match stepD d s with | some e => setD d s (putAt e p x) | none => d) = false
    rw [h1]
    exact setD_bad h1 (putAt_bad h2 hx)
/-! ### bounds of what is put -/
theorem nod_list (ds : List PyData) : nod (.list ds) = 1 + nodL ds := by rw [nod]
theorem nod_dict (ds : List (PyData × PyData)) : nod (.dict ds) = 1 + nodK ds := by rw [nod]
theorem limL_of : ∀ {ds : List PyData}, limL ds ↔ ∀ d ∈ ds, lim d
  | [] => ⟨fun _ d h => (by cases h), fun _ => by unfold limL; trivial⟩
  | c :: r => by
    unfold limL
    rw [limL_of (ds := r)]
    constructor
    · rintro ⟨h1, h2⟩ d hd
      rcases List.mem_cons.mp hd with rfl | hd
      · exact h1
      · exact h2 d hd
    · exact fun h => ⟨h c List.mem_cons_self, fun d hd => h d (List.mem_cons_of_mem _ hd)⟩
theorem limK_of : ∀ {ds : List (PyData × PyData)}, limK ds ↔ ∀ p ∈ ds, lim p.1 ∧ lim p.2
  | [] => ⟨fun _ d h => (by cases h), fun _ => by unfold limK; trivial⟩
  | (k, c) :: r => by
    unfold limK
    rw [limK_of (ds := r)]
    constructor
    · rintro ⟨h1, h2, h3⟩ d hd
      rcases List.mem_cons.mp hd with rfl | hd
      · exact ⟨h1, h2⟩
      · exact h3 d hd
    · exact fun h => ⟨(h (k, c) List.mem_cons_self).1, (h (k, c) List.mem_cons_self).2, fun d hd => h d (List.mem_cons_of_mem _ hd)⟩
theorem nodL_set : ∀ (ds : List PyData) (i : Nat) (x c : PyData), ds[i]? = some c → nodL (ds.set i x) + nod c = nodL ds + nod x
  | [], i, x, c, h => by simp at h
  | d :: r, 0, x, c, h => by
    simp only [List.getElem?_cons_zero, Option.some.injEq] at h
    subst h
    show nodL (x :: r) + _ = _
    unfold nodL
    omega
  | d :: r, i + 1, x, c, h => by
    rw [List.getElem?_cons_succ] at h
    have := nodL_set r i x c h
    show nodL (d :: r.set i x) + _ = _
    unfold nodL
    omega
theorem nodK_set : ∀ (kvs : List (PyData × PyData)) (y : Str) (x : PyData), (names kvs).Nodup → y ∈ names kvs → nodK (setM kvs y x) + nod (getN kvs y) = nodK kvs + nod x
  | [], y, x, _, h => by cases h
  | (k, d) :: r, y, x, nd, h => by
    have nd' : (nm k :: names r).Nodup := nd
    obtain ⟨n1, n2⟩ := List.nodup_cons.mp nd'
    have h' : y ∈ nm k :: names r := h
    show nodK ((if nm k = y then (k, x) else (k, d)) :: setM r y x) + nod (if nm k = y then d else getN r y) = _
    by_cases e : nm k = y
    · rw [if_pos e, if_pos e, setM_no (e ▸ n1)]
      unfold nodK
      omega
    · rw [if_neg e, if_neg e]
      have hy : y ∈ names r := by
        rcases List.mem_cons.mp h' with q | q
        · exact (e q.symm).elim
        · exact q
      have := nodK_set r y x n2 hy
      unfold nodK
      omega
/-! ### what a tree's part may be exchanged for -/
theorem DtL.set {H : Hp} : ∀ {ds : List PyData} {vs : List V} {i : Nat} {x : PyData} {u : V}, DtL H ds vs → Dt H x u → DtL H (ds.set i x) (vs.set i u)
  | [], _, i, x, u, h, q => by
    unfold DtL at h
    subst h
    exact DtL.nil
  | d :: r, _, 0, x, u, h, q => by
    unfold DtL at h
    obtain ⟨v, t, rfl, h1, h2⟩ := h
    exact DtL.cons q h2
  | d :: r, _, i + 1, x, u, h, q => by
    unfold DtL at h
    obtain ⟨v, t, rfl, h1, h2⟩ := h
    exact DtL.cons h1 (DtL.set h2 q)
theorem DtK.cons {H : Hp} {k d : PyData} {x : Key} {v : V} {r : List (PyData × PyData)} {t : List (Key × V)} (hk : k = kD x) (h : Dt H d v) (q : DtK H r t) : DtK H ((k, d) :: r) ((x, v) :: t) := by
  unfold DtK
  exact ⟨x, v, t, rfl, hk, h, q⟩
theorem key_nm {k : PyData} {x : Key} (hk : k = kD x) (h : k = .str (nm k)) : x = Sum.inr (nm k) := by
  cases x with
  | inl i =>
    rw [hk] at h
    cases h
  | inr z =>
    rw [hk]
    rfl
theorem DtK.setm {H : Hp} {y : Str} {x : PyData} {u : V} (q : Dt H x u) : ∀ {kvs : List (PyData × PyData)} {es : List (Key × V)}, DtK H kvs es → AllStr kvs → DtK H (setM kvs y x) (es.map fun kv => if kv.1 = (Sum.inr y : Key) then (kv.1, u) else kv)
  | [], _, h, _ => by
    unfold DtK at h
    subst h
    unfold setM DtK
    rfl
  | (k, d) :: r, _, h, ha => by
    unfold DtK at h
    obtain ⟨z, v, t, rfl, hk, h1, h2⟩ := h
    have hz := key_nm hk (ha (k, d) List.mem_cons_self)
    have ih := DtK.setm (y := y) q h2 (fun p hp => ha p (List.mem_cons_of_mem _ hp))
    show DtK H ((if nm k = y then (k, x) else (k, d)) :: setM r y x) ((if z = (Sum.inr y : Key) then (z, u) else (z, v)) :: _)
    by_cases e : nm k = y
    · rw [if_pos e, if_pos (by rw [hz, e])]
      exact DtK.cons hk q ih
    · rw [if_neg e, if_neg (by rw [hz]; exact fun w => e (Sum.inr.inj w))]
      exact DtK.cons hk h1 ih
theorem DtK.put {H : Hp} {y : Str} {x : PyData} {u : V} {kvs : List (PyData × PyData)} {es : List (Key × V)} (q : Dt H x u) (h : DtK H kvs es) (ha : AllStr kvs) (hy : y ∈ names kvs) : DtK H (setM kvs y x) (putK es (Sum.inr y) u) := by
  obtain ⟨v, hv, _⟩ := dtk_get h ha y hy
  unfold putK
  rw [valV_any, hv]
  exact DtK.setm q h ha
theorem putK_keys {es : List (Key × V)} {k : Key} {u : V} (h : (valV es k).isSome = true) : (putK es k u).map (·.1) = es.map (·.1) := by
  unfold putK
  rw [valV_any, h, if_pos rfl, List.map_map]
  apply List.map_congr_left
  intro p _
  show (if p.1 = k then (p.1, u) else p).1 = p.1
  split <;> rfl
theorem TrL.pick : ∀ {ds : List PyData} {H : Hp} {vs : List V} {i : Nat} {d : PyData}, TrL ds H vs → ds[i]? = some d → ∃ v A, vs[i]? = some v ∧ Ex A H ∧ Tr d A v ∧ ∀ H'' : Hp, (∀ b o, A b = none → H b = some o → H'' b = some o) → ∀ x, Dt H'' x v → DtL H'' (ds.set i x) vs
  | [], _, _, i, d, h, e => by simp at e
  | c :: r, H, _, 0, d, h, e => by
    unfold TrL at h
    obtain ⟨v, t, A, B, rfl, h1, h2, h3, h4, h5⟩ := h
    simp only [List.getElem?_cons_zero, Option.some.injEq] at e
    subst e
    refine ⟨v, A, rfl, h1, h4, fun H'' g x q => DtL.cons q ((TrL.dt h5).ex fun b o w => g b o ?_ (h2 b o w))⟩
    rcases h3 b with z | z
    · exact z
    · rw [z] at w
      cases w
  | c :: r, H, _, i + 1, d, h, e => by
    unfold TrL at h
    obtain ⟨v, t, A, B, rfl, h1, h2, h3, h4, h5⟩ := h
    rw [List.getElem?_cons_succ] at e
    obtain ⟨u, A', g1, g2, g3, g4⟩ := TrL.pick h5 e
    refine ⟨u, A', by rw [List.getElem?_cons_succ]; exact g1, g2.trans h2, g3, fun H'' g x q => DtL.cons ((Tr.dt h4).ex fun b o w => g b o ?_ (h1 b o w)) (g4 H'' (fun b o w w' => g b o w (h2 b o w')) x q)⟩
    rcases h3 b with z | z
    · rw [z] at w
      cases w
    · exact ex_free g2 z
theorem TrK.pick : ∀ {ds : List (PyData × PyData)} {H : Hp} {vs : List (Key × V)} {y : Str}, TrK ds H vs → AllStr ds → (names ds).Nodup → y ∈ names ds → ∃ v A, valV vs (Sum.inr y : Key) = some v ∧ Ex A H ∧ Tr (getN ds y) A v ∧
    ∀ H'' : Hp, (∀ b o, A b = none → H b = some o → H'' b = some o) → ∀ x, Dt H'' x v → DtK H'' (setM ds y x) vs
  | [], _, _, y, h, _, _, e => by cases e
  | (k, c) :: r, H, _, y, h, ha, nd, e => by
    unfold TrK at h
    obtain ⟨z, v, t, A, B, rfl, hk, h1, h2, h3, h4, h5⟩ := h
    have hz := key_nm hk (ha (k, c) List.mem_cons_self)
    have nd' : (nm k :: names r).Nodup := nd
    obtain ⟨n1, n2⟩ := List.nodup_cons.mp nd'
    have e' : y ∈ nm k :: names r := e
    by_cases ek : nm k = y
    · refine ⟨v, A, valV_pos (p := (z, v)) (by rw [← ek]; exact hz), h1, ?_, fun H'' g x q => ?_⟩
      · unfold getN
        rw [if_pos ek]
        exact h4
      · show DtK H'' ((if nm k = y then (k, x) else (k, c)) :: setM r y x) _
        rw [if_pos ek, setM_no (ek ▸ n1)]
        refine DtK.cons hk q ((TrK.dt h5).ex fun b o w => g b o ?_ (h2 b o w))
        rcases h3 b with z | z
        · exact z
        · rw [z] at w
          cases w
    · have hy : y ∈ names r := by
        rcases List.mem_cons.mp e' with q | q
        · exact (ek q.symm).elim
        · exact q
      obtain ⟨u, A', g1, g2, g3, g4⟩ := TrK.pick h5 (fun p hp => ha p (List.mem_cons_of_mem _ hp)) n2 hy
      refine ⟨u, A', ?_, g2.trans h2, ?_, fun H'' g x q => ?_⟩
      · rw [valV_neg (p := (z, v)) (by rw [hz]; exact fun w => ek (Sum.inr.inj w))]
        exact g1
      · unfold getN
        rw [if_neg ek]
        exact g3
      · show DtK H'' ((if nm k = y then (k, x) else (k, c)) :: setM r y x) _
        rw [if_neg ek]
        refine DtK.cons hk ((Tr.dt h4).ex fun b o w => g b o ?_ (h1 b o w)) (g4 H'' (fun b o w w' => g b o w (h2 b o w')) x q)
        rcases h3 b with z | z
        · rw [z] at w
          cases w
        · exact ex_free g2 z
/-- steps in the heap -/
def StepV (H : Hp) (v s u : V) : Prop := ∃ a, v = .ref a ∧ ((∃ vs i, L2.Rd H a (.lst vs) ∧ s = .int i ∧ atI vs i = some u) ∨ ∃ es k, L2.Rd H a (.dK es) ∧ s = kV k ∧ valV es k = some u)
def Wk (H : Hp) : V → List V → V → Prop
  | v, [], w => w = v
  | v, s :: p, w => ∃ u, StepV H v s u ∧ Wk H u p w
theorem StepV.ex {H H' : Hp} (e : Ex H H') {v s u : V} (h : StepV H v s u) : StepV H' v s u := by
  obtain ⟨a, rfl, ⟨vs, i, h1, h2, h3⟩ | ⟨es, k, h1, h2, h3⟩⟩ := h
  · exact ⟨a, rfl, .inl ⟨vs, i, rd_ex e h1, h2, h3⟩⟩
  · exact ⟨a, rfl, .inr ⟨es, k, rd_ex e h1, h2, h3⟩⟩
theorem Wk.ex {H H' : Hp} (e : Ex H H') : ∀ {p : List V} {v w : V}, Wk H v p w → Wk H' v p w
  | [], _, _, h => h
  | s :: p, _, _, ⟨u, h1, h2⟩ => ⟨u, h1.ex e, Wk.ex e h2⟩
theorem atI_of {xs : List V} {i : Int} {v : V} (h0 : 0 ≤ i) (h : xs[i.toNat]? = some v) : atI xs i = some v := by
  have e : ((i.toNat : Nat) : Int) = i := by omega
  have q : atI xs ((i.toNat : Nat) : Int) = some v := atI_nat h
  rw [e] at q
  exact q
theorem tr_ns {H : Hp} {kvs : List (PyData × PyData)} {es : List (Key × V)} (h : TrK kvs H es) (ho : okA (.dict kvs) = true) (nd : (es.map (·.1)).Nodup) : AllStr kvs ∧ (names kvs).Nodup := by
  rw [okA_kids, Bool.and_eq_true] at ho
  obtain ⟨ha, _⟩ := allStr_of ho.1
  exact ⟨ha, nodup_names (TrK.dt h) ha nd⟩
/-- exchanging one part of a tree -/
theorem hole : ∀ {p : List V} {d c : PyData} {H : Hp} {v : V}, Tr d H v → okA d = true → At d p c → ∃ w A, Wk H v p w ∧ Ex A H ∧ Tr c A w ∧
    (∀ a, w = .ref a → (∃ o, A a = some o) → ∀ H'' : Hp, (∀ b o, b ≠ a → H b = some o → H'' b = some o) → ∀ x, Dt H'' x w → Dt H'' (putAt d p x) v) ∧
    ∀ x, lim x → lim (putAt d p x) ∧ nod (putAt d p x) + nod c = nod d + nod x
  | [], d, c, H, v, h, ho, e => by
    have e : c = d := e
    subst e
    exact ⟨v, H, rfl, fun _ _ z => z, h, fun a _ _ H'' _ x q => q, fun x hx => ⟨hx, by show nod x + _ = _; omega⟩⟩
  | s :: p, d, c, H, v, h, ho, e => by
    obtain ⟨g, hs, he⟩ := e
    have hpa : ∀ x, putAt d (s :: p) x = setD d s (putAt g p x) := fun x => by
      show (match stepD d s with | some e' => setD d s (putAt e' p x) | none => d) = _
      rw [hs]
    have hlim := (ok_lim d ho).1
    have hog := step_ok hs ho
    rcases step_cases hs with ⟨ds, i, rfl, rfl, h0, hi⟩ | ⟨kvs, y, rfl, rfl, hy, rfl⟩
    · unfold Tr at h
      obtain ⟨b, vs, rfl, hb, hl⟩ := h
      obtain ⟨u, A, k1, k2, k3, k4⟩ := TrL.pick hl hi
      obtain ⟨w, A', m1, m2, m3, m4, m5⟩ := hole k3 hog he
      refine ⟨w, A', ⟨u, ⟨b, rfl, .inl ⟨vs, i, .inl hb, rfl, atI_of h0 k1⟩⟩, m1.ex (k2.trans ex_del)⟩, m2.trans (k2.trans ex_del), m3, ?_, ?_⟩
      · rintro a ea ⟨o, hao⟩ H'' hH x hx
        rw [hpa]
        have haA := m2 _ _ hao
        have hab : a ≠ b := fun z => by
          have := k2 _ _ haA
          rw [z, del_same] at this
          cases this
        have q := m4 a ea ⟨o, hao⟩ H'' (fun b' o' n w' => hH b' o' n (ex_del _ _ (k2 _ _ w'))) x hx
        show Dt H'' (.list (ds.set i.toNat (putAt g p x))) (.ref b)
        unfold Dt
        refine ⟨b, vs, rfl, .inl (hH b _ (fun z => hab z.symm) hb), k4 H'' (fun b' o' n w' => hH b' o' (fun z => ?_) (ex_del _ _ w')) _ q⟩
        rw [z, haA] at n
        cases n
      · intro x hx
        rw [hpa]
        obtain ⟨q1, q2⟩ := m5 x hx
        show lim (.list (ds.set i.toNat (putAt g p x))) ∧ nod (.list (ds.set i.toNat (putAt g p x))) + _ = _
        have q3 := nodL_set ds i.toNat (putAt g p x) g hi
        rw [nod_list, nod_list]
        unfold lim
        unfold lim at hlim
        refine ⟨limL_of.mpr fun z hz => ?_, by omega⟩
        rcases List.mem_or_eq_of_mem_set hz with hz | rfl
        · exact limL_of.mp hlim z hz
        · exact q1
    · unfold Tr at h
      obtain ⟨b, es, rfl, hb, nd, hl⟩ := h
      obtain ⟨ha, nds⟩ := tr_ns hl ho nd
      obtain ⟨u, A, k1, k2, k3, k4⟩ := TrK.pick hl ha nds hy
      obtain ⟨w, A', m1, m2, m3, m4, m5⟩ := hole k3 hog he
      refine ⟨w, A', ⟨u, ⟨b, rfl, .inr ⟨es, Sum.inr y, .inl hb, rfl, k1⟩⟩, m1.ex (k2.trans ex_del)⟩, m2.trans (k2.trans ex_del), m3, ?_, ?_⟩
      · rintro a ea ⟨o, hao⟩ H'' hH x hx
        rw [hpa]
        have haA := m2 _ _ hao
        have hab : a ≠ b := fun z => by
          have := k2 _ _ haA
          rw [z, del_same] at this
          cases this
        have q := m4 a ea ⟨o, hao⟩ H'' (fun b' o' n w' => hH b' o' n (ex_del _ _ (k2 _ _ w'))) x hx
        show Dt H'' (.dict (setM kvs y (putAt (getN kvs y) p x))) (.ref b)
        unfold Dt
        refine ⟨b, rfl, .inl ⟨es, .inl (hH b _ (fun z => hab z.symm) hb), nd, k4 H'' (fun b' o' n w' => hH b' o' (fun z => ?_) (ex_del _ _ w')) _ q⟩⟩
        rw [z, haA] at n
        cases n
      · intro x hx
        rw [hpa]
        obtain ⟨q1, q2⟩ := m5 x hx
        show lim (.dict (setM kvs y (putAt (getN kvs y) p x))) ∧ nod (.dict (setM kvs y (putAt (getN kvs y) p x))) + _ = _
        have q3 := nodK_set kvs y (putAt (getN kvs y) p x) nds hy
        rw [nod_dict, nod_dict]
        unfold lim
        unfold lim at hlim
        refine ⟨limK_of.mpr fun z hz => ?_, by omega⟩
        obtain ⟨z0, hz0, rfl⟩ := List.mem_map.mp hz
        have hz1 := limK_of.mp hlim z0 hz0
        by_cases ez : nm z0.1 = y
        · rw [if_pos ez]
          exact ⟨hz1.1, q1⟩
        · rw [if_neg ez]
          exact hz1
end VL

namespace VL
open PySem L2 LW PyProof.Rows
/-! ### names in their order -/
def leS (a b : Str) : Prop := a.cps.toList ≤ b.cps.toList
theorem leS_anti {a b : Str} (h : leS a b) (g : leS b a) : a = b := Str.ext' (Array.toList_inj.mp (List.le_antisymm h g))
theorem rising_pw : ∀ (l : List Str) (p : Str), risingS p l = true → (p :: l).Pairwise leS
  | [], p, _ => List.pairwise_singleton _ _
  | x :: r, p, h => by
    have h' : (!Spec.ltCps x.cps.toList p.cps.toList && risingS x r) = true := h
    rw [Bool.and_eq_true, ltCps_eq] at h'
    have ih := rising_pw r x h'.2
    have h1 : leS p x := by
      have : ¬ x.cps.toList < p.cps.toList := by simpa using h'.1
      exact List.not_lt.mp this
    refine List.Pairwise.cons (fun y hy => ?_) ih
    rcases List.mem_cons.mp hy with rfl | hy
    · exact h1
    · exact List.le_trans h1 ((List.pairwise_cons.mp ih).1 y hy)
theorem sorted_pw {l : List Str} (h : sortedS l = true) : l.Pairwise leS := by
  cases l with
  | nil => exact List.Pairwise.nil
  | cons x r => exact rising_pw r x h
theorem sorted_uniq {xs ys : List Str} (p : xs.Perm ys) (sx : sortedS xs = true) (sy : sortedS ys = true) : xs = ys :=
  p.eq_of_pairwise (fun _ _ _ _ h g => leS_anti h g) (sorted_pw sx) (sorted_pw sy)
noncomputable def srt (l : List Str) : List Str := open Classical in if h : ∃ ys : List Str, ys.Perm l ∧ sortedS ys = true then Classical.choose h else []
theorem srt_of {l ys : List Str} (p : ys.Perm l) (s : sortedS ys = true) : ys = srt l := by
  have h : ∃ ys : List Str, ys.Perm l ∧ sortedS ys = true := ⟨ys, p, s⟩
  unfold srt
  rw [dif_pos h]
  have q := Classical.choose_spec h
  exact sorted_uniq (p.trans q.1.symm) s q.2
/-- children, step by step, in their order -/
noncomputable def kidsOf : PyData → List (V × PyData)
  | .list ds => (List.range ds.length).zipWith (fun (i : Nat) c => (V.int i, c)) ds
  | .dict kvs => (srt (names kvs)).map fun y => (V.str y, getN kvs y)
  | _ => []
theorem kids_eq {d : PyData} {cs : List (V × PyData)} (h : KidsAre d cs) : cs = kidsOf d := by
  cases d with
  | list ds => exact h
  | dict kvs =>
    obtain ⟨ys, p, s, rfl⟩ := h
    show _ = (srt (names kvs)).map fun y => (V.str y, getN kvs y)
    rw [← srt_of p s]
  | _ => exact h
/-! ### all places, in their order -/
noncomputable def pathsN : Nat → PyData → List (List V)
  | 0, _ => []
  | n + 1, d => [] :: (kidsOf d).flatMap fun c => (pathsN n c.2).map (c.1 :: ·)
/-- kids that can be reached -/
def KOk (d : PyData) : Prop := ∀ c ∈ kidsOf d, stepD d c.1 = some c.2
theorem pathsN_eq : ∀ (n m : Nat) (d : PyData), (∀ c ∈ kidsOf d, cnt c.2 < cnt d) → cnt d ≤ n → cnt d ≤ m → (∀ k e, cnt e ≤ k → (∀ c ∈ kidsOf e, cnt c.2 < cnt e)) → pathsN n d = pathsN m d
  | 0, _, d, _, h, _, _ => by have := cnt_pos d; omega
  | _ + 1, 0, d, _, _, h, _ => by have := cnt_pos d; omega
  | n + 1, m + 1, d, hk, h1, h2, ha => by
    show [] :: (kidsOf d).flatMap (fun c => (pathsN n c.2).map (c.1 :: ·)) = [] :: (kidsOf d).flatMap (fun c => (pathsN m c.2).map (c.1 :: ·))
    congr 1
    rw [List.flatMap_def, List.flatMap_def]
    congr 1
    apply List.map_congr_left
    intro c hc
    have := hk c hc
    rw [pathsN_eq n m c.2 (ha (cnt c.2) c.2 (Nat.le_refl _)) (by omega) (by omega) ha]
theorem srt_mem {l : List Str} {y : Str} (h : y ∈ srt l) : y ∈ l := by
  unfold srt at h
  split at h
  · rename_i g
    exact (Classical.choose_spec g).1.mem_iff.mp h
  · cases h
theorem kidsOf_step {d : PyData} {c : V × PyData} (h : c ∈ kidsOf d) : stepD d c.1 = some c.2 := by
  cases d with
  | list ds =>
    obtain ⟨i, hi⟩ := List.mem_iff_getElem?.mp (show c ∈ (List.range ds.length).zipWith (fun (i : Nat) c => (V.int i, c)) ds from h)
    rw [List.getElem?_zipWith] at hi
    by_cases hl : i < ds.length
    · rw [List.getElem?_range hl, List.getElem?_eq_getElem hl] at hi
      have hi : (V.int i, ds[i]) = c := Option.some.inj hi
      rw [← hi]
      show (if (0 : Int) ≤ (i : Int) then ds[(i : Int).toNat]? else none) = some ds[i]
      rw [if_pos (by omega), Int.toNat_natCast, List.getElem?_eq_getElem hl]
    · rw [List.getElem?_eq_none (l := ds) (by omega)] at hi
      cases e : (List.range ds.length)[i]? <;> rw [e] at hi <;> cases hi
  | dict kvs =>
    obtain ⟨y, hy, rfl⟩ := List.mem_map.mp (show c ∈ (srt (names kvs)).map fun y => (V.str y, getN kvs y) from h)
    show (if y ∈ names kvs then some (getN kvs y) else none) = some (getN kvs y)
    rw [if_pos (srt_mem hy)]
  | _ => cases h
theorem kidsOf_cnt {d : PyData} {c : V × PyData} (h : c ∈ kidsOf d) : cnt c.2 < cnt d := cnt_kid (step_kid (kidsOf_step h))
noncomputable def paths (d : PyData) : List (List V) := pathsN (cnt d) d
noncomputable def pathsC (c : V × PyData) : List (List V) := (paths c.2).map (c.1 :: ·)
theorem paths_eq (d : PyData) : paths d = [] :: (kidsOf d).flatMap pathsC := by
  unfold paths
  have e : cnt d = (cnt d - 1) + 1 := by
    have := cnt_pos d
    omega
  rw [e]
  show [] :: (kidsOf d).flatMap (fun c => (pathsN (cnt d - 1) c.2).map (c.1 :: ·)) = _
  congr 1
  rw [List.flatMap_def, List.flatMap_def]
  congr 1
  apply List.map_congr_left
  intro c hc
  have h1 := kidsOf_cnt hc
  show _ = (pathsN (cnt c.2) c.2).map (c.1 :: ·)
  rw [pathsN_eq (cnt d - 1) (cnt c.2) c.2 (fun _ h => kidsOf_cnt h) (by omega) (Nat.le_refl _) (fun _ _ _ _ h => kidsOf_cnt h)]
theorem paths_at : ∀ (n : Nat) (d : PyData), cnt d ≤ n → ∀ p ∈ paths d, ∃ c, At d p c
  | 0, d, h, _, _ => by have := cnt_pos d; omega
  | n + 1, d, h, p, hp => by
    rw [paths_eq] at hp
    rcases List.mem_cons.mp hp with rfl | hp
    · exact ⟨d, rfl⟩
    · obtain ⟨c, hc, hp⟩ := List.mem_flatMap.mp hp
      obtain ⟨q, hq, rfl⟩ := List.mem_map.mp hp
      have h1 := kidsOf_cnt hc
      obtain ⟨e, he⟩ := paths_at n c.2 (by omega) q hq
      exact ⟨e, c.2, kidsOf_step hc, he⟩
/-- every child that a step leads to is among them, if the order is told -/
theorem kidsOf_all {d c : PyData} {s : V} (h : stepD d s = some c) (hs : ∀ kvs, d = .dict kvs → ∃ ys : List Str, ys.Perm (names kvs) ∧ sortedS ys = true) : (s, c) ∈ kidsOf d := by
  rcases step_cases h with ⟨ds, i, rfl, rfl, h0, e⟩ | ⟨kvs, y, rfl, rfl, hy, rfl⟩
  · show (V.int i, c) ∈ (List.range ds.length).zipWith (fun (i : Nat) c => (V.int i, c)) ds
    obtain ⟨hl, _⟩ := List.getElem?_eq_some_iff.mp e
    refine List.mem_of_getElem? (i := i.toNat) ?_
    rw [List.getElem?_zipWith, List.getElem?_range hl, e]
    show some (V.int ((i.toNat : Nat) : Int), c) = _
    rw [show ((i.toNat : Nat) : Int) = i by omega]
  · obtain ⟨ys, p, s⟩ := hs kvs rfl
    show _ ∈ (srt (names kvs)).map fun y => (V.str y, getN kvs y)
    rw [← srt_of p s]
    exact List.mem_map.mpr ⟨y, p.mem_iff.mpr hy, rfl⟩
/-- the head of a value -/
noncomputable def headD : PyData → PyData
  | .dict kvs => .tuple [.str "record", .tuple ((srt (names kvs)).map PyData.str)]
  | .list ds => .tuple [.str "list", .int ds.length]
  | .str x => .tuple [.str "text", .str x]
  | d => .tuple [.str "number", d]
end VL

namespace WT
open PySem L2 LW VL
open SX (S S_tl S_inj S_len S_cat)
open TL (tl numL numL_lt numL_step numL_digits numL_ne numL_val numL_len)
open NumText (digitsVal AllDigits)
/-! ### numbers as texts -/
def numI (i : Int) : List Nat := if i < 0 then 45 :: numL i.natAbs else numL i.natAbs
def digs (l : List Nat) : Bool := l.all fun c => decide (48 ≤ c) && decide (c ≤ 57)
theorem digs_all {l : List Nat} (h : digs l = true) : AllDigits l := fun c hc => by
  have q := List.all_eq_true.mp h c hc
  rw [Bool.and_eq_true, decide_eq_true_eq, decide_eq_true_eq] at q
  exact q
theorem all_digs {l : List Nat} (h : AllDigits l) : digs l = true := List.all_eq_true.mpr fun c hc => by
  have q := h c hc
  rw [Bool.and_eq_true, decide_eq_true_eq, decide_eq_true_eq]
  exact q
theorem num_str (i : Int) : (Str.ofString (toString i) : Str) = S (numI i) := by
  unfold numI
  cases i with
  | ofNat n =>
    rw [if_neg (by have := Int.ofNat_nonneg n; exact Int.not_lt.mpr this)]
    exact SX.num_S n
  | negSucc m =>
    rw [if_pos (Int.negSucc_lt_zero m)]
    have e : toString (Int.negSucc m) = "-" ++ toString ((m + 1 : Nat) : Int) := rfl
    have e2 : Str.ofString (toString (Int.negSucc m)) = Str.ofString "-" ++ Str.ofString (toString ((m + 1 : Nat) : Int)) := by
      refine TL.ext_tl ?_
      rw [TL.tl_append, e, Str.ofString_eq_toList, Str.ofString_eq_toList, Str.ofString_eq_toList, String.toList_append, List.map_append]
    rw [e2, SX.num_S]
    exact S_cat [45] (numL (m + 1))
def plainN (w : List Nat) : List Nat := if w.take 1 = [45] then w.drop 1 else w
def isNum (w : List Nat) : Bool := decide (1 ≤ (plainN w).length) && decide ((plainN w).length ≤ 30) && digs (plainN w)
def valN (w : List Nat) : Int := if w.take 1 = [45] then -((digitsVal (w.drop 1) : Nat) : Int) else ((digitsVal w : Nat) : Int)
def strictN (w : List Nat) : Bool := isNum w && !(decide ((plainN w).take 1 = [48]) && decide (w ≠ [48]))
theorem val_app (q : List Nat) (c : Nat) : digitsVal (q ++ [c]) = digitsVal q * 10 + (c - 48) := by
  unfold digitsVal
  rw [List.foldl_append]
  rfl
theorem val_lt : ∀ (n : Nat) (p : List Nat), p.length = n → digs p = true → digitsVal p < 10 ^ n
  | 0, p, h, _ => by
    have : p = [] := List.length_eq_zero_iff.mp h
    subst this
    decide
  | n + 1, p, h, hd => by
    have hne : p ≠ [] := fun e => by rw [e] at h; cases h
    have e := (List.dropLast_concat_getLast hne).symm
    have hl : p.dropLast.length = n := by rw [List.length_dropLast]; omega
    have hdq : digs p.dropLast = true := List.all_eq_true.mpr fun c hc => List.all_eq_true.mp hd c (List.dropLast_subset _ hc)
    have hc := digs_all hd (p.getLast hne) (List.getLast_mem hne)
    have ih := val_lt n p.dropLast hl hdq
    rw [e, val_app, Nat.pow_succ]
    omega
theorem num_back : ∀ (n : Nat) (p : List Nat), p.length = n → p ≠ [] → digs p = true → (p.take 1 ≠ [48] ∨ p = [48]) → numL (digitsVal p) = p
  | 0, p, h, hne, _, _ => (hne (List.length_eq_zero_iff.mp h)).elim
  | n + 1, p, h, hne, hd, hz => by
    obtain ⟨q, c, rfl⟩ : ∃ q c, p = q ++ [c] := ⟨p.dropLast, p.getLast hne, (List.dropLast_concat_getLast hne).symm⟩
    have hc := digs_all hd c (by simp)
    rw [val_app]
    by_cases hq : q = []
    · subst hq
      show numL (0 * 10 + (c - 48)) = [c]
      rw [Nat.zero_mul, Nat.zero_add, numL_lt (by omega)]
      congr 1
      omega
    · have hl : q.length = n := by
        rw [List.length_append] at h
        have : [c].length = 1 := rfl
        omega
      have hdq : digs q = true := List.all_eq_true.mpr fun c hc => List.all_eq_true.mp hd c (List.mem_append_left _ hc)
      have hzq : q.take 1 ≠ [48] := by
        rcases hz with hz | hz
        · intro e
          apply hz
          cases q with
          | nil => exact (hq rfl).elim
          | cons a r => simpa using e
        · cases q with
          | nil => exact (hq rfl).elim
          | cons a r => simp at hz
      have ih := num_back n q hl hq hdq (.inl hzq)
      have hpos : 1 ≤ digitsVal q := by
        rcases Nat.eq_zero_or_pos (digitsVal q) with z | z
        · rw [z, numL_lt (by decide)] at ih
          exact (hzq (by rw [← ih]; rfl)).elim
        · exact z
      rw [numL_step (by omega), show (digitsVal q * 10 + (c - 48)) / 10 = digitsVal q by omega, show (digitsVal q * 10 + (c - 48)) % 10 = c - 48 by omega, ih]
      congr 1
      show [48 + (c - 48)] = [c]
      congr 1
      omega
theorem num_head : ∀ n : Nat, 1 ≤ n → (numL n).take 1 ≠ [48] := by
  intro n
  induction n using Nat.strongRecOn with
  | _ n ih =>
    intro h
    by_cases h1 : n < 10
    · rw [numL_lt h1]
      intro e
      have : 48 + n = 48 := by simpa using e
      omega
    · rw [numL_step (by omega)]
      have := ih (n / 10) (by omega) (by omega)
      intro e
      apply this
      cases hq : numL (n / 10) with
      | nil => exact (numL_ne _ hq).elim
      | cons a r =>
        rw [hq] at e
        simpa using e
theorem numL_no45 (n : Nat) : (numL n).take 1 ≠ [45] := by
  cases hq : numL n with
  | nil => exact (numL_ne _ hq).elim
  | cons a r =>
    have := numL_digits n a (by rw [hq]; simp)
    intro e
    have : a = 45 := by simpa using e
    omega
/-- what a leaf's number is written as, read -/
theorem num_read {i : Int} (h1 : -big < i) (h2 : i < big) : strictN (numI i) = true ∧ valN (numI i) = i := by
  have hn : i.natAbs < 10 ^ 30 := by unfold big at h1 h2; omega
  have hl : (numL i.natAbs).length ≤ 30 := numL_len (by decide) hn
  have hl1 : 1 ≤ (numL i.natAbs).length := List.length_pos_iff.mpr (numL_ne _)
  have hd := all_digs (numL_digits i.natAbs)
  by_cases hi : i < 0
  · have e : numI i = 45 :: numL i.natAbs := by unfold numI; rw [if_pos hi]
    have e1 : plainN (45 :: numL i.natAbs) = numL i.natAbs := by
      unfold plainN
      rw [if_pos (show List.take 1 (45 :: numL i.natAbs) = [45] from rfl)]
      rfl
    have e2 : valN (45 :: numL i.natAbs) = -((digitsVal (numL i.natAbs) : Nat) : Int) := by
      unfold valN
      rw [if_pos (show List.take 1 (45 :: numL i.natAbs) = [45] from rfl)]
      rfl
    rw [e, e2, numL_val]
    refine ⟨?_, by omega⟩
    unfold strictN isNum
    rw [e1, decide_eq_true hl, decide_eq_true hl1, hd, decide_eq_false (num_head _ (by omega))]
    rfl
  · have e : numI i = numL i.natAbs := by unfold numI; rw [if_neg hi]
    have e1 : plainN (numL i.natAbs) = numL i.natAbs := by
      unfold plainN
      rw [if_neg (numL_no45 _)]
    have e2 : valN (numL i.natAbs) = ((digitsVal (numL i.natAbs) : Nat) : Int) := by
      unfold valN
      rw [if_neg (numL_no45 _)]
    rw [e, e2, numL_val]
    refine ⟨?_, by omega⟩
    unfold strictN isNum
    rw [e1, decide_eq_true hl, decide_eq_true hl1, hd]
    by_cases h0 : i.natAbs = 0
    · rw [h0, numL_lt (by decide)]
      decide
    · rw [decide_eq_false (num_head _ (by omega))]
      rfl
theorem num_sound {w : List Nat} (h : strictN w = true) : numI (valN w) = w ∧ -big < valN w ∧ valN w < big := by
  unfold strictN isNum at h
  rw [Bool.and_eq_true, Bool.and_eq_true, Bool.and_eq_true] at h
  obtain ⟨⟨⟨h1, h2⟩, hd⟩, hz⟩ := h
  have h1 := of_decide_eq_true h1
  have h2 := of_decide_eq_true h2
  have hv := val_lt _ (plainN w) rfl hd
  have hb : digitsVal (plainN w) < 10 ^ 30 := Nat.lt_of_lt_of_le hv (Nat.pow_le_pow_right (by decide) h2)
  have hne : plainN w ≠ [] := fun e => by rw [e] at h1; exact absurd h1 (by decide)
  by_cases hm : w.take 1 = [45]
  · have ep : plainN w = w.drop 1 := by unfold plainN; rw [if_pos hm]
    have ev : valN w = -((digitsVal (w.drop 1) : Nat) : Int) := by unfold valN; rw [if_pos hm]
    rw [ep] at hd hb hne hz
    have ew : w = 45 :: w.drop 1 := by
      cases w with
      | nil => cases hm
      | cons a r =>
        have : a = 45 := by simpa using hm
        subst this
        rfl
    have hz1 : (w.drop 1).take 1 ≠ [48] := fun e => by
      rw [decide_eq_true e, decide_eq_true (show w ≠ [48] from fun e2 => by rw [e2] at hm; exact absurd hm (by decide))] at hz
      cases hz
    have hbk := num_back _ _ rfl hne hd (.inl hz1)
    have hpos : 1 ≤ digitsVal (w.drop 1) := by
      rcases Nat.eq_zero_or_pos (digitsVal (w.drop 1)) with z | z
      · rw [z, numL_lt (by decide)] at hbk
        exact (hz1 (by rw [← hbk]; rfl)).elim
      · exact z
    rw [ev]
    refine ⟨?_, by unfold big; omega, by unfold big; omega⟩
    unfold numI
    rw [if_pos (by omega), show (-((digitsVal (w.drop 1) : Nat) : Int)).natAbs = digitsVal (w.drop 1) by omega, hbk]
    exact ew.symm
  · have ep : plainN w = w := by unfold plainN; rw [if_neg hm]
    have ev : valN w = ((digitsVal w : Nat) : Int) := by unfold valN; rw [if_neg hm]
    rw [ep] at hd hb hne hz
    have hz1 : w.take 1 ≠ [48] ∨ w = [48] := by
      by_cases e : w.take 1 = [48]
      · right
        rw [decide_eq_true e, Bool.true_and, Bool.not_eq_true'] at hz
        exact Classical.not_not.mp (of_decide_eq_false hz)
      · exact .inl e
    have hbk := num_back _ _ rfl hne hd hz1
    rw [ev]
    refine ⟨?_, by unfold big; omega, by unfold big; omega⟩
    unfold numI
    rw [if_neg (by omega), show (((digitsVal w : Nat) : Int)).natAbs = digitsVal w by omega]
    exact hbk
/-! ### values as texts -/
mutual
def Wn : PyData → List Nat
  | .int i => numI i
  | .str x => 34 :: (tl x ++ [34])
  | .list ds => 91 :: WnL ds
  | .dict kvs => 123 :: WnK kvs
  | .none => []
  | .bool _ => []
  | .tuple _ => []
def WnL : List PyData → List Nat
  | [] => [93]
  | d :: r => Wn d ++ WnLT r
def WnLT : List PyData → List Nat
  | [] => [93]
  | d :: r => 44 :: 32 :: (Wn d ++ WnLT r)
def WnK : List (PyData × PyData) → List Nat
  | [] => [125]
  | (k, d) :: r => tl (nm k) ++ 58 :: 32 :: (Wn d ++ WnKT r)
def WnKT : List (PyData × PyData) → List Nat
  | [] => [125]
  | (k, d) :: r => 44 :: 32 :: (tl (nm k) ++ 58 :: 32 :: (Wn d ++ WnKT r))
end
def ltS (a b : Str) : Prop := tl a < tl b
mutual
def ordA : PyData → Prop
  | .list ds => ordL ds
  | .dict kvs => (names kvs).Pairwise ltS ∧ ordK kvs
  | .none => True
  | .bool _ => True
  | .int _ => True
  | .str _ => True
  | .tuple _ => True
def ordL : List PyData → Prop
  | [] => True
  | d :: r => ordA d ∧ ordL r
def ordK : List (PyData × PyData) → Prop
  | [] => True
  | (_, d) :: r => ordA d ∧ ordK r
end
theorem ordL_mem {ds : List PyData} : ordL ds ↔ ∀ d ∈ ds, ordA d := by
  induction ds with
  | nil => unfold ordL; exact ⟨fun _ => nofun, fun _ => trivial⟩
  | cons d r ih => unfold ordL; rw [ih]; simp
theorem ordK_mem {ds : List (PyData × PyData)} : ordK ds ↔ ∀ p ∈ ds, ordA p.2 := by
  induction ds with
  | nil => unfold ordK; exact ⟨fun _ => nofun, fun _ => trivial⟩
  | cons d r ih => obtain ⟨k, d⟩ := d; unfold ordK; rw [ih]; simp
/-! ### the two readers, plainly -/
def tk (t p : List Nat) : Bool := decide (t.take p.length = p)
def unt (t sg : List Nat) : List Nat := t.takeWhile fun c => !decide (c ∈ sg)
def dro (t sg : List Nat) : List Nat := t.dropWhile fun c => !decide (c ∈ sg)
theorem unt_dro (t sg : List Nat) : unt t sg ++ dro t sg = t := List.takeWhile_append_dropWhile
abbrev Res := Option (PyData × List Nat × Nat)
def itemL (nv : List Nat → Nat → Res) : Nat → List PyData → List Nat → Nat → Res
  | 0, _, _, _ => none
  | f + 1, acc, t, m => match nv t m with
    | none => none
    | some (d, t', m') => if tk t' [44, 32] then itemL nv f (acc ++ [d]) (t'.drop 2) m' else if tk t' [93] then some (.list (acc ++ [d]), t'.drop 1, m') else none
def itemK (nv : List Nat → Nat → Res) : Nat → List (PyData × PyData) → List Nat → Nat → Res
  | 0, _, _, _ => none
  | f + 1, acc, t, m => if lets (S (unt t [58])) 1 8 = false ∨ S (unt t [58]) ∈ names acc ∨ tk (dro t [58]) [58, 32] = false then none else
    match nv ((dro t [58]).drop 2) m with
    | none => none
    | some (d, t', m') => if tk t' [44, 32] then itemK nv f (acc ++ [(.str (S (unt t [58])), d)]) (t'.drop 2) m' else if tk t' [125] then some (.dict (acc ++ [(.str (S (unt t [58])), d)]), t'.drop 1, m') else none
def nvF : Nat → List Nat → Nat → Res
  | 0, _, _ => none
  | n + 1, t, m => if 60 < m + 1 then none else
    if tk t [91] then (if tk (t.drop 1) [93] then some (.list [], (t.drop 1).drop 1, m + 1) else itemL (nvF n) 61 [] (t.drop 1) (m + 1))
    else if tk t [123] then (if tk (t.drop 1) [125] then some (.dict [], (t.drop 1).drop 1, m + 1) else itemK (nvF n) 61 [] (t.drop 1) (m + 1))
    else if tk t [34] then (if tk (dro (t.drop 1) [34]) [34] then some (.str (S (unt (t.drop 1) [34])), (dro (t.drop 1) [34]).drop 1, m + 1) else none)
    else if isNum (unt t [44, 93, 125]) then some (.int (valN (unt t [44, 93, 125])), dro t [44, 93, 125], m + 1) else none
abbrev ResL := Option (PyData × List Nat)
def lleaf (t : List Nat) : ResL :=
  if tk t [34] then (if tk (dro (t.drop 1) [34]) [34] = false ∨ lets (S (unt (t.drop 1) [34])) 0 20 = false then none else some (.str (S (unt (t.drop 1) [34])), (dro (t.drop 1) [34]).drop 1))
  else if strictN (unt t [44, 93, 125]) then some (.int (valN (unt t [44, 93, 125])), dro t [44, 93, 125]) else none
def lsL (rd : List Nat → ResL) : Nat → List PyData → List Nat → ResL
  | 0, _, _ => none
  | f + 1, acc, t => if tk t [93] = true ∨ (acc ≠ [] ∧ tk t [44, 32] = false) then (if tk t [93] then some (.list acc, t.drop 1) else none)
    else match rd (t.drop (if acc = [] then 0 else 2)) with
      | none => none
      | some (d, t') => if 59 < acc.length then none else lsL rd f (acc ++ [d]) t'
def okAfter (acc : List (PyData × PyData)) (y : Str) : Bool := match (names acc).getLast? with
  | none => true
  | some z => decide (tl z < tl y)
def lsK (rd : List Nat → ResL) : Nat → List (PyData × PyData) → List Nat → ResL
  | 0, _, _ => none
  | f + 1, acc, t => if tk t [125] = true ∨ (acc ≠ [] ∧ tk t [44, 32] = false) then (if tk t [125] then some (.dict acc, t.drop 1) else none)
    else
      let u := t.drop (if acc = [] then 0 else 2)
      if lets (S (unt u [58])) 1 8 = false ∨ tk (dro u [58]) [58, 32] = false ∨ okAfter acc (S (unt u [58])) = false then none else
      match rd ((dro u [58]).drop 2) with
      | none => none
      | some (d, t') => if 7 < acc.length then none else lsK rd f (acc ++ [(.str (S (unt u [58])), d)]) t'
def lrF : Nat → List Nat → ResL
  | 0, _ => none
  | n + 1, t => if tk t [91] then lsL (lrF n) 62 [] (t.drop 1) else if tk t [123] then lsK (lrF n) 10 [] (t.drop 1) else lleaf t
end WT

namespace WT
open PySem L2 LW VL
open SX (S S_tl S_inj S_len S_cat)
open TL (tl numL numL_lt numL_step numL_digits numL_ne numL_val numL_len)
open NumText (digitsVal AllDigits)
def stops (r : List Nat) : Prop := ∀ c, r.head? = some c → c ∈ [44, 93, 125]
theorem stops_cons {c : Nat} {r : List Nat} (h : c ∈ [44, 93, 125]) : stops (c :: r) := fun d hd => by
  cases hd
  exact h
theorem tk_app (p r : List Nat) : tk (p ++ r) p = true := decide_eq_true (by simp)
theorem tk_c {c : Nat} {r : List Nat} : tk (c :: r) [c] = true := tk_app [c] r
theorem tk_no {c d : Nat} {p r : List Nat} (h : c ≠ d) : tk (c :: r) (d :: p) = false := decide_eq_false fun e => by
  have e : c :: r.take p.length = d :: p := e
  exact h (List.cons.inj e).1
theorem tk_nil {d : Nat} {p : List Nat} : tk [] (d :: p) = false := decide_eq_false fun e => by cases e
theorem tk_eq {t p : List Nat} (h : tk t p = true) : t = p ++ t.drop p.length := by
  have h : t.take p.length = p := of_decide_eq_true h
  conv => lhs; rw [← List.take_append_drop p.length t, h]
theorem unt_app {w r sg : List Nat} (hw : ∀ c ∈ w, c ∉ sg) (hr : ∀ c, r.head? = some c → c ∈ sg) : unt (w ++ r) sg = w ∧ dro (w ++ r) sg = r := by
  induction w with
  | nil =>
    cases r with
    | nil => exact ⟨rfl, rfl⟩
    | cons c r =>
      have := hr c rfl
      unfold unt dro
      rw [List.nil_append, List.takeWhile_cons_of_neg (by rw [decide_eq_true this]; decide), List.dropWhile_cons_of_neg (by rw [decide_eq_true this]; decide)]
      exact ⟨rfl, rfl⟩
  | cons a w ih =>
    have h1 := hw a List.mem_cons_self
    have h2 := ih fun c hc => hw c (List.mem_cons_of_mem _ hc)
    unfold unt dro at h2 ⊢
    rw [List.cons_append, List.takeWhile_cons_of_pos (by rw [decide_eq_false h1]; decide), List.dropWhile_cons_of_pos (by rw [decide_eq_false h1]; decide), h2.1, h2.2]
    exact ⟨rfl, rfl⟩
theorem dro_head {t sg : List Nat} : ∀ c, (dro t sg).head? = some c → c ∈ sg := by
  intro c hc
  unfold dro at hc
  cases e : t.dropWhile fun c => !decide (c ∈ sg) with
  | nil => rw [e] at hc; cases hc
  | cons a r =>
    rw [e] at hc
    cases hc
    have := List.head_dropWhile_not (l := t) (fun c => !decide (c ∈ sg)) (by rw [e]; exact nofun)
    simp only [e, List.head_cons] at this
    simpa using this
theorem tk_one {t : List Nat} {c : Nat} (h : tk t [c] = true) : t = c :: t.drop 1 := tk_eq h
theorem num_chars (i : Int) : (∃ c w, numI i = c :: w ∧ (c = 45 ∨ (48 ≤ c ∧ c ≤ 57))) ∧ ∀ c ∈ numI i, c = 45 ∨ (48 ≤ c ∧ c ≤ 57) := by
  have h : ∀ c ∈ numI i, c = 45 ∨ (48 ≤ c ∧ c ≤ 57) := by
    unfold numI
    intro c hc
    split at hc
    · rcases List.mem_cons.mp hc with e | hc
      · exact .inl e
      · exact .inr (numL_digits _ c hc)
    · exact .inr (numL_digits _ c hc)
  refine ⟨?_, h⟩
  cases e : numI i with
  | nil =>
    unfold numI at e
    split at e
    · cases e
    · exact (numL_ne _ e).elim
  | cons c w => exact ⟨c, w, rfl, h c (by rw [e]; exact List.mem_cons_self)⟩
theorem strict_num {w : List Nat} (h : strictN w = true) : isNum w = true := by
  unfold strictN at h
  rw [Bool.and_eq_true] at h
  exact h.1
theorem low_chars {x : Str} {a b : Nat} (h : lets x a b = true) : ∀ c ∈ tl x, 97 ≤ c ∧ c ≤ 122 := by
  unfold lets low at h
  rw [Bool.and_eq_true] at h
  intro c hc
  have q := List.all_eq_true.mp h.2 c hc
  rw [Bool.and_eq_true, decide_eq_true_eq, decide_eq_true_eq] at q
  exact q
/-! ### the program's reader takes what is written -/
theorem itemL_ok {nv : List Nat → Nat → Res} : ∀ (ds : List PyData) (d : PyData) (acc : List PyData) (f m : Nat) (r : List Nat), (∀ e ∈ d :: ds, ∀ m r, m + cnt e ≤ 60 → stops r → nv (Wn e ++ r) m = some (e, r, m + cnt e)) → ds.length < f → m + cnt d + cntL ds ≤ 60 →
    itemL nv f acc (Wn d ++ (WnLT ds ++ r)) m = some (.list (acc ++ d :: ds), r, m + cnt d + cntL ds)
  | _, _, _, 0, _, _, _, hf, _ => (Nat.not_lt_zero _ hf).elim
  | [], d, acc, f + 1, m, r, hn, hf, hm => by
    rw [cntL] at hm ⊢
    unfold itemL
    rw [hn d List.mem_cons_self m _ (by omega) (by rw [WnLT]; exact stops_cons (by decide))]
    show (if tk ([93] ++ r) [44, 32] = true then _ else if tk ([93] ++ r) [93] = true then _ else _) = _
    rw [if_neg (by rw [List.singleton_append, tk_no (by decide)]; decide), if_pos (tk_app _ _)]
    rfl
  | e :: ds, d, acc, f + 1, m, r, hn, hf, hm => by
    rw [cntL] at hm ⊢
    unfold itemL
    rw [hn d List.mem_cons_self m _ (by omega) (by rw [WnLT]; exact stops_cons (by decide))]
    have ih := itemL_ok (nv := nv) ds e (acc ++ [d]) f (m + cnt d) r (fun z hz => hn z (List.mem_cons_of_mem _ hz)) (by simpa using hf) (by omega)
    have et : WnLT (e :: ds) ++ r = [44, 32] ++ (Wn e ++ (WnLT ds ++ r)) := by rw [WnLT]; simp
    rw [et]
    show (if tk ([44, 32] ++ _) [44, 32] = true then itemL nv f (acc ++ [d]) _ (m + cnt d) else _) = _
    rw [if_pos (tk_app _ _)]
    show itemL nv f (acc ++ [d]) (Wn e ++ (WnLT ds ++ r)) (m + cnt d) = _
    rw [ih, List.append_assoc, List.singleton_append, show m + cnt d + cnt e + cntL ds = m + cnt d + (cnt e + cntL ds) by omega]
theorem itemK_ok {nv : List Nat → Nat → Res} : ∀ (ds : List (PyData × PyData)) (k d : PyData) (acc : List (PyData × PyData)) (f m : Nat) (r : List Nat), (∀ p ∈ (k, d) :: ds, fld p.1 = true ∧ ∀ m r, m + cnt p.2 ≤ 60 → stops r → nv (Wn p.2 ++ r) m = some (p.2, r, m + cnt p.2)) →
    (names (acc ++ (k, d) :: ds)).Nodup → ds.length < f → m + cnt d + cntK ds ≤ 60 →
    itemK nv f acc (tl (nm k) ++ 58 :: 32 :: (Wn d ++ (WnKT ds ++ r))) m = some (.dict (acc ++ (k, d) :: ds), r, m + cnt d + cntK ds)
  | _, _, _, _, 0, _, _, _, _, hf, _ => (Nat.not_lt_zero _ hf).elim
  | ds, k, d, acc, f + 1, m, r, hn, hd, hf, hm => by
    obtain ⟨hk, hv⟩ := hn (k, d) List.mem_cons_self
    have hv : ∀ m r, m + cnt d ≤ 60 → stops r → nv (Wn d ++ r) m = some (d, r, m + cnt d) := hv
    obtain ⟨x, rfl⟩ : ∃ x, k = .str x := by
      cases k with
      | str x => exact ⟨x, rfl⟩
      | _ => cases hk
    have hl : lets x 1 8 = true := hk
    have hc := low_chars hl
    obtain ⟨u1, u2⟩ := unt_app (w := tl x) (r := 58 :: 32 :: (Wn d ++ (WnKT ds ++ r))) (sg := [58]) (fun c h => by
      have := hc c h
      intro hm
      have := List.mem_singleton.mp hm
      omega) (fun c h => by cases h; decide)
    have hno : x ∉ names acc := by
      unfold names at hd ⊢
      rw [List.map_append, List.nodup_append] at hd
      intro hx
      exact hd.2.2 x hx x (by simp [nm]) rfl
    show itemK nv (f + 1) acc (tl x ++ 58 :: 32 :: (Wn d ++ (WnKT ds ++ r))) m = _
    unfold itemK
    rw [u1, u2, S_tl, if_neg (by
      rintro (h | h | h)
      · rw [hl] at h; cases h
      · exact hno h
      · have := tk_app [58, 32] (Wn d ++ (WnKT ds ++ r))
        have this : tk (58 :: 32 :: (Wn d ++ (WnKT ds ++ r))) [58, 32] = true := this
        rw [this] at h
        cases h)]
    show (match nv (Wn d ++ (WnKT ds ++ r)) m with | none => none | some (d', t', m') => _) = _
    cases ds with
    | nil =>
      rw [cntK] at hm ⊢
      rw [hv m _ (by omega) (by rw [WnKT]; exact stops_cons (by decide))]
      show (if tk ([125] ++ r) [44, 32] = true then _ else if tk ([125] ++ r) [125] = true then _ else _) = _
      rw [if_neg (by rw [List.singleton_append, tk_no (by decide)]; decide), if_pos (tk_app _ _)]
      rfl
    | cons p ds =>
      obtain ⟨k2, d2⟩ := p
      rw [cntK] at hm ⊢
      rw [hv m _ (show m + cnt d ≤ 60 by omega) (by rw [WnKT]; exact stops_cons (by decide))]
      have ih := itemK_ok (nv := nv) ds k2 d2 (acc ++ [(.str x, d)]) f (m + cnt d) r (fun z hz => hn z (List.mem_cons_of_mem _ hz)) (by rw [List.append_assoc]; exact hd) (by simpa using hf) (by omega)
      have et : WnKT ((k2, d2) :: ds) ++ r = [44, 32] ++ (tl (nm k2) ++ 58 :: 32 :: (Wn d2 ++ (WnKT ds ++ r))) := by rw [WnKT]; simp
      rw [et]
      show (if tk ([44, 32] ++ _) [44, 32] = true then itemK nv f (acc ++ [(.str x, d)]) _ (m + cnt d) else _) = _
      rw [if_pos (tk_app _ _)]
      show itemK nv f (acc ++ [(PyData.str x, d)]) (tl (nm k2) ++ 58 :: 32 :: (Wn d2 ++ (WnKT ds ++ r))) (m + cnt d) = _
      rw [ih, List.append_assoc, List.singleton_append, show m + cnt d + cnt d2 + cntK ds = m + cnt d + (cnt d2 + cntK ds) by omega]
theorem lt_nodup {l : List Str} (h : l.Pairwise ltS) : l.Nodup := h.imp fun hab e => by
  rw [e] at hab
  exact List.lt_irrefl _ hab
theorem num_skip {i : Int} {r : List Nat} (hr : stops r) {c : Nat} (hc : c = 91 ∨ c = 123 ∨ c = 34) : tk (numI i ++ r) [c] = false := by
  obtain ⟨⟨a, w, e, ha⟩, _⟩ := num_chars i
  rw [e, List.cons_append]
  exact tk_no (by omega)
theorem num_unt {i : Int} {r : List Nat} (hr : stops r) : unt (numI i ++ r) [44, 93, 125] = numI i ∧ dro (numI i ++ r) [44, 93, 125] = r := by
  obtain ⟨_, ha⟩ := num_chars i
  refine unt_app (fun c h => ?_) hr
  have := ha c h
  intro hm
  simp only [List.mem_cons, List.not_mem_nil, or_false] at hm
  omega
theorem str_unt {x : Str} {r : List Nat} {a b : Nat} (h : lets x a b = true) : unt (tl x ++ 34 :: r) [34] = tl x ∧ dro (tl x ++ 34 :: r) [34] = 34 :: r := by
  refine unt_app (fun c hc => ?_) (fun c h => by cases h; decide)
  have := low_chars h c hc
  intro hm
  have := List.mem_singleton.mp hm
  omega
theorem okA_int {i : Int} (h : okA (.int i) = true) : -big < i ∧ i < big := by
  have h' : (decide (-big < i) && decide (i < big)) = true := h
  rw [Bool.and_eq_true] at h'
  exact ⟨of_decide_eq_true h'.1, of_decide_eq_true h'.2⟩
theorem okA_dict {kvs : List (PyData × PyData)} (h : okA (.dict kvs) = true) : kvs.length ≤ 8 ∧ (∀ p ∈ kvs, fld p.1 = true) ∧ okK kvs = true := by
  unfold okA at h
  rw [Bool.and_eq_true] at h
  have h1 : (decide (kvs.length ≤ 8) && kvs.all fun p => fld p.1) = true := h.1
  rw [Bool.and_eq_true] at h1
  exact ⟨of_decide_eq_true h1.1, fun p hp => List.all_eq_true.mp h1.2 p hp, h.2⟩
theorem okA_list {ds : List PyData} (h : okA (.list ds) = true) : ds.length < 60 ∧ ∀ d ∈ ds, okA d = true := by
  unfold okA at h
  rw [Bool.and_eq_true] at h
  have h1 : decide (ds.length < 60) = true := h.1
  rw [okL_all] at h
  exact ⟨of_decide_eq_true h1, fun d hd => List.all_eq_true.mp h.2 d hd⟩
theorem cntK_mem {kvs : List (PyData × PyData)} {p : PyData × PyData} (h : p ∈ kvs) : cnt p.2 ≤ cntK kvs := by
  induction kvs with
  | nil => cases h
  | cons q r ih =>
    obtain ⟨k, d⟩ := q
    rw [cntK]
    rcases List.mem_cons.mp h with rfl | h
    · show cnt d ≤ _
      omega
    · have := ih h
      omega
theorem cntL_mem {ds : List PyData} {d : PyData} (h : d ∈ ds) : cnt d ≤ cntL ds := by
  induction ds with
  | nil => cases h
  | cons q r ih =>
    rw [cntL]
    rcases List.mem_cons.mp h with rfl | h
    · omega
    · have := ih h
      omega
theorem nv_ok : ∀ (n : Nat) (d : PyData) (m : Nat) (r : List Nat), okA d = true → ordA d → cnt d ≤ n → m + cnt d ≤ 60 → stops r → nvF n (Wn d ++ r) m = some (d, r, m + cnt d)
  | 0, d, _, _, _, _, hc, _, _ => by have := cnt_pos d; omega
  | n + 1, d, m, r, ho, hd, hc, hm, hr => by
    have ih := nv_ok n
    have hp := cnt_pos d
    unfold nvF
    rw [if_neg (by omega)]
    cases d with
    | int i =>
      obtain ⟨h1, h2⟩ := okA_int ho
      obtain ⟨g1, g2⟩ := num_read h1 h2
      obtain ⟨u1, u2⟩ := num_unt (i := i) hr
      rw [Wn, if_neg (by rw [num_skip hr (.inl rfl)]; decide), if_neg (by rw [num_skip hr (.inr (.inl rfl))]; decide), if_neg (by rw [num_skip hr (.inr (.inr rfl))]; decide), u1, u2, if_pos (strict_num g1), g2]
      rfl
    | str x =>
      have hl : lets x 0 20 = true := ho
      obtain ⟨u1, u2⟩ := str_unt (r := r) hl
      have e : Wn (.str x) ++ r = 34 :: (tl x ++ 34 :: r) := by rw [Wn]; simp
      rw [e, if_neg (by rw [tk_no (by decide)]; decide), if_neg (by rw [tk_no (by decide)]; decide), if_pos (tk_c (c := 34))]
      show (if tk (dro (tl x ++ 34 :: r) [34]) [34] = true then some (PyData.str (S (unt (tl x ++ 34 :: r) [34])), (dro (tl x ++ 34 :: r) [34]).drop 1, m + 1) else none) = _
      rw [u1, u2, S_tl, if_pos (tk_c (c := 34))]
      rfl
    | list ds =>
      obtain ⟨h60, hoL⟩ := okA_list ho
      unfold ordA at hd
      rw [cnt] at hc hm
      cases ds with
      | nil =>
        rw [Wn, WnL, List.cons_append, List.cons_append, List.nil_append, if_pos (tk_c (c := 91))]
        show (if tk (93 :: r) [93] = true then some (PyData.list [], r, m + 1) else _) = _
        rw [if_pos (tk_c (c := 93))]
        rfl
      | cons d ds =>
        have e : Wn (.list (d :: ds)) ++ r = 91 :: (Wn d ++ (WnLT ds ++ r)) := by rw [Wn, WnL]; simp
        rw [e, if_pos (tk_c (c := 91))]
        have q := itemL_ok (nv := nvF n) ds d [] 61 (m + 1) r (fun e he m' r' hm' hr' => ih e m' r' (hoL e he) (ordL_mem.mp hd e he) (by have := cntL_mem he; omega) hm' hr') (by simp at h60; omega) (by rw [cntL] at hm; omega)
        show (if tk (Wn d ++ (WnLT ds ++ r)) [93] = true then _ else itemL (nvF n) 61 [] (Wn d ++ (WnLT ds ++ r)) (m + 1)) = _
        rw [if_neg ?_, q, cnt, cntL]
        · rw [show m + 1 + cnt d + cntL ds = m + (1 + (cnt d + cntL ds)) by omega]
          rfl
        · -- no value begins with a closing bracket
          have hw : ∃ c w, Wn d = c :: w ∧ c ≠ 93 ∧ c ≠ 125 := by
            have od := hoL d List.mem_cons_self
            cases d with
            | int i =>
              obtain ⟨⟨c, w, e, hc⟩, _⟩ := num_chars i
              exact ⟨c, w, by rw [Wn]; exact e, by omega, by omega⟩
            | str x => exact ⟨34, _, by rw [Wn], by decide, by decide⟩
            | list ds => exact ⟨91, _, by rw [Wn], by decide, by decide⟩
            | dict ds => exact ⟨123, _, by rw [Wn], by decide, by decide⟩
            | none => cases od
            | bool b => cases od
            | tuple b => cases od
          obtain ⟨c, w, e, hc, _⟩ := hw
          rw [e, List.cons_append, tk_no hc]
          decide
    | dict kvs =>
      obtain ⟨h8, hfl, hok⟩ := okA_dict ho
      unfold ordA at hd
      rw [cnt] at hc hm
      cases kvs with
      | nil =>
        rw [Wn, WnK, List.cons_append, List.cons_append, List.nil_append, if_neg (by rw [tk_no (by decide)]; decide), if_pos (tk_c (c := 123))]
        show (if tk (125 :: r) [125] = true then some (PyData.dict [], r, m + 1) else _) = _
        rw [if_pos (tk_c (c := 125))]
        rfl
      | cons p ds =>
        obtain ⟨k, d⟩ := p
        have e : Wn (.dict ((k, d) :: ds)) ++ r = 123 :: (tl (nm k) ++ 58 :: 32 :: (Wn d ++ (WnKT ds ++ r))) := by rw [Wn, WnK]; simp
        rw [e, if_neg (by rw [tk_no (by decide)]; decide), if_pos (tk_c (c := 123))]
        have q := itemK_ok (nv := nvF n) ds k d [] 61 (m + 1) r (fun p hp => ⟨hfl p hp, fun m' r' hm' hr' => ih p.2 m' r' (okK_mem' hok p hp) (ordK_mem.mp hd.2 p hp) (by have := cntK_mem hp; omega) hm' hr'⟩) (lt_nodup hd.1) (by simp at h8; omega) (by rw [cntK] at hm; omega)
        show (if tk (tl (nm k) ++ 58 :: 32 :: (Wn d ++ (WnKT ds ++ r))) [125] = true then _ else itemK (nvF n) 61 [] (tl (nm k) ++ 58 :: 32 :: (Wn d ++ (WnKT ds ++ r))) (m + 1)) = _
        rw [if_neg ?_, q, cnt, cntK]
        · rw [show m + 1 + cnt d + cntK ds = m + (1 + (cnt d + cntK ds)) by omega]
          rfl
        · have hk := hfl (k, d) List.mem_cons_self
          have hw : ∃ c w, tl (nm k) = c :: w ∧ (97 ≤ c ∧ c ≤ 122) := by
            cases k with
            | str x =>
              have hl : lets x 1 8 = true := hk
              have hc := low_chars hl
              cases e : tl x with
              | nil =>
                unfold lets at hl
                rw [Bool.and_eq_true, Bool.and_eq_true] at hl
                have := of_decide_eq_true hl.1.1
                rw [TL.len_tl, e] at this
                exact absurd this (by decide)
              | cons c w => exact ⟨c, w, e, hc c (by rw [e]; exact List.mem_cons_self)⟩
            | _ => cases hk
          obtain ⟨c, w, e, hc⟩ := hw
          rw [e, List.cons_append, tk_no (by omega)]
          decide
    | none => cases ho
    | bool b => cases ho
    | tuple b => cases ho
where
  okK_mem' {kvs : List (PyData × PyData)} (h : okK kvs = true) : ∀ p ∈ kvs, okA p.2 = true := by
    intro p hp
    rw [okK_eq, okL_all] at h
    exact List.all_eq_true.mp h p.2 (List.mem_map_of_mem hp)
end WT

namespace WT
open PySem L2 LW VL
open SX (S S_tl S_inj S_len S_cat)
open TL (tl numL numL_lt numL_step numL_digits numL_ne numL_val numL_len)
open NumText (digitsVal AllDigits)
/-! ### the law's reader takes what is written -/
theorem val_head {d : PyData} (h : okA d = true) : ∃ c w, Wn d = c :: w ∧ c ≠ 93 ∧ c ≠ 125 ∧ c ≠ 44 := by
  cases d with
  | int i =>
    obtain ⟨⟨c, w, e, hc⟩, _⟩ := num_chars i
    exact ⟨c, w, by rw [Wn]; exact e, by omega, by omega, by omega⟩
  | str x => exact ⟨34, _, by rw [Wn], by decide, by decide, by decide⟩
  | list ds => exact ⟨91, _, by rw [Wn], by decide, by decide, by decide⟩
  | dict ds => exact ⟨123, _, by rw [Wn], by decide, by decide, by decide⟩
  | none => cases h
  | bool b => cases h
  | tuple b => cases h
theorem name_head {k : PyData} (h : fld k = true) : ∃ x c w, k = .str x ∧ lets x 1 8 = true ∧ tl x = c :: w ∧ 97 ≤ c ∧ c ≤ 122 := by
  cases k with
  | str x =>
    have hl : lets x 1 8 = true := h
    have hc := low_chars hl
    cases e : tl x with
    | nil =>
      unfold lets at hl
      rw [Bool.and_eq_true, Bool.and_eq_true] at hl
      have := of_decide_eq_true hl.1.1
      rw [TL.len_tl, e] at this
      exact absurd this (by decide)
    | cons c w => exact ⟨x, c, w, rfl, hl, e, hc c (by rw [e]; exact List.mem_cons_self)⟩
  | _ => cases h
theorem name_unt {x : Str} {r : List Nat} (h : lets x 1 8 = true) : unt (tl x ++ 58 :: r) [58] = tl x ∧ dro (tl x ++ 58 :: r) [58] = 58 :: r := by
  refine unt_app (fun c hc => ?_) (fun c h => by cases h; decide)
  have := low_chars h c hc
  intro hm
  have := List.mem_singleton.mp hm
  omega
theorem tk_col {r : List Nat} : tk (58 :: 32 :: r) [58, 32] = true := tk_app [58, 32] r
theorem tk_com {r : List Nat} : tk (44 :: 32 :: r) [44, 32] = true := tk_app [44, 32] r
theorem lsL_ok {rd : List Nat → ResL} : ∀ (ds acc : List PyData) (f : Nat) (r : List Nat), (∀ e ∈ ds, okA e = true ∧ ∀ r, stops r → rd (Wn e ++ r) = some (e, r)) → acc.length + ds.length ≤ 60 → ds.length < f →
    lsL rd f acc ((if acc = [] then WnL ds else WnLT ds) ++ r) = some (.list (acc ++ ds), r)
  | _, _, 0, _, _, _, hf => (Nat.not_lt_zero _ hf).elim
  | [], acc, f + 1, r, _, _, _ => by
    have e : (if acc = [] then WnL [] else WnLT []) ++ r = 93 :: r := by
      split
      · rw [WnL]; rfl
      · rw [WnLT]; rfl
    rw [e]
    unfold lsL
    rw [if_pos (.inl tk_c), if_pos tk_c, List.append_nil]
    rfl
  | d :: ds, acc, f + 1, r, hn, hl, hf => by
    obtain ⟨ho, hr⟩ := hn d List.mem_cons_self
    obtain ⟨c, w, ew, h93, _, h44⟩ := val_head ho
    have hst : stops (WnLT ds ++ r) := by
      cases ds with
      | nil => rw [WnLT]; exact stops_cons (by decide)
      | cons e ds => rw [WnLT]; exact stops_cons (by decide)
    have ih := lsL_ok (rd := rd) ds (acc ++ [d]) f r (fun e he => hn e (List.mem_cons_of_mem _ he)) (by rw [List.length_append]; simp at hl ⊢; omega) (by simpa using hf)
    rw [if_neg (show acc ++ [d] ≠ [] by simp), List.append_assoc, List.singleton_append] at ih
    have h59 : ¬ 59 < acc.length := by simp at hl; omega
    by_cases ha : acc = []
    · subst ha
      rw [if_pos rfl]
      have e : WnL (d :: ds) ++ r = Wn d ++ (WnLT ds ++ r) := by rw [WnL, List.append_assoc]
      rw [e]
      unfold lsL
      rw [if_neg (by
        rintro (h | ⟨h, _⟩)
        · rw [ew, List.cons_append, tk_no h93] at h
          cases h
        · exact h rfl), if_pos rfl, List.drop_zero, hr _ hst]
      show (if 59 < 0 then none else lsL rd f ([] ++ [d]) (WnLT ds ++ r)) = _
      rw [if_neg (by decide)]
      exact ih
    · rw [if_neg ha]
      have e : WnLT (d :: ds) ++ r = 44 :: 32 :: (Wn d ++ (WnLT ds ++ r)) := by rw [WnLT]; simp
      rw [e]
      unfold lsL
      rw [if_neg (by
        rintro (h | ⟨_, h⟩)
        · rw [tk_no (by decide)] at h
          cases h
        · rw [tk_com] at h
          cases h), if_neg ha]
      show (match rd (Wn d ++ (WnLT ds ++ r)) with | none => none | some (d, t') => _) = _
      rw [hr _ hst]
      show (if 59 < acc.length then none else lsL rd f (acc ++ [d]) (WnLT ds ++ r)) = _
      rw [if_neg h59]
      exact ih
theorem pw_snoc {l : List Str} {y : Str} (h : l.Pairwise ltS) (g : ∀ z, l.getLast? = some z → ltS z y) : (l ++ [y]).Pairwise ltS := by
  rw [List.pairwise_append]
  refine ⟨h, List.pairwise_singleton _ _, fun a ha b hb => ?_⟩
  cases List.mem_singleton.mp hb
  by_cases hne : l = []
  · subst hne
    cases ha
  · have e := List.dropLast_concat_getLast hne
    have hz := g _ (List.getLast?_eq_some_getLast hne)
    rw [← e] at h ha
    rw [List.pairwise_append] at h
    rcases List.mem_append.mp ha with ha | ha
    · exact List.lt_trans (h.2.2 a ha _ (List.mem_singleton.mpr rfl)) hz
    · cases List.mem_singleton.mp ha
      exact hz
theorem names_app (xs ys : List (PyData × PyData)) : names (xs ++ ys) = names xs ++ names ys := by
  unfold names
  rw [List.map_append]
theorem after_of {acc : List (PyData × PyData)} {y : Str} {l : List Str} (h : (names acc ++ y :: l).Pairwise ltS) : okAfter acc y = true := by
  rw [List.pairwise_append] at h
  unfold okAfter
  cases e : (names acc).getLast? with
  | none => rfl
  | some z =>
    have hz : z ∈ names acc := List.mem_of_getLast? e
    have q : tl z < tl y := h.2.2 z hz y List.mem_cons_self
    simpa using q
theorem of_after {acc : List (PyData × PyData)} {y : Str} (h : okAfter acc y = true) : ∀ z, (names acc).getLast? = some z → ltS z y := by
  intro z hz
  unfold okAfter at h
  rw [hz] at h
  have q : decide (tl z < tl y) = true := h
  have q2 : tl z < tl y := of_decide_eq_true q
  exact q2
theorem lsK_ok {rd : List Nat → ResL} : ∀ (ds acc : List (PyData × PyData)) (f : Nat) (r : List Nat), (∀ p ∈ ds, fld p.1 = true ∧ ∀ r, stops r → rd (Wn p.2 ++ r) = some (p.2, r)) → (names acc ++ names ds).Pairwise ltS → acc.length + ds.length ≤ 8 → ds.length < f →
    lsK rd f acc ((if acc = [] then WnK ds else WnKT ds) ++ r) = some (.dict (acc ++ ds), r)
  | _, _, 0, _, _, _, _, hf => (Nat.not_lt_zero _ hf).elim
  | [], acc, f + 1, r, _, _, _, _ => by
    have e : (if acc = [] then WnK [] else WnKT []) ++ r = 125 :: r := by
      split
      · rw [WnK]; rfl
      · rw [WnKT]; rfl
    rw [e]
    unfold lsK
    rw [if_pos (.inl tk_c), if_pos tk_c, List.append_nil]
    rfl
  | (k, d) :: ds, acc, f + 1, r, hn, hp, hl, hf => by
    obtain ⟨ho, hr⟩ := hn (k, d) List.mem_cons_self
    have hr : ∀ r, stops r → rd (Wn d ++ r) = some (d, r) := hr
    obtain ⟨x, c, w, rfl, hx, ew, hc1, hc2⟩ := name_head ho
    have hst : stops (WnKT ds ++ r) := by
      cases ds with
      | nil => rw [WnKT]; exact stops_cons (by decide)
      | cons e ds => obtain ⟨k2, d2⟩ := e; rw [WnKT]; exact stops_cons (by decide)
    have hp' : (names acc ++ x :: names ds).Pairwise ltS := hp
    have ih := lsK_ok (rd := rd) ds (acc ++ [(.str x, d)]) f r (fun e he => hn e (List.mem_cons_of_mem _ he)) (by rw [names_app, List.append_assoc]; exact hp') (by rw [List.length_append]; simp at hl ⊢; omega) (by simpa using hf)
    rw [if_neg (show acc ++ [(PyData.str x, d)] ≠ [] by simp), List.append_assoc, List.singleton_append] at ih
    have h7 : ¬ 7 < acc.length := by simp at hl; omega
    have haf := after_of hp'
    obtain ⟨u1, u2⟩ := name_unt (r := 32 :: (Wn d ++ (WnKT ds ++ r))) hx
    have main : (if lets (S (unt (tl x ++ 58 :: 32 :: (Wn d ++ (WnKT ds ++ r))) [58])) 1 8 = false ∨ tk (dro (tl x ++ 58 :: 32 :: (Wn d ++ (WnKT ds ++ r))) [58]) [58, 32] = false ∨ okAfter acc (S (unt (tl x ++ 58 :: 32 :: (Wn d ++ (WnKT ds ++ r))) [58])) = false then none else
      match rd ((dro (tl x ++ 58 :: 32 :: (Wn d ++ (WnKT ds ++ r))) [58]).drop 2) with
      | none => none
      | some (d', t') => if 7 < acc.length then none else lsK rd f (acc ++ [(.str (S (unt (tl x ++ 58 :: 32 :: (Wn d ++ (WnKT ds ++ r))) [58])), d')]) t') = some (.dict (acc ++ (.str x, d) :: ds), r) := by
      rw [u1, u2, S_tl, if_neg (by
        rintro (h | h | h)
        · rw [hx] at h; cases h
        · rw [tk_col] at h; cases h
        · rw [haf] at h; cases h)]
      show (match rd (Wn d ++ (WnKT ds ++ r)) with | none => none | some (d', t') => _) = _
      rw [hr _ hst]
      show (if 7 < acc.length then none else lsK rd f (acc ++ [(.str x, d)]) (WnKT ds ++ r)) = _
      rw [if_neg h7]
      exact ih
    by_cases ha : acc = []
    · rw [if_pos ha]
      have e : WnK ((.str x, d) :: ds) ++ r = tl x ++ 58 :: 32 :: (Wn d ++ (WnKT ds ++ r)) := by rw [WnK]; simp [nm]
      rw [e]
      unfold lsK
      rw [if_neg (by
        rintro (h | ⟨h, _⟩)
        · rw [ew, List.cons_append, tk_no (by omega)] at h
          cases h
        · exact h ha), if_pos ha]
      exact main
    · rw [if_neg ha]
      have e : WnKT ((.str x, d) :: ds) ++ r = 44 :: 32 :: (tl x ++ 58 :: 32 :: (Wn d ++ (WnKT ds ++ r))) := by rw [WnKT]; simp [nm]
      rw [e]
      unfold lsK
      rw [if_neg (by
        rintro (h | ⟨_, h⟩)
        · rw [tk_no (by decide)] at h
          cases h
        · rw [tk_com] at h
          cases h), if_neg ha]
      exact main
theorem okKm {kvs : List (PyData × PyData)} (h : okK kvs = true) : ∀ p ∈ kvs, okA p.2 = true := by
  intro p hp
  rw [okK_eq, okL_all] at h
  exact List.all_eq_true.mp h p.2 (List.mem_map_of_mem hp)
theorem lr_ok : ∀ (n : Nat) (d : PyData) (r : List Nat), okA d = true → ordA d → cnt d ≤ n → stops r → lrF n (Wn d ++ r) = some (d, r)
  | 0, d, _, _, _, hc, _ => by have := cnt_pos d; omega
  | n + 1, d, r, ho, hd, hc, hr => by
    have ih := lr_ok n
    unfold lrF
    cases d with
    | int i =>
      obtain ⟨h1, h2⟩ := okA_int ho
      obtain ⟨g1, g2⟩ := num_read h1 h2
      obtain ⟨u1, u2⟩ := num_unt (i := i) hr
      rw [Wn, if_neg (by rw [num_skip hr (.inl rfl)]; decide), if_neg (by rw [num_skip hr (.inr (.inl rfl))]; decide)]
      unfold lleaf
      rw [if_neg (by rw [num_skip hr (.inr (.inr rfl))]; decide), u1, u2, if_pos g1, g2]
    | str x =>
      have hl : lets x 0 20 = true := ho
      obtain ⟨u1, u2⟩ := str_unt (r := r) hl
      have e : Wn (.str x) ++ r = 34 :: (tl x ++ 34 :: r) := by rw [Wn]; simp
      rw [e, if_neg (by rw [tk_no (by decide)]; decide), if_neg (by rw [tk_no (by decide)]; decide)]
      unfold lleaf
      rw [if_pos tk_c]
      show (if tk (dro (tl x ++ 34 :: r) [34]) [34] = false ∨ lets (S (unt (tl x ++ 34 :: r) [34])) 0 20 = false then none else some (PyData.str (S (unt (tl x ++ 34 :: r) [34])), (dro (tl x ++ 34 :: r) [34]).drop 1)) = _
      rw [u1, u2, S_tl, if_neg (by
        rintro (h | h)
        · rw [tk_c] at h; cases h
        · rw [hl] at h; cases h)]
      rfl
    | list ds =>
      obtain ⟨h60, hoL⟩ := okA_list ho
      unfold ordA at hd
      rw [cnt] at hc
      have q := lsL_ok (rd := lrF n) ds [] 62 r (fun e he => ⟨hoL e he, fun r' hr' => ih e r' (hoL e he) (ordL_mem.mp hd e he) (by have := cntL_mem he; omega) hr'⟩) (by simp; omega) (by omega)
      rw [if_pos rfl] at q
      rw [Wn, List.cons_append, if_pos tk_c]
      exact q
    | dict kvs =>
      obtain ⟨h8, hfl, hok⟩ := okA_dict ho
      unfold ordA at hd
      rw [cnt] at hc
      have q := lsK_ok (rd := lrF n) kvs [] 10 r (fun p hp => ⟨hfl p hp, fun r' hr' => ih p.2 r' (okKm hok p hp) (ordK_mem.mp hd.2 p hp) (by have := cntK_mem hp; omega) hr'⟩) hd.1 (by simp; omega) (by omega)
      rw [if_pos rfl] at q
      rw [Wn, List.cons_append, if_neg (by rw [tk_no (by decide)]; decide), if_pos tk_c]
      exact q
    | none => cases ho
    | bool b => cases ho
    | tuple b => cases ho
/-! ### and nothing else -/
mutual
def okB : PyData → Prop
  | .int i => -big < i ∧ i < big
  | .str x => lets x 0 20 = true
  | .list ds => ds.length ≤ 60 ∧ okBL ds
  | .dict kvs => kvs.length ≤ 8 ∧ okBK kvs
  | .none => False
  | .bool _ => False
  | .tuple _ => False
def okBL : List PyData → Prop
  | [] => True
  | d :: r => okB d ∧ okBL r
def okBK : List (PyData × PyData) → Prop
  | [] => True
  | (k, d) :: r => fld k = true ∧ okB d ∧ okBK r
end
theorem okBL_mem {ds : List PyData} : okBL ds ↔ ∀ d ∈ ds, okB d := by
  induction ds with
  | nil => unfold okBL; exact ⟨fun _ => nofun, fun _ => trivial⟩
  | cons d r ih => unfold okBL; rw [ih]; simp
theorem okBK_mem {ds : List (PyData × PyData)} : okBK ds ↔ ∀ p ∈ ds, fld p.1 = true ∧ okB p.2 := by
  induction ds with
  | nil => unfold okBK; exact ⟨fun _ => nofun, fun _ => trivial⟩
  | cons d r ih => obtain ⟨k, d⟩ := d; unfold okBK; rw [ih]; simp [and_assoc]
theorem lsL_sound {rd : List Nat → ResL} (hr : ∀ t d r, rd t = some (d, r) → t = Wn d ++ r ∧ okB d ∧ ordA d) : ∀ (f : Nat) (acc : List PyData) (t : List Nat) (d : PyData) (r : List Nat), lsL rd f acc t = some (d, r) → acc.length ≤ 60 →
    ∃ ds, d = .list (acc ++ ds) ∧ t = (if acc = [] then WnL ds else WnLT ds) ++ r ∧ (acc ++ ds).length ≤ 60 ∧ ∀ e ∈ ds, okB e ∧ ordA e
  | 0, _, _, _, _, h, _ => by unfold lsL at h; cases h
  | f + 1, acc, t, d, r, h, hl => by
    unfold lsL at h
    split at h
    · split at h
      · rename_i h1
        cases h
        refine ⟨[], by rw [List.append_nil], ?_, by rw [List.append_nil]; exact hl, nofun⟩
        have e := tk_one h1
        split
        · rw [WnL]; exact e
        · rw [WnLT]; exact e
      · cases h
    · rename_i hc
      split at h
      · cases h
      · rename_i e t' hrd
        split at h
        · cases h
        · rename_i h59
          obtain ⟨e1, e2, e3⟩ := hr _ _ _ hrd
          obtain ⟨ds, q1, q2, q3, q4⟩ := lsL_sound hr f (acc ++ [e]) t' d r h (by rw [List.length_append]; simp; omega)
          rw [if_neg (by simp)] at q2
          refine ⟨e :: ds, by rw [q1, List.append_assoc, List.singleton_append], ?_, by rw [List.append_assoc, List.singleton_append] at q3; exact q3, fun z hz => ?_⟩
          · by_cases ha : acc = []
            · rw [if_pos ha] at e1 ⊢
              rw [WnL, List.append_assoc, ← q2]
              exact e1
            · rw [if_neg ha] at e1 ⊢
              have h2 : tk t [44, 32] = true := by
                cases q : tk t [44, 32] with
                | true => rfl
                | false => exact (hc (.inr ⟨ha, q⟩)).elim
              have e0 := tk_eq h2
              rw [WnLT]
              rw [e0]
              show 44 :: 32 :: t.drop 2 = 44 :: 32 :: ((Wn e ++ WnLT ds) ++ r)
              rw [List.append_assoc, ← q2, ← e1]
          · rcases List.mem_cons.mp hz with rfl | hz
            · exact ⟨e2, e3⟩
            · exact q4 z hz
theorem lsK_sound {rd : List Nat → ResL} (hr : ∀ t d r, rd t = some (d, r) → t = Wn d ++ r ∧ okB d ∧ ordA d) : ∀ (f : Nat) (acc : List (PyData × PyData)) (t : List Nat) (d : PyData) (r : List Nat), lsK rd f acc t = some (d, r) → acc.length ≤ 8 → (names acc).Pairwise ltS →
    ∃ ds, d = .dict (acc ++ ds) ∧ t = (if acc = [] then WnK ds else WnKT ds) ++ r ∧ (acc ++ ds).length ≤ 8 ∧ (∀ p ∈ ds, fld p.1 = true ∧ okB p.2 ∧ ordA p.2) ∧ (names (acc ++ ds)).Pairwise ltS
  | 0, _, _, _, _, h, _, _ => by unfold lsK at h; cases h
  | f + 1, acc, t, d, r, h, hl, hpw => by
    unfold lsK at h
    split at h
    · split at h
      · rename_i h1
        cases h
        refine ⟨[], by rw [List.append_nil], ?_, by rw [List.append_nil]; exact hl, nofun, by rw [List.append_nil]; exact hpw⟩
        have e := tk_one h1
        split
        · rw [WnK]; exact e
        · rw [WnKT]; exact e
      · cases h
    · rename_i hc
      dsimp only at h
      generalize hu : List.drop (if acc = [] then 0 else 2) t = u at h
      split at h
      · cases h
      · rename_i hn
        split at h
        · cases h
        · rename_i e t' hrd
          split at h
          · cases h
          · rename_i h7
            have n1 : lets (S (unt u [58])) 1 8 = true := by
              cases q : lets (S (unt u [58])) 1 8 with
              | true => rfl
              | false => exact (hn (.inl q)).elim
            have n2 : tk (dro u [58]) [58, 32] = true := by
              cases q : tk (dro u [58]) [58, 32] with
              | true => rfl
              | false => exact (hn (.inr (.inl q))).elim
            have n3 : okAfter acc (S (unt u [58])) = true := by
              cases q : okAfter acc (S (unt u [58])) with
              | true => rfl
              | false => exact (hn (.inr (.inr q))).elim
            obtain ⟨e1, e2, e3⟩ := hr _ _ _ hrd
            have hpw' : (names (acc ++ [(PyData.str (S (unt u [58])), e)])).Pairwise ltS := by
              rw [names_app]
              exact pw_snoc hpw (of_after n3)
            obtain ⟨ds, q1, q2, q3, q4, q5⟩ := lsK_sound hr f (acc ++ [(.str (S (unt u [58])), e)]) t' d r h (by rw [List.length_append]; simp; omega) hpw'
            rw [if_neg (by simp)] at q2
            have eu : u = unt u [58] ++ 58 :: 32 :: (Wn e ++ (WnKT ds ++ r)) := by
              conv => lhs; rw [← unt_dro u [58], tk_eq n2]
              show unt u [58] ++ (58 :: 32 :: (dro u [58]).drop 2) = _
              rw [e1, q2]
            refine ⟨(.str (S (unt u [58])), e) :: ds, by rw [q1, List.append_assoc, List.singleton_append], ?_, by rw [List.append_assoc, List.singleton_append] at q3; exact q3, fun z hz => ?_, by rw [List.append_assoc, List.singleton_append] at q5; exact q5⟩
            · by_cases ha : acc = []
              · rw [if_pos ha, List.drop_zero] at hu
                rw [if_pos ha, WnK, hu]
                show u = unt u [58] ++ 58 :: 32 :: (Wn e ++ WnKT ds) ++ r
                rw [List.append_assoc, List.cons_append, List.cons_append, List.append_assoc]
                exact eu
              · rw [if_neg ha] at hu ⊢
                have h2 : tk t [44, 32] = true := by
                  cases q : tk t [44, 32] with
                  | true => rfl
                  | false => exact (hc (.inr ⟨ha, q⟩)).elim
                have e0 := tk_eq h2
                rw [WnKT, e0]
                show 44 :: 32 :: t.drop 2 = 44 :: 32 :: (unt u [58] ++ 58 :: 32 :: (Wn e ++ WnKT ds) ++ r)
                rw [hu, List.append_assoc, List.cons_append, List.cons_append, List.append_assoc]
                exact congrArg (fun z => 44 :: 32 :: z) eu
            · rcases List.mem_cons.mp hz with rfl | hz
              · exact ⟨n1, e2, e3⟩
              · exact q4 z hz
theorem lr_sound : ∀ (n : Nat) (t : List Nat) (d : PyData) (r : List Nat), lrF n t = some (d, r) → t = Wn d ++ r ∧ okB d ∧ ordA d
  | 0, _, _, _, h => by unfold lrF at h; cases h
  | n + 1, t, d, r, h => by
    have ih := lr_sound n
    unfold lrF at h
    split at h
    · rename_i h1
      obtain ⟨ds, rfl, q2, q3, q4⟩ := lsL_sound ih _ _ _ _ _ h (by decide)
      rw [if_pos rfl] at q2
      rw [List.nil_append] at q3
      refine ⟨?_, ?_, ?_⟩
      · rw [List.nil_append, Wn, List.cons_append, ← q2]
        exact tk_one h1
      · rw [List.nil_append, okB]
        exact ⟨q3, okBL_mem.mpr fun e he => (q4 e he).1⟩
      · rw [List.nil_append, ordA]
        exact ordL_mem.mpr fun e he => (q4 e he).2
    · split at h
      · rename_i h1
        obtain ⟨ds, rfl, q2, q3, q4, q5⟩ := lsK_sound ih _ _ _ _ _ h (by decide) List.Pairwise.nil
        rw [if_pos rfl] at q2
        rw [List.nil_append] at q3 q5
        refine ⟨?_, ?_, ?_⟩
        · rw [List.nil_append, Wn, List.cons_append, ← q2]
          exact tk_one h1
        · rw [List.nil_append, okB]
          exact ⟨q3, okBK_mem.mpr fun e he => ⟨(q4 e he).1, (q4 e he).2.1⟩⟩
        · rw [List.nil_append, ordA]
          exact ⟨q5, ordK_mem.mpr fun e he => (q4 e he).2.2⟩
      · unfold lleaf at h
        split at h
        · rename_i h3
          split at h
          · cases h
          · rename_i hn
            have n1 : tk (dro (t.drop 1) [34]) [34] = true := by
              cases q : tk (dro (t.drop 1) [34]) [34] with
              | true => rfl
              | false => exact (hn (.inl q)).elim
            have n2 : lets (S (unt (t.drop 1) [34])) 0 20 = true := by
              cases q : lets (S (unt (t.drop 1) [34])) 0 20 with
              | true => rfl
              | false => exact (hn (.inr q)).elim
            cases h
            refine ⟨?_, by rw [okB]; exact n2, by rw [ordA]; trivial⟩
            rw [Wn]
            have e1 := tk_one h3
            have e2 := unt_dro (t.drop 1) [34]
            have e3 := tk_one n1
            show t = 34 :: (unt (t.drop 1) [34] ++ [34]) ++ (dro (t.drop 1) [34]).drop 1
            conv => lhs; rw [e1, ← e2, e3]
            simp
        · split at h
          · rename_i hs
            cases h
            obtain ⟨e1, e2, e3⟩ := num_sound hs
            refine ⟨?_, by rw [okB]; exact ⟨e2, e3⟩, by rw [ordA]; trivial⟩
            rw [Wn, e1]
            exact (unt_dro t _).symm
          · cases h
end WT

namespace WT
open PySem L2 LW VL
open SX (S S_tl S_inj S_len S_cat)
open TL (tl numL numL_lt numL_step numL_digits numL_ne numL_val numL_len)
open NumText (digitsVal AllDigits)
/-! ### names in their order -/
theorem ltCps_of {a b : Str} (h : leS a b) : Spec.ltCps b.cps.toList a.cps.toList = false := by
  rw [PyProof.Rows.ltCps_eq]
  exact decide_eq_false (List.not_lt.mpr h)
theorem sort_ex (l : List Str) : ∃ ys : List Str, ys.Perm l ∧ PyProof.Rows.sortedS ys = true := by
  refine ⟨l.mergeSort fun a b => decide (a.cps.toList ≤ b.cps.toList), List.mergeSort_perm _ _, ?_⟩
  have h := List.pairwise_mergeSort (le := fun (a b : Str) => decide (a.cps.toList ≤ b.cps.toList)) (fun a b c h1 h2 => by
    have h1 := of_decide_eq_true h1
    have h2 := of_decide_eq_true h2
    exact decide_eq_true (List.le_trans h1 h2)) (fun a b => by
    rcases List.le_total a.cps.toList b.cps.toList with h | h
    · rw [decide_eq_true h]; rfl
    · rw [decide_eq_true h, Bool.or_true]) l
  exact PyProof.Rows.sortedS_of_pairwise _ (h.imp fun {a b} h => ltCps_of (a := a) (b := b) (show a.cps.toList ≤ b.cps.toList from of_decide_eq_true (p := a.cps.toList ≤ b.cps.toList) h))
theorem srt_spec (l : List Str) : (srt l).Perm l ∧ PyProof.Rows.sortedS (srt l) = true := by
  obtain ⟨ys, p, s⟩ := sort_ex l
  rw [← srt_of p s]
  exact ⟨p, s⟩
theorem srt_id {l : List Str} (h : l.Pairwise ltS) : srt l = l := by
  refine (srt_of (List.Perm.refl l) ?_).symm
  exact PyProof.Rows.sortedS_of_pairwise _ (h.imp fun h => ltCps_of (List.le_of_lt h))
theorem srt_lt {l : List Str} (h : l.Nodup) : (srt l).Pairwise ltS := by
  obtain ⟨p, s⟩ := srt_spec l
  have h1 := sorted_pw s
  have h2 : (srt l).Nodup := p.nodup_iff.mpr h
  refine (h1.and h2).imp fun {a b} ⟨h3, h4⟩ => ?_
  show tl a < tl b
  refine Classical.byContradiction fun q => h4 (TL.ext_tl ?_)
  exact List.le_antisymm (show tl a ≤ tl b from h3) (List.not_lt.mp q)
/-! ### a value with its names in order -/
mutual
def nodA : PyData → Prop
  | .list ds => nodAL ds
  | .dict kvs => (names kvs).Nodup ∧ nodAK kvs
  | .none => True
  | .bool _ => True
  | .int _ => True
  | .str _ => True
  | .tuple _ => True
def nodAL : List PyData → Prop
  | [] => True
  | d :: r => nodA d ∧ nodAL r
def nodAK : List (PyData × PyData) → Prop
  | [] => True
  | (_, d) :: r => nodA d ∧ nodAK r
end
theorem nodAL_mem {ds : List PyData} : nodAL ds ↔ ∀ d ∈ ds, nodA d := by
  induction ds with
  | nil => unfold nodAL; exact ⟨fun _ => nofun, fun _ => trivial⟩
  | cons d r ih => unfold nodAL; rw [ih]; simp
theorem nodAK_mem {ds : List (PyData × PyData)} : nodAK ds ↔ ∀ p ∈ ds, nodA p.2 := by
  induction ds with
  | nil => unfold nodAK; exact ⟨fun _ => nofun, fun _ => trivial⟩
  | cons d r ih => obtain ⟨k, d⟩ := d; unfold nodAK; rw [ih]; simp
noncomputable def normN : Nat → PyData → PyData
  | 0, d => d
  | n + 1, .list ds => .list (ds.map (normN n))
  | n + 1, .dict kvs => .dict ((srt (names kvs)).map fun y => (.str y, normN n (getN kvs y)))
  | _ + 1, d => d
theorem getN_mem : ∀ {kvs : List (PyData × PyData)} {y : Str}, y ∈ names kvs → ∃ p ∈ kvs, nm p.1 = y ∧ getN kvs y = p.2
  | [], _, h => by cases h
  | (k, d) :: r, y, h => by
    by_cases e : nm k = y
    · exact ⟨(k, d), List.mem_cons_self, e, by unfold getN; rw [if_pos e]⟩
    · have h' : y ∈ names r := by
        rcases List.mem_cons.mp (show y ∈ nm k :: names r from h) with q | q
        · exact (e q.symm).elim
        · exact q
      obtain ⟨p, hp, h1, h2⟩ := getN_mem h'
      exact ⟨p, List.mem_cons_of_mem _ hp, h1, by unfold getN; rw [if_neg e]; exact h2⟩
theorem getN_cnt {kvs : List (PyData × PyData)} {y : Str} (h : y ∈ names kvs) : cnt (getN kvs y) ≤ cntK kvs := by
  obtain ⟨p, hp, _, e⟩ := getN_mem h
  rw [e]
  exact cntK_mem hp
theorem normN_eq : ∀ (n m : Nat) (d : PyData), cnt d ≤ n → cnt d ≤ m → normN n d = normN m d
  | 0, _, d, h, _ => by have := cnt_pos d; omega
  | _ + 1, 0, d, _, h => by have := cnt_pos d; omega
  | n + 1, m + 1, d, h1, h2 => by
    cases d with
    | list ds =>
      rw [cnt] at h1 h2
      unfold normN
      congr 1
      apply List.map_congr_left
      intro e he
      have := cntL_mem he
      exact normN_eq n m e (by omega) (by omega)
    | dict kvs =>
      rw [cnt] at h1 h2
      unfold normN
      congr 1
      apply List.map_congr_left
      intro y hy
      have := getN_cnt ((srt_spec (names kvs)).1.mem_iff.mp hy)
      rw [normN_eq n m (getN kvs y) (by omega) (by omega)]
    | _ => rfl
noncomputable def norm (d : PyData) : PyData := normN (cnt d) d
theorem norm_list (ds : List PyData) : norm (.list ds) = .list (ds.map norm) := by
  unfold norm
  rw [cnt, Nat.add_comm]
  show PyData.list (ds.map (normN (cntL ds))) = _
  congr 1
  apply List.map_congr_left
  intro e he
  exact normN_eq _ _ e (cntL_mem he) (Nat.le_refl _)
theorem norm_dict (kvs : List (PyData × PyData)) : norm (.dict kvs) = .dict ((srt (names kvs)).map fun y => (.str y, norm (getN kvs y))) := by
  unfold norm
  rw [cnt, Nat.add_comm]
  show PyData.dict ((srt (names kvs)).map fun y => (.str y, normN (cntK kvs) (getN kvs y))) = _
  congr 1
  apply List.map_congr_left
  intro y hy
  rw [normN_eq _ _ (getN kvs y) (getN_cnt ((srt_spec (names kvs)).1.mem_iff.mp hy)) (Nat.le_refl _)]
theorem norm_int (i : Int) : norm (.int i) = .int i := rfl
theorem norm_str (x : Str) : norm (.str x) = .str x := rfl
theorem names_map (l : List Str) (g : Str → PyData) : names (l.map fun y => (PyData.str y, g y)) = l := by
  unfold names
  rw [List.map_map]
  exact List.map_id' _
theorem kvs_perm {kvs : List (PyData × PyData)} (ha : AllStr kvs) (hn : (names kvs).Nodup) : ((srt (names kvs)).map fun y => (PyData.str y, getN kvs y)).Perm kvs :=
  ((srt_spec (names kvs)).1.map (fun y => (PyData.str y, getN kvs y))).trans (List.Perm.of_eq (getN_self ha hn))
theorem allStr_okA {kvs : List (PyData × PyData)} (h : ∀ p ∈ kvs, fld p.1 = true) : AllStr kvs := fun p hp => by
  have q := h p hp
  cases e : p.1 with
  | str x => rfl
  | _ => rw [e] at q; cases q
theorem cntK_map (l : List Str) (g : Str → PyData) : cntK (l.map fun y => (PyData.str y, g y)) = cntL (l.map g) := by
  rw [cntK_eq, List.map_map]
  rfl
theorem norm_ok : ∀ (n : Nat) (d : PyData), cnt d ≤ n → okA d = true → nodA d → okA (norm d) = true ∧ ordA (norm d) ∧ cnt (norm d) = cnt d
  | 0, d, h, _, _ => by have := cnt_pos d; omega
  | n + 1, d, h, ho, hn => by
    have ih := norm_ok n
    cases d with
    | int i => rw [norm_int]; exact ⟨ho, by unfold ordA; trivial, rfl⟩
    | str x => rw [norm_str]; exact ⟨ho, by unfold ordA; trivial, rfl⟩
    | list ds =>
      obtain ⟨h60, hoL⟩ := okA_list ho
      unfold nodA at hn
      rw [cnt] at h
      have hh : ∀ e ∈ ds, okA (norm e) = true ∧ ordA (norm e) ∧ cnt (norm e) = cnt e := fun e he => ih e (by have := cntL_mem he; omega) (hoL e he) (nodAL_mem.mp hn e he)
      rw [norm_list]
      refine ⟨?_, ?_, ?_⟩
      · unfold okA
        rw [okL_all, Bool.and_eq_true]
        refine ⟨decide_eq_true (by rw [List.length_map]; exact h60), List.all_eq_true.mpr fun e he => ?_⟩
        obtain ⟨z, hz, rfl⟩ := List.mem_map.mp he
        exact (hh z hz).1
      · unfold ordA
        refine ordL_mem.mpr fun e he => ?_
        obtain ⟨z, hz, rfl⟩ := List.mem_map.mp he
        exact (hh z hz).2.1
      · rw [cnt, cnt, cntL_sum, cntL_sum, List.map_map]
        congr 2
        exact List.map_congr_left fun e he => (hh e he).2.2
    | dict kvs =>
      obtain ⟨h8, hfl, hok⟩ := okA_dict ho
      unfold nodA at hn
      rw [cnt] at h
      obtain ⟨p, s⟩ := srt_spec (names kvs)
      have hl : (srt (names kvs)).length = kvs.length := by rw [p.length_eq]; unfold names; rw [List.length_map]
      have hg : ∀ y ∈ srt (names kvs), fld (.str y) = true ∧ okA (norm (getN kvs y)) = true ∧ ordA (norm (getN kvs y)) ∧ cnt (norm (getN kvs y)) = cnt (getN kvs y) := by
        intro y hy
        obtain ⟨q, hq, e1, e2⟩ := getN_mem (p.mem_iff.mp hy)
        have := cntK_mem hq
        rw [e2]
        refine ⟨?_, ih q.2 (by omega) (okKm hok q hq) (nodAK_mem.mp hn.2 q hq)⟩
        have hs := allStr_okA hfl q hq
        have hf := hfl q hq
        rw [hs, e1] at hf
        exact hf
      rw [norm_dict]
      refine ⟨?_, ?_, ?_⟩
      · unfold okA
        rw [Bool.and_eq_true]
        constructor
        · show (decide (List.length _ ≤ 8) && List.all _ (fun p : PyData × PyData => fld p.1)) = true
          rw [Bool.and_eq_true]
          refine ⟨decide_eq_true (by rw [List.length_map, hl]; exact h8), List.all_eq_true.mpr fun e he => ?_⟩
          obtain ⟨y, hy, rfl⟩ := List.mem_map.mp he
          exact (hg y hy).1
        · rw [okK_eq, okL_all]
          refine List.all_eq_true.mpr fun e he => ?_
          obtain ⟨q, hq, rfl⟩ := List.mem_map.mp he
          obtain ⟨y, hy, rfl⟩ := List.mem_map.mp hq
          exact (hg y hy).2.1
      · unfold ordA
        rw [names_map]
        refine ⟨srt_lt hn.1, ordK_mem.mpr fun e he => ?_⟩
        obtain ⟨y, hy, rfl⟩ := List.mem_map.mp he
        exact (hg y hy).2.2.1
      · rw [cnt, cnt, cntK_map, cntK_eq]
        have e1 : (srt (names kvs)).map (fun y => norm (getN kvs y)) = ((srt (names kvs)).map (getN kvs)).map norm := by rw [List.map_map]; rfl
        have e2 : cntL (((srt (names kvs)).map (getN kvs)).map norm) = cntL ((srt (names kvs)).map (getN kvs)) := by
          rw [cntL_sum, cntL_sum, List.map_map]
          congr 1
          refine List.map_congr_left fun e he => ?_
          obtain ⟨y, hy, rfl⟩ := List.mem_map.mp he
          exact (hg y hy).2.2.2
        have e3 := (kvs_perm (allStr_okA hfl) hn.1).map (·.2)
        rw [List.map_map] at e3
        have e4 : cntL ((srt (names kvs)).map (getN kvs)) = cntL (kvs.map (·.2)) := cntL_perm e3
        rw [e1, e2, e4]
    | none => cases ho
    | bool b => cases ho
    | tuple b => cases ho
theorem norm_id : ∀ (n : Nat) (d : PyData), cnt d ≤ n → okA d = true → ordA d → norm d = d
  | 0, d, h, _, _ => by have := cnt_pos d; omega
  | n + 1, d, h, ho, hn => by
    have ih := norm_id n
    cases d with
    | int i => rfl
    | str x => rfl
    | list ds =>
      obtain ⟨h60, hoL⟩ := okA_list ho
      unfold ordA at hn
      rw [cnt] at h
      rw [norm_list]
      congr 1
      conv => rhs; rw [← List.map_id ds]
      refine List.map_congr_left fun e he => ?_
      have := cntL_mem he
      exact ih e (by omega) (hoL e he) (ordL_mem.mp hn e he)
    | dict kvs =>
      obtain ⟨h8, hfl, hok⟩ := okA_dict ho
      unfold ordA at hn
      rw [cnt] at h
      rw [norm_dict, srt_id hn.1]
      congr 1
      refine Eq.trans ?_ (getN_self (allStr_okA hfl) (lt_nodup hn.1))
      refine List.map_congr_left fun y hy => ?_
      obtain ⟨q, hq, e1, e2⟩ := getN_mem hy
      have := cntK_mem hq
      rw [e2, ih q.2 (by omega) (okKm hok q hq) (ordK_mem.mp hn.2 q hq)]
    | none => cases ho
    | bool b => cases ho
    | tuple b => cases ho
theorem ord_nod : ∀ (n : Nat) (d : PyData), cnt d ≤ n → ordA d → nodA d
  | 0, d, h, _ => by have := cnt_pos d; omega
  | n + 1, d, h, hn => by
    cases d with
    | list ds =>
      unfold ordA at hn
      unfold nodA
      rw [cnt] at h
      exact nodAL_mem.mpr fun e he => ord_nod n e (by have := cntL_mem he; omega) (ordL_mem.mp hn e he)
    | dict kvs =>
      unfold ordA at hn
      unfold nodA
      rw [cnt] at h
      exact ⟨lt_nodup hn.1, nodAK_mem.mpr fun e he => ord_nod n e.2 (by have := cntK_mem he; omega) (ordK_mem.mp hn.2 e he)⟩
    | _ => unfold nodA; trivial
/-! ### what the law's reader says -/
def LR (x : List Nat) : Option PyData := match lrF 61 x with
  | some (d, []) => if cnt d ≤ 60 then some d else none
  | _ => none
theorem okB_okA : ∀ (n : Nat) (d : PyData), cnt d ≤ n → okB d → cnt d ≤ 60 → okA d = true
  | 0, d, h, _, _ => by have := cnt_pos d; omega
  | n + 1, d, h, ho, hc => by
    cases d with
    | int i =>
      rw [okB] at ho
      show (decide (-big < i) && decide (i < big)) = true
      rw [decide_eq_true ho.1, decide_eq_true ho.2]
      rfl
    | str x => rw [okB] at ho; exact ho
    | list ds =>
      rw [okB] at ho
      rw [cnt] at h hc
      unfold okA
      rw [okL_all, Bool.and_eq_true]
      refine ⟨decide_eq_true ?_, List.all_eq_true.mpr fun e he => okB_okA n e (by have := cntL_mem he; omega) (okBL_mem.mp ho.2 e he) (by have := cntL_mem he; omega)⟩
      have : ds.length ≤ cntL ds := by
        clear ho h hc
        induction ds with
        | nil => exact Nat.le_refl _
        | cons e r ih =>
          rw [cntL, List.length_cons]
          have := cnt_pos e
          omega
      omega
    | dict kvs =>
      rw [okB] at ho
      rw [cnt] at h hc
      have hm := okBK_mem.mp ho.2
      unfold okA
      rw [okK_eq, okL_all, Bool.and_eq_true]
      constructor
      · show (decide (kvs.length ≤ 8) && kvs.all fun p => fld p.1) = true
        rw [decide_eq_true ho.1, Bool.true_and]
        exact List.all_eq_true.mpr fun p hp => (hm p hp).1
      · refine List.all_eq_true.mpr fun e he => ?_
        obtain ⟨p, hp, rfl⟩ := List.mem_map.mp he
        exact okB_okA n p.2 (by have := cntK_mem hp; omega) (hm p hp).2 (by have := cntK_mem hp; omega)
    | none => rw [okB] at ho; exact ho.elim
    | bool b => rw [okB] at ho; exact ho.elim
    | tuple b => rw [okB] at ho; exact ho.elim
theorem isV_of {d : PyData} (h : okA d = true) (hc : cnt d ≤ 60) : isV d = true := by
  unfold isV
  rw [h, decide_eq_true hc]
  rfl
theorem isV_ok {d : PyData} (h : isV d = true) : okA d = true ∧ cnt d ≤ 60 := by
  unfold isV at h
  rw [Bool.and_eq_true] at h
  exact ⟨h.1, of_decide_eq_true h.2⟩
theorem LR_some {x : List Nat} {d : PyData} (h : LR x = some d) : isV d = true ∧ ordA d ∧ x = Wn d ∧ norm d = d ∧ nodA d := by
  unfold LR at h
  split at h
  · rename_i e hl
    split at h
    · rename_i hc
      cases h
      obtain ⟨h1, h2, h3⟩ := lr_sound _ _ _ _ hl
      rw [List.append_nil] at h1
      have ho := okB_okA _ d (Nat.le_refl _) h2 hc
      exact ⟨isV_of ho hc, h3, h1, norm_id _ d (Nat.le_refl _) ho h3, ord_nod _ d (Nat.le_refl _) h3⟩
    · cases h
  · cases h
theorem LR_ord {d : PyData} (h : isV d = true) (ho : ordA d) : LR (Wn d) = some d := by
  obtain ⟨h1, h2⟩ := isV_ok h
  have q := lr_ok 61 d [] h1 ho (by omega) (fun c hc => by cases hc)
  rw [List.append_nil] at q
  unfold LR
  rw [q]
  show (if cnt d ≤ 60 then some d else none) = _
  rw [if_pos h2]
theorem isV_norm {d : PyData} (h : isV d = true) (hn : nodA d) : isV (norm d) = true ∧ ordA (norm d) := by
  obtain ⟨h1, h2⟩ := isV_ok h
  obtain ⟨g1, g2, g3⟩ := norm_ok _ d (Nat.le_refl _) h1 hn
  exact ⟨isV_of g1 (by omega), g2⟩
theorem LR_norm {d : PyData} (h : isV d = true) (hn : nodA d) : LR (Wn (norm d)) = some (norm d) := by
  obtain ⟨h1, h2⟩ := isV_norm h hn
  exact LR_ord h1 h2
theorem nv_ord {d : PyData} (h : isV d = true) (ho : ordA d) : nvF 61 (Wn d) 0 = some (d, [], cnt d) := by
  obtain ⟨h1, h2⟩ := isV_ok h
  have q := nv_ok 61 d 0 [] h1 ho (by omega) (by omega) (fun c hc => by cases hc)
  rw [List.append_nil, Nat.zero_add] at q
  exact q
/-- the program's reader, and the law's -/
theorem LR_nv {x : List Nat} {d : PyData} {t : List Nat} {m : Nat} (h : nvF 61 x 0 = some (d, t, m)) (hn : isV d = true → nodA d) : LR x = if isV d = true ∧ x = Wn (norm d) then some d else none := by
  split
  · rename_i hc
    obtain ⟨h1, h2⟩ := hc
    have h3 := isV_norm h1 (hn h1)
    have q := nv_ord h3.1 h3.2
    rw [← h2, h] at q
    have e : d = norm d := congrArg (fun z : PyData × List Nat × Nat => z.1) (Option.some.inj q)
    rw [h2, LR_norm h1 (hn h1), ← e]
  · rename_i hc
    cases e : LR x with
    | none => rfl
    | some d' =>
      obtain ⟨h1, h2, h3, h4, _⟩ := LR_some e
      have q := nv_ord h1 h2
      rw [← h3, h] at q
      have e' : d = d' := congrArg (fun z : PyData × List Nat × Nat => z.1) (Option.some.inj q)
      subst e'
      exact (hc ⟨h1, by rw [h4]; exact h3⟩).elim
theorem LR_nv0 {x : List Nat} (h : nvF 61 x 0 = none) : LR x = none := by
  cases e : LR x with
  | none => rfl
  | some d' =>
    obtain ⟨h1, h2, h3, _⟩ := LR_some e
    have q := nv_ord h1 h2
    rw [← h3, h] at q
    cases q
end WT

namespace LW
open PySem PySem.Spec L2
section
variable {X : Cx} {k j : Nat} {x : Str} {sp : Sp} {p pos : Pos} {e : Expr} {es : List Expr} {t : TA} {E : XK}
theorem pe_kP (c : Cal X.prog X.w X.K X.mg X.base (L2.CX X.prog X.w) k x sp) (hr : Room j X.A) (hk : k ≤ j) (hx : Passes (L2.CX X.prog X.w) X E) (hg : Gl X x) (ha : PA X (e :: es) t)
    (hdb : (x == ("__debug__" : Str)) = false := by decide) (he : starEach (e :: es) X.env = (false, eval e X.env) :: starEach es X.env := by rfl) (hpl : (backTo pos (starEach es X.env)).any (·.1) = false := by rfl) :
    PE X (.Call (.Name x p) (e :: es) [] pos) (tCall sp [] E t) := by
  obtain ⟨f, fd, ps, F, hm, kp, b⟩ := c.ex
  exact pe_call F (hr.mono hk) hg hm kp b .nil hx ha hdb he hpl
theorem smK {X : Cx} (K : PySem.W.Frag) (hc : X.calm = true) (h : X.K = K := by rfl) : CallR X (.builtin "sum") (rSum K) := by
  subst h
  exact cr_sum hc
end
/-- a def of which nothing is asked -/
theorem cal_no {P : Program} {w : World} {K : PySem.W.Frag} {mg : Str → Option Value} {base : Heap} {x : Str} {st : Stmt} {N ps : List Str} {k : Nat} {sp : Sp} (F : Df K mg x st) (S : FnScope N ps (defScope st)) (hb : BindsEq x st ps) (no : ∀ vs H Q E, sp vs H Q E → False) : Cal P w K mg base CX0 (k + 1) x sp :=
  cal0 F S hb (fun vs H Q E h => (no vs H Q E h).elim) (fun f cdv A outer s H vs Q E hr h => (no vs H Q E h).elim)
end LW
namespace VL
open PySem PySem.Spec L2 LW
open Evl (Ex)
section
variable {P : Program} {w : World} {K : PySem.W.Frag} {mg : Str → Option Value} {base : Heap} {CI : Addr}
/-! ### InvalidValue -/
theorem sc_InvalidValue___init__ : FnScope ["self", "value"] ["self", "value"] (defScope s_InvalidValue___init__) := ⟨rfl, rfl, rfl, by decide +kernel, rfl, by decide +kernel, by decide +kernel⟩
theorem bi_InvalidValue___init__ : BindsM "__init__" "InvalidValue.__init__" s_InvalidValue___init__ ["self", "value"] := fun _ _ _ _ _ _ us hl => match us, hl with | [_, _], _ => rfl
theorem ok_iinit {f0 : Addr} {fd0 : FuncData} (F : FunD K "__init__" "InvalidValue.__init__" (defArgs s_InvalidValue___init__) (defBody s_InvalidValue___init__) (defScope s_InvalidValue___init__) [] [] f0 fd0) (ox : OexC K CI) (no : PySem.W.findIn K (.ref CI) "value" = some none) :
    FnOk P w K mg base CX0 1 f0 fd0 ["self", "value"] (spXI K CI "value") := by
  refine F.ok sc_InvalidValue___init__ (fun vs H Q E h => ?_) (fun cdv A outer s H vs Q E hr h => ?_)
  · obtain ⟨a, v, rfl, _⟩ := h
    rfl
  · obtain ⟨a, v, rfl, ha, k⟩ := h
    refine ⟨_, PSs.nox (pss_one (ps_ost (pv 0) (pv 1))), ?_⟩
    exact ⟨_, rfl, _, rfl, a, CI, rfl, ox, no, .inl ⟨ha, fun dx h1 h2 => k dx h1 h2⟩⟩
/-! ### check_value -/
def spCheckV (CI : Addr) : Sp := fun vs H Q E => ∃ (v : V) (d : PyData), vs = [v] ∧ Dt H d v ∧ szA d ∧ (isV d = true → ∀ H', Ex H H' → Q .non H') ∧
  (isV d = false → ∀ dd H', Ex H H' → H' dd = some (.xd [("value", v)]) → E (.ref CI) (some dd) H')
theorem sc_check_value : FnScope ["thing"] ["thing"] (defScope s_check_value) := ⟨rfl, rfl, rfl, by decide +kernel, rfl, by decide +kernel, by decide +kernel⟩
theorem bi_check_value : BindsEq "check_value" s_check_value ["thing"] := fun _ _ _ _ _ _ us hl => match us, hl with | [_], _ => rfl
theorem ok_checkv (F : Df K mg "check_value" s_check_value) (T : Txt K mg) (C_is_value : Cal P w K mg base CX0 4 "is_value" spIsVal) (X_InvalidValue : XMk P w K mg base 1 "InvalidValue" CI "value") : Cal P w K mg base (L2.CX P w) 5 "check_value" (spCheckV CI) := by
  refine calX F sc_check_value bi_check_value (fun vs H Q E h => ?_) (fun f cdv A outer s H vs Q E hr h => ?_)
  · obtain ⟨v, d, rfl, _⟩ := h
    rfl
  · obtain ⟨v, d, rfl, hd, hz, k1, k2⟩ := h
    refine ⟨_, (pss_one (ps_if (pt_not (pt_val (pe_k C_is_value hr (by decide) rfl (pa_cons (pv 0) pa_nil)))) (pss_one (ps_raise rfl (takes_of rfl rfl rfl rfl) (pmk_x X_InvalidValue hr (by decide) rfl (pa_cons (pv 0) pa_nil)))) pss_nil)), ?_⟩
    refine ⟨_, rfl, v, d, rfl, hd, hz, fun H1 e1 => ⟨_, rfl, if_b (fun h => ?_) (fun h => ?_)⟩⟩
    · exact ⟨_, rfl, xmk_go fun dd H2 _ e2 hdd => k2 (by simpa using h) dd H2 (e1.trans e2) hdd⟩
    · exact k1 (by simpa using h) H1 e1
end
end VL

namespace VL
open PySem PySem.Spec L2 LW
open Evl (Ex)
/-! ### words -/
def low1 (c : Nat) : Prop := 97 ≤ c ∧ c ≤ 122
theorem join_low : ∀ cs : List Nat, (Str.join "" (cs.map fun c => (⟨#[c]⟩ : Str))).cps.toList = cs
  | [] => rfl
  | [c] => rfl
  | c :: d :: r => by
    have ih := join_low (d :: r)
    show ((⟨#[c]⟩ : Str) ++ "" ++ Str.join "" ((d :: r).map fun c => (⟨#[c]⟩ : Str))).cps.toList = _
    rw [Str.cps_append, Array.toList_append, ih]
    rfl
theorem lets_of {x : Str} {a b : Nat} (h1 : a ≤ x.cps.toList.length) (h2 : x.cps.toList.length ≤ b) (h : ∀ c ∈ x.cps.toList, low1 c) : lets x a b = true := by
  rw [Array.length_toList] at h1 h2
  have e1 : a ≤ x.length := h1
  have e2 : x.length ≤ b := h2
  unfold lets low
  rw [decide_eq_true e1, decide_eq_true e2]
  show (true && _) = true
  rw [Bool.true_and]
  refine List.all_eq_true.mpr fun c hc => ?_
  rw [decide_eq_true (h c hc).1, decide_eq_true (h c hc).2]
  rfl
theorem sum_ones (cs : List Nat) : ((cs.map fun c => (⟨#[c]⟩ : Str)).map (·.length)).sum = cs.length := by
  induction cs with
  | nil => rfl
  | cons c r ih =>
    rw [List.map_cons, List.map_cons, List.sum_cons, ih, List.length_cons]
    show 1 + _ = _
    omega
section
variable {P : Program} {w : World} {K : PySem.W.Frag} {mg : Str → Option Value} {base : Heap}
def spWord : Sp := fun vs H Q _ => ∃ (p : Addr) (n : Nat), vs = [.ref p, .int n] ∧ Pool H p ∧ n ≤ 100 ∧ ∀ x H', Ex H H' → lets x n n = true → Q (.str x) H'
theorem sc__law_word : FnScope ["_law_pool", "_law_longest", "_law_letters_here", "_law_k"] ["_law_pool", "_law_longest"] (defScope s__law_word) := ⟨rfl, rfl, rfl, by decide +kernel, rfl, by decide +kernel, by decide +kernel⟩
theorem bi__law_word : BindsEq "_law_word" s__law_word ["_law_pool", "_law_longest"] := fun _ _ _ _ _ _ us hl => match us, hl with | [_, _], _ => rfl
theorem ok_word (F : Df K mg "_law_word" s__law_word) (T : Txt K mg) (C__law_draw : Cal P w K mg base CX0 1 "_law_draw" spDraw) : Cal P w K mg base CX0 2 "_law_word" spWord := by
  refine cal0 F sc__law_word bi__law_word (fun vs H Q E h => ?_) (fun f cdv A outer s H vs Q E hr h => ?_)
  · obtain ⟨p, n, rfl, _⟩ := h
    rfl
  · obtain ⟨p, n, rfl, hp, hn, k⟩ := h
    refine ⟨_, (pss_cons (ps_set (i := 2) sc__law_word.nd rfl (Or.inr rfl) pe_str)
 (pss_one (ps_ret (pe_join pe_str (pe_lc (own := [("_law_k", 3)]) (by rfl) sc__law_word.nd (pi_range1 rfl T.b_range (pa_cons (pv 1) pa_nil)) (blkOk_by (own := [("_law_k", 3)]) (N := ["_law_pool", "_law_longest", "_law_letters_here", "_law_k"]) (sc := defScope s__law_word) (by decide +kernel)) (fun _ _ _ _ _ => (pg_name (i := 3) sc__law_word.nd rfl (Or.inl rfl))) (fun _ _ _ _ _ => pts_nil) (fun _ _ _ _ _ => (pe_ix ix_str (pv 2) (pe_k C__law_draw hr (by decide) rfl (pa_cons (pv 0) (pa_cons pe_int pa_nil))) (fun _ _ => rfl)))))))), ?_⟩
    refine ⟨⟨_, rfl⟩, _, rfl, (n : Int), rfl, by omega, by omega, fun D nD => lc_gr walk_range (fun i acc _ => ∃ cs : List Nat, acc = cs.map (fun c => V.str ⟨#[c]⟩) ∧ cs.length = i ∧ ∀ c ∈ cs, low1 c) nD (by omega) ⟨[], rfl, rfl, nofun⟩ (fun _ _ => True.intro) ?_ ?_⟩
    · rintro i x acc H1 H2 hi e e' hD hl ⟨cs, rfl, hcs, hlo⟩ ⟨rfl, rfl⟩
      refine ⟨rfl, _, rfl, _, rfl, p, 26, rfl, hp.ex e, by decide, by decide, fun v v0 v1 => ?_⟩
      obtain ⟨c, hc1, hc2, _⟩ := at_some (xs := ("abcdefghijklmnopqrstuvwxyz" : Str).cps.toList) (v := v) v0 (by
        have e : ("abcdefghijklmnopqrstuvwxyz" : Str).cps.toList.length = 26 := by decide +kernel
        rw [e]
        exact v1)
      have hlow : low1 c := by
        have q := letters_mem c
        rw [decide_eq_true hc2] at q
        have q := (Bool.and_eq_true _ _).mp q.symm
        exact ⟨of_decide_eq_true q.1, of_decide_eq_true q.2⟩
      refine ⟨_, _, c, rfl, rfl, szl (by decide +kernel), hc1, lc_put e' hD hl (by omega) (fun _ _ h => h) ⟨cs ++ [c], ?_, ?_, ?_⟩⟩
      · rw [List.map_append]
        rfl
      · rw [List.length_append, hcs]
        rfl
      · intro z hz
        rcases List.mem_append.mp hz with hz | hz
        · exact hlo z hz
        · cases List.mem_singleton.mp hz
          exact hlow
    · rintro acc H1 e e' hD hl ⟨cs, rfl, hcs, hlo⟩
      have hj := join_low cs
      have hlen : cs.length = n := by omega
      refine ⟨_, D, cs.map fun c => (⟨#[c]⟩ : Str), rfl, rfl, .inl ?_, ?_, ?_⟩
      · rw [List.map_map]
        exact SqLo hD
      · rw [sum_ones, List.length_map]
        show cs.length + cs.length * 0 ≤ _
        omega
      · rw [show Txt.join "" (cs.map fun c => (⟨#[c]⟩ : Str)) = Str.join "" (cs.map fun c => (⟨#[c]⟩ : Str)) from TL.join_eq _ _]
        exact k _ _ e (lets_of (by rw [hj]; omega) (by rw [hj]; omega) (by rw [hj]; exact hlo))
/-! ### leaves -/
def Lf (d : PyData) (v : V) : Prop := (∃ i, d = .int i ∧ v = .int i) ∨ ∃ x, d = .str x ∧ v = .str x
theorem Lf.dt {H : Hp} {d : PyData} {v : V} (h : Lf d v) : Dt H d v := by
  rcases h with ⟨i, rfl, rfl⟩ | ⟨i, rfl, rfl⟩ <;> (unfold Dt; rfl)
theorem Lf.cnt {d : PyData} {v : V} (h : Lf d v) : cnt d = 1 := by
  rcases h with ⟨i, rfl, rfl⟩ | ⟨i, rfl, rfl⟩ <;> rfl
def spLeafV : Sp := fun vs H Q _ => ∃ (p : Addr), vs = [.ref p] ∧ Pool H p ∧ ∀ v d H', Ex H H' → Lf d v → okA d = true → Q v H'
theorem sc__law_leaf : FnScope ["_law_pool", "_law_way"] ["_law_pool"] (defScope s__law_leaf) := ⟨rfl, rfl, rfl, by decide +kernel, rfl, by decide +kernel, by decide +kernel⟩
theorem bi__law_leaf : BindsEq "_law_leaf" s__law_leaf ["_law_pool"] := fun _ _ _ _ _ _ us hl => match us, hl with | [_], _ => rfl
theorem int_ok {i : Int} (h1 : -big < i) (h2 : i < big) : okA (.int i) = true := by
  unfold okA
  show (decide (-big < i) && decide (i < big)) = true
  rw [decide_eq_true h1, decide_eq_true h2]
  rfl
theorem ok_leafv (F : Df K mg "_law_leaf" s__law_leaf) (T : Txt K mg) (C__law_draw : Cal P w K mg base CX0 1 "_law_draw" spDraw) (C__law_word : Cal P w K mg base CX0 2 "_law_word" spWord) : Cal P w K mg base CX0 3 "_law_leaf" spLeafV := by
  refine cal0 F sc__law_leaf bi__law_leaf (fun vs H Q E h => ?_) (fun f cdv A outer s H vs Q E hr h => ?_)
  · obtain ⟨p, rfl, _⟩ := h
    rfl
  · obtain ⟨p, rfl, hp, k⟩ := h
    refine ⟨_, (pss_cons (ps_set (i := 1) sc__law_leaf.nd rfl (Or.inl rfl) (pe_k C__law_draw hr (by decide) rfl (pa_cons (pv 0) (pa_cons pe_int pa_nil))))
 (pss_cons (ps_if (pt_cmpR op_lt (pv 1) pe_int (nomark _)) (pss_one (ps_ret (pe_op op_sub (pe_k C__law_draw hr (by decide) rfl (pa_cons (pv 0) (pa_cons pe_int pa_nil))) pe_int))) pss_nil)
 (pss_cons (ps_if (pt_cmpR op_eq (pv 1) pe_int (nomark _)) (pss_one (ps_ret (pe_op op_add (pe_op op_mul (pe_op op_sub (pe_k C__law_draw hr (by decide) rfl (pa_cons (pv 0) (pa_cons (pe_op op_mul pe_int (pe_op op_pow pe_int pe_int)) pa_nil))) (pe_op op_pow pe_int pe_int)) (pe_op op_pow pe_int pe_int)) (pe_k C__law_draw hr (by decide) rfl (pa_cons (pv 0) (pa_cons (pe_op op_pow pe_int pe_int) pa_nil)))))) pss_nil)
 (pss_cons (ps_if (pt_cmpR op_eq (pv 1) pe_int (nomark _)) (pss_one (ps_ret (pe_ix (ixl K) (pe_lst (pa_cons (pe_op op_sub (pe_op op_pow pe_int pe_int) pe_int) (pa_cons (pe_op op_sub pe_int (pe_op op_pow pe_int pe_int)) pa_nil))) (pe_k C__law_draw hr (by decide) rfl (pa_cons (pv 0) (pa_cons pe_int pa_nil))) (fun _ _ => rfl)))) pss_nil)
 (pss_one (ps_ret (pe_k C__law_word hr (by decide) rfl (pa_cons (pv 0) (pa_cons (pe_ix (ixl K) (pe_lst (pa_cons pe_int (pa_cons pe_int (pa_cons pe_int (pa_cons pe_int (pa_cons pe_int pa_nil)))))) (pe_k C__law_draw hr (by decide) rfl (pa_cons (pv 0) (pa_cons pe_int pa_nil))) (fun _ _ => rfl)) pa_nil))))))))), ?_⟩
    refine ⟨_, rfl, p, 8, rfl, hp, by decide, by decide, fun wy w0 w1 => ?_⟩
    refine ⟨_, rfl, _, _, rfl, rfl, _, rfl, if_b (fun h => ?_) (fun h => ?_)⟩
    · refine ⟨_, rfl, p, 7, rfl, hp, by decide, by decide, fun x x0 x1 => ⟨_, _, rfl, rfl, ?_⟩⟩
      exact k _ _ H (fun _ _ h => h) (.inl ⟨_, rfl, rfl⟩) (int_ok (by unfold big; omega) (by unfold big; omega))
    · refine ⟨_, rfl, rfl, _, rfl, if_b (fun h2 => ?_) (fun h2 => ?_)⟩
      · have c9 : (10 : Int) ^ (9 : Int).toNat = 1000000000 := by decide
        have c20 : (10 : Int) ^ (20 : Int).toNat = 100000000000000000000 := by decide
        have cp : CPow 10 9 := ⟨by decide, by decide, by decide⟩
        have cp2 : CPow 10 20 := ⟨by decide, by decide, by decide⟩
        refine ⟨_, rfl, _, _, rfl, rfl, cp, _, _, rfl, rfl, .inl ⟨by decide, by decide⟩, p, _, rfl, hp, by decide, by decide, fun x x0 x1 => ?_⟩
        refine ⟨_, _, rfl, rfl, cp, _, _, rfl, rfl, _, _, rfl, rfl, cp2, _, _, rfl, rfl, ?_, _, rfl, _, _, rfl, rfl, cp, p, _, rfl, hp, by decide, by decide, fun y y0 y1 => ⟨_, _, rfl, rfl, ?_⟩⟩
        · rw [c9]
          rw [c9] at x1
          exact .inl ⟨by omega, by omega⟩
        · rw [c9] at x1 y1
          rw [c9, c20]
          exact k _ _ H (fun _ _ h => h) (.inl ⟨_, rfl, rfl⟩) (int_ok (by unfold big; omega) (by unfold big; omega))
      · refine ⟨_, rfl, rfl, _, rfl, if_b (fun h3 => ?_) (fun h3 => ?_)⟩
        · have c30 : (10 : Int) ^ (30 : Int).toNat = big := by decide
          have cp3 : CPow 10 30 := ⟨by decide, by decide, by decide⟩
          refine ⟨_, _, rfl, rfl, cp3, _, _, rfl, rfl, _, _, rfl, rfl, cp3, _, _, rfl, rfl, szl (by show 2 ≤ 100000; decide), fun p1 np1 => ?_⟩
          obtain ⟨H1, hH1, x0_1, h1⟩ := newH _ np1
          rw [hH1]
          clear hH1
          have f1 := np1
          refine ⟨_, rfl, p, 2, rfl, hp.ex x0_1, by decide, by decide, fun x x0 x1 => ?_⟩
          obtain ⟨z, hz1, hz2, _⟩ := at_some (xs := [V.int ((10 : Int) ^ (30 : Int).toNat - 1), V.int (1 - (10 : Int) ^ (30 : Int).toNat)]) (v := x) x0 x1
          refine ⟨p1, _, _, _, rfl, rfl, SqLo h1, hz1, ?_⟩
          rw [c30] at hz2
          rcases List.mem_cons.mp hz2 with rfl | hz2
          · exact k _ _ _ x0_1 (.inl ⟨_, rfl, rfl⟩) (int_ok (by unfold big; omega) (by unfold big; omega))
          · cases List.mem_singleton.mp hz2
            exact k _ _ _ x0_1 (.inl ⟨_, rfl, rfl⟩) (int_ok (by unfold big; omega) (by unfold big; omega))
        · refine ⟨_, rfl, szl (by show 5 ≤ 100000; decide), fun p1 np1 => ?_⟩
          obtain ⟨H1, hH1, x0_1, h1⟩ := newH _ np1
          rw [hH1]
          clear hH1
          have f1 := np1
          refine ⟨_, rfl, p, 5, rfl, hp.ex x0_1, by decide, by decide, fun x x0 x1 => ?_⟩
          obtain ⟨z, hz1, hz2, _⟩ := at_some (xs := [V.int 0, V.int 1, V.int 2, V.int 3, V.int 20]) (v := x) x0 x1
          have hz3 : ∃ n : Nat, z = .int n ∧ n ≤ 20 := by
            simp only [List.mem_cons, List.not_mem_nil, or_false] at hz2
            rcases hz2 with rfl | rfl | rfl | rfl | rfl
            · exact ⟨0, rfl, by decide⟩
            · exact ⟨1, rfl, by decide⟩
            · exact ⟨2, rfl, by decide⟩
            · exact ⟨3, rfl, by decide⟩
            · exact ⟨20, rfl, by decide⟩
          obtain ⟨n, rfl, hn⟩ := hz3
          refine ⟨p1, _, _, _, rfl, rfl, SqLo h1, hz1, p, n, rfl, hp.ex x0_1, by omega, fun x H' e hx => ?_⟩
          refine k _ _ _ (x0_1.trans e) (.inr ⟨x, rfl, rfl⟩) ?_
          unfold okA
          unfold lets at hx
          rw [Bool.and_eq_true, Bool.and_eq_true] at hx
          have hx1 := of_decide_eq_true hx.1.2
          show (decide (0 ≤ x.length) && decide (x.length ≤ 20) && low x) = true
          rw [decide_eq_true (Nat.zero_le _), decide_eq_true (by omega), hx.2]
          rfl
end
end VL

namespace VL
open PySem PySem.Spec L2 LW
open Evl (Ex)
/-! ### putting into a record -/
def putP (kvs : List (PyData × PyData)) (y : Str) (x : PyData) : List (PyData × PyData) := if y ∈ names kvs then setM kvs y x else kvs ++ [(.str y, x)]
theorem cntK_set : ∀ (kvs : List (PyData × PyData)) (y : Str) (x : PyData), (names kvs).Nodup → y ∈ names kvs → cntK (setM kvs y x) + cnt (getN kvs y) = cntK kvs + cnt x
  | [], y, x, _, h => by cases h
  | (k, d) :: r, y, x, nd, h => by
    have nd' : (nm k :: names r).Nodup := nd
    obtain ⟨n1, n2⟩ := List.nodup_cons.mp nd'
    have h' : y ∈ nm k :: names r := h
    show cntK ((if nm k = y then (k, x) else (k, d)) :: setM r y x) + cnt (if nm k = y then d else getN r y) = _
    by_cases e : nm k = y
    · rw [if_pos e, if_pos e, setM_no (e ▸ n1)]
      rw [cntK, cntK]
      omega
    · rw [if_neg e, if_neg e]
      have hy : y ∈ names r := by
        rcases List.mem_cons.mp h' with q | q
        · exact (e q.symm).elim
        · exact q
      have := cntK_set r y x n2 hy
      rw [cntK, cntK]
      omega
theorem cntK_app (xs : List (PyData × PyData)) (k d : PyData) : cntK (xs ++ [(k, d)]) = cntK xs + cnt d := by
  rw [cntK_eq, cntK_eq, List.map_append, cntL_app]
  show _ + cntL [d] = _
  rw [cntL, cntL]
  omega
theorem putP_cnt (kvs : List (PyData × PyData)) (y : Str) (x : PyData) (nd : (names kvs).Nodup) : cntK (putP kvs y x) ≤ cntK kvs + cnt x := by
  unfold putP
  split
  · rename_i h
    have := cntK_set kvs y x nd h
    omega
  · rw [cntK_app]
    omega
theorem putP_len (kvs : List (PyData × PyData)) (y : Str) (x : PyData) : (putP kvs y x).length ≤ kvs.length + 1 := by
  unfold putP
  split
  · unfold setM
    rw [List.length_map]
    omega
  · rw [List.length_append]
    exact Nat.le_refl _
theorem putP_fld {kvs : List (PyData × PyData)} {y : Str} {x : PyData} (h : ∀ p ∈ kvs, fld p.1 = true) (hy : fld (.str y) = true) : ∀ p ∈ putP kvs y x, fld p.1 = true := by
  intro p hp
  unfold putP at hp
  split at hp
  · obtain ⟨z, hz, rfl⟩ := List.mem_map.mp hp
    split <;> exact h z hz
  · rcases List.mem_append.mp hp with hp | hp
    · exact h p hp
    · cases List.mem_singleton.mp hp
      exact hy
theorem okK_mem {kvs : List (PyData × PyData)} : okK kvs = true ↔ ∀ p ∈ kvs, okA p.2 = true := by
  rw [okK_eq, okL_all, List.all_eq_true]
  constructor
  · exact fun h p hp => h p.2 (List.mem_map_of_mem hp)
  · intro h d hd
    obtain ⟨p, hp, rfl⟩ := List.mem_map.mp hd
    exact h p hp
theorem putP_ok {kvs : List (PyData × PyData)} {y : Str} {x : PyData} (h : okK kvs = true) (hx : okA x = true) : okK (putP kvs y x) = true := by
  rw [okK_mem] at h ⊢
  intro p hp
  unfold putP at hp
  split at hp
  · obtain ⟨z, hz, rfl⟩ := List.mem_map.mp hp
    split
    · exact hx
    · exact h z hz
  · rcases List.mem_append.mp hp with hp | hp
    · exact h p hp
    · cases List.mem_singleton.mp hp
      exact hx
theorem allStr_fld {kvs : List (PyData × PyData)} (h : ∀ p ∈ kvs, fld p.1 = true) : AllStr kvs := fun p hp => by
  have q := h p hp
  cases e : p.1 with
  | str x => rfl
  | _ => rw [e] at q; cases q
theorem DtK.app1 {H : Hp} {k d : PyData} {x : Key} {v : V} (hk : k = kD x) (q : Dt H d v) : ∀ {kvs : List (PyData × PyData)} {es : List (Key × V)}, DtK H kvs es → DtK H (kvs ++ [(k, d)]) (es ++ [(x, v)])
  | [], _, h => by
    unfold DtK at h
    subst h
    refine DtK.cons hk q ?_
    unfold DtK
    rfl
  | (k0, d0) :: r, _, h => by
    unfold DtK at h
    obtain ⟨z, u, t, rfl, hk0, h1, h2⟩ := h
    exact DtK.cons hk0 h1 (DtK.app1 hk q h2)
theorem val_no {H : Hp} {kvs : List (PyData × PyData)} {es : List (Key × V)} (h : DtK H kvs es) (ha : AllStr kvs) {y : Str} (hy : y ∉ names kvs) : valV es (Sum.inr y : Key) = none := by
  have e := dtk_names h ha
  cases q : valV es (Sum.inr y : Key) with
  | none => rfl
  | some v =>
    exfalso
    unfold valV at q
    cases f : es.find? fun kv => decide (kv.1 = (Sum.inr y : Key)) with
    | none =>
      rw [f] at q
      cases q
    | some p =>
      have h1 := List.mem_of_find?_eq_some f
      have h2 := List.find?_some f
      have h3 : p.1 = (Sum.inr y : Key) := of_decide_eq_true h2
      have h4 : (Sum.inr y : Key) ∈ es.map (·.1) := by
        rw [← h3]
        exact List.mem_map_of_mem h1
      rw [e] at h4
      obtain ⟨z, hz, hz2⟩ := List.mem_map.mp h4
      cases hz2
      exact hy hz
theorem dtk_putP {H : Hp} {y : Str} {x : PyData} {u : V} {kvs : List (PyData × PyData)} {es : List (Key × V)} (q : Dt H x u) (h : DtK H kvs es) (ha : AllStr kvs) (nd : (es.map (·.1)).Nodup) :
    DtK H (putP kvs y x) (putK es (Sum.inr y) u) ∧ ((putK es (Sum.inr y : Key) u).map (·.1)).Nodup := by
  unfold putP
  by_cases hy : y ∈ names kvs
  · rw [if_pos hy]
    obtain ⟨v, hv, _⟩ := dtk_get h ha y hy
    refine ⟨DtK.put q h ha hy, ?_⟩
    rw [putK_keys (by rw [hv]; rfl)]
    exact nd
  · rw [if_neg hy]
    have hv := val_no h ha hy
    rw [putK_new u hv]
    refine ⟨DtK.app1 (k := .str y) (x := Sum.inr y) rfl q h, ?_⟩
    rw [List.map_append, List.nodup_append]
    refine ⟨nd, by simp, fun a ha' b hb => ?_⟩
    cases List.mem_singleton.mp hb
    rw [dtk_names h ha] at ha'
    obtain ⟨z, hz, rfl⟩ := List.mem_map.mp ha'
    exact fun e => hy (Sum.inr.inj e ▸ hz)
/-! ### _law_value -/
section
variable {P : Program} {w : World} {K : PySem.W.Frag} {mg : Str → Option Value} {base : Heap}
def spValue (n : Nat) : Sp := fun vs H Q _ => ∃ (pl ro : Addr) (r dp : Nat), vs = [.ref pl, .ref ro, .int dp] ∧ dp < n ∧ Pool H pl ∧ H ro = some (.lst [.int r]) ∧ r ≤ 59 ∧
  ∀ v d (r' : Nat) H', Ex (upd H ro (.lst [.int r'])) H' → Dt (fr H H') d v → okA d = true → cnt d + r' ≤ 1 + r → Q v H'
/-- the heap of the run: the room has changed, a new object stands at D -/
structure Rm (H Hi : Hp) (ro D : Addr) (o : HO) (r : Nat) : Prop where
  ex : Ex (upd H ro (.lst [.int r])) (del Hi D)
  hD : Hi D = some o
theorem Rm.next {H Hi H4 : Hp} {ro D : Addr} {o o' : HO} {r r' : Nat} {u : HO} (h : Rm H Hi ro D o r) (hro : H ro = some u) (nD : H D = none) (e : Ex (upd Hi ro (.lst [.int r'])) H4) : Rm H (upd H4 D o') ro D o' r' ∧ Ex (fr H (del Hi D)) (fr H (del (upd H4 D o') D)) ∧ Ex (fr Hi H4) (fr H (del (upd H4 D o') D)) ∧ H4 D = some o := by
  have ne : D ≠ ro := fun z => by rw [z, hro] at nD; cases nD
  have dm : ∀ b, Hi b = none → H b = none := fun b hb => by
    cases q : H b with
    | none => rfl
    | some x =>
      by_cases eb : b = ro
      · have := h.ex ro _ upd_same
        rw [eb] at hb
        rw [ex_del _ _ this] at hb
        cases hb
      · have := ex_del _ _ (h.ex b x (by rw [upd_ne eb]; exact q))
        rw [hb] at this
        cases this
  refine ⟨⟨fun b x q => ?_, upd_same⟩, fun b x q => ?_, fun b x q => ?_, ?_⟩
  · rw [del_upd]
    by_cases eb : b = ro
    · subst eb
      rw [upd_same] at q
      cases q
      exact del_get (e _ _ upd_same) (fun z => ne z.symm)
    · rw [upd_ne eb] at q
      have q1 := h.ex b x (by rw [upd_ne eb]; exact q)
      have eD : b ≠ D := fun z => by rw [z, del_same] at q1; cases q1
      exact del_get (e b x (by rw [upd_ne eb]; exact ex_del _ _ q1)) eD
  · obtain ⟨n, q⟩ := fr_some q
    have eD : b ≠ D := fun z => by rw [z, del_same] at q; cases q
    have eb : b ≠ ro := fun z => by rw [z, hro] at n; cases n
    rw [del_upd]
    exact fr_get n (del_get (e b x (by rw [upd_ne eb]; exact ex_del _ _ q)) eD)
  · obtain ⟨n, q⟩ := fr_some q
    have eD : b ≠ D := fun z => by rw [z, h.hD] at n; cases n
    rw [del_upd]
    exact fr_get (dm b n) (del_get q eD)
  · exact e _ _ (by rw [upd_ne ne]; exact h.hD)
theorem Rm.grow {H Hi H4 : Hp} {ro D : Addr} {o : HO} {r : Nat} (h : Rm H Hi ro D o r) (e : Ex Hi H4) : Rm H H4 ro D o r := ⟨h.ex.trans (del_grow' e), e _ _ h.hD⟩
theorem Rm.ro {H Hi : Hp} {ro D : Addr} {o : HO} {r : Nat} (h : Rm H Hi ro D o r) : Hi ro = some (.lst [.int r]) := ex_del _ _ (h.ex _ _ upd_same)
theorem Rm.old {H Hi : Hp} {ro D a : Addr} {o u : HO} {r : Nat} (h : Rm H Hi ro D o r) (q : H a = some u) (ne : a ≠ ro) : Hi a = some u := ex_del _ _ (h.ex _ _ (by rw [upd_ne ne]; exact q))
theorem upd_id {H : Hp} {a : Addr} {o : HO} (h : H a = some o) : upd H a o = H := by
  funext b
  by_cases hb : b = a
  · rw [hb, upd_same, h]
  · rw [upd_ne hb]
theorem at_heap {f : Hp → Prop} {A B : Hp} (e : A = B) (h : f B) : f A := e ▸ h
theorem fld_str {y : Str} (h : lets y 1 8 = true) : fld (.str y) = true := h
theorem sc__law_value : FnScope ["_law_pool", "_law_room", "_law_deep", "_law_way", "_law_many", "_law_k", "_law_found", "_law_name"] ["_law_pool", "_law_room", "_law_deep"] (defScope s__law_value) := ⟨rfl, rfl, rfl, by decide +kernel, rfl, by decide +kernel, by decide +kernel⟩
theorem bi__law_value : BindsEq "_law_value" s__law_value ["_law_pool", "_law_room", "_law_deep"] := fun _ _ _ _ _ _ us hl => match us, hl with | [_, _, _], _ => rfl
theorem ok_value (F : Df K mg "_law_value" s__law_value) (T : Txt K mg) (C__law_draw : Cal P w K mg base CX0 1 "_law_draw" spDraw) (C__law_word : Cal P w K mg base CX0 2 "_law_word" spWord) (C__law_leaf : Cal P w K mg base CX0 3 "_law_leaf" spLeafV) :
    ∀ n, Cal P w K mg base CX0 (n + 4) "_law_value" (spValue n)
  | 0 => cal_no F sc__law_value bi__law_value fun vs H Q E h => by
    obtain ⟨pl, ro, r, dp, _, hc, _⟩ := h
    omega
  | n + 1 => by
    have C__law_value := ok_value F T C__law_draw C__law_word C__law_leaf n
    refine cal0 F sc__law_value bi__law_value (fun vs H Q E h => ?_) (fun f cdv A outer s H vs Q E hr h => ?_)
    · obtain ⟨pl, ro, r, dp, rfl, _⟩ := h
      rfl
    · obtain ⟨pl, ro, r, dp, rfl, hdp, hp, hro, hr59, k⟩ := h
      have hu : (A.deeper (PyProof.Rows.envOfC "_law_value" (defScope s__law_value) s.heap.objs.size f cdv)).units + 1 < cLine := by have := hr.un; omega
      refine ⟨_, (pss_cons (ps_set (i := 3) sc__law_value.nd rfl (Or.inl rfl) (pe_k C__law_draw hr (by omega) rfl (pa_cons (pv 0) (pa_cons pe_int pa_nil))))
 (pss_cons (ps_set (i := 4) sc__law_value.nd rfl (Or.inl rfl) (pe_callB (call_min2 rfl) rfl T.b_min (by decide +kernel) (pa_cons (pe_callTy call_int1 rfl T.b_int (by decide +kernel) (pa_cons (pe_k C__law_draw hr (by omega) rfl (pa_cons (pv 0) (pa_cons pe_int pa_nil))) pa_nil)) (pa_cons (pe_callTy call_int1 rfl T.b_int (by decide +kernel) (pa_cons (pe_ix (ixl K) (pv 1) pe_int (fun _ _ => rfl)) pa_nil)) pa_nil))))
 (pss_cons (ps_if (PW.pt (pw_or (pt_cmpR op_eq (pv 2) pe_int (nomark _)) (pw_or1 (pt_cmpR op_lt (pv 3) pe_int (nomark _))))) (pss_one (ps_ret (pe_k C__law_leaf hr (by omega) rfl (pa_cons (pv 0) pa_nil)))) pss_nil)
 (pss_cons (ps_asg (pe_op op_sub (pe_ix (ixl K) (pv 1) pe_int (fun _ _ => rfl)) (pv 4)) (pg_sub (pv 1) pe_int set_list))
 (pss_cons (ps_if (pt_cmpR op_eq (pv 3) pe_int (nomark _)) (pss_one (ps_ret (pe_lc (own := [("_law_k", 5)]) (by rfl) sc__law_value.nd (pi_range1 rfl T.b_range (pa_cons (pv 4) pa_nil)) (blkOk_by (own := [("_law_k", 5)]) (N := ["_law_pool", "_law_room", "_law_deep", "_law_way", "_law_many", "_law_k", "_law_found", "_law_name"]) (sc := defScope s__law_value) (by decide +kernel)) (fun _ _ _ _ _ => (pg_name (i := 5) sc__law_value.nd rfl (Or.inl rfl))) (fun _ _ _ _ _ => pts_nil) (fun _ _ _ _ _ => (pe_k C__law_value hr (by omega) rfl (pa_cons (pv 0) (pa_cons (pv 1) (pa_cons (pe_op op_sub (pv 2) pe_int) pa_nil)))))))) pss_nil)
 (pss_cons (ps_set (i := 6) sc__law_value.nd rfl (Or.inl rfl) pe_dnewK)
 (pss_cons (ps_for PassesOwn.never rfl (pi_range1 rfl T.b_range (pa_cons (pv 4) pa_nil)) (pg_name (i := 5) sc__law_value.nd rfl (Or.inl rfl)) (pss_cons (ps_set (i := 7) sc__law_value.nd rfl (Or.inl rfl) (pe_ix (ixl K) (pe_lst (pa_cons (pe_ix (ixl K) (pe_lst (pa_cons pe_str (pa_cons pe_str (pa_cons pe_str (pa_cons pe_str pa_nil))))) (pv 5) (fun _ _ => rfl)) (pa_cons (pe_k C__law_word hr (by omega) rfl (pa_cons (pv 0) (pa_cons pe_int pa_nil))) pa_nil))) (pe_k C__law_draw hr (by omega) rfl (pa_cons (pv 0) (pa_cons pe_int pa_nil))) (fun _ _ => rfl)))
 (pss_one (ps_dput hu (pv 6) (pv 7) (pe_k C__law_value hr (by omega) rfl (pa_cons (pv 0) (pa_cons (pv 1) (pa_cons (pe_op op_sub (pv 2) pe_int) pa_nil)))) rfl))))
 (pss_one (ps_ret (pv 6)))))))))), ?_⟩
      refine ⟨_, rfl, pl, 4, rfl, hp, by decide, by decide, fun wy w0 w1 => ?_⟩
      refine ⟨_, rfl, pl, 5, rfl, hp, by decide, by decide, fun my m0 m1 => ?_⟩
      refine .inl ⟨_, rfl, _, rfl, ro, _, _, _, rfl, rfl, SqLo hro, (show atI [V.int r] 0 = some (.int r) from rfl), .inl ⟨_, rfl, _, _, rfl, ?_⟩⟩
      obtain ⟨m, hm, hm4, hmr⟩ : ∃ m : Nat, (if (r : Int) < my then (r : Int) else my) = m ∧ m ≤ 4 ∧ m ≤ r := by
        split
        · exact ⟨r, rfl, by omega, Nat.le_refl _⟩
        · exact ⟨my.toNat, by omega, by omega, by omega⟩
      rw [hm]
      have pr : pl ≠ ro := fun z => by
        have q := hp
        rw [z] at q
        rw [show H ro = some (poolO ro) from q] at hro
        cases hro
      have cast : dp ≠ 0 → (dp : Int) - 1 = ((dp - 1 : Nat) : Int) := fun h => by omega
      have leafGo : ∀ v d H', Ex H H' → Lf d v → okA d = true → Q v H' := fun v d H' e hl ho => k v d r H' (by rw [upd_id hro]; exact e) hl.dt ho (by rw [hl.cnt]; omega)
      refine ⟨_, rfl, rfl, _, rfl, if_b (fun h => ?_) (fun h => ?_)⟩
      · exact if_t rfl ⟨_, rfl, pl, rfl, hp, leafGo⟩
      · have dp0 : dp ≠ 0 := fun z => by
          rw [z] at h
          cases h
        refine ⟨_, rfl, _, _, rfl, rfl, _, rfl, if_b (fun h1 => ?_) (fun h1 => ?_)⟩
        · exact ⟨_, rfl, pl, rfl, hp, leafGo⟩
        refine ⟨_, rfl, ro, _, _, _, rfl, rfl, SqLo hro, (show atI [V.int r] 0 = some (.int r) from rfl), _, rfl, _, _, rfl, rfl, _, rfl, ro, _, _, 0, rfl, rfl, hro, rfl, ?_⟩
        refine at_heap (B := upd H ro (.lst [.int ((r - m : Nat) : Int)])) ?_ ?_
        · show upd H ro (HO.lst [V.int ((r : Int) - (m : Int))]) = _
          rw [show ((r : Int) - (m : Int)) = ((r - m : Nat) : Int) by omega]
        refine ⟨_, rfl, rfl, _, rfl, if_b (fun h2 => ?_) (fun h2 => ?_)⟩
        · -- a list
          refine ⟨_, rfl, (m : Int), rfl, by omega, by omega, fun D nD => ?_⟩
          have nD0 : H D = none := by
            by_cases e : D = ro
            · rw [e, upd_same] at nD
              cases nD
            · rw [upd_ne e] at nD
              exact nD
          refine lc_it walk_range (fun i Hi => ∃ acc ds ri, Rm H Hi ro D (.lst acc) ri ∧ DtL (fr H (del Hi D)) ds acc ∧ okL ds = true ∧ ds.length = i ∧ cntL ds + ri ≤ i + (r - m)) ?_ (fun _ _ _ _ => True.intro) ?_ ?_
          · refine ⟨[], [], r - m, ⟨?_, upd_same⟩, DtL.nil, rfl, rfl, by rw [cntL]; omega⟩
            rw [del_none nD]
            exact fun _ _ h => h
          · rintro i x Hi H2 hi ⟨acc, ds, ri, rm, hdl, hok, hlen, hcn⟩ ⟨rfl, rfl⟩
            have hl := hdl.len
            refine ⟨rfl, _, rfl, _, rfl, _, rfl, _, _, rfl, rfl, pl, ro, ri, dp - 1, ?_, by omega, rm.old hp pr, rm.ro, by omega, fun v d r'' H4 e4 hdt ho hc => ?_⟩
            · show [V.ref pl, V.ref ro, V.int ((dp : Int) - 1)] = _
              rw [cast dp0]
            · obtain ⟨n1, n2, n3, n4⟩ := rm.next (o' := .lst (acc ++ [v])) hro nD0 e4
              refine ⟨acc, n4, szlt (by omega), acc ++ [v], ds ++ [d], r'', n1, ?_, ?_, ?_, ?_⟩
              · exact DtL.app (hdl.ex n2) (DtL.cons (hdt.ex n3) DtL.nil)
              · rw [okL_app, hok, Bool.true_and, okL, okL, ho]
                rfl
              · rw [List.length_append, hlen]
                rfl
              · rw [cntL_app, cntL, cntL]
                omega
          · rintro Hi ⟨acc, ds, ri, rm, hdl, hok, hlen, hcn⟩
            refine k _ (.list ds) ri Hi (rm.ex.trans ex_del) ?_ ?_ ?_
            · unfold Dt
              exact ⟨D, acc, rfl, .inl (fr_get nD0 rm.hD), hdl.ex (fr_mono ex_del)⟩
            · unfold okA
              rw [hok, Bool.and_true]
              exact decide_eq_true (by omega)
            · rw [cnt]
              omega
        · -- a record
          intro D nD
          have nD0 : H D = none := by
            by_cases e : D = ro
            · rw [e, upd_same] at nD
              cases nD
            · rw [upd_ne e] at nD
              exact nD
          refine ⟨_, rfl, (m : Int), rfl, by omega, by omega, for_it walk_range (fun i σ' Hi => ∃ es kvs ri o5 o7, σ' = [some (.ref pl), some (.ref ro), some (.int dp), some (.int wy), some (.int m), o5, some (.ref D), o7] ∧ Rm H Hi ro D (.dK es) ri ∧ DtK (fr H (del Hi D)) kvs es ∧ (es.map (·.1)).Nodup ∧ (∀ p ∈ kvs, fld p.1 = true) ∧ okK kvs = true ∧ kvs.length ≤ i ∧ cntK kvs + ri ≤ i + (r - m)) ?_ (fun _ _ _ _ _ => True.intro) ?_ ?_⟩
          · refine ⟨[], [], r - m, none, none, rfl, ⟨?_, upd_same⟩, by unfold DtK; rfl, List.nodup_nil, nofun, rfl, Nat.le_refl _, by rw [cntK]; omega⟩
            rw [del_none nD]
            exact fun _ _ h => h
          · rintro i x σ' Hi H2 hi ⟨es, kvs, ri, o5, o7, rfl, rm, hdk, hnd, hfl, hok, hlen, hcn⟩ ⟨rfl, rfl⟩
            have hpi := rm.old hp pr
            refine ⟨szl (by show 4 ≤ 100000; decide), fun p1 np1 => ?_⟩
            obtain ⟨Ha, hHa, xa, ha⟩ := newH _ np1
            rw [hHa]
            clear hHa
            obtain ⟨z, hz1, hz2, _⟩ := at_some (xs := [V.str "b", V.str "a", V.str "ab", V.str "zz"]) (v := 0 + (i : Int)) (by omega) (by show (0 + (i : Int)) < 4; omega)
            have hz3 : ∃ y : Str, z = .str y ∧ fld (.str y) = true := by
              simp only [List.mem_cons, List.not_mem_nil, or_false] at hz2
              rcases hz2 with rfl | rfl | rfl | rfl
              · exact ⟨_, rfl, by decide +kernel⟩
              · exact ⟨_, rfl, by decide +kernel⟩
              · exact ⟨_, rfl, by decide +kernel⟩
              · exact ⟨_, rfl, by decide +kernel⟩
            obtain ⟨y1, rfl, hy1⟩ := hz3
            refine ⟨_, rfl, p1, _, _, _, rfl, rfl, SqLo ha, hz1, _, rfl, pl, 8, rfl, Pool.ex hpi xa, by decide, fun y2 Hb xb hy2 => ?_⟩
            have hf2 : fld (.str y2) = true := by
              unfold lets at hy2
              rw [Bool.and_eq_true, Bool.and_eq_true] at hy2
              have a1 := of_decide_eq_true hy2.1.1
              show (decide (1 ≤ y2.length) && decide (y2.length ≤ 8) && low y2) = true
              rw [decide_eq_true (by omega), hy2.1.2, hy2.2]
              rfl
            refine ⟨szl (by show 2 ≤ 100000; decide), fun p2 np2 => ?_⟩
            obtain ⟨Hc, hHc, xc, hc2⟩ := newH _ np2
            rw [hHc]
            clear hHc
            refine ⟨_, rfl, pl, 2, rfl, Pool.ex hpi (xa.trans (xb.trans xc)), by decide, by decide, fun u u0 u1 => ?_⟩
            obtain ⟨z, hz1, hz2, _⟩ := at_some (xs := [V.str y1, V.str y2]) (v := u) u0 u1
            have hz3 : ∃ y : Str, z = .str y ∧ fld (.str y) = true := by
              simp only [List.mem_cons, List.not_mem_nil, or_false] at hz2
              rcases hz2 with rfl | rfl
              · exact ⟨_, rfl, hy1⟩
              · exact ⟨_, rfl, hf2⟩
            obtain ⟨y, rfl, hy⟩ := hz3
            refine ⟨p2, _, _, _, rfl, rfl, SqLo hc2, hz1, ?_⟩
            have xi := xa.trans (xb.trans xc)
            have rmc := rm.grow xi
            refine ⟨_, rfl, _, rfl, _, rfl, _, _, rfl, rfl, pl, ro, ri, dp - 1, ?_, by omega, rmc.old hp pr, rmc.ro, by omega, fun v d r'' H4 e4 hdt ho hc => ?_⟩
            · show [V.ref pl, V.ref ro, V.int ((dp : Int) - 1)] = _
              rw [cast dp0]
            · obtain ⟨n1, n2, n3, n4⟩ := rmc.next (o' := .dK (putK es (Sum.inr y) v)) hro nD0 e4
              have hal := allStr_fld hfl
              have n2' := (fr_mono (H := H) (del_grow' (p := D) xi)).trans n2
              obtain ⟨q1, q2⟩ := dtk_putP (y := y) (hdt.ex n3) (hdk.ex n2') hal hnd
              have hkl : es.length = kvs.length := DtK.len hdk
              refine ⟨_, rfl, _, rfl, D, _, rfl, DPut.k (k := Sum.inr y) n4 (szlt (by omega)), _, putP kvs y d, r'', _, _, rfl, n1, q1, q2, putP_fld hfl hy, putP_ok hok ho, ?_, ?_⟩
              · have := putP_len kvs y d
                omega
              · have := putP_cnt kvs y d (nodup_names hdk hal hnd)
                omega
          · rintro σ' Hi ⟨es, kvs, ri, o5, o7, rfl, rm, hdk, hnd, hfl, hok, hlen, hcn⟩
            refine ⟨_, rfl, k _ (.dict kvs) ri Hi (rm.ex.trans ex_del) ?_ ?_ ?_⟩
            · unfold Dt
              exact ⟨D, rfl, .inl ⟨es, .inl (fr_get nD0 rm.hD), hnd, hdk.ex (fr_mono ex_del)⟩⟩
            · unfold okA
              rw [hok, Bool.and_true]
              show (decide (kvs.length ≤ 8) && kvs.all fun p => fld p.1) = true
              rw [decide_eq_true (by omega), Bool.true_and]
              exact List.all_eq_true.mpr hfl
            · rw [cnt]
              omega
end
end VL

namespace WT
open PySem L2 LW VL
open Evl (Ex)
open SX (S S_tl S_inj S_len S_cat)
open TL (tl numL numL_lt numL_step numL_digits numL_ne numL_val numL_len joinL)
open NumText (digitsVal AllDigits)
/-! ### what the program's reader may give -/
def Sp4 (t : List Nat) (m : Nat) (d : PyData) (t' : List Nat) (m' : Nat) : Prop := m < m' ∧ m' ≤ 60 ∧ t'.length ≤ t.length ∧ (t.length ≤ 10000 → szA d) ∧ ∀ H v, Dt H d v → v ≠ .non
theorem dro_len (t sg : List Nat) : (dro t sg).length ≤ t.length := by
  have := congrArg List.length (unt_dro t sg)
  rw [List.length_append] at this
  omega
theorem unt_len (t sg : List Nat) : (unt t sg).length ≤ t.length := by
  have := congrArg List.length (unt_dro t sg)
  rw [List.length_append] at this
  omega
theorem itemL_sz {nv : List Nat → Nat → Res} (hn : ∀ t m d t' m', nv t m = some (d, t', m') → Sp4 t m d t' m') : ∀ (f : Nat) (acc : List PyData) (t : List Nat) (m : Nat) (d : PyData) (t' : List Nat) (m' : Nat), itemL nv f acc t m = some (d, t', m') →
    m < m' ∧ m' ≤ 60 ∧ t'.length ≤ t.length ∧ ∃ ds, d = .list (acc ++ ds) ∧ (t.length ≤ 10000 → ∀ e ∈ ds, szA e)
  | 0, _, _, _, _, _, _, h => by unfold itemL at h; cases h
  | f + 1, acc, t, m, d, t', m', h => by
    unfold itemL at h
    split at h
    · cases h
    · rename_i e u k hnv
      obtain ⟨h1, h2, h3, h4, _⟩ := hn _ _ _ _ _ hnv
      split at h
      · obtain ⟨g1, g2, g3, ds, g4, g5⟩ := itemL_sz hn f _ _ _ _ _ _ h
        rw [List.length_drop] at g3 g5
        refine ⟨by omega, g2, by omega, e :: ds, by rw [g4, List.append_assoc, List.singleton_append], fun hl z hz => ?_⟩
        rcases List.mem_cons.mp hz with rfl | hz
        · exact h4 hl
        · exact g5 (by omega) z hz
      · split at h
        · cases h
          refine ⟨h1, h2, by rw [List.length_drop]; omega, [e], rfl, fun hl z hz => ?_⟩
          cases List.mem_singleton.mp hz
          exact h4 hl
        · cases h
theorem itemK_sz {nv : List Nat → Nat → Res} (hn : ∀ t m d t' m', nv t m = some (d, t', m') → Sp4 t m d t' m') : ∀ (f : Nat) (acc : List (PyData × PyData)) (t : List Nat) (m : Nat) (d : PyData) (t' : List Nat) (m' : Nat), itemK nv f acc t m = some (d, t', m') →
    m < m' ∧ m' ≤ 60 ∧ t'.length ≤ t.length ∧ ∃ ds, d = .dict (acc ++ ds) ∧ (t.length ≤ 10000 → ∀ p ∈ ds, szA p.1 ∧ szA p.2)
  | 0, _, _, _, _, _, _, h => by unfold itemK at h; cases h
  | f + 1, acc, t, m, d, t', m', h => by
    unfold itemK at h
    split at h
    · cases h
    · split at h
      · cases h
      · rename_i e u k hnv
        obtain ⟨h1, h2, h3, h4, _⟩ := hn _ _ _ _ _ hnv
        have hd := dro_len t [58]
        have hu := unt_len t [58]
        rw [List.length_drop] at h3 h4
        have hk : t.length ≤ 10000 → szA (.str (S (unt t [58]))) := fun hl => by
          unfold szA
          rw [S_len]
          omega
        split at h
        · obtain ⟨g1, g2, g3, ds, g4, g5⟩ := itemK_sz hn f _ _ _ _ _ _ h
          rw [List.length_drop] at g3 g5
          refine ⟨by omega, g2, by omega, (.str (S (unt t [58])), e) :: ds, by rw [g4, List.append_assoc, List.singleton_append], fun hl z hz => ?_⟩
          rcases List.mem_cons.mp hz with rfl | hz
          · exact ⟨hk hl, h4 (by omega)⟩
          · exact g5 (by omega) z hz
        · split at h
          · cases h
            refine ⟨h1, h2, by rw [List.length_drop]; omega, [_], rfl, fun hl z hz => ?_⟩
            cases List.mem_singleton.mp hz
            exact ⟨hk hl, h4 (by omega)⟩
          · cases h
theorem dt_list_ne {H : Hp} {ds : List PyData} {v : V} (h : Dt H (.list ds) v) : v ≠ .non := by
  unfold Dt at h
  obtain ⟨a, vs, rfl, _⟩ := h
  exact nofun
theorem dt_dict_ne {H : Hp} {ds : List (PyData × PyData)} {v : V} (h : Dt H (.dict ds) v) : v ≠ .non := by
  unfold Dt at h
  obtain ⟨a, rfl, _⟩ := h
  exact nofun
theorem nv_sz : ∀ (n : Nat) (t : List Nat) (m : Nat) (d : PyData) (t' : List Nat) (m' : Nat), nvF n t m = some (d, t', m') → Sp4 t m d t' m'
  | 0, _, _, _, _, _, h => by unfold nvF at h; cases h
  | n + 1, t, m, d, t', m', h => by
    have ih := nv_sz n
    unfold nvF at h
    split at h
    · cases h
    rename_i hm
    split at h
    · split at h
      · cases h
        exact ⟨by omega, by omega, by rw [List.length_drop, List.length_drop]; omega, fun _ => by unfold szA; exact szL_of nofun, fun H v hd => dt_list_ne hd⟩
      · obtain ⟨g1, g2, g3, ds, rfl, g5⟩ := itemL_sz ih _ _ _ _ _ _ _ h
        rw [List.length_drop] at g3 g5
        exact ⟨by omega, g2, by omega, fun hl => by unfold szA; exact szL_of (g5 (by omega)), fun H v hd => dt_list_ne hd⟩
    · split at h
      · split at h
        · cases h
          exact ⟨by omega, by omega, by rw [List.length_drop, List.length_drop]; omega, fun _ => by unfold szA; exact szK_of nofun, fun H v hd => dt_dict_ne hd⟩
        · obtain ⟨g1, g2, g3, ds, rfl, g5⟩ := itemK_sz ih _ _ _ _ _ _ _ h
          rw [List.length_drop] at g3 g5
          exact ⟨by omega, g2, by omega, fun hl => by unfold szA; exact szK_of (g5 (by omega)), fun H v hd => dt_dict_ne hd⟩
      · split at h
        · split at h
          · cases h
            have hd := dro_len (t.drop 1) [34]
            have hu := unt_len (t.drop 1) [34]
            rw [List.length_drop] at hd hu
            exact ⟨by omega, by omega, by rw [List.length_drop]; omega, fun hl => by unfold szA; rw [S_len]; omega, fun H v hd => by unfold Dt at hd; rw [hd]; exact nofun⟩
          · cases h
        · split at h
          · cases h
            exact ⟨by omega, by omega, dro_len _ _, fun _ => by unfold szA; trivial, fun H v hd => by unfold Dt at hd; rw [hd]; exact nofun⟩
          · cases h
theorem name_uniq : ∀ {kvs : List (PyData × PyData)} {p q : PyData × PyData}, (names kvs).Nodup → q ∈ kvs → p ∈ kvs → nm q.1 = nm p.1 → q = p
  | [], _, _, _, h, _, _ => by cases h
  | z :: r, p, q, h, hq, hp, e => by
    have hi : (nm z.1 :: names r).Nodup := h
    obtain ⟨n1, n2⟩ := List.nodup_cons.mp hi
    have mm : ∀ {y : PyData × PyData}, y ∈ r → nm y.1 ∈ names r := fun hy => List.mem_map_of_mem (f := fun p : PyData × PyData => nm p.1) hy
    rcases List.mem_cons.mp hp with ep | hp2
    · rcases List.mem_cons.mp hq with eq | hq2
      · rw [eq, ep]
      · exact (n1 (by rw [← ep, ← e]; exact mm hq2)).elim
    · rcases List.mem_cons.mp hq with eq | hq2
      · exact (n1 (by rw [← eq, e]; exact mm hp2)).elim
      · exact name_uniq n2 hq2 hp2 e
theorem dt_nod {H : Hp} : ∀ (n : Nat) (d : PyData) (v : V), cnt d ≤ n → okA d = true → Dt H d v → nodA d
  | 0, d, _, h, _, _ => by have := cnt_pos d; omega
  | n + 1, d, v, h, ho, hd => by
    cases d with
    | list ds =>
      obtain ⟨_, hoL⟩ := okA_list ho
      rw [cnt] at h
      unfold Dt at hd
      obtain ⟨a, vs, rfl, _, hl⟩ := hd
      unfold nodA
      refine nodAL_mem.mpr fun e he => ?_
      obtain ⟨i, hi⟩ := List.mem_iff_getElem?.mp he
      have hlt : i < vs.length := by rw [hl.len]; exact (List.getElem?_eq_some_iff.mp hi).1
      obtain ⟨e', he', hde⟩ := hl.get (List.getElem?_eq_getElem hlt)
      rw [hi] at he'
      cases he'
      exact dt_nod n e _ (by have := cntL_mem he; omega) (hoL e he) hde
    | dict kvs =>
      obtain ⟨_, hfl, hok⟩ := okA_dict ho
      rw [cnt] at h
      have ha := allStr_okA hfl
      obtain ⟨a, es, rfl, hae, nd, hk⟩ := dict_val hd ha
      unfold nodA
      have hnn := nodup_names hk ha nd
      refine ⟨hnn, nodAK_mem.mpr fun p hp => ?_⟩
      have hy : nm p.1 ∈ names kvs := List.mem_map_of_mem (f := fun p : PyData × PyData => nm p.1) hp
      obtain ⟨u, _, hu⟩ := dtk_get hk ha _ hy
      have e : getN kvs (nm p.1) = p.2 := by
        obtain ⟨q1, hq1, e1, e2⟩ := getN_mem hy
        have : q1 = p := name_uniq hnn hq1 hp e1
        rw [e2, this]
      rw [e] at hu
      exact dt_nod n p.2 u (by have := cntK_mem hp; omega) (okKm hok p hp) hu
    | _ => unfold nodA; trivial
/-! ### lengths -/
theorem WnL_len : ∀ ds : List PyData, (∀ e ∈ ds, (Wn e).length + 14 ≤ 46 * cnt e) → (WnLT ds).length ≤ 1 + 46 * cntL ds
  | [], _ => by rw [WnLT, cntL]; decide
  | d :: r, h => by
    have := WnL_len r fun e he => h e (List.mem_cons_of_mem _ he)
    have := h d List.mem_cons_self
    rw [WnLT, cntL]
    simp only [List.length_cons, List.length_append]
    omega
theorem WnK_len : ∀ ds : List (PyData × PyData), (∀ p ∈ ds, fld p.1 = true ∧ (Wn p.2).length + 14 ≤ 46 * cnt p.2) → (WnKT ds).length ≤ 1 + 46 * cntK ds
  | [], _ => by rw [WnKT, cntK]; decide
  | (k, d) :: r, h => by
    have := WnK_len r fun e he => h e (List.mem_cons_of_mem _ he)
    obtain ⟨h1, h2⟩ := h (k, d) List.mem_cons_self
    have h2 : (Wn d).length + 14 ≤ 46 * cnt d := h2
    obtain ⟨x, c, w, rfl, hx, _⟩ := name_head h1
    unfold lets at hx
    rw [Bool.and_eq_true, Bool.and_eq_true] at hx
    have hx := of_decide_eq_true hx.1.2
    rw [TL.len_tl] at hx
    rw [WnKT, cntK]
    simp only [List.length_cons, List.length_append, nm]
    omega
theorem Wn_len : ∀ (n : Nat) (d : PyData), cnt d ≤ n → okA d = true → (Wn d).length + 14 ≤ 46 * cnt d
  | 0, d, h, _ => by have := cnt_pos d; omega
  | n + 1, d, h, ho => by
    cases d with
    | int i =>
      obtain ⟨h1, h2⟩ := okA_int ho
      have : (numL i.natAbs).length ≤ 30 := numL_len (by decide) (by unfold big at h1 h2; omega)
      rw [Wn, show cnt (.int i) = 1 from rfl]
      unfold numI
      split
      · rw [List.length_cons]; omega
      · omega
    | str x =>
      have hl : lets x 0 20 = true := ho
      unfold lets at hl
      rw [Bool.and_eq_true, Bool.and_eq_true] at hl
      have hx := of_decide_eq_true hl.1.2
      rw [TL.len_tl] at hx
      rw [Wn, show cnt (.str x) = 1 from rfl]
      simp only [List.length_cons, List.length_append, List.length_nil]
      omega
    | list ds =>
      obtain ⟨_, hoL⟩ := okA_list ho
      rw [cnt] at h ⊢
      rw [Wn, List.length_cons]
      have q := WnL_len ds fun e he => Wn_len n e (by have := cntL_mem he; omega) (hoL e he)
      have : (WnL ds).length ≤ (WnLT ds).length := by
        cases ds with
        | nil => rw [WnL, WnLT]; exact Nat.le_refl _
        | cons d r => rw [WnL, WnLT, List.length_cons, List.length_cons]; omega
      omega
    | dict kvs =>
      obtain ⟨_, hfl, hok⟩ := okA_dict ho
      rw [cnt] at h ⊢
      rw [Wn, List.length_cons]
      have q := WnK_len kvs fun p hp => ⟨hfl p hp, Wn_len n p.2 (by have := cntK_mem hp; omega) (okKm hok p hp)⟩
      have : (WnK kvs).length ≤ (WnKT kvs).length := by
        cases kvs with
        | nil => rw [WnK, WnKT]; exact Nat.le_refl _
        | cons p r => obtain ⟨k, d⟩ := p; rw [WnK, WnKT, List.length_cons, List.length_cons]; omega
      omega
    | none => cases ho
    | bool b => cases ho
    | tuple b => cases ho
/-- a written value is short -/
theorem Wn_short {d : PyData} (h : okA d = true) (hc : cnt d ≤ 60) (hn : nodA d) : (Wn (norm d)).length ≤ 2760 := by
  obtain ⟨h1, h2, h3⟩ := norm_ok _ d (Nat.le_refl _) h hn
  have := Wn_len _ (norm d) (Nat.le_refl _) h1
  omega
theorem join_L : ∀ ds : List PyData, joinL [44, 32] (ds.map Wn) ++ [93] = WnL ds
  | [] => by rw [WnL]; rfl
  | [d] => by rw [WnL, WnLT]; rfl
  | d :: e :: r => by
    have ih := join_L (e :: r)
    rw [WnL] at ih ⊢
    rw [WnLT]
    show Wn d ++ ([44, 32] ++ joinL [44, 32] ((e :: r).map Wn)) ++ [93] = _
    rw [List.append_assoc, List.append_assoc, ih]
    rfl
def WnP (p : PyData × PyData) : List Nat := tl (nm p.1) ++ 58 :: 32 :: Wn p.2
theorem join_K : ∀ ds : List (PyData × PyData), joinL [44, 32] (ds.map WnP) ++ [125] = WnK ds
  | [] => by rw [WnK]; rfl
  | [(k, d)] => by rw [WnK, WnKT]; show tl (nm k) ++ 58 :: 32 :: Wn d ++ [125] = _; simp
  | (k, d) :: (k2, d2) :: r => by
    have ih := join_K ((k2, d2) :: r)
    rw [WnK] at ih ⊢
    rw [WnKT]
    show (tl (nm k) ++ 58 :: 32 :: Wn d) ++ ([44, 32] ++ joinL [44, 32] (((k2, d2) :: r).map WnP)) ++ [125] = _
    rw [List.append_assoc, List.append_assoc, List.append_assoc, ih]
    simp
/-! ### slices of texts by natural numbers -/
theorem cut_mid (z : Str) (i j : Nat) (h : i ≤ j) : cutS z (some (i : Int)) (some (j : Int)) = S (((tl z).drop i).take (j - i)) := by
  unfold cutS
  rw [HT.sIx_nat, HT.sIx_nat, TL.len_tl]
  refine congrArg S ?_
  show ((tl z).drop (min i (tl z).length)).take _ = _
  by_cases hi : i ≤ (tl z).length
  · rw [Nat.min_eq_left hi]
    by_cases hj : j ≤ (tl z).length
    · rw [Nat.min_eq_left hj]
    · rw [Nat.min_eq_right (by omega), List.take_of_length_le (by rw [List.length_drop]; omega), List.take_of_length_le (by rw [List.length_drop]; omega)]
  · rw [Nat.min_eq_right (show (tl z).length ≤ i by omega), List.drop_eq_nil_of_le (Nat.le_refl _), List.drop_eq_nil_of_le (show (tl z).length ≤ i by omega), List.take_nil, List.take_nil]
theorem cut_from (z : Str) (i : Nat) : cutS z (some (i : Int)) none = S ((tl z).drop i) := by
  unfold cutS
  rw [HT.sIx_nat, HT.sIx_none, TL.len_tl]
  refine congrArg S ?_
  show ((tl z).drop (min i (tl z).length)).take _ = _
  by_cases hi : i ≤ (tl z).length
  · rw [Nat.min_eq_left hi, List.take_of_length_le (by rw [List.length_drop]; omega)]
  · rw [Nat.min_eq_right (by omega), List.drop_eq_nil_of_le (Nat.le_refl _), List.drop_eq_nil_of_le (by omega), List.take_nil]
theorem cut_to (z : Str) (j : Nat) : cutS z none (some (j : Int)) = S ((tl z).take j) := by
  unfold cutS
  rw [HT.sIx_nat, HT.sIx_none, TL.len_tl]
  refine congrArg S ?_
  show ((tl z).drop 0).take _ = _
  rw [List.drop_zero, Nat.sub_zero]
  by_cases hj : j ≤ (tl z).length
  · rw [Nat.min_eq_left hj]
  · rw [Nat.min_eq_right (by omega), List.take_of_length_le (Nat.le_refl _), List.take_of_length_le (by omega)]
theorem unt_all {R sg : List Nat} : ∀ c ∈ unt R sg, c ∉ sg := by
  induction R with
  | nil => exact nofun
  | cons a r ih =>
    intro c hc
    unfold unt at hc ih
    by_cases h : a ∈ sg
    · rw [List.takeWhile_cons_of_neg (by rw [decide_eq_true h]; decide)] at hc
      cases hc
    · rw [List.takeWhile_cons_of_pos (by rw [decide_eq_false h]; decide)] at hc
      rcases List.mem_cons.mp hc with rfl | hc
      · exact h
      · exact ih c hc
theorem unt_get {R sg : List Nat} {k : Nat} (h : k < (unt R sg).length) : ∃ c, R[k]? = some c ∧ c ∉ sg := by
  have e := unt_dro R sg
  refine ⟨(unt R sg)[k], ?_, ?_⟩
  · conv => lhs; rw [← e]
    rw [List.getElem?_append_left h, List.getElem?_eq_getElem h]
  · exact unt_all _ (List.getElem_mem h)
theorem unt_end {R sg : List Nat} {c : Nat} (h : R[(unt R sg).length]? = some c) : c ∈ sg := by
  have e := unt_dro R sg
  have h2 : (unt R sg ++ dro R sg)[(unt R sg).length]? = some c := by rw [e]; exact h
  rw [List.getElem?_append_right (Nat.le_refl _), Nat.sub_self] at h2
  refine dro_head (t := R) c ?_
  rw [List.head?_eq_getElem?]
  exact h2
theorem take_unt (R sg : List Nat) : R.take (unt R sg).length = unt R sg := by
  have e : (unt R sg ++ dro R sg).take (unt R sg).length = unt R sg := List.take_left' rfl
  rw [unt_dro] at e
  exact e
theorem drop_unt (R sg : List Nat) : R.drop (unt R sg).length = dro R sg := by
  have e : (unt R sg ++ dro R sg).drop (unt R sg).length = dro R sg := List.drop_left' rfl
  rw [unt_dro] at e
  exact e
/-! ### a heap in which one object changes and a new one stands at D -/
structure Rg (H Hi : Hp) (a D : Addr) (u o : HO) : Prop where
  ex : Ex (upd H a u) (del Hi D)
  hD : Hi D = some o
theorem Rg.ne {H : Hp} {a D : Addr} {u : HO} (hro : H a = some u) (nD : H D = none) : D ≠ a := fun z => by rw [z, hro] at nD; cases nD
theorem Rg.at_ {H Hi : Hp} {a D : Addr} {u o : HO} (h : Rg H Hi a D u o) : Hi a = some u := ex_del _ _ (h.ex _ _ upd_same)
theorem Rg.next {H Hi H4 : Hp} {a D : Addr} {u u' u0 o o' : HO} (h : Rg H Hi a D u o) (hro : H a = some u0) (nD : H D = none) (e : Ex (upd Hi a u') H4) : Rg H (upd H4 D o') a D u' o' ∧ Ex (fr H (del Hi D)) (fr H (del (upd H4 D o') D)) ∧ Ex (fr Hi H4) (fr H (del (upd H4 D o') D)) ∧ H4 D = some o := by
  have ne : D ≠ a := Rg.ne hro nD
  have dm : ∀ b, Hi b = none → H b = none := fun b hb => by
    cases q : H b with
    | none => rfl
    | some x =>
      by_cases eb : b = a
      · have := h.ex a _ upd_same
        rw [eb] at hb
        rw [ex_del _ _ this] at hb
        cases hb
      · have := ex_del _ _ (h.ex b x (by rw [upd_ne eb]; exact q))
        rw [hb] at this
        cases this
  refine ⟨⟨fun b x q => ?_, upd_same⟩, fun b x q => ?_, fun b x q => ?_, ?_⟩
  · rw [del_upd]
    by_cases eb : b = a
    · subst eb
      rw [upd_same] at q
      cases q
      exact del_get (e _ _ upd_same) (fun z => ne z.symm)
    · rw [upd_ne eb] at q
      have q1 := h.ex b x (by rw [upd_ne eb]; exact q)
      have eD : b ≠ D := fun z => by rw [z, del_same] at q1; cases q1
      exact del_get (e b x (by rw [upd_ne eb]; exact ex_del _ _ q1)) eD
  · obtain ⟨n, q⟩ := fr_some q
    have eD : b ≠ D := fun z => by rw [z, del_same] at q; cases q
    have eb : b ≠ a := fun z => by rw [z, hro] at n; cases n
    rw [del_upd]
    exact fr_get n (del_get (e b x (by rw [upd_ne eb]; exact ex_del _ _ q)) eD)
  · obtain ⟨n, q⟩ := fr_some q
    have eD : b ≠ D := fun z => by rw [z, h.hD] at n; cases n
    rw [del_upd]
    exact fr_get (dm b n) (del_get q eD)
  · exact e _ _ (by rw [upd_ne ne]; exact h.hD)
theorem Rg.set {H Hi : Hp} {a D : Addr} {u u' u0 o : HO} (h : Rg H Hi a D u o) (hro : H a = some u0) (nD : H D = none) : Rg H (upd Hi a u') a D u' o ∧ Ex (fr H (del Hi D)) (fr H (del (upd Hi a u') D)) := by
  obtain ⟨h1, h2, h3, h4⟩ := h.next (o' := o) (u' := u') hro nD (Ex.refl _)
  have ne : D ≠ a := Rg.ne hro nD
  have e : upd (upd Hi a u') D o = upd Hi a u' := by
    funext b
    by_cases hb : b = D
    · rw [hb, upd_same, h4]
    · rw [upd_ne hb]
  rw [e] at h1 h2
  exact ⟨h1, h2⟩
theorem Rg.grow {H Hi H4 : Hp} {a D : Addr} {u o : HO} (h : Rg H Hi a D u o) (e : Ex Hi H4) : Rg H H4 a D u o := ⟨h.ex.trans (del_grow' e), e _ _ h.hD⟩
theorem Rg.fin {H Hi : Hp} {a D : Addr} {u o : HO} (h : Rg H Hi a D u o) : Ex (upd H a u) Hi := h.ex.trans ex_del
theorem Rg.new {H : Hp} {a D : Addr} {u o : HO} (hro : H a = some u) (nD : H D = none) : Rg H (upd H D o) a D u o := ⟨by rw [del_none nD, upd_id hro]; exact Ex.refl _, upd_same⟩
end WT

namespace LW
open PySem PySem.Spec L2
/-- f'..' as one word -/
def tJo (ts : List TE) : TE := fun σ H Q => tJs ts Str.empty σ H fun out H1 => Q (.str out) H1
theorem pe_jo {X : Cx} {v1 v2 : Expr} {rest : List Expr} {ts : List TE} {pos : Pos} (h : PJ X (v1 :: v2 :: rest) ts) : PE X (.JoinedStr (v1 :: v2 :: rest) pos) (tJo ts) := pe_joined h
end LW
namespace WT
open PySem PySem.Spec L2 LW VL
open Evl (Ex)
open SX (S S_tl S_inj S_len S_cat)
open TL (tl numL joinL)
theorem sum_len : ∀ ls : List (List Nat), ((ls.map S).map (·.length)).sum = (ls.map List.length).sum
  | [] => rfl
  | x :: r => by rw [List.map_cons, List.map_cons, List.map_cons, List.sum_cons, List.sum_cons, sum_len r, S_len]
theorem join_len : ∀ ls : List (List Nat), (ls.map List.length).sum ≤ (joinL [44, 32] ls).length
  | [] => Nat.le_refl _
  | [x] => by simp [joinL]
  | x :: y :: r => by
    have ih := join_len (y :: r)
    rw [List.map_cons, List.sum_cons]
    show _ ≤ (x ++ ([44, 32] ++ joinL [44, 32] (y :: r))).length
    rw [List.length_append, List.length_append]
    omega
/-- ', '.join(l), the parts told by their signs -/
theorem join_sq {K : PySem.W.Frag} {D : Addr} {H : Hp} {ls : List (List Nat)} (hD : H D = some (.lst (ls.map fun l => V.str (S l)))) : SqL K H D ((ls.map S).map V.str) := by
  rw [List.map_map]
  exact SqLo hD
theorem join_sz {ls : List (List Nat)} (h1 : (joinL [44, 32] ls).length ≤ 10000) (h2 : ls.length ≤ 1000) : ((ls.map S).map (·.length)).sum + (ls.map S).length * (", " : Str).length ≤ 16777216 := by
  rw [sum_len, List.length_map]
  have := join_len ls
  have e : (", " : Str).length = 2 := by decide +kernel
  rw [e]
  omega
theorem join_is (ls : List (List Nat)) : Txt.join (", " : Str) (ls.map S) = S (joinL [44, 32] ls) := SX.join_S [44, 32] ls
theorem cat3 {K : PySem.W.Frag} {H : Hp} {Q : VK} {a c : Str} {l : List Nat} (k : Q (.str (S (tl a ++ (l ++ tl c)))) H) : Q (.str (a ++ S l ++ c)) H := by
  have e : a ++ S l ++ c = S (tl a ++ (l ++ tl c)) := by
    refine TL.ext_tl ?_
    rw [TL.tl_append, TL.tl_append, List.append_assoc]
  rw [e]
  exact k
section
variable {P : Program} {w : World} {K : PySem.W.Frag} {mg : Str → Option Value} {base : Heap} {CI : Addr}
/-! ### written -/
def spWrit (n : Nat) : Sp := fun vs H Q _ => ∃ (v : V) (d : PyData) (H0 : Hp), vs = [v] ∧ Dt H0 d v ∧ Ex H0 H ∧ okA d = true ∧ cnt d ≤ n ∧ cnt d ≤ 60 ∧ nodA d ∧ ∀ H', Ex H H' → Q (.str (S (Wn (norm d)))) H'
theorem sc_written : FnScope ["value", "name", "child"] ["value"] (defScope s_written) := ⟨rfl, rfl, rfl, by decide +kernel, rfl, by decide +kernel, by decide +kernel⟩
theorem bi_written : BindsEq "written" s_written ["value"] := fun _ _ _ _ _ _ us hl => match us, hl with | [_], _ => rfl
theorem ok_writ (F : Df K mg "written" s_written) (T : Txt K mg) (C_children : Cal P w K mg base CX0 1 "children" spKids) : ∀ n, Cal P w K mg base CX0 (n + 2) "written" (spWrit n)
  | 0 => cal_no F sc_written bi_written fun vs H Q E h => by
    obtain ⟨v, d, _, _, _, _, _, hc, _⟩ := h
    have := cnt_pos d
    omega
  | n + 1 => by
    have C_written := ok_writ F T C_children n
    refine cal0 F sc_written bi_written (fun vs H Q E h => ?_) (fun f cdv A outer s H vs Q E hr h => ?_)
    · obtain ⟨v, d, H0, rfl, _⟩ := h
      rfl
    · obtain ⟨v, d, H0, rfl, hd0, x00, ho, hc, hc60, hn, k⟩ := h
      have hd := hd0.ex x00
      refine ⟨_, (pss_cons (ps_if (pt_val (pe_callB (isD K) rfl T.b_isinstance (by decide +kernel) (pa_cons (pv 0) (pa_cons (pe_bltn (v := .ty "dict") rfl T.b_dict (by decide +kernel) rfl) pa_nil)))) (pss_one (ps_ret (pe_op op_add_str (pe_op op_add_str pe_str (pe_join pe_str (pe_lc (own := [("name", 1), ("child", 2)]) (by rfl) sc_written.nd (pil K (pe_k C_children hr (by omega) rfl (pa_cons (pv 0) pa_nil))) (blkOk_by (own := [("name", 1), ("child", 2)]) (N := ["value", "name", "child"]) (sc := defScope s_written) (by decide +kernel)) (fun _ _ _ _ _ => (pgt (n := 2) K rfl (pgs_cons (pg_name (i := 1) sc_written.nd rfl (Or.inl rfl)) (pgs_cons (pg_name (i := 2) sc_written.nd rfl (Or.inl rfl)) pgs_nil)))) (fun _ _ _ _ _ => pts_nil) (fun _ _ _ _ _ => (pe_jo (.cons (pe_fmt (pv 1)) (.cons pe_str (.cons (pe_fmt (pe_k C_written hr (by omega) rfl (pa_cons (pv 2) pa_nil))) .nil)))))))) pe_str))) pss_nil)
 (pss_cons (ps_if (pt_val (pe_callB (isD K) rfl T.b_isinstance (by decide +kernel) (pa_cons (pv 0) (pa_cons (pe_bltn (v := .ty "list") rfl T.b_list (by decide +kernel) rfl) pa_nil)))) (pss_one (ps_ret (pe_op op_add_str (pe_op op_add_str pe_str (pe_join pe_str (pe_lc (own := [("child", 2)]) (by rfl) sc_written.nd (pil K (pv 0)) (blkOk_by (own := [("child", 2)]) (N := ["value", "name", "child"]) (sc := defScope s_written) (by decide +kernel)) (fun _ _ _ _ _ => (pg_name (i := 2) sc_written.nd rfl (Or.inl rfl))) (fun _ _ _ _ _ => pts_nil) (fun _ _ _ _ _ => (pe_k C_written hr (by omega) rfl (pa_cons (pv 2) pa_nil)))))) pe_str))) pss_nil)
 (pss_cons (ps_if (pt_val (pe_callB (isD K) rfl T.b_isinstance (by decide +kernel) (pa_cons (pv 0) (pa_cons (pe_bltn (v := .ty "str") rfl T.b_str (by decide +kernel) rfl) pa_nil)))) (pss_one (ps_ret (pe_op op_add_str (pe_op op_add_str pe_str (pv 0)) pe_str))) pss_nil)
 (pss_one (ps_ret (pe_callTy call_str_int rfl T.b_str (by decide +kernel) (pa_cons (pv 0) pa_nil))))))), ?_⟩
      have hshort := Wn_short ho hc60 hn
      cases d with
      | dict kvs =>
        refine ⟨v, rfl, v, _, _, true, rfl, hd, rfl, _, rfl, if_t rfl ?_⟩
        obtain ⟨h8, hfl, hok⟩ := okA_dict ho
        have hop : okP (.dict kvs) = true := by
          rw [okA_kids, Bool.and_eq_true] at ho
          exact ho.1
        refine ⟨⟨_, rfl⟩, v, rfl, v, _, H0, rfl, hd0, x00, hop, fun q H3 ts cs x3 nq hq hts hcs => ?_⟩
        have hcs := kids_eq hcs
        rw [show kidsOf (.dict kvs) = (srt (names kvs)).map fun y => (V.str y, getN kvs y) from rfl] at hcs
        subst hcs
        have hp := (srt_spec (names kvs)).1
        have hsl : (srt (names kvs)).length = kvs.length := by rw [hp.length_eq]; unfold names; rw [List.length_map]
        have htl : ts.length = kvs.length := by rw [Paired.len hts, List.length_map, hsl]
        have hcc : cnt (.dict kvs) = 1 + cntK kvs := by rw [cnt]
        have hwn : Wn (norm (.dict kvs)) = 123 :: (joinL [44, 32] ((srt (names kvs)).map fun y => WnP (.str y, norm (getN kvs y))) ++ [125]) := by
          rw [norm_dict, Wn, ← join_K, List.map_map]
          rfl
        have hjl : (joinL [44, 32] ((srt (names kvs)).map fun y => WnP (.str y, norm (getN kvs y)))).length ≤ 2760 := by
          rw [hwn, List.length_cons, List.length_append] at hshort
          omega
        refine ⟨q, rfl, ⟨_, SqLo hq⟩, fun D nD => lc_gr (walk_list (K := K) (a := q) (xs := ts)) (fun i acc _ => acc = ((srt (names kvs)).take i).map fun y => V.str (S (WnP (.str y, norm (getN kvs y))))) nD (by omega) rfl (fun H' e => SqLo (e _ _ hq)) ?_ ?_⟩
        · rintro i x acc H4 H5 hi g g' gD gl rfl ⟨rfl, hx1⟩
          obtain ⟨c, hc1, t, u, rfl, ht, hu⟩ := Paired.get hts hx1
          obtain ⟨y, hy, rfl⟩ : ∃ y, (srt (names kvs))[i]? = some y ∧ (V.str y, getN kvs y) = c := by
            rw [List.getElem?_map] at hc1
            cases hp : (srt (names kvs))[i]? with
            | none => rw [hp] at hc1; cases hc1
            | some p => rw [hp] at hc1; exact ⟨p, rfl, Option.some.inj hc1⟩
          have hym : y ∈ names kvs := hp.mem_iff.mp (List.mem_of_getElem? hy)
          obtain ⟨p, hpm, e1, e2⟩ := getN_mem hym
          have hkc := cntK_mem hpm
          have hoy : okA (getN kvs y) = true := by rw [e2]; exact okKm hok p hpm
          have hny : nodA (getN kvs y) := by
            rw [e2]
            unfold nodA at hn
            exact nodAK_mem.mp hn.2 p hpm
          have hcy : cnt (getN kvs y) = cnt p.2 := by rw [e2]
          have hyl : y.length ≤ 8 := by
            have hs := allStr_okA hfl p hpm
            have hf := hfl p hpm
            rw [hs, e1] at hf
            have hf : lets y 1 8 = true := hf
            unfold lets at hf
            rw [Bool.and_eq_true, Bool.and_eq_true] at hf
            exact of_decide_eq_true hf.1.2
          have hws := Wn_short hoy (by omega) hny
          refine ⟨t, _, rfl, .inl (rd_ex g ht), rfl, _, _, rfl, _, _, rfl, rfl, rfl, _, rfl, ?_⟩
          refine .inl ⟨y, rfl, szl (by omega), y, rfl, ?_, _, rfl, ?_, ?_⟩
          · show (Str.empty ++ y).length ≤ _
            exact szl (by rw [TL.len_tl, TL.tl_append, List.length_append, ← TL.len_tl y]; show 0 + _ ≤ _; omega)
          · exact szl (by rw [TL.len_tl, TL.tl_append, TL.tl_append, List.length_append, List.length_append, ← TL.len_tl y]; show 0 + _ + 2 ≤ _; omega)
          · refine ⟨_, rfl, u, getN kvs y, H0, rfl, hu, x00.trans (x3.trans g), hoy, by omega, by omega, hny, fun H6 x6 => .inl ⟨_, rfl, szl (by rw [S_len]; omega), _, rfl, ?_, lc_put g' gD gl (by omega) x6 ?_⟩⟩
            · exact szl (by rw [TL.len_tl, TL.tl_append, TL.tl_append, TL.tl_append, List.length_append, List.length_append, List.length_append, ← TL.len_tl y]; show 0 + _ + 2 + (Wn (norm (getN kvs y))).length ≤ _; omega)
            · rw [List.take_add_one, List.map_append, hy]
              have e : Str.empty ++ y ++ ": " ++ S (Wn (norm (getN kvs y))) = S (WnP (.str y, norm (getN kvs y))) := by
                refine TL.ext_tl ?_
                rw [TL.tl_append, TL.tl_append, TL.tl_append]
                show [] ++ tl y ++ [58, 32] ++ Wn (norm (getN kvs y)) = tl y ++ 58 :: 32 :: Wn (norm (getN kvs y))
                simp
              rw [e]
              rfl
        · rintro acc H4 g g' gD gl rfl
          rw [List.take_of_length_le (by omega)] at gD
          have j1 := join_sq (K := K) (D := D) (H := H4) (ls := (srt (names kvs)).map fun y => WnP (.str y, norm (getN kvs y))) (by rw [List.map_map]; exact gD)
          have j2 := join_sz (ls := (srt (names kvs)).map fun y => WnP (.str y, norm (getN kvs y))) (by omega) (by rw [List.length_map]; omega)
          refine ⟨", ", D, _, rfl, rfl, .inl j1, j2, ?_⟩
          rw [join_is]
          refine ⟨_, _, rfl, rfl, szl (by rw [S_len (joinL _ _)]; show 1 + _ ≤ _; omega), _, _, rfl, rfl, szl (by rw [TL.len_tl, TL.tl_append, List.length_append]; show 1 + (joinL [44, 32] ((srt (names kvs)).map fun y => WnP (.str y, norm (getN kvs y)))).length + 1 ≤ _; omega), ?_⟩
          refine cat3 (K := K) ?_
          have qk := k H4 (x3.trans g)
          rw [hwn] at qk
          exact qk
      | list ds =>
        refine ⟨v, rfl, v, _, _, false, rfl, hd, rfl, _, rfl, if_f rfl ?_⟩
        refine ⟨v, rfl, v, _, _, true, rfl, hd, rfl, _, rfl, if_t rfl ?_⟩
        obtain ⟨h60, hoL⟩ := okA_list ho
        have hcc : cnt (.list ds) = 1 + cntL ds := by rw [cnt]
        have hd2 := hd0
        unfold Dt at hd2
        obtain ⟨a, vs, rfl, ha, hl⟩ := hd2
        have hlen := hl.len
        have hwn : Wn (norm (.list ds)) = 91 :: (joinL [44, 32] (ds.map fun e => Wn (norm e)) ++ [93]) := by
          rw [norm_list, Wn, ← join_L, List.map_map]
          rfl
        have hjl : (joinL [44, 32] (ds.map fun e => Wn (norm e))).length ≤ 2760 := by
          rw [hwn, List.length_cons, List.length_append] at hshort
          omega
        refine ⟨⟨_, rfl⟩, _, rfl, a, rfl, ⟨_, .inl (rd_ex x00 ha)⟩, fun D nD => lc_gr (walk_list (K := K) (a := a) (xs := vs)) (fun i acc _ => acc = (ds.take i).map fun e => V.str (S (Wn (norm e)))) nD (by omega) rfl (fun H' e => .inl (rd_ex (x00.trans e) ha)) ?_ ?_⟩
        · rintro i x acc H4 H5 hi g g' gD gl rfl ⟨rfl, hx1⟩
          obtain ⟨e, he1, he2⟩ := hl.get hx1
          have hem : e ∈ ds := List.mem_of_getElem? he1
          have hec := cntL_mem hem
          have hne : nodA e := by
            unfold nodA at hn
            exact nodAL_mem.mp hn e hem
          refine ⟨rfl, _, rfl, x, e, H0, rfl, he2, x00.trans g, hoL e hem, by omega, by omega, hne, fun H6 x6 => lc_put g' gD gl (by omega) x6 ?_⟩
          rw [List.take_add_one, List.map_append, he1]
          rfl
        · rintro acc H4 g g' gD gl rfl
          rw [List.take_of_length_le (by omega)] at gD
          have j1 := join_sq (K := K) (D := D) (H := H4) (ls := ds.map fun e => Wn (norm e)) (by rw [List.map_map]; exact gD)
          have j2 := join_sz (ls := ds.map fun e => Wn (norm e)) (by omega) (by rw [List.length_map]; omega)
          refine ⟨", ", D, _, rfl, rfl, .inl j1, j2, ?_⟩
          rw [join_is]
          refine ⟨_, _, rfl, rfl, szl (by rw [S_len (joinL _ _)]; show 1 + _ ≤ _; omega), _, _, rfl, rfl, szl (by rw [TL.len_tl, TL.tl_append, List.length_append]; show 1 + (joinL [44, 32] (ds.map fun e => Wn (norm e))).length + 1 ≤ _; omega), ?_⟩
          refine cat3 (K := K) ?_
          have qk := k H4 g
          rw [hwn] at qk
          exact qk
      | str x =>
        refine ⟨v, rfl, v, _, _, false, rfl, hd, rfl, _, rfl, if_f rfl ?_⟩
        refine ⟨v, rfl, v, _, _, false, rfl, hd, rfl, _, rfl, if_f rfl ?_⟩
        refine ⟨v, rfl, v, _, _, true, rfl, hd, rfl, _, rfl, if_t rfl ?_⟩
        unfold Dt at hd
        subst hd
        have hx : (tl x).length ≤ 2758 := by
          rw [norm_str, Wn, List.length_cons, List.length_append] at hshort
          show (tl x).length ≤ _
          have : ([34] : List Nat).length = 1 := rfl
          omega
        refine ⟨_, rfl, _, _, rfl, rfl, szl (by rw [TL.len_tl x]; show 1 + _ ≤ _; omega), _, _, rfl, rfl, szl (by rw [TL.len_tl, TL.tl_append, List.length_append]; show 1 + (tl x).length + 1 ≤ _; omega), ?_⟩
        have qk := k H (Ex.refl _)
        rw [norm_str, Wn] at qk
        have e : ("\"" : Str) ++ x ++ ("\"" : Str) = S (34 :: (tl x ++ [34])) := by
          refine TL.ext_tl ?_
          rw [TL.tl_append, TL.tl_append]
          show [34] ++ tl x ++ [34] = _
          simp
        rw [e]
        exact qk
      | int i =>
        refine ⟨v, rfl, v, _, _, false, rfl, hd, rfl, _, rfl, if_f rfl ?_⟩
        refine ⟨v, rfl, v, _, _, false, rfl, hd, rfl, _, rfl, if_f rfl ?_⟩
        refine ⟨v, rfl, v, _, _, false, rfl, hd, rfl, _, rfl, if_f rfl ?_⟩
        unfold Dt at hd
        subst hd
        obtain ⟨h1, h2⟩ := okA_int ho
        refine ⟨_, rfl, _, rfl, ?_, ?_⟩
        · by_cases h0 : i.natAbs = 0
          · rw [h0]; decide
          · have : i.natAbs.log2 < 104 := (Nat.log2_lt h0).mpr (Nat.lt_trans (show i.natAbs < 10 ^ 30 by unfold big at h1 h2; omega) (by decide))
            omega
        · rw [num_str]
          have qk := k H (Ex.refl _)
          rw [norm_int, Wn] at qk
          exact qk
      | none => cases ho
      | bool b => cases ho
      | tuple b => cases ho
/-! ### shown_value -/
def spShown (CI : Addr) : Sp := fun vs H Q E => ∃ (v : V) (d : PyData), vs = [v] ∧ Dt H d v ∧ szA d ∧ (isV d = true → ∀ H', Ex H H' → Q (.str (S (Wn (norm d)))) H') ∧
  (isV d = false → ∀ dd H', Ex H H' → H' dd = some (.xd [("value", v)]) → E (.ref CI) (some dd) H')
theorem sc_shown_value : FnScope ["value"] ["value"] (defScope s_shown_value) := ⟨rfl, rfl, rfl, by decide +kernel, rfl, by decide +kernel, by decide +kernel⟩
theorem bi_shown_value : BindsEq "shown_value" s_shown_value ["value"] := fun _ _ _ _ _ _ us hl => match us, hl with | [_], _ => rfl
theorem ok_shown (F : Df K mg "shown_value" s_shown_value) (T : Txt K mg) (C_check_value : Cal P w K mg base (L2.CX P w) 5 "check_value" (spCheckV CI)) (C_written : Cal P w K mg base CX0 62 "written" (spWrit 60)) : Cal P w K mg base (L2.CX P w) 63 "shown_value" (spShown CI) := by
  refine calX F sc_shown_value bi_shown_value (fun vs H Q E h => ?_) (fun f cdv A outer s H vs Q E hr h => ?_)
  · obtain ⟨v, d, rfl, _⟩ := h
    rfl
  · obtain ⟨v, d, rfl, hd, hz, k1, k2⟩ := h
    refine ⟨_, (pss_cons (ps_expr (pe_kP C_check_value hr (by decide) (passes_call (takes_of rfl rfl rfl rfl) (fun _ _ _ _ h => h)) rfl (pa_cons (pv 0) pa_nil)))
 (pss_one (ps_ret (pe_k C_written hr (by decide) rfl (pa_cons (pv 0) pa_nil))))), ?_⟩
    refine ⟨_, rfl, v, d, rfl, hd, hz, fun hv H1 e1 => ?_, k2⟩
    obtain ⟨h1, h2⟩ := isV_ok hv
    exact ⟨_, rfl, v, d, H, rfl, hd, e1, h1, h2, h2, dt_nod _ d v (Nat.le_refl _) h1 hd, fun H2 e2 => k1 hv H2 (e1.trans e2)⟩
end
end WT

namespace LW
open PySem PySem.Spec L2
section
variable {X : Cx} {k j : Nat} {C : Addr} {m : Str} {sp : Sp} {o e : Expr} {to : TE} {apos pos : Pos} {pl : Sem Bool}
theorem pe_m0 (c : Mt X.prog X.w X.K X.mg X.base CX0 k C m sp) (hr : Room j X.A) (hk : k ≤ j) (he : PE X o to)
    (ht : eval (.Call (.Attribute o m apos) [] [] pos) X.env = (do
      let ov ← eval o X.env
      standAt apos.atName
      let (f, first) ← holding [ov] (getMethod ov m pl)
      callWith pos f first (backTo pos (starEach [] X.env)) (backToKw pos (keywordEach [] X.env))) := by rfl) : PE X (.Call (.Attribute o m apos) [] [] pos) (tMeth C m sp [] E0 to tNil) := by
  obtain ⟨g, fd, ps, cl, hm, F, b⟩ := c.ex
  exact pe_meth0 (pl := pl) he cl hm F (hr.mono hk) b .nil pass0 ht
end
section
variable {P : Program} {w : World} {K : PySem.W.Frag} {mg : Str → Option Value} {base : Heap} {C : Addr} {m qual : Str} {st : Stmt} {N ps : List Str} {k : Nat} {sp : Sp}
/-- a method of which nothing is asked -/
theorem mt_no (c : Cls K C) (F : Dm_ K C m qual st) (S : FnScope N ps (defScope st)) (hb : BindsM m qual st ps) (no : ∀ vs H Q E, sp vs H Q E → False) : Mt P w K mg base CX0 (k + 1) C m sp :=
  mt0 c F S hb (fun vs H Q E h => (no vs H Q E h).elim) (fun f cdv A outer s H vs Q E hr h => (no vs H Q E h).elim)
end
end LW
namespace WT
open PySem PySem.Spec L2 LW VL
open Evl (Ex)
open SX (S S_tl S_inj S_len S_cat)
open TL (tl numL joinL)
/-! ### the reader of texts -/
def rfs (x : Str) (s m : Nat) : List (Str × V) := [("text", .str x), ("spot", .int (s : Int)), ("many", .int (m : Int))]
theorem rfs_text {x : Str} {s m : Nat} : List.lookup ("text" : Str) (rfs x s m) = some (.str x) := rfl
theorem rfs_spot {x : Str} {s m : Nat} : List.lookup ("spot" : Str) (rfs x s m) = some (.int (s : Int)) := rfl
theorem rfs_many {x : Str} {s m : Nat} : List.lookup ("many" : Str) (rfs x s m) = some (.int (m : Int)) := rfl
theorem rfs_takes {x : Str} {s m : Nat} : List.lookup ("takes" : Str) (rfs x s m) = none := rfl
theorem rfs_until {x : Str} {s m : Nat} : List.lookup ("until" : Str) (rfs x s m) = none := rfl
theorem rfs_next {x : Str} {s m : Nat} : List.lookup ("next_value" : Str) (rfs x s m) = none := rfl
theorem rfs_list {x : Str} {s m : Nat} : List.lookup ("list_items" : Str) (rfs x s m) = none := rfl
theorem rfs_rec {x : Str} {s m : Nat} : List.lookup ("record_fields" : Str) (rfs x s m) = none := rfl
theorem put_spot {x : Str} {s m k : Nat} {i : Int} (h : i = ((k : Nat) : Int)) : putF "spot" (.int i) (rfs x s m) = rfs x k m := by
  subst h
  rfl
theorem put_many {x : Str} {s m k : Nat} {i : Int} (h : i = ((k : Nat) : Int)) : putF "many" (.int i) (rfs x s m) = rfs x s k := by
  subst h
  rfl
def rdO (C dx : Addr) (x : Str) (s m : Nat) : HO := .ins C dx (rfs x s m)
structure TxR (K : PySem.W.Frag) (C : Addr) : Prop where
  cl : Cls K C
  nT : NoAttr K C "text"
  nS : NoAttr K C "spot"
  nM : NoAttr K C "many"
section
variable {P : Program} {w : World} {K : PySem.W.Frag} {mg : Str → Option Value} {base : Heap} {C : Addr}
def spTakes (C : Addr) : Sp := fun vs H Q _ => ∃ (a dx : Addr) (x p : Str) (s m : Nat), vs = [.ref a, .str p] ∧ H a = some (rdO C dx x s m) ∧ x.length ≤ 10000 ∧ s ≤ x.length ∧ p.length ≤ 10 ∧
  (tk ((tl x).drop s) (tl p) = false → Q (.bl false) H) ∧ (tk ((tl x).drop s) (tl p) = true → s + p.length ≤ x.length → Q (.bl true) (upd H a (rdO C dx x (s + p.length) m)))
theorem sc_Reader_takes : FnScope ["self", "sign"] ["self", "sign"] (defScope s_Reader_takes) := ⟨rfl, rfl, rfl, by decide +kernel, rfl, by decide +kernel, by decide +kernel⟩
theorem bi_Reader_takes : BindsM "takes" "Reader.takes" s_Reader_takes ["self", "sign"] := fun _ _ _ _ _ _ us hl => match us, hl with | [_, _], _ => rfl
theorem ok_takes (F : Dm_ K C "takes" "Reader.takes" s_Reader_takes) (T : Txt K mg) (L : TxR K C) : Mt P w K mg base CX0 1 C "takes" (spTakes C) := by
  refine mt0 L.cl F sc_Reader_takes bi_Reader_takes (fun vs H Q E h => ?_) (fun f cdv A outer s H vs Q E hr h => ?_)
  · obtain ⟨a, dx, x, p, s, m, rfl, _⟩ := h
    rfl
  · obtain ⟨a, dx, x, p, s, m, rfl, ha, hx, hs, hp, k1, k2⟩ := h
    refine ⟨_, (pss_cons (ps_if (pt_cmpR op_ne (pe_slice sl_str (pfl K (pv 0) rfl) (po_some (pfl K (pv 0) rfl)) (po_some (pe_op op_add (pfl K (pv 0) rfl) (pe_callB (lnK K) rfl T.b_len (by decide +kernel) (pa_cons (pv 1) pa_nil))))) (pv 1) (nomark _)) (pss_one (ps_ret pe_bl)) pss_nil)
 (pss_cons (ps_fldaug (pv 0) (pe_callB (lnK K) rfl T.b_len (by decide +kernel) (pa_cons (pv 1) pa_nil)) in_add)
 (pss_one (ps_ret pe_bl)))), ?_⟩
    refine ⟨_, rfl, a, C, dx, _, _, rfl, ha, L.cl, L.nT, rfs_text, ?_⟩
    refine ⟨_, rfl, a, C, dx, _, _, rfl, ha, L.cl, L.nS, rfs_spot, _, rfl, ?_⟩
    refine ⟨_, rfl, a, C, dx, _, _, rfl, ha, L.cl, L.nS, rfs_spot, _, rfl, .str p, p.length, rfl, ⟨szl (by omega), rfl⟩, _, _, rfl, rfl, _, rfl, _, rfl, szl (by omega), ?_⟩
    have e : cutS x (some (s : Int)) (some ((s : Int) + (p.length : Int))) = S (((tl x).drop s).take (tl p).length) := by
      rw [show (s : Int) + (p.length : Int) = ((s + p.length : Nat) : Int) by omega, cut_mid x s (s + p.length) (by omega), show s + p.length - s = p.length by omega, ← TL.len_tl p]
    rw [e]
    have et : (S (((tl x).drop s).take (tl p).length) = p) ↔ tk ((tl x).drop s) (tl p) = true := by
      unfold tk
      rw [decide_eq_true_eq]
      constructor
      · intro h
        exact congrArg tl h
      · intro h
        rw [h, S_tl]
    refine ⟨_, rfl, rfl, _, rfl, if_b (fun h => ?_) (fun h => ?_)⟩
    · refine k1 ?_
      have h : ¬ V.str (S (((tl x).drop s).take (tl p).length)) = V.str p := by
        have q := h
        simpa using q
      cases q : tk ((tl x).drop s) (tl p) with
      | false => rfl
      | true => exact (h (by rw [et.mpr q])).elim
    · have h : V.str (S (((tl x).drop s).take (tl p).length)) = V.str p := by
        have q := h
        simpa using q
      have ht : tk ((tl x).drop s) (tl p) = true := et.mp (V.str.inj h)
      have hle : s + p.length ≤ x.length := by
        have q := congrArg List.length (of_decide_eq_true ht)
        rw [List.length_take, List.length_drop, ← TL.len_tl, ← TL.len_tl] at q
        have : p.length ≤ x.length - s := by
          have := Nat.min_le_right p.length (x.length - s)
          omega
        omega
      refine ⟨_, rfl, a, C, dx, _, _, rfl, ha, L.cl, L.nS, rfs_spot, _, rfl, .str p, p.length, rfl, ⟨szl (by omega), rfl⟩, _, _, rfl, rfl, dx, rfs x s m, ha, by show 3 < 1000; decide, ?_⟩
      rw [put_spot (k := s + p.length) (by omega)]
      exact k2 ht hle
def spUntil (C : Addr) : Sp := fun vs H Q _ => ∃ (a dx : Addr) (x p : Str) (s m : Nat), vs = [.ref a, .str p] ∧ H a = some (rdO C dx x s m) ∧ x.length ≤ 10000 ∧ s ≤ x.length ∧
  Q (.str (S (unt ((tl x).drop s) (tl p)))) (upd H a (rdO C dx x (s + (unt ((tl x).drop s) (tl p)).length) m))
theorem sc_Reader_until : FnScope ["self", "signs", "first"] ["self", "signs"] (defScope s_Reader_until) := ⟨rfl, rfl, rfl, by decide +kernel, rfl, by decide +kernel, by decide +kernel⟩
theorem bi_Reader_until : BindsM "until" "Reader.until" s_Reader_until ["self", "signs"] := fun _ _ _ _ _ _ us hl => match us, hl with | [_, _], _ => rfl
theorem ok_until (F : Dm_ K C "until" "Reader.until" s_Reader_until) (T : Txt K mg) (L : TxR K C) : Mt P w K mg base CX0 1 C "until" (spUntil C) := by
  refine mt0 L.cl F sc_Reader_until bi_Reader_until (fun vs H Q E h => ?_) (fun f cdv A outer s H vs Q E hr h => ?_)
  · obtain ⟨a, dx, x, p, s, m, rfl, _⟩ := h
    rfl
  · obtain ⟨a, dx, x, p, s, m, rfl, ha, hx, hs, k⟩ := h
    refine ⟨_, (pss_cons (ps_set (i := 2) sc_Reader_until.nd rfl (Or.inl rfl) (pfl K (pv 0) rfl))
 (pss_cons (ps_while PassesOwn.never (PW.pt (pw_and (pt_cmpR op_lt (pfl K (pv 0) rfl) (pe_callB (lnK K) rfl T.b_len (by decide +kernel) (pa_cons (pfl K (pv 0) rfl) pa_nil)) (nomark _)) (pw_and1 (pt_cmpR op_notIn_sign (pe_ix ix_str (pfl K (pv 0) rfl) (pfl K (pv 0) rfl) (fun _ _ => rfl)) (pv 1) (by rfl))))) (pss_one (ps_fldaug (pv 0) pe_int in_add)))
 (pss_one (ps_ret (pe_slice sl_str (pfl K (pv 0) rfl) (po_some (pv 2)) (po_some (pfl K (pv 0) rfl))))))), ?_⟩
    generalize hR : (tl x).drop s = R at k
    have hul := unt_len R (tl p)
    have hRl : R.length = x.length - s := by rw [← hR, List.length_drop, ← TL.len_tl]
    refine ⟨_, rfl, a, C, dx, _, _, rfl, ha, L.cl, L.nS, rfs_spot, ?_⟩
    refine ⟨fun n σ' H' => ∃ j, n = R.length - j ∧ j ≤ (unt R (tl p)).length ∧ σ' = [some (.ref a), some (.str p), some (.int (s : Int))] ∧ H' = upd H a (rdO C dx x (s + j) m), ⟨_, 0, rfl, Nat.zero_le _, rfl, ?_⟩, ?_⟩
    · rw [Nat.add_zero]
      exact (upd_id ha).symm
    · rintro n σ' H' ⟨j, rfl, hj, rfl, rfl⟩
      have hb : (upd H a (rdO C dx x (s + j) m)) a = some (rdO C dx x (s + j) m) := upd_same
      have hat : ∀ c, R[j]? = some c → atI (tl x) ((s + j : Nat) : Int) = some c := fun c hc => by
        refine atI_nat ?_
        rw [← hR, List.getElem?_drop] at hc
        exact hc
      refine ⟨_, rfl, a, C, dx, _, _, rfl, hb, L.cl, L.nS, rfs_spot, _, rfl, a, C, dx, _, _, rfl, hb, L.cl, L.nT, rfs_text, .str x, x.length, rfl, ⟨szl (by omega), rfl⟩, _, _, rfl, rfl, _, rfl, if_b (fun h1 => ?_) (fun h1 => ?_)⟩
      · have h1 : s + j < x.length := by
          have := of_decide_eq_true h1
          omega
        obtain ⟨c, hc⟩ : ∃ c, R[j]? = some c := ⟨_, List.getElem?_eq_getElem (by omega)⟩
        refine ⟨_, rfl, a, C, dx, _, _, rfl, hb, L.cl, L.nT, rfs_text, _, rfl, a, C, dx, _, _, rfl, hb, L.cl, L.nS, rfs_spot, x, _, c, rfl, rfl, szl (by omega), hat c hc, _, rfl, c, p, rfl, rfl, _, rfl, if_b (fun h2 => ?_) (fun h2 => ?_)⟩
        · have h2 : c ∉ tl p := by simpa using h2
          have hlt : j < (unt R (tl p)).length := by
            rcases Nat.lt_or_ge j (unt R (tl p)).length with q | q
            · exact q
            · have e : j = (unt R (tl p)).length := by omega
              rw [e] at hc
              exact (h2 (unt_end hc)).elim
          refine ⟨fun σ' H' => σ' = [some (.ref a), some (.str p), some (.int (s : Int))] ∧ H' = upd H a (rdO C dx x (s + (j + 1)) m), fun σ' H' q => ⟨R.length - (j + 1), by omega, j + 1, rfl, by omega, q.1, q.2⟩, ?_⟩
          refine ⟨_, rfl, a, C, dx, _, _, rfl, hb, L.cl, L.nS, rfs_spot, _, _, rfl, rfl, dx, rfs x (s + j) m, hb, by show 3 < 1000; decide, rfl, ?_⟩
          rw [put_spot (k := s + (j + 1)) (by omega), upd_upd]
          rfl
        · have h2 : c ∈ tl p := by simpa using h2
          have e : j = (unt R (tl p)).length := by
            rcases Nat.lt_or_ge j (unt R (tl p)).length with q | q
            · obtain ⟨c', hc', hn⟩ := unt_get q
              rw [hc] at hc'
              cases hc'
              exact (hn h2).elim
            · omega
          refine ⟨_, rfl, a, C, dx, _, _, rfl, hb, L.cl, L.nT, rfs_text, _, rfl, _, rfl, _, rfl, a, C, dx, _, _, rfl, hb, L.cl, L.nS, rfs_spot, _, rfl, x, rfl, szl (by omega), ?_⟩
          rw [cut_mid x s (s + j) (by omega), show s + j - s = j by omega, hR, e, take_unt]
          exact k
      · have e : j = (unt R (tl p)).length := by
          have := of_decide_eq_false h1
          omega
        refine ⟨_, rfl, a, C, dx, _, _, rfl, hb, L.cl, L.nT, rfs_text, _, rfl, _, rfl, _, rfl, a, C, dx, _, _, rfl, hb, L.cl, L.nS, rfs_spot, _, rfl, x, rfl, szl (by omega), ?_⟩
        rw [cut_mid x s (s + j) (by omega), show s + j - s = j by omega, hR, e, take_unt]
        exact k
end
end WT

namespace LW
open PySem PySem.Spec L2
/-- a while loop: W ahead of the test, B ahead of the body, Y behind the loop -/
theorem while_cps {c : TT} {tb : TS} {D : Ends} {σ : L2.St} {H : Hp} (W B Y : Nat → L2.St → Hp → Prop) (h0 : ∃ m, W m σ H)
    (hc : ∀ m σ H (Q : Bool → Hp → Prop), W m σ H → (∀ H1, B m σ H1 → Q true H1) → (∀ H1, Y m σ H1 → Q false H1) → c σ H Q)
    (hb : ∀ m σ H, B m σ H → tb { D with nx := fun σ' H' => ∃ m', m' < m ∧ W m' σ' H', ct := fun σ' H' => ∃ m', m' < m ∧ W m' σ' H', bk := D.nx } σ H)
    (hx : ∀ m σ H, Y m σ H → D.nx σ H) : tWhile c tb D σ H := by
  refine ⟨W, h0, fun m σ H w => hc m σ H _ w (fun H1 b => ?_) (fun H1 y => ?_)⟩
  · rw [if_pos rfl]
    exact ⟨fun σ' H' => ∃ m', m' < m ∧ W m' σ' H', fun _ _ q => q, hb m σ H1 b⟩
  · rw [if_neg Bool.false_ne_true]
    exact hx m σ H1 y
end LW
namespace WT
open PySem PySem.Spec L2 LW VL
open Evl (Ex)
open SX (S S_tl S_inj S_len S_cat)
open TL (tl numL joinL)
theorem dr_dr (l : List Nat) (s k : Nat) : l.drop (s + k) = (l.drop s).drop k := by rw [List.drop_drop]
theorem digit_mem (c : Nat) : decide (c ∈ ("0123456789" : Str).cps.toList) = (decide (48 ≤ c) && decide (c ≤ 57)) := by
  have e : ("0123456789" : Str).cps.toList = (List.range 10).map (· + 48) := by decide +kernel
  rw [e]
  by_cases h : 48 ≤ c ∧ c ≤ 57
  · rw [decide_eq_true h.1, decide_eq_true h.2]
    exact decide_eq_true (List.mem_map.mpr ⟨c - 48, List.mem_range.mpr (by omega), by omega⟩)
  · have : ¬ c ∈ (List.range 10).map (· + 48) := fun hm => by
      obtain ⟨a, h1, h2⟩ := List.mem_map.mp hm
      have := List.mem_range.mp h1
      omega
    rw [decide_eq_false this]
    by_cases h1 : 48 ≤ c
    · rw [decide_eq_true h1, decide_eq_false (by omega)]
      rfl
    · rw [decide_eq_false h1]
      rfl
theorem rm_minus (w : List Nat) : Txt.removeprefix (S w) ("-" : Str) = S (plainN w) := by
  have e1 : ("-" : Str).length = 1 := by decide +kernel
  have e2 : ("-" : Str).cps.toList = [45] := by decide +kernel
  rw [StrLaws.removeprefix_eq, StrLaws.subAt_eq, e1, e2, S_len]
  show (if (decide (0 + 1 ≤ w.length) && ((w.drop 0).take 1 == [45])) = true then S ((w.drop 1).take (w.length - 1)) else S w) = _
  rw [List.drop_zero]
  unfold plainN
  by_cases h : w.take 1 = [45]
  · have h1 : 1 ≤ w.length := by
      cases w with
      | nil => cases h
      | cons a r => simp
    rw [if_pos h, h, decide_eq_true (by omega)]
    show (if (true && ([45] == [45])) = true then _ else _) = _
    rw [if_pos (by decide), List.take_of_length_le (by rw [List.length_drop]; omega)]
  · rw [if_neg h, if_neg]
    intro q
    rw [Bool.and_eq_true] at q
    exact h (eq_of_beq q.2)
theorem int_read {w : List Nat} (h : isNum w = true) : intText? (S w) = some (valN w) ∧ (S w).length ≤ 640 := by
  unfold isNum at h
  rw [Bool.and_eq_true, Bool.and_eq_true] at h
  have h1 := of_decide_eq_true h.1.1
  have h2 := of_decide_eq_true h.1.2
  have hd := digs_all h.2
  unfold valN
  by_cases hm : w.take 1 = [45]
  · have ep : plainN w = w.drop 1 := by unfold plainN; rw [if_pos hm]
    rw [ep] at h1 h2 hd
    have ew : w = 45 :: w.drop 1 := by
      cases w with
      | nil => cases hm
      | cons a r =>
        have : a = 45 := by simpa using hm
        subst this
        rfl
    have hl : w.length ≤ 31 := by
      rw [List.length_drop] at h2
      omega
    rw [if_pos hm]
    refine ⟨intText_neg (x := S w) (cs := w.drop 1) ew hd (fun e => ?_) (by rw [S_len]; omega), by rw [S_len]; omega⟩
    rw [e] at h1
    exact absurd h1 (by decide)
  · have ep : plainN w = w := by unfold plainN; rw [if_neg hm]
    rw [ep] at h1 h2 hd
    rw [if_neg hm]
    refine ⟨intText_digits (x := S w) hd (fun e => ?_) (by rw [S_len]; omega), by rw [S_len]; omega⟩
    have e : w = [] := e
    rw [e] at h1
    exact absurd h1 (by decide)
/-- what is wanted behind a reading, told by its result -/
def NvQ (C dx a : Addr) (x : Str) (H : Hp) (Q : VK) : Res → Prop
  | none => ∀ s m H', Ex (upd H a (rdO C dx x s m)) H' → Q .non H'
  | some (d, t, m) => ∀ v s H', s ≤ x.length → (tl x).drop s = t → Ex (upd H a (rdO C dx x s m)) H' → Dt (fr H H') d v → Q v H'
theorem NvQ.up {C dx a : Addr} {x : Str} {H : Hp} {Q : VK} {o : HO} : ∀ {r : Res}, NvQ C dx a x H Q r → NvQ C dx a x (upd H a o) Q r
  | none, h => fun s m H' e => h s m H' (by rw [upd_upd] at e; exact e)
  | some (d, t, m), h => fun v s H' h1 h2 e hd => h v s H' h1 h2 (by rw [upd_upd] at e; exact e) (hd.ex (fr_base (dm_upd (Dm.refl H))))
def listR (n : Nat) (t : List Nat) (m : Nat) : Res := if tk t [93] then some (.list [], t.drop 1, m) else itemL (nvF n) 61 [] t m
def recR (n : Nat) (t : List Nat) (m : Nat) : Res := if tk t [125] then some (.dict [], t.drop 1, m) else itemK (nvF n) 61 [] t m
def spRd (C : Addr) (r : List Nat → Nat → Res) (n : Nat) : Sp := fun vs H Q _ => ∃ (a dx : Addr) (x : Str) (s m : Nat), vs = [.ref a] ∧ H a = some (rdO C dx x s m) ∧ x.length ≤ 10000 ∧ s ≤ x.length ∧ m ≤ 60 ∧ 61 ≤ n + m ∧ NvQ C dx a x H Q (r ((tl x).drop s) m)
section
variable {P : Program} {w : World} {K : PySem.W.Frag} {mg : Str → Option Value} {base : Heap} {C : Addr}
/-! ### list_items -/
def tailL (nv : List Nat → Nat → Res) (f : Nat) (ds : List PyData) (t : List Nat) (m : Nat) : Res := if tk t [44, 32] then itemL nv f ds (t.drop 2) m else if tk t [93] then some (.list ds, t.drop 1, m) else none
theorem itemL_none {nv : List Nat → Nat → Res} {f : Nat} {ds : List PyData} {t : List Nat} {m : Nat} (h : nv t m = none) : itemL nv (f + 1) ds t m = none := by
  unfold itemL
  rw [h]
theorem itemL_some {nv : List Nat → Nat → Res} {f : Nat} {ds : List PyData} {t t' : List Nat} {m m' : Nat} {d : PyData} (h : nv t m = some (d, t', m')) : itemL nv (f + 1) ds t m = tailL nv f (ds ++ [d]) t' m' := by
  conv => lhs; unfold itemL
  rw [h]
  rfl
/-- the state of the loop -/
structure LsW (C dx a D : Addr) (x : Str) (H : Hp) (n k : Nat) (σ : L2.St) (Hi : Hp) (ds : List PyData) (f s m : Nat) (vs : List V) : Prop where
  km : k = 61 - m
  st : ∃ o2, σ = [some (.ref a), some (.ref D), o2]
  rg : Rg H Hi a D (rdO C dx x s m) (.lst vs)
  dt : DtL (fr H (del Hi D)) ds vs
  sx : s ≤ x.length
  m60 : m ≤ 60
  nm : 61 ≤ n + m
  fm : 61 ≤ f + m
  lm : ds.length ≤ m
theorem sc_Reader_list_items : FnScope ["self", "found", "item"] ["self"] (defScope s_Reader_list_items) := ⟨rfl, rfl, rfl, by decide +kernel, rfl, by decide +kernel, by decide +kernel⟩
theorem bi_Reader_list_items : BindsM "list_items" "Reader.list_items" s_Reader_list_items ["self"] := fun _ _ _ _ _ _ us hl => match us, hl with | [_], _ => rfl
theorem ok_listI (F : Dm_ K C "list_items" "Reader.list_items" s_Reader_list_items) (T : Txt K mg) (L : TxR K C) (n : Nat) (M_takes : Mt P w K mg base CX0 1 C "takes" (spTakes C)) (M_next_value : Mt P w K mg base CX0 (2 * n + 3) C "next_value" (spRd C (nvF n) n)) :
    Mt P w K mg base CX0 (2 * n + 4) C "list_items" (spRd C (listR n) n) := by
  refine mt0 L.cl F sc_Reader_list_items bi_Reader_list_items (fun vs H Q E h => ?_) (fun f cdv A outer s H vs Q E hr h => ?_)
  · obtain ⟨a, dx, x, s, m, rfl, _⟩ := h
    rfl
  · obtain ⟨a, dx, x, s, m, rfl, ha, hx, hs, hm, hnm, k⟩ := h
    refine ⟨_, (pss_cons (ps_set (i := 1) sc_Reader_list_items.nd rfl (Or.inl rfl) (pe_lst pa_nil))
 (pss_cons (ps_if (pt_val (pe_mx M_takes hr (by omega) pass0 (pv 0) (pa_cons pe_str pa_nil))) (pss_one (ps_ret (pv 1))) pss_nil)
 (pss_cons (ps_while PassesOwn.never (PW.pt (pw_or (pt_cmpR op_eq (pe_callB (lnK K) rfl T.b_len (by decide +kernel) (pa_cons (pv 1) pa_nil)) pe_int (nomark _)) (pw_or1 (pt_val (pe_mx M_takes hr (by omega) pass0 (pv 0) (pa_cons pe_str pa_nil)))))) (pss_cons (ps_set (i := 2) sc_Reader_list_items.nd rfl (Or.inl rfl) (pe_m0 M_next_value hr (by omega) (pv 0)))
 (pss_cons (ps_if (pt_cmpR op_isN (pv 2) pe_non (nomark _)) (pss_one (ps_ret pe_non)) pss_nil)
 (pss_one (ps_expr (pe_bm PySem.F.plainAttrs_list PySem.F.slot_list_append PySem.F.type_list_append mt_append (pv 1) (pa_cons (pv 2) pa_nil)))))))
 (pss_one (ps_ret (pe_ifExp (pt_val (pe_mx M_takes hr (by omega) pass0 (pv 0) (pa_cons pe_str pa_nil))) (pv 1) pe_non)))))), ?_⟩
    refine ⟨szl (by decide), fun D nD => ?_⟩
    have rg0 : Rg H (upd H D (.lst [])) a D (rdO C dx x s m) (.lst []) := Rg.new ha nD
    generalize upd H D (.lst []) = Ha at rg0
    have tb : tl ("]" : Str) = [93] := by decide +kernel
    have tl1 : ("]" : Str).length = 1 := by decide +kernel
    have tc : tl (", " : Str) = [44, 32] := by decide +kernel
    have tl2 : (", " : Str).length = 2 := by decide +kernel
    refine ⟨_, rfl, a, dx, _, rfl, rg0.at_, rfs_takes, a, dx, x, "]", s, m, rfl, rg0.at_, hx, hs, by rw [tl1]; decide, fun ht => ⟨_, rfl, if_f rfl ?_⟩, fun ht hle => ⟨_, rfl, if_t rfl ?_⟩⟩
    · rw [tb] at ht
      have k : NvQ C dx a x H Q (itemL (nvF n) 61 [] ((tl x).drop s) m) := by
        unfold listR at k
        rw [ht] at k
        exact k
      refine while_cps (fun k σ Hi => ∃ ds f s m vs, LsW C dx a D x H n k σ Hi ds f s m vs ∧ NvQ C dx a x H Q (if ds = [] then itemL (nvF n) f [] ((tl x).drop s) m else tailL (nvF n) f ds ((tl x).drop s) m))
        (fun k σ Hi => ∃ ds f s m vs, LsW C dx a D x H n k σ Hi ds f s m vs ∧ NvQ C dx a x H Q (itemL (nvF n) f ds ((tl x).drop s) m))
        (fun k σ Hi => ∃ ds f s m vs, LsW C dx a D x H n k σ Hi ds f s m vs ∧ NvQ C dx a x H Q (if tk ((tl x).drop s) [93] then some (.list ds, ((tl x).drop s).drop 1, m) else none)) ?_ ?_ ?_ ?_
      · exact ⟨61 - m, [], 61, s, m, [], ⟨rfl, ⟨none, rfl⟩, rg0, DtL.nil, hs, hm, hnm, by omega, Nat.zero_le _⟩, k⟩
      · rintro j σ Hi Q' ⟨ds, f, s, m, vs, W, k⟩ hB hY
        obtain ⟨o2, rfl⟩ := W.st
        have hl := W.dt.len
        refine ⟨_, rfl, .ref D, vs.length, rfl, .inl ⟨vs, SqLo W.rg.hD, rfl⟩, rfl, _, rfl, if_b (fun h => ?_) (fun h => ?_)⟩
        · have h : ds = [] := by
            have := of_decide_eq_true h
            injection this with this
            exact List.length_eq_zero_iff.mp (by omega)
          refine hB Hi ⟨ds, f, s, m, vs, W, ?_⟩
          rw [if_pos h] at k
          rw [h]
          exact k
        · have h : ds ≠ [] := fun e => by
            rw [e] at hl
            have := of_decide_eq_false h
            rw [hl] at this
            exact this rfl
          rw [if_neg h] at k
          refine ⟨_, rfl, a, dx, _, rfl, W.rg.at_, rfs_takes, a, dx, x, ", ", s, m, rfl, W.rg.at_, hx, W.sx, by rw [tl2]; decide, fun ht => ⟨_, rfl, ?_⟩, fun ht hle => ⟨_, rfl, ?_⟩⟩
          · rw [tc] at ht
            refine hY Hi ⟨ds, f, s, m, vs, W, ?_⟩
            unfold tailL at k
            rw [ht] at k
            exact k
          · rw [tc] at ht
            rw [tl2] at hle ⊢
            obtain ⟨r1, r2⟩ := W.rg.set (u' := rdO C dx x (s + 2) m) ha nD
            refine hB _ ⟨ds, f, s + 2, m, vs, ⟨W.km, ⟨o2, rfl⟩, r1, W.dt.ex r2, hle, W.m60, W.nm, W.fm, W.lm⟩, ?_⟩
            unfold tailL at k
            rw [ht] at k
            rw [dr_dr]
            exact k
      · rintro j σ Hi ⟨ds, f, s, m, vs, W, k⟩
        obtain ⟨o2, rfl⟩ := W.st
        have fm := W.fm
        have m60 := W.m60
        match f, fm, k, W with
        | 0, fm, _, _ => omega
        | f + 1, fm, k, W =>
        refine ⟨_, rfl, a, dx, _, rfl, W.rg.at_, rfs_next, a, dx, x, s, m, rfl, W.rg.at_, hx, W.sx, m60, W.nm, ?_⟩
        cases e : nvF n ((tl x).drop s) m with
        | none =>
          rw [itemL_none e] at k
          intro s' m' H' e'
          refine ⟨_, rfl, rfl, _, rfl, if_t rfl ?_⟩
          exact k s' m' H' ((W.rg.set (u' := rdO C dx x s' m') ha nD).1.fin.trans e')
        | some r =>
          obtain ⟨d, t', m'⟩ := r
          rw [itemL_some e] at k
          obtain ⟨g1, g2, g3, g4, g5⟩ := nv_sz _ _ _ _ _ _ e
          intro v s' H4 hs' ht' e4 hd
          have hv := g5 _ _ hd
          refine ⟨_, rfl, rfl, _, rfl, if_f (by simpa using hv) ?_⟩
          obtain ⟨n1, n2, n3, n4⟩ := W.rg.next (o' := .lst (vs ++ [v])) ha nD e4
          have hl := W.dt.len
          have lm := W.lm
          refine ⟨_, rfl, .inl ⟨rfl, _, SqLo n4⟩, _, rfl, D, _, _, rfl, rfl, n4, szlt (by omega), ?_⟩
          refine ⟨61 - m', by have := W.km; omega, ds ++ [d], f, s', m', vs ++ [v], ⟨rfl, ⟨_, rfl⟩, n1, DtL.app (W.dt.ex n2) (DtL.cons (hd.ex n3) DtL.nil), hs', g2, by have := W.nm; omega, by omega, by rw [List.length_append]; show _ + 1 ≤ _; omega⟩, ?_⟩
          rw [if_neg (by simp), ht']
          exact k
      · rintro j σ Hi ⟨ds, f, s, m, vs, W, k⟩
        obtain ⟨o2, rfl⟩ := W.st
        refine ⟨_, rfl, a, dx, _, rfl, W.rg.at_, rfs_takes, a, dx, x, "]", s, m, rfl, W.rg.at_, hx, W.sx, by rw [tl1]; decide, fun ht => ⟨_, rfl, if_f rfl ?_⟩, fun ht hle => ⟨_, rfl, if_t rfl ⟨_, rfl, ?_⟩⟩⟩
        · rw [tb] at ht
          rw [ht] at k
          exact k s m Hi W.rg.fin
        · rw [tb] at ht
          rw [ht] at k
          rw [tl1] at hle ⊢
          obtain ⟨r1, r2⟩ := W.rg.set (u' := rdO C dx x (s + 1) m) ha nD
          refine k (.ref D) (s + 1) _ hle (dr_dr _ _ _) r1.fin ?_
          unfold Dt
          exact ⟨D, vs, rfl, .inl (fr_get nD r1.hD), (W.dt.ex r2).ex (fr_mono ex_del)⟩
    · rw [tb] at ht
      have k : NvQ C dx a x H Q (some (.list [], ((tl x).drop s).drop 1, m)) := by
        unfold listR at k
        rw [ht] at k
        exact k
      rw [tl1] at hle ⊢
      obtain ⟨r1, r2⟩ := rg0.set (u' := rdO C dx x (s + 1) m) ha nD
      refine ⟨_, rfl, k (.ref D) (s + 1) _ hle (dr_dr _ _ _) r1.fin ?_⟩
      unfold Dt
      exact ⟨D, [], rfl, .inl (fr_get nD r1.hD), DtL.nil⟩
end
end WT

namespace WT
open PySem PySem.Spec L2 LW VL
open Evl (Ex)
open SX (S S_tl S_inj S_len S_cat)
open TL (tl numL joinL)
section
variable {P : Program} {w : World} {K : PySem.W.Frag} {mg : Str → Option Value} {base : Heap} {C : Addr}
/-! ### record_fields -/
def tailK (nv : List Nat → Nat → Res) (f : Nat) (ds : List (PyData × PyData)) (t : List Nat) (m : Nat) : Res := if tk t [44, 32] then itemK nv f ds (t.drop 2) m else if tk t [125] then some (.dict ds, t.drop 1, m) else none
def badK (ds : List (PyData × PyData)) (t : List Nat) : Prop := lets (S (unt t [58])) 1 8 = false ∨ S (unt t [58]) ∈ names ds ∨ tk (dro t [58]) [58, 32] = false
theorem itemK_bad {nv : List Nat → Nat → Res} {f : Nat} {ds : List (PyData × PyData)} {t : List Nat} {m : Nat} (h : badK ds t) : itemK nv (f + 1) ds t m = none := by
  unfold itemK
  exact if_pos h
theorem itemK_none {nv : List Nat → Nat → Res} {f : Nat} {ds : List (PyData × PyData)} {t : List Nat} {m : Nat} (h : nv ((dro t [58]).drop 2) m = none) : itemK nv (f + 1) ds t m = none := by
  unfold itemK
  rw [h]
  split <;> rfl
theorem itemK_some {nv : List Nat → Nat → Res} {f : Nat} {ds : List (PyData × PyData)} {t t' : List Nat} {m m' : Nat} {d : PyData} (hb : ¬ badK ds t) (h : nv ((dro t [58]).drop 2) m = some (d, t', m')) : itemK nv (f + 1) ds t m = tailK nv f (ds ++ [(.str (S (unt t [58])), d)]) t' m' := by
  unfold badK at hb
  conv => lhs; unfold itemK
  rw [if_neg hb, h]
  rfl
structure RcW (C dx a D : Addr) (x : Str) (H : Hp) (n k : Nat) (σ : L2.St) (Hi : Hp) (ds : List (PyData × PyData)) (f s m : Nat) (es : List (Key × V)) : Prop where
  km : k = 61 - m
  st : ∃ o2 o3, σ = [some (.ref a), some (.ref D), o2, o3]
  rg : Rg H Hi a D (rdO C dx x s m) (.dK es)
  dt : DtK (fr H (del Hi D)) ds es
  nd : (es.map (·.1)).Nodup
  al : AllStr ds
  sx : s ≤ x.length
  m60 : m ≤ 60
  nm : 61 ≤ n + m
  fm : 61 ≤ f + m
  lm : ds.length ≤ m
theorem sc_Reader_record_fields : FnScope ["self", "found", "name", "child"] ["self"] (defScope s_Reader_record_fields) := ⟨rfl, rfl, rfl, by decide +kernel, rfl, by decide +kernel, by decide +kernel⟩
theorem bi_Reader_record_fields : BindsM "record_fields" "Reader.record_fields" s_Reader_record_fields ["self"] := fun _ _ _ _ _ _ us hl => match us, hl with | [_], _ => rfl
theorem ok_recF (F : Dm_ K C "record_fields" "Reader.record_fields" s_Reader_record_fields) (T : Txt K mg) (L : TxR K C) (n : Nat) (M_takes : Mt P w K mg base CX0 1 C "takes" (spTakes C)) (M_until : Mt P w K mg base CX0 1 C "until" (spUntil C)) (C_is_field : Cal P w K mg base CX0 2 "is_field" spField) (M_next_value : Mt P w K mg base CX0 (2 * n + 3) C "next_value" (spRd C (nvF n) n)) :
    Mt P w K mg base CX0 (2 * n + 4) C "record_fields" (spRd C (recR n) n) := by
  refine mt0 L.cl F sc_Reader_record_fields bi_Reader_record_fields (fun vs H Q E h => ?_) (fun f cdv A outer sh H vs Q E hr h => ?_)
  · obtain ⟨a, dx, x, s, m, rfl, _⟩ := h
    rfl
  · obtain ⟨a, dx, x, s, m, rfl, ha, hx, hs, hm, hnm, k⟩ := h
    have hu : (A.deeper (PyProof.Rows.envOfC "Reader.record_fields" (defScope s_Reader_record_fields) sh.heap.objs.size f cdv)).units + 1 < cLine := by have := hr.un; omega
    refine ⟨_, (pss_cons (ps_set (i := 1) sc_Reader_record_fields.nd rfl (Or.inl rfl) pe_dnewK)
 (pss_cons (ps_if (pt_val (pe_mx M_takes hr (by omega) pass0 (pv 0) (pa_cons pe_str pa_nil))) (pss_one (ps_ret (pv 1))) pss_nil)
 (pss_cons (ps_while PassesOwn.never (PW.pt (pw_or (pt_cmpR op_eq (pe_callB lnD rfl T.b_len (by decide +kernel) (pa_cons (pv 1) pa_nil)) pe_int (nomark _)) (pw_or1 (pt_val (pe_mx M_takes hr (by omega) pass0 (pv 0) (pa_cons pe_str pa_nil)))))) (pss_cons (ps_set (i := 2) sc_Reader_record_fields.nd rfl (Or.inl rfl) (pe_mx M_until hr (by omega) pass0 (pv 0) (pa_cons pe_str pa_nil)))
 (pss_cons (ps_if (PW.pt (pw_or (pt_not (pt_val (pe_k C_is_field hr (by omega) rfl (pa_cons (pv 2) pa_nil)))) (pw_or (pt_cmp (pc_din hu (pv 2) (pv 1))) (pw_or1 (pt_not (pt_val (pe_mx M_takes hr (by omega) pass0 (pv 0) (pa_cons pe_str pa_nil)))))))) (pss_one (ps_ret pe_non)) pss_nil)
 (pss_cons (ps_set (i := 3) sc_Reader_record_fields.nd rfl (Or.inl rfl) (pe_m0 M_next_value hr (by omega) (pv 0)))
 (pss_cons (ps_if (pt_cmpR op_isN (pv 3) pe_non (nomark _)) (pss_one (ps_ret pe_non)) pss_nil)
 (pss_one (ps_dput hu (pv 1) (pv 2) (pv 3) rfl)))))))
 (pss_one (ps_ret (pe_ifExp (pt_val (pe_mx M_takes hr (by omega) pass0 (pv 0) (pa_cons pe_str pa_nil))) (pv 1) pe_non)))))), ?_⟩
    intro D nD
    have rg0 : Rg H (upd H D (.dK [])) a D (rdO C dx x s m) (.dK []) := Rg.new ha nD
    generalize upd H D (.dK []) = Ha at rg0
    have tb : tl ("}" : Str) = [125] := by decide +kernel
    have tl1 : ("}" : Str).length = 1 := by decide +kernel
    have tc : tl (", " : Str) = [44, 32] := by decide +kernel
    have tl2 : (", " : Str).length = 2 := by decide +kernel
    have tk1 : tl (":" : Str) = [58] := by decide +kernel
    have tk2 : tl (": " : Str) = [58, 32] := by decide +kernel
    have tk3 : (": " : Str).length = 2 := by decide +kernel
    refine ⟨_, rfl, a, dx, _, rfl, rg0.at_, rfs_takes, a, dx, x, "}", s, m, rfl, rg0.at_, hx, hs, by rw [tl1]; decide, fun ht => ⟨_, rfl, if_f rfl ?_⟩, fun ht hle => ⟨_, rfl, if_t rfl ?_⟩⟩
    · rw [tb] at ht
      have k : NvQ C dx a x H Q (itemK (nvF n) 61 [] ((tl x).drop s) m) := by
        unfold recR at k
        rw [ht] at k
        exact k
      refine while_cps (fun k σ Hi => ∃ ds f s m vs, RcW C dx a D x H n k σ Hi ds f s m vs ∧ NvQ C dx a x H Q (if ds = [] then itemK (nvF n) f [] ((tl x).drop s) m else tailK (nvF n) f ds ((tl x).drop s) m))
        (fun k σ Hi => ∃ ds f s m vs, RcW C dx a D x H n k σ Hi ds f s m vs ∧ NvQ C dx a x H Q (itemK (nvF n) f ds ((tl x).drop s) m))
        (fun k σ Hi => ∃ ds f s m vs, RcW C dx a D x H n k σ Hi ds f s m vs ∧ NvQ C dx a x H Q (if tk ((tl x).drop s) [125] then some (.dict ds, ((tl x).drop s).drop 1, m) else none)) ?_ ?_ ?_ ?_
      · exact ⟨61 - m, [], 61, s, m, [], ⟨rfl, ⟨none, none, rfl⟩, rg0, by unfold DtK; rfl, List.nodup_nil, nofun, hs, hm, hnm, by omega, Nat.zero_le _⟩, k⟩
      · rintro j σ Hi Q' ⟨ds, f, s, m, es, W, k⟩ hB hY
        obtain ⟨o2, o3, rfl⟩ := W.st
        have hl := DtK.len W.dt
        refine ⟨_, rfl, D, rfl, .inl ⟨es, .inl W.rg.hD, rfl, _, rfl, if_b (fun h => ?_) (fun h => ?_)⟩⟩
        · have h : ds = [] := by
            have := of_decide_eq_true h
            injection this with this
            exact List.length_eq_zero_iff.mp (by omega)
          refine hB Hi ⟨ds, f, s, m, es, W, ?_⟩
          rw [if_pos h] at k
          rw [h]
          exact k
        · have h : ds ≠ [] := fun e => by
            rw [e] at hl
            have := of_decide_eq_false h
            rw [hl] at this
            exact this rfl
          rw [if_neg h] at k
          refine ⟨_, rfl, a, dx, _, rfl, W.rg.at_, rfs_takes, a, dx, x, ", ", s, m, rfl, W.rg.at_, hx, W.sx, by rw [tl2]; decide, fun ht => ⟨_, rfl, ?_⟩, fun ht hle => ⟨_, rfl, ?_⟩⟩
          · rw [tc] at ht
            refine hY Hi ⟨ds, f, s, m, es, W, ?_⟩
            unfold tailK at k
            rw [ht] at k
            exact k
          · rw [tc] at ht
            rw [tl2] at hle ⊢
            obtain ⟨r1, r2⟩ := W.rg.set (u' := rdO C dx x (s + 2) m) ha nD
            refine hB _ ⟨ds, f, s + 2, m, es, ⟨W.km, ⟨o2, o3, rfl⟩, r1, W.dt.ex r2, W.nd, W.al, hle, W.m60, W.nm, W.fm, W.lm⟩, ?_⟩
            unfold tailK at k
            rw [ht] at k
            rw [dr_dr]
            exact k
      · rintro j σ Hi ⟨ds, f, s, m, es, W, k⟩
        obtain ⟨o2, o3, rfl⟩ := W.st
        have fm := W.fm
        have m60 := W.m60
        match f, fm, k, W with
        | 0, fm, _, _ => omega
        | f + 1, fm, k, W =>
        have hl := DtK.len W.dt
        have lm := W.lm
        -- name = self.until(':')
        refine ⟨_, rfl, a, dx, _, rfl, W.rg.at_, rfs_until, a, dx, x, ":", s, m, rfl, W.rg.at_, hx, W.sx, ?_⟩
        rw [tk1]
        generalize hR : (tl x).drop s = R at k
        have hul := unt_len R [58]
        have hRl : R.length = x.length - s := by rw [← hR, List.length_drop, ← TL.len_tl]
        have sx := W.sx
        obtain ⟨r1, r2⟩ := W.rg.set (u' := rdO C dx x (s + (unt R [58]).length) m) ha nD
        generalize upd Hi a (rdO C dx x (s + (unt R [58]).length) m) = H1 at r1 r2
        have dt1 := W.dt.ex r2
        -- is_field(name)
        refine ⟨_, rfl, .str (S (unt R [58])), .str (S (unt R [58])), rfl, by unfold Dt; rfl, fun z e => by cases e; exact szl (by rw [S_len]; omega), fun H2 x2 => ⟨_, rfl, ?_⟩⟩
        have rg2 := r1.grow x2
        have dt2 := dt1.ex (fr_mono (H := H) (del_grow' (p := D) x2))
        have bad : badK ds R → ∀ u, Ex (upd H a (rdO C dx x u m)) H2 → Q .non H2 := fun hb u e => by
          rw [itemK_bad hb] at k
          exact k u m H2 e
        refine if_b (fun h1 => ?_) (fun h1 => ?_)
        · refine if_t rfl (bad (.inl ?_) _ rg2.fin)
          have h1 : (!fld (.str (S (unt R [58])))) = true := h1
          rw [Bool.not_eq_true'] at h1
          exact h1
        have n1 : lets (S (unt R [58])) 1 8 = true := by
          have h1 : (!fld (.str (S (unt R [58])))) = false := h1
          rw [Bool.not_eq_false'] at h1
          exact h1
        -- name in found
        refine ⟨_, rfl, _, rfl, D, _, rfl, DGet.k (k := Sum.inr (S (unt R [58]))) rg2.hD, _, rfl, if_b (fun h2 => ?_) (fun h2 => ?_)⟩
        · refine if_t rfl (bad (.inr (.inl ?_)) _ rg2.fin)
          refine Classical.byContradiction fun hno => ?_
          rw [val_no dt2 W.al hno] at h2
          cases h2
        have hno : S (unt R [58]) ∉ names ds := fun hy => by
          obtain ⟨u, hu1, _⟩ := dtk_get dt2 W.al _ hy
          rw [hu1] at h2
          cases h2
        have hval := val_no dt2 W.al hno
        -- takes(': ')
        refine ⟨_, rfl, a, dx, _, rfl, rg2.at_, rfs_takes, a, dx, x, ": ", s + (unt R [58]).length, m, rfl, rg2.at_, hx, by omega, by rw [tk3]; decide, fun ht => ⟨_, rfl, if_t rfl ?_⟩, fun ht hle => ⟨_, rfl, if_f rfl ?_⟩⟩
        · rw [tk2, dr_dr, hR, drop_unt] at ht
          exact bad (.inr (.inr ht)) _ rg2.fin
        rw [tk2, dr_dr, hR, drop_unt] at ht
        rw [tk3] at hle ⊢
        have nb : ¬ badK ds R := by
          rintro (q | q | q)
          · rw [n1] at q; cases q
          · exact hno q
          · rw [ht] at q; cases q
        obtain ⟨r3, r4⟩ := rg2.set (u' := rdO C dx x (s + (unt R [58]).length + 2) m) ha nD
        generalize upd H2 a (rdO C dx x (s + (unt R [58]).length + 2) m) = H3 at r3 r4
        have dt3 := dt2.ex r4
        have hrest : (tl x).drop (s + (unt R [58]).length + 2) = (dro R [58]).drop 2 := by rw [dr_dr, dr_dr, hR, drop_unt]
        refine ⟨_, rfl, a, dx, _, rfl, r3.at_, rfs_next, a, dx, x, _, m, rfl, r3.at_, hx, hle, m60, W.nm, ?_⟩
        rw [hrest]
        cases e : nvF n ((dro R [58]).drop 2) m with
        | none =>
          rw [itemK_none e] at k
          intro s' m' H' e'
          refine ⟨_, rfl, rfl, _, rfl, if_t rfl ?_⟩
          exact k s' m' H' ((r3.set (u' := rdO C dx x s' m') ha nD).1.fin.trans e')
        | some r =>
          obtain ⟨d, t', m'⟩ := r
          rw [itemK_some nb e] at k
          obtain ⟨g1, g2, g3, g4, g5⟩ := nv_sz _ _ _ _ _ _ e
          intro v s' H4 hs' ht' e4 hd
          have hv := g5 _ _ hd
          refine ⟨_, rfl, rfl, _, rfl, if_f (by simpa using hv) ?_⟩
          obtain ⟨n1', n2, n3, n4⟩ := r3.next (o' := .dK (putK es (Sum.inr (S (unt R [58]))) v)) ha nD e4
          refine ⟨_, rfl, _, rfl, _, rfl, D, _, rfl, DPut.k (k := Sum.inr (S (unt R [58]))) n4 (szlt (by omega)), ?_⟩
          rw [putK_new v hval] at n1' n2 n3 ⊢
          refine ⟨61 - m', by have := W.km; omega, ds ++ [(.str (S (unt R [58])), d)], f, s', m', _, ⟨rfl, ⟨_, _, rfl⟩, n1', ?_, ?_, ?_, hs', g2, by have := W.nm; omega, by omega, by rw [List.length_append]; show _ + 1 ≤ _; omega⟩, ?_⟩
          · exact DtK.app1 (k := .str (S (unt R [58]))) (x := Sum.inr (S (unt R [58]))) rfl (hd.ex n3) (dt3.ex n2)
          · rw [List.map_append, List.nodup_append]
            refine ⟨W.nd, by simp, fun z hz b hb => ?_⟩
            cases List.mem_singleton.mp hb
            rw [dtk_names W.dt W.al] at hz
            obtain ⟨y, hy, rfl⟩ := List.mem_map.mp hz
            exact fun e => hno (Sum.inr.inj e ▸ hy)
          · intro p hp
            rcases List.mem_append.mp hp with hp | hp
            · exact W.al p hp
            · cases List.mem_singleton.mp hp
              rfl
          · rw [if_neg (by simp), ht']
            exact k
      · rintro j σ Hi ⟨ds, f, s, m, es, W, k⟩
        obtain ⟨o2, o3, rfl⟩ := W.st
        refine ⟨_, rfl, a, dx, _, rfl, W.rg.at_, rfs_takes, a, dx, x, "}", s, m, rfl, W.rg.at_, hx, W.sx, by rw [tl1]; decide, fun ht => ⟨_, rfl, if_f rfl ?_⟩, fun ht hle => ⟨_, rfl, if_t rfl ⟨_, rfl, ?_⟩⟩⟩
        · rw [tb] at ht
          rw [ht] at k
          exact k s m Hi W.rg.fin
        · rw [tb] at ht
          rw [ht] at k
          rw [tl1] at hle ⊢
          obtain ⟨r1, r2⟩ := W.rg.set (u' := rdO C dx x (s + 1) m) ha nD
          refine k (.ref D) (s + 1) _ hle (dr_dr _ _ _) r1.fin ?_
          unfold Dt
          exact ⟨D, rfl, .inl ⟨es, .inl (fr_get nD r1.hD), W.nd, (W.dt.ex r2).ex (fr_mono ex_del)⟩⟩
    · rw [tb] at ht
      have k : NvQ C dx a x H Q (some (.dict [], ((tl x).drop s).drop 1, m)) := by
        unfold recR at k
        rw [ht] at k
        exact k
      rw [tl1] at hle ⊢
      obtain ⟨r1, r2⟩ := rg0.set (u' := rdO C dx x (s + 1) m) ha nD
      refine ⟨_, rfl, k (.ref D) (s + 1) _ hle (dr_dr _ _ _) r1.fin ?_⟩
      unfold Dt
      exact ⟨D, rfl, .inl ⟨[], .inl (fr_get nD r1.hD), List.nodup_nil, by unfold DtK; rfl⟩⟩
/-! ### next_value -/
theorem sc_Reader_next_value : FnScope ["self", "text", "digits", "plain", "sign"] ["self"] (defScope s_Reader_next_value) := ⟨rfl, rfl, rfl, by decide +kernel, rfl, by decide +kernel, by decide +kernel⟩
theorem bi_Reader_next_value : BindsM "next_value" "Reader.next_value" s_Reader_next_value ["self"] := fun _ _ _ _ _ _ us hl => match us, hl with | [_], _ => rfl
theorem ok_nextV (F : Dm_ K C "next_value" "Reader.next_value" s_Reader_next_value) (T : Txt K mg) (TD : ∃ u, mg "DIGITS" = some u ∧ RelV (.str "0123456789") u) (L : TxR K C) (FL : Dm_ K C "list_items" "Reader.list_items" s_Reader_list_items) (FR : Dm_ K C "record_fields" "Reader.record_fields" s_Reader_record_fields)
    (M_takes : Mt P w K mg base CX0 1 C "takes" (spTakes C)) (M_until : Mt P w K mg base CX0 1 C "until" (spUntil C)) (C_is_field : Cal P w K mg base CX0 2 "is_field" spField) : ∀ n, Mt P w K mg base CX0 (2 * n + 3) C "next_value" (spRd C (nvF n) n)
  | 0 => mt_no L.cl F sc_Reader_next_value bi_Reader_next_value fun vs H Q E h => by
    obtain ⟨_, _, _, _, m, _, _, _, _, h1, h2, _⟩ := h
    omega
  | n + 1 => by
    have M_next := ok_nextV F T TD L FL FR M_takes M_until C_is_field n
    have M_list_items := ok_listI FL T L n M_takes M_next
    have M_record_fields := ok_recF FR T L n M_takes M_until C_is_field M_next
    refine mt0 L.cl F sc_Reader_next_value bi_Reader_next_value (fun vs H Q E h => ?_) (fun f cdv A outer sh H vs Q E hr h => ?_)
    · obtain ⟨a, dx, x, s, m, rfl, _⟩ := h
      rfl
    · obtain ⟨a, dx, x, s, m, rfl, ha, hx, hs, hm, hnm, k⟩ := h
      refine ⟨_, (pss_cons (ps_fldaug (pv 0) pe_int in_add)
 (pss_cons (ps_if (pt_cmpR op_gt (pfl K (pv 0) rfl) pe_int (nomark _)) (pss_one (ps_ret pe_non)) pss_nil)
 (pss_cons (ps_if (pt_val (pe_mx M_takes hr (by omega) pass0 (pv 0) (pa_cons pe_str pa_nil))) (pss_one (ps_ret (pe_m0 M_list_items hr (by omega) (pv 0)))) pss_nil)
 (pss_cons (ps_if (pt_val (pe_mx M_takes hr (by omega) pass0 (pv 0) (pa_cons pe_str pa_nil))) (pss_one (ps_ret (pe_m0 M_record_fields hr (by omega) (pv 0)))) pss_nil)
 (pss_cons (ps_if (pt_val (pe_mx M_takes hr (by omega) pass0 (pv 0) (pa_cons pe_str pa_nil))) (pss_cons (ps_set (i := 1) sc_Reader_next_value.nd rfl (Or.inl rfl) (pe_mx M_until hr (by omega) pass0 (pv 0) (pa_cons pe_str pa_nil)))
 (pss_one (ps_ret (pe_ifExp (pt_val (pe_mx M_takes hr (by omega) pass0 (pv 0) (pa_cons pe_str pa_nil))) (pv 1) pe_non)))) pss_nil)
 (pss_cons (ps_set (i := 2) sc_Reader_next_value.nd rfl (Or.inl rfl) (pe_mx M_until hr (by omega) pass0 (pv 0) (pa_cons pe_str pa_nil)))
 (pss_cons (ps_set (i := 3) sc_Reader_next_value.nd rfl (Or.inl rfl) (pe_bm PySem.F.plainAttrs_str PySem.F.slot_str_removeprefix PySem.F.type_str_removeprefix mt_removeprefix (pv 2) (pa_cons pe_str pa_nil)))
 (pss_cons (ps_if (PW.pt (pw_or (pt_not (pt_chain op_le op_le pe_int (pe_callB (lnK K) rfl T.b_len (by decide +kernel) (pa_cons (pv 3) pa_nil)) pe_int)) (pw_or1 (pt_not (pt_val (pe_callB (allK K rfl) rfl T.b_all (by decide +kernel) (pa_cons (pe_lc (own := [("sign", 4)]) (by rfl) sc_Reader_next_value.nd (pi_str (pv 3)) (blkOk_by (own := [("sign", 4)]) (N := ["self", "text", "digits", "plain", "sign"]) (sc := defScope s_Reader_next_value) (by decide +kernel)) (fun _ _ _ _ _ => (pg_name (i := 4) sc_Reader_next_value.nd rfl (Or.inl rfl))) (fun _ _ _ _ _ => pts_nil) (fun _ _ _ _ _ => (pe_cmpR op_in_sign (pv 4) (pgc rfl TD) (by rfl)))) pa_nil))))))) (pss_one (ps_ret pe_non)) pss_nil)
 (pss_one (ps_ret (pe_callTy call_int_str rfl T.b_int (by decide +kernel) (pa_cons (pv 2) pa_nil)))))))))))), ?_⟩
      generalize hR : (tl x).drop s = R at k
      have hRl : R.length = x.length - s := by rw [← hR, List.length_drop, ← TL.len_tl]
      unfold nvF at k
      refine ⟨_, rfl, a, C, dx, _, _, rfl, ha, L.cl, L.nM, rfs_many, _, _, rfl, rfl, dx, rfs x s m, ha, by show 3 < 1000; decide, ?_⟩
      rw [put_many (k := m + 1) (by omega), show HO.ins C dx (rfs x s (m + 1)) = rdO C dx x s (m + 1) from rfl]
      have h1 : (upd H a (rdO C dx x s (m + 1))) a = some (rdO C dx x s (m + 1)) := upd_same
      have hub : ∀ u, upd (upd H a (rdO C dx x s (m + 1))) a u = upd H a u := fun u => upd_upd
      have ext1 : Ex (upd H a (rdO C dx x s (m + 1))) (upd H a (rdO C dx x s (m + 1))) := Ex.refl _
      refine ⟨_, rfl, a, C, dx, _, _, rfl, h1, L.cl, L.nM, rfs_many, _, _, rfl, rfl, _, rfl, if_b (fun hc => ?_) (fun hc => ?_)⟩
      · have hc : 60 < m + 1 := by
          have := of_decide_eq_true hc
          omega
        rw [if_pos hc] at k
        exact k s (m + 1) _ ext1
      have hc : ¬ 60 < m + 1 := by
        have := of_decide_eq_false hc
        omega
      rw [if_neg hc] at k
      have q1 : tl ("[" : Str) = [91] := by decide +kernel
      have l1 : ("[" : Str).length = 1 := by decide +kernel
      have q2 : tl ("{" : Str) = [123] := by decide +kernel
      have l2 : ("{" : Str).length = 1 := by decide +kernel
      have q3 : tl ("\"" : Str) = [34] := by decide +kernel
      have l3 : ("\"" : Str).length = 1 := by decide +kernel
      have q4 : tl (",]}" : Str) = [44, 93, 125] := by decide +kernel
      refine ⟨_, rfl, a, dx, _, rfl, h1, rfs_takes, a, dx, x, "[", s, m + 1, rfl, h1, hx, hs, by rw [l1]; decide, fun ht => ⟨_, rfl, if_f rfl ?_⟩, fun ht hle => ⟨_, rfl, if_t rfl ?_⟩⟩
      rotate_left
      · -- a list
        rw [q1, hR] at ht
        rw [if_pos ht] at k
        rw [l1] at hle ⊢
        rw [hub]
        refine ⟨_, rfl, a, dx, _, rfl, upd_same, rfs_list, a, dx, x, s + 1, m + 1, rfl, upd_same, hx, hle, by omega, by omega, ?_⟩
        rw [dr_dr, hR]
        exact NvQ.up k
      rw [q1, hR] at ht
      rw [if_neg (by rw [ht]; decide)] at k
      clear ht
      refine ⟨_, rfl, a, dx, _, rfl, h1, rfs_takes, a, dx, x, "{", s, m + 1, rfl, h1, hx, hs, by rw [l2]; decide, fun ht => ⟨_, rfl, if_f rfl ?_⟩, fun ht hle => ⟨_, rfl, if_t rfl ?_⟩⟩
      rotate_left
      · -- a record
        rw [q2, hR] at ht
        rw [if_pos ht] at k
        rw [l2] at hle ⊢
        rw [hub]
        refine ⟨_, rfl, a, dx, _, rfl, upd_same, rfs_rec, a, dx, x, s + 1, m + 1, rfl, upd_same, hx, hle, by omega, by omega, ?_⟩
        rw [dr_dr, hR]
        exact NvQ.up k
      rw [q2, hR] at ht
      rw [if_neg (by rw [ht]; decide)] at k
      clear ht
      refine ⟨_, rfl, a, dx, _, rfl, h1, rfs_takes, a, dx, x, "\"", s, m + 1, rfl, h1, hx, hs, by rw [l3]; decide, fun ht => ⟨_, rfl, if_f rfl ?_⟩, fun ht hle => ⟨_, rfl, if_t rfl ?_⟩⟩
      rotate_left
      · -- a text
        rw [q3, hR] at ht
        rw [if_pos ht] at k
        rw [l3] at hle ⊢
        rw [hub]
        refine ⟨_, rfl, a, dx, _, rfl, upd_same, rfs_until, a, dx, x, "\"", s + 1, m + 1, rfl, upd_same, hx, hle, ?_⟩
        rw [q3, dr_dr, hR, upd_upd]
        have hul := unt_len (R.drop 1) [34]
        rw [List.length_drop] at hul
        refine ⟨_, rfl, a, dx, _, rfl, upd_same, rfs_takes, a, dx, x, "\"", s + 1 + (unt (R.drop 1) [34]).length, m + 1, rfl, upd_same, hx, by omega, by rw [l3]; decide, fun ht2 => ⟨_, rfl, if_f rfl ?_⟩, fun ht2 hle2 => ⟨_, rfl, if_t rfl ⟨_, rfl, ?_⟩⟩⟩
        · rw [q3, dr_dr, dr_dr, hR, drop_unt] at ht2
          rw [if_neg (by rw [ht2]; decide)] at k
          exact k _ _ _ (Ex.refl _)
        · rw [q3, dr_dr, dr_dr, hR, drop_unt] at ht2
          rw [if_pos ht2] at k
          rw [l3] at hle2 ⊢
          rw [upd_upd]
          refine k _ _ _ hle2 ?_ (Ex.refl _) (by unfold Dt; rfl)
          rw [dr_dr, dr_dr, dr_dr, hR, drop_unt]
      rw [q3, hR] at ht
      rw [if_neg (by rw [ht]; decide)] at k
      clear ht
      -- a number
      refine ⟨_, rfl, a, dx, _, rfl, h1, rfs_until, a, dx, x, ",]}", s, m + 1, rfl, h1, hx, hs, ?_⟩
      rw [q4, hR, hub]
      have hul := unt_len R [44, 93, 125]
      have hr : R.drop (unt R [44, 93, 125]).length = dro R [44, 93, 125] := drop_unt _ _
      generalize hw : unt R [44, 93, 125] = w at *
      refine ⟨_, rfl, rfl, _, _, rfl, rfl, szl (by rw [S_len]; omega), ?_⟩
      rw [rm_minus]
      have hpl : (plainN w).length ≤ w.length := by
        unfold plainN
        split
        · rw [List.length_drop]; omega
        · omega
      have hw2 : w.length ≤ 10000 := by omega
      generalize hp : plainN w = p at *
      have e2 : (upd H a (rdO C dx x (s + w.length) (m + 1))) a = some (rdO C dx x (s + w.length) (m + 1)) := upd_same
      have fin : isNum w = false → ∀ H', Ex (upd H a (rdO C dx x (s + w.length) (m + 1))) H' → Q .non H' := fun hn H' e => by
        rw [if_neg (by rw [hn]; decide)] at k
        exact k _ _ H' e
      have hn : isNum w = (decide (1 ≤ p.length) && decide (p.length ≤ 30) && digs p) := by
        unfold isNum
        rw [hp]
      refine ⟨_, rfl, .str (S p), p.length, rfl, ⟨szl (by rw [S_len]; omega), by rw [S_len]⟩, _, _, rfl, rfl, _, rfl, if_b (fun c1 => ?_) (fun c1 => ?_)⟩
      · have c1 : 1 ≤ p.length := by
          have := of_decide_eq_true c1
          omega
        refine ⟨_, _, rfl, rfl, _, rfl, if_b (fun c2 => ?_) (fun c2 => ?_)⟩
        · refine if_t rfl (fin ?_ _ (Ex.refl _))
          have c2 : ¬ p.length ≤ 30 := fun q => by
            rw [decide_eq_true (show (p.length : Int) ≤ 30 by omega)] at c2
            cases c2
          rw [hn, decide_eq_false c2, Bool.and_false, Bool.false_and]
        · have c2 : p.length ≤ 30 := by
            have c2 : decide ((p.length : Int) ≤ 30) = true := by simpa using c2
            have := of_decide_eq_true c2
            omega
          refine ⟨_, rfl, S p, rfl, fun D nD => lc_gr walk_str (fun i acc _ => acc = (p.take i).map fun c => V.bl (decide (48 ≤ c) && decide (c ≤ 57))) nD (by show (S p).length ≤ 100000; rw [S_len]; omega) rfl (fun _ _ => True.intro) ?_ ?_⟩
          · rintro i v acc H1 H2 hi e e' hD hl rfl ⟨rfl, c, hc, rfl⟩
            refine ⟨rfl, _, rfl, c, _, rfl, rfl, lc_put e' hD hl (by have : i < (S p).length := hi; rw [S_len] at this; omega) (fun _ _ h => h) ?_⟩
            have hc : p[i]? = some c := by
              have q := hc
              rw [← Array.getElem?_toList] at q
              exact q
            rw [digit_mem, List.take_add_one, List.map_append, hc]
            rfl
          · rintro acc H1 e e' hD hl rfl
            have et : p.take (S p).length = p := List.take_of_length_le (by rw [S_len]; omega)
            refine ⟨D, p.map fun c => decide (48 ≤ c) && decide (c ≤ 57), rfl, ?_, ?_⟩
            · have hD' : H1 D = some (.lst ((p.take (S p).length).map fun c => V.bl (decide (48 ≤ c) && decide (c ≤ 57)))) := hD
              rw [et] at hD'
              rw [List.map_map]
              exact SqLo hD'
            · have ed : digs p = ((p.map fun c => decide (48 ≤ c) && decide (c ≤ 57)).all id) := by
                rw [List.all_map]
                rfl
              rw [← ed]
              refine ⟨_, rfl, if_b (fun c3 => ?_) (fun c3 => ?_)⟩
              · refine fin ?_ _ e
                have c3 : (!digs p) = true := c3
                rw [Bool.not_eq_true'] at c3
                rw [hn, c3, Bool.and_false]
              · have c3 : (!digs p) = false := c3
                rw [Bool.not_eq_false'] at c3
                have hy : isNum w = true := by
                  rw [hn, c3, decide_eq_true c1, decide_eq_true c2]
                  rfl
                rw [if_pos hy] at k
                obtain ⟨i1, i2⟩ := int_read hy
                refine ⟨_, rfl, _, _, rfl, i1, i2, ?_⟩
                refine k _ (s + w.length) _ (by rw [← hw] at hul ⊢; omega) ?_ e (by unfold Dt; rfl)
                rw [dr_dr, hR]
                exact hr
      · refine ⟨_, rfl, if_t rfl (fin ?_ _ (Ex.refl _))⟩
        have c1 : ¬ 1 ≤ p.length := fun q => by
          rw [decide_eq_true (show (1 : Int) ≤ p.length by omega)] at c1
          cases c1
        rw [hn, decide_eq_false c1, Bool.false_and, Bool.false_and]
end
end WT

namespace WT
open PySem PySem.Spec L2 LW VL
open Evl (Ex)
open SX (S S_tl S_inj S_len S_cat)
open TL (tl numL joinL)
section
variable {P : Program} {w : World} {K : PySem.W.Frag} {mg : Str → Option Value} {base : Heap} {C CI : Addr}
/-! ### Reader(text) -/
def spRInit (C : Addr) : Sp := fun vs H Q _ => ∃ (a dx : Addr) (x : Str), vs = [.ref a, .str x] ∧ H a = some (.ins C dx []) ∧ Q .non (upd H a (rdO C dx x 0 0))
theorem sc_Reader___init__ : FnScope ["self", "text"] ["self", "text"] (defScope s_Reader___init__) := ⟨rfl, rfl, rfl, by decide +kernel, rfl, by decide +kernel, by decide +kernel⟩
theorem bi_Reader___init__ : BindsM "__init__" "Reader.__init__" s_Reader___init__ ["self", "text"] := fun _ _ _ _ _ _ us hl => match us, hl with | [_, _], _ => rfl
theorem ok_rinit {f0 : Addr} {fd0 : FuncData} (F : FunD K "__init__" "Reader.__init__" (defArgs s_Reader___init__) (defBody s_Reader___init__) (defScope s_Reader___init__) [] [] f0 fd0) (L : TxR K C) : FnOk P w K mg base CX0 1 f0 fd0 ["self", "text"] (spRInit C) := by
  refine F.ok sc_Reader___init__ (fun vs H Q E h => ?_) (fun cdv A outer sh H vs Q E hr h => ?_)
  · obtain ⟨a, dx, x, rfl, _⟩ := h
    rfl
  · obtain ⟨a, dx, x, rfl, ha, k⟩ := h
    refine ⟨_, PSs.nox (pss_cons (ps_fld (pv 0) (pv 1) rfl)
 (pss_cons (ps_fld (pv 0) pe_int rfl)
 (pss_one (ps_fld (pv 0) pe_int rfl)))), ?_⟩
    refine ⟨_, rfl, _, rfl, a, C, dx, _, rfl, ha, L.cl, L.nT, by show 0 < 1000; decide, ?_⟩
    refine ⟨_, rfl, a, C, dx, _, rfl, upd_same, L.cl, L.nS, by show 1 < 1000; decide, ?_⟩
    refine ⟨_, rfl, a, C, dx, _, rfl, upd_same, L.cl, L.nM, by show 2 < 1000; decide, ?_⟩
    rw [upd_upd, upd_upd]
    exact k
/-! ### read_value -/
def LRd : PyData → Option PyData
  | .str x => LR (tl x)
  | _ => none
def spReadV (CI : Addr) : Sp := fun vs H Q E => ∃ (v : V) (d : PyData), vs = [v] ∧ Dt H d v ∧ (∀ x, d = .str x → x.length ≤ 10000) ∧ (∀ e, LRd d = some e → ∀ u H', Ex H H' → Dt H' e u → Q u H') ∧
  (LRd d = none → ∀ dd H', Ex H H' → H' dd = some (.xd [("value", v)]) → E (.ref CI) (some dd) H')
theorem sc_read_value : FnScope ["text", "reader", "found"] ["text"] (defScope s_read_value) := ⟨rfl, rfl, rfl, by decide +kernel, rfl, by decide +kernel, by decide +kernel⟩
theorem bi_read_value : BindsEq "read_value" s_read_value ["text"] := fun _ _ _ _ _ _ us hl => match us, hl with | [_], _ => rfl
theorem ok_readV (F : Df K mg "read_value" s_read_value) (T : Txt K mg) (C_is_value : Cal P w K mg base CX0 4 "is_value" spIsVal) (C_written : Cal P w K mg base CX0 62 "written" (spWrit 60)) (K_Reader : Mkr P w K mg base CX0 1 "Reader" C (spRInit C)) (M_next_value : Mt P w K mg base CX0 125 C "next_value" (spRd C (nvF 61) 61))
    (X_InvalidValue : XMk P w K mg base 1 "InvalidValue" CI "value") : Cal P w K mg base (L2.CX P w) 126 "read_value" (spReadV CI) := by
  refine calX F sc_read_value bi_read_value (fun vs H Q E h => ?_) (fun f cdv A outer sh H vs Q E hr h => ?_)
  · obtain ⟨v, d, rfl, _⟩ := h
    rfl
  · obtain ⟨v, d, rfl, hd, hz, k1, k2⟩ := h
    refine ⟨_, (pss_cons (ps_if (pt_not (pt_val (pe_callB (isD K) rfl T.b_isinstance (by decide +kernel) (pa_cons (pv 0) (pa_cons (pe_bltn (v := .ty "str") rfl T.b_str (by decide +kernel) rfl) pa_nil))))) (pss_one (ps_raise rfl (takes_of rfl rfl rfl rfl) (pmk_x X_InvalidValue hr (by decide) rfl (pa_cons (pv 0) pa_nil)))) pss_nil)
 (pss_cons (ps_set (i := 1) sc_read_value.nd rfl (Or.inl rfl) (pe_mkr K_Reader hr (by decide) pass0 rfl (pa_cons (pv 0) pa_nil)))
 (pss_cons (ps_set (i := 2) sc_read_value.nd rfl (Or.inl rfl) (pe_m0 M_next_value hr (by decide) (pv 1)))
 (pss_cons (ps_if (PW.pt (pw_or (pt_cmpR op_isN (pv 2) pe_non (nomark _)) (pw_or (pt_not (pt_val (pe_k C_is_value hr (by decide) rfl (pa_cons (pv 2) pa_nil)))) (pw_or1 (pt_cmpR op_ne (pe_k C_written hr (by decide) rfl (pa_cons (pv 2) pa_nil)) (pv 0) (nomark _)))))) (pss_one (ps_raise rfl (takes_of rfl rfl rfl rfl) (pmk_x X_InvalidValue hr (by decide) rfl (pa_cons (pv 0) pa_nil)))) pss_nil)
 (pss_one (ps_ret (pv 2))))))), ?_⟩
    cases d with
    | str x =>
      have hd' := hd
      unfold Dt at hd'
      subst hd'
      have hx := hz x rfl
      refine ⟨_, rfl, _, _, _, true, rfl, hd, rfl, _, rfl, if_f rfl ?_⟩
      refine ⟨_, rfl, fun a dx na ndx ne => ?_⟩
      have x01 : Ex H (upd (upd (upd H dx (.own a)) a (.ins C dx [])) a (rdO C dx x 0 0)) := by
        rw [upd_upd]
        exact Ex.mut (Ex.new ndx) na
      refine ⟨a, dx, x, rfl, upd_same, rfl, ?_⟩
      have h1 : (upd (upd (upd H dx (.own a)) a (.ins C dx [])) a (rdO C dx x 0 0)) a = some (rdO C dx x 0 0) := upd_same
      generalize upd (upd (upd H dx (.own a)) a (.ins C dx [])) a (rdO C dx x 0 0) = H1 at x01 h1
      refine ⟨_, rfl, a, dx, _, rfl, h1, rfs_next, a, dx, x, 0, 0, rfl, h1, hx, Nat.zero_le _, by decide, by decide, ?_⟩
      rw [List.drop_zero]
      have xup : ∀ u H', Ex (upd H1 a u) H' → Ex H H' := fun u H' e => (Ex.mut x01 na).trans e
      have bad : LR (tl x) = none → ∀ H' : Hp, Ex H H' → ∀ dd H2, Ex H' H2 → H2 dd = some (.xd [("value", V.str x)]) → E (.ref CI) (some dd) H2 := fun hl H' e dd H2 e2 hdd => k2 hl dd H2 (e.trans e2) hdd
      cases e : nvF 61 (tl x) 0 with
      | none =>
        have hl := LR_nv0 e
        intro s m H' ex
        refine ⟨_, rfl, rfl, _, rfl, if_t rfl (if_t rfl ⟨_, rfl, xmk_go fun dd H2 _ e2 hdd => bad hl H' (xup _ _ ex) dd H2 e2 hdd⟩)⟩
      | some r =>
        obtain ⟨d', t', m'⟩ := r
        obtain ⟨_, _, _, g4, g5⟩ := nv_sz _ _ _ _ _ _ e
        have hsz := g4 (by rw [← TL.len_tl]; exact hx)
        intro v' s' H' _ _ ex hd1
        have hdv : Dt H' d' v' := hd1.ex fr_sub
        have xH := xup _ _ ex
        have hl := LR_nv e fun hv => dt_nod _ d' v' (Nat.le_refl _) (isV_ok hv).1 hdv
        refine ⟨_, rfl, rfl, _, rfl, if_f (by simpa using g5 _ _ hdv) ?_⟩
        refine ⟨_, rfl, v', d', rfl, hdv, hsz, fun H2 x2 => ⟨_, rfl, if_b (fun c1 => ?_) (fun c1 => ?_)⟩⟩
        · have c1 : isV d' = false := by simpa using c1
          rw [if_neg (by rintro ⟨q, _⟩; rw [c1] at q; cases q)] at hl
          exact if_t rfl ⟨_, rfl, xmk_go fun dd H3 _ e3 hdd => bad hl H2 (xH.trans x2) dd H3 e3 hdd⟩
        · have c1 : isV d' = true := by simpa using c1
          obtain ⟨o1, o2⟩ := isV_ok c1
          refine ⟨_, rfl, v', d', H', rfl, hdv, x2, o1, o2, o2, dt_nod _ d' v' (Nat.le_refl _) o1 hdv, fun H3 x3 => ⟨_, rfl, rfl, _, rfl, if_b (fun c2 => ?_) (fun c2 => ?_)⟩⟩
          · have c2 : ¬ V.str (S (Wn (norm d'))) = V.str x := by simpa using c2
            rw [if_neg (by rintro ⟨_, q⟩; exact c2 (by rw [← q, S_tl]))] at hl
            exact ⟨_, rfl, xmk_go fun dd H4 _ e4 hdd => bad hl H3 (xH.trans (x2.trans x3)) dd H4 e4 hdd⟩
          · have c2 : V.str (S (Wn (norm d'))) = V.str x := by simpa using c2
            have c2 : tl x = Wn (norm d') := by
              have q := congrArg tl (V.str.inj c2)
              exact q.symm
            rw [if_pos ⟨c1, c2⟩] at hl
            exact ⟨_, rfl, k1 d' hl v' H3 (xH.trans (x2.trans x3)) (hdv.ex (x2.trans x3))⟩
    | _ => exact ⟨v, rfl, v, _, _, false, rfl, hd, rfl, _, rfl, if_t rfl ⟨_, rfl, xmk_go fun dd H2 _ e2 hdd => k2 rfl dd H2 e2 hdd⟩⟩
end
end WT

namespace LW
open PySem PySem.Spec L2 PySem.SeqAt
open AutoSeq1 (wpAny_loadPart')
open MeetsSeq MeetsSeq2 MeetsSeq3 SeqRoads2
section
variable {prog : Program} {w : World}
/-- list != over items that are equal, one by one -/
theorem ne_same {p q : Addr} {xs ys : Array Value} {n m : Nat} {dp dq : Option Addr} {sp sq : Array (Option Value)} (hz : xs.size = ys.size) (left : Nat) :
    ∀ i : Nat, xs.size - i = left → MeetsIn prog w (Builtin.«list.__eq__.loop» ⟨[.ref p, .ref q, rawInt i, rawInt 3], []⟩) (fun A R s => s.heap.get? p = some ⟨.type "list", dp, .seq xs n, sp⟩ ∧ s.heap.get? q = some ⟨.type "list", dq, .seq ys m, sq⟩ ∧
        (∀ j (h1 : j < xs.size) (h2 : j < ys.size), EqP prog w A.in1 s xs[j] ys[j] true) ∧ R (.ok (.ret (.bool false))) s) := by
  induction left with
  | zero =>
    rintro i hi A R ⟨hp, g, d, tk, os⟩ ⟨ha, hb, he, h⟩
    wp_walk using wpAny_loadPart' ha, wpAny_loadPart' hb
    rw [show xs[((i : Nat) : Int).toNat]? = none by simp; omega, show ys[((i : Nat) : Int).toNat]? = none by simp; omega]
    wp_walk using wpAny_loadPart' ha, wpAny_loadPart' hb
    show R (.ok (.ret (.bool (xs.size != ys.size)))) _
    rw [hz, bne_self_eq_false]
    exact h
  | succ left ih =>
    rintro i hi A R ⟨hp, g, d, tk, os⟩ ⟨ha, hb, he, h⟩
    wp_walk using wpAny_loadPart' ha, wpAny_loadPart' hb
    have l1 : i < xs.size := by omega
    have l2 : i < ys.size := by omega
    rw [show xs[((i : Nat) : Int).toNat]? = some xs[i] by simp [l1], show ys[((i : Nat) : Int).toNat]? = some ys[i] by simp [l2]]
    refine wpAny_bind (he i l1 l2 _ _ ?_)
    wp_walk
    rw [show ((i : Int) + 1) = ((i + 1 : Nat) : Int) by omega]
    refine ⟨plainId_quiet plain_eq_loop _, codeAny_builtin entry_eq_loop ?_⟩
    rw [Around.under_plainId plain_eq_loop _]
    exact ih (i + 1) (by omega) A R _ ⟨ha, hb, he, h⟩
theorem list_ne_same {p q : Addr} {xs ys : Array Value} {n m : Nat} {dp dq : Option Addr} {sp sq : Array (Option Value)} (hz : xs.size = ys.size) :
    MeetsIn prog w (Builtin.«list.__ne__» ⟨[.ref p, .ref q], []⟩) (fun A R s => s.heap.get? p = some ⟨.type "list", dp, .seq xs n, sp⟩ ∧ s.heap.get? q = some ⟨.type "list", dq, .seq ys m, sq⟩ ∧
        (∀ j (h1 : j < xs.size) (h2 : j < ys.size), EqP prog w A.in1 s xs[j] ys[j] true) ∧ R (.ok (.ret (.bool false))) s) := by
  rintro A R ⟨hp, g, d, tk, os⟩ ⟨ha, hb, he, h⟩
  have sub := AutoSeq1.sub_list_list
  have lens : ¬ (xs.size != ys.size) = true := by simp [hz]
  wp_walk using wpAny_loadPart' ha, wpAny_loadPart' hb
  refine ⟨plainId_quiet plain_eq_loop _, codeAny_builtin entry_eq_loop ?_⟩
  rw [Around.under_plainId plain_eq_loop _]
  exact ne_same hz _ 0 rfl A R _ ⟨ha, hb, he, h⟩
theorem rcne_lists {A : Around} {s : Shared} {p q : Addr} {xs ys : Array Value} (ha : s.heap.IsList p xs) (hb : s.heap.IsList q ys) (hz : xs.size = ys.size) (hu : A.units < cLine)
    (he : ∀ j (h1 : j < xs.size) (h2 : j < ys.size), EqP prog w A.in1 s xs[j] ys[j] true) (E Q : Value → Shared → Prop) (h : Q (.bool false) s) : wpAny (model prog w) A (richCompare .NotEq (.ref p) (.ref q)) Q E s := by
  obtain ⟨⟨c1, d1, da1, s1⟩, o1, e1, n, e2⟩ := id ha
  obtain ⟨⟨c2, d2, da2, s2⟩, o2, e3, m, e4⟩ := id hb
  simp only at e1 e2 e3 e4
  subst e1 e2 e3 e4
  have t1 : s.TypeIs (.ref p) "list" := ⟨_, o1, rfl⟩
  have t2 : s.TypeIs (.ref q) "list" := ⟨_, o2, rfl⟩
  refine wpAny_richCompare_same_room (op := .NotEq) t1 t2 F.slot_list_ne (call_meetsIn F.slot_list_ne t1 F.entry_list_ne (F.args_list_ne_2 _ _) (list_ne_same hz) ⟨o1, o2, he, ?_⟩) hu
  exact ⟨(fun z => nomatch z), h⟩
theorem rcne_dicts {A : Around} {s : Shared} {κ : Type} [DecidableEq κ] {knd : KeyKind prog w κ} {a b : Addr} {ka kb : List (κ × Value)} (ha : (a == sysModules) = false) (hb : (b == sysModules) = false)
    (da : s.heap.DictOf knd a ka) (db : s.heap.DictOf knd b kb) (hu : A.units < cLine) (hl : ka.length = kb.length) (hits : PySem.W.KeqHitsP prog w A.in1 s kb ka true) (E Q : Value → Shared → Prop) (h : Q (.bool false) s) :
    wpAny (model prog w) A (richCompare .NotEq (.ref a) (.ref b)) Q E s := by
  refine wpAny_richCompare_same_room (op := .NotEq) da.typeIs db.typeIs F.slot_dict_ne (wpAny_call_entry F.slot_dict_ne da.typeIs F.entry_dict_ne ?_ (F.args_dict_ne_2 _ _)) hu
  show wpAny _ _ (Builtin.Dict.dictSlotArgs "__ne__" ⟨[Value.ref a, Value.ref b], []⟩ >>= _) _ _ s
  apply wpAny_bind
  unfold Builtin.Dict.dictSlotArgs
  refine wpAny_bind (wpAny_notOrdered_dict da.typeIs (show wpAny _ _ (pure (Value.ref a, Value.ref b)) _ _ s from wpAny_pure (wpAny_bind (wpAny_isInstance (T := "dict") db.typeIs F.sub_dict_dict ?_))))
  simp only [Bool.not_true, Bool.false_eq_true, if_false]
  refine wpAny_bind (wpAny_pure (wpAny_bind (wpAny_pure (wpAny_bind (PySem.W.samePairsP ha hb da db (fun _ => hits) ?_)))))
  refine wpAny_pure ⟨_, rfl, (fun z => nomatch z), ?_⟩
  rw [hl]
  simpa using h
end
/-! ### values with the same data are equal -/
mutual
def plainD : PyData → Prop
  | .int _ => True
  | .str _ => True
  | .list ds => plainL ds
  | .dict kvs => plainK kvs
  | _ => False
def plainL : List PyData → Prop
  | [] => True
  | d :: r => plainD d ∧ plainL r
def plainK : List (PyData × PyData) → Prop
  | [] => True
  | (k, d) :: r => (∃ x, k = .str x) ∧ plainD d ∧ plainK r
end
def Same (H : Hp) (n : Nat) (x y : V) : Prop := ∃ d, plainD d ∧ d.depth ≤ n ∧ Dt H d x ∧ Dt H d y
theorem same_list {H : Hp} {n : Nat} : ∀ {ds : List PyData} {xs ys : List V}, plainL ds → PyData.depthAll ds ≤ n → DtL H ds xs → DtL H ds ys → Paired (Same H n) xs ys
  | [], _, _, _, _, h, g => by
    unfold DtL at h g
    subst h g
    exact .nil
  | d :: r, _, _, hp, hd, h, g => by
    unfold plainL at hp
    unfold DtL at h g
    rw [PyData.depthAll] at hd
    obtain ⟨v, t, rfl, h1, h2⟩ := h
    obtain ⟨v', t', rfl, g1, g2⟩ := g
    exact .cons ⟨d, hp.1, by omega, h1, g1⟩ (same_list (n := n) hp.2 (by omega) h2 g2)
theorem same_keys {H : Hp} : ∀ {ds : List (PyData × PyData)} {xs ys : List (Key × V)}, plainK ds → DtK H ds xs → DtK H ds ys → xs.map (·.1) = ys.map (·.1)
  | [], _, _, _, h, g => by
    unfold DtK at h g
    subst h g
    rfl
  | (k, d) :: r, _, _, hp, h, g => by
    unfold plainK at hp
    unfold DtK at h g
    obtain ⟨x, v, t, rfl, hk, h1, h2⟩ := h
    obtain ⟨x', v', t', rfl, hk', g1, g2⟩ := g
    have e : x = x' := by
      rw [hk] at hk'
      cases x with
      | inl i => cases x' with
        | inl j => cases hk'; rfl
        | inr j => cases hk'
      | inr i => cases x' with
        | inl j => cases hk'
        | inr j => cases hk'; rfl
    rw [List.map_cons, List.map_cons, same_keys hp.2.2 h2 g2, e]
theorem val_cons {ls : List (Key × V)} {p : Key × V} {k : Key} {u : V} (h : valV ls k = some u) (hn : p.1 ∉ ls.map (·.1)) : valV (p :: ls) k = some u := by
  rw [valV_neg (p := p) fun e => ?_]
  · exact h
  · unfold valV at h
    cases f : ls.find? fun kv => decide (kv.1 = k) with
    | none =>
      rw [f] at h
      cases h
    | some q =>
      have h1 := List.mem_of_find?_eq_some f
      have h2 := List.find?_some f
      have h2 : q.1 = k := of_decide_eq_true h2
      exact hn (by rw [e, ← h2]; exact List.mem_map_of_mem h1)
theorem same_dict {H : Hp} {n : Nat} : ∀ {ds : List (PyData × PyData)} {xs ys : List (Key × V)}, plainK ds → PyData.depthKv ds ≤ n → (xs.map (·.1)).Nodup → DtK H ds xs → DtK H ds ys → ∀ p ∈ xs, ∃ u, valV ys p.1 = some u ∧ Same H n p.2 u
  | [], _, _, _, _, _, h, _ => by
    unfold DtK at h
    subst h
    exact nofun
  | (k, d) :: r, _, _, hp, hd, nd, h, g => by
    have hkeys := same_keys hp h g
    unfold plainK at hp
    unfold DtK at h g
    rw [PyData.depthKv] at hd
    obtain ⟨x, v, t, rfl, hk, h1, h2⟩ := h
    obtain ⟨x', v', t', rfl, hk', g1, g2⟩ := g
    rw [List.map_cons, List.map_cons] at hkeys
    have ex : x = x' := (List.cons.inj hkeys).1
    have et : t.map (·.1) = t'.map (·.1) := (List.cons.inj hkeys).2
    subst ex
    rw [List.map_cons, List.nodup_cons] at nd
    intro p hpm
    rcases List.mem_cons.mp hpm with rfl | hpm
    · exact ⟨v', valV_pos (p := (x, v')) rfl, d, hp.2.1, by omega, h1, g1⟩
    · obtain ⟨u, hu1, hu2⟩ := same_dict (n := n) hp.2.2 (by omega) nd.2 h2 g2 p hpm
      exact ⟨u, val_cons hu1 (by show x ∉ _; rw [← et]; exact nd.1), hu2⟩
theorem plain_no_odd {H : Hp} {ds : List (PyData × PyData)} {k v : V} (hp : plainK ds) (h : DtO H ds k v) : False := by
  match ds, hp, h with
  | [], _, h => unfold DtO at h; exact h
  | (kd, d) :: r, hp, h =>
    unfold DtO at h
    unfold plainK at hp
    obtain ⟨x, e⟩ := hp.1
    exact h.2.1 x e
section
variable {X : Cx} {pins : List (Addr × Obj)} {σ : L2.St} {H : Hp} {s : Shared}
theorem rd_list (I : L2.Inv X pins σ H s) {a : Addr} {xs : List V} (h : L2.Rd H a (.lst xs)) : ∃ us, Vals xs us ∧ s.heap.IsList a us.toArray := by
  obtain ⟨us, r, p, _⟩ := I.list (.inl h)
  exact ⟨us, r, p.isList⟩
/-- equality, and inequality, of two places with the same data -/
theorem same_run (I : L2.Inv X pins σ H s) : ∀ (n : Nat) (A : Around), A.units + n + 1 < cLine → ∀ (x y : V) (v u : Value), Same H n x y → RelV x v → RelV y u → EqP X.prog X.w A s v u true
  | n, A, hu, x, y, v, u, ⟨d, hp, hd, h, g⟩, rx, ry => by
    cases d with
    | int i =>
      unfold Dt at h g
      subst h g
      exact (eqAt_same rx ry rfl).eqP
    | str i =>
      unfold Dt at h g
      subst h g
      exact (eqAt_same rx ry rfl).eqP
    | list ds =>
      unfold plainD at hp
      rw [PyData.depth] at hd
      match n, hd with
      | n + 1, hd =>
      unfold Dt at h g
      obtain ⟨a, xs, rfl, ha, hl⟩ := h
      obtain ⟨b, ys, rfl, hb, gl⟩ := g
      cases (show v = Value.ref a from rx)
      cases (show u = Value.ref b from ry)
      by_cases e : a = b
      · subst e
        exact (SeqAt.EqAt.same _).eqP
      obtain ⟨us, r1, p1⟩ := rd_list I ha
      obtain ⟨ws, r2, p2⟩ := rd_list I hb
      have pr := same_list (n := n) hp (by omega) hl gl
      have hsz : us.toArray.size = ws.toArray.size := by
        rw [List.size_toArray, List.size_toArray, ← r1.length, ← r2.length]
        exact Paired.length pr
      refine SeqAt.eqP_refs e fun E Q q => SeqAt.rcP_lists (e := fun _ => true) p1 p2 hsz (by omega) (fun j h1 h2 => ?_) E Q ?_
      · have k := items_run (same_run I n A.in1 (by show A.units + 1 + n + 1 < cLine; omega)) pr r1 r2 j (by simpa using h1) (by simpa using h2)
        simpa using k
      · rw [show ((List.range us.toArray.size).all fun _ => true) = true from List.all_eq_true.mpr fun _ _ => rfl]
        exact q
    | dict kvs =>
      unfold plainD at hp
      rw [PyData.depth] at hd
      match n, hd with
      | n + 1, hd =>
      unfold Dt at h g
      obtain ⟨a, rfl, ⟨es, ha, nd, hl⟩ | ⟨k1, k2, _, hl⟩⟩ := h
      rotate_left
      · exact (plain_no_odd hp hl).elim
      obtain ⟨b, rfl, ⟨fs, hb, nd', gl⟩ | ⟨k1, k2, _, gl⟩⟩ := g
      rotate_left
      · exact (plain_no_odd hp gl).elim
      cases (show v = Value.ref a from rx)
      cases (show u = Value.ref b from ry)
      by_cases e : a = b
      · subst e
        exact (SeqAt.EqAt.same _).eqP
      obtain ⟨_, ya, va, ra, da⟩ := (show ObjOk X.prog X.w H s.heap a (.dK es) from ha.ok I.hok)
      obtain ⟨_, yb, vb, rb, db⟩ := (show ObjOk X.prog X.w H s.heap b (.dK fs) from hb.ok I.hok)
      have hlen : va.length = vb.length := by
        rw [← ra.length, ← rb.length]
        have := congrArg List.length (same_keys hp hl gl)
        rw [List.length_map, List.length_map] at this
        exact this
      refine SeqAt.eqP_refs e fun E Q q => PySem.W.rcP_dicts (knd := mixKind X.prog X.w) (r := true) ya yb da db (by omega) (fun _ => hits_run (same_run I n A.in1 (by show A.units + 1 + n + 1 < cLine; omega)) rb ra (same_dict (n := n) hp (by omega) nd hl gl)) E Q ?_
      rw [hlen]
      simpa using q
    | _ => unfold plainD at hp; exact hp.elim
end
/-- a != b of two with the same data -/
def rNeS : R2 := fun x y H Q => ∃ n, n ≤ 100 ∧ Same H n x y ∧ Q (.bl false) H
theorem op_neS {X : Cx} (hu : X.A.units + 180 < cLine) : OpR X (compareOp .NotEq) rNeS := by
  intro pins s σ H x y v u Q I rx ry h
  obtain ⟨n, hn, ⟨d, hp, hd, h, g⟩, q⟩ := h
  cases d with
  | int i =>
    unfold Dt at h g
    subst h g
    exact op_ne pins s σ H _ _ v u Q I rx ry ⟨rfl, by rw [decide_eq_true rfl]; exact q⟩
  | str i =>
    unfold Dt at h g
    subst h g
    exact op_ne pins s σ H _ _ v u Q I rx ry ⟨rfl, by rw [decide_eq_true rfl]; exact q⟩
  | list ds =>
    unfold plainD at hp
    rw [PyData.depth] at hd
    unfold Dt at h g
    obtain ⟨a, xs, rfl, ha, hl⟩ := h
    obtain ⟨b, ys, rfl, hb, gl⟩ := g
    cases (show v = Value.ref a from rx)
    cases (show u = Value.ref b from ry)
    obtain ⟨us, r1, p1⟩ := rd_list I ha
    obtain ⟨ws, r2, p2⟩ := rd_list I hb
    have pr := same_list (n := n) hp (by omega) hl gl
    have hsz : us.toArray.size = ws.toArray.size := by
      rw [List.size_toArray, List.size_toArray, ← r1.length, ← r2.length]
      exact Paired.length pr
    refine rcne_lists p1 p2 hsz (by omega) (fun j h1 h2 => ?_) _ _ ⟨.bl false, H, I, rfl, q⟩
    have k := items_run (same_run I n X.A.in1 (by show X.A.units + 1 + n + 1 < cLine; omega)) pr r1 r2 j (by simpa using h1) (by simpa using h2)
    simpa using k
  | dict kvs =>
    unfold plainD at hp
    rw [PyData.depth] at hd
    unfold Dt at h g
    obtain ⟨a, rfl, ⟨es, ha, nd, hl⟩ | ⟨k1, k2, _, hl⟩⟩ := h
    rotate_left
    · exact (plain_no_odd hp hl).elim
    obtain ⟨b, rfl, ⟨fs, hb, nd', gl⟩ | ⟨k1, k2, _, gl⟩⟩ := g
    rotate_left
    · exact (plain_no_odd hp gl).elim
    cases (show v = Value.ref a from rx)
    cases (show u = Value.ref b from ry)
    obtain ⟨_, ya, va, ra, da⟩ := (show ObjOk X.prog X.w H s.heap a (.dK es) from ha.ok I.hok)
    obtain ⟨_, yb, vb, rb, db⟩ := (show ObjOk X.prog X.w H s.heap b (.dK fs) from hb.ok I.hok)
    have hlen : va.length = vb.length := by
      rw [← ra.length, ← rb.length]
      have := congrArg List.length (same_keys hp hl gl)
      rw [List.length_map, List.length_map] at this
      exact this
    exact rcne_dicts (knd := mixKind X.prog X.w) ya yb da db (by omega) hlen (hits_run (same_run I n X.A.in1 (by show X.A.units + 1 + n + 1 < cLine; omega)) rb ra (same_dict (n := n) hp (by omega) nd hl gl)) _ _ ⟨.bl false, H, I, rfl, q⟩
  | _ => unfold plainD at hp; exact hp.elim
end LW

namespace LW
open PySem PySem.Spec L2 PySem.SeqAt
open AutoSeq1 (wpAny_loadPart')
open MeetsSeq MeetsSeq2 MeetsSeq3 SeqRoads2
theorem tuple_no_dict (p a : Addr) (xs : Array Value) (n : Nat) (dp dq : Option Addr) (sp sq : Array (Option Value)) (da : Data) :
    Meets (Builtin.«tuple.__eq__» ⟨[.ref p, .ref a], []⟩) (fun _ R s => s.heap.get? p = some ⟨.type "tuple", dp, .seq xs n, sp⟩ ∧ s.heap.get? a = some ⟨.type "dict", dq, da, sq⟩ ∧ R (.ok (.ret .notImplemented)) s) :=
  .of_wp fun prog w A R s h => by
    obtain ⟨hp, g, d, tk, os⟩ := s
    obtain ⟨h1, h2, h⟩ := h
    have sub := F.sub_dict_tuple
    wp_walk using wpAny_loadPart' h1, wpAny_loadPart' h2
    exact ⟨_, rfl, h⟩
theorem int_no_dict (i : Int) (u : Tok) (a : Addr) (dq : Option Addr) (sq : Array (Option Value)) (da : Data) :
    Meets (Builtin.«int.__eq__» ⟨[.int i u, .ref a], []⟩) (fun _ R s => s.heap.get? a = some ⟨.type "dict", dq, da, sq⟩ ∧ (∀ k es, da ≠ .seq k es) ∧ (∃ es ep, da = .dict es ep) ∧ R (.ok (.ret .notImplemented)) s) :=
  .of_wp fun prog w A R s h => by
    obtain ⟨hp, g, d, tk, os⟩ := s
    obtain ⟨h2, _, ⟨es, ep, rfl⟩, h⟩ := h
    wp_walk using wpAny_loadPart' h2, wpAny_load h2
    exact ⟨_, rfl, h⟩
theorem str_no_dict (i : Str) (u : Tok) (a : Addr) (dq : Option Addr) (sq : Array (Option Value)) (da : Data) :
    Meets (Builtin.«str.__eq__» ⟨[.str i u, .ref a], []⟩) (fun _ R s => s.heap.get? a = some ⟨.type "dict", dq, da, sq⟩ ∧ (∃ es ep, da = .dict es ep) ∧ R (.ok (.ret .notImplemented)) s) :=
  .of_wp fun prog w A R s h => by
    obtain ⟨hp, g, d, tk, os⟩ := s
    obtain ⟨h2, ⟨es, ep, rfl⟩, h⟩ := h
    wp_walk using wpAny_loadPart' h2, wpAny_load h2
    exact ⟨_, rfl, h⟩
section
variable {prog : Program} {w : World} {A : Around} {E : Value → Shared → Prop} {s : Shared}
theorem dict_no {a : Addr} {x : Value} {T : String} {Q : Value → Shared → Prop} (ta : s.TypeIs (.ref a) "dict") (tx : s.TypeIs x T) (hs : isSubtype (.type T) (.type "dict") = pure false) (h : Q .notImplemented s) :
    wpAny (model prog w) A (call (.builtin "dict.__eq__") [.ref a, x]) Q E s := by
  refine wpAny_call_entry F.slot_dict_eq ta F.entry_dict_eq ?_ (F.args_dict_eq_2 _ _)
  show wpAny _ _ (Builtin.Dict.dictSlotArgs "__eq__" ⟨[Value.ref a, x], []⟩ >>= _) _ _ s
  apply wpAny_bind
  unfold Builtin.Dict.dictSlotArgs
  refine wpAny_bind (wpAny_notOrdered_dict ta (show wpAny _ _ (pure (Value.ref a, x)) _ _ s from wpAny_pure (wpAny_bind (wpAny_isInstance (T := T) tx hs ?_))))
  simp only [Bool.not_false, if_true]
  refine wpAny_bind (wpAny_rule ?_)
  exact wpAny_bind (wpAny_pure (wpAny_pure ⟨_, rfl, h⟩))
end
section
variable {A : Around} {s : Shared} {a : Addr} {o : Obj} {es : Array DictEntry} {ep : Nat}
theorem eqAt_int_dict {i : Int} {t : Tok} (ho : s.heap.get? a = some o) (hx : o.ExactDict) (hd : o.data = .dict es ep) (hu : A.units < cLine) : EqAt A s (.int i t) (.ref a) false := by
  intro prog w E Q h
  obtain ⟨c, dq, da, sq⟩ := o
  have hc : c = .type "dict" := hx.1
  subst hc
  simp only at hd
  unfold eqBool
  refine wpAny_holding (wpAny_ite_split (fun hab => absurd (eq_of_beq hab) nofun) fun _ => wpAny_bind ?_)
  refine rc_eq_decline_or (k := false) rfl ⟨_, ho, rfl⟩ (by decide) F.sub_dict_int F.slot_int_eq F.slot_dict_eq_refl (fun _ hq => ?_) (fun _ hq => ?_) (fun _ hq => wpAny_of_eq (rfl : isSame (.int i t) (.ref a) = pure false) hq) (.inr hu) (wpAny_truthy_bool h)
  · exact call_meets F.slot_int_eq rfl F.entry_int_eq (F.args_int_eq_2 _ _) (int_no_dict i t a dq sq da) ⟨ho, (fun _ _ z => by rw [hd] at z; cases z), ⟨es, ep, hd⟩, hq⟩
  · exact dict_no ⟨_, ho, rfl⟩ (T := "int") rfl F.sub_int_dict hq
theorem eqAt_str_dict {i : Str} {t : Tok} (ho : s.heap.get? a = some o) (hx : o.ExactDict) (hd : o.data = .dict es ep) (hu : A.units < cLine) : EqAt A s (.str i t) (.ref a) false := by
  intro prog w E Q h
  obtain ⟨c, dq, da, sq⟩ := o
  have hc : c = .type "dict" := hx.1
  subst hc
  simp only at hd
  unfold eqBool
  refine wpAny_holding (wpAny_ite_split (fun hab => absurd (eq_of_beq hab) nofun) fun _ => wpAny_bind ?_)
  refine rc_eq_decline_or (k := false) rfl ⟨_, ho, rfl⟩ (by decide) F.sub_dict_str F.slot_str_eq F.slot_dict_eq_refl (fun _ hq => ?_) (fun _ hq => ?_) (fun _ hq => wpAny_of_eq (rfl : isSame (.str i t) (.ref a) = pure false) hq) (.inr hu) (wpAny_truthy_bool h)
  · exact call_meets F.slot_str_eq rfl F.entry_str_eq (F.args_str_eq_2 _ _) (str_no_dict i t a dq sq da) ⟨ho, ⟨es, ep, hd⟩, hq⟩
  · exact dict_no ⟨_, ho, rfl⟩ (T := "str") rfl F.sub_str_dict hq
theorem eqAt_tuple_dict {p : Addr} {xs : Array Value} (hp : s.heap.IsTuple p xs) (ho : s.heap.get? a = some o) (hx : o.ExactDict) (hu : A.units < cLine) : EqAt A s (.ref p) (.ref a) false := by
  have ne : p ≠ a := fun e => by
    obtain ⟨o2, h2, hc2, _⟩ := hp
    rw [e, ho] at h2
    cases h2
    have h1 : o.cls = .type "dict" := hx.1
    rw [h1] at hc2
    exact absurd hc2 (by simp)
  obtain ⟨⟨c, dp, dd, sp⟩, hp2, hc, n, hd⟩ := hp
  simp only at hc hd
  subst hc hd
  obtain ⟨c, dq, da, sq⟩ := o
  have hc : c = .type "dict" := hx.1
  subst hc
  refine .of_refs ne fun prog w E Q h => ?_
  refine rc_eq_decline_or (k := false) ⟨_, hp2, rfl⟩ ⟨_, ho, rfl⟩ (by decide) F.sub_dict_tuple F.slot_tuple_eq F.slot_dict_eq_refl (fun _ hq => ?_) (fun _ hq => ?_) (fun _ hq => wpAny_isSame_ref_other' ne hp2 ho (by simp) hq) (.inr hu) h
  · exact call_meets F.slot_tuple_eq ⟨_, hp2, rfl⟩ F.entry_tuple_eq (F.args_tuple_eq_2 _ _) (tuple_no_dict p a xs n dp dq sp sq da) ⟨hp2, ho, hq⟩
  · exact dict_no ⟨_, ho, rfl⟩ (T := "tuple") ⟨_, hp2, rfl⟩ F.sub_tuple_dict hq
end
/-- texts and ints -/
def flat2 (x : V) : Prop := (∃ i, x = .int i) ∨ ∃ y, x = .str y
/-- x not in l, x a dict or a tuple of one dict, l a list of tuples of ints and texts -/
def rNotO (K : PySem.W.Frag) : R2 := fun x y H Q => ∃ (l : Addr) (ts : List V), y = .ref l ∧ SqL K H l ts ∧ (∀ t ∈ ts, ∃ b vs, t = .ref b ∧ L2.Rd H b (.tup vs) ∧ ∀ u ∈ vs, flat2 u) ∧
  ((∃ a ks, x = .ref a ∧ L2.Rd H a (.dK ks)) ∨ ∃ p a ks, x = .ref p ∧ L2.Rd H p (.tup [.ref a]) ∧ L2.Rd H a (.dK ks)) ∧ Q (.bl true) H
theorem vals_mem {xs : List V} {us : List Value} (r : Vals xs us) {u : Value} (h : u ∈ us) : ∃ x ∈ xs, RelV x u := by
  obtain ⟨i, hi⟩ := List.mem_iff_getElem?.mp h
  obtain ⟨x, h1, h2⟩ := Paired.get' r hi
  exact ⟨x, List.mem_of_getElem? h1, h2⟩
section
variable {X : Cx} {pins : List (Addr × Obj)} {σ : L2.St} {H : Hp} {s : Shared}
theorem rd_tup (I : L2.Inv X pins σ H s) {a : Addr} {xs : List V} (h : L2.Rd H a (.tup xs)) : ∃ us, Vals xs us ∧ s.heap.IsTuple a us.toArray := by
  obtain ⟨_, us, r, o, e, hc, n, hd⟩ := (show ObjOk X.prog X.w H s.heap a (.tup xs) from h.ok I.hok)
  exact ⟨us, r, o, e, hc, n, hd⟩
theorem rd_dk (I : L2.Inv X pins σ H s) {a : Addr} {ks : List (Key × V)} (h : L2.Rd H a (.dK ks)) : ∃ o es ep, s.heap.get? a = some o ∧ o.ExactDict ∧ o.data = .dict es ep := by
  obtain ⟨_, _, _, _, o, es, ep, e, hx, hd, _⟩ := (show ObjOk X.prog X.w H s.heap a (.dK ks) from h.ok I.hok)
  exact ⟨o, es, ep, e, hx, hd⟩
end
theorem op_notO {X : Cx} (K : PySem.W.Frag) (hu : X.A.units + 64 < cLine) (hK : X.K = K := by rfl) : OpR X (compareOp .NotIn) (rNotO K) := by
  subst hK
  intro pins s σ H x y v u Q I rx ry h
  obtain ⟨l, ts, rfl, hl, hts, hx, q⟩ := h
  cases (show u = Value.ref l from ry)
  obtain ⟨us, r1, p1, _⟩ := I.list hl
  refine notIn_listAt (fun _ => false) p1.isList (fun yv hy => ?_) ?_
  · obtain ⟨t, htm, rt⟩ := vals_mem r1 (u := yv) (by simpa using hy)
    obtain ⟨b, vs, rfl, hb, hfl⟩ := hts t htm
    cases (show yv = Value.ref b from rt)
    obtain ⟨ws, r2, p2⟩ := rd_tup I hb
    rcases hx with ⟨a, ks, rfl, ha⟩ | ⟨p, a, ks, rfl, hp, ha⟩
    · cases (show v = Value.ref a from rx)
      obtain ⟨o, es, ep, ho, hx, hd⟩ := rd_dk I ha
      exact eqAt_tuple_dict p2 ho hx (by show X.A.units + 1 < cLine; omega)
    · cases (show v = Value.ref p from rx)
      obtain ⟨o, es, ep, ho, hx, hd⟩ := rd_dk I ha
      obtain ⟨zs, r3, p3⟩ := rd_tup I hp
      cases r3 with
      | @cons _ z _ _ rz rn =>
        cases rn
        cases (show z = Value.ref a from rz)
        by_cases e : b = p
        · subst e
          obtain ⟨o1, h1, h2, n1, h3⟩ := p2
          obtain ⟨o2, g1, g2, n2, g3⟩ := p3
          rw [h1] at g1
          cases g1
          rw [h3] at g3
          have g4 : ws.toArray = #[Value.ref a] := by
            cases g3
            rfl
          have g5 : ws = [Value.ref a] := by simpa using congrArg Array.toList g4
          subst g5
          cases r2 with
          | @cons v1 _ _ _ rv rn =>
            rcases hfl v1 List.mem_cons_self with ⟨i, rfl⟩ | ⟨i, rfl⟩
            · obtain ⟨t, ht⟩ := rv
              cases ht
            · obtain ⟨t, ht⟩ := rv
              cases ht
        · have rt := RcAt.tuples (A := X.A.in1) (e := fun _ => false) p2 p3 (by show X.A.units + 1 < cLine; omega) (fun j h1 h2 => by
            have hj : j = 0 := by
              have : j < 1 := by simpa using h2
              omega
            subst hj
            have h1' : 0 < ws.length := by simpa using h1
            obtain ⟨v1, hv1, rv1⟩ := vals_mem r2 (u := ws[0]) (List.getElem_mem h1')
            have e1 : (#[Value.ref a] : Array Value)[0] = .ref a := rfl
            have e2 : ws.toArray[0] = ws[0] := by simp
            rw [e2]
            show EqAt _ _ _ (.ref a) false
            rcases hfl v1 hv1 with ⟨i, rfl⟩ | ⟨i, rfl⟩
            · obtain ⟨t, ht⟩ := rv1
              rw [ht]
              exact eqAt_int_dict ho hx hd (by show X.A.units + 1 + 1 < cLine; omega)
            · obtain ⟨t, ht⟩ := rv1
              rw [ht]
              exact eqAt_str_dict ho hx hd (by show X.A.units + 1 + 1 < cLine; omega))
          have er : ((List.range (min ws.toArray.size (#[Value.ref a] : Array Value).size)).all (fun _ => false) && ws.toArray.size == (#[Value.ref a] : Array Value).size) = false := by
            cases ws with
            | nil => rfl
            | cons w1 wr =>
              have : min (w1 :: wr).toArray.size (#[Value.ref a] : Array Value).size = 1 := by simp
              rw [this]
              rfl
          have rt' : RcAt X.A.in1 s (.ref b) (.ref p) false := by
            rw [← er]
            exact rt
          exact .of_refs e rt'
  · have e : (us.toArray.any fun _ => false) = false := by simp
    rw [e]
    exact ⟨.bl true, H, I, rfl, q⟩
end LW

namespace LW
open PySem PySem.Spec L2 PySem.SeqAt
/-- x != y, two pairs of the same two texts -/
def rNe2 : R2 := fun x y H Q => ∃ (p q : Addr) (a b : Str), x = .ref p ∧ y = .ref q ∧ L2.Rd H p (.tup [.str a, .str b]) ∧ L2.Rd H q (.tup [.str a, .str b]) ∧ Q (.bl false) H
theorem op_ne2 {X : Cx} (hu : X.A.units + 64 < cLine) : OpR X (compareOp .NotEq) rNe2 := by
  intro pins s σ H x y v u Q I rx ry h
  obtain ⟨p, q, a, b, rfl, rfl, hp, hq, k⟩ := h
  cases (show v = Value.ref p from rx)
  cases (show u = Value.ref q from ry)
  obtain ⟨us, r1, p1⟩ := rd_tup I hp
  obtain ⟨ws, r2, p2⟩ := rd_tup I hq
  cases r1 with
  | cons a1 r1 => cases r1 with
    | cons a2 r1 =>
      cases r1
      cases r2 with
      | cons b1 r2 => cases r2 with
        | cons b2 r2 =>
          cases r2
          obtain ⟨t1, rfl⟩ := a1
          obtain ⟨t2, rfl⟩ := a2
          obtain ⟨t3, rfl⟩ := b1
          obtain ⟨t4, rfl⟩ := b2
          have rt := RcNeAt.tuples (A := X.A) (e := fun _ => true) p1 p2 (by omega) (fun j h1 h2 => by
            have : j = 0 ∨ j = 1 := by
              have : j < 2 := by simpa using h1
              omega
            rcases this with rfl | rfl
            · have q := EqAt.str_str (A := X.A.in1) (s := s) a t1 a t3
              rw [beq_self_eq_true] at q
              exact q
            · have q := EqAt.str_str (A := X.A.in1) (s := s) b t2 b t4
              rw [beq_self_eq_true] at q
              exact q)
          refine rt _ _ _ _ ?_
          exact ⟨.bl false, H, I, rfl, k⟩
def rNotA (K : PySem.W.Frag) : R2 := fun x y H Q => rNotInD K x y H Q ∨ rNotO K x y H Q
theorem op_notA {X : Cx} (K : PySem.W.Frag) (hu : X.A.units + 180 < cLine) (hK : X.K = K := by rfl) : OpR X (compareOp .NotIn) (rNotA K) := by
  subst hK
  intro pins s σ H x y v u Q I rx ry h
  rcases h with h | h
  · exact op_notInD (by omega) pins s σ H x y v u Q I rx ry h
  · exact op_notO _ (by omega) rfl pins s σ H x y v u Q I rx ry h
end LW

namespace LW
open PySem PySem.Spec L2 PySem.SeqAt
section
variable {prog : Program} {w : World} {κ : Type} [DecidableEq κ] {knd : HeapKind prog w κ} {A : Around} {E : Value → Shared → Prop} {s : Shared}
theorem at_entries {es : Array DictEntry} {xs : List (κ × Addr × Value)} (he : es.toList = xs.map (entryOfKey knd)) (i : Nat) : es[i]? = xs[i]?.map (entryOfKey knd) := by
  rw [← Array.getElem?_toList, he, List.getElem?_map]
/-- two dicts of keys in the heap, each entry of the one equal to one of the other -/
theorem samePairsH {nm : String} {a b : Addr} {xs ys : List (κ × Addr × Value)} {Q : Bool → Shared → Prop} (ha : (a == sysModules) = false) (hb : (b == sysModules) = false) (da : s.heap.DictOfH knd a xs) (db : s.heap.DictOfH knd b ys)
    (hu : knd.room A) (hl : xs.length = ys.length) (hits : ∀ x ∈ xs, ∃ p : Addr × Value, (x.1, p) ∈ ys ∧ EqP prog w A s x.2.2 p.2 true) (h : Q true s) : wpAny (model prog w) A (Builtin.Dict.samePairs nm a b) Q E s := by
  obtain ⟨oa, es, ep, hoa, _, hda, hea, hia, hna⟩ := da
  obtain ⟨ob, fs, fp, hob, _, hdb, heb, hib, hnb⟩ := db
  have la : es.size = xs.length := by rw [← Array.length_toList, hea, List.length_map]
  have lb : fs.size = ys.length := by rw [← Array.length_toList, heb, List.length_map]
  have hsz : es.size = fs.size := by omega
  unfold Builtin.Dict.samePairs Builtin.Dict.showsAll
  rw [if_neg (show ¬ (a == sysModules) = true by rw [ha]; decide), if_neg (show ¬ (b == sysModules) = true by rw [hb]; decide)]
  refine wpAny_bind (wpAny_pure (wpAny_bind (wpAny_pure (wpAny_bind (wpAny_dictEntries hoa hda ?_)))))
  dsimp only
  refine wpAny_bind (wpAny_dictEntries hob hdb ?_)
  rw [if_neg (by rw [hsz]; simp)]
  refine wpAny_bind (wpAny_dictEpoch hoa hda (wpAny_bind ?_))
  rw [Std.Legacy.Range.forIn_eq_forIn_range']
  simp only [Std.Legacy.Range.size, Nat.sub_zero, Nat.add_sub_cancel, Nat.div_one]
  refine wpAny_forIn_list _ (fun rest q t => t = s ∧ q = (none, ()) ∧ ∃ i, rest = List.range' i (es.size - i) ∧ i ≤ es.size) _ ?_ ?_ _ _ ⟨rfl, rfl, 0, by simp, Nat.zero_le _⟩
  · rintro x rest q t ⟨rfl, rfl, i, hr, hi⟩
    have hlt : i < es.size := by
      by_cases z : i < es.size
      · exact z
      · rw [show es.size - i = 0 by omega] at hr
        cases hr
    have e1 : es.size - i = (es.size - (i + 1)) + 1 := by omega
    rw [e1, List.range'_succ] at hr
    obtain ⟨rfl, rfl⟩ := List.cons.inj hr
    refine wpAny_bind (wpAny_dictEntries hoa hda ?_)
    obtain ⟨⟨k, ka, v⟩, hx⟩ : ∃ y, xs[x]? = some y := ⟨_, List.getElem?_eq_getElem (by omega)⟩
    have hex : es[x]? = some ⟨knd.hash k, .ref ka, v⟩ := by
      rw [at_entries hea, hx]
      rfl
    rw [hex]
    obtain ⟨p, hp, heq⟩ := hits _ (List.mem_of_getElem? hx)
    show wpAny _ _ (holding [Value.ref ka, v] _ >>= _) _ _ _
    refine wpAny_bind (wpAny_holding (wpAny_bind (wpAny_dictFind_heap hu (hia _ (List.mem_of_getElem? hx)) hob hdb heb hib hnb (fun hno => ?_) (fun j p' hj => ?_))))
    · obtain ⟨j, hj⟩ := List.mem_iff_getElem?.mp hp
      exact (hno j p hj).elim
    · have hpp : p' = p := by
        obtain ⟨j2, hj2⟩ := List.mem_iff_getElem?.mp hp
        have : j = j2 := idxH_unique hnb hj hj2
        subst this
        rw [hj] at hj2
        cases hj2
        rfl
      subst hpp
      refine wpAny_bind (wpAny_dictEntries hob hdb ?_)
      rw [at_entries heb, hj]
      refine wpAny_holding (heq _ _ ?_)
      show wpAny _ _ (if (!true) = true then _ else _) _ _ _
      rw [if_neg (by decide)]
      refine wpAny_bind (wpAny_dictEpoch hoa hda ?_)
      rw [if_neg (by simp)]
      exact wpAny_pure ⟨rfl, rfl, x + 1, rfl, hlt⟩
  · rintro q t ⟨rfl, rfl, i, hr, hi⟩
    exact wpAny_pure h
theorem rcH_dicts {a b : Addr} {xs ys : List (κ × Addr × Value)} (ha : (a == sysModules) = false) (hb : (b == sysModules) = false) (da : s.heap.DictOfH knd a xs) (db : s.heap.DictOfH knd b ys) (hu : A.units < cLine)
    (hr : knd.room A.in1) (hl : xs.length = ys.length) (hits : ∀ x ∈ xs, ∃ p : Addr × Value, (x.1, p) ∈ ys ∧ EqP prog w A.in1 s x.2.2 p.2 true) (E Q : Value → Shared → Prop) (h : Q (.bool true) s) : wpAny (model prog w) A (richCompare .Eq (.ref a) (.ref b)) Q E s := by
  refine wpAny_richCompare_same_room (op := .Eq) da.typeIs db.typeIs F.slot_dict_eq (wpAny_call_entry F.slot_dict_eq da.typeIs F.entry_dict_eq ?_ (F.args_dict_eq_2 _ _)) hu
  show wpAny _ _ (Builtin.Dict.dictSlotArgs "__eq__" ⟨[Value.ref a, Value.ref b], []⟩ >>= _) _ _ s
  apply wpAny_bind
  unfold Builtin.Dict.dictSlotArgs
  refine wpAny_bind (wpAny_notOrdered_dict da.typeIs (show wpAny _ _ (pure (Value.ref a, Value.ref b)) _ _ s from wpAny_pure (wpAny_bind (wpAny_isInstance (T := "dict") db.typeIs F.sub_dict_dict ?_))))
  simp only [Bool.not_true, Bool.false_eq_true, if_false]
  refine wpAny_bind (wpAny_pure (wpAny_bind (wpAny_pure (wpAny_bind (samePairsH ha hb da db hr hl hits ?_)))))
  refine wpAny_pure ⟨_, rfl, (fun z => nomatch z), ?_⟩
  simpa using h
end
open AutoSeq1 (wpAny_loadPart')
open MeetsSeq MeetsSeq2 MeetsSeq3 SeqRoads2
section
variable {prog : Program} {w : World}
theorem tup_ne_same {p q : Addr} {xs ys : Array Value} {n m : Nat} {dp dq : Option Addr} {sp sq : Array (Option Value)} (hz : xs.size = ys.size) :
    MeetsIn prog w (Builtin.«tuple.__ne__» ⟨[.ref p, .ref q], []⟩) (fun A R s => s.heap.get? p = some ⟨.type "tuple", dp, .seq xs n, sp⟩ ∧ s.heap.get? q = some ⟨.type "tuple", dq, .seq ys m, sq⟩ ∧
        (∀ j (h1 : j < xs.size) (h2 : j < ys.size), EqP prog w A.in1 s xs[j] ys[j] true) ∧ R (.ok (.ret (.bool false))) s) :=
  .of_wp fun A R s h => by
    obtain ⟨hp, g, d, tk, os⟩ := s
    obtain ⟨h1, h2, he, h⟩ := h
    have sub := AutoSeq1.sub_tuple_tuple
    have hlen : (xs.toList.zip ys.toList).length = xs.size := by simp [hz]
    wp_walk using wpAny_loadPart' h1, wpAny_loadPart' h2, wpAny_forIn_list _ (fun rest b t => b.1 = none ∧ t = ⟨hp, g, d, tk, os⟩ ∧ ∃ i, rest = (xs.toList.zip ys.toList).drop i) _
    case turn =>
      rintro ⟨y, x⟩ rest b t ⟨hb, rfl, i, hr⟩
      have hlt : i < (xs.toList.zip ys.toList).length := by
        by_cases z : i < (xs.toList.zip ys.toList).length
        · exact z
        · rw [List.drop_of_length_le (by omega)] at hr
          cases hr
      rw [List.drop_eq_getElem_cons hlt] at hr
      obtain ⟨hyx, hrest⟩ := List.cons.inj hr
      have hi1 : i < xs.size := by omega
      have hi2 : i < ys.size := by omega
      have ey : y = xs[i] := by simpa using congrArg Prod.fst hyx
      have ex : x = ys[i] := by simpa using congrArg Prod.snd hyx
      subst ey ex
      refine wpAny_bind (he i hi1 hi2 _ _ ?_)
      wp_walk
      exact ⟨rfl, rfl, i + 1, hrest⟩
    case fin =>
      rintro ⟨b1, b2⟩ t ⟨hb, rfl, i, hr⟩
      simp only at hb
      subst hb
      wp_walk
      exact ⟨_, rfl, by simpa [Builtin.Tuple.tupleCompareSizes, bne, hz] using h⟩
    case h => exact ⟨rfl, rfl, 0, rfl⟩
theorem rcne_tups {A : Around} {s : Shared} {p q : Addr} {xs ys : Array Value} (ha : s.heap.IsTuple p xs) (hb : s.heap.IsTuple q ys) (hz : xs.size = ys.size) (hu : A.units < cLine)
    (he : ∀ j (h1 : j < xs.size) (h2 : j < ys.size), EqP prog w A.in1 s xs[j] ys[j] true) (E Q : Value → Shared → Prop) (h : Q (.bool false) s) : wpAny (model prog w) A (richCompare .NotEq (.ref p) (.ref q)) Q E s := by
  obtain ⟨⟨c1, d1, da1, s1⟩, o1, e1, n, e2⟩ := id ha
  obtain ⟨⟨c2, d2, da2, s2⟩, o2, e3, m, e4⟩ := id hb
  simp only at e1 e2 e3 e4
  subst e1 e2 e3 e4
  have t1 : s.TypeIs (.ref p) "tuple" := ⟨_, o1, rfl⟩
  have t2 : s.TypeIs (.ref q) "tuple" := ⟨_, o2, rfl⟩
  refine wpAny_richCompare_same_room (op := .NotEq) t1 t2 F.slot_tuple_ne (call_meetsIn F.slot_tuple_ne t1 F.entry_tuple_ne (F.args_tuple_ne_2 _ _) (tup_ne_same hz) ⟨o1, o2, he, ?_⟩) hu
  exact ⟨(fun z => nomatch z), h⟩
end
/-- the pairs of two tables, one by one: the same keys, values with the same shaped data -/
def TabS (K : PySem.W.Frag) (H : Hp) (p q : List Key × V) : Prop := p.1 = q.1 ∧ ∃ d, Dp K H p.2 d ∧ Dp K H q.2 d ∧ SeqAt.shaped d = true
/-- x != y, two pairs of a text and a table, both alike -/
def rNeT (K : PySem.W.Frag) : R2 := fun x y H Q => ∃ (p q a b : Addr) (z : Str) (ks ls : List (List Key × V)), x = .ref p ∧ y = .ref q ∧ L2.Rd H p (.tup [.str z, .ref a]) ∧ L2.Rd H q (.tup [.str z, .ref b]) ∧ L2.Rd H a (.dT ks) ∧ L2.Rd H b (.dT ls) ∧ Paired (TabS K H) ks ls ∧ Q (.bl false) H
theorem op_neT {X : Cx} (K : PySem.W.Frag) (hu : X.A.units + 180 < cLine) (hK : X.K = K := by rfl) : OpR X (compareOp .NotEq) (rNeT K) := by
  subst hK
  intro pins s σ H x y v u Q I rx ry h
  obtain ⟨p, q, a, b, z, ks, ls, rfl, rfl, hp, hq, ha, hb, hpr, k⟩ := h
  cases (show v = Value.ref p from rx)
  cases (show u = Value.ref q from ry)
  obtain ⟨us, r1, p1⟩ := rd_tup I hp
  obtain ⟨ws, r2, p2⟩ := rd_tup I hq
  cases r1 with
  | cons a1 r1 => cases r1 with
    | cons a2 r1 =>
      cases r1
      cases r2 with
      | cons b1 r2 => cases r2 with
        | @cons _ w2 _ _ b2 r2 =>
          cases r2
          obtain ⟨t1, rfl⟩ := a1
          obtain ⟨t3, rfl⟩ := b1
          rename_i w1
          cases (show w1 = Value.ref a from a2)
          cases (show w2 = Value.ref b from b2)
          refine rcne_tups p1 p2 rfl (by omega) (fun j h1 h2 => ?_) _ _ ⟨.bl false, H, I, rfl, k⟩
          have : j = 0 ∨ j = 1 := by
            have : j < 2 := by simpa using h1
            omega
          rcases this with rfl | rfl
          · have q := EqAt.str_str (A := X.A.in1) (s := s) z t1 z t3
            rw [beq_self_eq_true] at q
            exact q.eqP
          · show EqP X.prog X.w X.A.in1 s (.ref a) (.ref b) true
            by_cases e : a = b
            · subst e
              exact (SeqAt.EqAt.same _).eqP
            · obtain ⟨_, ya, xs, kx, dx⟩ := dt_rd I.hok ha
              obtain ⟨_, yb, ys, ky, dy⟩ := dt_rd I.hok hb
              refine SeqAt.eqP_refs e fun E Q q => rcH_dicts ya yb dx dy (by show X.A.units + 1 < cLine; omega) (by show X.A.units + 1 + 1 < cLine; omega) ?_ ?_ E Q q
              · rw [← Paired.len kx, ← Paired.len ky]
                exact Paired.len hpr
              · intro x hx
                obtain ⟨i, hi⟩ := List.mem_iff_getElem?.mp hx
                obtain ⟨k1, hk1, e1, _, rv1⟩ := Paired.get' kx hi
                obtain ⟨k2, hk2, e2, d, d1, d2, sh⟩ := Paired.get hpr hk1
                obtain ⟨y, hy, e3, _, rv2⟩ := Paired.get ky hk2
                refine ⟨y.2, ?_, ?_⟩
                · have : (x.1, y.2) = y := by rw [← e1, e2, e3]
                  rw [this]
                  exact List.mem_of_getElem? hy
                · obtain ⟨as, ra⟩ := Dp.reads I d _ _ d1 rv1
                  obtain ⟨bs, rb⟩ := Dp.reads I d _ _ d2 rv2
                  have q := SeqAt.eqAt_reads d d X.A.in1.in1 s _ _ as bs ra rb (SeqAt.canLay_of_shaped sh) (SeqAt.canLay_of_shaped sh) (SeqAt.room_of_shaped sh (by show X.A.units + 1 + 1 + 64 < cLine; omega))
                  rw [SeqAt.eqv_refl _ (SeqAt.canLay_of_shaped sh)] at q
                  exact q.eqP
end LW

namespace LW
open PySem PySem.Spec L2 PySem.SeqAt
section
variable {prog : Program} {w : World} {A : Around} {E : Value → Shared → Prop} {s : Shared}
/-- a text is no key of a table with tuples as keys -/
theorem find_str {d : Addr} {xs : List (List Key × Addr × Value)} {y : Str} {t : Tok} {h : Int} {Q : Option Nat → Shared → Prop} (hm : s.heap.DictOfH (tupleKind (mixKind prog w)) d xs) (hu : A.units < cLine) (hq : Q none s) :
    wpAny (model prog w) A (dictFind d (.str y t) h) Q E s := by
  obtain ⟨o, es, ep, ho, hc, hd, he, his, hn⟩ := hm
  have hkeys : ∀ e ∈ es, ∃ (k : List Key) (b : Addr), e.key = .ref b ∧ (tupleKind (mixKind prog w)).is s.heap k b := fun e hin => by
    have : e ∈ xs.map (entryOfKey (tupleKind (mixKind prog w))) := he ▸ Array.mem_toList_iff.mpr hin
    obtain ⟨x, hx, rfl⟩ := List.mem_map.mp this
    exact ⟨x.1, x.2.1, rfl, his x hx⟩
  unfold dictFind
  refine wpAny_holding (wpAny_bind (wpAny_dictEntries ho hd ?_))
  dsimp only
  by_cases hall : (es.all fun e => isExactStrKey e.key) = true
  · have hem : es = #[] := by
      cases hz : es.toList with
      | nil => exact Array.toList_eq_nil_iff.mp hz
      | cons e r =>
        have hin : e ∈ es := Array.mem_toList_iff.mp (by rw [hz]; exact List.mem_cons_self)
        obtain ⟨k, b, hk, _⟩ := hkeys e hin
        have := (Array.all_eq_true_iff_forall_mem.mp hall) e hin
        rw [hk] at this
        cases this
    subst hem
    rw [if_pos hall]
    unfold foundByValue
    rw [show Array.findIdx? (fun e : DictEntry => e.key.isStr y) #[] = none by simp]
    exact wpAny_pure hq
  · rw [if_neg hall]
    have hst : ∀ v ∈ (placesWithHash es.size (fun i => es[i]?.map (·.hash)) h).filterMap (fun i => es[i]?.map (·.key)), ∃ (k : List Key) (b : Addr), v = .ref b ∧ (tupleKind (mixKind prog w)).is s.heap k b := fun v hv => by
      obtain ⟨i, _, hi⟩ := List.mem_filterMap.mp hv
      cases hei : es[i]? with
      | none => rw [hei] at hi; cases hi
      | some e =>
        rw [hei] at hi
        have ev : e.key = v := by simpa using hi
        obtain ⟨k, b, hk, hb⟩ := hkeys e (Array.mem_of_getElem? hei)
        exact ⟨k, b, ev.symm.trans hk, hb⟩
    have heq : ∀ e ∈ es, ∀ Q' : Bool → Shared → Prop, Q' false s → wpAny (model prog w) A (eqBool e.key (.str y t)) Q' E s := fun e hin Q' q => by
      obtain ⟨k, b, hk, hb⟩ := hkeys e hin
      obtain ⟨ob, its, n, g1, g2, g3, _⟩ := hb
      rw [hk]
      exact EqAt.tuple_str y t ⟨ob, g1, g2, n, g3⟩ hu prog w E Q' q
    generalize hpl : placesWithHash es.size (fun i => es[i]?.map (·.hash)) h = pl at hst ⊢
    by_cases hc1 : ((Value.str y t :: pl.filterMap fun i => es[i]?.map (·.key)).all carriedByValue) = true
    · rw [if_pos hc1]
      unfold dictWalkPlain
      refine wpAny_bind (wpAny_forIn_list _ (fun rest b s' => s' = s ∧ b = (none, ())) _ ?_ ?_ _ _ ⟨rfl, rfl⟩)
      · rintro x rest b s' ⟨rfl, rfl⟩
        cases hx : es[x]? with
        | none => exact wpAny_pure ⟨rfl, rfl⟩
        | some e =>
          dsimp only
          by_cases hh : (e.hash == h) = true
          · rw [if_pos hh]
            refine wpAny_bind (wpAny_dictEpoch ho hd (wpAny_bind (heq e (Array.mem_of_getElem? hx) _ (wpAny_bind (wpAny_dictEpoch ho hd ?_)))))
            rw [if_neg (by simp)]
            simp only [Bool.false_eq_true, if_false]
            exact wpAny_bind (wpAny_rule (wpAny_pure ⟨rfl, rfl⟩))
          · rw [if_neg hh]
            exact wpAny_pure ⟨rfl, rfl⟩
      · rintro b s' ⟨rfl, rfl⟩
        exact wpAny_pure hq
    · rw [if_neg hc1]
      have hne : ¬ ((pl.filterMap fun i => es[i]?.map (·.key)) == [Value.str y t]) = true := fun z => by
        have z := eq_of_beq z
        obtain ⟨k, b, hb, _⟩ := hst (.str y t) (by rw [z]; exact List.mem_cons_self)
        cases hb
      rw [if_neg hne]
      have tells : ∀ Q' : Bool → Shared → Prop, Q' false s → wpAny (model prog w) A (tableMayTell (.str y t) (pl.filterMap fun i => es[i]?.map (·.key))) Q' E s := fun Q' q => by
        unfold tableMayTell
        split
        · exact wpAny_pure q
        · refine wpAny_bind (show wpAny _ _ (pure true) _ _ _ from wpAny_pure ?_)
          simp only [Bool.not_true, Bool.false_eq_true, if_false]
          refine wpAny_bind (wpAny_forIn_list _ (fun rest r s' => s' = s ∧ r = (none, ()) ∧ ∀ v ∈ rest, ∃ (k : List Key) (b : Addr), v = .ref b ∧ (tupleKind (mixKind prog w)).is s.heap k b) _ ?_ ?_ _ _ ⟨rfl, rfl, hst⟩)
          · rintro x rest r s' ⟨rfl, rfl, hr⟩
            obtain ⟨k, b, rfl, hb⟩ := hr x List.mem_cons_self
            refine wpAny_bind ((tupleKind (mixKind prog w)).quiet hb ?_)
            simp only [Bool.not_true, Bool.false_eq_true, if_false]
            exact wpAny_pure ⟨rfl, rfl, fun v hv => hr v (List.mem_cons_of_mem _ hv)⟩
          · rintro r s' ⟨rfl, rfl, _⟩
            exact wpAny_pure q
      refine wpAny_bind (tells _ ?_)
      rw [if_neg (by simp)]
      refine wpAny_bind (wpAny_forIn_list _ (fun rest b s' => s' = s ∧ b = (none, none)) _ ?_ ?_ _ _ ⟨rfl, rfl⟩)
      · rintro x rest b s' ⟨rfl, rfl⟩
        cases hx : es[x]? with
        | none => exact wpAny_pure ⟨rfl, rfl⟩
        | some e =>
          dsimp only
          by_cases hh : (e.hash == h) = true
          · rw [if_pos hh]
            refine wpAny_bind (wpAny_dictEpoch ho hd (wpAny_bind (heq e (Array.mem_of_getElem? hx) _ (wpAny_bind (wpAny_dictEpoch ho hd ?_)))))
            rw [if_neg (by simp)]
            simp only [Bool.false_eq_true, if_false, Bool.false_and]
            exact wpAny_bind (wpAny_rule (wpAny_pure ⟨rfl, rfl⟩))
          · rw [if_neg hh]
            exact wpAny_pure ⟨rfl, rfl⟩
      · rintro b s' ⟨rfl, rfl⟩
        exact wpAny_pure hq
/-- a text as a new key of such a table -/
theorem set_str {a : Addr} {xs : List (List Key × Addr × Value)} {y : Str} {t : Tok} {v : Value} {Q : Unit → Shared → Prop} (hm : s.heap.DictOfH (tupleKind (mixKind prog w)) a xs) (hu : A.units + 1 < cLine) (hsz : xs.length < sizeLine)
    (h : ∀ h' tk, (∃ o, h'.get? a = some o) → Heap.SameBut a s.heap h' → Q () { s with heap := h', toks := tk }) : wpAny (model prog w) A (setItem (.ref a) (.str y t) v) Q E s := by
  unfold setItem
  refine wpAny_holding (wpAny_bind (wpAny_sequenceKey hm.typeIs (by decide) ?_))
  refine wpAny_bind (wpAny_callSpecial?_slot (name := Str.ofString "__setitem__") hm.typeIs slot_dict_setitem (wpAny_call_entry slot_dict_setitem hm.typeIs entry_dict_setitem ?_ (args_dict_setitem _ _ _)))
  show wpAny _ _ (Builtin.Dict.notOrdered "__setitem__" ⟨[Value.ref a, Value.str y t, v], []⟩ >>= _) _ _ s
  refine wpAny_bind (wpAny_notOrdered_dict hm.typeIs (show wpAny _ _ (dictSet a (.str y t) v >>= _) _ _ s from wpAny_bind ?_))
  unfold dictSet
  refine wpAny_holding (wpAny_bind ((mixKind prog w).pyHash (k := (Sum.inr y : Key)) (v := .str y t) ?_ ?_))
  · show Value.isStrOf y (.str y t) = true
    simp [Value.isStrOf]
  · unfold dictSetHashed
    refine wpAny_holding (wpAny_bind (find_str (s := { s with toks := s.toks + 1 }) hm (by show A.units + 1 < cLine; omega) ?_))
    obtain ⟨o, es, ep, ho, hc, hd, he, his, hn⟩ := hm
    have hes : es.size = xs.length := by rw [← Array.length_toList, he, List.length_map]
    refine wpAny_bind (wpAny_rule (wpAny_updateDictKeys (hz := by omega) (s := { s with toks := s.toks + 1 }) ho hd ?_))
    refine wpAny_pure ⟨.none, rfl, wpAny_pure (h _ _ ?_ (Heap.SameBut.update ..))⟩
    exact ⟨_, Heap.get?_update_self _ ho (Obj.isFreed_of_dict (Obj.data_mapDictKeys hd _))⟩
end
/-- an object of which nothing is told any more -/
def junk (a : Addr) : HO := .ext fun h => ∃ o, h.get? a = some o
theorem junk_ok {P : Program} {w : World} {H : Hp} {h : Heap} {a : Addr} {o : Obj} (e : h.get? a = some o) : ObjOk P w H h a (junk a) := ⟨⟨o, e⟩, ⟨o, e⟩, fun h1 h2 z k => by
  obtain ⟨o, e⟩ := z
  exact ⟨o, k _ e⟩⟩
/-- o[y] = v, y a text, o a table with tuples as keys -/
def rSetS : TSet := fun o i v H Q => ∃ (a : Addr) (kvs : List (List Key × V)) (y : Str), o = .ref a ∧ i = .str y ∧ H a = some (.dT kvs) ∧ kvs.length < sizeLine ∧ Q (upd H a (junk a))
theorem setS {X : Cx} (hu : X.A.units + 1 < cLine) : PSet X rSetS := by
  intro pins s σ H o i v ov iv u Q I ro ri rv h
  obtain ⟨a, kvs, y, rfl, rfl, ha, hl, q⟩ := h
  cases (show ov = Value.ref a from ro)
  obtain ⟨t, rfl⟩ := ri
  obtain ⟨_, _, xs, kx, dx⟩ := dt_of I.hok ha
  refine set_str dx hu (by rw [← Paired.len kx]; exact hl) fun h' tk he hs => ⟨_, ?_, q⟩
  obtain ⟨o', he'⟩ := he
  exact d_write I (by rw [ha]; exact True.intro) hs ⟨o', he'⟩ (junk_ok he')
end LW

namespace LW
open PySem PySem.Spec PyProof.Rows L2 PySem.SeqAt
open Evl (Ex)
/-! ### data that the true heap reads, tables with it -/
def Rdb (H : Hp) (d : PyData) (v : V) : Prop := ∀ (P : Program) (w : World) (h : Heap), HOk P w H h → (∀ a o, H a = some o → a ≠ sysModules) → ∀ u, RelV v u → ∃ as, Reads h u d as ∧ sysModules ∉ as
theorem rdb_dt {H : Hp} {d : PyData} {v : V} (q : Dt H d v) : Rdb H d v := fun _ _ _ ok ns _ r => Dt.reads ok ns q r
def TabD (H : Hp) (p : List Key × V) (q : PyData × PyData) : Prop := q.1 = .tuple (p.1.map kD) ∧ Rdb H q.2 p.2
theorem key_dt {H : Hp} (k : Key) : Dt H (kD k) (kV k) := by
  cases k with
  | inl i =>
    show Dt H (.int i) (.int i)
    unfold Dt
    rfl
  | inr i =>
    show Dt H (.str i) (.str i)
    unfold Dt
    rfl
theorem keys_dt {H : Hp} : ∀ (k : List Key), DtL H (k.map kD) (k.map kV)
  | [] => DtL.nil
  | a :: k => DtL.cons (key_dt a) (keys_dt k)
theorem tab_reads {P : Program} {w : World} {H : Hp} {h : Heap} (ok : HOk P w H h) (ns : ∀ a o, H a = some o → a ≠ sysModules) : ∀ {kvs : List (List Key × V)} {xs : List (List Key × Addr × Value)} {ds : List (PyData × PyData)}, KT H kvs xs → Paired (TabD H) kvs ds →
    ∃ as bs, ReadsAll h ((xs.map (entryOfKey (tupleKind (mixKind P w)))).map (·.key)) (ds.map (·.1)) as ∧ ReadsAll h ((xs.map (entryOfKey (tupleKind (mixKind P w)))).map (·.val)) (ds.map (·.2)) bs ∧ sysModules ∉ as ∧ sysModules ∉ bs
  | _, _, _, .nil, .nil => ⟨[], [], .nil, .nil, nofun, nofun⟩
  | p :: _, (k, a, v) :: _, (kd, vd) :: _, .cons h1 t1, .cons h2 t2 => by
    obtain ⟨as, bs, g1, g2, n1, n2⟩ := tab_reads ok ns t1 t2
    obtain ⟨e1, e2, rv⟩ := h1
    obtain ⟨e3, rd⟩ := h2
    have e3 : kd = .tuple (p.1.map kD) := e3
    have e2 : H a = some (.tup (p.1.map kV)) := e2
    have dk : Dt H (.tuple (p.1.map kD)) (.ref a) := by
      unfold Dt
      exact ⟨a, _, rfl, .inl e2, keys_dt p.1⟩
    obtain ⟨cs, rk, n3⟩ := Dt.reads ok ns dk (show RelV (.ref a) (Value.ref a) from rfl)
    obtain ⟨es, rr, n4⟩ := rd P w h ok ns v rv
    refine ⟨cs ++ as, es ++ bs, ?_, .cons rr g2, fun z => (List.mem_append.mp z).elim n3 n1, fun z => (List.mem_append.mp z).elim n4 n2⟩
    refine .cons ?_ g1
    show Reads h (Value.ref a) kd cs
    rw [e3]
    exact rk
theorem rdb_tab {H : Hp} {a : Addr} {kvs : List (List Key × V)} {ds : List (PyData × PyData)} (ha : L2.Rd H a (.dT kvs)) (hp : Paired (TabD H) kvs ds) : Rdb H (.dict ds) (.ref a) := by
  intro P w h ok ns u r
  cases (show u = Value.ref a from r)
  obtain ⟨_, hs, xs, kt, o, es, ep, h1, h2, h3, h4, h5, h6⟩ := dt_rd ok ha
  obtain ⟨as, bs, g1, g2, n1, n2⟩ := tab_reads ok ns kt hp
  refine ⟨a :: as ++ bs, .dict h1 h2.1 h3 (by rw [h4]; exact g1) (by rw [h4]; exact g2), fun z => ?_⟩
  rcases List.mem_cons.mp z with z | z
  · exact (rd_some ha).elim fun _ q => ns a _ q z.symm
  · exact (List.mem_append.mp z).elim n1 n2
theorem rdb_two {H : Hp} {a : Addr} {x y : V} {d e : PyData} (ha : H a = some (.lst [x, y])) (hx : Rdb H d x) (hy : Rdb H e y) : Rdb H (.list [d, e]) (.ref a) := by
  intro P w h ok ns u r
  cases (show u = Value.ref a from r)
  obtain ⟨_, its, n, rv, eh⟩ := (show ObjOk P w H h a (.lst [x, y]) from ok a _ ha)
  cases rv with
  | cons r1 rv => cases rv with
    | cons r2 rv =>
      cases rv
      obtain ⟨as, a1, n1⟩ := hx P w h ok ns _ r1
      obtain ⟨bs, a2, n2⟩ := hy P w h ok ns _ r2
      refine ⟨a :: (as ++ (bs ++ [])), .list eh rfl rfl (.cons a1 (.cons a2 .nil)), fun z => ?_⟩
      rcases List.mem_cons.mp z with z | z
      · exact ns a _ ha z.symm
      · rw [List.append_nil] at z
        exact (List.mem_append.mp z).elim n1 n2
/-- repr of what is read -/
def rRepU : List V → Hp → VK → Prop := fun xs H Q => ∃ v d, xs = [v] ∧ Rdb H d v ∧ d.showable = true ∧ d.shown.length ≤ sizeLine ∧ d.depth ≤ 150 ∧ Q (.str d.shown) H
theorem call_reprU {X : Cx} (c : Calm X) : CallR X (.builtin "repr") rRepU := by
  intro pins s σ H xs us Q I r h
  obtain ⟨v, d, rfl, hd, hs, hz, hdp, q⟩ := h
  obtain ⟨u, rfl, ru⟩ := vals1 r
  have un := c.un
  obtain ⟨as, hr, hn⟩ := hd _ _ _ I.hok (inv_sys c.sy I) u ru
  cases hr with
  | none =>
    simp only [PyData.shown] at q
    exact PySem.P.repr_of_none ⟨.str _, H, I.tok _, ⟨_, rfl⟩, q⟩
  | bool b =>
    simp only [PyData.shown] at q
    exact PySem.P.repr_of_bool ⟨.str _, H, I.tok _, ⟨_, rfl⟩, q⟩
  | int i t =>
    simp only [PyData.shown] at q
    exact PySem.P.repr_of_int (by simpa [PyData.showable] using hs) ⟨.str _, H, I.tok _, ⟨_, rfl⟩, q⟩
  | str x t =>
    simp only [PyData.shown] at q hz
    exact PySem.P.repr_of_str ⟨.str _, H, I.tok _, ⟨_, rfl⟩, q⟩ hz
  | list h1 h2 h3 h4 => exact repr_of_reads' (.list h1 h2 h3 h4) hs (fun _ => hn) c.gd (by omega) (fun _ _ e => e) (fun h' u tk k => ⟨.str _, H, I.kept (t' := tk) k, ⟨_, rfl⟩, q⟩) hz
  | tuple h1 h2 h3 h4 => exact repr_of_reads' (.tuple h1 h2 h3 h4) hs (fun _ => hn) c.gd (by omega) (fun _ _ e => e) (fun h' u tk k => ⟨.str _, H, I.kept (t' := tk) k, ⟨_, rfl⟩, q⟩) hz
  | dict h1 h2 h3 h4 h5 => exact repr_of_reads' (.dict h1 h2 h3 h4 h5) hs (fun _ => hn) c.gd (by omega) (fun _ _ e => e) (fun h' u tk k => ⟨.str _, H, I.kept (t' := tk) k, ⟨_, rfl⟩, q⟩) hz
/-! ### two tables -/
section
variable {prog : Program} {w : World} {κ : Type} [DecidableEq κ] {knd : HeapKind prog w κ} {A : Around} {s : Shared}
theorem rcneH_dicts {a b : Addr} {xs ys : List (κ × Addr × Value)} (ha : (a == sysModules) = false) (hb : (b == sysModules) = false) (da : s.heap.DictOfH knd a xs) (db : s.heap.DictOfH knd b ys) (hu : A.units < cLine)
    (hr : knd.room A.in1) (hl : xs.length = ys.length) (hits : ∀ x ∈ xs, ∃ p : Addr × Value, (x.1, p) ∈ ys ∧ EqP prog w A.in1 s x.2.2 p.2 true) (E Q : Value → Shared → Prop) (h : Q (.bool false) s) : wpAny (model prog w) A (richCompare .NotEq (.ref a) (.ref b)) Q E s := by
  refine wpAny_richCompare_same_room (op := .NotEq) da.typeIs db.typeIs F.slot_dict_ne (wpAny_call_entry F.slot_dict_ne da.typeIs F.entry_dict_ne ?_ (F.args_dict_ne_2 _ _)) hu
  show wpAny _ _ (Builtin.Dict.dictSlotArgs "__ne__" ⟨[Value.ref a, Value.ref b], []⟩ >>= _) _ _ s
  apply wpAny_bind
  unfold Builtin.Dict.dictSlotArgs
  refine wpAny_bind (wpAny_notOrdered_dict da.typeIs (show wpAny _ _ (pure (Value.ref a, Value.ref b)) _ _ s from wpAny_pure (wpAny_bind (wpAny_isInstance (T := "dict") db.typeIs F.sub_dict_dict ?_))))
  simp only [Bool.not_true, Bool.false_eq_true, if_false]
  refine wpAny_bind (wpAny_pure (wpAny_bind (wpAny_pure (wpAny_bind (samePairsH ha hb da db hr hl hits ?_)))))
  refine wpAny_pure ⟨_, rfl, (fun z => nomatch z), ?_⟩
  simpa using h
end
def rNeTT (K : PySem.W.Frag) : R2 := fun x y H Q => ∃ (a b : Addr) (ks ls : List (List Key × V)), x = .ref a ∧ y = .ref b ∧ a ≠ b ∧ L2.Rd H a (.dT ks) ∧ L2.Rd H b (.dT ls) ∧ Paired (TabS K H) ks ls ∧ Q (.bl false) H
theorem op_neTT {X : Cx} (K : PySem.W.Frag) (hu : X.A.units + 180 < cLine) (hK : X.K = K := by rfl) : OpR X (compareOp .NotEq) (rNeTT K) := by
  subst hK
  intro pins s σ H x y v u Q I rx ry h
  obtain ⟨a, b, ks, ls, rfl, rfl, ne, ha, hb, hpr, k⟩ := h
  cases (show v = Value.ref a from rx)
  cases (show u = Value.ref b from ry)
  obtain ⟨_, ya, xs, kx, dx⟩ := dt_rd I.hok ha
  obtain ⟨_, yb, ys, ky, dy⟩ := dt_rd I.hok hb
  refine rcneH_dicts ya yb dx dy (by omega) (by show X.A.units + 1 < cLine; omega) ?_ ?_ _ _ ⟨.bl false, H, I, rfl, k⟩
  · rw [← Paired.len kx, ← Paired.len ky]
    exact Paired.len hpr
  · intro x hx
    obtain ⟨i, hi⟩ := List.mem_iff_getElem?.mp hx
    obtain ⟨k1, hk1, e1, _, rv1⟩ := Paired.get' kx hi
    obtain ⟨k2, hk2, e2, d, d1, d2, sh⟩ := Paired.get hpr hk1
    obtain ⟨y, hy, e3, _, rv2⟩ := Paired.get ky hk2
    refine ⟨y.2, ?_, ?_⟩
    · have : (x.1, y.2) = y := by rw [← e1, e2, e3]
      rw [this]
      exact List.mem_of_getElem? hy
    · obtain ⟨as, ra⟩ := Dp.reads I d _ _ d1 rv1
      obtain ⟨bs, rb⟩ := Dp.reads I d _ _ d2 rv2
      have q := SeqAt.eqAt_reads d d X.A.in1 s _ _ as bs ra rb (SeqAt.canLay_of_shaped sh) (SeqAt.canLay_of_shaped sh) (SeqAt.room_of_shaped sh (by show X.A.units + 1 + 64 < cLine; omega))
      rw [SeqAt.eqv_refl _ (SeqAt.canLay_of_shaped sh)] at q
      exact q.eqP
/-! ### d.clear(), d a table: nothing is told of it behind that -/
def rClrT : V → List V → Hp → VK → Prop := fun x vs H Q => ∃ (a : Addr) (kvs : List (List Key × V)), x = .ref a ∧ vs = [] ∧ H a = some (.dT kvs) ∧ Q .non (upd H a (junk a))
theorem mt_clrT {X : Cx} : MtR X "dict.clear" rClrT := by
  intro pins s σ H x vs v us Q I rx rv h
  obtain ⟨a, kvs, rfl, rfl, ha, q⟩ := h
  cases (show v = Value.ref a from rx)
  cases rv
  obtain ⟨hz, hs, xs, kx, o, es, ep, h1, h2, h3, h4, h5, h6⟩ := dt_of I.hok ha
  have hes : es.size ≤ sizeLine := by
    rw [← Array.length_toList, h4, List.length_map, ← Paired.len kx]
    exact hz
  have hm : s.heap.DictRaw a es ep := ⟨o, h1, h2, h3⟩
  refine call_meetsIn F.slot_dict_clear hm.typeIs F.entry_dict_clear (F.args_dict_clear_1 _) (meets_dict_clear_raw a) ⟨es, ep, hm, hes, fun h' hr hsb => ⟨.non, _, ?_, rfl, q⟩⟩
  obtain ⟨o', ho', _⟩ := hr
  exact d_write I (by rw [ha]; exact True.intro) hsb ⟨o', ho'⟩ (junk_ok ho')
/-! ### is not, of two bools -/
def rIsNB : R2 := fun x y H Q => ∃ a b, x = .bl a ∧ y = .bl b ∧ Q (.bl (a != b)) H
theorem op_isNB {X : Cx} : OpR X (compareOp .IsNot) rIsNB := by
  intro pins s σ H x y v u Q I rx ry h
  obtain ⟨a, b, rfl, rfl, q⟩ := h
  cases (show v = Value.bool a from rx)
  cases (show u = Value.bool b from ry)
  exact PyProof.Rows.isnot_bool ⟨.bl _, H, I, rfl, q⟩
/-! ### three of a kind -/
def rNe3 : R2 := fun x y H Q => ∃ (p q : Addr) (a b : Str) (c : Bool), x = .ref p ∧ y = .ref q ∧ L2.Rd H p (.tup [.str a, .str b, .bl c]) ∧ L2.Rd H q (.tup [.str a, .str b, .bl c]) ∧ Q (.bl false) H
theorem op_ne3 {X : Cx} (hu : X.A.units + 64 < cLine) : OpR X (compareOp .NotEq) rNe3 := by
  intro pins s σ H x y v u Q I rx ry h
  obtain ⟨p, q, a, b, c, rfl, rfl, hp, hq, k⟩ := h
  cases (show v = Value.ref p from rx)
  cases (show u = Value.ref q from ry)
  obtain ⟨us, r1, p1⟩ := rd_tup I hp
  obtain ⟨ws, r2, p2⟩ := rd_tup I hq
  cases r1 with
  | cons a1 r1 => cases r1 with
    | cons a2 r1 => cases r1 with
      | @cons _ w1 _ _ a3 r1 =>
        cases r1
        cases r2 with
        | cons b1 r2 => cases r2 with
          | cons b2 r2 => cases r2 with
            | @cons _ w2 _ _ b3 r2 =>
              cases r2
              obtain ⟨t1, rfl⟩ := a1
              obtain ⟨t2, rfl⟩ := a2
              obtain ⟨t3, rfl⟩ := b1
              obtain ⟨t4, rfl⟩ := b2
              cases (show w1 = Value.bool c from a3)
              cases (show w2 = Value.bool c from b3)
              refine rcne_tups p1 p2 rfl (by omega) (fun j h1 h2 => ?_) _ _ ⟨.bl false, H, I, rfl, k⟩
              have : j = 0 ∨ j = 1 ∨ j = 2 := by
                have : j < 3 := by simpa using h1
                omega
              rcases this with rfl | rfl | rfl
              · have q := EqAt.str_str (A := X.A.in1) (s := s) a t1 a t3
                rw [beq_self_eq_true] at q
                exact q.eqP
              · have q := EqAt.str_str (A := X.A.in1) (s := s) b t2 b t4
                rw [beq_self_eq_true] at q
                exact q.eqP
              · exact (SeqAt.EqAt.same _).eqP
/-! ### a dict of one entry, its key a tuple: as a table -/
def tDispT (tk tv : TE) : TE := fun σ H Q => ∀ p, H p = none → tPairs [(tk, tv)] σ (upd H p (.dK [])) fun ps H2 => ∃ t ks v, ps = [(.ref t, v)] ∧ H2 p = some (.dK []) ∧ H2 t = some (.tup (List.map kV ks)) ∧ Q (.ref p) (upd H2 p (.dT [(ks, v)]))
theorem pe_dispT {X : Cx} {k v : Expr} {tk tv : TE} {pos : Pos} (hu : X.A.units + 64 < cLine) (hk : PE X k tk) (hv : PE X v tv) : PE X (.Dict [some k] [v] pos) (tDispT tk tv) := by
  constructor
  intro pins s σ H Q I q
  have hn := I.hok.fresh (Nat.le_refl s.heap.objs.size)
  have I1 := I.laid (a := s.heap.objs.size) (o := .dK []) (h' := s.heap.push { cls := .type "dict", data := .dict #[] }) (t' := s.toks) (fun _ _ q => Heap.get?_push_of_some _ q) (Nat.le_refl _) (dk_empty s.heap I.big)
  refine wpAny_Dict_any (keys := [some k]) (values := [v]) rfl rfl nofun (by show 1 ≤ 15; decide) ?_
  refine thn ((pps_cons (pos := pos) hk hv pps_nil).run pins _ σ _ _ I1 (q _ hn)) ?_
  rintro ws s2 ⟨ps, H2, I2, rel, t, ks, vv, rfl, e, ht, q2⟩
  obtain ⟨_, hd, vs0, r0, dd⟩ := dk_of I2.hok e
  cases r0
  have nt : t ≠ s.heap.objs.size := fun z => by
    rw [z, e] at ht
    cases ht
  cases rel with
  | @cons a b as bs r1 r2 =>
    cases r2
    obtain ⟨b1, b2⟩ := b
    obtain ⟨rk, rv⟩ := r1
    cases (show b1 = Value.ref t from rk)
    have em : s2.heap.DictOfH (tupleKind (mixKind X.prog X.w)) s.heap.objs.size [] := by
      obtain ⟨o, es, ep, h1, h2, h3, h4, h5, h6⟩ := dd
      refine ⟨o, es, ep, h1, h2, h3, ?_, nofun, List.nodup_nil⟩
      cases h7 : es.toList with
      | nil => rfl
      | cons a b =>
        rw [h7] at h5
        cases h5
    refine PySem.wpAny_storeAllH (knd := tupleKind (mixKind X.prog X.w)) (show X.A.units < cLine by omega) [(.ref t, b2)] [(ks, t, b2)] [] s2 _ ⟨rfl, rfl, key_of I2.hok ht, True.intro⟩ em (by show 0 + 1 ≤ sizeLine; decide) ?_
    intro h' tk' dd' hs
    obtain ⟨o, es, ep, h1, h2, h3, h4, h5, h6⟩ := dd'
    refine ⟨.ref s.heap.objs.size, _, ?_, rfl, q2⟩
    refine d_write I2 (by rw [e]; exact True.intro) hs ⟨o, h1⟩ ?_
    refine ⟨by show 1 ≤ sizeLine; decide, hd, [(ks, t, b2)], .cons ⟨rfl, ?_, rv⟩ .nil, o, es, ep, h1, h2, h3, h4, h6⟩
    rw [upd_ne nt]
    exact ht
end LW

namespace LW
open PySem PySem.Spec PyProof.Rows L2 PySem.SeqAt HT
open Evl (Ex)
/-! ### cuts of tuples: a whole one is the tuple itself; t[::-1] -/
section
variable {prog : Program} {w : World} {A : Around} {E : Value → Shared → Prop} {s : Shared}
theorem getItem_tuple_all {t sl : Addr} {items : Array Value} {vl vu : Value} {lo hi : Option Int} {Q : Value → Shared → Prop} (ht : IsTup s.heap t items) (hs : s.heap.IsSliceOf sl vl vu .none) (pl : IsPart vl lo) (pu : IsPart vu hi)
    (hw : sIx items.size 0 lo = 0 ∧ sIx items.size items.size hi = items.size) (h : Q (.ref t) s) : wpAny (model prog w) A (getItem (.ref t) (.ref sl)) Q E s := by
  obtain ⟨os, hos, hcs, hds⟩ := id hs
  have hTs : s.TypeIs (.ref sl) "slice" := ⟨os, hos, hcs⟩
  unfold getItem
  try with_reducible refine wpAny_holding ?_
  first | refine wpAny_bind (wpAny_pure ?_) | skip
  refine wpAny_bind (wpAny_sequenceKey ht.typeIs (by decide) ?_)
  refine wpAny_bind (wpAny_callSpecial?_slot (name := Str.ofString "__getitem__") ht.typeIs PyProof.Rows.slot_tuple_getitem
    (wpAny_call_entry PyProof.Rows.slot_tuple_getitem ht.typeIs entry_tuple_getitem ?_ (args_tuple_getitem _ _)))
  show wpAny _ _ (Builtin.Tuple.tupleItemsOf (.ref t) >>= _) _ _ s
  refine wpAny_bind (tupleItemsOf_ ht ?_)
  refine wpAny_bind (wpAny_typeOf hTs ?_)
  rw [if_pos (by decide)]
  refine wpAny_bind (sliceApplied_gen hs pl pu ?_)
  show wpAny _ _ (if (((sIx items.size 0 lo : Nat) : Int) == 0 && (1 : Int) == 1 && (sIx items.size items.size hi - sIx items.size 0 lo) == items.size) = true then _ else _) _ _ s
  rw [if_pos (by rw [hw.1, hw.2]; simp)]
  refine wpAny_bind ?_
  unfold Builtin.Tuple.tupleIsExact
  refine wpAny_bind (wpAny_typeOf ht.typeIs (wpAny_pure ?_))
  show wpAny _ _ (if (true : Bool) = true then _ else _) _ _ s
  rw [if_pos rfl]
  refine wpAny_bind (wpAny_rule ?_)
  first
    | exact wpAny_pure ⟨_, rfl, wpAny_pure h⟩
    | exact wpAny_bind (wpAny_pure ⟨_, rfl, wpAny_pure h⟩)
    | exact wpAny_bind (wpAny_pure (wpAny_pure ⟨_, rfl, wpAny_pure h⟩))
theorem fm_congr {f g : Nat → Option Value} : ∀ {l : List Nat}, (∀ m ∈ l, f m = g m) → l.filterMap f = l.filterMap g
  | [], _ => rfl
  | a :: l, h => by simp only [List.filterMap_cons, h a List.mem_cons_self, fm_congr fun m hm => h m (List.mem_cons_of_mem _ hm)]
theorem pick_rev (xs : Array Value) : ((List.range xs.size).filterMap fun (m : Nat) => xs[(((xs.size : Int) - 1) + (m : Int) * (-1)).toNat]?).toArray = xs.toList.reverse.toArray := by
  have h := PySem.W.krv_pick xs
  unfold slicePick at h
  rw [PySem.W.krv_bounds] at h
  have h : ((sliceRange ((xs.size : Int) - 1) (-1) (-1)).filterMap (xs[·]?)).toArray = _ := h
  rw [PySem.W.krv_sliceRange, List.filterMap_map] at h
  rw [← h]
  refine congrArg List.toArray (fm_congr fun m hm => ?_)
  have := List.mem_range.mp hm
  show xs[(((xs.size : Int) - 1) + (m : Int) * (-1)).toNat]? = xs[xs.size - 1 - m]?
  rw [show (((xs.size : Int) - 1) + (m : Int) * (-1)).toNat = xs.size - 1 - m by omega]
theorem getItem_tuple_rev {t sl : Addr} {items : Array Value} {vl vu vs : Value} {Q : Value → Shared → Prop} (ht : IsTup s.heap t items) (hs : s.heap.IsSliceOf sl vl vu vs) (pl : IsPart vl none) (pu : IsPart vu none) (ps : IsPart vs (some (-1)))
    (h : Q (.ref s.heap.objs.size) { s with heap := s.heap.push { cls := .type "tuple", data := .seq items.toList.reverse.toArray } })
    (hsz : items.size ≤ sizeLine) : wpAny (model prog w) A (getItem (.ref t) (.ref sl)) Q E s := by
  have htake : sizeOk (.seq items.toList.reverse.toArray) := by
    show items.toList.reverse.toArray.size ≤ sizeLine
    rw [List.size_toArray, List.length_reverse, Array.length_toList]
    exact hsz
  obtain ⟨os, hos, hcs, hds⟩ := id hs
  have hTs : s.TypeIs (.ref sl) "slice" := ⟨os, hos, hcs⟩
  unfold getItem
  try with_reducible refine wpAny_holding ?_
  first | refine wpAny_bind (wpAny_pure ?_) | skip
  refine wpAny_bind (wpAny_sequenceKey ht.typeIs (by decide) ?_)
  refine wpAny_bind (wpAny_callSpecial?_slot (name := Str.ofString "__getitem__") ht.typeIs PyProof.Rows.slot_tuple_getitem
    (wpAny_call_entry PyProof.Rows.slot_tuple_getitem ht.typeIs entry_tuple_getitem ?_ (args_tuple_getitem _ _)))
  show wpAny _ _ (Builtin.Tuple.tupleItemsOf (.ref t) >>= _) _ _ s
  refine wpAny_bind (tupleItemsOf_ ht ?_)
  refine wpAny_bind (wpAny_typeOf hTs ?_)
  rw [if_pos (by decide)]
  refine wpAny_bind ?_
  unfold Builtin.Slice.sliceApplied Builtin.Slice.sliceFields
  refine wpAny_bind (wpAny_bind (wpAny_field hos hds (x := vl) rfl (wpAny_bind (wpAny_field hos hds (x := vu) rfl (wpAny_bind (wpAny_field hos hds (x := vs) rfl (wpAny_pure ?_)))))))
  refine wpAny_bind (slicePart_ ps ?_)
  show wpAny _ _ (if ((-1 : Int) == 0) = true then _ else _) _ _ s
  rw [if_neg (by decide)]
  refine wpAny_bind (slicePart_ pl (wpAny_bind (slicePart_ pu (wpAny_bind (wpAny_pure ?_)))))
  have hadj : Builtin.Slice.sliceAdjust none none (-1) (items.size : Int) = ((items.size : Int) - 1, -1) := by
    unfold Builtin.Slice.sliceAdjust
    simp
  have hpl : Builtin.Slice.slicePlaces ((items.size : Int) - 1) (-1) (-1) = items.size := by
    unfold Builtin.Slice.slicePlaces
    rw [if_neg (by decide)]
    by_cases h0 : (items.size : Int) - 1 > -1
    · rw [if_pos h0, show (-(-1) : Int) = 1 by decide, Int.ediv_one]
      omega
    · rw [if_neg h0]
      omega
  show wpAny _ _ (match Builtin.Slice.sliceAdjust none none (-1) (items.size : Int) with | (lo, hi) => pure (lo, (-1 : Int), Builtin.Slice.slicePlaces lo hi (-1))) _ _ s
  rw [hadj]
  show wpAny _ _ (pure ((items.size : Int) - 1, (-1 : Int), Builtin.Slice.slicePlaces ((items.size : Int) - 1) (-1) (-1))) _ _ s
  rw [hpl]
  refine wpAny_pure ?_
  show wpAny _ _ (if (((items.size : Int) - 1) == 0 && (-1 : Int) == 1 && items.size == items.size) = true then _ else _) _ _ s
  rw [if_neg (by simp), pick_rev]
  first
    | exact wpAny_bind (m := Builtin.Tuple.tupleExact _) (wpAny_newObj_type (wpAny_pure ⟨_, rfl, wpAny_pure h⟩) htake)
    | exact wpAny_bind (m := Builtin.Tuple.tupleExact _) (wpAny_newObj_type (wpAny_bind (wpAny_pure (wpAny_pure ⟨_, rfl, wpAny_pure h⟩))) htake)
    | exact wpAny_bind (wpAny_bind (m := Builtin.Tuple.tupleExact _) (wpAny_newObj_type (wpAny_pure (wpAny_pure ⟨_, rfl, wpAny_pure h⟩)) htake))
    | exact wpAny_bind (wpAny_bind (m := Builtin.Tuple.tupleExact _) (wpAny_newObj_type (wpAny_pure ⟨_, rfl, wpAny_pure h⟩) htake))
end
section
variable {X : Cx}
/-- t[lo:hi], whole or not -/
def rSlB (K : PySem.W.Frag) : V → Option Int → Option Int → Hp → VK → Prop := fun x lo hi H Q => ∃ a xs, x = .ref a ∧ SqT K H a xs ∧
  ((sIx xs.length 0 lo = 0 ∧ sIx xs.length xs.length hi = xs.length) → Q (.ref a) H) ∧
  (¬ (sIx xs.length 0 lo = 0 ∧ sIx xs.length xs.length hi = xs.length) → ∀ p, H p = none → Q (.ref p) (upd H p (.tup (cutV xs lo hi))))
theorem slB (K : PySem.W.Frag) (hK : X.K = K := by rfl) : SlR X (rSlB K) := by
  subst hK
  intro pins s σ H x v vl vu lo hi sl Q I rx hs pl pu h
  obtain ⟨a, xs, rfl, hx, q1, q2⟩ := h
  by_cases hw : sIx xs.length 0 lo = 0 ∧ sIx xs.length xs.length hi = xs.length
  · cases rx
    obtain ⟨its, r, ht, hz⟩ := I.tuple hx
    have hlen : its.toArray.size = xs.length := by rw [List.size_toArray]; exact r.length.symm
    refine ⟨"tuple", _, PyProof.Rows.slot_tuple_getitem.lookup, ht.typeIs, ?_⟩
    exact getItem_tuple_all ht hs pl pu (by rw [hlen]; exact hw) ⟨.ref a, H, I, rfl, q1 hw⟩
  · exact sl_tup pins s σ H _ v vl vu lo hi sl Q I rx hs pl pu ⟨a, xs, rfl, hx, hw, q2 hw⟩
def tRevT (K : PySem.W.Frag) (te : TE) : TE := fun σ H Q => te σ H fun x H1 => ∃ a xs, x = .ref a ∧ SqT K H1 a xs ∧ ∀ p, H1 p = none → Q (.ref p) (upd H1 p (.tup xs.reverse))
theorem pe_revT {e : Expr} {te : TE} {k : Nat} {p1 p2 p3 pos : Pos} (he : PE X e te) : PE X (.Subscript e (.Slice none none (some (.UnaryOp .USub (.Constant (.int 1) k p1) p2)) p3) pos) (tRevT X.K te) := by
  refine ⟨fun pins s σ H Q I h => ?_⟩
  refine Subscript_ (thn (he.run pins s σ H _ I h) fun v s1 ⟨x, H1, I1, r1, q1⟩ => ?_)
  obtain ⟨a, xs, ex, hx, q⟩ := q1
  subst ex
  cases r1
  have hst : PO X (some (.UnaryOp .USub (.Constant (.int 1) k p1) p2)) (tPart (tUn (rU fun i => .int (-i)) (tC (.int 1)))) := po_some (pe_un un_neg pe_int)
  refine wpAny_Slice (thn (po_none.run pins s1 σ H1 (fun o H2 => o = none ∧ H2 = H1) I1 ⟨rfl, rfl⟩) fun vl s2 ⟨l, H2, I2, pl, el, e2⟩ => ?_)
  subst el e2
  refine thn (po_none.run pins s2 σ H2 (fun o H3 => o = none ∧ H3 = H2) I2 ⟨rfl, rfl⟩) fun vu s3 ⟨u, H3, I3, pu, eu, e3⟩ => ?_
  subst eu e3
  refine thn (hst.run pins s3 σ H3 (fun o H4 => o = some (-1) ∧ H4 = H3) I3 ⟨1, rfl, -1, rfl, rfl, rfl⟩) fun vs s4 ⟨o, H4, I4, ps, eo, e4⟩ => ?_
  subst eo e4
  have I5 : Inv X pins σ H4 { s4 with heap := s4.heap.push { cls := .type "slice", data := .fields #[vl, vu, vs] } } := I4.kept (t' := s4.toks) fun b ob q => Heap.get?_push_of_some _ q
  obtain ⟨its, r, ht, hz⟩ := I5.tuple hx
  have hlen := r.length
  show wpAny (model X.prog X.w) X.A (subscriptTail e (.Slice none none (some (.UnaryOp .USub (.Constant (.int 1) k p1) p2)) p3) (.ref a) (.ref s4.heap.objs.size)) (EP X pins σ Q) X.xe { s4 with heap := s4.heap.push { cls := .type "slice", data := .fields #[vl, vu, vs] } }
  refine tail_any (ops := [.ref a, .ref s4.heap.objs.size]) ht.typeIs (PyProof.Rows.slot_tuple_getitem.lookup) ?_ (by with_unfolding_all rfl)
  refine getItem_tuple_rev ht (Heap.IsSliceOf.new _ vl vu vs) pl pu ps ?_ (by rw [List.size_toArray]; omega)
  refine ⟨.ref _, _, I5.laid (t' := s4.toks) (o := .tup xs.reverse) (fun b ob q => Heap.get?_push_of_some _ q) (Nat.le_refl _) ?_, rfl, q _ (I5.hok.fresh (Nat.le_refl _))⟩
  exact ⟨by rw [List.length_reverse]; exact hz, _, r.reverse, IsTup.new _ _⟩
end
end LW

namespace LW
open PySem PySem.Spec PyProof.Rows L2 PySem.SeqAt
open Evl (Ex)
/-! ### nested lists and dicts, alike but for the order of the keys -/
def SameV (Hl Hr : Hp) : Nat → V → V → Prop
  | 0 => fun _ _ => False
  | n + 1 => fun x y => (x = y ∧ flatB x = true) ∨ (∃ a b xs ys, x = .ref a ∧ y = .ref b ∧ L2.Rd Hl a (.lst xs) ∧ L2.Rd Hr b (.lst ys) ∧ Paired (SameV Hl Hr n) xs ys) ∨
      ∃ a b ks ls, x = .ref a ∧ y = .ref b ∧ L2.Rd Hl a (.dK ks) ∧ L2.Rd Hr b (.dK ls) ∧ ks.length = ls.length ∧ ∀ p ∈ ks, ∃ u, valV ls p.1 = some u ∧ SameV Hl Hr n p.2 u
theorem SameV.ex {H H' G G' : Hp} (e : Ex H H') (f : Ex G G') : ∀ {n : Nat} {x y : V}, SameV H G n x y → SameV H' G' n x y
  | 0, _, _, h => h
  | n + 1, x, y, h => by
    rcases h with h | ⟨a, b, xs, ys, rfl, rfl, ha, hb, hp⟩ | ⟨a, b, ks, ls, rfl, rfl, ha, hb, hl, hp⟩
    · exact .inl h
    · exact .inr (.inl ⟨a, b, xs, ys, rfl, rfl, rd_ex e ha, rd_ex f hb, Paired.imp (fun _ _ q => SameV.ex e f q) hp⟩)
    · refine .inr (.inr ⟨a, b, ks, ls, rfl, rfl, rd_ex e ha, rd_ex f hb, hl, fun p hm => ?_⟩)
      obtain ⟨u, h1, h2⟩ := hp p hm
      exact ⟨u, h1, SameV.ex e f h2⟩
section
variable {X : Cx} {pins : List (Addr × Obj)} {σ : L2.St} {H : Hp} {s : Shared}
theorem sameV_run (I : L2.Inv X pins σ H s) : ∀ (n : Nat) (A : Around), A.units + n < cLine → ∀ (x y : V) (v u : Value), SameV H H n x y → RelV x v → RelV y u → EqP X.prog X.w A s v u true
  | 0, _, _, _, _, _, _, h, _, _ => (show False from h).elim
  | n + 1, A, hu, x, y, v, u, h, rx, ry => by
    rcases h with ⟨rfl, f⟩ | ⟨a, b, xs, ys, rfl, rfl, ha, hb, pr⟩ | ⟨a, b, ks, ls, rfl, rfl, ha, hb, hl, hp⟩
    · exact (eqAt_same rx ry f).eqP
    · cases (show v = Value.ref a from rx)
      cases (show u = Value.ref b from ry)
      by_cases e : a = b
      · subst e
        exact (SeqAt.EqAt.same _).eqP
      obtain ⟨us, r1, p1⟩ := rd_list I ha
      obtain ⟨ws, r2, p2⟩ := rd_list I hb
      have hsz : us.toArray.size = ws.toArray.size := by
        rw [List.size_toArray, List.size_toArray, ← r1.length, ← r2.length]
        exact Paired.length pr
      refine SeqAt.eqP_refs e fun E Q q => SeqAt.rcP_lists (e := fun _ => true) p1 p2 hsz (by omega) (fun j h1 h2 => ?_) E Q ?_
      · have k := items_run (sameV_run I n A.in1 (by show A.units + 1 + n < cLine; omega)) pr r1 r2 j (by simpa using h1) (by simpa using h2)
        simpa using k
      · rw [show ((List.range us.toArray.size).all fun _ => true) = true from List.all_eq_true.mpr fun _ _ => rfl]
        exact q
    · cases (show v = Value.ref a from rx)
      cases (show u = Value.ref b from ry)
      by_cases e : a = b
      · subst e
        exact (SeqAt.EqAt.same _).eqP
      obtain ⟨_, ya, va, ra, da⟩ := (show ObjOk X.prog X.w H s.heap a (.dK ks) from ha.ok I.hok)
      obtain ⟨_, yb, vb, rb, db⟩ := (show ObjOk X.prog X.w H s.heap b (.dK ls) from hb.ok I.hok)
      have hlen : va.length = vb.length := by
        rw [← ra.length, ← rb.length]
        exact hl
      refine SeqAt.eqP_refs e fun E Q q => PySem.W.rcP_dicts (knd := mixKind X.prog X.w) (r := true) ya yb da db (by omega) (fun _ => hits_run (sameV_run I n A.in1 (by show A.units + 1 + n < cLine; omega)) rb ra hp) E Q ?_
      rw [hlen]
      simpa using q
end
/-- a != b of two that are alike -/
def rNeV : R2 := fun x y H Q => ∃ n, n ≤ 100 ∧ SameV H H n x y ∧ Q (.bl false) H
theorem op_neV {X : Cx} (hu : X.A.units + 180 < cLine) : OpR X (compareOp .NotEq) rNeV := by
  intro pins s σ H x y v u Q I rx ry h
  obtain ⟨n, hn, h, q⟩ := h
  match n, hn, h with
  | n + 1, hn, h =>
  rcases h with ⟨rfl, f⟩ | ⟨a, b, xs, ys, rfl, rfl, ha, hb, pr⟩ | ⟨a, b, ks, ls, rfl, rfl, ha, hb, hl, hp⟩
  · refine op_ne pins s σ H _ _ v u Q I rx ry ⟨?_, by rw [decide_eq_true rfl]; exact q⟩
    cases x <;> first | rfl | cases f
  · cases (show v = Value.ref a from rx)
    cases (show u = Value.ref b from ry)
    obtain ⟨us, r1, p1⟩ := rd_list I ha
    obtain ⟨ws, r2, p2⟩ := rd_list I hb
    have hsz : us.toArray.size = ws.toArray.size := by
      rw [List.size_toArray, List.size_toArray, ← r1.length, ← r2.length]
      exact Paired.length pr
    refine rcne_lists p1 p2 hsz (by omega) (fun j h1 h2 => ?_) _ _ ⟨.bl false, H, I, rfl, q⟩
    have k := items_run (sameV_run I n X.A.in1 (by show X.A.units + 1 + n < cLine; omega)) pr r1 r2 j (by simpa using h1) (by simpa using h2)
    simpa using k
  · cases (show v = Value.ref a from rx)
    cases (show u = Value.ref b from ry)
    obtain ⟨_, ya, va, ra, da⟩ := (show ObjOk X.prog X.w H s.heap a (.dK ks) from ha.ok I.hok)
    obtain ⟨_, yb, vb, rb, db⟩ := (show ObjOk X.prog X.w H s.heap b (.dK ls) from hb.ok I.hok)
    have hlen : va.length = vb.length := by
      rw [← ra.length, ← rb.length]
      exact hl
    exact rcne_dicts (knd := mixKind X.prog X.w) ya yb da db (by omega) hlen (hits_run (sameV_run I n X.A.in1 (by show X.A.units + 1 + n < cLine; omega)) rb ra hp) _ _ ⟨.bl false, H, I, rfl, q⟩
theorem catAK {X : Cx} (K : PySem.W.Frag) (h : X.K = K := by rfl) : OpR X (binaryOp .Add) (rCatA K) := by
  subst h
  exact op_catA
/-! ### tables: == -/
section
variable {prog : Program} {w : World} {κ : Type} [DecidableEq κ] {knd : HeapKind prog w κ} {A : Around} {E : Value → Shared → Prop} {s : Shared}
theorem samePairs_len {nm : String} {a b : Addr} {xs ys : List (κ × Addr × Value)} {Q : Bool → Shared → Prop} (ha : (a == sysModules) = false) (hb : (b == sysModules) = false) (da : s.heap.DictOfH knd a xs) (db : s.heap.DictOfH knd b ys)
    (hl : xs.length ≠ ys.length) (h : Q false s) : wpAny (model prog w) A (Builtin.Dict.samePairs nm a b) Q E s := by
  obtain ⟨oa, es, ep, hoa, _, hda, hea, hia, hna⟩ := da
  obtain ⟨ob, fs, fp, hob, _, hdb, heb, hib, hnb⟩ := db
  have la : es.size = xs.length := by rw [← Array.length_toList, hea, List.length_map]
  have lb : fs.size = ys.length := by rw [← Array.length_toList, heb, List.length_map]
  have hsz : es.size ≠ fs.size := by omega
  unfold Builtin.Dict.samePairs Builtin.Dict.showsAll
  rw [if_neg (show ¬ (a == sysModules) = true by rw [ha]; decide), if_neg (show ¬ (b == sysModules) = true by rw [hb]; decide)]
  refine wpAny_bind (wpAny_pure (wpAny_bind (wpAny_pure (wpAny_bind (wpAny_dictEntries hoa hda ?_)))))
  dsimp only
  refine wpAny_bind (wpAny_dictEntries hob hdb ?_)
  rw [if_pos (by simpa using hsz)]
  exact wpAny_bind (wpAny_rule (wpAny_pure h))
theorem rcH_len {a b : Addr} {xs ys : List (κ × Addr × Value)} (ha : (a == sysModules) = false) (hb : (b == sysModules) = false) (da : s.heap.DictOfH knd a xs) (db : s.heap.DictOfH knd b ys) (hu : A.units < cLine)
    (hl : xs.length ≠ ys.length) (E Q : Value → Shared → Prop) (h : Q (.bool false) s) : wpAny (model prog w) A (richCompare .Eq (.ref a) (.ref b)) Q E s := by
  refine wpAny_richCompare_same_room (op := .Eq) da.typeIs db.typeIs F.slot_dict_eq (wpAny_call_entry F.slot_dict_eq da.typeIs F.entry_dict_eq ?_ (F.args_dict_eq_2 _ _)) hu
  show wpAny _ _ (Builtin.Dict.dictSlotArgs "__eq__" ⟨[Value.ref a, Value.ref b], []⟩ >>= _) _ _ s
  apply wpAny_bind
  unfold Builtin.Dict.dictSlotArgs
  refine wpAny_bind (wpAny_notOrdered_dict da.typeIs (show wpAny _ _ (pure (Value.ref a, Value.ref b)) _ _ s from wpAny_pure (wpAny_bind (wpAny_isInstance (T := "dict") db.typeIs F.sub_dict_dict ?_))))
  simp only [Bool.not_true, Bool.false_eq_true, if_false]
  refine wpAny_bind (wpAny_pure (wpAny_bind (wpAny_pure (wpAny_bind (samePairs_len ha hb da db hl ?_)))))
  refine wpAny_pure ⟨_, rfl, (fun z => nomatch z), ?_⟩
  simpa using h
end
def rEqTA (K : PySem.W.Frag) : R2 := fun x y H Q => ∃ (a b : Addr) (ks ls : List (List Key × V)), x = .ref a ∧ y = .ref b ∧ L2.Rd H a (.dT ks) ∧ L2.Rd H b (.dT ls) ∧ ((Paired (TabS K H) ks ls ∧ Q (.bl true) H) ∨ (ks.length ≠ ls.length ∧ Q (.bl false) H))
theorem op_eqTA {X : Cx} (K : PySem.W.Frag) (hu : X.A.units + 180 < cLine) (hK : X.K = K := by rfl) : OpR X (compareOp .Eq) (rEqTA K) := by
  subst hK
  intro pins s σ H x y v u Q I rx ry h
  obtain ⟨a, b, ks, ls, rfl, rfl, ha, hb, h⟩ := h
  cases (show v = Value.ref a from rx)
  cases (show u = Value.ref b from ry)
  obtain ⟨_, ya, xs, kx, dx⟩ := dt_rd I.hok ha
  obtain ⟨_, yb, ys, ky, dy⟩ := dt_rd I.hok hb
  rcases h with ⟨hpr, k⟩ | ⟨hne, k⟩
  · refine rcH_dicts ya yb dx dy (by omega) (by show X.A.units + 1 < cLine; omega) ?_ ?_ _ _ ⟨.bl true, H, I, rfl, k⟩
    · rw [← Paired.len kx, ← Paired.len ky]
      exact Paired.len hpr
    · intro x hx
      obtain ⟨i, hi⟩ := List.mem_iff_getElem?.mp hx
      obtain ⟨k1, hk1, e1, _, rv1⟩ := Paired.get' kx hi
      obtain ⟨k2, hk2, e2, d, d1, d2, sh⟩ := Paired.get hpr hk1
      obtain ⟨y, hy, e3, _, rv2⟩ := Paired.get ky hk2
      refine ⟨y.2, ?_, ?_⟩
      · have : (x.1, y.2) = y := by rw [← e1, e2, e3]
        rw [this]
        exact List.mem_of_getElem? hy
      · obtain ⟨as, ra⟩ := Dp.reads I d _ _ d1 rv1
        obtain ⟨bs, rb⟩ := Dp.reads I d _ _ d2 rv2
        have q := SeqAt.eqAt_reads d d X.A.in1 s _ _ as bs ra rb (SeqAt.canLay_of_shaped sh) (SeqAt.canLay_of_shaped sh) (SeqAt.room_of_shaped sh (by show X.A.units + 1 + 64 < cLine; omega))
        rw [SeqAt.eqv_refl _ (SeqAt.canLay_of_shaped sh)] at q
        exact q.eqP
  · refine rcH_len ya yb dx dy (by omega) ?_ _ _ ⟨.bl false, H, I, rfl, k⟩
    rw [← Paired.len kx, ← Paired.len ky]
    exact hne
/-! ### dict(pairs), the keys tuples of ints and texts -/
def mergeT (kvs more : List (List Key × V)) : List (List Key × V) := more.foldl (fun acc kv => putK acc kv.1 kv.2) kvs
/-- a pair (key, value) at p: its key at b -/
structure PrT (H : Hp) (p b : Addr) (k : List Key) (v : V) : Prop where
  pr : H p = some (.tup [.ref b, v])
  ky : H b = some (.tup (k.map kV))
def rDictT (K : PySem.W.Frag) : List V → Hp → VK → Prop := fun xs H Q => ∃ (a : Addr) (zs : List (Addr × Addr × List Key × V)), xs = [.ref a] ∧ H a = some (.lst (zs.map fun z => .ref z.1)) ∧ (∀ z ∈ zs, PrT H z.1 z.2.1 z.2.2.1 z.2.2.2) ∧
  ∀ p, H p = none → Q (.ref p) (upd H p (.dT (mergeT [] (zs.map fun z => z.2.2))))
theorem kt_merge {H : Hp} : ∀ {zs : List (Addr × Addr × List Key × V)} {ws : List (List Key × Addr × Value)} {kvs : List (List Key × V)} {xs : List (List Key × Addr × Value)}, Paired (fun z w => w.1 = z.2.2.1 ∧ w.2.1 = z.2.1 ∧ RelV z.2.2.2 w.2.2) zs ws → (∀ z ∈ zs, PrT H z.1 z.2.1 z.2.2.1 z.2.2.2) → KT H kvs xs → KT H (mergeT kvs (zs.map fun z => z.2.2)) (storedAllH xs ws)
  | _, _, _, _, .nil, _, r => r
  | z :: zs, w :: ws, kvs, xs, .cons h t, hz, r => by
    obtain ⟨h1, h2, h3⟩ := h
    have q := hz z List.mem_cons_self
    have r2 := r.put z.2.2.1 q.ky h3
    have ih := kt_merge t (fun x hx => hz x (List.mem_cons_of_mem _ hx)) r2
    unfold mergeT storedAllH at ih ⊢
    rw [List.map_cons, List.foldl_cons, List.foldl_cons, h1, h2]
    exact ih
theorem mergeT_len : ∀ (more kvs : List (List Key × V)), (mergeT kvs more).length ≤ kvs.length + more.length
  | [], kvs => Nat.le_refl _
  | p :: r, kvs => by
    have h1 := mergeT_len r (putK kvs p.1 p.2)
    have h2 := length_putK kvs p.1 p.2
    unfold mergeT at h1 ⊢
    rw [List.foldl_cons, List.length_cons]
    omega
theorem pairs_rel {X : Cx} {pins : List (Addr × Obj)} {σ : L2.St} {H : Hp} {s : Shared} (I : L2.Inv X pins σ H s) : ∀ {zs : List (Addr × Addr × List Key × V)}, (∀ z ∈ zs, PrT H z.1 z.2.1 z.2.2.1 z.2.2.2) →
    ∃ ws : List (List Key × Addr × Value), Paired (fun z w => w.1 = z.2.2.1 ∧ w.2.1 = z.2.1 ∧ RelV z.2.2.2 w.2.2) zs ws ∧ ∀ (j : Nat) (z : Addr × Addr × List Key × V) (w : List Key × Addr × Value), zs[j]? = some z → ws[j]? = some w → s.heap.IsTuple z.1 #[.ref w.2.1, w.2.2]
  | [], _ => ⟨[], .nil, fun j z w h _ => by simp at h⟩
  | z :: zs, h => by
    obtain ⟨ws, g1, g2⟩ := pairs_rel I (zs := zs) fun x hx => h x (List.mem_cons_of_mem _ hx)
    have q := h z List.mem_cons_self
    obtain ⟨its, rv, ht, _⟩ := I.tuple (xs := [.ref z.2.1, z.2.2.2]) (SqTo q.pr)
    obtain ⟨u, y, rfl, ru, ry⟩ := vals2 rv
    cases (show u = Value.ref z.2.1 from ru)
    refine ⟨(z.2.2.1, z.2.1, y) :: ws, .cons ⟨rfl, rfl, ry⟩ g1, fun j z' w' e1 e2 => ?_⟩
    cases j with
    | zero =>
      cases e1
      cases e2
      obtain ⟨o, h1, h2, n, h3⟩ := ht
      exact ⟨o, h1, h2, n, h3⟩
    | succ j => exact g2 j z' w' (by simpa using e1) (by simpa using e2)
theorem call_dictT {X : Cx} (K : PySem.W.Frag) (hcalm : X.calm = true) (hu : X.A.units + 64 < cLine) (hK : X.K = K := by rfl) : CallR X (.type "dict") (rDictT K) := by
  subst hK
  intro pins s σ H xs us Q I r h
  obtain ⟨a, zs, rfl, ha, hz, q⟩ := h
  obtain ⟨u, rfl, rx⟩ := vals1 r
  cases (show u = Value.ref a from rx)
  obtain ⟨its, rv, pl, hln⟩ := I.list (xs := zs.map fun z => .ref z.1) (SqLo ha)
  rw [List.length_map] at hln
  have ei : its = (zs.map fun z => z.1).map Value.ref := by
    refine refs_at ?_
    rw [List.map_map]
    exact rv
  subst ei
  obtain ⟨ws, hw1, hw2⟩ := pairs_rel I hz
  have hlw := Paired.len hw1
  obtain ⟨o, n, ho, hc, hd, hdat⟩ := pl
  have P := PairArg.list (prog := X.prog) (w := X.w) a (((zs.map fun z => z.1).map Value.ref).toArray) (fun j => ((zs.map fun z => z.1)[j]?).getD 0) (ws.map fun w => (Value.ref w.2.1, w.2.2))
  refine PySem.call_dict_pairsH (knd := tupleKind (mixKind X.prog X.w)) (ps := ws) P (I.ok.hd hcalm) (by show X.A.units + 1 + 1 < cLine; omega) ⟨⟨o, n, ho, hc, hd, hdat⟩, ?_⟩ ?_ ?_ ?_ ?_
  · refine ⟨by simp [hlw], fun j k v hj => ?_⟩
    rw [List.getElem?_map] at hj
    cases hwj : ws[j]? with
    | none => rw [hwj] at hj; cases hj
    | some wv =>
      rw [hwj] at hj
      cases hj
      obtain ⟨z, hzj, _⟩ := Paired.get' hw1 hwj
      refine ⟨by simp [hzj], .inl ?_⟩
      have := hw2 j z wv hzj hwj
      simpa [hzj] using this
  · refine ⟨by simp, fun i key v hr => ?_⟩
    have hr : (ws.map fun w => (Value.ref w.2.1, w.2.2))[i]? = some (key, v) := hr
    rw [List.getElem?_map] at hr
    cases hwj : ws[i]? with
    | none => rw [hwj] at hr; cases hr
    | some wv =>
      rw [hwj] at hr
      cases hr
      exact ⟨wv.1, wv.2.1, rfl, rfl⟩
  · intro h' hk x hx
    obtain ⟨j, hj⟩ := List.mem_iff_getElem?.mp hx
    obtain ⟨z, hzj, e1, e2, _⟩ := Paired.get' hw1 hj
    have hq := hz z (List.mem_of_getElem? hzj)
    have hkey := key_of I.hok hq.ky
    rw [← e1, ← e2] at hkey
    refine tupleKind_stays.stays (fun b ob vs n e _ => ?_) hkey
    exact hk b ob (Nat.ne_of_lt (Heap.lt_size e)) (by simp) e
  · simp only [List.length_map]
    omega
  · intro h' tk hd' hk
    have hm : (s.heap.objs.size == sysModules) = false := beq_eq_false_iff_ne.mpr (Nat.ne_of_gt I.big)
    have hlen : (mergeT [] (zs.map fun z => z.2.2)).length ≤ sizeLine := by
      have := mergeT_len (zs.map fun z => z.2.2) []
      rw [List.length_map] at this
      have e0 : ([] : List (List Key × V)).length = 0 := rfl
      omega
    have nH := I.hok.fresh (Nat.le_refl s.heap.objs.size)
    obtain ⟨o2, es, ep, h1, h2, h3, h4, _, h5⟩ := hd'
    refine ⟨.ref s.heap.objs.size, upd H s.heap.objs.size (.dT (mergeT [] (zs.map fun z => z.2.2))), I.laid (t' := tk) (fun b o e => hk b o (by simp) e) (Nat.le_refl _) ?_, rfl, q _ nH⟩
    refine ⟨hlen, hm, storedAllH [] ws, (kt_merge hw1 hz .nil).keeps fun c ys ec => ?_, o2, es, ep, h1, h2, h3, h4, h5⟩
    rw [upd_ne (ne_of_none ec nH)]
    exact ec
/-! ### a comprehension with a test while the heap only grows -/
def LcF (R : Nat → List V → Hp → Prop) (H1 : Hp) (D : Addr) (i : Nat) (H : Hp) : Prop := ∃ acc, Ex H1 (del H D) ∧ H D = some (.lst acc) ∧ acc.length ≤ i ∧ R i acc (del H D)
theorem lcf_put {R : Nat → List V → Hp → Prop} {H1 H H4 : Hp} {D : Addr} {i : Nat} {acc : List V} {y : V} (e1 : Ex H1 (del H D)) (hD : H D = some (.lst acc)) (hl : acc.length ≤ i) (hi : i < 100000) (e : Ex H H4) (r : R (i + 1) (acc ++ [y]) (del H4 D)) :
    ∃ acc, H4 D = some (.lst acc) ∧ acc.length < sizeLine ∧ LcF R H1 D (i + 1) (upd H4 D (.lst (acc ++ [y]))) := by
  refine ⟨acc, e _ _ hD, szlt (by omega), acc ++ [y], ?_, upd_same, ?_, ?_⟩
  · exact e1.trans (del_grow e)
  · rw [List.length_append]
    show acc.length + 1 ≤ _
    omega
  · rw [show del (upd H4 D (.lst (acc ++ [y]))) D = del H4 D from ?_]
    · exact r
    · funext b
      by_cases hb : b = D
      · rw [hb, del_same, del_same]
      · rw [del_ne hb, del_ne hb, upd_ne hb]
theorem lcf_skip {R : Nat → List V → Hp → Prop} {H1 H H4 : Hp} {D : Addr} {i : Nat} {acc : List V} (e1 : Ex H1 (del H D)) (hD : H D = some (.lst acc)) (hl : acc.length ≤ i) (e : Ex H H4) (r : R (i + 1) acc (del H4 D)) : LcF R H1 D (i + 1) H4 :=
  ⟨acc, e1.trans (del_grow' e), e _ _ hD, by omega, r⟩
theorem lc_fl {J : It} {n : Nat} {G : Hp → Prop} {Y : Nat → Hp → V → Hp → Prop} (w : Walk J n G Y) {g : TG} {tt : TT} {te : TE} {vs : List Nat} {σ : L2.St} {H1 : Hp} {D : Addr} {Qd : Hp → Prop} (R : Nat → List V → Hp → Prop)
    (np : H1 D = none) (h0 : R 0 [] H1) (hG : ∀ H, Ex H1 H → G H)
    (hs : ∀ i x acc H H', i < n → Ex H1 H → Ex H1 (del H D) → H D = some (.lst acc) → acc.length ≤ i → R i acc (del H D) → Y i H x H' → g x (wipe σ vs) H' fun σ2 H2 => wipe σ2 vs = wipe σ vs ∧ tt σ2 H2 fun b H3 =>
      if b = true then te σ2 H3 fun y H4 => ∃ acc, H4 D = some (.lst acc) ∧ acc.length < sizeLine ∧ LcF R H1 D (i + 1) (upd H4 D (.lst (acc ++ [y]))) else LcF R H1 D (i + 1) H3)
    (hd : ∀ acc H, Ex H1 H → Ex H1 (del H D) → H D = some (.lst acc) → acc.length ≤ n → R n acc (del H D) → Qd H) :
    ∃ W : Nat → Nat → Hp → Prop, (∃ m, W 0 m (upd H1 D (.lst []))) ∧ ∀ i m H, W i m H →
      (J.stop i H ∧ Qd H) ∨ (J.go i H ∧ ∃ Nx : Hp → Prop, (∀ H', Nx H' → ∃ m', m' < m ∧ W (i + 1) m' H') ∧ ∀ x H', J.yld i H x H' → g x (wipe σ vs) H' fun σ2 H2 => wipe σ2 vs = wipe σ vs ∧ tt σ2 H2 fun b H3 =>
        if b = true then te σ2 H3 fun y H4 => ∃ acc, H4 D = some (.lst acc) ∧ acc.length < sizeLine ∧ Nx (upd H4 D (.lst (acc ++ [y]))) else Nx H3) := by
  refine lc_it w (LcF R H1 D) ⟨[], ?_, upd_same, Nat.le_refl _, ?_⟩ ?_ ?_ ?_
  · rw [del_none np]
    exact fun _ _ h => h
  · rw [del_none np]
    exact h0
  · rintro i H hi ⟨acc, e, _⟩
    exact hG _ (e.trans ex_del)
  · rintro i x H H' hi ⟨acc, e, hD, hl, r⟩ y
    exact hs i x acc H H' hi (e.trans ex_del) e hD hl r y
  · rintro H ⟨acc, e, hD, hl, r⟩
    exact hd acc H (e.trans ex_del) e hD hl r
end LW

namespace LW
open PySem PySem.Spec PyProof.Rows L2 PySem.SeqAt
open Evl (Ex)
/-! ### a list == [], != [] -/
def rEqNil : R2 := fun x y H Q => ∃ (a b : Addr) (xs : List V), x = .ref a ∧ y = .ref b ∧ L2.Rd H a (.lst xs) ∧ L2.Rd H b (.lst []) ∧ Q (.bl xs.isEmpty) H
theorem op_eqNil {X : Cx} (K : PySem.W.Frag) (hu : X.A.units + 64 < cLine) : OpR X (compareOp .Eq) rEqNil := by
  intro pins s σ H x y v u Q I rx ry h
  obtain ⟨a, b, xs, rfl, rfl, ha, hb, q⟩ := h
  cases (show v = Value.ref a from rx)
  cases (show u = Value.ref b from ry)
  obtain ⟨us, r1, p1⟩ := rd_list I ha
  obtain ⟨ws, r2, p2⟩ := rd_list I hb
  cases r2
  have hl := r1.length
  cases xs with
  | nil =>
    cases r1
    exact RcAt.lists (A := X.A) (e := fun _ => true) p1 p2 rfl (by omega) (fun j h1 h2 => absurd h1 (by simp)) _ _ _ _ ⟨.bl true, H, I, rfl, q⟩
  | cons x xs =>
    refine RcAt.lists_lengths (A := X.A) p1 p2 ?_ (by omega) _ _ _ _ ⟨.bl false, H, I, rfl, q⟩
    rw [List.length_cons] at hl
    simp only [List.size_toArray, ← hl]
    rfl
def rNeNil : R2 := fun x y H Q => ∃ (a b : Addr) (xs : List V), x = .ref a ∧ y = .ref b ∧ L2.Rd H a (.lst xs) ∧ L2.Rd H b (.lst []) ∧ Q (.bl (!xs.isEmpty)) H
theorem op_neNil {X : Cx} (K : PySem.W.Frag) (hu : X.A.units + 64 < cLine) : OpR X (compareOp .NotEq) rNeNil := by
  intro pins s σ H x y v u Q I rx ry h
  obtain ⟨a, b, xs, rfl, rfl, ha, hb, q⟩ := h
  cases (show v = Value.ref a from rx)
  cases (show u = Value.ref b from ry)
  obtain ⟨us, r1, p1⟩ := rd_list I ha
  obtain ⟨ws, r2, p2⟩ := rd_list I hb
  cases r2
  have hl := r1.length
  cases xs with
  | nil =>
    cases r1
    exact RcNeAt.lists (A := X.A) (e := fun _ => true) p1 p2 rfl (by omega) (fun j h1 h2 => absurd h1 (by simp)) _ _ _ _ ⟨.bl false, H, I, rfl, q⟩
  | cons x xs =>
    refine RcNeAt.lists_lengths (A := X.A) p1 p2 ?_ (by omega) _ _ _ _ ⟨.bl true, H, I, rfl, q⟩
    rw [List.length_cons] at hl
    simp only [List.size_toArray, ← hl]
    rfl
/-! ### two pairs of a text and data that are alike -/
def rNeP : R2 := fun x y H Q => ∃ (p q : Addr) (z : Str) (a b : V) (n : Nat), x = .ref p ∧ y = .ref q ∧ n ≤ 100 ∧ L2.Rd H p (.tup [.str z, a]) ∧ L2.Rd H q (.tup [.str z, b]) ∧ SameV H H n a b ∧ Q (.bl false) H
theorem op_neP {X : Cx} (hu : X.A.units + 180 < cLine) : OpR X (compareOp .NotEq) rNeP := by
  intro pins s σ H x y v u Q I rx ry h
  obtain ⟨p, q, z, a, b, n, rfl, rfl, hn, hp, hq, hs, k⟩ := h
  cases (show v = Value.ref p from rx)
  cases (show u = Value.ref q from ry)
  obtain ⟨us, r1, p1⟩ := rd_tup I hp
  obtain ⟨ws, r2, p2⟩ := rd_tup I hq
  cases r1 with
  | cons a1 r1 => cases r1 with
    | @cons _ w1 _ _ a2 r1 =>
      cases r1
      cases r2 with
      | cons b1 r2 => cases r2 with
        | @cons _ w2 _ _ b2 r2 =>
          cases r2
          obtain ⟨t1, rfl⟩ := a1
          obtain ⟨t3, rfl⟩ := b1
          refine rcne_tups p1 p2 rfl (by omega) (fun j h1 h2 => ?_) _ _ ⟨.bl false, H, I, rfl, k⟩
          have : j = 0 ∨ j = 1 := by
            have : j < 2 := by simpa using h1
            omega
          rcases this with rfl | rfl
          · have q := EqAt.str_str (A := X.A.in1) (s := s) z t1 z t3
            rw [beq_self_eq_true] at q
            exact q.eqP
          · exact sameV_run I n X.A.in1 (by show X.A.units + 1 + n < cLine; omega) a b _ _ hs a2 b2
theorem inV_bools : ∀ l : List Bool, (l.map V.bl).all flatV = true ∧ inV (V.bl false) (l.map V.bl) = !(l.all id)
  | [] => ⟨rfl, rfl⟩
  | b :: r => by
    obtain ⟨h1, h2⟩ := inV_bools r
    refine ⟨?_, ?_⟩
    · rw [List.map_cons, List.all_cons, h1]
      rfl
    · unfold inV at h2 ⊢
      rw [List.map_cons, List.any_cons, h2, List.all_cons]
      cases b
      · rfl
      · show (false || _) = !(true && _)
        rw [Bool.false_or, Bool.true_and]
end LW

namespace WT
open PySem PySem.Spec L2 LW VL
open Evl (Ex)
open SX (S S_tl S_inj S_len S_cat)
open TL (tl numL joinL)
theorem S_eq {l : List Nat} {x : Str} : (V.str (S l) = V.str x) ↔ l = tl x := by
  constructor
  · intro h
    exact congrArg tl (V.str.inj h)
  · intro h
    rw [h, S_tl]
theorem tk_dec (t p : List Nat) : decide (t.take p.length = p) = tk t p := rfl
/-- t[:k] == p, p of k signs -/
theorem cmp_take {x p : Str} {k : Nat} (hk : (tl p).length = k) : decide (V.str (cutS x none (some (k : Int))) = V.str p) = tk (tl x) (tl p) := by
  rw [cut_to]
  unfold tk
  rw [hk]
  exact decide_eq_decide.mpr S_eq
section
variable {P : Program} {w : World} {K : PySem.W.Frag} {mg : Str → Option Value} {base : Heap} {C CI : Addr}
/-! ### _law_end -/
def spEnd : Sp := fun vs H Q _ => ∃ (x p : Str), vs = [.str x, .str p] ∧ x.length ≤ 10000 ∧ Q (.int ((unt (tl x) (tl p)).length : Nat)) H
theorem sc__law_end : FnScope ["_law_text", "_law_signs", "_law_found"] ["_law_text", "_law_signs"] (defScope s__law_end) := ⟨rfl, rfl, rfl, by decide +kernel, rfl, by decide +kernel, by decide +kernel⟩
theorem bi__law_end : BindsEq "_law_end" s__law_end ["_law_text", "_law_signs"] := fun _ _ _ _ _ _ us hl => match us, hl with | [_, _], _ => rfl
theorem ok_end (F : Df K mg "_law_end" s__law_end) (T : Txt K mg) : Cal P w K mg base CX0 1 "_law_end" spEnd := by
  refine cal0 F sc__law_end bi__law_end (fun vs H Q E h => ?_) (fun f cdv A outer sh H vs Q E hr h => ?_)
  · obtain ⟨x, p, rfl, _⟩ := h
    rfl
  · obtain ⟨x, p, rfl, hx, k⟩ := h
    refine ⟨_, (pss_cons (ps_set (i := 2) sc__law_end.nd rfl (Or.inl rfl) pe_int)
 (pss_cons (ps_while PassesOwn.never (PW.pt (pw_and (pt_cmpR op_lt (pv 2) (pe_callB (lnK K) rfl T.b_len (by decide +kernel) (pa_cons (pv 0) pa_nil)) (nomark _)) (pw_and1 (pt_cmpR op_notIn_sign (pe_ix ix_str (pv 0) (pv 2) (fun _ _ => rfl)) (pv 1) (by rfl))))) (pss_one (ps_set (i := 2) sc__law_end.nd rfl (Or.inl rfl) (pe_op op_add (pv 2) pe_int))))
 (pss_one (ps_ret (pv 2))))), ?_⟩
    have hul := unt_len (tl x) (tl p)
    have hxl := TL.len_tl x
    refine while_cps (fun n σ' H' => ∃ j, n = x.length - j ∧ j ≤ (unt (tl x) (tl p)).length ∧ σ' = [some (.str x), some (.str p), some (.int ((j : Nat) : Int))] ∧ H' = H)
      (fun n σ' H' => ∃ j, n = x.length - j ∧ j < (unt (tl x) (tl p)).length ∧ σ' = [some (.str x), some (.str p), some (.int ((j : Nat) : Int))] ∧ H' = H)
      (fun n σ' H' => σ' = [some (.str x), some (.str p), some (.int (((unt (tl x) (tl p)).length : Nat) : Int))] ∧ H' = H) ?_ ?_ ?_ ?_
    · exact ⟨_, 0, rfl, Nat.zero_le _, rfl, rfl⟩
    · rintro n σ' H' Q' ⟨j, rfl, hj, rfl, rfl⟩ hB hY
      refine ⟨_, rfl, _, rfl, .str x, x.length, rfl, ⟨szl (by omega), rfl⟩, _, _, rfl, rfl, _, rfl, if_b (fun h1 => ?_) (fun h1 => ?_)⟩
      · have h1 : j < x.length := by
          have := of_decide_eq_true h1
          omega
        obtain ⟨c, hc⟩ : ∃ c, (tl x)[j]? = some c := ⟨_, List.getElem?_eq_getElem (by omega)⟩
        refine ⟨_, rfl, _, rfl, x, _, c, rfl, rfl, szl (by omega), atI_nat hc, _, rfl, c, p, rfl, rfl, _, rfl, ?_⟩
        by_cases h2 : c ∈ tl p
        · rw [decide_eq_true h2]
          refine hY H' ⟨?_, rfl⟩
          have e : j = (unt (tl x) (tl p)).length := by
            rcases Nat.lt_or_ge j (unt (tl x) (tl p)).length with q | q
            · obtain ⟨c', hc', hn⟩ := unt_get q
              rw [hc] at hc'
              cases hc'
              exact (hn h2).elim
            · omega
          rw [e]
        · rw [decide_eq_false h2]
          refine hB H' ⟨j, rfl, ?_, rfl, rfl⟩
          rcases Nat.lt_or_ge j (unt (tl x) (tl p)).length with q | q
          · exact q
          · have e : j = (unt (tl x) (tl p)).length := by omega
            rw [e] at hc
            exact (h2 (unt_end hc)).elim
      · refine hY H' ⟨?_, rfl⟩
        have e : j = (unt (tl x) (tl p)).length := by
          have := of_decide_eq_false h1
          omega
        rw [e]
    · rintro n σ' H' ⟨j, rfl, hj, rfl, rfl⟩
      refine ⟨_, rfl, _, _, rfl, rfl, x.length - (j + 1), by omega, j + 1, rfl, by omega, rfl, rfl⟩
    · rintro n σ' H' ⟨rfl, rfl⟩
      exact ⟨_, rfl, k⟩
/-! ### _law_letters -/
def spLLets : Sp := fun vs H Q _ => ∃ (x : Str) (a b : Nat), vs = [.str x, .int a, .int b] ∧ x.length ≤ 10000 ∧ ∀ H', Ex H H' → Q (.bl (lets x a b)) H'
theorem sc__law_letters : FnScope ["_law_text", "_law_least", "_law_most", "_law_sign"] ["_law_text", "_law_least", "_law_most"] (defScope s__law_letters) := ⟨rfl, rfl, rfl, by decide +kernel, rfl, by decide +kernel, by decide +kernel⟩
theorem bi__law_letters : BindsEq "_law_letters" s__law_letters ["_law_text", "_law_least", "_law_most"] := fun _ _ _ _ _ _ us hl => match us, hl with | [_, _, _], _ => rfl
theorem ok_llets (F : Df K mg "_law_letters" s__law_letters) (T : Txt K mg) : Cal P w K mg base CX0 1 "_law_letters" spLLets := by
  refine cal0 F sc__law_letters bi__law_letters (fun vs H Q E h => ?_) (fun f cdv A outer sh H vs Q E hr h => ?_)
  · obtain ⟨x, a, b, rfl, _⟩ := h
    rfl
  · obtain ⟨x, a, b, rfl, hx, k⟩ := h
    refine ⟨_, (pss_one (ps_ret (pe_and (pe_chain op_le op_le (pv 1) (pe_callB (lnK K) rfl T.b_len (by decide +kernel) (pa_cons (pv 0) pa_nil)) (pv 2)) (pe_one (pe_cmpR (ninq K) pe_bl (pe_lc (own := [("_law_sign", 3)]) (by rfl) sc__law_letters.nd (pi_str (pv 0)) (blkOk_by (own := [("_law_sign", 3)]) (N := ["_law_text", "_law_least", "_law_most", "_law_sign"]) (sc := defScope s__law_letters) (by decide +kernel)) (fun _ _ _ _ _ => (pg_name (i := 3) sc__law_letters.nd rfl (Or.inl rfl))) (fun _ _ _ _ _ => pts_nil) (fun _ _ _ _ _ => (pe_cmpR op_in_sign (pv 3) pe_str (by rfl)))) (by rfl)))))), ?_⟩
    refine ⟨_, rfl, _, rfl, .str x, x.length, rfl, ⟨szl (by omega), rfl⟩, _, _, rfl, rfl, _, rfl, if_b (fun h1 => ?_) (fun h1 => ?_)⟩
    · refine ⟨_, rfl, _, _, rfl, rfl, _, rfl, if_b (fun h2 => ?_) (fun h2 => ?_)⟩
      · have h1 : a ≤ x.length := by
          have := of_decide_eq_true h1
          omega
        have h2 : x.length ≤ b := by
          have := of_decide_eq_true h2
          omega
        refine ⟨_, rfl, x, rfl, fun D nD => lc_gr walk_str (fun i acc _ => acc = (x.cps.toList.take i).map fun c => V.bl (decide (97 ≤ c) && decide (c ≤ 122))) nD (by show x.length ≤ 100000; omega) rfl (fun _ _ => True.intro) ?_ ?_⟩
        · rintro i v acc H1 H2 hi e e' hD hl rfl ⟨rfl, c, hc, rfl⟩
          refine ⟨rfl, _, rfl, c, _, rfl, rfl, lc_put e' hD hl (by have : i < x.length := hi; omega) (fun _ _ h => h) ?_⟩
          rw [letters_mem, List.take_add_one, List.map_append, Array.getElem?_toList, hc]
          rfl
        · rintro acc H1 e e' hD hl rfl
          have e1 : x.cps.toList.take x.cps.size = x.cps.toList := List.take_of_length_le (by simp)
          rw [e1] at hD
          obtain ⟨b1, b2⟩ := inV_bools (x.cps.toList.map fun c => decide (97 ≤ c) && decide (c ≤ 122))
          have hD' : SqL K H1 D ((x.cps.toList.map fun c => decide (97 ≤ c) && decide (c ≤ 122)).map V.bl) := by
            rw [List.map_map]
            exact SqLo hD
          refine ⟨D, _, rfl, .inl hD', rfl, b1, ?_⟩
          rw [if_pos rfl, b2]
          have e2 : lets x a b = (!!((x.cps.toList.map fun c => decide (97 ≤ c) && decide (c ≤ 122)).all id)) := by
            unfold lets low
            rw [decide_eq_true h1, decide_eq_true h2, List.all_map, Bool.not_not]
            rfl
          have q := k H1 e
          rw [e2] at q
          exact q
      · have e : lets x a b = false := by
          have h2 : ¬ x.length ≤ b := fun q => by
            rw [decide_eq_true (show (x.length : Int) ≤ b by omega)] at h2
            cases h2
          unfold lets
          rw [decide_eq_false h2, Bool.and_false, Bool.false_and]
        have q := k H (Ex.refl _)
        rw [e] at q
        exact q
    · have e : lets x a b = false := by
        have h1 : ¬ a ≤ x.length := fun q => by
          rw [decide_eq_true (show (a : Int) ≤ x.length by omega)] at h1
          cases h1
        unfold lets
        rw [decide_eq_false h1, Bool.false_and, Bool.false_and]
      have q := k H (Ex.refl _)
      rw [e] at q
      exact ⟨_, rfl, q⟩
/-! ### _law_number -/
def spNumL : Sp := fun vs H Q _ => ∃ (x : Str), vs = [.str x] ∧ x.length ≤ 10000 ∧ ∀ H', Ex H H' → Q (if strictN (tl x) = true then .int (valN (tl x)) else .non) H'
theorem in_digits (c : Nat) : decide (c ∈ ("0123456789" : Str).cps.toList) = (decide (48 ≤ c) && decide (c ≤ 57)) := digit_mem c
theorem sc__law_number : FnScope ["_law_text", "_law_digits", "_law_sign"] ["_law_text"] (defScope s__law_number) := ⟨rfl, rfl, rfl, by decide +kernel, rfl, by decide +kernel, by decide +kernel⟩
theorem bi__law_number : BindsEq "_law_number" s__law_number ["_law_text"] := fun _ _ _ _ _ _ us hl => match us, hl with | [_], _ => rfl
theorem ok_numL (F : Df K mg "_law_number" s__law_number) (T : Txt K mg) : Cal P w K mg base CX0 1 "_law_number" spNumL := by
  refine cal0 F sc__law_number bi__law_number (fun vs H Q E h => ?_) (fun f cdv A outer sh H vs Q E hr h => ?_)
  · obtain ⟨x, rfl, _⟩ := h
    rfl
  · obtain ⟨x, rfl, hx, k⟩ := h
    refine ⟨_, (pss_cons (ps_set (i := 1) sc__law_number.nd rfl (Or.inl rfl) (pe_ifExp (pt_cmpR op_eq (pe_slice sl_str (pv 0) po_none (po_some pe_int)) pe_str (nomark _)) (pe_slice sl_str (pv 0) (po_some pe_int) po_none) (pv 0)))
 (pss_cons (ps_if (PW.pt (pw_or (pt_not (pt_chain op_le op_le pe_int (pe_callB (lnK K) rfl T.b_len (by decide +kernel) (pa_cons (pv 1) pa_nil)) pe_int)) (pw_or1 (pt_cmpR (inq K) pe_bl (pe_lc (own := [("_law_sign", 2)]) (by rfl) sc__law_number.nd (pi_str (pv 1)) (blkOk_by (own := [("_law_sign", 2)]) (N := ["_law_text", "_law_digits", "_law_sign"]) (sc := defScope s__law_number) (by decide +kernel)) (fun _ _ _ _ _ => (pg_name (i := 2) sc__law_number.nd rfl (Or.inl rfl))) (fun _ _ _ _ _ => pts_nil) (fun _ _ _ _ _ => (pe_cmpR op_in_sign (pv 2) pe_str (by rfl)))) (by rfl))))) (pss_one (ps_ret pe_non)) pss_nil)
 (pss_cons (ps_if (PW.pt (pw_and (pt_cmpR op_eq (pe_ix ix_str (pv 1) pe_int (fun _ _ => rfl)) pe_str (nomark _)) (pw_and1 (pt_cmpR op_ne (pv 0) pe_str (nomark _))))) (pss_one (ps_ret pe_non)) pss_nil)
 (pss_one (ps_ret (pe_callTy call_int_str rfl T.b_int (by decide +kernel) (pa_cons (pv 0) pa_nil))))))), ?_⟩
    have hxl := TL.len_tl x
    have q1 : tl ("-" : Str) = [45] := by decide +kernel
    generalize hw : tl x = w at *
    have hxe : x = S w := by rw [← hw, S_tl]
    have hpl : (plainN w).length ≤ w.length := by
      unfold plainN
      split
      · rw [List.length_drop]; omega
      · omega
    have hcmp : decide (V.str (cutS x none (some (1 : Int))) = V.str ("-" : Str)) = decide (w.take 1 = [45]) := by
      have q := cmp_take (x := x) (p := "-") (k := 1) (by rw [q1]; rfl)
      rw [q1, hw] at q
      exact q
    have bad : strictN w = false → ∀ H', Ex H H' → Q .non H' := fun hn H' e => by
      have q := k H' e
      rw [if_neg (by rw [hn]; decide)] at q
      exact q
    have good : strictN w = true → isNum w = true → ∀ H', Ex H H' → ∀ (σ : L2.St) (D : VK), σ[0]? = some (some (V.str x)) → (∀ v, Q v H' → D v H') → (tCB (fun xs H Q => ∃ a n, xs = [.str a] ∧ PySem.intText? a = some n ∧ a.length ≤ 640 ∧ Q (.int n) H) (tCons (tVar 0) tNil)) σ H' D := fun hs hy H' e σ D h0 hD => by
      obtain ⟨i1, i2⟩ := int_read hy
      rw [← hxe] at i1 i2
      refine ⟨_, h0, _, _, rfl, i1, i2, hD _ ?_⟩
      have q := k H' e
      rw [if_pos hs] at q
      exact q
    generalize hp : plainN w = p at hpl
    have hn : isNum w = (decide (1 ≤ p.length) && decide (p.length ≤ 30) && digs p) := by
      unfold isNum
      rw [hp]
    have noN : (decide (1 ≤ p.length) && decide (p.length ≤ 30) && digs p) = false → strictN w = false := fun q => by
      unfold strictN
      rw [hn, q]
      rfl
    refine ⟨_, rfl, _, rfl, x, rfl, szl (by omega), rfl, _, rfl, ?_⟩
    rw [hcmp]
    refine if_b (fun hm => ?_) (fun hm => ?_)
    · have hm := of_decide_eq_true hm
      have hz : tl (cutS x (some (1 : Int)) none) = p := by
        have q := cut_from x 1
        have q2 : cutS x (some (1 : Int)) none = S ((tl x).drop 1) := q
        rw [q2, hw, ← hp]
        unfold plainN
        rw [if_pos hm]
      refine ⟨_, rfl, _, rfl, x, rfl, szl (by omega), ?_⟩
      have hzl : (cutS x (some (1 : Int)) none).length ≤ 10000 := by rw [TL.len_tl, hz]; omega
      have hzn : (cutS x (some (1 : Int)) none).length = p.length := by rw [TL.len_tl, hz]
      refine ⟨_, rfl, .str (cutS x (some (1 : Int)) none), (cutS x (some (1 : Int)) none).length, rfl, ⟨szl (by omega), rfl⟩, _, _, rfl, rfl, _, rfl, if_b (fun c1 => ?_) (fun c1 => ?_)⟩
      · have c1 : 1 ≤ p.length := by
          have := of_decide_eq_true c1
          omega
        refine ⟨_, _, rfl, rfl, _, rfl, if_b (fun c2 => ?_) (fun c2 => ?_)⟩
        · refine if_t rfl (bad ?_ _ (Ex.refl _))
          have c2 : ¬ p.length ≤ 30 := fun q => by
            rw [decide_eq_true (show ((cutS x (some (1 : Int)) none).length : Int) ≤ 30 by omega)] at c2
            cases c2
          exact noN (by rw [decide_eq_false c2, Bool.and_false, Bool.false_and])
        · have c2 : p.length ≤ 30 := by
            have c2 : decide (((cutS x (some (1 : Int)) none).length : Int) ≤ 30) = true := by simpa using c2
            have := of_decide_eq_true c2
            omega
          refine ⟨_, rfl, (cutS x (some (1 : Int)) none), rfl, fun D nD => lc_gr walk_str (fun i acc _ => acc = (p.take i).map fun c => V.bl (decide (48 ≤ c) && decide (c ≤ 57))) nD (by show (cutS x (some (1 : Int)) none).length ≤ 100000; omega) rfl (fun _ _ => True.intro) ?_ ?_⟩
          · rintro i v acc H1 H2 hi e e' hD hl rfl ⟨rfl, c, hc, rfl⟩
            refine ⟨rfl, _, rfl, c, _, rfl, rfl, lc_put e' hD hl (by have : i < (cutS x (some (1 : Int)) none).length := hi; omega) (fun _ _ h => h) ?_⟩
            have hc : p[i]? = some c := by
              rw [← hz]
              have q := hc
              rw [← Array.getElem?_toList] at q
              exact q
            rw [digit_mem, List.take_add_one, List.map_append, hc]
            rfl
          · rintro acc H1 e e' hD hl rfl
            have et : p.take (cutS x (some (1 : Int)) none).length = p := List.take_of_length_le (by omega)
            obtain ⟨b1, b2⟩ := inV_bools (p.map fun c => decide (48 ≤ c) && decide (c ≤ 57))
            have hD' : SqL K H1 D ((p.map fun c => decide (48 ≤ c) && decide (c ≤ 57)).map V.bl) := by
              have hD' : H1 D = some (.lst ((p.take (cutS x (some (1 : Int)) none).length).map fun c => V.bl (decide (48 ≤ c) && decide (c ≤ 57)))) := hD
              rw [et] at hD'
              rw [List.map_map]
              exact SqLo hD'
            have ed : digs p = ((p.map fun c => decide (48 ≤ c) && decide (c ≤ 57)).all id) := by
              rw [List.all_map]
              rfl
            refine ⟨D, _, rfl, .inl hD', rfl, b1, _, rfl, ?_⟩
            rw [if_neg Bool.false_ne_true, b2, ← ed]
            refine if_b (fun c3 => ?_) (fun c3 => ?_)
            · refine bad ?_ _ e
              have c3 : (!digs p) = true := c3
              rw [Bool.not_eq_true'] at c3
              exact noN (by rw [c3, Bool.and_false])
            · have c3 : (!digs p) = false := c3
              rw [Bool.not_eq_false'] at c3
              have hy : isNum w = true := by
                rw [hn, c3, decide_eq_true c1, decide_eq_true c2]
                rfl
              obtain ⟨c, r, hpc⟩ : ∃ c r, p = c :: r := by
                cases hq : p with
                | nil => rw [hq] at c1; exact absurd c1 (by decide)
                | cons c r => exact ⟨c, r, rfl⟩
              have hc0 : atI (tl (cutS x (some (1 : Int)) none)) 0 = some c := by
                rw [hz, hpc]
                exact atI_nat (xs := c :: r) (j := 0) rfl
              refine ⟨_, rfl, (cutS x (some (1 : Int)) none), _, c, rfl, rfl, szl (by omega), hc0, rfl, _, rfl, if_b (fun c4 => ?_) (fun c4 => ?_)⟩
              · have c4 : c = 48 := by
                  have q := congrArg tl (V.str.inj (of_decide_eq_true c4))
                  have q2 : [c] = [48] := q
                  exact (List.cons.inj q2).1
                refine ⟨_, rfl, rfl, _, rfl, if_b (fun c5 => ?_) (fun c5 => ?_)⟩
                · have c5 : ¬ w = [48] := fun q => by
                    have c5 : decide (V.str x = V.str ("0" : Str)) = false := by simpa using c5
                    refine of_decide_eq_false c5 (congrArg V.str ?_)
                    rw [hxe, q]
                    decide +kernel
                  refine bad ?_ _ e
                  unfold strictN
                  rw [hp, hpc, c4]
                  show (isNum w && !(decide ([48] = [48]) && decide (w ≠ [48]))) = false
                  rw [decide_eq_true c5]; simp
                · have c5 : w = [48] := by
                    have c5 : decide (V.str x = V.str ("0" : Str)) = true := by simpa using c5
                    have q := congrArg tl (V.str.inj (of_decide_eq_true c5))
                    rw [hw] at q
                    rw [q]
                    decide +kernel
                  refine good ?_ hy _ e _ _ rfl (fun _ q => q)
                  unfold strictN
                  rw [hy, decide_eq_false (show ¬ w ≠ [48] from fun q => q c5), Bool.and_false]
                  rfl
              · have c4 : ¬ p.take 1 = [48] := fun q => by
                  rw [hpc] at q
                  have q : c = 48 := by simpa using q
                  have q2 := of_decide_eq_false c4
                  exact q2 (by rw [q]; decide +kernel)
                refine good ?_ hy _ e _ _ rfl (fun _ q => q)
                unfold strictN
                rw [hy, hp, decide_eq_false c4, Bool.false_and]
                rfl
      · refine ⟨_, rfl, if_t rfl (bad ?_ _ (Ex.refl _))⟩
        have c1 : ¬ 1 ≤ p.length := fun q => by
          rw [decide_eq_true (show (1 : Int) ≤ (cutS x (some (1 : Int)) none).length by omega)] at c1
          cases c1
        exact noN (by rw [decide_eq_false c1, Bool.false_and, Bool.false_and])
    · have hm := of_decide_eq_false hm
      have hz : tl x = p := by
        rw [hw, ← hp]
        unfold plainN
        rw [if_neg hm]
      refine ⟨_, rfl, ?_⟩
      have hzl : x.length ≤ 10000 := by rw [TL.len_tl, hz]; omega
      have hzn : x.length = p.length := by rw [TL.len_tl, hz]
      refine ⟨_, rfl, .str x, x.length, rfl, ⟨szl (by omega), rfl⟩, _, _, rfl, rfl, _, rfl, if_b (fun c1 => ?_) (fun c1 => ?_)⟩
      · have c1 : 1 ≤ p.length := by
          have := of_decide_eq_true c1
          omega
        refine ⟨_, _, rfl, rfl, _, rfl, if_b (fun c2 => ?_) (fun c2 => ?_)⟩
        · refine if_t rfl (bad ?_ _ (Ex.refl _))
          have c2 : ¬ p.length ≤ 30 := fun q => by
            rw [decide_eq_true (show (x.length : Int) ≤ 30 by omega)] at c2
            cases c2
          exact noN (by rw [decide_eq_false c2, Bool.and_false, Bool.false_and])
        · have c2 : p.length ≤ 30 := by
            have c2 : decide ((x.length : Int) ≤ 30) = true := by simpa using c2
            have := of_decide_eq_true c2
            omega
          refine ⟨_, rfl, x, rfl, fun D nD => lc_gr walk_str (fun i acc _ => acc = (p.take i).map fun c => V.bl (decide (48 ≤ c) && decide (c ≤ 57))) nD (by show x.length ≤ 100000; omega) rfl (fun _ _ => True.intro) ?_ ?_⟩
          · rintro i v acc H1 H2 hi e e' hD hl rfl ⟨rfl, c, hc, rfl⟩
            refine ⟨rfl, _, rfl, c, _, rfl, rfl, lc_put e' hD hl (by have : i < x.length := hi; omega) (fun _ _ h => h) ?_⟩
            have hc : p[i]? = some c := by
              rw [← hz]
              have q := hc
              rw [← Array.getElem?_toList] at q
              exact q
            rw [digit_mem, List.take_add_one, List.map_append, hc]
            rfl
          · rintro acc H1 e e' hD hl rfl
            have et : p.take x.length = p := List.take_of_length_le (by omega)
            obtain ⟨b1, b2⟩ := inV_bools (p.map fun c => decide (48 ≤ c) && decide (c ≤ 57))
            have hD' : SqL K H1 D ((p.map fun c => decide (48 ≤ c) && decide (c ≤ 57)).map V.bl) := by
              have hD' : H1 D = some (.lst ((p.take x.length).map fun c => V.bl (decide (48 ≤ c) && decide (c ≤ 57)))) := hD
              rw [et] at hD'
              rw [List.map_map]
              exact SqLo hD'
            have ed : digs p = ((p.map fun c => decide (48 ≤ c) && decide (c ≤ 57)).all id) := by
              rw [List.all_map]
              rfl
            refine ⟨D, _, rfl, .inl hD', rfl, b1, _, rfl, ?_⟩
            rw [if_neg Bool.false_ne_true, b2, ← ed]
            refine if_b (fun c3 => ?_) (fun c3 => ?_)
            · refine bad ?_ _ e
              have c3 : (!digs p) = true := c3
              rw [Bool.not_eq_true'] at c3
              exact noN (by rw [c3, Bool.and_false])
            · have c3 : (!digs p) = false := c3
              rw [Bool.not_eq_false'] at c3
              have hy : isNum w = true := by
                rw [hn, c3, decide_eq_true c1, decide_eq_true c2]
                rfl
              obtain ⟨c, r, hpc⟩ : ∃ c r, p = c :: r := by
                cases hq : p with
                | nil => rw [hq] at c1; exact absurd c1 (by decide)
                | cons c r => exact ⟨c, r, rfl⟩
              have hc0 : atI (tl x) 0 = some c := by
                rw [hz, hpc]
                exact atI_nat (xs := c :: r) (j := 0) rfl
              refine ⟨_, rfl, x, _, c, rfl, rfl, szl (by omega), hc0, rfl, _, rfl, if_b (fun c4 => ?_) (fun c4 => ?_)⟩
              · have c4 : c = 48 := by
                  have q := congrArg tl (V.str.inj (of_decide_eq_true c4))
                  have q2 : [c] = [48] := q
                  exact (List.cons.inj q2).1
                refine ⟨_, rfl, rfl, _, rfl, if_b (fun c5 => ?_) (fun c5 => ?_)⟩
                · have c5 : ¬ w = [48] := fun q => by
                    have c5 : decide (V.str x = V.str ("0" : Str)) = false := by simpa using c5
                    refine of_decide_eq_false c5 (congrArg V.str ?_)
                    rw [hxe, q]
                    decide +kernel
                  refine bad ?_ _ e
                  unfold strictN
                  rw [hp, hpc, c4]
                  show (isNum w && !(decide ([48] = [48]) && decide (w ≠ [48]))) = false
                  rw [decide_eq_true c5]; simp
                · have c5 : w = [48] := by
                    have c5 : decide (V.str x = V.str ("0" : Str)) = true := by simpa using c5
                    have q := congrArg tl (V.str.inj (of_decide_eq_true c5))
                    rw [hw] at q
                    rw [q]
                    decide +kernel
                  refine good ?_ hy _ e _ _ rfl (fun _ q => q)
                  unfold strictN
                  rw [hy, decide_eq_false (show ¬ w ≠ [48] from fun q => q c5), Bool.and_false]
                  rfl
              · have c4 : ¬ p.take 1 = [48] := fun q => by
                  rw [hpc] at q
                  have q : c = 48 := by simpa using q
                  have q2 := of_decide_eq_false c4
                  exact q2 (by rw [q]; decide +kernel)
                refine good ?_ hy _ e _ _ rfl (fun _ q => q)
                unfold strictN
                rw [hy, hp, decide_eq_false c4, Bool.false_and]
                rfl
      · refine ⟨_, rfl, if_t rfl (bad ?_ _ (Ex.refl _))⟩
        have c1 : ¬ 1 ≤ p.length := fun q => by
          rw [decide_eq_true (show (1 : Int) ≤ x.length by omega)] at c1
          cases c1
        exact noN (by rw [decide_eq_false c1, Bool.false_and, Bool.false_and])
end
end WT

namespace WT
open PySem PySem.Spec L2 LW VL
open Evl (Ex)
open SX (S S_tl S_inj S_len S_cat)
open TL (tl numL joinL)
/-! ### a heap with a new object that changes -/
structure Lg (H Hi : Hp) (D : Addr) (o : HO) : Prop where
  ex : Ex H (del Hi D)
  hD : Hi D = some o
theorem Lg.all {H Hi : Hp} {D : Addr} {o : HO} (h : Lg H Hi D o) : Ex H Hi := h.ex.trans ex_del
theorem Lg.new {H : Hp} {D : Addr} {o : HO} (nD : H D = none) : Lg H (upd H D o) D o := ⟨by rw [del_none nD]; exact Ex.refl _, upd_same⟩
theorem Lg.grow {H Hi H4 : Hp} {D : Addr} {o : HO} (h : Lg H Hi D o) (e : Ex Hi H4) : Lg H H4 D o := ⟨h.ex.trans (del_grow' e), e _ _ h.hD⟩
theorem Lg.mono {H Hi H4 : Hp} {D : Addr} (e : Ex Hi H4) : Ex (fr H (del Hi D)) (fr H (del H4 D)) := fr_mono (del_grow' e)
theorem Lg.next {H Hi H4 : Hp} {D : Addr} {o : HO} (o' : HO) (h : Lg H Hi D o) (e : Ex Hi H4) : Lg H (upd H4 D o') D o' ∧ Ex (fr H (del Hi D)) (fr H (del (upd H4 D o') D)) ∧ Ex (fr Hi H4) (fr H (del (upd H4 D o') D)) ∧ H4 D = some o := by
  have hx := h.all
  refine ⟨⟨by rw [del_upd]; exact h.ex.trans (del_grow' e), upd_same⟩, by rw [del_upd]; exact Lg.mono e, ?_, e _ _ h.hD⟩
  rw [del_upd]
  intro b x q
  obtain ⟨n, q⟩ := fr_some q
  have eD : b ≠ D := fun z => by rw [z, h.hD] at n; cases n
  exact fr_get (ex_free hx n) (del_get q eD)
/-- what is wanted behind a reading of the law -/
def LsQ (H : Hp) (Q : VK) : ResL → Prop
  | none => ∀ H', Ex H H' → Q .non H'
  | some (d, t) => ∀ p u H', Ex H H' → H' p = some (.tup [u, .str (S t)]) → Dt (fr H H') d u → Q (.ref p) H'
theorem LsQ.ex {H H1 : Hp} {Q : VK} (e : Ex H H1) : ∀ {r : ResL}, LsQ H Q r → LsQ H1 Q r
  | none, h => fun H' e' => h H' (e.trans e')
  | some (d, t), h => fun p u H' e' hp hd => h p u H' (e.trans e') hp (hd.ex (fr_base (dm_ex e)))
theorem dro_one (R : List Nat) (c : Nat) : tk (dro R [c]) [c] = !(dro R [c]).isEmpty := by
  cases h : dro R [c] with
  | nil => exact tk_nil
  | cons a r =>
    have := dro_head (t := R) (sg := [c]) a (by rw [h]; rfl)
    rw [List.mem_singleton.mp this]
    exact tk_c
section
variable {P : Program} {w : World} {K : PySem.W.Frag} {mg : Str → Option Value} {base : Heap} {C CI : Addr}
/-! ### _law_leaf_read -/
def spLeafR : Sp := fun vs H Q _ => ∃ (x : Str), vs = [.str x] ∧ x.length ≤ 10000 ∧ LsQ H Q (lleaf (tl x))
theorem sc__law_leaf_read : FnScope ["_law_text", "_law_end_here", "_law_number_here"] ["_law_text"] (defScope s__law_leaf_read) := ⟨rfl, rfl, rfl, by decide +kernel, rfl, by decide +kernel, by decide +kernel⟩
theorem bi__law_leaf_read : BindsEq "_law_leaf_read" s__law_leaf_read ["_law_text"] := fun _ _ _ _ _ _ us hl => match us, hl with | [_], _ => rfl
theorem ok_leafR (F : Df K mg "_law_leaf_read" s__law_leaf_read) (T : Txt K mg) (C__law_end : Cal P w K mg base CX0 1 "_law_end" spEnd) (C__law_number : Cal P w K mg base CX0 1 "_law_number" spNumL) (C__law_letters : Cal P w K mg base CX0 1 "_law_letters" spLLets) : Cal P w K mg base CX0 2 "_law_leaf_read" spLeafR := by
  refine cal0 F sc__law_leaf_read bi__law_leaf_read (fun vs H Q E h => ?_) (fun f cdv A outer sh H vs Q E hr h => ?_)
  · obtain ⟨x, rfl, _⟩ := h
    rfl
  · obtain ⟨x, rfl, hx, k⟩ := h
    refine ⟨_, (pss_cons (ps_if (pt_cmpR op_eq (pe_slice sl_str (pv 0) po_none (po_some pe_int)) pe_str (nomark _)) (pss_cons (ps_set (i := 1) sc__law_leaf_read.nd rfl (Or.inl rfl) (pe_op op_add pe_int (pe_k C__law_end hr (by decide) rfl (pa_cons (pe_slice sl_str (pv 0) (po_some pe_int) po_none) (pa_cons pe_str pa_nil)))))
 (pss_cons (ps_if (PW.pt (pw_or (pt_cmpR op_eq (pv 1) (pe_callB (lnK K) rfl T.b_len (by decide +kernel) (pa_cons (pv 0) pa_nil)) (nomark _)) (pw_or1 (pt_not (pt_val (pe_k C__law_letters hr (by decide) rfl (pa_cons (pe_slice sl_str (pv 0) (po_some pe_int) (po_some (pv 1))) (pa_cons pe_int (pa_cons pe_int pa_nil))))))))) (pss_one (ps_ret pe_non)) pss_nil)
 (pss_one (ps_ret (pe_tup (pa_cons (pe_slice sl_str (pv 0) (po_some pe_int) (po_some (pv 1))) (pa_cons (pe_slice sl_str (pv 0) (po_some (pe_op op_add (pv 1) pe_int)) po_none) pa_nil))))))) pss_nil)
 (pss_cons (ps_set (i := 1) sc__law_leaf_read.nd rfl (Or.inl rfl) (pe_k C__law_end hr (by decide) rfl (pa_cons (pv 0) (pa_cons pe_str pa_nil))))
 (pss_cons (ps_set (i := 2) sc__law_leaf_read.nd rfl (Or.inl rfl) (pe_k C__law_number hr (by decide) rfl (pa_cons (pe_slice sl_str (pv 0) po_none (po_some (pv 1))) pa_nil)))
 (pss_one (ps_ret (pe_ifExp (pt_cmpR op_isN (pv 2) pe_non (nomark _)) pe_non (pe_tup (pa_cons (pv 2) (pa_cons (pe_slice sl_str (pv 0) (po_some (pv 1)) po_none) pa_nil))))))))), ?_⟩
    have hxl := TL.len_tl x
    have q3 : tl ("\"" : Str) = [34] := by decide +kernel
    have q4 : tl (",]}" : Str) = [44, 93, 125] := by decide +kernel
    have hcmp : decide (V.str (cutS x none (some (1 : Int))) = V.str ("\"" : Str)) = tk (tl x) [34] := by
      have q := cmp_take (x := x) (p := "\"") (k := 1) (by rw [q3]; rfl)
      rw [q3] at q
      exact q
    unfold lleaf at k
    refine ⟨_, rfl, _, rfl, x, rfl, szl (by omega), rfl, _, rfl, ?_⟩
    rw [hcmp]
    refine if_b (fun h => ?_) (fun h => ?_)
    · rw [if_pos h] at k
      have hx1 : 1 ≤ (tl x).length := by
        have := congrArg List.length (tk_one h)
        rw [List.length_cons] at this
        omega
      have hc1 : cutS x (some (1 : Int)) none = S ((tl x).drop 1) := cut_from x 1
      refine ⟨_, rfl, _, rfl, x, rfl, szl (by omega), ?_⟩
      rw [hc1]
      refine ⟨S ((tl x).drop 1), "\"", rfl, by rw [S_len, List.length_drop]; omega, _, _, rfl, rfl, ?_⟩
      rw [q3]
      have es : tl (S ((tl x).drop 1)) = (tl x).drop 1 := rfl
      rw [es]
      generalize hR : (tl x).drop 1 = R at *
      have hRl : R.length + 1 = (tl x).length := by rw [← hR, List.length_drop]; omega
      have hud := congrArg List.length (unt_dro R [34])
      rw [List.length_append] at hud
      have hdo := dro_one R 34
      have hcu : cutS x (some (1 : Int)) (some ((1 : Int) + ((unt R [34]).length : Nat))) = S (unt R [34]) := by
        have q := cut_mid x 1 (1 + (unt R [34]).length) (by omega)
        rw [show (((1 + (unt R [34]).length : Nat)) : Int) = (1 : Int) + ((unt R [34]).length : Nat) by omega] at q
        rw [show ((1 : Nat) : Int) = (1 : Int) from rfl] at q
        rw [q, hR, show 1 + (unt R [34]).length - 1 = (unt R [34]).length by omega, take_unt]
      refine ⟨_, rfl, _, rfl, .str x, x.length, rfl, ⟨szl (by omega), rfl⟩, rfl, _, rfl, if_b (fun h1 => ?_) (fun h1 => ?_)⟩
      · have h1 : (dro R [34]).isEmpty = true := by
          have q := of_decide_eq_true h1
          injection q with q
          rw [List.isEmpty_iff]
          exact List.length_eq_zero_iff.mp (by omega)
        rw [if_pos (.inl (by rw [hdo, h1]; rfl))] at k
        exact k H (Ex.refl _)
      · have h1 : (dro R [34]).isEmpty = false := by
          have q := of_decide_eq_false h1
          cases hd : (dro R [34]).isEmpty with
          | false => rfl
          | true =>
            rw [List.isEmpty_iff] at hd
            rw [hd] at hud
            exact (q (congrArg V.int (by show (1 : Int) + ((unt R [34]).length : Nat) = x.length; simp at hud; omega))).elim
        rw [h1] at hdo
        refine ⟨_, rfl, _, rfl, _, rfl, _, rfl, x, rfl, szl (by omega), ?_⟩
        rw [hcu]
        refine ⟨S (unt R [34]), 0, 20, rfl, by rw [S_len]; omega, fun H1 x1 => ⟨_, rfl, if_b (fun h2 => ?_) (fun h2 => ?_)⟩⟩
        · have h2 : lets (S (unt R [34])) 0 20 = false := by simpa using h2
          rw [if_pos (.inr h2)] at k
          exact k H1 x1
        · have h2 : lets (S (unt R [34])) 0 20 = true := by simpa using h2
          rw [if_neg (by rintro (q | q); rw [hdo] at q; cases q; rw [h2] at q; cases q)] at k
          refine ⟨_, rfl, _, rfl, _, rfl, _, rfl, x, rfl, szl (by omega), ?_⟩
          rw [hcu]
          refine ⟨_, rfl, _, rfl, _, _, rfl, rfl, _, rfl, x, rfl, szl (by omega), szl (by show 2 ≤ 100000; decide), fun p np => ?_⟩
          have hce : cutS x (some ((1 : Int) + ((unt R [34]).length : Nat) + 1)) none = S ((dro R [34]).drop 1) := by
            have q := cut_from x (1 + (unt R [34]).length + 1)
            rw [show (((1 + (unt R [34]).length + 1 : Nat)) : Int) = (1 : Int) + ((unt R [34]).length : Nat) + 1 by omega] at q
            rw [q, dr_dr, dr_dr, hR, drop_unt]
          rw [hce]
          exact k p _ _ (x1.trans (Ex.new np)) upd_same (by unfold Dt; rfl)
    · rw [if_neg (by rw [h]; decide)] at k
      have hul := unt_len (tl x) [44, 93, 125]
      refine ⟨_, rfl, x, ",]}", rfl, hx, ?_⟩
      rw [q4]
      refine ⟨_, rfl, _, rfl, _, rfl, x, rfl, szl (by omega), ?_⟩
      rw [cut_to, take_unt]
      refine ⟨S (unt (tl x) [44, 93, 125]), rfl, by rw [S_len]; omega, fun H1 x1 => ?_⟩
      have es : tl (S (unt (tl x) [44, 93, 125])) = unt (tl x) [44, 93, 125] := rfl
      rw [es]
      by_cases hs : strictN (unt (tl x) [44, 93, 125]) = true
      · rw [if_pos hs] at k ⊢
        refine ⟨_, rfl, rfl, _, rfl, if_f rfl ?_⟩
        refine ⟨_, rfl, _, rfl, _, rfl, _, rfl, x, rfl, szl (by omega), szl (by show 2 ≤ 100000; decide), fun p np => ?_⟩
        rw [cut_from, drop_unt]
        exact k p _ _ (x1.trans (Ex.new np)) upd_same (by unfold Dt; rfl)
      · rw [if_neg hs] at k ⊢
        exact ⟨_, rfl, rfl, _, rfl, if_t rfl (k H1 x1)⟩
end
end WT

namespace WT
open PySem PySem.Spec L2 LW VL
open Evl (Ex)
open SX (S S_tl S_inj S_len S_cat)
open TL (tl numL joinL)
theorem cmp_ne {x p : Str} {k : Nat} (hk : (tl p).length = k) : (!decide (V.str (cutS x none (some (k : Int))) = V.str p)) = !tk (tl x) (tl p) := by rw [cmp_take hk]
theorem lsL_close {rd : List Nat → ResL} {f : Nat} {ds : List PyData} {t : List Nat} (h : tk t [93] = true) : lsL rd (f + 1) ds t = some (.list ds, t.drop 1) := by
  unfold lsL
  rw [if_pos (.inl h), if_pos h]
theorem lsL_sep {rd : List Nat → ResL} {f : Nat} {ds : List PyData} {t : List Nat} (h : tk t [93] = false) (hd : ds ≠ []) (hs : tk t [44, 32] = false) : lsL rd (f + 1) ds t = none := by
  unfold lsL
  rw [if_pos (.inr ⟨hd, hs⟩), if_neg (by rw [h]; decide)]
theorem lsL_none {rd : List Nat → ResL} {f : Nat} {ds : List PyData} {t : List Nat} (h : tk t [93] = false) (hs : ds = [] ∨ tk t [44, 32] = true) (hr : rd (t.drop (if ds = [] then 0 else 2)) = none) : lsL rd (f + 1) ds t = none := by
  unfold lsL
  rw [if_neg (by
    rintro (q | ⟨q1, q2⟩)
    · rw [h] at q; cases q
    · rcases hs with hs | hs
      · exact q1 hs
      · rw [hs] at q2; cases q2), hr]
theorem lsL_some {rd : List Nat → ResL} {f : Nat} {ds : List PyData} {t t' : List Nat} {d : PyData} (h : tk t [93] = false) (hs : ds = [] ∨ tk t [44, 32] = true) (hr : rd (t.drop (if ds = [] then 0 else 2)) = some (d, t')) : lsL rd (f + 1) ds t = if 59 < ds.length then none else lsL rd f (ds ++ [d]) t' := by
  conv => lhs; unfold lsL
  rw [if_neg (by
    rintro (q | ⟨q1, q2⟩)
    · rw [h] at q; cases q
    · rcases hs with hs | hs
      · exact q1 hs
      · rw [hs] at q2; cases q2), hr]
theorem lr_len : ∀ {n : Nat} {t t' : List Nat} {d : PyData}, lrF n t = some (d, t') → t'.length ≤ t.length := fun h => by
  obtain ⟨e, _⟩ := lr_sound _ _ _ _ h
  rw [e, List.length_append]
  omega
section
variable {P : Program} {w : World} {K : PySem.W.Frag} {mg : Str → Option Value} {base : Heap} {C CI : Addr}
/-! ### _law_list_read -/
def spRdL (r : Nat → List Nat → ResL) (n : Nat) : Sp := fun vs H Q _ => ∃ (x : Str) (k : Nat), vs = [.str x, .int k] ∧ n + k = 62 ∧ k ≤ 61 ∧ x.length ≤ 10000 ∧ LsQ H Q (r n (tl x))
def rdR (n : Nat) (t : List Nat) : ResL := lrF (n - 1) t
def listL (n : Nat) (t : List Nat) : ResL := lsL (rdR n) 62 [] t
structure LlW (D : Addr) (H : Hp) (n k : Nat) (σ : L2.St) (Hi : Hp) (ds : List PyData) (f : Nat) (x : Str) (vs : List V) : Prop where
  st : ∃ o3, σ = [some (.str x), some (.int ((k : Nat) : Int)), some (.ref D), o3]
  lg : Lg H Hi D (.lst vs)
  dt : DtL (fr H (del Hi D)) ds vs
  xl : x.length ≤ 10000
  fd : f + ds.length = 62
  dl : ds.length ≤ 60
theorem LlW.grow {D : Addr} {H Hi H2 : Hp} {n k : Nat} {σ : L2.St} {ds : List PyData} {f : Nat} {x : Str} {vs : List V} (W : LlW D H n k σ Hi ds f x vs) (e : Ex Hi H2) : LlW D H n k σ H2 ds f x vs := ⟨W.st, W.lg.grow e, W.dt.ex (Lg.mono e), W.xl, W.fd, W.dl⟩
theorem sc__law_list_read : FnScope ["_law_text", "_law_deep", "_law_found", "_law_one"] ["_law_text", "_law_deep"] (defScope s__law_list_read) := ⟨rfl, rfl, rfl, by decide +kernel, rfl, by decide +kernel, by decide +kernel⟩
theorem bi__law_list_read : BindsEq "_law_list_read" s__law_list_read ["_law_text", "_law_deep"] := fun _ _ _ _ _ _ us hl => match us, hl with | [_, _], _ => rfl
theorem ok_listLR (F : Df K mg "_law_list_read" s__law_list_read) (T : Txt K mg) (n : Nat) (C__law_read : Cal P w K mg base CX0 (2 * n + 3) "_law_read" (spRdL rdR n)) : Cal P w K mg base CX0 (2 * n + 4) "_law_list_read" (spRdL listL n) := by
  refine cal0 F sc__law_list_read bi__law_list_read (fun vs H Q E h => ?_) (fun f cdv A outer sh H vs Q E hr h => ?_)
  · obtain ⟨x, k, rfl, _⟩ := h
    rfl
  · obtain ⟨x, k, rfl, hnk, hk, hx, kq⟩ := h
    refine ⟨_, (pss_cons (ps_set (i := 2) sc__law_list_read.nd rfl (Or.inl rfl) (pe_lst pa_nil))
 (pss_cons (ps_while PassesOwn.never (PW.pt (pw_or (pt_cmpR op_ne (pe_slice sl_str (pv 0) po_none (po_some pe_int)) pe_str (nomark _)) (pw_or1 (pt_cmpR (op_eqNil K hr.units) (pv 2) (pe_lst pa_nil) (nomark _))))) (pss_cons (ps_if (PW.pt (pw_and (pt_cmpR (op_eqNil K hr.units) (pv 2) (pe_lst pa_nil) (nomark _)) (pw_and1 (pt_cmpR op_eq (pe_slice sl_str (pv 0) po_none (po_some pe_int)) pe_str (nomark _))))) (pss_one (ps_ret (pe_tup (pa_cons (pv 2) (pa_cons (pe_slice sl_str (pv 0) (po_some pe_int) po_none) pa_nil))))) pss_nil)
 (pss_cons (ps_if (PW.pt (pw_and (pt_cmpR (op_neNil K hr.units) (pv 2) (pe_lst pa_nil) (nomark _)) (pw_and1 (pt_cmpR op_ne (pe_slice sl_str (pv 0) po_none (po_some pe_int)) pe_str (nomark _))))) (pss_one (ps_ret pe_non)) pss_nil)
 (pss_cons (ps_set (i := 3) sc__law_list_read.nd rfl (Or.inl rfl) (pe_k C__law_read hr (by omega) rfl (pa_cons (pe_slice sl_str (pv 0) (po_some (pe_op op_mul pe_int (pe_callTy call_int1 rfl T.b_int (by decide +kernel) (pa_cons (pe_cmpR (op_neNil K hr.units) (pv 2) (pe_lst pa_nil) (nomark _)) pa_nil)))) po_none) (pa_cons (pv 1) pa_nil))))
 (pss_cons (ps_if (PW.pt (pw_or (pt_cmpR op_isN (pv 3) pe_non (nomark _)) (pw_or1 (pt_cmpR op_gt (pe_callB (lnK K) rfl T.b_len (by decide +kernel) (pa_cons (pv 2) pa_nil)) pe_int (nomark _))))) (pss_one (ps_ret pe_non)) pss_nil)
 (pss_cons (ps_expr (pe_bm PySem.F.plainAttrs_list PySem.F.slot_list_append PySem.F.type_list_append mt_append (pv 2) (pa_cons (pe_ix (ixt K) (pv 3) pe_int (fun _ _ => rfl)) pa_nil)))
 (pss_one (ps_set (i := 0) sc__law_list_read.nd rfl (Or.inl rfl) (pe_ix (ixt K) (pv 3) pe_int (fun _ _ => rfl))))))))))
 (pss_one (ps_ret (pe_tup (pa_cons (pv 2) (pa_cons (pe_slice sl_str (pv 0) (po_some pe_int) po_none) pa_nil))))))), ?_⟩
    refine ⟨szl (by decide), fun D nD => ?_⟩
    have lg0 : Lg H (upd H D (.lst [])) D (.lst []) := Lg.new nD
    generalize upd H D (.lst []) = Ha at lg0
    have q1 : tl ("]" : Str) = [93] := by decide +kernel
    have q2 : tl (", " : Str) = [44, 32] := by decide +kernel
    have c1 : ∀ y : Str, decide (V.str (cutS y none (some (1 : Int))) = V.str ("]" : Str)) = tk (tl y) [93] := fun y => by
      have q := cmp_take (x := y) (p := "]") (k := 1) (by rw [q1]; rfl)
      rw [q1] at q
      exact q
    have c2 : ∀ y : Str, decide (V.str (cutS y none (some (2 : Int))) = V.str (", " : Str)) = tk (tl y) [44, 32] := fun y => by
      have q := cmp_take (x := y) (p := ", ") (k := 2) (by rw [q2]; rfl)
      rw [q2] at q
      exact q
    have fin : ∀ {Hi : Hp} {ds : List PyData} {vs : List V} {y : Str}, Lg H Hi D (.lst vs) → DtL (fr H (del Hi D)) ds vs → LsQ H Q (some (.list ds, (tl y).drop 1)) → ∀ p, Hi p = none → Q (.ref p) (upd Hi p (.tup [.ref D, .str (cutS y (some (1 : Int)) none)])) := fun {Hi ds vs y} lg dt q p np => by
      have e : cutS y (some (1 : Int)) none = S ((tl y).drop 1) := cut_from y 1
      rw [e]
      have xp : Ex Hi (upd Hi p (.tup [.ref D, .str (S ((tl y).drop 1))])) := Ex.new np
      refine q p (.ref D) _ (lg.all.trans xp) upd_same ?_
      unfold Dt
      exact ⟨D, vs, rfl, .inl (fr_get nD (xp _ _ lg.hD)), dt.ex ((fr_mono ex_del).trans (fr_mono xp))⟩
    refine while_cps (fun j σ Hi => ∃ ds f x vs, LlW D H n k σ Hi ds f x vs ∧ j = f ∧ LsQ H Q (lsL (rdR n) f ds (tl x)))
      (fun j σ Hi => ∃ ds f x vs, LlW D H n k σ Hi ds f x vs ∧ j = f ∧ LsQ H Q (lsL (rdR n) f ds (tl x)) ∧ (tk (tl x) [93] = true → ds = []))
      (fun j σ Hi => ∃ ds f x vs, LlW D H n k σ Hi ds f x vs ∧ LsQ H Q (lsL (rdR n) f ds (tl x)) ∧ tk (tl x) [93] = true) ?_ ?_ ?_ ?_
    · exact ⟨62, [], 62, x, [], ⟨⟨none, rfl⟩, lg0, DtL.nil, hx, rfl, by decide⟩, rfl, kq⟩
    · rintro j σ Hi Q' ⟨ds, f, x, vs, W, rfl, kq⟩ hB hY
      obtain ⟨o3, rfl⟩ := W.st
      have xl := W.xl
      refine ⟨_, rfl, _, rfl, x, rfl, szl (by omega), rfl, _, rfl, ?_⟩
      rw [c1]
      refine if_b (fun h => ?_) (fun h => ?_)
      · exact hB Hi ⟨ds, _, x, vs, W, rfl, kq, fun e => by rw [e] at h; cases h⟩
      · have h : tk (tl x) [93] = true := by simpa using h
        refine ⟨_, rfl, szl (by decide), fun p np => ?_⟩
        have xp : Ex Hi (upd Hi p (.lst [])) := Ex.new np
        have W2 := W.grow xp
        refine ⟨D, p, vs, rfl, rfl, .inl W2.lg.hD, .inl upd_same, _, rfl, ?_⟩
        have hl := W.dt.len
        cases hv : vs.isEmpty with
        | true =>
          rw [List.isEmpty_iff] at hv
          exact hB _ ⟨ds, _, x, vs, W2, rfl, kq, fun _ => List.length_eq_zero_iff.mp (by rw [← hl, hv]; rfl)⟩
        | false => exact hY _ ⟨ds, _, x, vs, W2, kq, h⟩
    · rintro j σ Hi ⟨ds, f, x, vs, W, rfl, kq, hcl⟩
      obtain ⟨o3, rfl⟩ := W.st
      have xl := W.xl
      have fd := W.fd
      have dl := W.dl
      match j, fd, kq, W with
      | 0, fd, _, _ => omega
      | f + 1, fd, kq, W =>
      have hl := W.dt.len
      -- found == [] and text[:1] == ']'
      refine ⟨_, rfl, szl (by decide), fun p np => ?_⟩
      have xp : Ex Hi (upd Hi p (.lst [])) := Ex.new np
      have W2 := W.grow xp
      refine ⟨D, p, vs, rfl, rfl, .inl W2.lg.hD, .inl upd_same, _, rfl, ?_⟩
      generalize upd Hi p (.lst []) = H1 at *
      cases hv : vs.isEmpty with
      | true =>
        rw [List.isEmpty_iff] at hv
        have hds : ds = [] := List.length_eq_zero_iff.mp (by rw [← hl, hv]; rfl)
        subst hds
        subst hv
        refine if_t rfl ⟨_, rfl, _, rfl, x, rfl, szl (by omega), rfl, _, rfl, ?_⟩
        rw [c1]
        refine if_b (fun h => ?_) (fun h => ?_)
        · rw [lsL_close h] at kq
          exact ⟨_, rfl, _, rfl, _, rfl, x, rfl, szl (by omega), szl (by show 2 ≤ 100000; decide), fun p np => fin W2.lg W2.dt kq p np⟩
        -- found != []
        refine ⟨_, rfl, szl (by decide), fun p2 np2 => ?_⟩
        have xp2 : Ex H1 (upd H1 p2 (.lst [])) := Ex.new np2
        have W3 := W2.grow xp2
        refine ⟨D, p2, [], rfl, rfl, .inl W3.lg.hD, .inl upd_same, _, rfl, if_f rfl ?_⟩
        generalize upd H1 p2 (.lst []) = H2 at *
        -- one
        refine ⟨_, rfl, _, rfl, szl (by decide), fun p3 np3 => ?_⟩
        have xp3 : Ex H2 (upd H2 p3 (.lst [])) := Ex.new np3
        have W4 := W3.grow xp3
        refine ⟨D, p3, [], rfl, rfl, .inl W4.lg.hD, .inl upd_same, .inr ⟨_, rfl, _, _, rfl, rfl, .inl ⟨by decide, by decide⟩, _, rfl, x, rfl, szl (by omega), ?_⟩⟩
        generalize upd H2 p3 (.lst []) = H3 at *
        have e0 : cutS x (some ((2 : Int) * (if (!([] : List V).isEmpty) = true then 1 else 0))) none = S ((tl x).drop 0) := cut_from x 0
        rw [e0]
        have hl0 : ([] : List V).length = 0 := rfl
        have hd0 : ([] : List PyData).length = 0 := rfl
        have hne : tk (tl x) [93] = false := h
        refine ⟨_, rfl, S ((tl x).drop 0), k, rfl, hnk, hk, by rw [S_len, List.length_drop, ← TL.len_tl]; omega, ?_⟩
        have es : tl (S ((tl x).drop 0)) = (tl x).drop 0 := rfl
        rw [es]
        have hcl' : tk (tl x) [93] = false := hne
        cases e : rdR n ((tl x).drop 0) with
        | none =>
          rw [lsL_none (ds := []) hcl' (.inl rfl) (show rdR n ((tl x).drop 0) = _ from e)] at kq
          intro H' e'
          exact ⟨_, rfl, rfl, _, rfl, if_t rfl (kq H' (W4.lg.all.trans e'))⟩
        | some r =>
          obtain ⟨d, t'⟩ := r
          rw [lsL_some (ds := []) hcl' (.inl rfl) (show rdR n ((tl x).drop 0) = _ from e)] at kq
          have htl : t'.length ≤ 10000 := by
            have := lr_len e
            rw [List.length_drop, ← TL.len_tl] at this
            omega
          intro p u H' e' hp hd
          obtain ⟨n1, n2, n3, n4⟩ := W4.lg.next (.lst ([] ++ [u])) e'
          refine ⟨_, rfl, rfl, _, rfl, if_f rfl ?_⟩
          refine ⟨_, rfl, .ref D, ([] : List V).length, rfl, .inl ⟨[], SqLo n4, rfl⟩, _, _, rfl, rfl, _, rfl, if_b (fun h59 => ?_) (fun h59 => ?_)⟩
          · have h59 : 59 < ([] : List PyData).length := by
              have := of_decide_eq_true h59
              omega
            rw [if_pos h59] at kq
            exact kq H' (W4.lg.all.trans e')
          · have h59 : ¬ 59 < ([] : List PyData).length := by
              have := of_decide_eq_false h59
              omega
            rw [if_neg h59] at kq
            have pD : p ≠ D := fun z => by
              rw [z, n4] at hp
              cases hp
            refine ⟨_, rfl, .inl ⟨rfl, _, SqLo n4⟩, _, rfl, p, _, _, u, rfl, rfl, SqTo hp, rfl, D, _, _, rfl, rfl, n4, szlt (by omega), ?_⟩
            refine ⟨_, rfl, p, _, _, .str (S t'), rfl, rfl, SqTo (up_ne hp pD), rfl, ?_⟩
            exact ⟨f, by omega, [] ++ [d], f, S t', [] ++ [u], ⟨⟨_, rfl⟩, n1, DtL.app (W4.dt.ex n2) (DtL.cons (hd.ex n3) DtL.nil), by rw [S_len]; exact htl, by rw [List.length_append]; show f + (_ + 1) = 62; omega, by rw [List.length_append]; show _ + 1 ≤ 60; omega⟩, rfl, kq⟩
      | false =>
        have hv2 : vs ≠ [] := fun e => by rw [e] at hv; cases hv
        have hne2 : ds ≠ [] := fun e => by
          rw [e] at hl
          exact hv2 (List.length_eq_zero_iff.mp hl)
        have hne : tk (tl x) [93] = false := by
          cases q : tk (tl x) [93] with
          | false => rfl
          | true => exact (hne2 (hcl q)).elim
        refine if_f rfl ?_
        -- found != [] and text[:2] != ', '
        refine ⟨_, rfl, szl (by decide), fun p2 np2 => ?_⟩
        have xp2 : Ex H1 (upd H1 p2 (.lst [])) := Ex.new np2
        have W3 := W2.grow xp2
        refine ⟨D, p2, vs, rfl, rfl, .inl W3.lg.hD, .inl upd_same, _, rfl, ?_⟩
        generalize upd H1 p2 (.lst []) = H2 at *
        rw [hv]
        refine if_t rfl ⟨_, rfl, _, rfl, x, rfl, szl (by omega), rfl, _, rfl, ?_⟩
        rw [c2]
        refine if_b (fun h => ?_) (fun h => ?_)
        · have h : tk (tl x) [44, 32] = false := by simpa using h
          rw [lsL_sep hne hne2 h] at kq
          exact kq H2 W3.lg.all
        have hsep : tk (tl x) [44, 32] = true := by simpa using h
        refine ⟨_, rfl, _, rfl, szl (by decide), fun p3 np3 => ?_⟩
        have xp3 : Ex H2 (upd H2 p3 (.lst [])) := Ex.new np3
        have W4 := W3.grow xp3
        refine ⟨D, p3, vs, rfl, rfl, .inl W4.lg.hD, .inl upd_same, .inr ⟨_, rfl, _, _, rfl, rfl, .inl ⟨by decide, by decide⟩, _, rfl, x, rfl, szl (by omega), ?_⟩⟩
        generalize upd H2 p3 (.lst []) = H3 at *
        have e0 : cutS x (some ((2 : Int) * (if (!vs.isEmpty) = true then 1 else 0))) none = S ((tl x).drop 2) := by
          rw [hv]
          exact cut_from x 2
        rw [e0]
        refine ⟨_, rfl, S ((tl x).drop 2), k, rfl, hnk, hk, by rw [S_len, List.length_drop, ← TL.len_tl]; omega, ?_⟩
        have es : tl (S ((tl x).drop 2)) = (tl x).drop 2 := rfl
        rw [es]
        have hcl' : tk (tl x) [93] = false := hne
        cases e : rdR n ((tl x).drop 2) with
        | none =>
          rw [lsL_none (ds := ds) hcl' (.inr hsep) (by rw [if_neg hne2]; exact e)] at kq
          intro H' e'
          exact ⟨_, rfl, rfl, _, rfl, if_t rfl (kq H' (W4.lg.all.trans e'))⟩
        | some r =>
          obtain ⟨d, t'⟩ := r
          rw [lsL_some (ds := ds) hcl' (.inr hsep) (by rw [if_neg hne2]; exact e)] at kq
          have htl : t'.length ≤ 10000 := by
            have := lr_len e
            rw [List.length_drop, ← TL.len_tl] at this
            omega
          intro p u H' e' hp hd
          obtain ⟨n1, n2, n3, n4⟩ := W4.lg.next (.lst (vs ++ [u])) e'
          refine ⟨_, rfl, rfl, _, rfl, if_f rfl ?_⟩
          refine ⟨_, rfl, .ref D, (vs : List V).length, rfl, .inl ⟨vs, SqLo n4, rfl⟩, _, _, rfl, rfl, _, rfl, if_b (fun h59 => ?_) (fun h59 => ?_)⟩
          · have h59 : 59 < (ds : List PyData).length := by
              have := of_decide_eq_true h59
              omega
            rw [if_pos h59] at kq
            exact kq H' (W4.lg.all.trans e')
          · have h59 : ¬ 59 < (ds : List PyData).length := by
              have := of_decide_eq_false h59
              omega
            rw [if_neg h59] at kq
            have pD : p ≠ D := fun z => by
              rw [z, n4] at hp
              cases hp
            refine ⟨_, rfl, .inl ⟨rfl, _, SqLo n4⟩, _, rfl, p, _, _, u, rfl, rfl, SqTo hp, rfl, D, _, _, rfl, rfl, n4, szlt (by omega), ?_⟩
            refine ⟨_, rfl, p, _, _, .str (S t'), rfl, rfl, SqTo (up_ne hp pD), rfl, ?_⟩
            exact ⟨f, by omega, ds ++ [d], f, S t', vs ++ [u], ⟨⟨_, rfl⟩, n1, DtL.app (W4.dt.ex n2) (DtL.cons (hd.ex n3) DtL.nil), by rw [S_len]; exact htl, by rw [List.length_append]; show f + (_ + 1) = 62; omega, by rw [List.length_append]; show _ + 1 ≤ 60; omega⟩, rfl, kq⟩
    · rintro j σ Hi ⟨ds, f, x, vs, W, kq, h⟩
      obtain ⟨o3, rfl⟩ := W.st
      have xl := W.xl
      have fd := W.fd
      have dl := W.dl
      match f, fd, kq with
      | 0, fd, _ => omega
      | f + 1, fd, kq =>
      rw [lsL_close h] at kq
      exact ⟨_, rfl, _, rfl, _, rfl, x, rfl, szl (by omega), szl (by show 2 ≤ 100000; decide), fun p np => fin W.lg W.dt kq p np⟩
end
end WT

namespace WT
open PySem PySem.Spec L2 LW VL
open Evl (Ex)
open SX (S S_tl S_inj S_len S_cat)
open TL (tl numL joinL)
/-! ### a heap with two new objects that change -/
structure Lg2 (H Hi : Hp) (D N : Addr) (o n : HO) : Prop where
  ex : Ex H (del (del Hi D) N)
  hD : Hi D = some o
  hN : Hi N = some n
  ne : D ≠ N
theorem Lg2.all {H Hi : Hp} {D N : Addr} {o n : HO} (h : Lg2 H Hi D N o n) : Ex H Hi := h.ex.trans (ex_del.trans ex_del)
theorem Lg2.mono {H Hi H4 : Hp} {D N : Addr} (e : Ex Hi H4) : Ex (fr H (del (del Hi D) N)) (fr H (del (del H4 D) N)) := fr_mono (del_grow' (del_grow' e))
theorem Lg2.grow {H Hi H4 : Hp} {D N : Addr} {o n : HO} (h : Lg2 H Hi D N o n) (e : Ex Hi H4) : Lg2 H H4 D N o n := ⟨h.ex.trans (del_grow' (del_grow' e)), e _ _ h.hD, e _ _ h.hN, h.ne⟩
theorem del2_upd {H : Hp} {D N : Addr} {o n : HO} : del (del (upd (upd H N n) D o) D) N = del (del H D) N := by
  funext b
  by_cases h1 : b = N
  · rw [h1, del_same, del_same]
  · rw [del_ne h1, del_ne h1]
    by_cases h2 : b = D
    · rw [h2, del_same, del_same]
    · rw [del_ne h2, del_ne h2, upd_ne h2, upd_ne h1]
theorem Lg2.next {H Hi H4 : Hp} {D N : Addr} {o n : HO} (o' n' : HO) (h : Lg2 H Hi D N o n) (e : Ex Hi H4) : Lg2 H (upd (upd H4 N n') D o') D N o' n' ∧ Ex (fr H (del (del Hi D) N)) (fr H (del (del (upd (upd H4 N n') D o') D) N)) ∧ Ex (fr Hi H4) (fr H (del (del (upd (upd H4 N n') D o') D) N)) ∧ H4 D = some o ∧ H4 N = some n := by
  have hx := h.all
  refine ⟨⟨by rw [del2_upd]; exact h.ex.trans (del_grow' (del_grow' e)), upd_same, by rw [upd_ne (Ne.symm h.ne), upd_same], h.ne⟩, by rw [del2_upd]; exact Lg2.mono e, ?_, e _ _ h.hD, e _ _ h.hN⟩
  rw [del2_upd]
  intro b x q
  obtain ⟨n0, q⟩ := fr_some q
  have eD : b ≠ D := fun z => by rw [z, h.hD] at n0; cases n0
  have eN : b ≠ N := fun z => by rw [z, h.hN] at n0; cases n0
  exact fr_get (ex_free hx n0) (del_get (del_get q eD) eN)
def badQ (ds : List (PyData × PyData)) (u : List Nat) : Prop := lets (S (unt u [58])) 1 8 = false ∨ tk (dro u [58]) [58, 32] = false ∨ okAfter ds (S (unt u [58])) = false
def offK (ds : List (PyData × PyData)) (t : List Nat) : List Nat := t.drop (if ds = [] then 0 else 2)
theorem lsK_close {rd : List Nat → ResL} {f : Nat} {ds : List (PyData × PyData)} {t : List Nat} (h : tk t [125] = true) : lsK rd (f + 1) ds t = some (.dict ds, t.drop 1) := by
  unfold lsK
  rw [if_pos (.inl h), if_pos h]
theorem lsK_sep {rd : List Nat → ResL} {f : Nat} {ds : List (PyData × PyData)} {t : List Nat} (h : tk t [125] = false) (hd : ds ≠ []) (hs : tk t [44, 32] = false) : lsK rd (f + 1) ds t = none := by
  unfold lsK
  rw [if_pos (.inr ⟨hd, hs⟩), if_neg (by rw [h]; decide)]
theorem lsK_in {rd : List Nat → ResL} {f : Nat} {ds : List (PyData × PyData)} {t : List Nat} (h : tk t [125] = false) (hs : ds = [] ∨ tk t [44, 32] = true) : ¬ (tk t [125] = true ∨ (ds ≠ [] ∧ tk t [44, 32] = false)) := by
  rintro (q | ⟨q1, q2⟩)
  · rw [h] at q; cases q
  · rcases hs with hs | hs
    · exact q1 hs
    · rw [hs] at q2; cases q2
theorem lsK_bad {rd : List Nat → ResL} {f : Nat} {ds : List (PyData × PyData)} {t : List Nat} (h : tk t [125] = false) (hs : ds = [] ∨ tk t [44, 32] = true) (hb : badQ ds (offK ds t)) : lsK rd (f + 1) ds t = none := by
  unfold lsK
  rw [if_neg (lsK_in (rd := rd) (f := f) h hs)]
  unfold badQ offK at hb
  dsimp only
  rw [if_pos hb]
theorem lsK_none {rd : List Nat → ResL} {f : Nat} {ds : List (PyData × PyData)} {t : List Nat} (h : tk t [125] = false) (hs : ds = [] ∨ tk t [44, 32] = true) (hr : rd ((dro (offK ds t) [58]).drop 2) = none) : lsK rd (f + 1) ds t = none := by
  unfold lsK
  rw [if_neg (lsK_in (rd := rd) (f := f) h hs)]
  unfold offK at hr
  dsimp only
  generalize List.drop (if ds = [] then 0 else 2) t = u at hr ⊢
  rw [hr]
  split <;> rfl
theorem lsK_some {rd : List Nat → ResL} {f : Nat} {ds : List (PyData × PyData)} {t t' : List Nat} {d : PyData} (h : tk t [125] = false) (hs : ds = [] ∨ tk t [44, 32] = true) (hb : ¬ badQ ds (offK ds t)) (hr : rd ((dro (offK ds t) [58]).drop 2) = some (d, t')) :
    lsK rd (f + 1) ds t = if 7 < ds.length then none else lsK rd f (ds ++ [(.str (S (unt (offK ds t) [58])), d)]) t' := by
  conv => lhs; unfold lsK
  rw [if_neg (lsK_in (rd := rd) (f := f) h hs)]
  unfold badQ offK at hb
  unfold offK at hr
  dsimp only
  rw [if_neg hb, hr]
  rfl
theorem names_last {ds : List (PyData × PyData)} (h : ds ≠ []) : ∃ z, (names ds).getLast? = some z ∧ atI ((names ds).map V.str) (-1) = some (.str z) := by
  have hn : names ds ≠ [] := fun e => h (by unfold names at e; exact List.map_eq_nil_iff.mp e)
  refine ⟨(names ds).getLast hn, List.getLast?_eq_some_getLast hn, ?_⟩
  have e : (names ds).map V.str = (names ds).dropLast.map V.str ++ [V.str ((names ds).getLast hn)] := by
    conv => lhs; rw [← List.dropLast_concat_getLast hn]
    rw [List.map_append]
    rfl
  rw [e]
  exact atI_last _ _
section
variable {P : Program} {w : World} {K : PySem.W.Frag} {mg : Str → Option Value} {base : Heap} {C CI : Addr}
def recL (n : Nat) (t : List Nat) : ResL := lsK (rdR n) 10 [] t
structure RlW (D N : Addr) (H : Hp) (n k : Nat) (σ : L2.St) (Hi : Hp) (ds : List (PyData × PyData)) (f : Nat) (x : Str) (es : List (Key × V)) : Prop where
  st : ∃ o4 o5, σ = [some (.str x), some (.int ((k : Nat) : Int)), some (.ref D), some (.ref N), o4, o5]
  lg : Lg2 H Hi D N (.dK es) (.lst ((names ds).map V.str))
  dt : DtK (fr H (del (del Hi D) N)) ds es
  nd : (es.map (·.1)).Nodup
  al : AllStr ds
  pw : (names ds).Pairwise ltS
  xl : x.length ≤ 10000
  fd : f + ds.length = 10
  dl : ds.length ≤ 8
theorem RlW.grow {D N : Addr} {H Hi H2 : Hp} {n k : Nat} {σ : L2.St} {ds : List (PyData × PyData)} {f : Nat} {x : Str} {es : List (Key × V)} (W : RlW D N H n k σ Hi ds f x es) (e : Ex Hi H2) : RlW D N H n k σ H2 ds f x es := ⟨W.st, W.lg.grow e, W.dt.ex (Lg2.mono e), W.nd, W.al, W.pw, W.xl, W.fd, W.dl⟩
theorem emp_names {ds : List (PyData × PyData)} : ((names ds).map V.str).isEmpty = decide (ds = []) := by
  cases ds with
  | nil => rfl
  | cons a r => exact (decide_eq_false (by exact nofun)).symm
theorem sc__law_record_read : FnScope ["_law_text", "_law_deep", "_law_found", "_law_names", "_law_end_here", "_law_one"] ["_law_text", "_law_deep"] (defScope s__law_record_read) := ⟨rfl, rfl, rfl, by decide +kernel, rfl, by decide +kernel, by decide +kernel⟩
theorem bi__law_record_read : BindsEq "_law_record_read" s__law_record_read ["_law_text", "_law_deep"] := fun _ _ _ _ _ _ us hl => match us, hl with | [_, _], _ => rfl
theorem ok_recLR (F : Df K mg "_law_record_read" s__law_record_read) (T : Txt K mg) (n : Nat) (C__law_end : Cal P w K mg base CX0 1 "_law_end" spEnd) (C__law_letters : Cal P w K mg base CX0 1 "_law_letters" spLLets) (C__law_read : Cal P w K mg base CX0 (2 * n + 3) "_law_read" (spRdL rdR n)) : Cal P w K mg base CX0 (2 * n + 4) "_law_record_read" (spRdL recL n) := by
  refine cal0 F sc__law_record_read bi__law_record_read (fun vs H Q E h => ?_) (fun f cdv A outer sh H vs Q E hr h => ?_)
  · obtain ⟨x, k, rfl, _⟩ := h
    rfl
  · obtain ⟨x, k, rfl, hnk, hk, hx, kq⟩ := h
    have hu : (A.deeper (PyProof.Rows.envOfC "_law_record_read" (defScope s__law_record_read) sh.heap.objs.size f cdv)).units + 1 < cLine := by have := hr.un; omega
    refine ⟨_, (pss_cons (ps_set (i := 2) sc__law_record_read.nd rfl (Or.inl rfl) pe_dnewK)
 (pss_cons (ps_set (i := 3) sc__law_record_read.nd rfl (Or.inl rfl) (pe_lst pa_nil))
 (pss_cons (ps_while PassesOwn.never (PW.pt (pw_or (pt_cmpR op_ne (pe_slice sl_str (pv 0) po_none (po_some pe_int)) pe_str (nomark _)) (pw_or1 (pt_cmpR (op_eqNil K hr.units) (pv 3) (pe_lst pa_nil) (nomark _))))) (pss_cons (ps_if (PW.pt (pw_and (pt_cmpR (op_eqNil K hr.units) (pv 3) (pe_lst pa_nil) (nomark _)) (pw_and1 (pt_cmpR op_eq (pe_slice sl_str (pv 0) po_none (po_some pe_int)) pe_str (nomark _))))) (pss_one (ps_ret (pe_tup (pa_cons (pv 2) (pa_cons (pe_slice sl_str (pv 0) (po_some pe_int) po_none) pa_nil))))) pss_nil)
 (pss_cons (ps_if (PW.pt (pw_and (pt_cmpR (op_neNil K hr.units) (pv 3) (pe_lst pa_nil) (nomark _)) (pw_and1 (pt_cmpR op_ne (pe_slice sl_str (pv 0) po_none (po_some pe_int)) pe_str (nomark _))))) (pss_one (ps_ret pe_non)) pss_nil)
 (pss_cons (ps_set (i := 0) sc__law_record_read.nd rfl (Or.inl rfl) (pe_slice sl_str (pv 0) (po_some (pe_op op_mul pe_int (pe_callTy call_int1 rfl T.b_int (by decide +kernel) (pa_cons (pe_cmpR (op_neNil K hr.units) (pv 3) (pe_lst pa_nil) (nomark _)) pa_nil)))) po_none))
 (pss_cons (ps_set (i := 4) sc__law_record_read.nd rfl (Or.inl rfl) (pe_k C__law_end hr (by omega) rfl (pa_cons (pv 0) (pa_cons pe_str pa_nil))))
 (pss_cons (ps_if (PW.pt (pw_or (pt_not (pt_val (pe_k C__law_letters hr (by omega) rfl (pa_cons (pe_slice sl_str (pv 0) po_none (po_some (pv 4))) (pa_cons pe_int (pa_cons pe_int pa_nil)))))) (pw_or (pt_cmpR op_ne (pe_slice sl_str (pv 0) (po_some (pv 4)) (po_some (pe_op op_add (pv 4) pe_int))) pe_str (nomark _)) (pw_or1 (PW.pt (pw_and (pt_cmpR (op_neNil K hr.units) (pv 3) (pe_lst pa_nil) (nomark _)) (pw_and1 (pt_cmpR op_le_str (pe_slice sl_str (pv 0) po_none (po_some (pv 4))) (pe_ix (ixl K) (pv 3) (pe_un un_neg pe_int) (fun _ _ => rfl)) (nomark _))))))))) (pss_one (ps_ret pe_non)) pss_nil)
 (pss_cons (ps_set (i := 5) sc__law_record_read.nd rfl (Or.inl rfl) (pe_k C__law_read hr (by omega) rfl (pa_cons (pe_slice sl_str (pv 0) (po_some (pe_op op_add (pv 4) pe_int)) po_none) (pa_cons (pv 1) pa_nil))))
 (pss_cons (ps_if (PW.pt (pw_or (pt_cmpR op_isN (pv 5) pe_non (nomark _)) (pw_or1 (pt_cmpR op_gt (pe_callB (lnK K) rfl T.b_len (by decide +kernel) (pa_cons (pv 3) pa_nil)) pe_int (nomark _))))) (pss_one (ps_ret pe_non)) pss_nil)
 (pss_cons (ps_expr (pe_bm PySem.F.plainAttrs_list PySem.F.slot_list_append PySem.F.type_list_append mt_append (pv 3) (pa_cons (pe_slice sl_str (pv 0) po_none (po_some (pv 4))) pa_nil)))
 (pss_cons (ps_dput hu (pv 2) (pe_ix (ixl K) (pv 3) (pe_un un_neg pe_int) (fun _ _ => rfl)) (pe_ix (ixt K) (pv 5) pe_int (fun _ _ => rfl)) rfl)
 (pss_one (ps_set (i := 0) sc__law_record_read.nd rfl (Or.inl rfl) (pe_ix (ixt K) (pv 5) pe_int (fun _ _ => rfl))))))))))))))
 (pss_one (ps_ret (pe_tup (pa_cons (pv 2) (pa_cons (pe_slice sl_str (pv 0) (po_some pe_int) po_none) pa_nil)))))))), ?_⟩
    intro D nD
    refine ⟨szl (by decide), fun N nN => ?_⟩
    have neDN : D ≠ N := fun z => by rw [← z, upd_same] at nN; cases nN
    have nN0 : H N = none := by
      rw [upd_ne (Ne.symm neDN)] at nN
      exact nN
    have lg0 : Lg2 H (upd (upd H D (.dK [])) N (.lst [])) D N (.dK []) (.lst []) := by
      refine ⟨?_, by rw [upd_ne neDN, upd_same], upd_same, neDN⟩
      refine ex_of_del (ex_of_del ((Ex.new nD).trans (Ex.new nN)) nD) nN0
    generalize upd (upd H D (.dK [])) N (.lst []) = Ha at lg0
    have q1 : tl ("}" : Str) = [125] := by decide +kernel
    have q2 : tl (", " : Str) = [44, 32] := by decide +kernel
    have q3 : tl (":" : Str) = [58] := by decide +kernel
    have q5 : tl (": " : Str) = [58, 32] := by decide +kernel
    have c1 : ∀ y : Str, decide (V.str (cutS y none (some (1 : Int))) = V.str ("}" : Str)) = tk (tl y) [125] := fun y => by
      have q := cmp_take (x := y) (p := "}") (k := 1) (by rw [q1]; rfl)
      rw [q1] at q
      exact q
    have c2 : ∀ y : Str, decide (V.str (cutS y none (some (2 : Int))) = V.str (", " : Str)) = tk (tl y) [44, 32] := fun y => by
      have q := cmp_take (x := y) (p := ", ") (k := 2) (by rw [q2]; rfl)
      rw [q2] at q
      exact q
    have fin : ∀ {Hi : Hp} {ds : List (PyData × PyData)} {es : List (Key × V)} {n' : HO} {y : Str}, Lg2 H Hi D N (.dK es) n' → DtK (fr H (del (del Hi D) N)) ds es → (es.map (·.1)).Nodup → LsQ H Q (some (.dict ds, (tl y).drop 1)) → ∀ p, Hi p = none → Q (.ref p) (upd Hi p (.tup [.ref D, .str (cutS y (some (1 : Int)) none)])) := fun {Hi ds es n' y} lg dt nd q p np => by
      have e : cutS y (some (1 : Int)) none = S ((tl y).drop 1) := cut_from y 1
      rw [e]
      have xp : Ex Hi (upd Hi p (.tup [.ref D, .str (S ((tl y).drop 1))])) := Ex.new np
      refine q p (.ref D) _ (lg.all.trans xp) upd_same ?_
      unfold Dt
      exact ⟨D, rfl, .inl ⟨es, .inl (fr_get nD (xp _ _ lg.hD)), nd, dt.ex ((fr_mono (ex_del.trans ex_del)).trans (fr_mono xp))⟩⟩
    refine while_cps (fun j σ Hi => ∃ ds f x es, RlW D N H n k σ Hi ds f x es ∧ j = f ∧ LsQ H Q (lsK (rdR n) f ds (tl x)))
      (fun j σ Hi => ∃ ds f x es, RlW D N H n k σ Hi ds f x es ∧ j = f ∧ LsQ H Q (lsK (rdR n) f ds (tl x)) ∧ (tk (tl x) [125] = true → ds = []))
      (fun j σ Hi => ∃ ds f x es, RlW D N H n k σ Hi ds f x es ∧ LsQ H Q (lsK (rdR n) f ds (tl x)) ∧ tk (tl x) [125] = true) ?_ ?_ ?_ ?_
    · exact ⟨10, [], 10, x, [], ⟨⟨none, none, rfl⟩, lg0, by unfold DtK; rfl, List.nodup_nil, nofun, List.Pairwise.nil, hx, rfl, by decide⟩, rfl, kq⟩
    · rintro j σ Hi Q' ⟨ds, f, x, es, W, rfl, kq⟩ hB hY
      obtain ⟨o4, o5, rfl⟩ := W.st
      have xl := W.xl
      refine ⟨_, rfl, _, rfl, x, rfl, szl (by omega), rfl, _, rfl, ?_⟩
      rw [c1]
      refine if_b (fun h => ?_) (fun h => ?_)
      · exact hB Hi ⟨ds, _, x, es, W, rfl, kq, fun e => by rw [e] at h; cases h⟩
      · have h : tk (tl x) [125] = true := by simpa using h
        refine ⟨_, rfl, szl (by decide), fun p np => ?_⟩
        have xp : Ex Hi (upd Hi p (.lst [])) := Ex.new np
        have W2 := W.grow xp
        refine ⟨N, p, _, rfl, rfl, .inl W2.lg.hN, .inl upd_same, _, rfl, ?_⟩
        rw [emp_names]
        by_cases hv : ds = []
        · rw [decide_eq_true hv]
          exact hB _ ⟨ds, _, x, es, W2, rfl, kq, fun _ => hv⟩
        · rw [decide_eq_false hv]
          exact hY _ ⟨ds, _, x, es, W2, kq, h⟩
    · rintro j σ Hi ⟨ds, f, x, es, W, rfl, kq, hcl⟩
      obtain ⟨o4, o5, rfl⟩ := W.st
      have xl := W.xl
      have fd := W.fd
      have dl := W.dl
      match j, fd, kq, W with
      | 0, fd, _, _ => omega
      | f + 1, fd, kq, W =>
      -- names == [] and text[:1] == '}'
      refine ⟨_, rfl, szl (by decide), fun p np => ?_⟩
      have xp : Ex Hi (upd Hi p (.lst [])) := Ex.new np
      have W2 := W.grow xp
      refine ⟨N, p, _, rfl, rfl, .inl W2.lg.hN, .inl upd_same, _, rfl, ?_⟩
      generalize upd Hi p (.lst []) = H1 at *
      rw [emp_names]
      by_cases hv : ds = []
      · rw [decide_eq_true hv]
        refine if_t rfl ⟨_, rfl, _, rfl, x, rfl, szl (by omega), rfl, _, rfl, ?_⟩
        rw [c1]
        refine if_b (fun h => ?_) (fun h => ?_)
        · rw [lsK_close h] at kq
          exact ⟨_, rfl, _, rfl, _, rfl, x, rfl, szl (by omega), szl (by show 2 ≤ 100000; decide), fun p np => fin W2.lg W2.dt W2.nd kq p np⟩
        have hne : tk (tl x) [125] = false := h
        have hsep : ds = [] ∨ tk (tl x) [44, 32] = true := .inl hv
        refine ⟨_, rfl, szl (by decide), fun p2 np2 => ?_⟩
        have xp2 : Ex H1 (upd H1 p2 (.lst [])) := Ex.new np2
        have W3 := W2.grow xp2
        refine ⟨N, p2, _, rfl, rfl, .inl W3.lg.hN, .inl upd_same, _, rfl, ?_⟩
        generalize upd H1 p2 (.lst []) = H2 at *
        rw [emp_names, decide_eq_true hv]
        refine if_f rfl ?_
        have ho : (2 : Int) * (if (!true) = true then 1 else 0) = ((if ds = [] then 0 else 2 : Nat) : Int) := by rw [if_pos hv]; rfl
        refine ⟨_, rfl, _, rfl, szl (by decide), fun p3 np3 => ?_⟩
        have xp3 : Ex H2 (upd H2 p3 (.lst [])) := Ex.new np3
        have W4 := W3.grow xp3
        refine ⟨N, p3, _, rfl, rfl, .inl W4.lg.hN, .inl upd_same, .inr ⟨_, rfl, _, _, rfl, rfl, .inl ⟨by decide, by decide⟩, _, rfl, x, rfl, szl (by omega), ?_⟩⟩
        generalize upd H2 p3 (.lst []) = H3 at *
        rw [emp_names, decide_eq_true hv, ho, cut_from, show (tl x).drop (if ds = [] then 0 else 2) = offK ds (tl x) from rfl]
        have hul0 : (offK ds (tl x)).length ≤ 10000 := by
          unfold offK
          rw [List.length_drop, ← TL.len_tl]
          omega
        generalize hu' : offK ds (tl x) = u at *
        -- the name's end
        refine ⟨_, rfl, S u, ":", rfl, by rw [S_len]; omega, ?_⟩
        rw [q3, show tl (S u) = u from rfl]
        have hul := unt_len u [58]
        have cn : cutS (S u) none (some (((unt u [58]).length : Nat) : Int)) = S (unt u [58]) := by rw [cut_to, show tl (S u) = u from rfl, take_unt]
        have cd : cutS (S u) (some (((unt u [58]).length : Nat) : Int)) (some ((((unt u [58]).length : Nat) : Int) + 2)) = S ((dro u [58]).take 2) := by
          have q := cut_mid (S u) (unt u [58]).length ((unt u [58]).length + 2) (by omega)
          rw [show (((((unt u [58]).length + 2 : Nat)) : Int)) = (((unt u [58]).length : Nat) : Int) + 2 by omega] at q
          rw [q, show tl (S u) = u from rfl, drop_unt, show (unt u [58]).length + 2 - (unt u [58]).length = 2 by omega]
        have cr : cutS (S u) (some ((((unt u [58]).length : Nat) : Int) + 2)) none = S ((dro u [58]).drop 2) := by
          have q := cut_from (S u) ((unt u [58]).length + 2)
          rw [show (((((unt u [58]).length + 2 : Nat)) : Int)) = (((unt u [58]).length : Nat) : Int) + 2 by omega] at q
          rw [q, show tl (S u) = u from rfl, dr_dr, drop_unt]
        have bad : badQ ds u → ∀ H', Ex H H' → Q .non H' := fun hb H' e => by
          rw [lsK_bad hne hsep (by rw [hu']; exact hb)] at kq
          exact kq H' e
        refine ⟨_, rfl, _, rfl, _, rfl, _, rfl, szl (by rw [S_len]; omega), ?_⟩
        rw [cn]
        refine ⟨S (unt u [58]), 1, 8, rfl, by rw [S_len]; omega, fun H4 x4 => ⟨_, rfl, if_b (fun b1 => ?_) (fun b1 => ?_)⟩⟩
        · have b1 : lets (S (unt u [58])) 1 8 = false := by simpa using b1
          exact if_t rfl (bad (.inl b1) H4 (W4.lg.all.trans x4))
        have b1 : lets (S (unt u [58])) 1 8 = true := by simpa using b1
        have W5 := W4.grow x4
        refine ⟨_, rfl, _, rfl, _, rfl, _, rfl, _, _, rfl, rfl, _, rfl, _, rfl, szl (by rw [S_len]; omega), ?_⟩
        rw [cd]
        have ct : decide (V.str (S ((dro u [58]).take 2)) = V.str (": " : Str)) = tk (dro u [58]) [58, 32] := by
          unfold tk
          refine decide_eq_decide.mpr ?_
          rw [S_eq, q5]
          exact Iff.rfl
        refine ⟨rfl, _, rfl, ?_⟩
        rw [ct]
        refine if_b (fun b2 => ?_) (fun b2 => ?_)
        · have b2 : tk (dro u [58]) [58, 32] = false := by simpa using b2
          exact if_t rfl (bad (.inr (.inl b2)) H4 W5.lg.all)
        have b2 : tk (dro u [58]) [58, 32] = true := by simpa using b2
        refine ⟨_, rfl, szl (by decide), fun p5 np5 => ?_⟩
        have xp5 : Ex H4 (upd H4 p5 (.lst [])) := Ex.new np5
        have W6 := W5.grow xp5
        refine ⟨N, p5, _, rfl, rfl, .inl W6.lg.hN, .inl upd_same, _, rfl, ?_⟩
        generalize upd H4 p5 (.lst []) = H5 at *
        rw [emp_names, decide_eq_true hv]
        refine if_f rfl (if_f rfl ?_)
        have b3 : okAfter ds (S (unt u [58])) = true := by
          rw [hv]
          rfl
        have nb : ¬ badQ ds u := by
          rintro (q | q | q)
          · rw [b1] at q; cases q
          · rw [b2] at q; cases q
          · rw [b3] at q; cases q
        -- the field
        refine ⟨_, rfl, _, rfl, _, _, rfl, rfl, _, rfl, _, rfl, szl (by rw [S_len]; omega), ?_⟩
        rw [cr]
        have hdl := dro_len u [58]
        refine ⟨_, rfl, S ((dro u [58]).drop 2), k, rfl, hnk, hk, by rw [S_len, List.length_drop]; omega, ?_⟩
        rw [show tl (S ((dro u [58]).drop 2)) = (dro u [58]).drop 2 from rfl]
        cases e : rdR n ((dro u [58]).drop 2) with
        | none =>
          rw [lsK_none hne hsep (by rw [hu']; exact e)] at kq
          intro H' e'
          exact ⟨_, rfl, rfl, _, rfl, if_t rfl (kq H' (W6.lg.all.trans e'))⟩
        | some r =>
          obtain ⟨d, t'⟩ := r
          rw [lsK_some hne hsep (by rw [hu']; exact nb) (by rw [hu']; exact e), hu'] at kq
          have htl : t'.length ≤ 10000 := by
            have := lr_len e
            rw [List.length_drop] at this
            omega
          intro p u2 H' e' hp hd
          have hlN : ((names ds).map V.str).length = ds.length := by unfold names; rw [List.length_map, List.length_map]
          refine ⟨_, rfl, rfl, _, rfl, if_f rfl ?_⟩
          refine ⟨_, rfl, .ref N, ((names ds).map V.str).length, rfl, .inl ⟨_, SqLo (e' _ _ W6.lg.hN), rfl⟩, _, _, rfl, rfl, _, rfl, if_b (fun h7 => ?_) (fun h7 => ?_)⟩
          · have h7 : 7 < ds.length := by
              have := of_decide_eq_true h7
              omega
            rw [if_pos h7] at kq
            exact kq H' (W6.lg.all.trans e')
          · have h7 : ¬ 7 < ds.length := by
              have := of_decide_eq_false h7
              omega
            rw [if_neg h7] at kq
            have hno : S (unt u [58]) ∉ names ds := fun hy => by
              have hp2 := pw_snoc W6.pw (of_after b3)
              exact (List.nodup_append.mp (lt_nodup hp2)).2.2 _ hy _ (List.mem_singleton.mpr rfl) rfl
            have hval := val_no W6.dt W6.al hno
            obtain ⟨n1, n2, n3, n4, n5⟩ := W6.lg.next (.dK (putK es (Sum.inr (S (unt u [58]))) u2)) (.lst ((names ds).map V.str ++ [V.str (S (unt u [58]))])) e'
            have hDN := W6.lg.ne
            -- names.append(text[:end])
            refine ⟨_, rfl, .inl ⟨rfl, _, SqLo n5⟩, _, rfl, _, rfl, _, rfl, _, rfl, szl (by rw [S_len]; omega), N, _, _, rfl, rfl, n5, szlt (by omega), ?_⟩
            rw [cn]
            have pN : p ≠ N := fun z => by rw [z, n5] at hp; cases hp
            have pD : p ≠ D := fun z => by rw [z, n4] at hp; cases hp
            -- found[names[-1]] = one[0]
            refine ⟨_, rfl, p, _, _, u2, rfl, rfl, SqTo (up_ne hp pN), rfl, _, rfl, _, rfl, _, rfl, N, _, _, _, rfl, rfl, SqLo upd_same, atI_last _ _, D, _, rfl, DPut.k (k := Sum.inr (S (unt u [58]))) (up_ne n4 hDN) (szlt (by rw [DtK.len W6.dt]; omega)), ?_⟩
            refine ⟨_, rfl, p, _, _, .str (S t'), rfl, rfl, SqTo (up_ne (up_ne hp pN) pD), rfl, ?_⟩
            rw [putK_new u2 hval] at n1 n2 n3 ⊢
            have hnm : names (ds ++ [(PyData.str (S (unt u [58])), d)]) = names ds ++ [S (unt u [58])] := names_app _ _
            refine ⟨f, by omega, ds ++ [(.str (S (unt u [58])), d)], f, S t', es ++ [(Sum.inr (S (unt u [58])), u2)], ⟨⟨_, _, rfl⟩, ?_, ?_, ?_, ?_, ?_, by rw [S_len]; exact htl, by rw [List.length_append]; show f + (_ + 1) = 10; omega, by rw [List.length_append]; show _ + 1 ≤ 8; omega⟩, rfl, kq⟩
            · rw [hnm, List.map_append]
              exact n1
            · exact DtK.app1 (k := .str (S (unt u [58]))) (x := Sum.inr (S (unt u [58]))) rfl (hd.ex n3) (W6.dt.ex n2)
            · rw [List.map_append, List.nodup_append]
              refine ⟨W6.nd, by simp, fun z hz b hb => ?_⟩
              cases List.mem_singleton.mp hb
              rw [dtk_names W6.dt W6.al] at hz
              obtain ⟨y, hy, rfl⟩ := List.mem_map.mp hz
              exact fun e => hno (Sum.inr.inj e ▸ hy)
            · intro q hq
              rcases List.mem_append.mp hq with hq | hq
              · exact W6.al q hq
              · cases List.mem_singleton.mp hq
                rfl
            · rw [hnm]
              exact pw_snoc W6.pw (of_after b3)
      · have hne : tk (tl x) [125] = false := by
          cases q : tk (tl x) [125] with
          | false => rfl
          | true => exact (hv (hcl q)).elim
        rw [decide_eq_false hv]
        refine if_f rfl ?_
        refine ⟨_, rfl, szl (by decide), fun p2 np2 => ?_⟩
        have xp2 : Ex H1 (upd H1 p2 (.lst [])) := Ex.new np2
        have W3 := W2.grow xp2
        refine ⟨N, p2, _, rfl, rfl, .inl W3.lg.hN, .inl upd_same, _, rfl, ?_⟩
        generalize upd H1 p2 (.lst []) = H2 at *
        rw [emp_names, decide_eq_false hv]
        refine if_t rfl ⟨_, rfl, _, rfl, x, rfl, szl (by omega), rfl, _, rfl, ?_⟩
        rw [c2]
        refine if_b (fun h => ?_) (fun h => ?_)
        · have h : tk (tl x) [44, 32] = false := by simpa using h
          rw [lsK_sep hne hv h] at kq
          exact kq H2 W3.lg.all
        have hsep : ds = [] ∨ tk (tl x) [44, 32] = true := .inr (by simpa using h)
        have ho : (2 : Int) * (if (!false) = true then 1 else 0) = ((if ds = [] then 0 else 2 : Nat) : Int) := by rw [if_neg hv]; rfl
        refine ⟨_, rfl, _, rfl, szl (by decide), fun p3 np3 => ?_⟩
        have xp3 : Ex H2 (upd H2 p3 (.lst [])) := Ex.new np3
        have W4 := W3.grow xp3
        refine ⟨N, p3, _, rfl, rfl, .inl W4.lg.hN, .inl upd_same, .inr ⟨_, rfl, _, _, rfl, rfl, .inl ⟨by decide, by decide⟩, _, rfl, x, rfl, szl (by omega), ?_⟩⟩
        generalize upd H2 p3 (.lst []) = H3 at *
        rw [emp_names, decide_eq_false hv, ho, cut_from, show (tl x).drop (if ds = [] then 0 else 2) = offK ds (tl x) from rfl]
        have hul0 : (offK ds (tl x)).length ≤ 10000 := by
          unfold offK
          rw [List.length_drop, ← TL.len_tl]
          omega
        generalize hu' : offK ds (tl x) = u at *
        -- the name's end
        refine ⟨_, rfl, S u, ":", rfl, by rw [S_len]; omega, ?_⟩
        rw [q3, show tl (S u) = u from rfl]
        have hul := unt_len u [58]
        have cn : cutS (S u) none (some (((unt u [58]).length : Nat) : Int)) = S (unt u [58]) := by rw [cut_to, show tl (S u) = u from rfl, take_unt]
        have cd : cutS (S u) (some (((unt u [58]).length : Nat) : Int)) (some ((((unt u [58]).length : Nat) : Int) + 2)) = S ((dro u [58]).take 2) := by
          have q := cut_mid (S u) (unt u [58]).length ((unt u [58]).length + 2) (by omega)
          rw [show (((((unt u [58]).length + 2 : Nat)) : Int)) = (((unt u [58]).length : Nat) : Int) + 2 by omega] at q
          rw [q, show tl (S u) = u from rfl, drop_unt, show (unt u [58]).length + 2 - (unt u [58]).length = 2 by omega]
        have cr : cutS (S u) (some ((((unt u [58]).length : Nat) : Int) + 2)) none = S ((dro u [58]).drop 2) := by
          have q := cut_from (S u) ((unt u [58]).length + 2)
          rw [show (((((unt u [58]).length + 2 : Nat)) : Int)) = (((unt u [58]).length : Nat) : Int) + 2 by omega] at q
          rw [q, show tl (S u) = u from rfl, dr_dr, drop_unt]
        have bad : badQ ds u → ∀ H', Ex H H' → Q .non H' := fun hb H' e => by
          rw [lsK_bad hne hsep (by rw [hu']; exact hb)] at kq
          exact kq H' e
        refine ⟨_, rfl, _, rfl, _, rfl, _, rfl, szl (by rw [S_len]; omega), ?_⟩
        rw [cn]
        refine ⟨S (unt u [58]), 1, 8, rfl, by rw [S_len]; omega, fun H4 x4 => ⟨_, rfl, if_b (fun b1 => ?_) (fun b1 => ?_)⟩⟩
        · have b1 : lets (S (unt u [58])) 1 8 = false := by simpa using b1
          exact if_t rfl (bad (.inl b1) H4 (W4.lg.all.trans x4))
        have b1 : lets (S (unt u [58])) 1 8 = true := by simpa using b1
        have W5 := W4.grow x4
        refine ⟨_, rfl, _, rfl, _, rfl, _, rfl, _, _, rfl, rfl, _, rfl, _, rfl, szl (by rw [S_len]; omega), ?_⟩
        rw [cd]
        have ct : decide (V.str (S ((dro u [58]).take 2)) = V.str (": " : Str)) = tk (dro u [58]) [58, 32] := by
          unfold tk
          refine decide_eq_decide.mpr ?_
          rw [S_eq, q5]
          exact Iff.rfl
        refine ⟨rfl, _, rfl, ?_⟩
        rw [ct]
        refine if_b (fun b2 => ?_) (fun b2 => ?_)
        · have b2 : tk (dro u [58]) [58, 32] = false := by simpa using b2
          exact if_t rfl (bad (.inr (.inl b2)) H4 W5.lg.all)
        have b2 : tk (dro u [58]) [58, 32] = true := by simpa using b2
        refine ⟨_, rfl, szl (by decide), fun p5 np5 => ?_⟩
        have xp5 : Ex H4 (upd H4 p5 (.lst [])) := Ex.new np5
        have W6 := W5.grow xp5
        refine ⟨N, p5, _, rfl, rfl, .inl W6.lg.hN, .inl upd_same, _, rfl, ?_⟩
        generalize upd H4 p5 (.lst []) = H5 at *
        rw [emp_names, decide_eq_false hv]
        obtain ⟨z, hz1, hz2⟩ := names_last hv
        refine if_t rfl ⟨_, rfl, _, rfl, _, rfl, _, rfl, szl (by rw [S_len]; omega), _, rfl, _, rfl, N, _, _, _, rfl, rfl, SqLo W6.lg.hN, hz2, _, z, rfl, rfl, _, rfl, ?_⟩
        rw [cn]
        have ha : okAfter ds (S (unt u [58])) = decide (z.cps.toList < (S (unt u [58])).cps.toList) := by
          unfold okAfter
          rw [hz1]
        rw [← ha]
        refine if_b (fun b3 => ?_) (fun b3 => ?_)
        · have b3 : okAfter ds (S (unt u [58])) = false := by simpa using b3
          exact bad (.inr (.inr b3)) H5 W6.lg.all
        have b3 : okAfter ds (S (unt u [58])) = true := by simpa using b3
        have nb : ¬ badQ ds u := by
          rintro (q | q | q)
          · rw [b1] at q; cases q
          · rw [b2] at q; cases q
          · rw [b3] at q; cases q
        -- the field
        refine ⟨_, rfl, _, rfl, _, _, rfl, rfl, _, rfl, _, rfl, szl (by rw [S_len]; omega), ?_⟩
        rw [cr]
        have hdl := dro_len u [58]
        refine ⟨_, rfl, S ((dro u [58]).drop 2), k, rfl, hnk, hk, by rw [S_len, List.length_drop]; omega, ?_⟩
        rw [show tl (S ((dro u [58]).drop 2)) = (dro u [58]).drop 2 from rfl]
        cases e : rdR n ((dro u [58]).drop 2) with
        | none =>
          rw [lsK_none hne hsep (by rw [hu']; exact e)] at kq
          intro H' e'
          exact ⟨_, rfl, rfl, _, rfl, if_t rfl (kq H' (W6.lg.all.trans e'))⟩
        | some r =>
          obtain ⟨d, t'⟩ := r
          rw [lsK_some hne hsep (by rw [hu']; exact nb) (by rw [hu']; exact e), hu'] at kq
          have htl : t'.length ≤ 10000 := by
            have := lr_len e
            rw [List.length_drop] at this
            omega
          intro p u2 H' e' hp hd
          have hlN : ((names ds).map V.str).length = ds.length := by unfold names; rw [List.length_map, List.length_map]
          refine ⟨_, rfl, rfl, _, rfl, if_f rfl ?_⟩
          refine ⟨_, rfl, .ref N, ((names ds).map V.str).length, rfl, .inl ⟨_, SqLo (e' _ _ W6.lg.hN), rfl⟩, _, _, rfl, rfl, _, rfl, if_b (fun h7 => ?_) (fun h7 => ?_)⟩
          · have h7 : 7 < ds.length := by
              have := of_decide_eq_true h7
              omega
            rw [if_pos h7] at kq
            exact kq H' (W6.lg.all.trans e')
          · have h7 : ¬ 7 < ds.length := by
              have := of_decide_eq_false h7
              omega
            rw [if_neg h7] at kq
            have hno : S (unt u [58]) ∉ names ds := fun hy => by
              have hp2 := pw_snoc W6.pw (of_after b3)
              exact (List.nodup_append.mp (lt_nodup hp2)).2.2 _ hy _ (List.mem_singleton.mpr rfl) rfl
            have hval := val_no W6.dt W6.al hno
            obtain ⟨n1, n2, n3, n4, n5⟩ := W6.lg.next (.dK (putK es (Sum.inr (S (unt u [58]))) u2)) (.lst ((names ds).map V.str ++ [V.str (S (unt u [58]))])) e'
            have hDN := W6.lg.ne
            -- names.append(text[:end])
            refine ⟨_, rfl, .inl ⟨rfl, _, SqLo n5⟩, _, rfl, _, rfl, _, rfl, _, rfl, szl (by rw [S_len]; omega), N, _, _, rfl, rfl, n5, szlt (by omega), ?_⟩
            rw [cn]
            have pN : p ≠ N := fun z => by rw [z, n5] at hp; cases hp
            have pD : p ≠ D := fun z => by rw [z, n4] at hp; cases hp
            -- found[names[-1]] = one[0]
            refine ⟨_, rfl, p, _, _, u2, rfl, rfl, SqTo (up_ne hp pN), rfl, _, rfl, _, rfl, _, rfl, N, _, _, _, rfl, rfl, SqLo upd_same, atI_last _ _, D, _, rfl, DPut.k (k := Sum.inr (S (unt u [58]))) (up_ne n4 hDN) (szlt (by rw [DtK.len W6.dt]; omega)), ?_⟩
            refine ⟨_, rfl, p, _, _, .str (S t'), rfl, rfl, SqTo (up_ne (up_ne hp pN) pD), rfl, ?_⟩
            rw [putK_new u2 hval] at n1 n2 n3 ⊢
            have hnm : names (ds ++ [(PyData.str (S (unt u [58])), d)]) = names ds ++ [S (unt u [58])] := names_app _ _
            refine ⟨f, by omega, ds ++ [(.str (S (unt u [58])), d)], f, S t', es ++ [(Sum.inr (S (unt u [58])), u2)], ⟨⟨_, _, rfl⟩, ?_, ?_, ?_, ?_, ?_, by rw [S_len]; exact htl, by rw [List.length_append]; show f + (_ + 1) = 10; omega, by rw [List.length_append]; show _ + 1 ≤ 8; omega⟩, rfl, kq⟩
            · rw [hnm, List.map_append]
              exact n1
            · exact DtK.app1 (k := .str (S (unt u [58]))) (x := Sum.inr (S (unt u [58]))) rfl (hd.ex n3) (W6.dt.ex n2)
            · rw [List.map_append, List.nodup_append]
              refine ⟨W6.nd, by simp, fun z hz b hb => ?_⟩
              cases List.mem_singleton.mp hb
              rw [dtk_names W6.dt W6.al] at hz
              obtain ⟨y, hy, rfl⟩ := List.mem_map.mp hz
              exact fun e => hno (Sum.inr.inj e ▸ hy)
            · intro q hq
              rcases List.mem_append.mp hq with hq | hq
              · exact W6.al q hq
              · cases List.mem_singleton.mp hq
                rfl
            · rw [hnm]
              exact pw_snoc W6.pw (of_after b3)
    · rintro j σ Hi ⟨ds, f, x, es, W, kq, h⟩
      obtain ⟨o4, o5, rfl⟩ := W.st
      have xl := W.xl
      have fd := W.fd
      have dl := W.dl
      match f, fd, kq with
      | 0, fd, _ => omega
      | f + 1, fd, kq =>
      rw [lsK_close h] at kq
      exact ⟨_, rfl, _, rfl, _, rfl, x, rfl, szl (by omega), szl (by show 2 ≤ 100000; decide), fun p np => fin W.lg W.dt W.nd kq p np⟩
end
end WT

namespace WT
open PySem PySem.Spec L2 LW VL
open Evl (Ex)
open SX (S S_tl S_inj S_len S_cat)
open TL (tl numL joinL)
section
variable {P : Program} {w : World} {K : PySem.W.Frag} {mg : Str → Option Value} {base : Heap} {C CI : Addr}
theorem sc__law_read : FnScope ["_law_text", "_law_deep"] ["_law_text", "_law_deep"] (defScope s__law_read) := ⟨rfl, rfl, rfl, by decide +kernel, rfl, by decide +kernel, by decide +kernel⟩
theorem bi__law_read : BindsEq "_law_read" s__law_read ["_law_text", "_law_deep"] := fun _ _ _ _ _ _ us hl => match us, hl with | [_, _], _ => rfl
theorem ok_readL (F : Df K mg "_law_read" s__law_read) (T : Txt K mg) (FL : Df K mg "_law_list_read" s__law_list_read) (FR : Df K mg "_law_record_read" s__law_record_read) (C__law_end : Cal P w K mg base CX0 1 "_law_end" spEnd) (C__law_letters : Cal P w K mg base CX0 1 "_law_letters" spLLets) (C__law_leaf_read : Cal P w K mg base CX0 2 "_law_leaf_read" spLeafR) :
    ∀ n, Cal P w K mg base CX0 (2 * n + 3) "_law_read" (spRdL rdR n)
  | 0 => cal_no F sc__law_read bi__law_read fun vs H Q E h => by
    obtain ⟨x, k, _, h1, h2, _⟩ := h
    omega
  | n + 1 => by
    have C__law_read := ok_readL F T FL FR C__law_end C__law_letters C__law_leaf_read n
    have C__law_list_read := ok_listLR FL T n C__law_read
    have C__law_record_read := ok_recLR FR T n C__law_end C__law_letters C__law_read
    refine cal0 F sc__law_read bi__law_read (fun vs H Q E h => ?_) (fun f cdv A outer sh H vs Q E hr h => ?_)
    · obtain ⟨x, k, rfl, _⟩ := h
      rfl
    · obtain ⟨x, k, rfl, hnk, hk, hx, kq⟩ := h
      refine ⟨_, (pss_cons (ps_if (pt_cmpR op_gt (pv 1) pe_int (nomark _)) (pss_one (ps_ret pe_non)) pss_nil)
 (pss_cons (ps_if (pt_cmpR op_eq (pe_slice sl_str (pv 0) po_none (po_some pe_int)) pe_str (nomark _)) (pss_one (ps_ret (pe_k C__law_list_read hr (by omega) rfl (pa_cons (pe_slice sl_str (pv 0) (po_some pe_int) po_none) (pa_cons (pe_op op_add (pv 1) pe_int) pa_nil))))) pss_nil)
 (pss_cons (ps_if (pt_cmpR op_eq (pe_slice sl_str (pv 0) po_none (po_some pe_int)) pe_str (nomark _)) (pss_one (ps_ret (pe_k C__law_record_read hr (by omega) rfl (pa_cons (pe_slice sl_str (pv 0) (po_some pe_int) po_none) (pa_cons (pe_op op_add (pv 1) pe_int) pa_nil))))) pss_nil)
 (pss_one (ps_ret (pe_k C__law_leaf_read hr (by omega) rfl (pa_cons (pv 0) pa_nil))))))), ?_⟩
      have q1 : tl ("[" : Str) = [91] := by decide +kernel
      have q2 : tl ("{" : Str) = [123] := by decide +kernel
      have c1 : decide (V.str (cutS x none (some (1 : Int))) = V.str ("[" : Str)) = tk (tl x) [91] := by
        have q := cmp_take (x := x) (p := "[") (k := 1) (by rw [q1]; rfl)
        rw [q1] at q
        exact q
      have c2 : decide (V.str (cutS x none (some (1 : Int))) = V.str ("{" : Str)) = tk (tl x) [123] := by
        have q := cmp_take (x := x) (p := "{") (k := 1) (by rw [q2]; rfl)
        rw [q2] at q
        exact q
      have ec : cutS x (some (1 : Int)) none = S ((tl x).drop 1) := cut_from x 1
      have hdl : (S ((tl x).drop 1)).length ≤ 10000 := by rw [S_len, List.length_drop, ← TL.len_tl]; omega
      have kq : LsQ H Q (lrF n (tl x)) := kq
      refine ⟨_, rfl, _, _, rfl, rfl, _, rfl, if_b (fun h => ?_) (fun h => ?_)⟩
      · have h : 60 < k := by
          have := of_decide_eq_true h
          omega
        have hn : n = 0 := by omega
        subst hn
        exact kq H (Ex.refl _)
      have h : ¬ 60 < k := by
        have := of_decide_eq_false h
        omega
      match n, hnk, kq, C__law_list_read, C__law_record_read with
      | 0, hnk, _, _, _ => omega
      | m + 1, hnk, kq, _, _ =>
      unfold lrF at kq
      refine ⟨_, rfl, _, rfl, x, rfl, szl (by omega), rfl, _, rfl, ?_⟩
      rw [c1]
      refine if_b (fun h1 => ?_) (fun h1 => ?_)
      · rw [if_pos h1] at kq
        refine ⟨_, rfl, _, rfl, x, rfl, szl (by omega), ?_⟩
        rw [ec]
        exact ⟨_, rfl, _, _, rfl, rfl, S ((tl x).drop 1), k + 1, rfl, by omega, by omega, hdl, kq⟩
      rw [if_neg (by rw [h1]; decide)] at kq
      refine ⟨_, rfl, _, rfl, x, rfl, szl (by omega), rfl, _, rfl, ?_⟩
      rw [c2]
      refine if_b (fun h2 => ?_) (fun h2 => ?_)
      · rw [if_pos h2] at kq
        refine ⟨_, rfl, _, rfl, x, rfl, szl (by omega), ?_⟩
        rw [ec]
        exact ⟨_, rfl, _, _, rfl, rfl, S ((tl x).drop 1), k + 1, rfl, by omega, by omega, hdl, kq⟩
      rw [if_neg (by rw [h2]; decide)] at kq
      exact ⟨_, rfl, x, rfl, hx, kq⟩
/-! ### _law_below: the places of data, counted -/
mutual
def strA : PyData → Prop
  | .list ds => strAL ds
  | .dict kvs => (AllStr kvs ∧ kvs.length ≤ 8) ∧ strAK kvs
  | .none => True
  | .bool _ => True
  | .int _ => True
  | .str _ => True
  | .tuple _ => True
def strAL : List PyData → Prop
  | [] => True
  | d :: r => strA d ∧ strAL r
def strAK : List (PyData × PyData) → Prop
  | [] => True
  | (_, d) :: r => strA d ∧ strAK r
end
theorem strAL_mem {ds : List PyData} : strAL ds ↔ ∀ d ∈ ds, strA d := by
  induction ds with
  | nil => unfold strAL; exact ⟨fun _ => nofun, fun _ => trivial⟩
  | cons d r ih => unfold strAL; rw [ih]; simp
theorem strAK_mem {ds : List (PyData × PyData)} : strAK ds ↔ ∀ p ∈ ds, strA p.2 := by
  induction ds with
  | nil => unfold strAK; exact ⟨fun _ => nofun, fun _ => trivial⟩
  | cons d r ih => obtain ⟨k, d⟩ := d; unfold strAK; rw [ih]; simp
theorem okB_str : ∀ (n : Nat) (d : PyData), cnt d ≤ n → okB d → strA d
  | 0, d, h, _ => by have := cnt_pos d; omega
  | n + 1, d, h, ho => by
    cases d with
    | list ds =>
      rw [okB] at ho
      rw [cnt] at h
      unfold strA
      exact strAL_mem.mpr fun e he => okB_str n e (by have := cntL_mem he; omega) (okBL_mem.mp ho.2 e he)
    | dict kvs =>
      rw [okB] at ho
      rw [cnt] at h
      have hm := okBK_mem.mp ho.2
      unfold strA
      exact ⟨⟨allStr_okA fun p hp => (hm p hp).1, ho.1⟩, strAK_mem.mpr fun p hp => okB_str n p.2 (by have := cntK_mem hp; omega) (hm p hp).2⟩
    | _ => unfold strA; trivial
mutual
def depA : PyData → Nat
  | .list ds => 1 + depL ds
  | .dict kvs => 1 + depK kvs
  | .none => 1
  | .bool _ => 1
  | .int _ => 1
  | .str _ => 1
  | .tuple _ => 1
def depL : List PyData → Nat
  | [] => 0
  | d :: r => max (depA d) (depL r)
def depK : List (PyData × PyData) → Nat
  | [] => 0
  | (_, d) :: r => max (depA d) (depK r)
end
theorem depL_mem {ds : List PyData} {d : PyData} (h : d ∈ ds) : depA d ≤ depL ds := by
  induction ds with
  | nil => cases h
  | cons e r ih =>
    rw [depL]
    rcases List.mem_cons.mp h with rfl | h
    · exact Nat.le_max_left _ _
    · exact Nat.le_trans (ih h) (Nat.le_max_right _ _)
theorem depK_mem {ds : List (PyData × PyData)} {p : PyData × PyData} (h : p ∈ ds) : depA p.2 ≤ depK ds := by
  induction ds with
  | nil => cases h
  | cons e r ih =>
    obtain ⟨k, e⟩ := e
    rw [depK]
    rcases List.mem_cons.mp h with rfl | h
    · exact Nat.le_max_left _ _
    · exact Nat.le_trans (ih h) (Nat.le_max_right _ _)
theorem dep_pos (d : PyData) : 1 ≤ depA d := by
  cases d <;> rw [depA] <;> omega
theorem depL_le {ds : List PyData} {n : Nat} (h : ∀ e ∈ ds, depA e ≤ n) : depL ds ≤ n := by
  induction ds with
  | nil => rw [depL]; exact Nat.zero_le _
  | cons e r ih =>
    rw [depL]
    exact Nat.max_le.mpr ⟨h e List.mem_cons_self, ih fun z hz => h z (List.mem_cons_of_mem _ hz)⟩
theorem depK_le {ds : List (PyData × PyData)} {n : Nat} (h : ∀ e ∈ ds, depA e.2 ≤ n) : depK ds ≤ n := by
  induction ds with
  | nil => rw [depK]; exact Nat.zero_le _
  | cons e r ih =>
    obtain ⟨k, e⟩ := e
    rw [depK]
    exact Nat.max_le.mpr ⟨h (k, e) List.mem_cons_self, ih fun z hz => h z (List.mem_cons_of_mem _ hz)⟩
/-- what the law's reader gives is no deeper than its fuel -/
theorem lsL_dep {rd : List Nat → ResL} {n : Nat} (hr : ∀ t d r, rd t = some (d, r) → depA d ≤ n) : ∀ (f : Nat) (acc : List PyData) (t : List Nat) (d : PyData) (r : List Nat), lsL rd f acc t = some (d, r) → (∀ e ∈ acc, depA e ≤ n) → depA d ≤ n + 1
  | 0, _, _, _, _, h, _ => by unfold lsL at h; cases h
  | f + 1, acc, t, d, r, h, ha => by
    unfold lsL at h
    split at h
    · split at h
      · cases h
        rw [depA]
        have := depL_le ha
        omega
      · cases h
    · split at h
      · cases h
      · rename_i e t' hrd
        split at h
        · cases h
        · refine lsL_dep hr f _ _ _ _ h fun z hz => ?_
          rcases List.mem_append.mp hz with hz | hz
          · exact ha z hz
          · cases List.mem_singleton.mp hz
            exact hr _ _ _ hrd
theorem lsK_dep {rd : List Nat → ResL} {n : Nat} (hr : ∀ t d r, rd t = some (d, r) → depA d ≤ n) : ∀ (f : Nat) (acc : List (PyData × PyData)) (t : List Nat) (d : PyData) (r : List Nat), lsK rd f acc t = some (d, r) → (∀ e ∈ acc, depA e.2 ≤ n) → depA d ≤ n + 1
  | 0, _, _, _, _, h, _ => by unfold lsK at h; cases h
  | f + 1, acc, t, d, r, h, ha => by
    unfold lsK at h
    split at h
    · split at h
      · cases h
        rw [depA]
        have := depK_le ha
        omega
      · cases h
    · dsimp only at h
      generalize hu : List.drop (if acc = [] then 0 else 2) t = u at h
      split at h
      · cases h
      · split at h
        · cases h
        · rename_i e t' hrd
          split at h
          · cases h
          · refine lsK_dep hr f _ _ _ _ h fun z hz => ?_
            rcases List.mem_append.mp hz with hz | hz
            · exact ha z hz
            · cases List.mem_singleton.mp hz
              exact hr _ _ _ hrd
theorem lr_dep : ∀ (n : Nat) (t : List Nat) (d : PyData) (r : List Nat), lrF n t = some (d, r) → depA d ≤ n
  | 0, _, _, _, h => by unfold lrF at h; cases h
  | n + 1, t, d, r, h => by
    have ih := lr_dep n
    unfold lrF at h
    split at h
    · exact lsL_dep ih _ _ _ _ _ h nofun
    · split at h
      · exact lsK_dep ih _ _ _ _ _ h nofun
      · unfold lleaf at h
        split at h
        · split at h
          · cases h
          · cases h
            rw [depA]
            omega
        · split at h
          · cases h
            rw [depA]
            omega
          · cases h
theorem WnLT_cnt : ∀ ds : List PyData, (∀ e ∈ ds, cnt e ≤ (Wn e).length) → cntL ds + 1 ≤ (WnLT ds).length
  | [], _ => by rw [WnLT, cntL]; decide
  | d :: r, h => by
    have := WnLT_cnt r fun e he => h e (List.mem_cons_of_mem _ he)
    have := h d List.mem_cons_self
    rw [WnLT, cntL]
    simp only [List.length_cons, List.length_append]
    omega
theorem WnKT_cnt : ∀ ds : List (PyData × PyData), (∀ p ∈ ds, cnt p.2 ≤ (Wn p.2).length) → cntK ds + 1 ≤ (WnKT ds).length
  | [], _ => by rw [WnKT, cntK]; decide
  | (k, d) :: r, h => by
    have := WnKT_cnt r fun e he => h e (List.mem_cons_of_mem _ he)
    have h1 : cnt d ≤ (Wn d).length := h (k, d) List.mem_cons_self
    rw [WnKT, cntK]
    simp only [List.length_cons, List.length_append]
    omega
theorem WnL_cnt (ds : List PyData) (h : ∀ e ∈ ds, cnt e ≤ (Wn e).length) : cntL ds + 1 ≤ (WnL ds).length := by
  cases ds with
  | nil => rw [WnL, cntL]; decide
  | cons d r =>
    have := WnLT_cnt r fun e he => h e (List.mem_cons_of_mem _ he)
    have := h d List.mem_cons_self
    rw [WnL, cntL, List.length_append]
    omega
theorem WnK_cnt (ds : List (PyData × PyData)) (h : ∀ p ∈ ds, cnt p.2 ≤ (Wn p.2).length) : cntK ds + 1 ≤ (WnK ds).length := by
  cases ds with
  | nil => rw [WnK, cntK]; decide
  | cons p r =>
    obtain ⟨k, d⟩ := p
    have := WnKT_cnt r fun e he => h e (List.mem_cons_of_mem _ he)
    have h1 : cnt d ≤ (Wn d).length := h (k, d) List.mem_cons_self
    rw [WnK, cntK]
    simp only [List.length_cons, List.length_append]
    omega
theorem okB_cnt : ∀ (n : Nat) (d : PyData), cnt d ≤ n → okB d → cnt d ≤ (Wn d).length
  | 0, d, h, _ => by have := cnt_pos d; omega
  | n + 1, d, h, ho => by
    cases d with
    | int i =>
      obtain ⟨⟨c, w, e, _⟩, _⟩ := num_chars i
      rw [Wn, e, show cnt (.int i) = 1 from rfl, List.length_cons]
      omega
    | str x =>
      rw [Wn, show cnt (.str x) = 1 from rfl, List.length_cons]
      omega
    | list ds =>
      rw [okB] at ho
      rw [cnt] at h ⊢
      have := WnL_cnt ds fun e he => okB_cnt n e (by have := cntL_mem he; omega) (okBL_mem.mp ho.2 e he)
      rw [Wn, List.length_cons]
      omega
    | dict kvs =>
      rw [okB] at ho
      rw [cnt] at h ⊢
      have := WnK_cnt kvs fun p hp => okB_cnt n p.2 (by have := cntK_mem hp; omega) (okBK_mem.mp ho.2 p hp).2
      rw [Wn, List.length_cons]
      omega
    | none => rw [okB] at ho; exact ho.elim
    | bool b => rw [okB] at ho; exact ho.elim
    | tuple b => rw [okB] at ho; exact ho.elim
end
end WT

namespace WT
open PySem PySem.Spec L2 LW VL
open Evl (Ex)
open SX (S S_tl S_inj S_len S_cat)
open TL (tl numL joinL)
/-- a statement while a dict is locked: the heaps agree but there -/
theorem lockA_eq {t : TS} {D : Ends} {σ : L2.St} {H : Hp} {a : Addr} {u : HO} (hu : L2.Rd H a u) (mu : Mut (some u))
    (body : ∀ (Hf : Hp) (o : Obj) (D' : Ends) (th : Hp → Hp), (∀ b, b ≠ a → Hf b = H b) → Hf a = some (.frz o u) → RdX H Hf → (∀ H' b, b ≠ a → th H' b = H' b) → (∀ H', H' a = some (.frz o u) → th H' a = H a ∧ RdX H' (th H')) →
      (∀ v H', H' a = some (.frz o u) → D.rt v (th H') → D'.rt v H') → (∀ σ' H', H' a = some (.frz o u) → D.nx σ' (th H') → D'.nx σ' H') → t D' σ Hf) : tLockA t D σ H := by
  rcases hu with h | ⟨o, h⟩
  · left
    have nf : NF u := fun o' u' z => by
      rw [z] at mu
      exact mu
    refine ⟨a, u, h, mu, fun od => body _ od _ (fun H' => upd H' a u) (fun b hb => upd_ne hb) upd_same (rdx_lock h nf) (fun H' b hb => upd_ne hb) ?_ ?_ ?_⟩
    · intro H' e
      exact ⟨upd_same.trans h.symm, rdx_free e⟩
    · intro v H' e q
      exact ⟨e, q⟩
    · intro v H' e q
      exact ⟨e, q⟩
  · right
    exact body H o D (fun H' => H') (fun _ _ => rfl) h (fun _ _ _ h => h) (fun _ _ _ => rfl) (fun H' e => ⟨e.trans h.symm, fun _ _ _ h => h⟩) (fun _ _ _ q => q) (fun _ _ _ q => q)
theorem catA_of {K : PySem.W.Frag} {H : Hp} {Q : VK} {a b : Addr} {xs ys : List V} (hx : L2.Rd H a (.tup xs)) (hy : L2.Rd H b (.tup ys)) (ny : ys ≠ []) (hz : xs.length + ys.length ≤ 100000) (k : ∀ p H', Ex H H' → L2.Rd H' p (.tup (xs ++ ys)) → Q (.ref p) H') : rCatA K (.ref a) (.ref b) H Q := by
  refine ⟨a, b, xs, ys, rfl, rfl, .inl hx, .inl hy, szl hz, fun e => ?_, fun _ e => (ny e).elim, fun _ _ p np => k p _ (Ex.new np) (.inl upd_same)⟩
  subst e
  exact k b H (fun _ _ h => h) hy
section
variable {P : Program} {w : World} {K : PySem.W.Frag} {mg : Str → Option Value} {base : Heap} {C CI : Addr}
theorem len_cnt (ds : List PyData) : ds.length ≤ cntL ds := by
  induction ds with
  | nil => exact Nat.zero_le _
  | cons d r ih =>
    have := cnt_pos d
    rw [cntL, List.length_cons]
    omega
/-! ### _law_below -/
def spBelC (n : Nat) : Sp := fun vs H Q _ => ∃ (v : V) (d : PyData) (t : Addr) (p0 : List V), vs = [v, .ref t] ∧ L2.Rd H t (.tup p0) ∧ Dt H d v ∧ strA d ∧ depA d ≤ n ∧ cnt d ≤ 10000 ∧ p0.length + depA d ≤ 200 ∧
  ∀ q H' ts, Ex H H' → H' q = some (.lst ts) → ts.length = cnt d → Q (.ref q) H'
theorem sc__law_below : FnScope ["_law_value_here", "_law_spot", "_law_found", "_law_k", "_law_name", "_law_one"] ["_law_value_here", "_law_spot"] (defScope s__law_below) := ⟨rfl, rfl, rfl, by decide +kernel, rfl, by decide +kernel, by decide +kernel⟩
theorem bi__law_below : BindsEq "_law_below" s__law_below ["_law_value_here", "_law_spot"] := fun _ _ _ _ _ _ us hl => match us, hl with | [_, _], _ => rfl
theorem ok_belC (F : Df K mg "_law_below" s__law_below) (T : Txt K mg) : ∀ n, Cal P w K mg base CX0 (n + 1) "_law_below" (spBelC n)
  | 0 => cal_no F sc__law_below bi__law_below fun vs H Q E h => by
    obtain ⟨v, d, t, p0, _, _, _, _, hc, _⟩ := h
    have := dep_pos d
    omega
  | n + 1 => by
    have C__law_below := ok_belC F T n
    refine cal0 F sc__law_below bi__law_below (fun vs H Q E h => ?_) (fun f cdv A outer s H vs Q E hr h => ?_)
    · obtain ⟨v, d, t, p0, rfl, _⟩ := h
      rfl
    · obtain ⟨v, d, t, p0, rfl, ht, hd, ho, hdp, hc, hpl, k⟩ := h
      refine ⟨_, (pss_cons (ps_set (i := 2) sc__law_below.nd rfl (Or.inl rfl) (pe_lst (pa_cons (pv 1) pa_nil)))
 (pss_cons (ps_if (pt_val (pe_callB (isD K) rfl T.b_isinstance (by decide +kernel) (pa_cons (pv 0) (pa_cons (pe_bltn (v := .ty "list") rfl T.b_list (by decide +kernel) rfl) pa_nil)))) (pss_one (ps_for PassesOwn.never rfl (pi_range1 rfl T.b_range (pa_cons (pe_callB (lnA K) rfl T.b_len (by decide +kernel) (pa_cons (pv 0) pa_nil)) pa_nil)) (pg_name (i := 3) sc__law_below.nd rfl (Or.inl rfl)) (pss_one (ps_set (i := 2) sc__law_below.nd rfl (Or.inl rfl) (pe_op op_cat (pv 2) (pe_k C__law_below hr (by omega) rfl (pa_cons (pe_ix (ixA K) (pv 0) (pv 3) (fun _ _ => rfl)) (pa_cons (pe_op op_catA (pv 1) (pe_tup (pa_cons (pv 3) pa_nil))) pa_nil)))))))) pss_nil)
 (pss_cons (ps_if (pt_val (pe_callB (isD K) rfl T.b_isinstance (by decide +kernel) (pa_cons (pv 0) (pa_cons (pe_bltn (v := .ty "dict") rfl T.b_dict (by decide +kernel) rfl) pa_nil)))) (pss_one (ps_lockA (ps_for PassesOwn.never rfl (pil K (pe_callB (srK K) rfl T.b_sorted (by decide +kernel) (pa_cons (pe_lc (own := [("_law_one", 5)]) (by rfl) sc__law_below.nd (pi_ka (pv 0)) (blkOk_by (own := [("_law_one", 5)]) (N := ["_law_value_here", "_law_spot", "_law_found", "_law_k", "_law_name", "_law_one"]) (sc := defScope s__law_below) (by decide +kernel)) (fun _ _ _ _ _ => (pg_name (i := 5) sc__law_below.nd rfl (Or.inl rfl))) (fun _ _ _ _ _ => pts_nil) (fun _ _ _ _ _ => (pe_callTy strS rfl T.b_str (by decide +kernel) (pa_cons (pv 5) pa_nil)))) pa_nil))) (pg_name (i := 4) sc__law_below.nd rfl (Or.inl rfl)) (pss_one (ps_set (i := 2) sc__law_below.nd rfl (Or.inl rfl) (pe_op op_cat (pv 2) (pe_k C__law_below hr (by omega) rfl (pa_cons (pe_ix (ixA K) (pv 0) (pv 4) (fun _ _ => rfl)) (pa_cons (pe_op op_catA (pv 1) (pe_tup (pa_cons (pv 4) pa_nil))) pa_nil))))))))) pss_nil)
 (pss_one (ps_ret (pv 2)))))), ?_⟩
      refine ⟨_, rfl, szl (by show 1 ≤ 100000; decide), fun p1 np1 => ?_⟩
      obtain ⟨H1, hH1, x0_1, h1⟩ := newH _ np1
      rw [hH1]
      clear hH1
      have f1 := np1
      cases d with
      | list ds =>
        refine ⟨v, rfl, v, _, _, true, rfl, hd.ex x0_1, rfl, _, rfl, if_t rfl ?_⟩
        have hd2 := hd
        unfold Dt at hd2
        obtain ⟨a, xs, rfl, hax, hl⟩ := hd2
        have hlen := hl.len
        have hcl : cnt (.list ds) = 1 + cntL ds := by rw [cnt]
        have hdl : depA (.list ds) = 1 + depL ds := by rw [depA]
        unfold strA at ho
        have hxs : xs.length ≤ cntL ds := by
          rw [hlen]
          exact len_cnt ds
        refine ⟨_, rfl, .inl ⟨_, xs.length, rfl, .inl ⟨xs, .inl (rd_ex x0_1 hax), rfl⟩, _, rfl, by omega, by omega, for_it walk_range (fun i σ' Hi => ∃ q ts o3, σ' = [some (.ref a), some (.ref t), some (.ref q), o3, none, none] ∧ Ex H1 Hi ∧ Hi q = some (.lst ts) ∧ ts.length = 1 + cntL (ds.take i)) ?_ (fun _ _ _ _ _ => True.intro) ?_ ?_⟩⟩
        · exact ⟨p1, _, none, rfl, fun _ _ h => h, h1, rfl⟩
        · rintro i x σ' Ho Hi hi ⟨q, ts, o3, rfl, e, hq, htl⟩ ⟨rfl, rfl⟩
          have hi' : i < xs.length := by
            have : i < ((xs.length : Nat) : Int).toNat := hi
            omega
          obtain ⟨u, hu1, _, hu3⟩ := at_some (xs := xs) (v := 0 + (i : Int)) (by omega) (by omega)
          have hti : (0 + (i : Int)).toNat = i := by omega
          rw [hti] at hu3
          obtain ⟨c, hc1, hcd⟩ := hl.get hu3
          have x0i : Ex H Hi := x0_1.trans e
          have hkid : c ∈ ds := List.mem_of_getElem? hc1
          have hcc := cntL_mem hkid
          have hdd := depL_mem hkid
          have htk : cntL (ds.take (i + 1)) = cntL (ds.take i) + cnt c := by
            rw [List.take_add_one, hc1, cntL_app]
            show _ + cntL [c] = _
            rw [cntL, cntL]
            omega
          have hsub : cntL (ds.take (i + 1)) ≤ cntL ds := by
            conv => rhs; rw [← List.take_append_drop (i + 1) ds]
            rw [cntL_app]
            omega
          refine ⟨_, rfl, _, rfl, _, rfl, .inl ⟨a, xs, _, u, rfl, rfl, .inl (rd_ex x0i hax), hu1, _, rfl, _, rfl, szl (by show 1 ≤ 100000; decide), fun p2 np2 => ?_⟩⟩
          have x2 : Ex Hi (upd Hi p2 (.tup [V.int (0 + (i : Int))])) := Ex.new np2
          refine catA_of (rd_ex (x0i.trans x2) ht) (.inl upd_same) (by simp) (by show p0.length + 1 ≤ 100000; omega) fun z Hz xz hz => ?_
          have x0z := x0i.trans (x2.trans xz)
          refine ⟨u, c, z, _, rfl, hz, hcd.ex x0z, strAL_mem.mp ho c hkid, by omega, by omega, by rw [List.length_append]; show p0.length + 1 + _ ≤ _; omega, fun q2 H4 ts2 x4 hq2 hl2 => ?_⟩
          have xi4 := x2.trans (xz.trans x4)
          refine ⟨q, q2, ts, ts2, rfl, rfl, xi4 _ _ hq, hq2, szl (by omega), fun p3 np3 => ?_⟩
          refine ⟨p3, ts ++ ts2, _, rfl, e.trans (xi4.trans (Ex.new np3)), upd_same, ?_⟩
          rw [List.length_append, htl, hl2, htk]
          omega
        · rintro σ' Hi ⟨q, ts, o3, rfl, e, hq, htl⟩
          refine ⟨_, rfl, .ref a, _, _, false, rfl, hd.ex (x0_1.trans e), rfl, _, rfl, if_f rfl ⟨_, rfl, k q Hi ts (x0_1.trans e) hq ?_⟩⟩
          rw [htl, cnt]
          have e3 : ds.take ((xs.length : Nat) : Int).toNat = ds := List.take_of_length_le (by omega)
          have e4 : ds.take (Int.toNat (xs.length : Int)) = ds := e3
          rw [e4]
      | dict kvs =>
        refine ⟨v, rfl, v, _, _, false, rfl, hd.ex x0_1, rfl, _, rfl, if_f rfl ?_⟩
        refine ⟨v, rfl, v, _, _, true, rfl, hd.ex x0_1, rfl, _, rfl, if_t rfl ?_⟩
        unfold strA at ho
        obtain ⟨⟨ha, hlen⟩, hoK⟩ := ho
        obtain ⟨a, es, rfl, hae, nd, hk⟩ := dict_val hd ha
        have hnm := dtk_names hk ha
        have hks := names_kV hnm
        have hln : (names kvs).length = kvs.length := by
          unfold names
          rw [List.length_map]
        have hae1 := rd_ex x0_1 hae
        have na : p1 ≠ a := fun z => by
          obtain ⟨oo, q⟩ := rd_some hae
          rw [← z, f1] at q
          cases q
        refine lockA_eq hae1 True.intro ?_
        intro Hf o D' th hof hf rx hth hta _ kn
        have rx0 : RdX H Hf := (rdx_ex x0_1).trans rx
        have hkf := hk.rdx rx0
        have h1f : Hf p1 = some (.lst [.ref t]) := by
          rw [hof _ na]
          exact h1
        have htf : L2.Rd Hf t (.tup p0) := rx0 _ _ nf_tup ht
        refine ⟨_, rfl, a, o, _, (names kvs).map V.str, rfl, hf, .inl ⟨es, rfl, hks.symm⟩, fun D1 nD1 => lc_gr walk_ka (fun i acc _ => acc = ((names kvs).take i).map V.str) nD1 (by rw [List.length_map]; omega) rfl (fun H' e => e _ _ hf) ?_ ?_⟩
        · rintro i x acc Ho Hi hi e e' hD hl rfl ⟨rfl, hx1⟩
          obtain ⟨y, hy, rfl⟩ : ∃ y, (names kvs)[i]? = some y ∧ V.str y = x := by
            rw [List.getElem?_map] at hx1
            cases hp : (names kvs)[i]? with
            | none => rw [hp] at hx1; cases hx1
            | some p => rw [hp] at hx1; exact ⟨p, rfl, Option.some.inj hx1⟩
          refine ⟨rfl, _, rfl, y, rfl, lc_put e' hD hl (by rw [List.length_map] at hi; omega) (fun _ _ h => h) ?_⟩
          rw [List.take_add_one, List.map_append, hy]
          rfl
        · rintro acc H2 e e' hD hl rfl
          have e1 : (names kvs).take ((names kvs).map V.str).length = names kvs := List.take_of_length_le (by rw [List.length_map]; exact Nat.le_refl _)
          rw [e1] at hD
          refine ⟨D1, names kvs, rfl, SqLo hD, by omega, fun ys py pp sy np => ?_⟩
          have xf3 : Ex Hf (upd H2 py (.lst (ys.map V.str))) := e.trans (Ex.new np)
          have hyl : ys.length = kvs.length := by rw [pp.length_eq, hln]
          have hkp : (ys.map fun y => getN kvs y).Perm (kvs.map (·.2)) := by
            have q := kids_perm (d := .dict kvs) (cs := ys.map fun y => (V.str y, getN kvs y)) ⟨ys, pp, sy, rfl⟩ (fun kvs' e => by cases e; exact ⟨ha, nodup_names hk ha nd⟩)
            rw [List.map_map] at q
            exact q
          have hcl : cnt (.dict kvs) = 1 + cntK kvs := by rw [cnt]
          have hdl : depA (.dict kvs) = 1 + depK kvs := by rw [depA]
          refine ⟨py, rfl, ⟨_, SqLo upd_same⟩, for_it (walk_list (K := K) (a := py) (xs := ys.map V.str)) (fun i σ' Hi => ∃ q ts o4, σ' = [some (.ref a), some (.ref t), some (.ref q), none, o4, none] ∧ Ex (upd H2 py (.lst (ys.map V.str))) Hi ∧ Hi q = some (.lst ts) ∧ ts.length = 1 + cntL ((ys.take i).map fun y => getN kvs y)) ?_ ?_ ?_ ?_⟩
          · exact ⟨p1, _, none, rfl, fun _ _ h => h, xf3 _ _ h1f, rfl⟩
          · rintro i σ' Hi _ ⟨q, ts, o4, _, x3, _⟩
            exact SqLo (x3 _ _ upd_same)
          · rintro i x σ' Ho Hi hi ⟨q, ts, o4, rfl, x3, hq, htl⟩ ⟨rfl, hx1⟩
            obtain ⟨y, hy, rfl⟩ : ∃ y, ys[i]? = some y ∧ V.str y = x := by
              rw [List.getElem?_map] at hx1
              cases hp : ys[i]? with
              | none => rw [hp] at hx1; cases hx1
              | some p => rw [hp] at hx1; exact ⟨p, rfl, Option.some.inj hx1⟩
            have hym : y ∈ names kvs := pp.mem_iff.mp (List.mem_of_getElem? hy)
            obtain ⟨u, hu1, hu2⟩ := dtk_get hkf ha y hym
            obtain ⟨pk, hpk, _, epk⟩ := getN_mem hym
            have xfi : Ex Hf Hi := xf3.trans x3
            have hcc := getN_cnt hym
            have hdd : depA (getN kvs y) ≤ depK kvs := by rw [epk]; exact depK_mem hpk
            have hsy : strA (getN kvs y) := by rw [epk]; exact strAK_mem.mp hoK pk hpk
            have htk : cntL ((ys.take (i + 1)).map fun y => getN kvs y) = cntL ((ys.take i).map fun y => getN kvs y) + cnt (getN kvs y) := by
              rw [List.take_add_one, hy, List.map_append, cntL_app]
              show _ + cntL [getN kvs y] = _
              rw [cntL, cntL]
              omega
            have hsub : cntL ((ys.take (i + 1)).map fun y => getN kvs y) ≤ cntK kvs := by
              rw [cntK_eq, ← cntL_perm hkp]
              conv => rhs; rw [← List.take_append_drop (i + 1) ys]
              rw [List.map_append, cntL_app]
              omega
            refine ⟨_, rfl, _, rfl, _, rfl, .inr ⟨a, es, Sum.inr y, u, rfl, rfl, .inr ⟨o, xfi _ _ hf⟩, hu1, _, rfl, _, rfl, szl (by show 1 ≤ 100000; decide), fun p2 np2 => ?_⟩⟩
            have x2 : Ex Hi (upd Hi p2 (.tup [V.str y])) := Ex.new np2
            refine catA_of (rd_ex (xfi.trans x2) htf) (.inl upd_same) (by simp) (by show p0.length + 1 ≤ 100000; omega) fun z Hz xz hz => ?_
            refine ⟨u, _, z, _, rfl, hz, hu2.ex (xfi.trans (x2.trans xz)), hsy, by omega, by omega, by rw [List.length_append]; show p0.length + 1 + _ ≤ _; omega, fun q2 H4 ts2 x4 hq2 hl2 => ?_⟩
            have xi4 := x2.trans (xz.trans x4)
            refine ⟨q, q2, ts, ts2, rfl, rfl, xi4 _ _ hq, hq2, szl (by omega), fun p3 np3 => ?_⟩
            refine ⟨p3, ts ++ ts2, _, rfl, x3.trans (xi4.trans (Ex.new np3)), upd_same, ?_⟩
            rw [List.length_append, htl, hl2, htk]
            omega
          · rintro σ' Hi ⟨q, ts, o4, rfl, x3, hq, htl⟩
            have xfi : Ex Hf Hi := xf3.trans x3
            have hai := xfi _ _ hf
            refine kn _ Hi hai ?_
            obtain ⟨t1, t2⟩ := hta Hi hai
            have hqa : q ≠ a := fun z => by
              rw [z, hai] at hq
              cases hq
            refine ⟨_, rfl, k q _ ts ?_ ?_ ?_⟩
            · intro b oo hb
              by_cases eb : b = a
              · rw [eb, t1]
                rw [eb] at hb
                exact x0_1 _ _ hb
              · rw [hth _ _ eb]
                exact xfi _ _ (by rw [hof _ eb]; exact x0_1 _ _ hb)
            · rw [hth _ _ hqa]
              exact hq
            · rw [htl, cnt]
              have e3 : ys.take (ys.map V.str).length = ys := List.take_of_length_le (by rw [List.length_map]; exact Nat.le_refl _)
              rw [e3, cntL_perm hkp, cntK_eq]
      | _ =>
        refine ⟨v, rfl, v, _, _, false, rfl, hd.ex x0_1, rfl, _, rfl, if_f rfl ?_⟩
        refine ⟨v, rfl, v, _, _, false, rfl, hd.ex x0_1, rfl, _, rfl, if_f rfl ⟨_, rfl, k p1 _ _ x0_1 h1 rfl⟩⟩
end
end WT

namespace WT
open PySem PySem.Spec L2 LW VL
open Evl (Ex)
open SX (S S_tl S_inj S_len S_cat)
open TL (tl numL joinL)
/-! ### what repr can show -/
structure RpD (d : PyData) : Prop where
  s : d.showable = true
  l : d.leavesShort 40 = true
  b : d.bulk ≤ 100000
  p : d.depth ≤ 150
theorem RpD.size {d : PyData} (h : RpD d) : d.shown.length ≤ sizeLine := by
  have h1 := PyData.shown_le_bulk 40 (by decide) d h.l
  have h2 := h.b
  refine Nat.le_trans (m := 4300000) ?_ (by decide)
  omega
def asc (x : Str) : Prop := ∀ c ∈ tl x, c < 128
theorem rp_str {x : Str} (h : x.length ≤ 10000) (ha : asc x) : RpD (.str x) := by
  refine ⟨rfl, ?_, ?_, by simp [PyData.depth]⟩
  · simp only [PyData.leavesShort]
    exact List.all_eq_true.mpr fun c hc => decide_eq_true (Nat.lt_trans (ha c hc) (by decide))
  · simp only [PyData.bulk]
    have : x.cps.size ≤ 10000 := h
    omega
theorem rp_sm {d : PyData} (h : Sm d) : RpD d := ⟨h.show, lim_short d h.l, by have := bulk_le d h.l; have := h.n; omega, h.depth⟩
section
variable {P : Program} {w : World} {K : PySem.W.Frag} {mg : Str → Option Value} {base : Heap} {C CI : Addr}
/-! ### _law_written -/
theorem sc__law_written : FnScope ["_law_value_here", "_law_names", "_law_one", "_law_name"] ["_law_value_here"] (defScope s__law_written) := ⟨rfl, rfl, rfl, by decide +kernel, rfl, by decide +kernel, by decide +kernel⟩
theorem bi__law_written : BindsEq "_law_written" s__law_written ["_law_value_here"] := fun _ _ _ _ _ _ us hl => match us, hl with | [_], _ => rfl
theorem ok_lwrit (F : Df K mg "_law_written" s__law_written) (T : Txt K mg) : ∀ n, Cal P w K mg base CX0 (n + 1) "_law_written" (spWrit n)
  | 0 => cal_no F sc__law_written bi__law_written fun vs H Q E h => by
    obtain ⟨v, d, _, _, _, _, _, hc, _⟩ := h
    have := cnt_pos d
    omega
  | n + 1 => by
    have C__law_written := ok_lwrit F T n
    refine cal0 F sc__law_written bi__law_written (fun vs H Q E h => ?_) (fun f cdv A outer s H vs Q E hr h => ?_)
    · obtain ⟨v, d, H0, rfl, _⟩ := h
      rfl
    · obtain ⟨v, d, H0, rfl, hd0, x00, ho, hc, hc60, hn, k⟩ := h
      have hd := hd0.ex x00
      refine ⟨_, (pss_cons (ps_if (pt_val (pe_callB (isD K) rfl T.b_isinstance (by decide +kernel) (pa_cons (pv 0) (pa_cons (pe_bltn (v := .ty "list") rfl T.b_list (by decide +kernel) rfl) pa_nil)))) (pss_one (ps_ret (pe_op op_add_str (pe_op op_add_str pe_str (pe_join pe_str (pe_lc (own := [("_law_one", 2)]) (by rfl) sc__law_written.nd (pil K (pv 0)) (blkOk_by (own := [("_law_one", 2)]) (N := ["_law_value_here", "_law_names", "_law_one", "_law_name"]) (sc := defScope s__law_written) (by decide +kernel)) (fun _ _ _ _ _ => (pg_name (i := 2) sc__law_written.nd rfl (Or.inl rfl))) (fun _ _ _ _ _ => pts_nil) (fun _ _ _ _ _ => (pe_k C__law_written hr (by omega) rfl (pa_cons (pv 2) pa_nil)))))) pe_str))) pss_nil)
 (pss_cons (ps_if (pt_val (pe_callB (isD K) rfl T.b_isinstance (by decide +kernel) (pa_cons (pv 0) (pa_cons (pe_bltn (v := .ty "dict") rfl T.b_dict (by decide +kernel) rfl) pa_nil)))) (pss_cons (ps_lockA (ps_set (i := 1) sc__law_written.nd rfl (Or.inl rfl) (pe_callB (srK K) rfl T.b_sorted (by decide +kernel) (pa_cons (pe_lc (own := [("_law_one", 2)]) (by rfl) sc__law_written.nd (pi_ka (pv 0)) (blkOk_by (own := [("_law_one", 2)]) (N := ["_law_value_here", "_law_names", "_law_one", "_law_name"]) (sc := defScope s__law_written) (by decide +kernel)) (fun _ _ _ _ _ => (pg_name (i := 2) sc__law_written.nd rfl (Or.inl rfl))) (fun _ _ _ _ _ => pts_nil) (fun _ _ _ _ _ => (pe_callTy strS rfl T.b_str (by decide +kernel) (pa_cons (pv 2) pa_nil)))) pa_nil))))
 (pss_one (ps_ret (pe_op op_add_str (pe_op op_add_str pe_str (pe_join pe_str (pe_lc (own := [("_law_name", 3)]) (by rfl) sc__law_written.nd (pil K (pv 1)) (blkOk_by (own := [("_law_name", 3)]) (N := ["_law_value_here", "_law_names", "_law_one", "_law_name"]) (sc := defScope s__law_written) (by decide +kernel)) (fun _ _ _ _ _ => (pg_name (i := 3) sc__law_written.nd rfl (Or.inl rfl))) (fun _ _ _ _ _ => pts_nil) (fun _ _ _ _ _ => (pe_op op_add_str (pe_op op_add_str (pv 3) pe_str) (pe_k C__law_written hr (by omega) rfl (pa_cons (pe_ix (ixA K) (pv 0) (pv 3) (fun _ _ => rfl)) pa_nil))))))) pe_str)))) pss_nil)
 (pss_one (ps_ret (pe_ifExp (pt_val (pe_callB (isD K) rfl T.b_isinstance (by decide +kernel) (pa_cons (pv 0) (pa_cons (pe_bltn (v := .ty "str") rfl T.b_str (by decide +kernel) rfl) pa_nil)))) (pe_op op_add_str (pe_op op_add_str pe_str (pv 0)) pe_str) (pe_callTy call_str_int rfl T.b_str (by decide +kernel) (pa_cons (pv 0) pa_nil))))))), ?_⟩
      have hshort := Wn_short ho hc60 hn
      cases d with
      | dict kvs =>
        refine ⟨v, rfl, v, _, _, false, rfl, hd, rfl, _, rfl, if_f rfl ?_⟩
        refine ⟨v, rfl, v, _, _, true, rfl, hd, rfl, _, rfl, if_t rfl ?_⟩
        obtain ⟨h8, hfl, hok⟩ := okA_dict ho
        have ha := allStr_okA hfl
        obtain ⟨a, es, rfl, hae0, nd, hk⟩ := dict_val hd0 ha
        have hae := rd_ex x00 hae0
        have hnm := dtk_names hk ha
        have hks := names_kV hnm
        have hln : (names kvs).length = kvs.length := by
          unfold names
          rw [List.length_map]
        have hcc : cnt (.dict kvs) = 1 + cntK kvs := by rw [cnt]
        have hwn : Wn (norm (.dict kvs)) = 123 :: (joinL [44, 32] ((srt (names kvs)).map fun y => WnP (.str y, norm (getN kvs y))) ++ [125]) := by
          rw [norm_dict, Wn, ← join_K, List.map_map]
          rfl
        have hjl : (joinL [44, 32] ((srt (names kvs)).map fun y => WnP (.str y, norm (getN kvs y)))).length ≤ 2760 := by
          rw [hwn, List.length_cons, List.length_append] at hshort
          omega
        refine lockA_any hae True.intro ?_
        intro Hf o D' th rx hf hno hth _ kn
        refine ⟨_, rfl, a, o, _, (names kvs).map V.str, rfl, hf, .inl ⟨es, rfl, hks.symm⟩, fun D1 nD1 => lc_gr walk_ka (fun i acc _ => acc = ((names kvs).take i).map V.str) nD1 (by rw [List.length_map]; omega) rfl (fun H' e => e _ _ hf) ?_ ?_⟩
        · rintro i x acc H1 H2 hi e e' hD hl rfl ⟨rfl, hx1⟩
          obtain ⟨y, hy, rfl⟩ : ∃ y, (names kvs)[i]? = some y ∧ V.str y = x := by
            rw [List.getElem?_map] at hx1
            cases hp : (names kvs)[i]? with
            | none => rw [hp] at hx1; cases hx1
            | some p => rw [hp] at hx1; exact ⟨p, rfl, Option.some.inj hx1⟩
          refine ⟨rfl, _, rfl, y, rfl, lc_put e' hD hl (by rw [List.length_map] at hi; omega) (fun _ _ h => h) ?_⟩
          rw [List.take_add_one, List.map_append, hy]
          rfl
        · rintro acc H1 e e' hD hl rfl
          have e1 : (names kvs).take ((names kvs).map V.str).length = names kvs := List.take_of_length_le (by rw [List.length_map]; exact Nat.le_refl _)
          rw [e1] at hD
          refine ⟨D1, names kvs, rfl, SqLo hD, by omega, fun ys py pp sy np => ?_⟩
          have xf : Ex Hf (upd H1 py (.lst (ys.map V.str))) := e.trans (Ex.new np)
          refine kn _ _ xf ?_
          obtain ⟨t1, t2, t3⟩ := hth _ xf
          have hys := srt_of pp sy
          subst hys
          have npa : py ≠ a := fun z => by
            have q := e _ _ hf
            rw [← z, np] at q
            cases q
          have hq : th (upd H1 py (.lst ((srt (names kvs)).map V.str))) py = some (.lst ((srt (names kvs)).map V.str)) := by
            rw [t3 _ npa]
            exact upd_same
          generalize th (upd H1 py (.lst ((srt (names kvs)).map V.str))) = H3 at *
          have hp := pp
          have hsl : (srt (names kvs)).length = kvs.length := by rw [hp.length_eq]; unfold names; rw [List.length_map]
          refine ⟨⟨_, rfl⟩, _, rfl, py, rfl, ⟨_, SqLo hq⟩, fun D nD => lc_gr (walk_list (K := K) (a := py) (xs := (srt (names kvs)).map V.str)) (fun i acc _ => acc = ((srt (names kvs)).take i).map fun y => V.str (S (WnP (.str y, norm (getN kvs y))))) nD (by rw [List.length_map]; omega) rfl (fun H' e => SqLo (e _ _ hq)) ?_ ?_⟩
          · rintro i x acc H4 H5 hi g g' gD gl rfl ⟨rfl, hx1⟩
            obtain ⟨y, hy, rfl⟩ : ∃ y, (srt (names kvs))[i]? = some y ∧ V.str y = x := by
              rw [List.getElem?_map] at hx1
              cases hp : (srt (names kvs))[i]? with
              | none => rw [hp] at hx1; cases hx1
              | some p => rw [hp] at hx1; exact ⟨p, rfl, Option.some.inj hx1⟩
            have hym : y ∈ names kvs := hp.mem_iff.mp (List.mem_of_getElem? hy)
            obtain ⟨p, hpm, e1, e2⟩ := getN_mem hym
            obtain ⟨u, hu1, hu2⟩ := dtk_get hk ha y hym
            have hkc := cntK_mem hpm
            have hoy : okA (getN kvs y) = true := by rw [e2]; exact okKm hok p hpm
            have hny : nodA (getN kvs y) := by
              rw [e2]
              unfold nodA at hn
              exact nodAK_mem.mp hn.2 p hpm
            have hcy : cnt (getN kvs y) = cnt p.2 := by rw [e2]
            have hyl : y.length ≤ 8 := by
              have hs := allStr_okA hfl p hpm
              have hf := hfl p hpm
              rw [hs, e1] at hf
              have hf : lets y 1 8 = true := hf
              unfold lets at hf
              rw [Bool.and_eq_true, Bool.and_eq_true] at hf
              exact of_decide_eq_true hf.1.2
            have hws := Wn_short hoy (by omega) hny
            refine ⟨rfl, _, rfl, _, _, rfl, rfl, szl (by show y.length + 2 ≤ _; omega), _, rfl, _, rfl, .inr ⟨a, es, .inr y, u, rfl, rfl, rd_ex (t1.trans g) hae, hu1, u, getN kvs y, H0, rfl, hu2, x00.trans (t1.trans g), hoy, by omega, by omega, hny, fun H6 x6 => ?_⟩⟩
            refine ⟨_, _, rfl, rfl, szl (by rw [S_len (Wn (norm (getN kvs y))), TL.len_tl, TL.tl_append, List.length_append, ← TL.len_tl y]; show _ + 2 + _ ≤ _; omega), lc_put g' gD gl (by rw [List.length_map] at hi; omega) x6 ?_⟩
            rw [List.take_add_one, List.map_append, hy]
            have e : y ++ ": " ++ S (Wn (norm (getN kvs y))) = S (WnP (.str y, norm (getN kvs y))) := by
              refine TL.ext_tl ?_
              rw [TL.tl_append, TL.tl_append]
              show tl y ++ [58, 32] ++ Wn (norm (getN kvs y)) = tl y ++ 58 :: 32 :: Wn (norm (getN kvs y))
              simp
            rw [e]
            rfl
          · rintro acc H4 g g' gD gl rfl
            rw [List.take_of_length_le (by rw [List.length_map]; exact Nat.le_refl _)] at gD
            have j1 := join_sq (K := K) (D := D) (H := H4) (ls := (srt (names kvs)).map fun y => WnP (.str y, norm (getN kvs y))) (by rw [List.map_map]; exact gD)
            have j2 := join_sz (ls := (srt (names kvs)).map fun y => WnP (.str y, norm (getN kvs y))) (by omega) (by rw [List.length_map]; omega)
            refine ⟨", ", D, _, rfl, rfl, .inl j1, j2, ?_⟩
            rw [join_is]
            refine ⟨_, _, rfl, rfl, szl (by rw [S_len (joinL _ _)]; show 1 + _ ≤ _; omega), _, _, rfl, rfl, szl (by rw [TL.len_tl, TL.tl_append, List.length_append]; show 1 + (joinL [44, 32] ((srt (names kvs)).map fun y => WnP (.str y, norm (getN kvs y)))).length + 1 ≤ _; omega), ?_⟩
            refine cat3 (K := K) ?_
            have qk := k H4 (t1.trans g)
            rw [hwn] at qk
            exact qk
      | list ds =>
        refine ⟨v, rfl, v, _, _, true, rfl, hd, rfl, _, rfl, if_t rfl ?_⟩
        obtain ⟨h60, hoL⟩ := okA_list ho
        have hcc : cnt (.list ds) = 1 + cntL ds := by rw [cnt]
        have hd2 := hd0
        unfold Dt at hd2
        obtain ⟨a, vs, rfl, ha, hl⟩ := hd2
        have hlen := hl.len
        have hwn : Wn (norm (.list ds)) = 91 :: (joinL [44, 32] (ds.map fun e => Wn (norm e)) ++ [93]) := by
          rw [norm_list, Wn, ← join_L, List.map_map]
          rfl
        have hjl : (joinL [44, 32] (ds.map fun e => Wn (norm e))).length ≤ 2760 := by
          rw [hwn, List.length_cons, List.length_append] at hshort
          omega
        refine ⟨⟨_, rfl⟩, _, rfl, a, rfl, ⟨_, .inl (rd_ex x00 ha)⟩, fun D nD => lc_gr (walk_list (K := K) (a := a) (xs := vs)) (fun i acc _ => acc = (ds.take i).map fun e => V.str (S (Wn (norm e)))) nD (by omega) rfl (fun H' e => .inl (rd_ex (x00.trans e) ha)) ?_ ?_⟩
        · rintro i x acc H4 H5 hi g g' gD gl rfl ⟨rfl, hx1⟩
          obtain ⟨e, he1, he2⟩ := hl.get hx1
          have hem : e ∈ ds := List.mem_of_getElem? he1
          have hec := cntL_mem hem
          have hne : nodA e := by
            unfold nodA at hn
            exact nodAL_mem.mp hn e hem
          refine ⟨rfl, _, rfl, x, e, H0, rfl, he2, x00.trans g, hoL e hem, by omega, by omega, hne, fun H6 x6 => lc_put g' gD gl (by omega) x6 ?_⟩
          rw [List.take_add_one, List.map_append, he1]
          rfl
        · rintro acc H4 g g' gD gl rfl
          rw [List.take_of_length_le (by omega)] at gD
          have j1 := join_sq (K := K) (D := D) (H := H4) (ls := ds.map fun e => Wn (norm e)) (by rw [List.map_map]; exact gD)
          have j2 := join_sz (ls := ds.map fun e => Wn (norm e)) (by omega) (by rw [List.length_map]; omega)
          refine ⟨", ", D, _, rfl, rfl, .inl j1, j2, ?_⟩
          rw [join_is]
          refine ⟨_, _, rfl, rfl, szl (by rw [S_len (joinL _ _)]; show 1 + _ ≤ _; omega), _, _, rfl, rfl, szl (by rw [TL.len_tl, TL.tl_append, List.length_append]; show 1 + (joinL [44, 32] (ds.map fun e => Wn (norm e))).length + 1 ≤ _; omega), ?_⟩
          refine cat3 (K := K) ?_
          have qk := k H4 g
          rw [hwn] at qk
          exact qk
      | str x =>
        refine ⟨v, rfl, v, _, _, false, rfl, hd, rfl, _, rfl, if_f rfl ?_⟩
        refine ⟨v, rfl, v, _, _, false, rfl, hd, rfl, _, rfl, if_f rfl ?_⟩
        refine ⟨v, rfl, v, _, _, true, rfl, hd, rfl, _, rfl, if_t rfl ?_⟩
        unfold Dt at hd
        subst hd
        have hx : (tl x).length ≤ 2758 := by
          rw [norm_str, Wn, List.length_cons, List.length_append] at hshort
          show (tl x).length ≤ _
          have : ([34] : List Nat).length = 1 := rfl
          omega
        refine ⟨_, rfl, _, _, rfl, rfl, szl (by rw [TL.len_tl x]; show 1 + _ ≤ _; omega), _, _, rfl, rfl, szl (by rw [TL.len_tl, TL.tl_append, List.length_append]; show 1 + (tl x).length + 1 ≤ _; omega), ?_⟩
        have qk := k H (Ex.refl _)
        rw [norm_str, Wn] at qk
        have e : ("\"" : Str) ++ x ++ ("\"" : Str) = S (34 :: (tl x ++ [34])) := by
          refine TL.ext_tl ?_
          rw [TL.tl_append, TL.tl_append]
          show [34] ++ tl x ++ [34] = _
          simp
        rw [e]
        exact qk
      | int i =>
        refine ⟨v, rfl, v, _, _, false, rfl, hd, rfl, _, rfl, if_f rfl ?_⟩
        refine ⟨v, rfl, v, _, _, false, rfl, hd, rfl, _, rfl, if_f rfl ?_⟩
        refine ⟨v, rfl, v, _, _, false, rfl, hd, rfl, _, rfl, if_f rfl ?_⟩
        unfold Dt at hd
        subst hd
        obtain ⟨h1, h2⟩ := okA_int ho
        refine ⟨_, rfl, _, rfl, ?_, ?_⟩
        · by_cases h0 : i.natAbs = 0
          · rw [h0]; decide
          · have : i.natAbs.log2 < 104 := (Nat.log2_lt h0).mpr (Nat.lt_trans (show i.natAbs < 10 ^ 30 by unfold big at h1 h2; omega) (by decide))
            omega
        · rw [num_str]
          have qk := k H (Ex.refl _)
          rw [norm_int, Wn] at qk
          exact qk
      | none => cases ho
      | bool b => cases ho
      | tuple b => cases ho
/-! ### _law_due -/
def spDueV : Sp := fun vs H Q _ => ∃ (x : Str), vs = [.str x] ∧ x.length ≤ 10000 ∧ RpD (.str x) ∧ (∀ d, LR (tl x) = some d → ∀ t u H', Ex H H' → H' t = some (.tup [.str "told", u]) → Dt H' d u → Q (.ref t) H') ∧
  (LR (tl x) = none → ∀ t H', Ex H H' → H' t = some (.tup [.str "value", .str (PyData.str x).shown]) → Q (.ref t) H')
theorem sc__law_due : FnScope ["_law_text", "_law_found"] ["_law_text"] (defScope s__law_due) := ⟨rfl, rfl, rfl, by decide +kernel, rfl, by decide +kernel, by decide +kernel⟩
theorem bi__law_due : BindsEq "_law_due" s__law_due ["_law_text"] := fun _ _ _ _ _ _ us hl => match us, hl with | [_], _ => rfl
theorem ok_dueV (F : Df K mg "_law_due" s__law_due) (T : Txt K mg) (sy : ∃ mm, base.Ns sysModules mm) (C__law_read : Cal P w K mg base CX0 127 "_law_read" (spRdL rdR 62)) (C__law_below : Cal P w K mg base CX0 101 "_law_below" (spBelC 100)) : CalG P w K mg base CX0 128 "_law_due" spDueV := by
  refine calG F sc__law_due bi__law_due (fun vs H Q E h => ?_) (fun f cdv A outer s H vs Q E gd hr h => ?_)
  · obtain ⟨x, rfl, _⟩ := h
    rfl
  · obtain ⟨x, rfl, hx, hrp, k1, k2⟩ := h
    have cm : Calm (cxOf CX0 P w K mg base ["_law_text", "_law_found"] "_law_due" (defScope s__law_due) f cdv A outer s H E).nox := Calm.of gd sy hr
    refine ⟨_, PSs.nox (pss_cons (ps_set (i := 1) sc__law_due.nd rfl (Or.inl rfl) (pe_k C__law_read hr (by decide) rfl (pa_cons (pv 0) (pa_cons pe_int pa_nil))))
 (pss_cons (ps_if (PW.pt (pw_or (pt_cmpR op_isN (pv 1) pe_non (nomark _)) (pw_or (pt_cmpR op_ne (pe_ix (ixt K) (pv 1) pe_int (fun _ _ => rfl)) pe_str (nomark _)) (pw_or1 (pt_cmpR op_gt (pe_callB (lnK K) rfl T.b_len (by decide +kernel) (pa_cons (pe_k C__law_below hr (by decide) rfl (pa_cons (pe_ix (ixt K) (pv 1) pe_int (fun _ _ => rfl)) (pa_cons (pe_tup pa_nil) pa_nil))) pa_nil)) pe_int (nomark _)))))) (pss_one (ps_ret (pe_tup (pa_cons pe_str (pa_cons (pe_callB (call_repr cm) rfl T.b_repr (by decide +kernel) (pa_cons (pv 0) pa_nil)) pa_nil))))) pss_nil)
 (pss_one (ps_ret (pe_tup (pa_cons pe_str (pa_cons (pe_ix (ixt K) (pv 1) pe_int (fun _ _ => rfl)) pa_nil))))))), ?_⟩
    have bad : LR (tl x) = none → ∀ H1 : Hp, Ex H H1 → ∀ p, H1 p = none → Q (.ref p) (upd H1 p (.tup [.str "value", .str (PyData.str x).shown])) := fun hl H1 e p np => k2 hl p _ (e.trans (Ex.new np)) upd_same
    refine ⟨_, rfl, x, 0, rfl, rfl, by decide, hx, ?_⟩
    show LsQ _ _ (lrF 61 (tl x))
    cases e : lrF 61 (tl x) with
    | none =>
      have hl : LR (tl x) = none := by
        unfold LR
        rw [e]
      intro H1 e1
      refine ⟨_, rfl, rfl, _, rfl, if_t rfl ?_⟩
      exact ⟨_, rfl, _, _, rfl, by unfold Dt; rfl, hrp.s, hrp.size, hrp.p, szl (by show 2 ≤ 100000; decide), fun p np => bad hl H1 e1 p np⟩
    | some r =>
      obtain ⟨d, t⟩ := r
      obtain ⟨g1, g2, g3⟩ := lr_sound _ _ _ _ e
      have gdep := lr_dep _ _ _ _ e
      have gcnt := okB_cnt _ d (Nat.le_refl _) g2
      have gstr := okB_str _ d (Nat.le_refl _) g2
      have hlen := congrArg List.length g1
      rw [List.length_append, ← TL.len_tl] at hlen
      intro p u H1 e1 hp hd
      refine ⟨_, rfl, rfl, _, rfl, if_f rfl ?_⟩
      refine ⟨_, rfl, p, _, _, .str (S t), rfl, rfl, SqTo hp, rfl, rfl, _, rfl, if_b (fun h1 => ?_) (fun h1 => ?_)⟩
      · have h1 : t ≠ [] := fun z => by
          have h1 : decide (V.str (S t) = V.str ("" : Str)) = false := by simpa using h1
          exact of_decide_eq_false h1 (by rw [z]; decide +kernel)
        have hl : LR (tl x) = none := by
          unfold LR
          rw [e]
          cases t with
          | nil => exact (h1 rfl).elim
          | cons a r => rfl
        exact if_t rfl ⟨_, rfl, _, _, rfl, by unfold Dt; rfl, hrp.s, hrp.size, hrp.p, szl (by show 2 ≤ 100000; decide), fun p np => bad hl H1 e1 p np⟩
      · have h1 : t = [] := by
          have h1 : decide (V.str (S t) = V.str ("" : Str)) = true := by simpa using h1
          have q := congrArg tl (V.str.inj (of_decide_eq_true h1))
          have q2 : tl (S t) = t := rfl
          rw [q2] at q
          rw [q]
          decide +kernel
        subst h1
        refine ⟨_, rfl, p, _, _, u, rfl, rfl, SqTo hp, rfl, szl (by decide), fun p2 np2 => ?_⟩
        have x2 : Ex H1 (upd H1 p2 (.tup [])) := Ex.new np2
        refine ⟨u, d, p2, [], rfl, .inl upd_same, (hd.ex fr_sub).ex x2, gstr, by omega, by omega, by show 0 + _ ≤ _; omega, fun q H3 ts x3 hq hts => ?_⟩
        have x13 := x2.trans x3
        have hl : LR (tl x) = if cnt d ≤ 60 then some d else none := by
          unfold LR
          rw [e]
        refine ⟨.ref q, ts.length, rfl, .inl ⟨ts, SqLo hq, rfl⟩, _, _, rfl, rfl, _, rfl, if_b (fun h2 => ?_) (fun h2 => ?_)⟩
        · have h2 : ¬ cnt d ≤ 60 := by
            have := of_decide_eq_true h2
            omega
          rw [if_neg h2] at hl
          exact ⟨_, rfl, _, _, rfl, by unfold Dt; rfl, hrp.s, hrp.size, hrp.p, szl (by show 2 ≤ 100000; decide), fun p np => bad hl H3 (e1.trans x13) p np⟩
        · have h2 : cnt d ≤ 60 := by
            have := of_decide_eq_false h2
            omega
          rw [if_pos h2] at hl
          refine ⟨_, rfl, p, _, _, u, rfl, rfl, SqTo (x13 _ _ hp), rfl, szl (by show 2 ≤ 100000; decide), fun p5 np5 => ?_⟩
          exact k1 d hl p5 u _ (e1.trans (x13.trans (Ex.new np5))) upd_same ((hd.ex fr_sub).ex (x13.trans (Ex.new np5)))
end
end WT

namespace LW
open PySem PySem.Spec L2
section
variable {X : Cx} {k j : Nat} {x : Str} {sp : Sp} {p pos : Pos} {e : Expr} {es : List Expr} {t : TA}
theorem pe_kL (c : Cal X.prog X.w X.K X.mg X.base (L2.CX X.prog X.w) k x sp) (hr : Room j X.A) (hk : k ≤ j) (hg : Gl X x) (ha : PA X (e :: es) t)
    (hdb : (x == ("__debug__" : Str)) = false := by decide) (he : starEach (e :: es) X.env = (false, eval e X.env) :: starEach es X.env := by rfl) (hpl : (backTo pos (starEach es X.env)).any (·.1) = false := by rfl) :
    PE X (.Call (.Name x p) (e :: es) [] pos) (tCall sp [] E0 t) := by
  obtain ⟨f, fd, ps, F, hm, kp, b⟩ := c.ex
  exact pe_call F (hr.mono hk) hg hm kp b .nil passL ha hdb he hpl
end
end LW
namespace WT
open PySem PySem.Spec L2 LW VL
open Evl (Ex)
open SX (S S_tl S_inj S_len S_cat)
open TL (tl numL joinL)
/-! ### a value and the same with its names in order are equal -/
theorem same_L {G H : Hp} {n : Nat} : ∀ {ds : List PyData} {xs ys : List V}, (∀ e ∈ ds, ∀ x y, Dt G (norm e) x → Dt H e y → SameV G H n x y) → DtL G (ds.map norm) xs → DtL H ds ys → Paired (SameV G H n) xs ys
  | [], _, _, _, h, g => by
    unfold DtL at g
    rw [List.map_nil] at h
    unfold DtL at h
    subst h g
    exact .nil
  | d :: r, _, _, hn, h, g => by
    rw [List.map_cons] at h
    unfold DtL at h g
    obtain ⟨v, t, rfl, h1, h2⟩ := h
    obtain ⟨v', t', rfl, g1, g2⟩ := g
    exact .cons (hn d List.mem_cons_self v v' h1 g1) (same_L (fun e he => hn e (List.mem_cons_of_mem _ he)) h2 g2)
theorem same_K {G : Hp} {g : Str → PyData} : ∀ {l : List Str} {es : List (Key × V)}, DtK G (l.map fun y => (PyData.str y, g y)) es → es.length = l.length ∧ ∀ p ∈ es, ∃ y ∈ l, p.1 = Sum.inr y ∧ Dt G (g y) p.2
  | [], _, h => by
    rw [List.map_nil] at h
    unfold DtK at h
    subst h
    exact ⟨rfl, nofun⟩
  | y :: l, _, h => by
    rw [List.map_cons] at h
    unfold DtK at h
    obtain ⟨x, v, t, rfl, hk, h1, h2⟩ := h
    obtain ⟨q1, q2⟩ := same_K h2
    have ex : x = Sum.inr y := by
      cases x with
      | inl i => cases hk
      | inr z => cases hk; rfl
    refine ⟨by rw [List.length_cons, List.length_cons, q1], fun p hp => ?_⟩
    rcases List.mem_cons.mp hp with rfl | hp
    · exact ⟨y, List.mem_cons_self, ex, h1⟩
    · obtain ⟨z, hz, e⟩ := q2 p hp
      exact ⟨z, List.mem_cons_of_mem _ hz, e⟩
theorem same_norm {G H : Hp} : ∀ (n : Nat) (d : PyData) (x y : V), cnt d ≤ n → okA d = true → nodA d → Dt G (norm d) x → Dt H d y → SameV G H n x y
  | 0, d, _, _, h, _, _, _, _ => by have := cnt_pos d; omega
  | n + 1, d, x, y, h, ho, hn, hx, hy => by
    cases d with
    | int i =>
      rw [norm_int] at hx
      unfold Dt at hx hy
      exact .inl ⟨by rw [hx, hy], by rw [hx]; rfl⟩
    | str i =>
      rw [norm_str] at hx
      unfold Dt at hx hy
      exact .inl ⟨by rw [hx, hy], by rw [hx]; rfl⟩
    | list ds =>
      obtain ⟨_, hoL⟩ := okA_list ho
      rw [cnt] at h
      rw [norm_list] at hx
      unfold Dt at hx hy
      unfold nodA at hn
      obtain ⟨a, xs, rfl, ha, hl⟩ := hx
      obtain ⟨b, ys, rfl, hb, gl⟩ := hy
      exact .inr (.inl ⟨a, b, xs, ys, rfl, rfl, ha, hb, same_L (fun e he x y h1 h2 => same_norm n e x y (by have := cntL_mem he; omega) (hoL e he) (nodAL_mem.mp hn e he) h1 h2) hl gl⟩)
    | dict kvs =>
      obtain ⟨_, hfl, hok⟩ := okA_dict ho
      rw [cnt] at h
      have ha := allStr_okA hfl
      rw [norm_dict] at hx
      unfold nodA at hn
      obtain ⟨p, s⟩ := srt_spec (names kvs)
      have hal : AllStr ((srt (names kvs)).map fun y => (PyData.str y, norm (getN kvs y))) := fun q hq => by
        obtain ⟨z, _, rfl⟩ := List.mem_map.mp hq
        rfl
      obtain ⟨a, es, rfl, hae, nd, hk⟩ := dict_val hx hal
      obtain ⟨b, fs, rfl, hbf, nd', gk⟩ := dict_val hy ha
      obtain ⟨q1, q2⟩ := same_K hk
      refine .inr (.inr ⟨a, b, es, fs, rfl, rfl, hae, hbf, ?_, fun r hr => ?_⟩)
      · rw [q1, DtK.len gk, p.length_eq]
        unfold names
        rw [List.length_map]
      · obtain ⟨z, hz, e1, e2⟩ := q2 r hr
        have hzm := p.mem_iff.mp hz
        obtain ⟨u, hu1, hu2⟩ := dtk_get gk ha z hzm
        obtain ⟨m, hm, _, e3⟩ := getN_mem hzm
        refine ⟨u, by rw [e1]; exact hu1, ?_⟩
        rw [e3] at e2 hu2
        exact same_norm n m.2 r.2 u (by have := cntK_mem hm; omega) (okKm hok m hm) (nodAK_mem.mp hn.2 m hm) e2 hu2
    | none => cases ho
    | bool b => cases ho
    | tuple b => cases ho
section
variable {P : Program} {w : World} {K : PySem.W.Frag} {mg : Str → Option Value} {base : Heap} {C CI CC CP : Addr}
/-! ### _law_bent -/
def Zok (x z : Str) : Prop := z.length ≤ x.length + 9 ∧ (asc x → asc z)
theorem asc_app {x y : Str} (hx : asc x) (hy : asc y) : asc (x ++ y) := fun c hc => by
  rw [TL.tl_append] at hc
  rcases List.mem_append.mp hc with hc | hc
  · exact hx c hc
  · exact hy c hc
theorem asc_take {x : Str} {n : Nat} (h : asc x) : asc (S ((tl x).take n)) := fun c hc => h c (List.mem_of_mem_take hc)
theorem asc_drop {x : Str} {n : Nat} (h : asc x) : asc (S ((tl x).drop n)) := fun c hc => h c (List.mem_of_mem_drop hc)
def spBent : Sp := fun vs H Q _ => ∃ (p : Addr) (x : Str), vs = [.ref p, .str x] ∧ Pool H p ∧ x.length ≤ 5000 ∧ ∀ z H', Ex H H' → Zok x z → Q (.str z) H'
theorem sc__law_bent : FnScope ["_law_pool", "_law_text", "_law_spot", "_law_signs", "_law_sign", "_law_end_here", "_law_some"] ["_law_pool", "_law_text"] (defScope s__law_bent) := ⟨rfl, rfl, rfl, by decide +kernel, rfl, by decide +kernel, by decide +kernel⟩
theorem bi__law_bent : BindsEq "_law_bent" s__law_bent ["_law_pool", "_law_text"] := fun _ _ _ _ _ _ us hl => match us, hl with | [_, _], _ => rfl
theorem ok_bent (F : Df K mg "_law_bent" s__law_bent) (T : Txt K mg) (C__law_draw : Cal P w K mg base CX0 1 "_law_draw" spDraw) : Cal P w K mg base CX0 2 "_law_bent" spBent := by
  refine cal0 F sc__law_bent bi__law_bent (fun vs H Q E h => ?_) (fun f cdv A outer s H vs Q E hr h => ?_)
  · obtain ⟨p, x, rfl, _⟩ := h
    rfl
  · obtain ⟨p, x, rfl, hp, hx, k⟩ := h
    refine ⟨_, (pss_cons (ps_set (i := 2) sc__law_bent.nd rfl (Or.inl rfl) (pe_k C__law_draw hr (by decide) rfl (pa_cons (pv 0) (pa_cons (pe_op op_add (pe_callB (lnK K) rfl T.b_len (by decide +kernel) (pa_cons (pv 1) pa_nil)) pe_int) pa_nil))))
 (pss_cons (ps_set (i := 3) sc__law_bent.nd rfl (Or.inl rfl) pe_str)
 (pss_cons (ps_set (i := 4) sc__law_bent.nd rfl (Or.inl rfl) (pe_ix ix_str (pv 3) (pe_k C__law_draw hr (by decide) rfl (pa_cons (pv 0) (pa_cons (pe_callB (lnK K) rfl T.b_len (by decide +kernel) (pa_cons (pv 3) pa_nil)) pa_nil))) (fun _ _ => rfl)))
 (pss_cons (ps_set (i := 5) sc__law_bent.nd rfl (Or.inl rfl) (pe_op op_add (pv 2) (pe_k C__law_draw hr (by decide) rfl (pa_cons (pv 0) (pa_cons pe_int pa_nil)))))
 (pss_cons (ps_set (i := 6) sc__law_bent.nd rfl (Or.inl rfl) (pe_lst (pa_cons (pe_op op_add_str (pe_op op_add_str (pe_slice sl_str (pv 1) po_none (po_some (pv 2))) (pv 4)) (pe_slice sl_str (pv 1) (po_some (pe_op op_add (pv 2) pe_int)) po_none)) (pa_cons (pe_op op_add_str (pe_op op_add_str (pe_slice sl_str (pv 1) po_none (po_some (pv 2))) (pv 4)) (pe_slice sl_str (pv 1) (po_some (pv 2)) po_none)) (pa_cons (pe_op op_add_str (pe_slice sl_str (pv 1) po_none (po_some (pv 2))) (pe_slice sl_str (pv 1) (po_some (pe_op op_add (pv 2) pe_int)) po_none)) pa_nil)))))
 (pss_one (ps_ret (pe_ix (ixl K) (pe_op op_cat (pv 6) (pe_lst (pa_cons (pe_op op_add_str (pe_slice sl_str (pv 1) po_none (po_some (pv 5))) (pe_slice sl_str (pv 1) (po_some (pv 2)) po_none)) (pa_cons (pe_op op_add_str (pv 1) (pv 4)) (pa_cons (pe_op op_add_str (pe_op op_add_str pe_str (pv 1)) pe_str) pa_nil))))) (pe_k C__law_draw hr (by decide) rfl (pa_cons (pv 0) (pa_cons pe_int pa_nil))) (fun _ _ => rfl))))))))), ?_⟩
    have hxl := TL.len_tl x
    refine ⟨_, rfl, _, rfl, .str x, x.length, rfl, ⟨szl (by omega), rfl⟩, _, _, rfl, rfl, p, _, rfl, hp, by omega, by omega, fun sp s0 s1 => ?_⟩
    obtain ⟨i, rfl⟩ : ∃ i : Nat, sp = (i : Int) := ⟨sp.toNat, by omega⟩
    refine ⟨_, rfl, _, rfl, _, rfl, .str "aA0-19.,: []{}\"\n", 16, rfl, ⟨by decide +kernel, by decide +kernel⟩, p, _, rfl, hp, by decide, by decide, fun v v0 v1 => ?_⟩
    have hs16 : ("aA0-19.,: []{}\"\n" : Str).cps.toList.length = 16 := by decide +kernel
    obtain ⟨c, hc1, hc2, _⟩ := at_some (xs := ("aA0-19.,: []{}\"\n" : Str).cps.toList) (v := v) v0 (by rw [hs16]; exact v1)
    have hc128 : c < 128 := by
      have q : ("aA0-19.,: []{}\"\n" : Str).cps.toList.all (fun c => decide (c < 128)) = true := by decide +kernel
      exact of_decide_eq_true (List.all_eq_true.mp q c hc2)
    refine ⟨_, _, c, rfl, rfl, by decide +kernel, hc1, ?_⟩
    refine ⟨_, rfl, _, rfl, p, 8, rfl, hp, by decide, by decide, fun u u0 u1 => ⟨_, _, rfl, rfl, ?_⟩⟩
    obtain ⟨j, rfl⟩ : ∃ j : Nat, u = (j : Int) := ⟨u.toNat, by omega⟩
    have ei : ((i : Int) + 1) = ((i + 1 : Nat) : Int) := by omega
    have eij : ((i : Int) + (j : Int)) = ((i + j : Nat) : Int) := by omega
    have lt : ∀ n, (S ((tl x).take n)).length ≤ x.length := fun n => by rw [S_len, List.length_take, hxl]; exact Nat.min_le_right _ _
    have ld : ∀ n, (S ((tl x).drop n)).length ≤ x.length := fun n => by rw [S_len, List.length_drop, hxl]; omega
    have l1 : (⟨#[c]⟩ : Str).length = 1 := rfl
    have la : ∀ y z : Str, (y ++ z).length = y.length + z.length := fun y z => by rw [TL.len_tl, TL.tl_append, List.length_append, ← TL.len_tl, ← TL.len_tl]
    have a1 : asc (⟨#[c]⟩ : Str) := fun d hd => by
      have : d = c := by simpa [tl] using hd
      omega
    dsimp only
    rw [eij]
    -- text[:spot] + sign + text[spot + 1:]
    refine ⟨_, rfl, _, rfl, _, rfl, x, rfl, szl (by omega), ?_⟩
    rw [cut_to]
    have t1 := lt i
    refine ⟨_, rfl, _, _, rfl, rfl, szl (by omega), _, rfl, _, rfl, _, _, rfl, rfl, _, rfl, x, rfl, szl (by omega), ?_⟩
    dsimp only
    rw [ei, cut_from]
    have t2 := ld (i + 1)
    refine ⟨_, _, rfl, rfl, szl (by rw [la]; omega), ?_⟩
    -- text[:spot] + sign + text[spot:]
    refine ⟨_, rfl, _, rfl, _, rfl, x, rfl, szl (by omega), ?_⟩
    rw [cut_to]
    refine ⟨_, rfl, _, _, rfl, rfl, szl (by omega), _, rfl, _, rfl, _, rfl, x, rfl, szl (by omega), ?_⟩
    rw [cut_from]
    have t3 := ld i
    refine ⟨_, _, rfl, rfl, szl (by rw [la]; omega), ?_⟩
    -- text[:spot] + text[spot + 1:]
    refine ⟨_, rfl, _, rfl, _, rfl, x, rfl, szl (by omega), ?_⟩
    rw [cut_to]
    refine ⟨_, rfl, _, rfl, _, _, rfl, rfl, _, rfl, x, rfl, szl (by omega), ?_⟩
    dsimp only
    rw [ei, cut_from]
    refine ⟨_, _, rfl, rfl, szl (by omega), szl (by show 3 ≤ 100000; decide), fun q nq => ?_⟩
    obtain ⟨H1, hH1, x1, hq⟩ := newH _ nq
    rw [hH1]
    clear hH1
    -- the others
    refine ⟨_, rfl, _, rfl, _, rfl, _, rfl, x, rfl, szl (by omega), ?_⟩
    rw [cut_to]
    have t4 := lt (i + j)
    refine ⟨_, rfl, _, rfl, _, rfl, x, rfl, szl (by omega), ?_⟩
    rw [cut_from]
    refine ⟨_, _, rfl, rfl, szl (by omega), ?_⟩
    refine ⟨_, rfl, _, rfl, _, _, rfl, rfl, szl (by omega), ?_⟩
    refine ⟨_, rfl, _, _, rfl, rfl, szl (by show 1 + x.length ≤ _; omega), _, _, rfl, rfl, szl (by rw [la]; show 1 + x.length + 1 ≤ _; omega), szl (by show 3 ≤ 100000; decide), fun q2 nq2 => ?_⟩
    obtain ⟨H2, hH2, x2, hq2⟩ := newH _ nq2
    rw [hH2]
    clear hH2
    refine ⟨q, q2, _, _, rfl, rfl, x2 _ _ hq, hq2, szl (by show 6 ≤ 100000; decide), fun q3 nq3 => ?_⟩
    obtain ⟨H3, hH3, x3, hq3⟩ := newH _ nq3
    rw [hH3]
    clear hH3
    have x03 := x1.trans (x2.trans x3)
    refine ⟨_, rfl, p, 6, rfl, hp.ex x03, by decide, by decide, fun y y0 y1 => ?_⟩
    obtain ⟨z, hz1, hz2, _⟩ := at_some (v := y) (xs := [V.str (S ((tl x).take i) ++ (⟨#[c]⟩ : Str) ++ S ((tl x).drop (i + 1))), V.str (S ((tl x).take i) ++ (⟨#[c]⟩ : Str) ++ S ((tl x).drop i)), V.str (S ((tl x).take i) ++ S ((tl x).drop (i + 1)))] ++ [V.str (S ((tl x).take (i + j)) ++ S ((tl x).drop i)), V.str (x ++ (⟨#[c]⟩ : Str)), V.str (("[" : Str) ++ x ++ ("]" : Str))]) y0 y1
    have hz : ∃ s : Str, z = .str s ∧ Zok x s := by
      simp only [List.mem_append, List.mem_cons, List.not_mem_nil, or_false] at hz2
      have aB : asc ("[" : Str) := fun d hd => by
        have e : tl ("[" : Str) = [91] := by decide +kernel
        rw [e] at hd
        have := List.mem_singleton.mp hd
        omega
      have aE : asc ("]" : Str) := fun d hd => by
        have e : tl ("]" : Str) = [93] := by decide +kernel
        rw [e] at hd
        have := List.mem_singleton.mp hd
        omega
      have e1 : (S ((tl x).take i)).length + (S ((tl x).drop i)).length ≤ x.length := by
        rw [S_len, S_len, List.length_take, List.length_drop, hxl]
        have := Nat.min_le_left i (tl x).length
        have := Nat.min_le_right i (tl x).length
        omega
      have e2 : (S ((tl x).drop (i + 1))).length ≤ (S ((tl x).drop i)).length := by
        rw [S_len, S_len, List.length_drop, List.length_drop]
        omega
      have e3 : (S ((tl x).take (i + j))).length + (S ((tl x).drop i)).length ≤ x.length + 7 := by
        rw [S_len, S_len, List.length_take, List.length_drop, hxl]
        have := Nat.min_le_left (i + j) (tl x).length
        have := Nat.min_le_right (i + j) (tl x).length
        omega
      have eb : ("[" : Str).length = 1 := rfl
      have ee : ("]" : Str).length = 1 := rfl
      rcases hz2 with (rfl | rfl | rfl) | rfl | rfl | rfl
      · exact ⟨_, rfl, by rw [la, la]; omega, fun h => asc_app (asc_app (asc_take h) a1) (asc_drop h)⟩
      · exact ⟨_, rfl, by rw [la, la]; omega, fun h => asc_app (asc_app (asc_take h) a1) (asc_drop h)⟩
      · exact ⟨_, rfl, by rw [la]; omega, fun h => asc_app (asc_take h) (asc_drop h)⟩
      · exact ⟨_, rfl, by rw [la]; omega, fun h => asc_app (asc_take h) (asc_drop h)⟩
      · exact ⟨_, rfl, by rw [la]; omega, fun h => asc_app h a1⟩
      · exact ⟨_, rfl, by rw [la, la]; omega, fun h => asc_app (asc_app aB h) aE⟩
    obtain ⟨zs, rfl, hzo⟩ := hz
    exact ⟨q3, _, _, _, rfl, rfl, SqLo hq3, hz1, k zs H3 x03 hzo⟩
end
end WT

namespace LW
open PySem PySem.Spec L2
/-! ### a call of what an expression gives: one of several defs, the promise by the address -/
structure HeldX (P : Program) (w : World) (K : PySem.W.Frag) (mg : Str → Option Value) (base : Heap) (CX : CXT) (k : Nat) (f : Addr) (sp : Sp) : Prop where
  ex : ∃ (fd : FuncData) (ps : List Str), FnOk P w K mg base CX k f fd ps sp ∧ PySem.W.keepIn K (.ref f) = true ∧ Binds K fd ps []
def tCallAtS (S : Addr → Sp → Prop) (E : L2.St → XK) (te : TE) (t : TA) : TE := fun σ H Q => te σ H fun x H1 => ∃ f sp, x = .ref f ∧ S f sp ∧ t σ H1 fun vs H2 => sp vs H2 Q (E σ)
theorem pe_callAtS {X : Cx} {CX : CXT} {k j : Nat} {S : Addr → Sp → Prop} {E : L2.St → XK} {o i e : Expr} {es : List Expr} {te : TE} {t : TA} {sp pos : Pos} (A : ∀ f s, S f s → HeldX X.prog X.w X.K X.mg X.base CX k f s) (hr : Room j X.A) (hk : k ≤ j) (hx : ∀ σ, PassesAt CX X σ (E σ))
    (he : PE X (.Subscript o i sp) te) (ha : PA X (e :: es) t) (hst : starEach (e :: es) X.env = (false, eval e X.env) :: starEach es X.env := by rfl) (hpl : (backTo pos (starEach es X.env)).any (·.1) = false := by rfl) :
    PE X (.Call (.Subscript o i sp) (e :: es) [] pos) (tCallAtS S E te t) := by
  constructor
  intro pins s σ H Q I h
  have arm : eval (.Call (.Subscript o i sp) (e :: es) [] pos) X.env = (do callWith pos (← eval (.Subscript o i sp) X.env) [] (backTo pos (starEach (e :: es) X.env)) (backToKw pos (keywordEach [] X.env))) := rfl
  rw [arm]
  refine wpAny_bind (thn (he.run pins s σ H _ I h) fun u s1 hh => ?_)
  obtain ⟨x, H1, I1, rx, f, sp, ex, hS, ht⟩ := hh
  subst ex
  obtain rfl : u = Value.ref f := rx
  obtain ⟨fd, ps, F, kp, b⟩ := (A f sp hS).ex
  refine PySem.W.callWith_K (h₀ := X.base) I1.ok.mod.kin kp (thn (ha.run pos pins s1 σ H1 _ I1 ht) fun us s2 ⟨vs, H2, I2, r, q⟩ => ⟨I2.kIn, ?_⟩) hst hpl
  exact run_fnS F (hr.mono hk) b (hx σ) I2 r q
/-- f(e, ..), what is raised passing as E -/
theorem pe_kPb {X : Cx} {k j : Nat} {x : Str} {sp : Sp} {E : XK} {e : Expr} {es : List Expr} {t : TA} {p pos : Pos} (c : Cal X.prog X.w X.K X.mg X.base (L2.CX X.prog X.w) k x sp) (hr : Room j X.A) (hk : k ≤ j) (hx : Passes (L2.CX X.prog X.w) X E) (hg : Gl X x) (ha : PA X (e :: es) t)
    (hdb : (x == ("__debug__" : Str)) = false := by decide) (he : starEach (e :: es) X.env = (false, eval e X.env) :: starEach es X.env := by rfl) (hpl : (backTo pos (starEach es X.env)).any (·.1) = false := by rfl) :
    PE X (.Call (.Name x p) (e :: es) [] pos) (tCall sp [] E t) := by
  obtain ⟨f, fd, ps, F, hm, kp, b⟩ := c.ex
  exact pe_call F (hr.mono hk) hg hm kp b .nil hx ha hdb he hpl
end LW

namespace WT
open PySem PySem.Spec L2 LW VL
open Evl (Ex)
open SX (S S_tl S_inj S_len S_cat)
open TL (tl numL joinL)
section
variable {P : Program} {w : World} {K : PySem.W.Frag} {mg : Str → Option Value} {base : Heap} {C CI CC CP : Addr}
/-! ### what is asked -/
structure TxQ (K : PySem.W.Frag) (mg : Str → Option Value) (CC CI CP : Addr) : Prop where
  gC : mg "CheckError" = some (.ref CC)
  gI : mg "InvalidValue" = some (.ref CI)
  gP : mg "InvalidPlace" = some (.ref CP)
  xd : ExcD K CI
  no : PySem.W.findIn K (.ref CI) "value" = some none
  ee : PySem.W.exmOne K (.ref CI) (.ref CC) = some true
  kI : PySem.W.kitOne K (.ref CI) (.ref CI) = some true
  kP : PySem.W.kitOne K (.ref CI) (.ref CP) = some false
def QT (Q : VK) : VK := fun x H1 => ∀ t H2, H1 t = none → Ex H1 H2 → H2 t = some (.tup [.str "told", x]) → Q (.ref t) H2
def EV (CI : Addr) (d : PyData) (v : V) (Q : VK) : XK := fun cls dO H1 => cls = .ref CI ∧ ∃ dd, dO = some dd ∧ H1 dd = some (.xd [("value", v)]) ∧ Dt H1 d v ∧ ∀ t H2, Ex H1 H2 → H2 t = some (.tup [.str "value", .str d.shown]) → Q (.ref t) H2
def prA (CI : Addr) : Nat → Sp
  | 0 => spShown CI
  | _ => spReadV CI
def spAskV (CI : Addr) : Sp := fun vs H Q _ => ∃ (j : Nat) (v : V) (d : PyData), vs = [.int j, v] ∧ j < 2 ∧ RpD d ∧ ∀ H0, Ex H H0 → prA CI j [v] H0 (QT Q) (EV CI d v Q)
theorem prA_mono {j : Nat} {vs : List V} {H : Hp} {Q Q' : VK} {E E' : XK} (hQ : ∀ v H', Q v H' → Q' v H') (hE : ∀ c d H', E c d H' → E' c d H') (h : prA CI j vs H Q E) : prA CI j vs H Q' E' := by
  match j, h with
  | 0, h =>
    obtain ⟨v, d, rfl, h1, h2, h3, h4⟩ := h
    exact ⟨v, d, rfl, h1, h2, fun hv H' e => hQ _ _ (h3 hv H' e), fun hv dd H' e hd => hE _ _ _ (h4 hv dd H' e hd)⟩
  | n + 1, h =>
    obtain ⟨v, d, rfl, h1, h2, h3, h4⟩ := h
    exact ⟨v, d, rfl, h1, h2, fun e he u H' x hd => hQ _ _ (h3 e he u H' x hd), fun hv dd H' e hd => hE _ _ _ (h4 hv dd H' e hd)⟩
def tIsE (K : PySem.W.Frag) (C : Addr) (a : Addr) (cls : Value) (d : Option Addr) : TE := tCB (rIsX K cls d a) (tCons (tVar 2) (tCons (tC (.ref C)) tNil))
def tSuiteA (K : PySem.W.Frag) (CI CP : Addr) : Addr → Value → Option Addr → TS := fun a cls d =>
  tRet (tTup (tCons (tC (.str "value")) (tCons (tAndV (tIsE K CI a cls d) (tAndV (tNotV (tIsE K CP a cls d)) (tCB rRep (tCons (tXg K a cls d "value" (tVar 2)) tNil)))) tNil)))
def tTryA (K : PySem.W.Frag) (f0 f1 : Addr) (S : Addr → Sp → Prop) (W : WX) : TS :=
  tRet (tTup (tCons (tC (.str "told")) (tCons (tCallAtS S (WE W) (tOp (rIxL K) (tLst (tCons (tC (.ref f0)) (tCons (tC (.ref f1)) tNil))) (tVar 0)) (tCons (tVar 1) tNil)) tNil)))
theorem sc__law_asked : FnScope ["_law_door", "_law_thing", "e"] ["_law_door", "_law_thing"] (defScope s__law_asked) := ⟨rfl, rfl, rfl, by decide +kernel, rfl, by decide +kernel, by decide +kernel⟩
theorem bi__law_asked : BindsEq "_law_asked" s__law_asked ["_law_door", "_law_thing"] := fun _ _ _ _ _ _ us hl => match us, hl with | [_, _], _ => rfl
theorem ok_askV (F : Df K mg "_law_asked" s__law_asked) (T : Txt K mg) (Te : TxQ K mg CC CI CP) (sy : ∃ mm, base.Ns sysModules mm) (C0 : Cal P w K mg base (L2.CX P w) 63 "shown_value" (spShown CI)) (C1 : Cal P w K mg base (L2.CX P w) 126 "read_value" (spReadV CI)) : CalG P w K mg base CX0 127 "_law_asked" (spAskV CI) := by
  obtain ⟨f0, fd0, ps0, F0, g0, kp0, b0⟩ := C0.ex
  obtain ⟨f1, fd1, ps1, F1, g1, kp1, b1⟩ := C1.ex
  have A0 : HeldX P w K mg base (L2.CX P w) 126 f0 (prA CI 0) := ⟨fd0, ps0, F0.mono (by decide), kp0, b0⟩
  have A1 : HeldX P w K mg base (L2.CX P w) 126 f1 (prA CI 1) := ⟨fd1, ps1, F1, kp1, b1⟩
  refine calG F sc__law_asked bi__law_asked (fun vs H Q E h => ?_) (fun f cdv A outer s H vs Q E gd hr h => ?_)
  · obtain ⟨j, v, d, rfl, _⟩ := h
    rfl
  · obtain ⟨j, v, d, rfl, hj, hrp, h⟩ := h
    have un := hr.un
    have un2 : (A.deeper (PyProof.Rows.envOfC "_law_asked" (defScope s__law_asked) s.heap.objs.size f cdv)).units + 180 < cLine := by omega
    have hS : ∀ f s, ((f = f0 ∧ s = prA CI 0) ∨ (f = f1 ∧ s = prA CI 1)) → HeldX P w K mg base (L2.CX P w) 126 f s := by
      rintro f s (⟨rfl, rfl⟩ | ⟨rfl, rfl⟩)
      · exact A0
      · exact A1
    refine ⟨_, PSs.nox (pss_one (ps_try_as (i := 2) (tb := tTryA K f0 f1 (fun f s => (f = f0 ∧ s = prA CI 0) ∨ (f = f1 ∧ s = prA CI 1))) (ts := tSuiteA K CI CP) (Wout := fun _ _ _ _ => False) rfl rfl sc__law_asked.nd rfl rfl ⟨rfl, by decide, Or.inl Te.gC⟩ takes0
        (fun W pn xe tk _ => pss_one (ps_ret (pe_tup (pa_cons pe_str (pa_cons (pe_callAtS hS hr (by decide) (fun σ => passAt tk σ) (pe_ix (ixl K) (pe_lst (pa_cons (pe_glob rfl g0 rfl) (pa_cons (pe_glob rfl g1 rfl) pa_nil))) (pv 0) (fun _ _ => rfl)) (pa_cons (pv 1) pa_nil)) pa_nil)))))
        (fun a oe cls dd pn hz hf => pss_one (ps_ret (pe_tup (pa_cons pe_str (pa_cons (pe_and (pe_callB (call_isX hz hf) rfl T.b_isinstance (by decide +kernel) (pa_cons (pv 2) (pa_cons (pe_glob rfl Te.gI rfl) pa_nil)))
          (pe_and (pe_not (pe_callB (call_isX hz hf) rfl T.b_isinstance (by decide +kernel) (pa_cons (pv 2) (pa_cons (pe_glob rfl Te.gP rfl) pa_nil))))
            (pe_one (pe_callB (call_repr ⟨gd, sy, un2⟩) rfl T.b_repr (by decide +kernel) (pa_cons (pe_xg hz hf (pv 2)) pa_nil))))) pa_nil))))))), ?_⟩
    refine ⟨szl (by show 2 ≤ 100000; decide), fun q nq => ?_⟩
    obtain ⟨H0, hH0, x0, hq⟩ := newH _ nq
    rw [hH0]
    clear hH0
    have suite : ∀ (a : Addr) (dO : Option Addr) (H1 : Hp) (σ' : L2.St) (D : Ends), σ'[2]? = some (some (.ref a)) → EV CI d v Q (.ref CI) dO H1 → (∀ t H2, Q (.ref t) H2 → D.rt (.ref t) H2) → tSuiteA K CI CP a (.ref CI) dO D σ' H1 := by
      rintro a dO H1 σ' D hσ ⟨_, dd, rfl, hdd, hdv, kk⟩ hD
      have hx : ∀ d', some dd = some d' → ∃ fs, H1 d' = some (.xd fs) := fun d' e => by cases e; exact ⟨_, hdd⟩
      refine ⟨_, hσ, CI, _, _, _, rfl, rfl, Te.xd, hx, .own CI, Te.kI, _, rfl, if_t rfl ?_⟩
      refine ⟨_, hσ, CI, _, _, _, rfl, rfl, Te.xd, hx, .own CP, Te.kP, _, rfl, _, rfl, if_t rfl ?_⟩
      refine ⟨_, hσ, rfl, CI, dd, _, _, rfl, Te.xd.xf, Te.no, rfl, hdd, rfl, v, d, rfl, hdv, hrp.s, hrp.size, hrp.p, szl (by show 2 ≤ 100000; decide), fun t nt => ?_⟩
      exact hD t _ (kk t _ (Ex.new nt) upd_same)
    have told : ∀ v' H', QT Q v' H' → [V.str "told", v'].length ≤ sizeLine ∧ ∀ p, H' p = none → Q (.ref p) (upd H' p (.tup [V.str "told", v'])) := fun v' H' hq => ⟨szl (by show 2 ≤ 100000; decide), fun t nt => hq t _ nt (Ex.new nt) upd_same⟩
    have hh := h H0 x0
    obtain h0 | h0 : j = 0 ∨ j = 1 := by omega
    · subst h0
      refine ⟨_, rfl, q, _, _, .ref f0, rfl, rfl, SqLo hq, rfl, f0, prA CI 0, rfl, .inl ⟨rfl, rfl⟩, _, rfl, ?_⟩
      refine prA_mono told (fun c d H' he => ?_) hh
      obtain rfl := he.1
      exact ⟨true, Te.ee, fun _ a ha => suite a d H' _ _ rfl he (fun _ _ z => z), fun q => Bool.noConfusion q⟩
    · subst h0
      refine ⟨_, rfl, q, _, _, .ref f1, rfl, rfl, SqLo hq, rfl, f1, prA CI 1, rfl, .inr ⟨rfl, rfl⟩, _, rfl, ?_⟩
      refine prA_mono told (fun c d H' he => ?_) hh
      obtain rfl := he.1
      exact ⟨true, Te.ee, fun _ a ha => suite a d H' _ _ rfl he (fun _ _ z => z), fun q => Bool.noConfusion q⟩
/-- asked to read -/
theorem ask_read {H : Hp} {Q : VK} {v : V} {d : PyData} (hd : Dt H d v) (hrp : RpD d) (hx : ∀ x, d = .str x → x.length ≤ 10000)
    (k1 : ∀ e, LRd d = some e → ∀ t u H', Ex H H' → H' t = some (.tup [.str "told", u]) → Dt H' e u → Q (.ref t) H')
    (k2 : LRd d = none → ∀ t H', Ex H H' → H' t = some (.tup [.str "value", .str d.shown]) → Q (.ref t) H') : ∀ E, spAskV CI [.int (1 : Nat), v] H Q E := fun E =>
  ⟨1, v, d, rfl, by decide, hrp, fun H0 e0 => ⟨v, d, rfl, hd.ex e0, hx, fun e he u H' x hu t H2 _ e2 ht => k1 e he t u H2 (e0.trans (x.trans e2)) ht (hu.ex e2),
    fun hn dd H' x hdd => ⟨rfl, dd, rfl, hdd, hd.ex (e0.trans x), fun t H2 e2 ht => k2 hn t H2 (e0.trans (x.trans e2)) ht⟩⟩⟩
/-- asked to show what is no value -/
theorem ask_bad {H : Hp} {Q : VK} {v : V} {d : PyData} (hd : Dt H d v) (hrp : RpD d) (hz : szA d) (hv : isV d = false)
    (k2 : ∀ t H', Ex H H' → H' t = some (.tup [.str "value", .str d.shown]) → Q (.ref t) H') : ∀ E, spAskV CI [.int (0 : Nat), v] H Q E := fun E =>
  ⟨0, v, d, rfl, by decide, hrp, fun H0 e0 => ⟨v, d, rfl, hd.ex e0, hz, (fun h => by rw [hv] at h; cases h),
    fun hn dd H' x hdd => ⟨rfl, dd, rfl, hdd, hd.ex (e0.trans x), fun t H2 e2 ht => k2 t H2 (e0.trans (x.trans e2)) ht⟩⟩⟩
end
end WT

namespace WT
open PySem PySem.Spec L2 LW VL
open Evl (Ex)
open SX (S S_tl S_inj S_len S_cat)
open TL (tl numL joinL)
theorem ex_room {H H1 H' : Hp} {ro : Addr} {o o' : HO} (h : H ro = none) (e1 : upd H ro o = H1) (e : Ex (upd H1 ro o') H') : Ex H H' := fun b x q => by
  have nb : b ≠ ro := fun z => by
    rw [z, h] at q
    cases q
  refine e b x ?_
  rw [upd_ne nb, ← e1, upd_ne nb]
  exact q
/-- signs that a written value has -/
theorem Wn_asc : ∀ (n : Nat) (d : PyData), cnt d ≤ n → okA d = true → ∀ c ∈ Wn d, c < 128
  | 0, d, h, _ => by have := cnt_pos d; omega
  | n + 1, d, h, ho => by
    cases d with
    | int i =>
      intro c hc
      rw [Wn] at hc
      have := (num_chars i).2 c hc
      omega
    | str x =>
      have hl : lets x 0 20 = true := ho
      intro c hc
      rw [Wn] at hc
      rcases List.mem_cons.mp hc with rfl | hc
      · decide
      · rcases List.mem_append.mp hc with hc | hc
        · have := low_chars hl c hc
          omega
        · cases List.mem_singleton.mp hc
          decide
    | list ds =>
      obtain ⟨_, hoL⟩ := okA_list ho
      rw [cnt] at h
      have hT : ∀ es : List PyData, (∀ e ∈ es, e ∈ ds) → ∀ c ∈ WnLT es, c < 128 := by
        intro es
        induction es with
        | nil =>
          intro _ c hc
          rw [WnLT] at hc
          cases List.mem_singleton.mp hc
          decide
        | cons e r ih =>
          intro hm c hc
          rw [WnLT] at hc
          rcases List.mem_cons.mp hc with rfl | hc
          · decide
          · rcases List.mem_cons.mp hc with rfl | hc
            · decide
            · rcases List.mem_append.mp hc with hc | hc
              · have he := hm e List.mem_cons_self
                exact Wn_asc n e (by have := cntL_mem he; omega) (hoL e he) c hc
              · exact ih (fun z hz => hm z (List.mem_cons_of_mem _ hz)) c hc
      intro c hc
      rw [Wn] at hc
      rcases List.mem_cons.mp hc with rfl | hc
      · decide
      · cases ds with
        | nil =>
          rw [WnL] at hc
          cases List.mem_singleton.mp hc
          decide
        | cons e r =>
          rw [WnL] at hc
          rcases List.mem_append.mp hc with hc | hc
          · have he : e ∈ e :: r := List.mem_cons_self
            exact Wn_asc n e (by have := cntL_mem he; omega) (hoL e he) c hc
          · exact hT r (fun z hz => List.mem_cons_of_mem _ hz) c hc
    | dict kvs =>
      obtain ⟨_, hfl, hok⟩ := okA_dict ho
      rw [cnt] at h
      have hN : ∀ p ∈ kvs, ∀ c ∈ tl (nm p.1), c < 128 := fun p hp c hc => by
        obtain ⟨x, _, _, e, hx, _⟩ := name_head (hfl p hp)
        rw [e] at hc
        have := low_chars hx c hc
        omega
      have hV : ∀ p ∈ kvs, ∀ c ∈ Wn p.2, c < 128 := fun p hp c hc => Wn_asc n p.2 (by have := cntK_mem hp; omega) (okKm hok p hp) c hc
      have hT : ∀ es : List (PyData × PyData), (∀ e ∈ es, e ∈ kvs) → ∀ c ∈ WnKT es, c < 128 := by
        intro es
        induction es with
        | nil =>
          intro _ c hc
          rw [WnKT] at hc
          cases List.mem_singleton.mp hc
          decide
        | cons e r ih =>
          obtain ⟨k, d⟩ := e
          intro hm c hc
          have he := hm (k, d) List.mem_cons_self
          rw [WnKT] at hc
          rcases List.mem_cons.mp hc with rfl | hc
          · decide
          · rcases List.mem_cons.mp hc with rfl | hc
            · decide
            · rcases List.mem_append.mp hc with hc | hc
              · exact hN _ he c hc
              · rcases List.mem_cons.mp hc with rfl | hc
                · decide
                · rcases List.mem_cons.mp hc with rfl | hc
                  · decide
                  · rcases List.mem_append.mp hc with hc | hc
                    · exact hV _ he c hc
                    · exact ih (fun z hz => hm z (List.mem_cons_of_mem _ hz)) c hc
      intro c hc
      rw [Wn] at hc
      rcases List.mem_cons.mp hc with rfl | hc
      · decide
      · cases kvs with
        | nil =>
          rw [WnK] at hc
          cases List.mem_singleton.mp hc
          decide
        | cons e r =>
          obtain ⟨k, d⟩ := e
          have he : (k, d) ∈ (k, d) :: r := List.mem_cons_self
          rw [WnK] at hc
          rcases List.mem_append.mp hc with hc | hc
          · exact hN _ he c hc
          · rcases List.mem_cons.mp hc with rfl | hc
            · decide
            · rcases List.mem_cons.mp hc with rfl | hc
              · decide
              · rcases List.mem_append.mp hc with hc | hc
                · exact hV _ he c hc
                · exact hT r (fun z hz => List.mem_cons_of_mem _ hz) c hc
    | none => cases ho
    | bool b => cases ho
    | tuple b => cases ho
theorem sm_of {d : PyData} (h : lim d) (g : nod d ≤ 140) : RpD d := rp_sm ⟨h, g⟩
theorem lim2 {d : PyData} (h : lim d) : lim (.list [d, .none]) := by
  unfold lim
  unfold limL
  refine ⟨h, ?_⟩
  unfold limL
  refine ⟨?_, ?_⟩
  · unfold lim
    trivial
  · unfold limL
    trivial
theorem sz2 {d : PyData} (h : szA d) : szA (.list [d, .none]) := by
  unfold szA
  unfold szL
  refine ⟨h, ?_⟩
  unfold szL
  refine ⟨?_, ?_⟩
  · unfold szA
    trivial
  · unfold szL
    trivial
/-- what is no text, or a text that is none of a value -/
structure OddR (H : Hp) (v : V) (d : PyData) : Prop where
  dt : Dt H d v
  rp : RpD d
  sz : ∀ x, d = .str x → x.length ≤ 10000
  no : LRd d = none
/-- what is no value -/
structure OddV (H : Hp) (v : V) (d : PyData) : Prop where
  dt : Dt H d v
  rp : RpD d
  sz : szA d
  no : isV d = false
theorem odd_str {H : Hp} {x : Str} (h1 : x.length ≤ 10000) (h2 : asc x) (h3 : (LR (tl x)).isNone = true) : OddR H (.str x) (.str x) :=
  ⟨by unfold Dt; rfl, rp_str h1 h2, fun y e => by cases e; exact h1, Option.isNone_iff_eq_none.mp h3⟩
theorem asc_dec {x : Str} (h : x.cps.toList.all (fun c => decide (c < 128)) = true) : asc x := fun c hc => of_decide_eq_true (List.all_eq_true.mp h c hc)
section
variable {P : Program} {w : World} {K : PySem.W.Frag} {mg : Str → Option Value} {base : Heap} {CC CI CP : Addr}
def spLaw (K : PySem.W.Frag) : Sp := fun vs H Q _ => ∃ (a : Addr) (ns : List Int), vs = [.ref a] ∧ SqL K H a (ns.map V.int) ∧ ns.length ≤ 63 ∧ ∀ H', Q (.bl true) H'
theorem sc_law : FnScope ["_law_script", "_law_k", "_law_pool", "_law_whole", "_law_text", "_law_turn", "_law_bent_here", "_law_odd"] ["_law_script"] (defScope s_law) := ⟨rfl, rfl, rfl, by decide +kernel, rfl, by decide +kernel, by decide +kernel⟩
theorem bi_law : BindsEq "law" s_law ["_law_script"] := fun _ _ _ _ _ _ us hl => match us, hl with | [_], _ => rfl
theorem ok_law {f : Addr} {fd : FuncData} (F : FnP K "law" s_law f fd) (T : Txt K mg) (sy : ∃ mm, base.Ns sysModules mm) (C__law_hand : Cal P w K mg base CX0 1 "_law_hand" (spHand K)) (C__law_draw : Cal P w K mg base CX0 1 "_law_draw" spDraw)
    (C__law_value : Cal P w K mg base CX0 11 "_law_value" (spValue 7)) (C_shown_value : Cal P w K mg base (L2.CX P w) 63 "shown_value" (spShown CI)) (C__law_written : Cal P w K mg base CX0 61 "_law_written" (spWrit 60)) (C__law_asked : CalG P w K mg base CX0 127 "_law_asked" (spAskV CI))
    (C__law_bent : Cal P w K mg base CX0 2 "_law_bent" spBent) (C__law_due : CalG P w K mg base CX0 128 "_law_due" spDueV) : FnG P w K mg base CX0 129 f fd ["_law_script"] (spLaw K) := by
  refine FnG.of F sc_law (fun vs H Q E h => ?_) (fun cdv A outer s H vs Q E gd hr h => ?_)
  · obtain ⟨a, ns, rfl, _⟩ := h
    rfl
  · obtain ⟨a, ns, rfl, hS, hl, k⟩ := h
    have un := hr.un
    have un2 : (A.deeper (PyProof.Rows.envOfC "law" (defScope s_law) s.heap.objs.size f cdv)).units + 180 < cLine := by omega
    have cm : Calm (cxOf CX0 P w K mg base ["_law_script", "_law_k", "_law_pool", "_law_whole", "_law_text", "_law_turn", "_law_bent_here", "_law_odd"] "law" (defScope s_law) f cdv A outer s H E).nox := ⟨gd, sy, un2⟩
    refine ⟨_, PSs.nox (pss_cons (ps_for PassesOwn.never rfl (pi_range1 rfl T.b_range (pa_cons (pe_callB (call_max2 rfl) rfl T.b_max (by decide +kernel) (pa_cons pe_int (pa_cons (pe_callB (call_min2 rfl) rfl T.b_min (by decide +kernel) (pa_cons (pe_callB (lnK K) rfl T.b_len (by decide +kernel) (pa_cons (pv 0) pa_nil)) (pa_cons pe_int pa_nil))) pa_nil))) pa_nil)) (pg_name (i := 1) sc_law.nd rfl (Or.inl rfl)) (pss_cons (ps_set (i := 2) sc_law.nd rfl (Or.inl rfl) (pe_k C__law_hand hr (by decide) rfl (pa_cons (pv 0) (pa_cons (pv 1) pa_nil))))
 (pss_cons (ps_set (i := 3) sc_law.nd rfl (Or.inl rfl) (pe_k C__law_value hr (by decide) rfl (pa_cons (pv 2) (pa_cons (pe_lst (pa_cons pe_int pa_nil)) (pa_cons pe_int pa_nil)))))
 (pss_cons (ps_set (i := 4) sc_law.nd rfl (Or.inl rfl) (pe_kL C_shown_value hr (by decide) rfl (pa_cons (pv 3) pa_nil)))
 (pss_cons (ps_if (PW.pt (pw_or (pt_cmpR op_ne (pv 4) (pe_k C__law_written hr (by decide) rfl (pa_cons (pv 3) pa_nil)) (nomark _)) (pw_or1 (pt_cmpR (op_neP un2) (pe_kG C__law_asked gd hr (by decide) rfl (pa_cons pe_int (pa_cons (pv 4) pa_nil))) (pe_tup (pa_cons pe_str (pa_cons (pv 3) pa_nil))) (nomark _))))) (pss_one (ps_ret pe_bl)) pss_nil)
 (pss_cons (ps_for PassesOwn.never rfl (pi_range1 rfl T.b_range (pa_cons pe_int pa_nil)) (pg_name (i := 5) sc_law.nd rfl (Or.inl rfl)) (pss_cons (ps_set (i := 6) sc_law.nd rfl (Or.inl rfl) (pe_k C__law_bent hr (by decide) rfl (pa_cons (pv 2) (pa_cons (pv 4) pa_nil))))
 (pss_cons (ps_if (pt_cmpR op_eq (pe_k C__law_draw hr (by decide) rfl (pa_cons (pv 2) (pa_cons pe_int pa_nil))) pe_int (nomark _)) (pss_one (ps_set (i := 6) sc_law.nd rfl (Or.inl rfl) (pe_k C__law_bent hr (by decide) rfl (pa_cons (pv 2) (pa_cons (pv 6) pa_nil))))) pss_nil)
 (pss_one (ps_if (pt_cmpR (op_neP un2) (pe_kG C__law_asked gd hr (by decide) rfl (pa_cons pe_int (pa_cons (pv 6) pa_nil))) (pe_kG C__law_due gd hr (by decide) rfl (pa_cons (pv 6) pa_nil)) (nomark _)) (pss_one (ps_ret pe_bl)) pss_nil)))))
 (pss_cons (ps_for PassesOwn.never rfl (pil K (pe_lst (pa_cons pe_non (pa_cons pe_int (pa_cons (pe_lst pa_nil) (pa_cons pe_bl (pa_cons (pe_tup (pa_cons (pv 4) pa_nil)) (pa_cons pe_str (pa_cons pe_str (pa_cons pe_str (pa_cons pe_str (pa_cons pe_str pa_nil)))))))))))) (pg_name (i := 7) sc_law.nd rfl (Or.inl rfl)) (pss_one (ps_if (pt_cmpR (op_neP un2) (pe_kG C__law_asked gd hr (by decide) rfl (pa_cons pe_int (pa_cons (pv 7) pa_nil))) (pe_tup (pa_cons pe_str (pa_cons (pe_callB (call_repr cm) rfl T.b_repr (by decide +kernel) (pa_cons (pv 7) pa_nil)) pa_nil))) (nomark _)) (pss_one (ps_ret pe_bl)) pss_nil)))
 (pss_one (ps_for PassesOwn.never rfl (pil K (pe_lst (pa_cons pe_non (pa_cons pe_bl (pa_cons (pe_tup pa_nil) (pa_cons (pe_lst (pa_cons (pv 3) (pa_cons pe_non pa_nil))) (pa_cons (pe_op op_pow pe_int pe_int) pa_nil))))))) (pg_name (i := 7) sc_law.nd rfl (Or.inl rfl)) (pss_one (ps_if (pt_cmpR (op_neP un2) (pe_kG C__law_asked gd hr (by decide) rfl (pa_cons pe_int (pa_cons (pv 7) pa_nil))) (pe_tup (pa_cons pe_str (pa_cons (pe_callB (call_repr cm) rfl T.b_repr (by decide +kernel) (pa_cons (pv 7) pa_nil)) pa_nil))) (nomark _)) (pss_one (ps_ret pe_bl)) pss_nil)))))))))))
 (pss_one (ps_ret pe_bl))), ?_⟩
    have hlen : (ns.map V.int).length ≤ 63 := by rw [List.length_map]; exact hl
    generalize hn : (ns.map V.int).length = n0 at hlen
    refine ⟨_, rfl, _, n0, rfl, .inl ⟨_, hS, hn.symm⟩, _, _, rfl, _, _, rfl, _, rfl, by split <;> split <;> omega, by split <;> split <;> omega, ?_⟩
    refine for_range (lo := 0) (fun i σ' H' => ∃ v1 v2 v3 v4 v5 v6 v7 : Option V, σ' = [some (.ref a), v1, v2, v3, v4, v5, v6, v7] ∧ Ex H H') ?_ ?_ ?_
    · exact ⟨none, none, none, none, none, none, none, rfl, Ex.refl _⟩
    · rintro i σ' H0 hi ⟨v1, v2, v3, v4, v5, v6, v7, rfl, e0⟩
      have hi63 : i < 63 := by
        have : (if (if (6 : Int) < (n0 : Int) then (6 : Int) else (n0 : Int)) > 1 then (if (6 : Int) < (n0 : Int) then (6 : Int) else (n0 : Int)) else 1).toNat ≤ 63 := by split <;> split <;> omega
        exact Nat.lt_of_lt_of_le hi this
      -- _law_pool
      refine ⟨_, rfl, _, rfl, a, ns, _, rfl, Evl.ex_l e0 hS, hl, by omega, by omega, fun p H1 np x0_1 hp => ?_⟩
      -- _law_whole
      refine ⟨_, rfl, szl (by show 1 ≤ 100000; decide), fun ro nro => ?_⟩
      obtain ⟨Hr, hHr, x1_r, hro⟩ := newH _ nro
      rw [hHr]
      refine ⟨p, ro, 59, 6, rfl, by decide, hp.ex x1_r, hro, by decide, fun v d r' H2 x2 hdt ho hc => ?_⟩
      have x1_2 : Ex H1 H2 := ex_room nro hHr x2
      have hd2 := hdt.ex fr_sub
      have hc60 : cnt d ≤ 60 := by omega
      clear hdt x2 hro x1_r hHr
      have hsm := ok_sm ho hc60
      have hsz := lim_sz d hsm.l
      have hvt := isV_of ho hc60
      have hnd := dt_nod _ d v (Nat.le_refl _) ho hd2
      have hp2 := hp.ex x1_2
      -- _law_text
      refine ⟨_, rfl, v, d, rfl, hd2, hsz, fun _ H3 x2_3 => ?_, fun z => ?_⟩
      rotate_left
      · rw [hvt] at z
        cases z
      obtain ⟨on1, on2⟩ := isV_norm hvt hnd
      have hLR := LR_norm hvt hnd
      have hshort := Wn_short ho hc60 hnd
      have hasc := Wn_asc _ (norm d) (Nat.le_refl _) (isV_ok on1).1
      generalize hx : S (Wn (norm d)) = x
      have htx : tl x = Wn (norm d) := by rw [← hx]
      have hxl : x.length ≤ 2760 := by rw [TL.len_tl, htx]; exact hshort
      have hxa : asc x := fun c hc => hasc c (by rw [← htx]; exact hc)
      -- text != written
      refine ⟨_, rfl, _, rfl, v, d, H2, rfl, hd2, x2_3, ho, hc60, hc60, hnd, fun H4 x3_4 => ?_⟩
      rw [hx]
      refine ⟨rfl, _, rfl, if_f (by rw [decide_eq_true rfl]; rfl) ?_⟩
      have x2_4 := x2_3.trans x3_4
      -- asked(1, text) != ('told', whole)
      refine ⟨_, rfl, ask_read (d := .str x) (by unfold Dt; rfl) (rp_str (by omega) hxa) (fun y e => by cases e; omega) (fun e he t u H5 x4_5 ht hu => ?_) (fun hn => ?_) E0⟩
      rotate_left
      · have hn : LR (tl x) = none := hn
        rw [htx, hLR] at hn
        cases hn
      have he : LR (tl x) = some e := he
      rw [htx, hLR] at he
      cases he
      have x2_5 := x2_4.trans x4_5
      refine ⟨_, rfl, szl (by show 2 ≤ 100000; decide), fun t2 nt2 => ?_⟩
      have x5_6 : Ex H5 (upd H5 t2 (.tup [.str "told", v])) := Ex.new nt2
      refine ⟨t, t2, "told", u, v, 60, rfl, rfl, by decide, .inl (x5_6 _ _ ht), .inl upd_same, same_norm 60 d u v hc60 ho hnd (hu.ex x5_6) (hd2.ex (x2_5.trans x5_6)), _, rfl, if_f rfl ?_⟩
      have x2_6 := x2_5.trans x5_6
      generalize upd H5 t2 (.tup [.str "told", v]) = H6 at x2_6
      clear x5_6 hu ht x4_5 x2_5
      -- bent texts
      refine ⟨6, rfl, by decide, by decide, for_range (lo := 0) (n := 6) (fun i σ' H' => ∃ v1 v5 v6 v7 : Option V, σ' = [some (.ref a), v1, some (.ref p), some v, some (.str x), v5, v6, v7] ∧ Ex H2 H') ?_ ?_ ?_⟩
      · exact ⟨_, _, _, _, rfl, x2_6⟩
      · rintro j σ' Hj hj ⟨w1, w5, w6, w7, rfl, ej⟩
        refine ⟨_, rfl, _, rfl, p, x, rfl, hp2.ex ej, by omega, fun z Hz xz hz => ?_⟩
        obtain ⟨z1, z2⟩ := hz
        have z2 := z2 hxa
        have ez := ej.trans xz
        refine ⟨_, rfl, p, 3, rfl, hp2.ex ez, by decide, by decide, fun y y0 y1 => ⟨rfl, _, rfl, if_b (fun h => ?_) (fun h => ?_)⟩⟩
        · refine ⟨_, rfl, _, rfl, p, z, rfl, hp2.ex ez, by omega, fun zz Hw xw hzz => ?_⟩
          obtain ⟨zz1, zz2⟩ := hzz
          have zz2 := zz2 z2
          have ew := ez.trans xw
          have hrz : RpD (.str zz) := rp_str (by omega) zz2
          refine ⟨_, rfl, ask_read (d := .str zz) (by unfold Dt; rfl) hrz (fun y e => by cases e; omega) (fun e he t u Ha xa ht hu => ?_) (fun hn t Ha xa ht => ?_) E0⟩
          · have he : LR (tl zz) = some e := he
            obtain ⟨g1, g2, g3, g4, g5⟩ := LR_some he
            refine ⟨_, rfl, zz, rfl, by omega, hrz, fun e' he' t2 u2 Hb xb ht2 hu2 => ?_, fun hn => by rw [he] at hn; cases hn⟩
            rw [he] at he'
            cases he'
            exact ⟨t, t2, "told", u, u2, 60, rfl, rfl, by decide, .inl (xb _ _ ht), .inl ht2, same_norm 60 e u u2 (isV_ok g1).2 (isV_ok g1).1 g5 (by rw [g4]; exact hu.ex xb) hu2, _, rfl, if_f rfl ⟨_, _, _, _, rfl, ew.trans (xa.trans xb)⟩⟩
          · have hn : LR (tl zz) = none := hn
            refine ⟨_, rfl, zz, rfl, by omega, hrz, (fun e' he' => by rw [hn] at he'; cases he'), fun _ t2 Hb xb ht2 => ?_⟩
            exact ⟨t, t2, "value", .str (PyData.str zz).shown, .str (PyData.str zz).shown, 1, rfl, rfl, by decide, .inl (xb _ _ ht), .inl ht2, .inl ⟨rfl, rfl⟩, _, rfl, if_f rfl ⟨_, _, _, _, rfl, ew.trans (xa.trans xb)⟩⟩
        · have hrz : RpD (.str z) := rp_str (by omega) z2
          refine ⟨_, rfl, ask_read (d := .str z) (by unfold Dt; rfl) hrz (fun y e => by cases e; omega) (fun e he t u Ha xa ht hu => ?_) (fun hn t Ha xa ht => ?_) E0⟩
          · have he : LR (tl z) = some e := he
            obtain ⟨g1, g2, g3, g4, g5⟩ := LR_some he
            refine ⟨_, rfl, z, rfl, by omega, hrz, fun e' he' t2 u2 Hb xb ht2 hu2 => ?_, fun hn => by rw [he] at hn; cases hn⟩
            rw [he] at he'
            cases he'
            exact ⟨t, t2, "told", u, u2, 60, rfl, rfl, by decide, .inl (xb _ _ ht), .inl ht2, same_norm 60 e u u2 (isV_ok g1).2 (isV_ok g1).1 g5 (by rw [g4]; exact hu.ex xb) hu2, _, rfl, if_f rfl ⟨_, _, _, _, rfl, ez.trans (xa.trans xb)⟩⟩
          · have hn : LR (tl z) = none := hn
            refine ⟨_, rfl, z, rfl, by omega, hrz, (fun e' he' => by rw [hn] at he'; cases he'), fun _ t2 Hb xb ht2 => ?_⟩
            exact ⟨t, t2, "value", .str (PyData.str z).shown, .str (PyData.str z).shown, 1, rfl, rfl, by decide, .inl (xb _ _ ht), .inl ht2, .inl ⟨rfl, rfl⟩, _, rfl, if_f rfl ⟨_, _, _, _, rfl, ez.trans (xa.trans xb)⟩⟩
      · rintro σ' Hj ⟨w1, w5, w6, w7, rfl, ej⟩
        -- what is no text of a value
        refine ⟨szl (by decide), fun l nl => ?_⟩
        obtain ⟨Hl, hHl, xl, hl1⟩ := newH _ nl
        rw [hHl]
        clear hHl
        refine ⟨_, rfl, szl (by show 1 ≤ 100000; decide), fun t nt => ?_⟩
        obtain ⟨Ht, hHt, xt, ht1⟩ := newH _ nt
        rw [hHt]
        clear hHt
        refine ⟨szl (by show 10 ≤ 100000; decide), fun D nD => ?_⟩
        obtain ⟨HD, hHD, xD, hD1⟩ := newH _ nD
        rw [hHD]
        clear hHD
        have eD := ej.trans (xl.trans (xt.trans xD))
        have hodd : ∀ y ∈ [V.non, V.int 5, V.ref l, V.bl true, V.ref t, V.str "", V.str " ", V.str "-0", V.str "00", V.str "-"], ∃ d, OddR HD y d := by
          intro y hy
          simp only [List.mem_cons, List.not_mem_nil, or_false] at hy
          rcases hy with rfl | rfl | rfl | rfl | rfl | rfl | rfl | rfl | rfl | rfl
          · exact ⟨.none, by unfold Dt; rfl, sm_of (by unfold lim; trivial) (by simp [nod]), nofun, rfl⟩
          · exact ⟨.int 5, by unfold Dt; rfl, sm_of (by unfold lim big; decide) (by simp [nod]), nofun, rfl⟩
          · refine ⟨.list [], ?_, sm_of (by unfold lim limL; trivial) (by simp [nod, nodL]), nofun, rfl⟩
            unfold Dt
            exact ⟨l, [], rfl, .inl ((xt.trans xD) _ _ hl1), DtL.nil⟩
          · exact ⟨.bool true, by unfold Dt; rfl, sm_of (by unfold lim; trivial) (by simp [nod]), nofun, rfl⟩
          · refine ⟨.tuple [.str x], ?_, ?_, nofun, rfl⟩
            · unfold Dt
              exact ⟨t, [.str x], rfl, .inl (xD _ _ ht1), DtL.cons (by unfold Dt; rfl) DtL.nil⟩
            · have q := rp_str (x := x) (by omega) hxa
              refine ⟨?_, ?_, ?_, ?_⟩
              · simp only [PyData.showable, PyData.showableAll, Bool.and_self]
              · have q2 := q.l
                simp only [PyData.leavesShort, PyData.leavesShortAll, Bool.and_true] at q2 ⊢
                exact q2
              · have q2 := q.b
                simp only [PyData.bulk, PyData.bulkAll] at q2 ⊢
                have : x.cps.size ≤ 2760 := hxl
                omega
              · simp [PyData.depth, PyData.depthAll]
          · exact ⟨_, odd_str (by decide +kernel) (asc_dec (by decide +kernel)) (by decide +kernel)⟩
          · exact ⟨_, odd_str (by decide +kernel) (asc_dec (by decide +kernel)) (by decide +kernel)⟩
          · exact ⟨_, odd_str (by decide +kernel) (asc_dec (by decide +kernel)) (by decide +kernel)⟩
          · exact ⟨_, odd_str (by decide +kernel) (asc_dec (by decide +kernel)) (by decide +kernel)⟩
          · exact ⟨_, odd_str (by decide +kernel) (asc_dec (by decide +kernel)) (by decide +kernel)⟩
        refine ⟨D, rfl, ⟨_, SqLo hD1⟩, for_it (walk_list (K := K) (a := D) (xs := [V.non, V.int 5, V.ref l, V.bl true, V.ref t, V.str "", V.str " ", V.str "-0", V.str "00", V.str "-"])) (fun i σ' H' => ∃ v1 v5 v6 v7 : Option V, σ' = [some (.ref a), v1, some (.ref p), some v, some (.str x), v5, v6, v7] ∧ Ex HD H') ?_ ?_ ?_ ?_⟩
        · exact ⟨_, _, _, _, rfl, Ex.refl _⟩
        · rintro i σ' H' _ ⟨_, _, _, _, _, e⟩
          exact SqLo (e _ _ hD1)
        · rintro i y σ' Ho Hi hi ⟨u1, u5, u6, u7, rfl, e⟩ ⟨rfl, hy⟩
          obtain ⟨dy, oy⟩ := hodd y (List.mem_of_getElem? hy)
          have hdy := oy.dt.ex e
          refine ⟨_, rfl, ask_read hdy oy.rp oy.sz (fun e' he' => by rw [oy.no] at he'; cases he') (fun _ ta Ha xa hta => ?_) E0⟩
          refine ⟨_, rfl, y, dy, rfl, hdy.ex xa, oy.rp.s, oy.rp.size, oy.rp.p, szl (by show 2 ≤ 100000; decide), fun tb ntb => ?_⟩
          have xb : Ex Ha (upd Ha tb (.tup [.str "value", .str dy.shown])) := Ex.new ntb
          exact ⟨ta, tb, "value", .str dy.shown, .str dy.shown, 1, rfl, rfl, by decide, .inl (xb _ _ hta), .inl upd_same, .inl ⟨rfl, rfl⟩, _, rfl, if_f rfl ⟨_, _, _, _, rfl, e.trans (xa.trans xb)⟩⟩
        · rintro σ' Hj2 ⟨u1, u5, u6, u7, rfl, e⟩
          have ej2 := eD.trans e
          -- what is no value
          refine ⟨szl (by decide), fun l2 nl2 => ?_⟩
          obtain ⟨Hl2, hHl2, xl2, hl2⟩ := newH _ nl2
          rw [hHl2]
          clear hHl2
          refine ⟨_, rfl, szl (by show 2 ≤ 100000; decide), fun t2 nt2 => ?_⟩
          obtain ⟨Ht2, hHt2, xt2, ht2⟩ := newH _ nt2
          rw [hHt2]
          clear hHt2
          have c30 : (10 : Int) ^ (30 : Int).toNat = big := by decide
          refine ⟨_, _, rfl, rfl, ⟨by decide, by decide, by decide⟩, szl (by show 5 ≤ 100000; decide), fun D2 nD2 => ?_⟩
          obtain ⟨HD2, hHD2, xD2, hD2⟩ := newH _ nD2
          rw [hHD2]
          clear hHD2
          have eD2 := ej2.trans (xl2.trans (xt2.trans xD2))
          have hodd2 : ∀ y ∈ [V.non, V.bl true, V.ref l2, V.ref t2, V.int ((10 : Int) ^ (30 : Int).toNat)], ∃ d, OddV HD2 y d := by
            intro y hy
            simp only [List.mem_cons, List.not_mem_nil, or_false] at hy
            rcases hy with rfl | rfl | rfl | rfl | rfl
            · exact ⟨.none, by unfold Dt; rfl, sm_of (by unfold lim; trivial) (by simp [nod]), by unfold szA; trivial, rfl⟩
            · exact ⟨.bool true, by unfold Dt; rfl, sm_of (by unfold lim; trivial) (by simp [nod]), by unfold szA; trivial, rfl⟩
            · refine ⟨.tuple [], ?_, sm_of (by unfold lim limL; trivial) (by simp [nod, nodL]), by unfold szA; trivial, rfl⟩
              unfold Dt
              exact ⟨l2, [], rfl, .inl ((xt2.trans xD2) _ _ hl2), DtL.nil⟩
            · refine ⟨.list [d, .none], ?_, sm_of ?_ ?_, ?_, ?_⟩
              · unfold Dt
                exact ⟨t2, [v, .non], rfl, .inl (xD2 _ _ ht2), DtL.cons (hd2.ex eD2) (DtL.cons (by unfold Dt; rfl) DtL.nil)⟩
              · exact lim2 hsm.l
              · have := (ok_lim d ho).2
                simp only [nod, nodL]
                omega
              · exact sz2 hsz
              · unfold isV okA okL okL okA
                simp
            · refine ⟨.int ((10 : Int) ^ (30 : Int).toNat), by unfold Dt; rfl, sm_of ?_ (by simp [nod]), by unfold szA; trivial, ?_⟩
              · rw [c30]
                unfold lim big
                decide
              · rw [c30]
                decide
          refine ⟨D2, rfl, ⟨_, SqLo hD2⟩, for_it (walk_list (K := K) (a := D2) (xs := [V.non, V.bl true, V.ref l2, V.ref t2, V.int ((10 : Int) ^ (30 : Int).toNat)])) (fun i σ' H' => ∃ v1 v5 v6 v7 : Option V, σ' = [some (.ref a), v1, some (.ref p), some v, some (.str x), v5, v6, v7] ∧ Ex HD2 H') ?_ ?_ ?_ ?_⟩
          · exact ⟨_, _, _, _, rfl, Ex.refl _⟩
          · rintro i σ' H' _ ⟨_, _, _, _, _, e⟩
            exact SqLo (e _ _ hD2)
          · rintro i y σ' Ho Hi hi ⟨u1, u5, u6, u7, rfl, e⟩ ⟨rfl, hy⟩
            obtain ⟨dy, oy⟩ := hodd2 y (List.mem_of_getElem? hy)
            have hdy := oy.dt.ex e
            refine ⟨_, rfl, ask_bad hdy oy.rp oy.sz oy.no (fun ta Ha xa hta => ?_) E0⟩
            refine ⟨_, rfl, y, dy, rfl, hdy.ex xa, oy.rp.s, oy.rp.size, oy.rp.p, szl (by show 2 ≤ 100000; decide), fun tb ntb => ?_⟩
            have xb : Ex Ha (upd Ha tb (.tup [.str "value", .str dy.shown])) := Ex.new ntb
            exact ⟨ta, tb, "value", .str dy.shown, .str dy.shown, 1, rfl, rfl, by decide, .inl (xb _ _ hta), .inl upd_same, .inl ⟨rfl, rfl⟩, _, rfl, if_f rfl ⟨_, _, _, _, rfl, e.trans (xa.trans xb)⟩⟩
          · rintro σ' Hk ⟨u1, u5, u6, u7, rfl, e⟩
            exact ⟨_, _, _, _, _, _, _, rfl, e0.trans (x0_1.trans (x1_2.trans (eD2.trans e)))⟩
    · rintro σ' H1 ⟨_, _, _, _, _, _, _, rfl, _⟩
      exact k H1
end
end WT

namespace WT
open PySem PySem.Spec L2 LW VL
section
variable {P : Program} {w : World} {K : PySem.W.Frag} {mg : Str → Option Value} {h : Heap}
theorem hg_is_integer (c : SaysM fa fn ex K) : (He.Fa.glo "is_integer").ok K = true := c.d.fact 0 (f := .glo "is_integer") rfl
theorem hg_is_letters (c : SaysM fa fn ex K) : (He.Fa.glo "is_letters").ok K = true := c.d.fact 1 (f := .glo "is_letters") rfl
theorem hg_is_field (c : SaysM fa fn ex K) : (He.Fa.glo "is_field").ok K = true := c.d.fact 2 (f := .glo "is_field") rfl
theorem hg_is_leaf (c : SaysM fa fn ex K) : (He.Fa.glo "is_leaf").ok K = true := c.d.fact 3 (f := .glo "is_leaf") rfl
theorem hg_is_part (c : SaysM fa fn ex K) : (He.Fa.glo "is_part").ok K = true := c.d.fact 4 (f := .glo "is_part") rfl
theorem hg_children (c : SaysM fa fn ex K) : (He.Fa.glo "children").ok K = true := c.d.fact 5 (f := .glo "children") rfl
theorem hg_is_value (c : SaysM fa fn ex K) : (He.Fa.glo "is_value").ok K = true := c.d.fact 6 (f := .glo "is_value") rfl
theorem hg_check_value (c : SaysM fa fn ex K) : (He.Fa.glo "check_value").ok K = true := c.d.fact 7 (f := .glo "check_value") rfl
theorem hg_written (c : SaysM fa fn ex K) : (He.Fa.glo "written").ok K = true := c.d.fact 8 (f := .glo "written") rfl
theorem hg_shown_value (c : SaysM fa fn ex K) : (He.Fa.glo "shown_value").ok K = true := c.d.fact 9 (f := .glo "shown_value") rfl
theorem hg_read_value (c : SaysM fa fn ex K) : (He.Fa.glo "read_value").ok K = true := c.d.fact 10 (f := .glo "read_value") rfl
theorem hg__law_hand (c : SaysM fa fn ex K) : (He.Fa.glo "_law_hand").ok K = true := c.d.fact 11 (f := .glo "_law_hand") rfl
theorem hg__law_draw (c : SaysM fa fn ex K) : (He.Fa.glo "_law_draw").ok K = true := c.d.fact 12 (f := .glo "_law_draw") rfl
theorem hg__law_word (c : SaysM fa fn ex K) : (He.Fa.glo "_law_word").ok K = true := c.d.fact 13 (f := .glo "_law_word") rfl
theorem hg__law_leaf (c : SaysM fa fn ex K) : (He.Fa.glo "_law_leaf").ok K = true := c.d.fact 14 (f := .glo "_law_leaf") rfl
theorem hg__law_value (c : SaysM fa fn ex K) : (He.Fa.glo "_law_value").ok K = true := c.d.fact 15 (f := .glo "_law_value") rfl
theorem hg__law_below (c : SaysM fa fn ex K) : (He.Fa.glo "_law_below").ok K = true := c.d.fact 16 (f := .glo "_law_below") rfl
theorem hg__law_written (c : SaysM fa fn ex K) : (He.Fa.glo "_law_written").ok K = true := c.d.fact 17 (f := .glo "_law_written") rfl
theorem hg__law_asked (c : SaysM fa fn ex K) : (He.Fa.glo "_law_asked").ok K = true := c.d.fact 18 (f := .glo "_law_asked") rfl
theorem hg__law_end (c : SaysM fa fn ex K) : (He.Fa.glo "_law_end").ok K = true := c.d.fact 19 (f := .glo "_law_end") rfl
theorem hg__law_number (c : SaysM fa fn ex K) : (He.Fa.glo "_law_number").ok K = true := c.d.fact 20 (f := .glo "_law_number") rfl
theorem hg__law_letters (c : SaysM fa fn ex K) : (He.Fa.glo "_law_letters").ok K = true := c.d.fact 21 (f := .glo "_law_letters") rfl
theorem hg__law_leaf_read (c : SaysM fa fn ex K) : (He.Fa.glo "_law_leaf_read").ok K = true := c.d.fact 22 (f := .glo "_law_leaf_read") rfl
theorem hg__law_list_read (c : SaysM fa fn ex K) : (He.Fa.glo "_law_list_read").ok K = true := c.d.fact 23 (f := .glo "_law_list_read") rfl
theorem hg__law_record_read (c : SaysM fa fn ex K) : (He.Fa.glo "_law_record_read").ok K = true := c.d.fact 24 (f := .glo "_law_record_read") rfl
theorem hg__law_read (c : SaysM fa fn ex K) : (He.Fa.glo "_law_read").ok K = true := c.d.fact 25 (f := .glo "_law_read") rfl
theorem hg__law_due (c : SaysM fa fn ex K) : (He.Fa.glo "_law_due").ok K = true := c.d.fact 26 (f := .glo "_law_due") rfl
theorem hg__law_bent (c : SaysM fa fn ex K) : (He.Fa.glo "_law_bent").ok K = true := c.d.fact 27 (f := .glo "_law_bent") rfl
theorem hg_law (c : SaysM fa fn ex K) : (He.Fa.glo "law").ok K = true := c.d.fact 28 (f := .glo "law") rfl
theorem hg_CheckError (c : SaysM fa fn ex K) : (He.Fa.glo "CheckError").ok K = true := c.d.fact 29 (f := .glo "CheckError") rfl
theorem hg_InvalidValue (c : SaysM fa fn ex K) : (He.Fa.glo "InvalidValue").ok K = true := c.d.fact 30 (f := .glo "InvalidValue") rfl
theorem hg_InvalidPlace (c : SaysM fa fn ex K) : (He.Fa.glo "InvalidPlace").ok K = true := c.d.fact 31 (f := .glo "InvalidPlace") rfl
theorem hg_Reader (c : SaysM fa fn ex K) : (He.Fa.glo "Reader").ok K = true := c.d.fact 32 (f := .glo "Reader") rfl
theorem hf_len (c : SaysM fa fn ex K) : (He.Fa.free "len").ok K = true := c.d.fact 33 (f := .free "len") rfl
theorem hf_range (c : SaysM fa fn ex K) : (He.Fa.free "range").ok K = true := c.d.fact 34 (f := .free "range") rfl
theorem hf_isinstance (c : SaysM fa fn ex K) : (He.Fa.free "isinstance").ok K = true := c.d.fact 35 (f := .free "isinstance") rfl
theorem hf_int (c : SaysM fa fn ex K) : (He.Fa.free "int").ok K = true := c.d.fact 36 (f := .free "int") rfl
theorem hf_str (c : SaysM fa fn ex K) : (He.Fa.free "str").ok K = true := c.d.fact 37 (f := .free "str") rfl
theorem hf_bool (c : SaysM fa fn ex K) : (He.Fa.free "bool").ok K = true := c.d.fact 38 (f := .free "bool") rfl
theorem hf_list (c : SaysM fa fn ex K) : (He.Fa.free "list").ok K = true := c.d.fact 39 (f := .free "list") rfl
theorem hf_dict (c : SaysM fa fn ex K) : (He.Fa.free "dict").ok K = true := c.d.fact 40 (f := .free "dict") rfl
theorem hf_tuple (c : SaysM fa fn ex K) : (He.Fa.free "tuple").ok K = true := c.d.fact 41 (f := .free "tuple") rfl
theorem hf_all (c : SaysM fa fn ex K) : (He.Fa.free "all").ok K = true := c.d.fact 42 (f := .free "all") rfl
theorem hf_enumerate (c : SaysM fa fn ex K) : (He.Fa.free "enumerate").ok K = true := c.d.fact 43 (f := .free "enumerate") rfl
theorem hf_max (c : SaysM fa fn ex K) : (He.Fa.free "max").ok K = true := c.d.fact 44 (f := .free "max") rfl
theorem hf_min (c : SaysM fa fn ex K) : (He.Fa.free "min").ok K = true := c.d.fact 45 (f := .free "min") rfl
theorem hf_sum (c : SaysM fa fn ex K) : (He.Fa.free "sum").ok K = true := c.d.fact 46 (f := .free "sum") rfl
theorem hf_sorted (c : SaysM fa fn ex K) : (He.Fa.free "sorted").ok K = true := c.d.fact 47 (f := .free "sorted") rfl
theorem hf_repr (c : SaysM fa fn ex K) : (He.Fa.free "repr").ok K = true := c.d.fact 48 (f := .free "repr") rfl
theorem hi_GREATEST (c : SaysM fa fn ex K) : (He.Fa.int "GREATEST" 1000000000000000000000000000000).ok K = true := c.d.fact 49 (f := .int "GREATEST" 1000000000000000000000000000000) rfl
theorem hi_LONGEST_TEXT (c : SaysM fa fn ex K) : (He.Fa.int "LONGEST_TEXT" 20).ok K = true := c.d.fact 50 (f := .int "LONGEST_TEXT" 20) rfl
theorem hi_LONGEST_NAME (c : SaysM fa fn ex K) : (He.Fa.int "LONGEST_NAME" 8).ok K = true := c.d.fact 51 (f := .int "LONGEST_NAME" 8) rfl
theorem hi_MOST_FIELDS (c : SaysM fa fn ex K) : (He.Fa.int "MOST_FIELDS" 8).ok K = true := c.d.fact 52 (f := .int "MOST_FIELDS" 8) rfl
theorem hi_MOST_PLACES (c : SaysM fa fn ex K) : (He.Fa.int "MOST_PLACES" 60).ok K = true := c.d.fact 53 (f := .int "MOST_PLACES" 60) rfl
theorem hs_LETTERS (c : SaysM fa fn ex K) : (He.Fa.str "LETTERS" "abcdefghijklmnopqrstuvwxyz").ok K = true := c.d.fact 54 (f := .str "LETTERS" "abcdefghijklmnopqrstuvwxyz") rfl
theorem hs_DIGITS (c : SaysM fa fn ex K) : (He.Fa.str "DIGITS" "0123456789").ok K = true := c.d.fact 55 (f := .str "DIGITS" "0123456789") rfl
theorem hm_0 (c : SaysM fa fn ex K) : (He.Fa.exm "InvalidValue" "CheckError" true).ok K = true := c.d.fact 56 (f := .exm "InvalidValue" "CheckError" true) rfl
theorem hm_1 (c : SaysM fa fn ex K) : (He.Fa.noat "InvalidValue" "value").ok K = true := c.d.fact 57 (f := .noat "InvalidValue" "value") rfl
theorem hm_2 (c : SaysM fa fn ex K) : (He.Fa.cls "Reader").ok K = true := c.d.fact 58 (f := .cls "Reader") rfl
theorem hm_3 (c : SaysM fa fn ex K) : (He.Fa.noat "Reader" "text").ok K = true := c.d.fact 59 (f := .noat "Reader" "text") rfl
theorem hm_4 (c : SaysM fa fn ex K) : (He.Fa.noat "Reader" "spot").ok K = true := c.d.fact 60 (f := .noat "Reader" "spot") rfl
theorem hm_5 (c : SaysM fa fn ex K) : (He.Fa.noat "Reader" "many").ok K = true := c.d.fact 61 (f := .noat "Reader" "many") rfl
theorem hm_6 (c : SaysM fa fn ex K) : (He.Fa.mkr "Reader").ok K = true := c.d.fact 62 (f := .mkr "Reader") rfl
theorem hm_7 (c : SaysM fa fn ex K) : (He.Fa.meth "Reader" "takes").ok K = true := c.d.fact 63 (f := .meth "Reader" "takes") rfl
theorem hm_8 (c : SaysM fa fn ex K) : (He.Fa.meth "Reader" "until").ok K = true := c.d.fact 64 (f := .meth "Reader" "until") rfl
theorem hm_9 (c : SaysM fa fn ex K) : (He.Fa.meth "Reader" "next_value").ok K = true := c.d.fact 65 (f := .meth "Reader" "next_value") rfl
theorem hm_10 (c : SaysM fa fn ex K) : (He.Fa.meth "Reader" "list_items").ok K = true := c.d.fact 66 (f := .meth "Reader" "list_items") rfl
theorem hm_11 (c : SaysM fa fn ex K) : (He.Fa.meth "Reader" "record_fields").ok K = true := c.d.fact 67 (f := .meth "Reader" "record_fields") rfl
theorem df_of (X : K.In h) (G : h.Ns mainGlobals mg) (c : SaysM fa fn ex K) {x : Str} {st : Stmt} (i : Nat) {d : He.DefD} (hd : fn[i]? = some d) (e : d = ⟨(x, none), x, x, defArgs st, defBody st, defScope st, [], []⟩) (hg : (He.Fa.glo x).ok K = true) : Df K mg x st := by
  obtain ⟨fd, F⟩ := c.d.def_ i hd
  subst e
  exact ⟨_, fd, F, He.glo_ok X G hg⟩
theorem D_is_integer (X : K.In h) (G : h.Ns mainGlobals mg) (c : SaysM fa fn ex K) : Df K mg "is_integer" s_is_integer := df_of X G c 0 (d := d_is_integer) rfl rfl (hg_is_integer c)
theorem D_is_letters (X : K.In h) (G : h.Ns mainGlobals mg) (c : SaysM fa fn ex K) : Df K mg "is_letters" s_is_letters := df_of X G c 1 (d := d_is_letters) rfl rfl (hg_is_letters c)
theorem D_is_field (X : K.In h) (G : h.Ns mainGlobals mg) (c : SaysM fa fn ex K) : Df K mg "is_field" s_is_field := df_of X G c 2 (d := d_is_field) rfl rfl (hg_is_field c)
theorem D_is_leaf (X : K.In h) (G : h.Ns mainGlobals mg) (c : SaysM fa fn ex K) : Df K mg "is_leaf" s_is_leaf := df_of X G c 3 (d := d_is_leaf) rfl rfl (hg_is_leaf c)
theorem D_is_part (X : K.In h) (G : h.Ns mainGlobals mg) (c : SaysM fa fn ex K) : Df K mg "is_part" s_is_part := df_of X G c 4 (d := d_is_part) rfl rfl (hg_is_part c)
theorem D_children (X : K.In h) (G : h.Ns mainGlobals mg) (c : SaysM fa fn ex K) : Df K mg "children" s_children := df_of X G c 5 (d := d_children) rfl rfl (hg_children c)
theorem D_is_value (X : K.In h) (G : h.Ns mainGlobals mg) (c : SaysM fa fn ex K) : Df K mg "is_value" s_is_value := df_of X G c 6 (d := d_is_value) rfl rfl (hg_is_value c)
theorem D_check_value (X : K.In h) (G : h.Ns mainGlobals mg) (c : SaysM fa fn ex K) : Df K mg "check_value" s_check_value := df_of X G c 7 (d := d_check_value) rfl rfl (hg_check_value c)
theorem D_written (X : K.In h) (G : h.Ns mainGlobals mg) (c : SaysM fa fn ex K) : Df K mg "written" s_written := df_of X G c 8 (d := d_written) rfl rfl (hg_written c)
theorem D_shown_value (X : K.In h) (G : h.Ns mainGlobals mg) (c : SaysM fa fn ex K) : Df K mg "shown_value" s_shown_value := df_of X G c 9 (d := d_shown_value) rfl rfl (hg_shown_value c)
theorem D_read_value (X : K.In h) (G : h.Ns mainGlobals mg) (c : SaysM fa fn ex K) : Df K mg "read_value" s_read_value := df_of X G c 10 (d := d_read_value) rfl rfl (hg_read_value c)
theorem D__law_hand (X : K.In h) (G : h.Ns mainGlobals mg) (c : SaysM fa fn ex K) : Df K mg "_law_hand" s__law_hand := df_of X G c 11 (d := d__law_hand) rfl rfl (hg__law_hand c)
theorem D__law_draw (X : K.In h) (G : h.Ns mainGlobals mg) (c : SaysM fa fn ex K) : Df K mg "_law_draw" s__law_draw := df_of X G c 12 (d := d__law_draw) rfl rfl (hg__law_draw c)
theorem D__law_word (X : K.In h) (G : h.Ns mainGlobals mg) (c : SaysM fa fn ex K) : Df K mg "_law_word" s__law_word := df_of X G c 13 (d := d__law_word) rfl rfl (hg__law_word c)
theorem D__law_leaf (X : K.In h) (G : h.Ns mainGlobals mg) (c : SaysM fa fn ex K) : Df K mg "_law_leaf" s__law_leaf := df_of X G c 14 (d := d__law_leaf) rfl rfl (hg__law_leaf c)
theorem D__law_value (X : K.In h) (G : h.Ns mainGlobals mg) (c : SaysM fa fn ex K) : Df K mg "_law_value" s__law_value := df_of X G c 15 (d := d__law_value) rfl rfl (hg__law_value c)
theorem D__law_below (X : K.In h) (G : h.Ns mainGlobals mg) (c : SaysM fa fn ex K) : Df K mg "_law_below" s__law_below := df_of X G c 16 (d := d__law_below) rfl rfl (hg__law_below c)
theorem D__law_written (X : K.In h) (G : h.Ns mainGlobals mg) (c : SaysM fa fn ex K) : Df K mg "_law_written" s__law_written := df_of X G c 17 (d := d__law_written) rfl rfl (hg__law_written c)
theorem D__law_asked (X : K.In h) (G : h.Ns mainGlobals mg) (c : SaysM fa fn ex K) : Df K mg "_law_asked" s__law_asked := df_of X G c 18 (d := d__law_asked) rfl rfl (hg__law_asked c)
theorem D__law_end (X : K.In h) (G : h.Ns mainGlobals mg) (c : SaysM fa fn ex K) : Df K mg "_law_end" s__law_end := df_of X G c 19 (d := d__law_end) rfl rfl (hg__law_end c)
theorem D__law_number (X : K.In h) (G : h.Ns mainGlobals mg) (c : SaysM fa fn ex K) : Df K mg "_law_number" s__law_number := df_of X G c 20 (d := d__law_number) rfl rfl (hg__law_number c)
theorem D__law_letters (X : K.In h) (G : h.Ns mainGlobals mg) (c : SaysM fa fn ex K) : Df K mg "_law_letters" s__law_letters := df_of X G c 21 (d := d__law_letters) rfl rfl (hg__law_letters c)
theorem D__law_leaf_read (X : K.In h) (G : h.Ns mainGlobals mg) (c : SaysM fa fn ex K) : Df K mg "_law_leaf_read" s__law_leaf_read := df_of X G c 22 (d := d__law_leaf_read) rfl rfl (hg__law_leaf_read c)
theorem D__law_list_read (X : K.In h) (G : h.Ns mainGlobals mg) (c : SaysM fa fn ex K) : Df K mg "_law_list_read" s__law_list_read := df_of X G c 23 (d := d__law_list_read) rfl rfl (hg__law_list_read c)
theorem D__law_record_read (X : K.In h) (G : h.Ns mainGlobals mg) (c : SaysM fa fn ex K) : Df K mg "_law_record_read" s__law_record_read := df_of X G c 24 (d := d__law_record_read) rfl rfl (hg__law_record_read c)
theorem D__law_read (X : K.In h) (G : h.Ns mainGlobals mg) (c : SaysM fa fn ex K) : Df K mg "_law_read" s__law_read := df_of X G c 25 (d := d__law_read) rfl rfl (hg__law_read c)
theorem D__law_due (X : K.In h) (G : h.Ns mainGlobals mg) (c : SaysM fa fn ex K) : Df K mg "_law_due" s__law_due := df_of X G c 26 (d := d__law_due) rfl rfl (hg__law_due c)
theorem D__law_bent (X : K.In h) (G : h.Ns mainGlobals mg) (c : SaysM fa fn ex K) : Df K mg "_law_bent" s__law_bent := df_of X G c 27 (d := d__law_bent) rfl rfl (hg__law_bent c)
theorem D_law (X : K.In h) (G : h.Ns mainGlobals mg) (c : SaysM fa fn ex K) : Df K mg "law" s_law := df_of X G c 28 (d := d_law) rfl rfl (hg_law c)
theorem facts {f : Addr} (X : K.In h) (G : h.Ns mainGlobals mg) (hfa : mg ("law" : Str) = some (.ref f)) (c : SaysM fa fn ex K) :
    ∃ fd : FuncData, (∀ (s : Shared) (v : Value), BindsTo s fd ⟨[v], []⟩ [("_law_script", v)]) ∧ ∀ base : Heap, K.In base → base.Ns mainGlobals mg → (∃ mm, base.Ns sysModules mm) → FnG P w K mg base CX0 129 f fd ["_law_script"] (spLaw K) := by
  have gi : ∀ {x : Str} {i : Int}, (He.Fa.int x i).ok K = true → ∃ u, mg x = some u ∧ RelV (.int i) u := fun c => by
    obtain ⟨t, e⟩ := He.int_ok X G c
    exact ⟨_, e, t, rfl⟩
  have gs : ∀ {x z : Str}, (He.Fa.str x z).ok K = true → ∃ u, mg x = some u ∧ RelV (.str z) u := fun c => by
    obtain ⟨t, e⟩ := He.str_ok X G c
    exact ⟨_, e, t, rfl⟩
  have T : Txt K mg := ⟨He.free_ok X G (hf_len c), He.free_ok X G (hf_range c), He.free_ok X G (hf_isinstance c), He.free_ok X G (hf_int c), He.free_ok X G (hf_str c), He.free_ok X G (hf_bool c), He.free_ok X G (hf_list c), He.free_ok X G (hf_dict c), He.free_ok X G (hf_tuple c), He.free_ok X G (hf_all c), He.free_ok X G (hf_enumerate c), He.free_ok X G (hf_max c), He.free_ok X G (hf_min c), He.free_ok X G (hf_sum c), He.free_ok X G (hf_sorted c), He.free_ok X G (hf_repr c), gs (hs_LETTERS c), gi (hi_GREATEST c), gi (hi_LONGEST_TEXT c), gi (hi_LONGEST_NAME c), gi (hi_MOST_FIELDS c), gi (hi_MOST_PLACES c)⟩
  have TD := gs (hs_DIGITS c)
  obtain ⟨m1, m⟩ := He.ba c.more
  obtain ⟨m2, m⟩ := He.ba m
  obtain ⟨m3, m⟩ := He.ba m
  obtain ⟨m4, m⟩ := He.ba m
  obtain ⟨m5, m6⟩ := He.ba m
  have no : PySem.W.findIn K (.ref (He.ga K "InvalidValue")) "value" = some none := He.noat_ok (hm_1 c)
  have xd := excB_ok m2
  have Te : TxQ K mg (He.ga K "CheckError") (He.ga K "InvalidValue") (He.ga K "InvalidPlace") := ⟨He.glo_ok X G (hg_CheckError c), He.glo_ok X G (hg_InvalidValue c), He.glo_ok X G (hg_InvalidPlace c), xd, no, He.exm_ok (hm_0 c), of_decide_eq_true m5, of_decide_eq_true m6⟩
  have LR : TxR K (He.ga K "Reader") := ⟨He.cls_ok (hm_2 c), He.noat_ok (hm_3 c), He.noat_ok (hm_4 c), He.noat_ok (hm_5 c)⟩
  obtain ⟨fdU, FU⟩ := c.d.def_ 29 (d := d_InvalidValue___init__) rfl
  have bU : Binds K fdU ["self", "value"] [] := FU.bindsN bi_InvalidValue___init__
  obtain ⟨fdR, FR⟩ := c.d.def_ 30 (d := d_Reader___init__) rfl
  have bR : Binds K fdR ["self", "text"] [] := FR.bindsN bi_Reader___init__
  obtain ⟨fd_takes, F_takes⟩ := c.d.def_ 31 (d := d_Reader_takes) rfl
  have D_takes : Dm_ K (He.ga K "Reader") "takes" "Reader.takes" s_Reader_takes := ⟨_, fd_takes, F_takes, He.meth_ok (hm_7 c)⟩
  obtain ⟨fd_until, F_until⟩ := c.d.def_ 32 (d := d_Reader_until) rfl
  have D_until : Dm_ K (He.ga K "Reader") "until" "Reader.until" s_Reader_until := ⟨_, fd_until, F_until, He.meth_ok (hm_8 c)⟩
  obtain ⟨fd_next_value, F_next_value⟩ := c.d.def_ 33 (d := d_Reader_next_value) rfl
  have D_next_value : Dm_ K (He.ga K "Reader") "next_value" "Reader.next_value" s_Reader_next_value := ⟨_, fd_next_value, F_next_value, He.meth_ok (hm_9 c)⟩
  obtain ⟨fd_list_items, F_list_items⟩ := c.d.def_ 34 (d := d_Reader_list_items) rfl
  have D_list_items : Dm_ K (He.ga K "Reader") "list_items" "Reader.list_items" s_Reader_list_items := ⟨_, fd_list_items, F_list_items, He.meth_ok (hm_10 c)⟩
  obtain ⟨fd_record_fields, F_record_fields⟩ := c.d.def_ 35 (d := d_Reader_record_fields) rfl
  have D_record_fields : Dm_ K (He.ga K "Reader") "record_fields" "Reader.record_fields" s_Reader_record_fields := ⟨_, fd_record_fields, F_record_fields, He.meth_ok (hm_11 c)⟩
  obtain ⟨fL, fdL, FL, gL⟩ := (D_law X G c).ex
  have e := hfa.symm.trans gL
  cases e
  refine ⟨fdL, fun s v => FunD.bindsA (ps := ["_law_script"]) FL bi_law s [v] rfl, fun base _ _ sy => ?_⟩
  have cDraw := ok_draw (P := P) (w := w) (mg := mg) (base := base) (D__law_draw X G c) T
  have cHand := ok_hand (P := P) (w := w) (mg := mg) (base := base) (D__law_hand X G c) T
  have cInt := ok_isint (P := P) (w := w) (mg := mg) (base := base) (D_is_integer X G c) T
  have cLets := ok_lets (P := P) (w := w) (mg := mg) (base := base) (D_is_letters X G c) T
  have cField := ok_field (P := P) (w := w) (mg := mg) (base := base) (D_is_field X G c) T cLets
  have cLeafQ := ok_isleaf (P := P) (w := w) (mg := mg) (base := base) (D_is_leaf X G c) T cInt cLets
  have cPart := ok_part (P := P) (w := w) (mg := mg) (base := base) (D_is_part X G c) T cLeafQ cField
  have cKids := ok_kids (P := P) (w := w) (mg := mg) (base := base) (D_children X G c) T
  have cIsV := ok_isval (P := P) (w := w) (mg := mg) (base := base) (D_is_value X G c) T cPart cKids
  have xU : XMk P w K mg base 1 "InvalidValue" (He.ga K "InvalidValue") "value" := ⟨⟨Te.gI, oexB_ok m1, xd⟩, ⟨_, fdU, _, He.eqO_ok m3, of_decide_eq_true m4, ok_iinit FU (oexB_ok m1) no, bU⟩, no⟩
  have cCheck := ok_checkv (P := P) (w := w) (mg := mg) (base := base) (D_check_value X G c) T cIsV xU
  have cWrit := ok_writ (P := P) (w := w) (mg := mg) (base := base) (D_written X G c) T cKids 60
  have cShown := ok_shown (P := P) (w := w) (mg := mg) (base := base) (D_shown_value X G c) T cCheck cWrit
  have mTakes := ok_takes (P := P) (w := w) (mg := mg) (base := base) D_takes T LR
  have mUntil := ok_until (P := P) (w := w) (mg := mg) (base := base) D_until T LR
  have mNext := ok_nextV (P := P) (w := w) (mg := mg) (base := base) D_next_value T TD LR D_list_items D_record_fields mTakes mUntil cField 61
  have kR : Mkr P w K mg base CX0 1 "Reader" (He.ga K "Reader") (spRInit (He.ga K "Reader")) := ⟨_, fdR, _, He.mkr_ok (hm_6 c), ok_rinit FR LR, He.glo_ok X G (hg_Reader c), bR⟩
  have cRead := ok_readV (P := P) (w := w) (mg := mg) (base := base) (D_read_value X G c) T cIsV cWrit kR mNext xU
  have cWord := ok_word (P := P) (w := w) (mg := mg) (base := base) (D__law_word X G c) T cDraw
  have cLeaf := ok_leafv (P := P) (w := w) (mg := mg) (base := base) (D__law_leaf X G c) T cDraw cWord
  have cValue := ok_value (P := P) (w := w) (mg := mg) (base := base) (D__law_value X G c) T cDraw cWord cLeaf 7
  have cEnd := ok_end (P := P) (w := w) (mg := mg) (base := base) (D__law_end X G c) T
  have cLL := ok_llets (P := P) (w := w) (mg := mg) (base := base) (D__law_letters X G c) T
  have cNum := ok_numL (P := P) (w := w) (mg := mg) (base := base) (D__law_number X G c) T
  have cLeafR := ok_leafR (P := P) (w := w) (mg := mg) (base := base) (D__law_leaf_read X G c) T cEnd cNum cLL
  have cReadL := ok_readL (P := P) (w := w) (mg := mg) (base := base) (D__law_read X G c) T (D__law_list_read X G c) (D__law_record_read X G c) cEnd cLL cLeafR 62
  have cBel := ok_belC (P := P) (w := w) (mg := mg) (base := base) (D__law_below X G c) T 100
  have cDue := ok_dueV (P := P) (w := w) (mg := mg) (base := base) (D__law_due X G c) T sy cReadL cBel
  have cLW := ok_lwrit (P := P) (w := w) (mg := mg) (base := base) (D__law_written X G c) T 60
  have cAsk := ok_askV (P := P) (w := w) (mg := mg) (base := base) (D__law_asked X G c) T Te sy cShown cRead
  have cBent := ok_bent (P := P) (w := w) (mg := mg) (base := base) (D__law_bent X G c) T cDraw
  exact ok_law FL T sy cHand cDraw cValue cShown cLW cAsk cBent cDue
end

end WT
open PySem PySem.W PySem.Calls PyProof.Rows
set_option maxRecDepth 100000 in
set_option maxHeartbeats 0 in
theorem PySem.Challenge.cw_latechecks_k85_values_as_texts_holds : PySem.Challenge.rw_latechecks_k85_values_as_texts.Holds := by
  w_on; o_law
  refine HandSHeadRun.head_any (r := OpenLaw.row PySem.Challenge.rw_latechecks_k85_values_as_texts) (q := view (OpenLaw.row PySem.Challenge.rw_latechecks_k85_values_as_texts).prog [46]) (H := WT.hk) (ob := WT.ob) (M := 6000) (loose := WT.loose) (d := HandSHeadRun.topDef (OpenLaw.row PySem.Challenge.rw_latechecks_k85_values_as_texts).prog 46) (kwd := []) WT.ob_eq
    (by kernel_rfl) (fun s => by kernel_rfl) WT.run (by kernel_rfl) (by kernel_rfl) (by kernel_rfl) (by rfl) (by first | assumption | decide +kernel) (by decide +kernel) ⟨rfl, rfl, rfl, rfl, rfl, by decide +kernel⟩ ?hw ?hc
  case hw => w_witness2
  case hc =>
    refine LW.walkG (l := PySem.Challenge.rw_latechecks_k85_values_as_texts) (n := 63) (k := 129) (x := "_law_script") (CX := L2.CX0) rfl (by decide) (by kernel_rfl) ⟨rfl, by decide, by decide⟩ (by kernel_rfl) ?F (fun _ _ _ _ z => z)
    intro w mg fa h Y G hmg0
    obtain ⟨K, KX, c⟩ := Y
    have hmg : mg ("law" : PySem.Str) = some (.ref fa) := by
      have e : (HandSHeadRun.topDef (OpenLaw.row PySem.Challenge.rw_latechecks_k85_values_as_texts).prog 46).name = ("law" : PySem.Str) := by kernel_rfl
      rw [← e]
      exact hmg0
    obtain ⟨fd, hb, hF⟩ := WT.facts (P := (PySem.Challenge.rw_latechecks_k85_values_as_texts).prog) (w := w) KX G hmg c
    exact ⟨K, fd, WT.spLaw K, KX, hb, fun H a ns hl _ hS => ⟨a, ns, rfl, hS, hl, fun _ => rfl⟩, hF⟩
#print axioms PySem.Challenge.cw_latechecks_k85_values_as_texts_holds
