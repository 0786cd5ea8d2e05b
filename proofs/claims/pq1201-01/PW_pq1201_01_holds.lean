import PyProof.Rows.All
import Wide.All
import OpenK.AllK
import Wide.FinOn
import Lean
import PySem.Challenge.RW_pq1201_01
set_option Elab.async false
set_option maxRecDepth 100000
set_option maxHeartbeats 500000
set_option linter.all false
/-! A logic over the stacks on which nobody holds a bytearray. -/
namespace Mine
open PySem PySem.W PySem.Spec PySem.Calls PyProof.Rows
open Sem (wp)

def holders : List String := ["bytearray.__contains__", "bytearray.__mod__", "bytearray.__rmod__", "_struct.pack_into.held", "bytearray.find.held"] ++ Builtin.Bytes.decodersThatHold
def calm : Code → Bool
  | .builtin id _ => !holders.contains id
  | _ => true
structure GoodC (Γ : PySem.Ctx) : Prop where
  here : calm Γ.code = true
  below : ∀ x ∈ Γ.below, calm x.1 = true
theorem GoodC.enter {Γ : PySem.Ctx} (g : GoodC Γ) {c : Code} (hc : calm c = true) (h : Option Value) (p : Pos) : GoodC (Γ.enter c h p) :=
  ⟨hc, fun x hx => by
    rcases List.mem_cons.mp hx with rfl | hx
    · exact g.here
    · exact g.2 x hx⟩
theorem GoodC.goto {Γ : PySem.Ctx} (g : GoodC Γ) {c : Code} (hc : calm c = true) : GoodC (Γ.goto c) := ⟨hc, g.2⟩

def wpP {α : Type} (M : Model) (A : Around) (t : Sem α) (Q : α → Shared → Prop) (E : Value → Shared → Prop) (s : Shared) : Prop :=
  ∀ (Γ : PySem.Ctx) p, Γ.In A → GoodC Γ → wp M Γ t (fun a _ s' => Q a s') (fun e _ s' => E e s') p s
def codeP (M : Model) (A : Around) (c : Code) (R : Result → Shared → Prop) (s : Shared) : Prop :=
  ∀ (Γ : PySem.Ctx) p, Γ.code = c → Γ.Below A → GoodC Γ → wpCode M Γ R p s

section
variable {α β : Type} {M : Model} {A : Around} {E : Value → Shared → Prop} {s : Shared}
theorem wpP_of {t : Sem α} {Q : α → Shared → Prop} (h : wpAny M A t Q E s) : wpP M A t Q E s := fun Γ p hi _ => h Γ p hi
theorem codeP_of {c : Code} {R : Result → Shared → Prop} (h : codeAny M A c R s) : codeP M A c R s := fun Γ p hc hb _ => h Γ p hc hb
theorem wpP_pure {a : α} {Q : α → Shared → Prop} (h : Q a s) : wpP M A (pure a) Q E s := fun _ _ _ _ => h
theorem wpP_mono {t : Sem α} {Q Q' : α → Shared → Prop} {E' : Value → Shared → Prop} (h : wpP M A t Q E s)
    (hQ : ∀ a s, Q a s → Q' a s) (hE : ∀ e s, E e s → E' e s) : wpP M A t Q' E' s :=
  fun Γ p hi hg => Sem.wp_mono M Γ t (fun a _ s => hQ a s) (fun e _ s => hE e s) p s (h Γ p hi hg)
theorem codeP_mono {c : Code} {R R' : Result → Shared → Prop} (h : codeP M A c R s) (hR : ∀ r s, R r s → R' r s) : codeP M A c R' s :=
  fun Γ p hc hi hg => wpCode_mono hR (h Γ p hc hi hg)
theorem wpP_bind {m : Sem α} {f : α → Sem β} {Q : β → Shared → Prop} (h : wpP M A m (fun a s' => wpP M A (f a) Q E s') E s) : wpP M A (m >>= f) Q E s := fun Γ p hi hg => by
  rw [Sem.wp_bind']
  exact Sem.wp_mono M Γ m (fun a p' s' h' => h' Γ p' hi hg) (fun _ _ _ h' => h') p s (h Γ p hi hg)
/-- the first part is the library's -/
theorem wpP_first {m : Sem α} {f : α → Sem β} {Q : β → Shared → Prop} (h : wpAny M A m (fun a s' => wpP M A (f a) Q E s') E s) : wpP M A (m >>= f) Q E s := wpP_bind (wpP_of h)
theorem wpP_map {m : Sem α} {f : α → β} {Q : β → Shared → Prop} (h : wpP M A m (fun a s' => Q (f a) s') E s) : wpP M A (f <$> m) Q E s := fun Γ p hi hg => by
  rw [Sem.wp_map]; exact h Γ p hi hg
theorem wpP_holding {vs : List Value} {m : Sem α} {Q : α → Shared → Prop} (h : wpP M A m Q E s) : wpP M A (holding vs m) Q E s := fun Γ p hi hg => by
  rw [Sem.wp_holding]; exact h Γ p hi hg
theorem wpP_keep {vs : List Value} {m : Sem α} {Q : α → Shared → Prop} (h : wpP M A m Q E s) : wpP M A (m.keep vs) Q E s := fun Γ p hi hg => by
  rw [Sem.wp_keep]; exact h Γ p hi hg
theorem wpP_onRaise {m : Sem α} {k : Value → Sem Unit} {Q : α → Shared → Prop}
    (h : wpP M A m Q (fun e s' => wpP M A (k e) (fun _ s'' => E e s'') E s') s) : wpP M A (m.onRaise k) Q E s := fun Γ p hi hg => by
  rw [Sem.wp_onRaise]
  exact Sem.wp_mono M Γ m (fun _ _ _ h' => h') (fun e p' s' h' => h' Γ p' hi hg) p s (h Γ p hi hg)
theorem wpP_runValue {c : Code} {Q : Value → Shared → Prop} (hq : calm c = true)
    (hc : codeP M A c (fun r s' => match r with | .ok (.ret v) => Q v s' | .ok _ => False | .error e => E e s') s) :
    wpP M A (runValue c) Q E s := fun Γ p hi hg => by rw [Sem.wp_runValue]; exact hc _ p rfl (hi.enter c none p (by intro x; cases x)) (hg.enter hq none p)
theorem wpP_call {f : Value} {pos : List Value} {kw : List (Str × Value)} {Q : Value → Shared → Prop}
    (hc : codeP M A (.call f ⟨pos, kw⟩) (fun r s' => match r with | .ok (.ret v) => Q v s' | .ok _ => False | .error e => E e s') s) :
    wpP M A (call f pos kw) Q E s := wpP_runValue rfl hc
theorem wpP_run {c : Code} {h : Option Value} {Q : Flow → Shared → Prop} (hq : calm c = true)
    (hc : codeP M (A.mark h) c (fun r s' => match r with | .ok f => Q f s' | .error e => E e s') s) (hnb : h ≠ some byPass := by intro x; cases x) :
    wpP M A (run c h) Q E s := fun Γ p hi hg => by rw [Sem.wp_run]; exact hc _ p rfl (hi.enter c h p hnb) (hg.enter hq h p)
abbrev finP (M : Model) (A : Around) (R : Result → Shared → Prop) (fin : Fin) (s' : Shared) : Prop := match fin with
  | .done f => R (.ok f) s'
  | .again c' => (c'.quiet = true ∧ calm c' = true) ∧ codeP M A c' R s'
theorem codeP_of_tree {c : Code} {R : Result → Shared → Prop} (h : wpP M (A.under c) (M.den c) (finP M A R) (fun e s' => R (.error e) s') s) : codeP M A c R s := fun Γ p hc hi hg => by
  rw [wpCode_iff_wp, hc]
  refine Sem.wp_mono M Γ _ (fun fin p' s' h' => ?_) (fun _ _ _ h' => h') p s (h Γ p (hc ▸ hi.in) hg)
  cases fin with
  | done f => exact h'
  | again c' => exact ⟨h'.1.1, h'.2 (Γ.goto c') p' rfl (hi.goto c') (hg.goto h'.1.2)⟩
theorem codeP_loop {c : Code} {R : Result → Shared → Prop} (hq : c.quiet = true) (hc : calm c = true) (I : Nat → Shared → Prop)
    (turn : ∀ n s, I n s → wpP M (A.under c) (M.den c)
      (fun fin s' => match fin with | .done f => R (.ok f) s' | .again c' => (c' = c ∧ ∃ m, m < n ∧ I m s') ∨ ((c'.quiet = true ∧ calm c' = true) ∧ codeP M A c' R s')) (fun e s' => R (.error e) s') s)
    (n : Nat) (h : I n s) : codeP M A c R s := by
  induction n using Nat.strongRecOn generalizing s with
  | ind n ih =>
    refine codeP_of_tree (wpP_mono (turn n s h) (fun fin s' hf => ?_) fun _ _ h' => h')
    cases fin with
    | done f => exact hf
    | again c' =>
      rcases hf with ⟨rfl, m, hm, hI⟩ | hf
      · exact ⟨⟨hq, hc⟩, ih m hm hI⟩
      · exact hf
end

/-! nobody holds it -/
theorem not_held {id : String} {a : Args} (h : calm (.builtin id a) = true) : holders.contains id = false := by
  have e : (!holders.contains id) = true := h
  cases q : holders.contains id with
  | false => rfl
  | true => rw [q] at e; cases e

theorem exported_no {M : Model} {A : Around} {E : Value → Shared → Prop} {s : Shared} {self : Value} {Q : Bool → Shared → Prop} (h : Q false s) :
    wpP M A (Builtin.Bytes.exported self) Q E s := fun Γ p _ hg => by
  have hall : ∀ x ∈ (Γ.code, p) :: Γ.below, calm x.1 = true := fun x hx => by
    rcases List.mem_cons.mp hx with rfl | hx
    · exact hg.here
    · exact hg.2 x hx
  show wp M Γ (Builtin.Bytes.exported self) (fun a _ s' => Q a s') (fun e _ s' => E e s') p s
  unfold Builtin.Bytes.exported
  show Q (List.any ((Γ.code, p) :: Γ.below) _) s
  rw [List.any_eq_false.mpr]
  · exact h
  · rintro ⟨c, q⟩ hx
    have hc := hall _ hx
    dsimp only at hc ⊢
    cases c
    case builtin id args =>
      have n := not_held hc
      have ne : ∀ y, holders.contains y = true → ¬ id = y := fun y hy e => by rw [e, hy] at n; cases n
      have n1 := ne "bytearray.__contains__" (by decide +kernel)
      have n2 := ne "bytearray.__mod__" (by decide +kernel)
      have n3 := ne "bytearray.__rmod__" (by decide +kernel)
      have n4 := ne "_struct.pack_into.held" (by decide +kernel)
      have n5 := ne "bytearray.find.held" (by decide +kernel)
      delta Builtin.Bytes.exported.match_1
      show ¬ ((dite (id = "bytearray.__contains__") _ _ : Bool) = true)
      rw [dif_neg n1, dif_neg n2, dif_neg n3, dif_neg n4, dif_neg n5]
      obtain ⟨pos, kw⟩ := args
      cases pos with
      | nil => exact Bool.false_ne_true
      | cons v r =>
        show ¬ ((Builtin.Bytes.sameRef v self && Builtin.Bytes.decodersThatHold.contains id) = true)
        intro hh
        have hm := (Bool.and_eq_true _ _ ▸ hh).2
        exact ne id (List.contains_iff_mem.mpr (List.mem_append_right _ (List.contains_iff_mem.mp hm))) rfl
    all_goals exact Bool.false_ne_true

section
variable {prog : Program} {w : World} {A : Around} {R : Result → Shared → Prop} {s : Shared}
theorem codeP_func {body : List Stmt} {env : Env}
    (h : wpP (model prog w) (A.deeper env) (execs body env) (fun f s' => R (.ok (.ret (match f with | .ret v => v | _ => .none))) s')
      (fun e s' => wpP (model prog w) (A.deeper env) (leaving env e) (fun _ s'' => R (.error e) s'') (fun e' s'' => R (.error e') s'') s') s) :
    codeP (model prog w) A (.func body env) R s := by
  refine codeP_of_tree ?_
  show wpP _ (A.deeper env) (do point; match ← (execs body env).onRaise (leaving env) with | .ret v => ret v | _ => ret .none) _ _ s
  refine wpP_first (wpAny_point (wpP_bind (wpP_onRaise (wpP_mono h (fun f s' h' => ?_) fun _ _ h' => h'))))
  cases f <;> exact wpP_pure h'

theorem codeP_call_function {a : Addr} {args : Args} {o : Obj} {fd : FuncData} {body : List Stmt} (hroom : A.depth < recursionLimit)
    (ho : s.heap.get? a = some o) (hd : o.data = .func fd) (hco : fd.scope.isCoroutine = false) (hgen : fd.scope.isGenerator = false) (hbody : fd.body = .stmts body) (hcd : s.heap.CodeRec fd.code fd.qualname)
    (h : wpAny (model prog w) A.in1 (bindArgs fd args) (fun binds s₁ =>
      wpAny (model prog w) A.in1 (newFunctionEnv fd.scope fd.globals fd.closure binds (fd.qualname ++ ".<locals>.") (some a) fd.code none fd.builtins)
        (fun env s₂ => s₂.heap.NoLimit ∧ codeP (model prog w) A (.func body env) R s₂) (fun e s' => R (.error e) s') s₁) (fun e s' => R (.error e) s') s) :
    codeP (model prog w) A (.call (.ref a) args) R s := by
  refine codeP_of_tree (wpP_of ?_)
  show wpAny _ A.in1 (callAny (.ref a) args) _ _ s
  simp only [callAny]
  refine wpAny_bind (wpAny_load ho ?_)
  obtain ⟨c, oc, vs, tq, hc, hoc, hdc, hq⟩ := hcd
  simp only [hd, callFunction, hco, hgen, hbody, hc]
  rw [hc] at h
  refine wpAny_bind (m := field (.ref c) 1) (wpAny_field hoc hdc hq (wpAny_bind (wpAny_pure ?_)))
  refine wpAny_bind (wpAny_mono h (fun binds s₁ h₁ => wpAny_bind (wpAny_mono h₁ (fun env s₂ h₂ => wpAny_bind (wpAny_enterFrame h₂.1 hroom (wpAny_pure ?_))) fun _ _ h' => h')) fun _ _ h' => h')
  exact And.intro ⟨rfl, rfl⟩ h₂.2

theorem codeP_call_def {a : Addr} {o : Obj} {fd : FuncData} {body : List Stmt} {args : Args} {binds : List (Str × Value)}
    (hroom : A.depth < recursionLimit) (ho : s.heap.get? a = some o) (hdata : o.data = .func fd) (hlim : s.heap.NoLimit) (hcd : s.heap.CodeRec fd.code fd.qualname)
    (hbody : fd.body = .stmts body) (hbind : BindsTo s fd args binds)
    (hcell : ∀ x ∈ fd.scope.names, x.2 ≠ .cell) (hloc : ∀ x ∈ binds, fd.scope.names.lookup x.1 = some .local)
    (h : ∀ h₀, h₀.Ns s.heap.objs.size (fun x => binds.reverse.lookup x) → (∀ b o, s.heap.get? b = some o → h₀.get? b = some o) →
      wpP (model prog w) (A.deeper (callEnv fd s.heap.objs.size a)) (execs body (callEnv fd s.heap.objs.size a)) (fun f s' => R (.ok (.ret (match f with | .ret v => v | _ => .none))) s')
        (fun _ _ => False) { s with heap := h₀, toks := s.toks + binds.length })
    (hco : fd.scope.isCoroutine = false) (hgen : fd.scope.isGenerator = false) (hk : fd.scope.kind = .function) :
    codeP (model prog w) A (.call (.ref a) args) R s := by
  refine codeP_call_function hroom ho hdata hco hgen hbody hcd (hbind _ _ _ _ ?_)
  refine wpAny_newFunctionEnv hcell hloc (fun h₀ hns₀ hsb₀ => ⟨hlim.fresh _ hsb₀, codeP_func (wpP_mono (h h₀ hns₀ fun b o e => ?_) (fun _ _ x => x) fun _ _ x => x.elim)⟩) hk
  exact hsb₀.extBut b o (Nat.ne_of_lt (Heap.lt_size e)) (Heap.get?_push_of_some _ e)
end
end Mine
namespace Mine
open PySem PySem.W PySem.Spec PySem.Calls PyProof.Rows

structure Base (K : Frag) (p : Program) (loose : List Str) (mean : ExcName → Option Value) (mg mb : Str → Option Value) (hb : Heap) : Prop where
  X : K.In hb
  T : Top p loose mean mg mb hb

abbrev Led := List (Addr × Obj)
abbrev adrs (l : Led) : List Nat := l.map (·.1)

/-- the room around a call: k more frames may stand on it -/
structure Lo (k : Nat) (A : Around) : Prop where
  handled : A.handled = none
  depth : A.depth + k ≤ 900
  units : A.units + 20 * k ≤ 9000
theorem Lo.mono {k j : Nat} {A : Around} (h : Lo k A) (e : j ≤ k) : Lo j A := ⟨h.1, by have := h.2; omega, by have := h.3; omega⟩
theorem Lo.deeper {k : Nat} {A : Around} {env : Env} (h : Lo (k + 1) A) : Lo k (A.deeper env) := ⟨h.1, by have := h.2; show A.depth + 1 + k ≤ 900; omega, by have := h.3; show A.units + 3 + 20 * k ≤ 9000; omega⟩
theorem Lo.make {k : Nat} {A : Around} {C : Addr} {vals : List Value} (h : Lo (k + 1) A) : Lo k (A.under (.builtin "type.__call__" ⟨.ref C :: vals, []⟩)) :=
  ⟨h.1, by have := h.2; show A.depth + 1 + k ≤ 900; omega, by have := h.3; show A.units + 1 + 20 * k ≤ 9000; omega⟩
theorem Lo.in1 {k : Nat} {A : Around} (h : Lo (k + 1) A) : Lo k A.in1 := ⟨h.1, by have := h.2; show A.depth + k ≤ 900; omega, by have := h.3; show A.units + 1 + 20 * k ≤ 9000; omega⟩
theorem Lo.room {k : Nat} {A : Around} (h : Lo k A) : A.depth < recursionLimit := by have := h.2; show A.depth < 1000; omega
theorem Lo.line {k : Nat} {A : Around} (h : Lo k A) : A.units < cLine := by have := h.3; show A.units < 9900; omega

structure Has (hb : Heap) (s : Shared) (fp : Led) : Prop where
  at_ : ∀ q ∈ fp, s.heap.get? q.1 = some q.2 ∧ hb.get? q.1 = none
  nd : (adrs fp).Nodup
  stays : hb.StaysIn s.heap

/-- the call returns: fp's objects have become nf's (some of fp's addresses, and new ones); all else is kept -/
inductive Rets (s : Shared) (fp : Led) (φ : Value → Led → Prop) (r : Result) (s' : Shared) : Prop
  | mk (v : _) (nf : _) (h' : _) (tk' : _) (e0 : r = .ok (.ret v)) (e1 : s' = { s with heap := h', toks := tk' }) (e2 : (∀ b o, s.heap.get? b = some o → b ∉ adrs fp → h'.get? b = some o)) (e3 : (∀ q ∈ nf, h'.get? q.1 = some q.2 ∧ (q.1 ∈ adrs fp ∨ s.heap.get? q.1 = none))) (e4 : (adrs nf).Nodup) (e5 : φ v nf) : Rets s fp φ r s'
/-- the ledger, parted -/
def Takes (news fp rest : Led) : Prop := news.Perm (fp ++ rest)
theorem Takes.nil {news : Led} : Takes news [] news := List.Perm.refl _
def Pull (q : Addr × Obj) (news rest : Led) : Prop := news.Perm (q :: rest)
theorem Pull.head {q : Addr × Obj} {r : Led} : Pull q (q :: r) r := List.Perm.refl _
theorem Pull.tail {p q : Addr × Obj} {r r' : Led} (h : Pull q r r') : Pull q (p :: r) (p :: r') := (List.Perm.cons p h).trans (List.Perm.swap q p r')
theorem Pull.app {q : Addr × Obj} {W r r' : Led} (h : Pull q r r') : Pull q (W ++ r) (W ++ r') := (List.Perm.append_left W h).trans List.perm_middle
def PullL (V news rest : Led) : Prop := news.Perm (V ++ rest)
theorem PullL.whole {V : Led} : PullL V V [] := by unfold PullL; rw [List.append_nil]
theorem PullL.head {V r : Led} : PullL V (V ++ r) r := List.Perm.refl _
theorem PullL.tail {p : Addr × Obj} {V r r' : Led} (h : PullL V r r') : PullL V (p :: r) (p :: r') := (List.Perm.cons p h).trans List.perm_middle.symm
theorem PullL.app {V W r r' : Led} (h : PullL V r r') : PullL V (W ++ r) (W ++ r') := by
  refine (List.Perm.append_left W h).trans ?_
  rw [← List.append_assoc, ← List.append_assoc]
  exact List.Perm.append_right r' List.perm_append_comm
theorem Takes.cons {q : Addr × Obj} {news n1 fp rest : Led} (h : Pull q news n1) (t : Takes n1 fp rest) : Takes news (q :: fp) rest := h.trans (List.Perm.cons q t)
theorem Takes.app {V news n1 fp rest : Led} (h : PullL V news n1) (t : Takes n1 fp rest) : Takes news (V ++ fp) rest := by
  refine h.trans ?_
  rw [List.append_assoc]
  exact List.Perm.append_left V t
theorem Takes.last {V news rest : Led} (h : PullL V news rest) : Takes news V rest := h

theorem rets_end {s : Shared} {fp led r1 : Led} {φ : Value → Led → Prop} {g : Heap} {s' : Shared} {L' : Addr} {m' : Str → Option Value} {v : Value} {nf : Led}
    {RR : Result → Shared → Prop} (hRR : ∀ r s', Rets s fp φ r s' → RR r s') (hg2 : ∀ b o, s.heap.get? b = some o → b ∉ adrs fp → g.get? b = some o)
    (F : Fr g L' s'.heap m') (N : News g L' s'.heap led) (D : (adrs led).Nodup) (hφ : φ v nf) (P1 : Takes led nf r1) (hs : s' = { s with heap := s'.heap, toks := s'.toks } := by rfl) :
    RR (.ok (.ret v)) s' := by
  refine hRR _ _ ?_
  obtain ⟨h', gg, dd, tk', oo⟩ := s'
  have hsub : ∀ q ∈ nf, q ∈ led := fun q hq => P1.mem_iff.mpr (List.mem_append_left _ hq)
  refine ⟨v, nf, h', tk', rfl, hs, fun b o e hb => F.keep b o (hg2 b o e hb), fun q hq => ⟨(N q (hsub q hq)).1, ?_⟩, ?_, hφ⟩
  · by_cases hm : q.1 ∈ adrs fp
    · exact .inl hm
    · refine .inr ?_
      cases e : s.heap.get? q.1 with
      | none => rfl
      | some o =>
        have h1 := hg2 _ _ e hm
        have h2 := (N q (hsub q hq)).2.2
        rw [h1] at h2
        cases h2
  · have h1 : (adrs (nf ++ r1)).Nodup := (List.Perm.nodup_iff (P1.map _)).mp D
    unfold adrs at h1 ⊢
    rw [List.map_append] at h1
    exact (List.nodup_append.mp h1).1

/-- the same, where what is handed back lies in the ledger as it is -/
theorem rets_same {s : Shared} {fp led : Led} {φ : Value → Led → Prop} {g : Heap} {s' : Shared} {L' : Addr} {m' : Str → Option Value} {v : Value} {nf : Led}
    {RR : Result → Shared → Prop} (hRR : ∀ r s', Rets s fp φ r s' → RR r s') (hg2 : ∀ b o, s.heap.get? b = some o → b ∉ adrs fp → g.get? b = some o)
    (F : Fr g L' s'.heap m') (N : News g L' s'.heap led) (hφ : φ v nf) (D : (adrs nf).Nodup) (sub : ∀ q ∈ nf, q ∈ led) (hs : s' = { s with heap := s'.heap, toks := s'.toks } := by rfl) :
    RR (.ok (.ret v)) s' :=
  rets_end (led := nf) (r1 := []) hRR hg2 F (fun q hq => N q (sub q hq)) D hφ (by unfold Takes; rw [List.append_nil]) hs
theorem nd_off {d : Addr} {l : Led} (D : (adrs l).Nodup) (h : LCg.Off1 d l) : (d :: adrs l).Nodup := by
  refine List.nodup_cons.mpr ⟨?_, D⟩
  clear D
  induction l with
  | nil => intro h; cases h
  | cons p r ih =>
    intro hm
    rcases List.mem_cons.mp hm with e | hm
    · exact h.1 e.symm
    · exact ih h.2 hm
section
variable {prog : Program} {w : World} {A : Around} {s : Shared} {K : Frag} {p : Program} {loose : List Str} {mean : ExcName → Option Value} {mg mb : Str → Option Value} {hb : Heap} {fp : Led}
  {R : Result → Shared → Prop} {name qual : Str} {params : Arguments} {body : List Stmt} {scope : Scope} {dV kV doc pm cdv ct oc : Value} {an od : Option Addr} {osl : Array (Option Value)} {f : Addr} {args : Args} {binds : List (Str × Value)}

theorem enter {k : Nat} (B : Base K p loose mean mg mb hb) (H : Has hb s fp) (lo : Lo (k + 1) A)
    (ho : K.lookup f = some ⟨oc, od, .func (fnOf name qual params body scope dV kV doc pm an cdv ct), osl⟩) (hcd : codeIn K cdv qual = true)
    (hbind : BindsTo s (fnOf name qual params body scope dV kV doc pm an cdv ct) args binds) (hloc : ∀ y ∈ binds, scope.names.lookup y.1 = some .local)
    (h : ∀ RR : Result → Shared → Prop, (∀ r s', R r s' → RR r s') → ∀ g L' h₁ A', Lo k A' → hb.StaysIn g → (∀ b o, g.get? b = some o → s.heap.get? b = some o) → (∀ b o, s.heap.get? b = some o → b ∉ adrs fp → g.get? b = some o) →
      Fr g L' h₁ (fun y => binds.reverse.lookup y) → News g L' h₁ fp → (adrs fp).Nodup → K.In g → Top p loose mean mg mb g →
      wpAny (model prog w) A' (execs body (envOf qual scope L' f cdv))
        (fun fl s' => RR (.ok (.ret (match fl with | .ret v => v | _ => .none))) s') (fun _ _ => False) { s with heap := h₁, toks := s.toks + binds.length })
    (hcell : ∀ x ∈ scope.names, x.2 ≠ .cell) (hco : scope.isCoroutine = false) (hgen : scope.isGenerator = false) (hk : scope.kind = .function) :
    codeAny (model prog w) A (.call (.ref f) args) R s := by
  have hX := B.X.keeps H.stays
  refine codeAny_call_def (fd := fnOf name qual params body scope dV kV doc pm an cdv ct) (body := body) (binds := binds) lo.room (hX _ _ ho) rfl (B.T.nolimit.keeps H.stays) (codeRec_of hX hcd) rfl hbind hcell hloc (fun h₁ hns hk₁ => ?_) hco hgen hk
  have st : hb.StaysIn (hideAll s.heap (adrs fp)) := fun b o e => hideAll_get _ (H.stays b o e) fun hm => by
    obtain ⟨q, hq, rfl⟩ := List.mem_map.mp hm
    rw [(H.at_ q hq).2] at e; cases e
  refine wpAny_mono (h R (fun _ _ x => x) (hideAll s.heap (adrs fp)) s.heap.objs.size h₁ _ lo.deeper st (fun b o e => of_hideAll _ e) (fun b o e hb => hideAll_get _ e hb) ⟨hns, fun b o e => hk₁ b o (of_hideAll _ e), Nat.le_of_eq (hideAll_size _ _)⟩
    (fun q hq => ⟨hk₁ _ _ (H.at_ q hq).1, Nat.ne_of_lt (Heap.lt_size (H.at_ q hq).1), hideAll_none _ (List.mem_map_of_mem hq)⟩) H.nd (B.X.keeps st) (B.T.keeps st)) (fun _ _ x => x) fun _ _ x => x.elim
end

section
variable {M : Model} {A : Around} {s : Shared} {hb h₀ : Heap} {L : Addr} {m : Str → Option Value} {news fp rest : Led} {f : Value} {args : List Value} {φ : Value → Led → Prop} {Q : Value → Shared → Prop} {E : Value → Shared → Prop}

theorem has_of (St : hb.StaysIn h₀) (F : Fr h₀ L s.heap m) (N : News h₀ L s.heap news) (D : (adrs news).Nodup) (P : Takes news fp rest) : Has hb s fp := by
  refine ⟨fun q hq => ?_, ?_, fun b o e => F.keep b o (St b o e)⟩
  · have hm : q ∈ news := P.mem_iff.mpr (List.mem_append_left _ hq)
    refine ⟨(N q hm).1, ?_⟩
    cases e : hb.get? q.1 with
    | none => rfl
    | some o => have h1 := St _ _ e; rw [(N q hm).2.2] at h1; cases h1
  · have h1 : (adrs (fp ++ rest)).Nodup := (List.Perm.nodup_iff (P.map _)).mp D
    unfold adrs at h1 ⊢
    rw [List.map_append] at h1
    exact (List.nodup_append.mp h1).1

theorem after {h' : Heap} {nf : Led} (F : Fr h₀ L s.heap m) (N : News h₀ L s.heap news) (D : (adrs news).Nodup) (P : Takes news fp rest)
    (keep : ∀ b o, s.heap.get? b = some o → b ∉ adrs fp → h'.get? b = some o) (foot : ∀ q ∈ nf, h'.get? q.1 = some q.2 ∧ (q.1 ∈ adrs fp ∨ s.heap.get? q.1 = none)) (nd : (adrs nf).Nodup) :
    Fr h₀ L h' m ∧ News h₀ L h' (nf ++ rest) ∧ (adrs (nf ++ rest)).Nodup := by
  have D1 : (adrs (fp ++ rest)).Nodup := (List.Perm.nodup_iff (P.map _)).mp D
  have D2 := D1
  unfold adrs at D2
  rw [List.map_append] at D2
  have inN : ∀ q ∈ fp ++ rest, q ∈ news := fun q hq => P.mem_iff.mpr hq
  have fpN : ∀ b ∈ adrs fp, ∃ o, (b, o) ∈ news := fun b hb => by
    obtain ⟨q, hq, rfl⟩ := List.mem_map.mp hb
    exact ⟨q.2, inN _ (List.mem_append_left _ hq)⟩
  obtain ⟨oL, es, ep, hL, hLd, hLk, hLf⟩ := F.ns
  have nL : L ∉ adrs fp := fun hm => by
    obtain ⟨o, ho⟩ := fpN L hm
    exact (N _ ho).2.1 rfl
  refine ⟨⟨⟨oL, es, ep, keep _ _ hL nL, hLd, hLk, hLf⟩, fun b o e => keep b o (F.keep b o e) fun hm => ?_, F.above⟩, fun q hq => ?_, ?_⟩
  · obtain ⟨o', ho⟩ := fpN b hm
    have := (N _ ho).2.2
    rw [e] at this; cases this
  · rcases List.mem_append.mp hq with hq | hq
    · obtain ⟨h1, h2⟩ := foot q hq
      rcases h2 with h2 | hs
      · obtain ⟨o, ho⟩ := fpN _ h2
        exact ⟨h1, (N _ ho).2.1, (N _ ho).2.2⟩
      · refine ⟨h1, fun e => ?_, ?_⟩
        · rw [e, hL] at hs; cases hs
        · cases e : h₀.get? q.1 with
          | none => rfl
          | some o => rw [F.keep _ _ e] at hs; cases hs
    · have hq' := inN q (List.mem_append_right _ hq)
      refine ⟨keep _ _ (N q hq').1 fun hm => ?_, (N q hq').2⟩
      exact (List.nodup_append.mp D2).2.2 _ hm _ (List.mem_map_of_mem hq) rfl
  · unfold adrs at nd ⊢
    rw [List.map_append]
    refine List.nodup_append.mpr ⟨nd, (List.nodup_append.mp D2).2.1, ?_⟩
    intro a ha b hb e
    subst e
    obtain ⟨q, hq, rfl⟩ := List.mem_map.mp ha
    rcases (foot q hq).2 with h2 | hs
    · exact (List.nodup_append.mp D2).2.2 _ h2 _ hb rfl
    · obtain ⟨r, hr, e⟩ := List.mem_map.mp hb
      have h1 := (N r (inN r (List.mem_append_right _ hr))).1
      rw [e, hs] at h1; cases h1

theorem use_code {R : Result → Shared → Prop} (St : hb.StaysIn h₀) (F : Fr h₀ L s.heap m) (N : News h₀ L s.heap news) (D : (adrs news).Nodup) (P : Takes news fp rest)
    (c : Has hb s fp → codeAny M A (.call f ⟨args, []⟩) (Rets s fp φ) s)
    (k : ∀ v nf, φ v nf → ∀ h' tk', Fr h₀ L h' m → News h₀ L h' (nf ++ rest) → (adrs (nf ++ rest)).Nodup → R (.ok (.ret v)) { s with heap := h', toks := tk' }) : codeAny M A (.call f ⟨args, []⟩) R s := by
  refine codeAny_mono (c (has_of St F N D P)) ?_
  rintro r s' ⟨v, nf, h', tk', rfl, rfl, keep, foot, nd, hφ⟩
  obtain ⟨F', N', D'⟩ := after F N D P keep foot nd
  exact k v nf hφ h' tk' F' N' D'
theorem use_call (St : hb.StaysIn h₀) (F : Fr h₀ L s.heap m) (N : News h₀ L s.heap news) (D : (adrs news).Nodup) (P : Takes news fp rest)
    (c : Has hb s fp → codeAny M A (.call f ⟨args, []⟩) (Rets s fp φ) s)
    (k : ∀ v nf, φ v nf → ∀ h' tk', Fr h₀ L h' m → News h₀ L h' (nf ++ rest) → (adrs (nf ++ rest)).Nodup → Q v { s with heap := h', toks := tk' }) : wpAny M A (call f args) Q E s := by
  refine wpAny_call (codeAny_mono (c (has_of St F N D P)) ?_)
  rintro r s' ⟨v, nf, h', tk', rfl, rfl, keep, foot, nd, hφ⟩
  obtain ⟨F', N', D'⟩ := after F N D P keep foot nd
  exact k v nf hφ h' tk' F' N' D'
end

/-! distinct addresses without arithmetic -/
inductive UpdN (d : Addr) (o o' : Obj) : Led → Led → Prop
  | head {r} : UpdN d o o' ((d, o) :: r) ((d, o') :: r)
  | tail {p r r'} : UpdN d o o' r r' → UpdN d o o' (p :: r) (p :: r')
theorem UpdN.mem {d : Addr} {o o' : Obj} {l l' : Led} (U : UpdN d o o' l l') : d ∈ adrs l := by
  induction U with
  | head => exact List.mem_map_of_mem (List.mem_cons_self ..)
  | tail _ ih => exact List.mem_cons_of_mem _ ih
theorem upd_of {d : Addr} {o o' : Obj} {l l' : Led} (D : (adrs l).Nodup) (U : UpdN d o o' l l') : Upd d o o' l l' := by
  induction U with
  | head =>
    refine .head fun p hp e => (List.nodup_cons.mp D).1 ?_
    have e' : p.1 = d := e
    show d ∈ _
    rw [← e']
    exact List.mem_map_of_mem (f := Prod.fst) hp
  | tail U ih =>
    refine .tail (fun e => (List.nodup_cons.mp D).1 ?_) (ih (List.nodup_cons.mp D).2)
    have m := U.mem
    rw [← e] at m
    exact m
inductive UpdG (d : Addr) (o : Obj) : Led → (Obj → Led) → Prop
  | head {r} : UpdG d o ((d, o) :: r) (fun o' => (d, o') :: r)
  | tail {p r g} : UpdG d o r g → UpdG d o (p :: r) (fun o' => p :: g o')
theorem UpdG.mem {d : Addr} {o : Obj} {l : Led} {g : Obj → Led} (U : UpdG d o l g) : d ∈ adrs l := by
  induction U with
  | head => exact List.mem_map_of_mem (List.mem_cons_self ..)
  | tail _ ih => exact List.mem_cons_of_mem _ ih
theorem updF_of {d : Addr} {o : Obj} {l : Led} {g : Obj → Led} (D : (adrs l).Nodup) (U : UpdG d o l g) : UpdF d o l g := by
  induction U with
  | head =>
    refine .head fun p hp e => (List.nodup_cons.mp D).1 ?_
    have e' : p.1 = d := e
    show d ∈ _
    rw [← e']
    exact List.mem_map_of_mem (f := Prod.fst) hp
  | tail U ih =>
    refine .tail (fun e => (List.nodup_cons.mp D).1 ?_) (ih (List.nodup_cons.mp D).2)
    have m := U.mem
    rw [← e] at m
    exact m
theorem UpdN.app {d : Addr} {o o' : Obj} {W r r' : Led} (U : UpdN d o o' r r') : UpdN d o o' (W ++ r) (W ++ r') := by
  induction W with
  | nil => exact U
  | cons p W ih => exact .tail ih
theorem UpdG.app {d : Addr} {o : Obj} {W r : Led} {g : Obj → Led} (U : UpdG d o r g) : UpdG d o (W ++ r) (fun o' => W ++ g o') := by
  induction W with
  | nil => exact U
  | cons p W ih => exact .tail ih
theorem UpdG.adr {d : Addr} {o o' : Obj} {l : Led} {g : Obj → Led} (U : UpdG d o l g) : adrs (g o') = adrs l := by
  induction U with
  | head => rfl
  | @tail p r g U ih => exact congrArg (List.cons p.1) ih
theorem UpdG.nd {d : Addr} {o o' : Obj} {l : Led} {g : Obj → Led} (U : UpdG d o l g) (D : (adrs l).Nodup) : (adrs (g o')).Nodup := U.adr.symm ▸ D
theorem upd_mid {d : Addr} {o o' : Obj} {pre post : Led} (h1 : ∀ p ∈ pre, p.1 ≠ d) (h2 : ∀ p ∈ post, p.1 ≠ d) : Upd d o o' (pre ++ (d, o) :: post) (pre ++ (d, o') :: post) := by
  induction pre with
  | nil => exact .head h2
  | cons p r ih => exact .tail (h1 p (.head _)) (ih fun q hq => h1 q (.tail _ hq))
theorem nd_new {d : Addr} {o : Obj} {l : Led} (D : (adrs l).Nodup) (h : ∀ p ∈ l, p.1 < d) : (adrs ((d, o) :: l)).Nodup :=
  List.nodup_cons.mpr ⟨fun hm => by obtain ⟨p, hp, e⟩ := List.mem_map.mp hm; exact absurd (h p hp) (by have e' : p.1 = d := e; rw [e']; exact Nat.lt_irrefl _), D⟩
theorem nd_newD {d : Addr} {l : Led} (D : (adrs l).Nodup) (h : ∀ p ∈ l, p.1 < d) : (d :: adrs l).Nodup := nd_new (o := default) D h
theorem nd_new2 {d x : Addr} {o o' : Obj} {l : Led} (D : (adrs l).Nodup) (h : ∀ p ∈ l, p.1 < d) (hx : d < x) : (adrs ((x, o') :: (d, o) :: l)).Nodup :=
  nd_new (nd_new D h) fun p hp => by
    rcases List.mem_cons.mp hp with rfl | hp
    · exact hx
    · exact Nat.lt_trans (h p hp) hx
theorem nd_newD2 {d x : Addr} {l : Led} (D : (adrs l).Nodup) (h : ∀ p ∈ l, p.1 < d) (hx : d < x) : (x :: d :: adrs l).Nodup := nd_new2 (o := default) (o' := default) D h hx
section
variable {prog : Program} {w : World} {A : Around} {E : Value → Shared → Prop} {s : Shared} {a b : Int} {t u : Tok} {Q : Value → Shared → Prop} {h₀ : Heap} {L : Addr} {news : Led}
theorem mod_g (hb : 0 < b) (h : ∀ r, 0 ≤ r ∧ r < b → Q (.int r s.toks) { s with toks := s.toks + 1 }) : wpAny (model prog w) A (binaryOp .Mod (.int a t) (.int b u)) Q E s :=
  mod_int' (by omega) (h _ ⟨Int.fmod_nonneg_of_pos a hb, Int.fmod_lt_of_pos a hb⟩)
theorem fdiv_g (hb : 0 < b) (hb2 : b < 1073741824) (h : ∀ q, (0 ≤ a → 0 ≤ q ∧ q ≤ a) → Q (.int q s.toks) { s with toks := s.toks + 1 }) : wpAny (model prog w) A (binaryOp .FloorDiv (.int a t) (.int b u)) Q E s :=
  floordiv_int (by omega) (h _ fun ha => ⟨Int.fdiv_nonneg ha (by omega), by
    rw [Int.fdiv_eq_ediv_of_nonneg _ (by omega)]
    exact Int.ediv_le_self b ha⟩) (Or.inl (PyProof.noPylong_small (by omega)))
theorem mul_g (ha : 0 ≤ a ∧ a < 4294967296) (h : Q (.int (a * b) s.toks) { s with toks := s.toks + 1 }) : wpAny (model prog w) A (binaryOp .Mult (.int a t) (.int b u)) Q E s :=
  mul_int h (IntMulOk.of_left (intBits_le_64 (by omega) (by omega)))
theorem item_M {value slice : PySem.Expr} {l : Addr} {vs : List Value} {n : Nat} {k : Int} {u : Tok} {v : Value} (N : News h₀ L s.heap news) (hm : (l, listOf vs.toArray n) ∈ news) (h0 : 0 ≤ k) (hhi : k < 2 ^ 63) (hx : vs[k.toNat]? = some v) (h : Q v s)
    (hs : subscripted slice false (.ref l) (.int k u) = operate [.ref l, .int k u] (getItem (.ref l) (.int k u))) :
    wpAny (model prog w) A (subscriptTail value slice (.ref l) (.int k u)) Q E s := item_litK (News.isList N hm) h0 hhi hx h hs
end
section
variable {prog : Program} {w : World} {A : Around} {s : Shared} {K : Frag} {hb h₀ : Heap} {L C fI : Addr} {m : Str → Option Value} {news fp0 rest : Led} {pos : List Value} {φ : Addr → Addr → Led → Prop} {Q : Value → Shared → Prop} {E : Value → Shared → Prop}
theorem make_use (St : hb.StaysIn h₀) (F : Fr h₀ L s.heap m) (N : News h₀ L s.heap news) (D : (adrs news).Nodup) (X : K.In h₀) (P : Takes news fp0 rest)
    (hm : makesIn K C = true) (hi : findIn K (.ref C) "__init__" = some (some (.ref fI))) (hf : isFn K (.ref fI) = true)
    (c : ∀ x dx s', Has hb s' ((x, instObj C dx) :: (dx, dictOf [] 0) :: fp0) → codeAny (model prog w) (A.under (.builtin "type.__call__" ⟨.ref C :: pos, []⟩)) (.call (.ref fI) ⟨.ref x :: pos, []⟩) (Rets s' ((x, instObj C dx) :: (dx, dictOf [] 0) :: fp0) (fun v nf => v = .none ∧ φ x dx nf)) s')
    (k : ∀ x dx nf, φ x dx nf → ∀ h' tk', Fr h₀ L h' m → News h₀ L h' (nf ++ rest) → (adrs (nf ++ rest)).Nodup → Q (.ref x) { s with heap := h', toks := tk' }) :
    wpAny (model prog w) A (call (.ref C) pos []) Q E s := by
  refine call_cls F X N hm hi hf fun x dx h' F' N' l1 l2 => ?_
  have D' := nd_new2 (o := dictOf [] 0) (o' := instObj C dx) D l1 l2
  refine use_code (s := { s with heap := h' }) St F' N' D' (Takes.cons Pull.head (Takes.cons Pull.head P)) (c x dx _) ?_
  rintro v nf ⟨rfl, hφ⟩ h'' tk' F'' N'' D''
  exact ⟨rfl, k x dx nf hφ h'' tk' F'' N'' D''⟩
end
end Mine
/-! what a call gives back, taken apart once for all -/
namespace Mine
open PySem PySem.W PySem.Spec PySem.Calls PyProof.Rows
theorem UpdG.mem2 {d : Addr} {o : Obj} {l : Led} {g : Obj → Led} (U : UpdG d o l g) : (d, o) ∈ l := by
  induction U with
  | head => exact List.mem_cons_self
  | tail _ ih => exact List.mem_cons_of_mem _ ih
theorem UpdG.toN {d : Addr} {o o' : Obj} {l : Led} {g : Obj → Led} (U : UpdG d o l g) : UpdN d o o' l (g o') := by
  induction U with
  | head => exact .head
  | tail _ ih => exact .tail ih
theorem news_drop {h₀ h : Heap} {L : Addr} {W r : Led} (N : News h₀ L h (W ++ r)) : News h₀ L h r := fun q hq => N q (List.mem_append_right _ hq)
theorem news_tail {h₀ h : Heap} {L : Addr} {q : Addr × Obj} {l : Led} (N : News h₀ L h (q :: l)) : News h₀ L h l := fun p hp => N p (List.mem_cons_of_mem _ hp)
theorem nd_drop {W r : Led} (D : (adrs (W ++ r)).Nodup) : (adrs r).Nodup := by
  unfold adrs at D ⊢
  rw [List.map_append] at D
  exact (List.nodup_append.mp D).2.1
/-- the two ways of an expression meet: its value is f t -/
inductive ValAt (h₀ : Heap) (L : Addr) (m : Str → Option Value) (led : Led) (f : Tok → Value) (gg : Array GenState) (dd : Drawn) (oo : OsState) (v : Value) (s : Shared) : Prop
  | mk (t : Tok) (h' : Heap) (tk : Nat) (ev : v = f t) (es : s = ⟨h', gg, dd, tk, oo⟩) (F : Fr h₀ L h' m) (N : News h₀ L h' led) : ValAt h₀ L m led f gg dd oo v s
theorem if_join {prog : Program} {w : World} {A : Around} {E : Value → Shared → Prop} {s : Shared} {env : Env} {h₀ : Heap} {L : Addr} {m : Str → Option Value} {led : Led} (f : Tok → Value) {test body orelse : Expr} {pos : Pos} {Q : Value → Shared → Prop}
    (_F : Fr h₀ L s.heap m) (_N : News h₀ L s.heap led)
    (h : wpAny (model prog w) A (isTrue test env (eval test env)) (fun c s₂ => if c then wpAny (model prog w) A (eval body env) (ValAt h₀ L m led f s.gens s.drawn s.os) E s₂ else wpAny (model prog w) A (eval orelse env) (ValAt h₀ L m led f s.gens s.drawn s.os) E s₂) E s)
    (k : ∀ t h' tk', Fr h₀ L h' m → News h₀ L h' led → Q (f t) { s with heap := h', toks := tk' }) : wpAny (model prog w) A (eval (.IfExp test body orelse pos) env) Q E s := by
  refine wpAny_mono (IfExp_ h) ?_ fun _ _ x => x
  rintro v s₂ ⟨t, h', tk, rfl, rfl, F, N⟩
  exact k t h' tk F N
section
variable {M : Model} {A : Around} {E : Value → Shared → Prop} {env : Env}
/-- a statement, the state laid flat, its count of tokens let go -/
theorem execs_flat {s : Shared} {h : Heap} {tk0 : Tok} {st : Stmt} {rest : List Stmt} {Q : Flow → Shared → Prop}
    (e : ∀ tk, wpAny M A (exec st env) (fun f s' => match f with | .next => wpAny M A (execs rest env) Q E s' | f => Q f s') E ⟨h, s.gens, s.drawn, tk, s.os⟩) : wpAny M A (execs (st :: rest) env) Q E ⟨h, s.gens, s.drawn, tk0, s.os⟩ := wpAny_execs_cons (e tk0)
end
section
variable {prog : Program} {w : World} {A : Around} {E : Value → Shared → Prop} {s : Shared} {K : Frag} {x dx C : Addr} {h₀ : Heap} {L : Addr} {m : Str → Option Value} {news : Led} {name : Str} {v : Value} {o : Obj} {es : List DictEntry} {n : Nat}
/-- an attribute is stored; the object is put out of sight, its entries in a fact -/
theorem set_hid {es' : List DictEntry} {n' : Nat} {G : Obj → Led} {Q : Unit → Shared → Prop} (F : Fr h₀ L s.heap m) (X : K.In h₀) (N : News h₀ L s.heap news) (D : (adrs news).Nodup) (h1 : (x, instObj C dx) ∈ news) (U : UpdG dx o news G) (ho : o = dictOf es n)
    (hs : findIn K (.ref C) "__setattr__" = some (some (.builtin "object.__setattr__"))) (hp : plainOver K C = true) (ht : takerIn K C name = some none) (hh : hasDictIn K C = true) (hl : (getL name es).isSome = true)
    (e : (putL name (PyData.keyHash w.params name) (.str name (s.toks + 1)) v es, putN name es n) = (es', n')) (hz : es'.length ≤ 1000)
    (k : ∀ h' o', o' = dictOf es' n' → Fr h₀ L h' m → News h₀ L h' (G o') → (adrs (G o')).Nodup → Q () { s with heap := h', toks := s.toks + 2 }) : wpAny (model prog w) A (setAttr (.ref x) name v) Q E s := by
  subst ho
  exact set_dict (ox := instObj C dx) F X N (InstAt.of_news N h1 U.mem2) rfl hs hp ht hh hl e (upd_of D U.toN) hz fun h' F' N' => k h' _ rfl F' N' (U.nd D)
theorem get_hid {expr : Bool} {Q : Value → Shared → Prop} {attr : Option Value} (F : Fr h₀ L s.heap m) (X : K.In h₀) (N : News h₀ L s.heap news) (h1 : (x, instObj C dx) ∈ news) (h2 : (dx, o) ∈ news) (ho : o = dictOf es n) (hg : plainGet K C name = true) (hh : hasDictIn K C = true)
    (ha : findIn K (.ref C) name = some attr) (hn : noGet K attr = true) (hl : getL name es = some (some v)) (hv : handedIn v = true) (h : Q v { s with toks := s.toks + 1 }) : wpAny (model prog w) A (getAttr (.ref x) name expr) Q E s := by
  subst ho
  exact get_own F X (InstAt.of_news N h1 h2) hg hh ha hn hl hv h
end
section
variable {P : Value → Led → Prop}
theorem elim0 {v0 : Value} {nf0 : Led} (h : P v0 nf0) : ∀ v nf, (v = v0 ∧ nf = nf0) → P v nf := by rintro v nf ⟨rfl, rfl⟩; exact h
theorem elim1 {v0 : Value} {φ : Led → Prop} (h : ∀ nf, φ nf → P v0 nf) : ∀ v nf, (v = v0 ∧ φ nf) → P v nf := by rintro v nf ⟨rfl, hv⟩; exact h nf hv
theorem elimT {f : Tok → Value} {nf0 : Led} (h : ∀ t, P (f t) nf0) : ∀ v nf, ((∃ t, v = f t) ∧ nf = nf0) → P v nf := by rintro v nf ⟨⟨t, rfl⟩, rfl⟩; exact h t
theorem elimO {v0 : Value} {φ : Obj → Prop} {f : Obj → Led} (h : ∀ o, φ o → P v0 (f o)) : ∀ v nf, (v = v0 ∧ ∃ o, φ o ∧ nf = f o) → P v nf := by rintro v nf ⟨rfl, o, ho, rfl⟩; exact h o ho
theorem elimR {nf0 : Led} (h : ∀ r, P (.ref r) nf0) : ∀ v nf, ((∃ r, v = .ref r) ∧ nf = nf0) → P v nf := by rintro v nf ⟨⟨r, rfl⟩, rfl⟩; exact h r
theorem elimM {P : Addr → Addr → Led → Prop} {φ : Obj → Prop} {f : Addr → Addr → Obj → Led} (h : ∀ x dx o, φ o → P x dx (f x dx o)) : ∀ x dx nf, (∃ o, φ o ∧ nf = f x dx o) → P x dx nf := by rintro x dx nf ⟨o, ho, rfl⟩; exact h x dx o ho
theorem elimV {φ : Obj → Prop} {f : Addr → Obj → Led} (h : ∀ t o, φ o → P (.ref t) (f t o)) : ∀ v nf, (∃ t o, v = .ref t ∧ φ o ∧ nf = f t o) → P v nf := by rintro v nf ⟨t, o, rfl, ho, rfl⟩; exact h t o ho
theorem elimQ {f : Addr → Nat → Led → Led} {ψ : Led → Prop} (h : ∀ l n V, ψ V → P (.ref l) (f l n V)) : ∀ v nf, (∃ l n V', v = .ref l ∧ nf = f l n V' ∧ ψ V') → P v nf := by rintro v nf ⟨l, n, V, rfl, rfl, hV⟩; exact h l n V hV
theorem elimA {f : Addr → Nat → Addr → Addr → Obj → Led → Led} {φ : Obj → Prop} {ψ : Led → Prop} (h : ∀ l n sg ds od V, φ od → ψ V → P (.ref l) (f l n sg ds od V)) : ∀ v nf, (∃ l n sg ds od V', v = .ref l ∧ nf = f l n sg ds od V' ∧ φ od ∧ ψ V') → P v nf := by
  rintro v nf ⟨l, n, sg, ds, od, V, rfl, rfl, h1, h2⟩; exact h l n sg ds od V h1 h2
end
end Mine
namespace Mine
open PySem PySem.W PySem.Spec PySem.Calls PyProof.Rows
abbrev tupOf (vs : List Value) (n : Nat) : Obj := { cls := .type "tuple", data := .seq vs.toArray n }
theorem Pull.mem {q : Addr × Obj} {l r : Led} (h : Pull q l r) : q ∈ l := h.mem_iff.mpr (List.mem_cons_self ..)
theorem Pull.sub {q p : Addr × Obj} {l r : Led} (h : Pull q l r) (hp : p ∈ r) : p ∈ l := h.mem_iff.mpr (List.mem_cons_of_mem _ hp)
theorem Pull.nd {q : Addr × Obj} {l r : Led} (h : Pull q l r) (D : (adrs l).Nodup) : (adrs (q :: r)).Nodup := (List.Perm.nodup_iff (h.map _)).mp D
section
variable {prog : Program} {w : World} {A : Around} {E : Value → Shared → Prop} {s : Shared} {env : Env} {h₀ : Heap} {x : Str} {body : List Stmt} {Q : Flow → Shared → Prop}

/-- a turn's end: the iterator's cell put by, what is left has J -/
inductive TurnEnd (h₀ : Heap) (L : Addr) (s₁ : Shared) (q : Addr × Obj) (J : (Str → Option Value) → Led → Prop) (s₂ : Shared) : Prop
  | mk (h' : _) (tk : _) (m' : _) (all : _) (news' : _) (e0 : s₂ = { s₁ with heap := h', toks := tk }) (e1 : Fr h₀ L h' m') (e2 : News h₀ L h' all) (e3 : (adrs all).Nodup) (e4 : Pull q all news') (e5 : J m' news') : TurnEnd h₀ L s₁ q J s₂
theorem TurnEnd.intro {L : Addr} {s₁ : Shared} {q : Addr × Obj} {J : (Str → Option Value) → Led → Prop} {h' : Heap} {tk : Nat} {m' : Str → Option Value} {all news' : Led}
    (F : Fr h₀ L h' m') (N : News h₀ L h' all) (D : (adrs all).Nodup) (P : Pull q all news') (j : J m' news') : TurnEnd h₀ L s₁ q J { s₁ with heap := h', toks := tk } :=
  ⟨h', tk, m', all, news', rfl, F, N, D, P, j⟩
def MTurnPost (h₀ : Heap) (L : Addr) (s₁ : Shared) (q : Addr × Obj) (J : (Str → Option Value) → Led → Prop) (Q : Flow → Shared → Prop) (f : Flow) (s₂ : Shared) : Prop :=
  match f with
  | .ret v => Q (.ret v) s₂
  | .brk => Q .next s₂
  | _ => TurnEnd h₀ L s₁ q J s₂

theorem loop_W {I : Addr} {fp : List Addr} {n : Nat} {P : Nat → Value → Prop} {St : Nat → Heap → Prop} {m₀ : Str → Option Value} {news : Led} (src : Led)
    (W : Walks prog w A I fp [I] n P St) (hfp : ∀ b ∈ fp, b = I ∨ b ∈ adrs src) (J : Nat → (Str → Option Value) → Led → Prop) (hsrc : ∀ i m l, J i m l → ∀ q ∈ src, q ∈ l)
    (hIo : ∀ i h, St i h → ∃ o, h.get? I = some o) (hIL : env.locals ≠ I) (hI₀ : h₀.get? I = none) (hst : St 0 s.heap) (F : Fr h₀ env.locals s.heap m₀) (N : News h₀ env.locals s.heap news) (D : (adrs ((I, (default : Obj)) :: news)).Nodup) (j0 : J 0 m₀ news)
    (turn : ∀ i v m₁ l oI h tk, i < n → P i v → J i m₁ l → (adrs ((I, oI) :: l)).Nodup → Fr h₀ env.locals h (fun y => if y = x then some v else m₁ y) → News h₀ env.locals h ((I, oI) :: l) →
      wpAny (model prog w) A (execs body env) (MTurnPost h₀ env.locals { s with heap := h, toks := tk } (I, oI) (J (i + 1)) Q) E { s with heap := h, toks := tk })
    (done : ∀ m₁ l h tk, J n m₁ l → (adrs l).Nodup → Fr h₀ env.locals h m₁ → News h₀ env.locals h l → Q .next { s with heap := h, toks := tk }) :
    LoopAtV prog w A h₀ env x body Q E (.ref I) s := by
  have hLs : env.locals ∉ fp := fun hm => by
    rcases hfp _ hm with e | e
    · exact hIL e
    · obtain ⟨q, hq, e⟩ := List.mem_map.mp e
      exact (N q (hsrc 0 _ _ j0 q hq)).2.1 e
  refine ⟨I, fp, [I], n, P, St, m₀, news, fun i m l => J i m l ∧ (adrs ((I, (default : Obj)) :: l)).Nodup, rfl, W, hLs, ?_, ?_, hst, F, N, ⟨j0, D⟩, ?_, ?_⟩
  · intro b hb
    rw [List.mem_singleton.mp hb]; exact hI₀
  · intro p hp hI
    exact (List.nodup_cons.mp D).1 (by show I ∈ adrs news; rw [← List.mem_singleton.mp hI]; exact List.mem_map_of_mem hp)
  · rintro i v m₁ l s₁ own ⟨h, tk, rfl⟩ hin hP ⟨hJ, hD⟩ hoff hown hget hall hst' F₁ N₁
    obtain ⟨oI, heI⟩ := hIo _ _ hst'
    have hIfp : I ∈ fp := W.sub I (List.mem_singleton.mpr rfl)
    have hIown : (I, oI) ∈ own := hall I hIfp hI₀ oI heI
    have N₂ : News h₀ env.locals h ((I, oI) :: l) := fun p hp => by
      rcases List.mem_cons.mp hp with rfl | hp
      · exact N₁ _ (List.mem_append_left _ hIown)
      · exact N₁ _ (List.mem_append_right _ hp)
    refine wpAny_mono (turn i v m₁ l oI h tk hin hP hJ hD F₁ N₂) (fun f s₂ p => ?_) fun _ _ e => e
    have fin : TurnEnd h₀ env.locals { s with heap := h, toks := tk } (I, oI) (J (i + 1)) s₂ →
        LoopStepU h₀ env.locals [I] own (fun m l => J (i + 1) m l ∧ (adrs ((I, (default : Obj)) :: l)).Nodup) { s with heap := h, toks := tk } .next s₂ := by
      rintro ⟨h', tk', m', all, news', rfl, F', N', D', P', hJ'⟩
      refine ⟨rfl, h', tk', m', news', rfl, F', fun p hp => ?_, fun p hp hI => ?_, hJ', P'.nd D'⟩
      · rcases List.mem_append.mp hp with hp | hp
        · have g1 := hget p hp
          rcases hfp _ (hown p hp) with e | e
          · have : p = (I, oI) := by
              refine Prod.ext e ?_
              rw [e] at g1
              exact Option.some.inj (g1.symm.trans heI)
            rw [this]; exact N' _ P'.mem
          · obtain ⟨q, hq, e⟩ := List.mem_map.mp e
            have g2 := (N₂ q (List.mem_cons_of_mem _ (hsrc _ _ _ hJ q hq))).1
            have : p = q := by
              refine Prod.ext e.symm ?_
              rw [e] at g2
              exact Option.some.inj (g1.symm.trans g2)
            rw [this]
            exact N' _ (P'.sub (hsrc _ _ _ hJ' q hq))
        · exact N' _ (P'.sub hp)
      · exact (List.nodup_cons.mp (P'.nd D')).1 (by
          show I ∈ adrs news'
          rw [← List.mem_singleton.mp hI]; exact List.mem_map_of_mem hp)
    cases f with
    | ret v => exact .ret p
    | brk => exact .brk p
    | next => exact .next (fin p)
    | cont => exact .cont (fin p)
  · rintro h' tk' m' l F' N' _ ⟨hJ, hD⟩
    exact done m' l h' tk' hJ (List.nodup_cons.mp hD).2 F' N'

theorem nd_push {h : Heap} {L : Addr} {l : Led} {o : Obj} (N : News h₀ L h l) (D : (adrs l).Nodup) : (adrs ((h.objs.size, o) :: l)).Nodup :=
  nd_new D fun p hp => Heap.lt_size (N p hp).1
variable {a : Addr} {vs : List Value} {nn : Nat} {m₀ : Str → Option Value} {news : Led}
/-- for x in a list of the ledger -/
theorem for_list (J : Nat → (Str → Option Value) → Led → Prop) (hh : A.handled = none) (F : Fr h₀ env.locals s.heap m₀) (N : News h₀ env.locals s.heap news) (D : (adrs news).Nodup)
    (hsrc : ∀ i m l, J i m l → (a, listOf vs.toArray nn) ∈ l) (j0 : J 0 m₀ news)
    (turn : ∀ i v m₁ l I oI h tk, vs[i]? = some v → J i m₁ l → (adrs ((I, oI) :: l)).Nodup → Fr h₀ env.locals h (fun y => if y = x then some v else m₁ y) → News h₀ env.locals h ((I, oI) :: l) →
      wpAny (model prog w) A (execs body env) (MTurnPost h₀ env.locals { s with heap := h, toks := tk } (I, oI) (J (i + 1)) Q) E { s with heap := h, toks := tk })
    (done : ∀ m₁ l h tk, J vs.length m₁ l → (adrs l).Nodup → Fr h₀ env.locals h m₁ → News h₀ env.locals h l → Q .next { s with heap := h, toks := tk }) :
    wpAny (model prog w) A (pyIter (.ref a)) (fun it s₂ => LoopAtV prog w A h₀ env x body Q E it s₂) E s := by
  have hm := N _ (hsrc _ _ _ j0)
  have hl : s.heap.IsList a vs.toArray := ⟨_, hm.1, rfl, _, rfl⟩
  have hne : a ≠ s.heap.objs.size := Nat.ne_of_lt (Heap.lt_size hm.1)
  refine wpAny_pyIter_list hl ?_
  have W := Walks.list (prog := prog) (w := w) hh s.heap.objs.size a hne vs.toArray
  refine loop_W (s := { s with heap := s.heap.push _ }) [(a, listOf vs.toArray nn)] W (fun b hb => ?_) J (fun i m l j q hq => ?_) (fun i h st => ?_) (Nat.ne_of_lt F.ns.lt) (next_is_new F) ⟨⟨_, Heap.get?_push_size _ rfl, rfl, rfl⟩, hl.push _⟩ (F.push _)
    (fun p hp => ⟨Heap.get?_push_of_some _ (N p hp).1, (N p hp).2⟩) (nd_push N D) j0 (fun i v m₁ l oI h tk hi hv => turn i v m₁ l _ oI h tk (by simpa using hv)) (by simpa using done)
  · have : b = s.heap.objs.size ∨ b = a := by simpa using hb
    exact this.imp id fun e => by simp [e]
  · rw [List.mem_singleton.mp hq]; exact hsrc _ _ _ j
  · obtain ⟨o, ho, _⟩ := st.1
    exact ⟨o, ho⟩
/-- for x in a tuple of the ledger -/
theorem for_tuple (J : Nat → (Str → Option Value) → Led → Prop) (hh : A.handled = none) (F : Fr h₀ env.locals s.heap m₀) (N : News h₀ env.locals s.heap news) (D : (adrs news).Nodup)
    (hsrc : ∀ i m l, J i m l → (a, tupOf vs nn) ∈ l) (j0 : J 0 m₀ news)
    (turn : ∀ i v m₁ l I oI h tk, vs[i]? = some v → J i m₁ l → (adrs ((I, oI) :: l)).Nodup → Fr h₀ env.locals h (fun y => if y = x then some v else m₁ y) → News h₀ env.locals h ((I, oI) :: l) →
      wpAny (model prog w) A (execs body env) (MTurnPost h₀ env.locals { s with heap := h, toks := tk } (I, oI) (J (i + 1)) Q) E { s with heap := h, toks := tk })
    (done : ∀ m₁ l h tk, J vs.length m₁ l → (adrs l).Nodup → Fr h₀ env.locals h m₁ → News h₀ env.locals h l → Q .next { s with heap := h, toks := tk }) :
    wpAny (model prog w) A (pyIter (.ref a)) (fun it s₂ => LoopAtV prog w A h₀ env x body Q E it s₂) E s := by
  have hm := N _ (hsrc _ _ _ j0)
  have hl : s.heap.IsTuple a vs.toArray := ⟨_, hm.1, rfl, _, rfl⟩
  have hne : a ≠ s.heap.objs.size := Nat.ne_of_lt (Heap.lt_size hm.1)
  refine wpAny_pyIter_tuple hl ?_
  have W := Walks.tuple (prog := prog) (w := w) hh s.heap.objs.size a hne vs.toArray
  refine loop_W (s := { s with heap := s.heap.push _ }) [(a, tupOf vs nn)] W (fun b hb => ?_) J (fun i m l j q hq => ?_) (fun i h st => ?_) (Nat.ne_of_lt F.ns.lt) (next_is_new F) ⟨⟨_, Heap.get?_push_size _ rfl, rfl, rfl⟩, hl.at fun o e => Heap.get?_push_of_some _ e⟩ (F.push _)
    (fun p hp => ⟨Heap.get?_push_of_some _ (N p hp).1, (N p hp).2⟩) (nd_push N D) j0 (fun i v m₁ l oI h tk hi hv => turn i v m₁ l _ oI h tk (by simpa using hv)) (by simpa using done)
  · have : b = s.heap.objs.size ∨ b = a := by simpa using hb
    exact this.imp id fun e => by simp [e]
  · rw [List.mem_singleton.mp hq]; exact hsrc _ _ _ j
  · obtain ⟨o, ho, _⟩ := st.1
    exact ⟨o, ho⟩
/-- for x in range(a, b) -/
theorem for_range {r : Addr} {a₀ b₀ : Int} {t₀ u₀ v₀ : Tok} {n : Nat} (J : Nat → (Str → Option Value) → Led → Prop) (hh : A.handled = none) (F : Fr h₀ env.locals s.heap m₀) (N : News h₀ env.locals s.heap news) (D : (adrs news).Nodup)
    (hr : IsRange s.heap r a₀ b₀ 1 t₀ u₀ v₀) (hsmall : Builtin.Range.small a₀ b₀ 1 = true) (hn : Builtin.Range.rangeSize a₀ b₀ 1 = (n : Int)) (j0 : J 0 m₀ news)
    (turn : ∀ i t m₁ l I oI h tk, i < n → J i m₁ l → (adrs ((I, oI) :: l)).Nodup → Fr h₀ env.locals h (fun y => if y = x then some (.int (a₀ + (i : Int)) t) else m₁ y) → News h₀ env.locals h ((I, oI) :: l) →
      wpAny (model prog w) A (execs body env) (MTurnPost h₀ env.locals { s with heap := h, toks := tk } (I, oI) (J (i + 1)) Q) E { s with heap := h, toks := tk })
    (done : ∀ m₁ l h tk, J n m₁ l → (adrs l).Nodup → Fr h₀ env.locals h m₁ → News h₀ env.locals h l → Q .next { s with heap := h, toks := tk }) :
    wpAny (model prog w) A (pyIter (.ref r)) (fun it s₂ => LoopAtV prog w A h₀ env x body Q E it s₂) E s := by
  refine wpAny_pyIter_range hr hsmall ?_
  have W := Walks.range (prog := prog) (w := w) hh s.heap.objs.size a₀ 1 n
  refine loop_W (s := { s with heap := s.heap.push _ }) [] W (fun b hb => .inl (List.mem_singleton.mp hb)) J (fun i m l j q hq => nomatch hq) (fun i h st => ⟨_, st⟩) (Nat.ne_of_lt F.ns.lt) (next_is_new F) (by show IsRangeIter _ _ _ _ _; rw [hn]; simpa using Heap.get?_push_size _ rfl) (F.push _)
    (fun p hp => ⟨Heap.get?_push_of_some _ (N p hp).1, (N p hp).2⟩) (nd_push N D) j0 (fun i v m₁ l oI h tk hi hv => ?_) done
  obtain ⟨t, rfl⟩ := hv
  rw [Int.mul_one]
  exact turn i t m₁ l _ oI h tk hi
/-- the turns over written items, one by one -/
def UnrT (prog : Program) (w : World) (A : Around) (E : Value → Shared → Prop) (h₀ : Heap) (env : Env) (x : Str) (body : List Stmt) (Q : Flow → Shared → Prop) (s : Shared) (src : Addr × Obj) : List Value → (Str → Option Value) → Led → Prop
  | [], m, l => ∀ h tk, (adrs l).Nodup → Fr h₀ env.locals h m → News h₀ env.locals h l → Q .next { s with heap := h, toks := tk }
  | v :: r, m, l => ∀ I oI h tk, (adrs ((I, oI) :: l)).Nodup → Fr h₀ env.locals h (fun y => if y = x then some v else m y) → News h₀ env.locals h ((I, oI) :: l) →
      wpAny (model prog w) A (execs body env) (MTurnPost h₀ env.locals { s with heap := h, toks := tk } (I, oI) (fun m' l' => src ∈ l' ∧ UnrT prog w A E h₀ env x body Q s src r m' l') Q) E { s with heap := h, toks := tk }
theorem UnrT.nil {src : Addr × Obj} {m : Str → Option Value} {l : Led} (h : ∀ h tk, (adrs l).Nodup → Fr h₀ env.locals h m → News h₀ env.locals h l → Q .next { s with heap := h, toks := tk }) :
    UnrT prog w A E h₀ env x body Q s src [] m l := h
theorem UnrT.cons {src : Addr × Obj} {v : Value} {r : List Value} {m : Str → Option Value} {l : Led}
    (h : ∀ I oI h tk, (adrs ((I, oI) :: l)).Nodup → Fr h₀ env.locals h (fun y => if y = x then some v else m y) → News h₀ env.locals h ((I, oI) :: l) →
      wpAny (model prog w) A (execs body env) (MTurnPost h₀ env.locals { s with heap := h, toks := tk } (I, oI) (fun m' l' => src ∈ l' ∧ UnrT prog w A E h₀ env x body Q s src r m' l') Q) E { s with heap := h, toks := tk }) :
    UnrT prog w A E h₀ env x body Q s src (v :: r) m l := h
theorem unr_tuple (hh : A.handled = none) (F : Fr h₀ env.locals s.heap m₀) (N : News h₀ env.locals s.heap news) (D : (adrs news).Nodup) (hm : (a, tupOf vs nn) ∈ news)
    (h : UnrT prog w A E h₀ env x body Q s (a, tupOf vs nn) vs m₀ news) : wpAny (model prog w) A (pyIter (.ref a)) (fun it s₂ => LoopAtV prog w A h₀ env x body Q E it s₂) E s := by
  refine for_tuple (a := a) (vs := vs) (nn := nn) (fun i m l => (a, tupOf vs nn) ∈ l ∧ UnrT prog w A E h₀ env x body Q s (a, tupOf vs nn) (vs.drop i) m l) hh F N D (fun i m l j => j.1) ⟨hm, h⟩ ?_ ?_
  · rintro i v m₁ l I oI h tk hv ⟨_, j⟩ Dn F₁ N₁
    have hi : i < vs.length := by
      rcases Nat.lt_or_ge i vs.length with h | h
      · exact h
      · rw [List.getElem?_eq_none h] at hv; cases hv
    have e : vs[i] = v := by rw [List.getElem?_eq_getElem hi] at hv; exact Option.some.inj hv
    rw [List.drop_eq_getElem_cons hi, e] at j
    exact j I oI h tk Dn F₁ N₁
  · rintro m₁ l h tk ⟨_, j⟩ Dn F₁ N₁
    rw [List.drop_length] at j
    exact j h tk Dn F₁ N₁
theorem unr_list (hh : A.handled = none) (F : Fr h₀ env.locals s.heap m₀) (N : News h₀ env.locals s.heap news) (D : (adrs news).Nodup) (hm : (a, listOf vs.toArray nn) ∈ news)
    (h : UnrT prog w A E h₀ env x body Q s (a, listOf vs.toArray nn) vs m₀ news) : wpAny (model prog w) A (pyIter (.ref a)) (fun it s₂ => LoopAtV prog w A h₀ env x body Q E it s₂) E s := by
  refine for_list (a := a) (vs := vs) (nn := nn) (fun i m l => (a, listOf vs.toArray nn) ∈ l ∧ UnrT prog w A E h₀ env x body Q s (a, listOf vs.toArray nn) (vs.drop i) m l) hh F N D (fun i m l j => j.1) ⟨hm, h⟩ ?_ ?_
  · rintro i v m₁ l I oI h tk hv ⟨_, j⟩ Dn F₁ N₁
    have hi : i < vs.length := by
      rcases Nat.lt_or_ge i vs.length with h | h
      · exact h
      · rw [List.getElem?_eq_none h] at hv; cases hv
    have e : vs[i] = v := by rw [List.getElem?_eq_getElem hi] at hv; exact Option.some.inj hv
    rw [List.drop_eq_getElem_cons hi, e] at j
    exact j I oI h tk Dn F₁ N₁
  · rintro m₁ l h tk ⟨_, j⟩ Dn F₁ N₁
    rw [List.drop_length] at j
    exact j h tk Dn F₁ N₁
end
end Mine
namespace Mine
open PySem PySem.W PySem.Spec PySem.Calls PyProof.Rows
theorem cells_nd : ∀ (names : List (Str × NameKind)) (n : Nat) (acc : List (Str × Addr)), (acc.map (·.2)).Nodup → (∀ c ∈ acc, c.2 < n) → ((cellsFrom n names acc).map (·.2)).Nodup
  | [], _, _, h, _ => h
  | (y, k) :: r, n, acc, h, hl => by
    unfold cellsFrom
    split
    · refine cells_nd r (n + 1) _ (List.nodup_cons.mpr ⟨fun hm => ?_, h⟩) fun c hc => ?_
      · obtain ⟨c, hc, e⟩ := List.mem_map.mp hm
        have h1 := hl c hc
        rw [e] at h1
        exact absurd h1 (Nat.lt_irrefl _)
      · rcases List.mem_cons.mp hc with rfl | hc
        · exact Nat.lt_succ_self _
        · exact Nat.lt_succ_of_lt (hl c hc)
    · exact cells_nd r n acc h hl
theorem cells_adr {cm : Str → Option Value} {cs : List (Str × Addr)} {cells : Led} (h : CellsAre cm cs cells) : adrs cells = cs.map (·.2) := by
  induction h with
  | nil => rfl
  | @cons n c o cs cells _ _ ih => exact congrArg (List.cons c) ih
section
variable {prog : Program} {w : World} {A : Around} {s : Shared} {K : Frag} {p : Program} {loose : List Str} {mean : ExcName → Option Value} {mg mb : Str → Option Value} {hb : Heap} {fp : Led}
  {R : Result → Shared → Prop} {name qual : Str} {params : Arguments} {body : List Stmt} {scope : Scope} {dV kV doc pm cdv ct oc : Value} {an od : Option Addr} {osl : Array (Option Value)} {f : Addr} {args : Args} {binds : List (Str × Value)}
theorem enterC {k : Nat} (B : Base K p loose mean mg mb hb) (H : Has hb s fp) (lo : Lo (k + 1) A)
    (ho : K.lookup f = some ⟨oc, od, .func (fnOf name qual params body scope dV kV doc pm an cdv ct), osl⟩) (hcd : codeIn K cdv qual = true)
    (hbind : BindsTo s (fnOf name qual params body scope dV kV doc pm an cdv ct) args binds)
    (hkind : (binds.all fun y => scope.names.lookup y.1 == some .local || scope.names.lookup y.1 == some .cell) = true) (hnd : ((cellsFrom 0 scope.names []).map (·.1)).Nodup)
    (h : ∀ RR : Result → Shared → Prop, (∀ r s', R r s' → RR r s') → ∀ g L' h₁ A' tk cells, Lo k A' → hb.StaysIn g → (∀ b o, g.get? b = some o → s.heap.get? b = some o) → (∀ b o, s.heap.get? b = some o → b ∉ adrs fp → g.get? b = some o) →
      Fr g L' h₁ (bindL (envOfC qual scope L' f cdv).kindOf binds fun _ => none) → News g L' h₁ (cells ++ fp) → (adrs (cells ++ fp)).Nodup →
      CellsAre (bindC (envOfC qual scope L' f cdv).kindOf binds fun _ => none) (cellsFrom (L' + 1) scope.names []) cells → K.In g → Top p loose mean mg mb g →
      wpAny (model prog w) A' (execs body (envOfC qual scope L' f cdv))
        (fun fl s' => RR (.ok (.ret (match fl with | .ret v => v | _ => .none))) s') (fun _ _ => False) { s with heap := h₁, toks := tk })
    (hco : scope.isCoroutine = false) (hgen : scope.isGenerator = false) (hk : scope.kind = .function) :
    codeAny (model prog w) A (.call (.ref f) args) R s := by
  have hX := B.X.keeps H.stays
  have st : hb.StaysIn (hideAll s.heap (adrs fp)) := fun b o e => hideAll_get _ (H.stays b o e) fun hm => by
    obtain ⟨q, hq, rfl⟩ := List.mem_map.mp hm
    rw [(H.at_ q hq).2] at e; cases e
  refine codeAny_call_function (fd := fnOf name qual params body scope dV kV doc pm an cdv ct) lo.room (hX _ _ ho) rfl hco hgen rfl (codeRec_of hX hcd) (hbind _ _ _ _ ?_)
  refine wpAny_newFunctionEnv_cells hk (kindsX hkind _) fun env' he s' x => ?_
  subst he
  refine ⟨(B.T.nolimit.keeps H.stays).keeps x.toInCall.keep, codeAny_func ?_⟩
  obtain ⟨h₁, tk, rfl, _⟩ := x.done
  have hk₁ := x.toInCall.keep
  obtain ⟨cells, NC, Y⟩ := Cl.news (h₀ := s.heap) (Nat.le_refl _) fun n c hm => ⟨x.cell n c (lookup_of_mem_nodup (cellsFrom_names scope.names 0 (s.heap.objs.size + 1) [] [] rfl ▸ hnd) hm), x.above n c hm⟩
  refine wpAny_mono (h R (fun _ _ x => x) (hideAll s.heap (adrs fp)) s.heap.objs.size h₁ _ tk cells lo.deeper st (fun b o e => of_hideAll _ e) (fun b o e hb => hideAll_get _ e hb) ⟨x.toInCall.ns, fun b o e => hk₁ b o (of_hideAll _ e), Nat.le_of_eq (hideAll_size _ _)⟩
    (fun q hq => ?_) ?_ Y (B.X.keeps st) (B.T.keeps st)) (fun _ _ x => x) fun _ _ x => x.elim
  · rcases List.mem_append.mp hq with hq | hq
    · refine ⟨(NC q hq).1, (NC q hq).2.1, ?_⟩
      cases e : (hideAll s.heap (adrs fp)).get? q.1 with
      | none => rfl
      | some o => have := of_hideAll _ e; rw [(NC q hq).2.2] at this; cases this
    · exact ⟨hk₁ _ _ (H.at_ q hq).1, Nat.ne_of_lt (Heap.lt_size (H.at_ q hq).1), hideAll_none _ (List.mem_map_of_mem hq)⟩
  · have hcn : (adrs cells).Nodup := by
      rw [cells_adr Y]
      exact cells_nd scope.names (s.heap.objs.size + 1) [] List.nodup_nil (fun c hc => nomatch hc)
    unfold adrs at hcn ⊢
    rw [List.map_append]
    refine List.nodup_append.mpr ⟨hcn, H.nd, ?_⟩
    intro a ha b hb e
    subst e
    obtain ⟨q, hq, rfl⟩ := List.mem_map.mp ha
    obtain ⟨r, hr, e⟩ := List.mem_map.mp hb
    have h1 := (H.at_ r hr).1
    have e' : r.1 = q.1 := e
    rw [e', (NC q hq).2.2] at h1
    cases h1
end

open LCg in
section
variable {prog : Program} {w : World} {K : Type} [DecidableEq K] {knd : KeyKind prog w K} {A : Around} {E : Value → Shared → Prop} {s : Shared} {h₀ : Heap} {L : Addr} {m : Str → Option Value} {env : Env}
/-- a comprehension over a dict's keys: what its source is to be -/
inductive SrcD (knd : KeyKind prog w K) (A : Around) (h₀ : Heap) (L : Addr) (m : Str → Option Value) (env : Env) (elt : Expr) (x : Str) (scope : Scope) (cl : List (Str × Addr)) (Fin : Shared → List Value → Led → Prop) (xv : Value) (s₁ : Shared) : Prop
  | mk (d : _) (o : _) (kvs : _) (news : _) (e0 : xv = .ref d) (e1 : A.handled = none) (e2 : Fr h₀ L s₁.heap m) (e3 : News h₀ L s₁.heap news) (e4 : (d, o) ∈ news) (e5 : o.IsDictOf knd kvs) (e6 : (d == sysModules) = false) (e7 : kvs.length ≤ sizeLine) (e8 : ∀ s₂ : Shared, (∃ h, s₂ = { s₁ with heap := h }) → CompRest prog w A h₀ L m env elt x scope cl s₂ (fun l => (d, o) ∈ l) (fun i v => ∃ k y, kvs[i]? = some (k, y) ∧ knd.is k v = true) (Fin s₂) kvs.length 0 [] news) : SrcD knd A h₀ L m env elt x scope cl Fin xv s₁
theorem lcD_block {elt iter : Expr} {x : Str} {px : Pos} {scope : Scope} {cl : List (Str × Addr)} {pos : Pos} {s₁ : Shared} {d : Addr} {o : Obj} {kvs : List (K × Value)} {ep : Nat} {news : Led} {Fin : List Value → Led → Prop} {RR : Value → Addr → Result → Shared → Prop}
    (hh : A.handled = none) (F : Fr h₀ L s₁.heap m) (N : News h₀ L s₁.heap news) (hm : (d, o) ∈ news) (hd : KdkAt knd o kvs ep) (hsz : kvs.length ≤ sizeLine)
    (hcell : ∀ y ∈ scope.names, y.2 ≠ .cell) (hkind : scope.kind = .function) (hx : scope.names.lookup x = some .local) {I : Addr} (eI : I = s₁.heap.objs.size)
    (R : CompRest prog w A h₀ L m env elt x scope cl { s₁ with heap := s₁.heap.push { cls := .type "dict_keyiterator", data := .fields #[.ref d, .int 0 0, .int kvs.length 0, .int ep 0] } } (fun l => (d, o) ∈ l) (fun i v => ∃ k y, kvs[i]? = some (k, y) ∧ knd.is k v = true) Fin kvs.length 0 [] news)
    (hRR : ∀ D C h tk m' ys news', Fr h₀ L h m → News h₀ L h ((D, lst ys) :: news') → Off1 D news' → h.Ns C m' → h₀.get? C = none → h₀.get? D = none → C ≠ L → D ≠ L → C ≠ D → (∀ p ∈ news', p.1 ≠ C) → Fin ys news' →
      RR (.ref D) C (.ok .next) { s₁ with heap := h, toks := tk }) :
    wpAny (model prog w) A (newList []) (fun acc s₃ => wpAny (model prog w) A (newFunctionEnv scope env.globals cl [] env.qual none .none (some env)) (fun cenv s₄ =>
      codeAny (model prog w) A (.compStart (.ListComp elt [⟨.Name x px, iter, [], 0⟩] scope pos) 0 (.ref I) acc { cenv with scope := relabel scope env }) (RR acc cenv.locals) s₄) E s₃) E
      { s₁ with heap := s₁.heap.push { cls := .type "dict_keyiterator", data := .fields #[.ref d, .int 0 0, .int kvs.length 0, .int ep 0] } } := by
  subst eI
  have hlt : d < s₁.heap.objs.size := Heap.lt_size (N _ hm).1
  have hat : s₁.heap.DictAt knd d kvs ep := hd.dictAt (N _ hm).1
  have up : ∀ b o', s₁.heap.get? b = some o' → (s₁.heap.push { cls := .type "dict_keyiterator", data := .fields #[.ref d, .int 0 0, .int kvs.length 0, .int ep 0] }).get? b = some o' := fun b o' e => Heap.get?_push_of_some _ e
  refine block_U (s₂ := { s₁ with heap := s₁.heap.push { cls := .type "dict_keyiterator", data := .fields #[.ref d, .int 0 0, .int kvs.length 0, .int ep 0] } }) (Walks.dictKeys (knd := knd) hh s₁.heap.objs.size d (Nat.ne_of_lt hlt) kvs ep) hsz (fun i h st => by obtain ⟨o', e, _⟩ := st.1; exact ⟨o', e⟩) (fun i h h' oI nw st e e' k N' hm' => ?_) hcell hkind hx
    ⟨⟨_, Heap.get?_push_size _ rfl, rfl, rfl⟩, hat.at' fun o' e => up _ _ e⟩ (fun b hb => ?_) (F.keeps up) (N.grown up) (Nat.ne_of_lt F.ns.lt) (next_is_new F) (fun p hp => Nat.ne_of_lt (Heap.lt_size (N p hp).1)) hm R hRR
  · refine ⟨st.1.at fun o' q => ?_, ?_⟩
    · rw [e] at q; cases q; exact e'
    · exact hd.dictAt (N' _ hm').1
  · show b < (s₁.heap.push _).objs.size
    rw [Heap.size_push]
    rcases List.mem_cons.mp hb with rfl | hb
    · exact Nat.lt_succ_self _
    · rw [List.mem_singleton.mp hb]; exact Nat.lt_succ_of_lt hlt
theorem lcD {elt iter : Expr} {x : Str} {px : Pos} {scope : Scope} {cl : List (Str × Addr)} {pos : Pos} {Q : Value → Shared → Prop}
    (_F₀ : Fr h₀ L s.heap m) (hclos : closureFor scope env = pure cl) (hcell : ∀ y ∈ scope.names, y.2 ≠ .cell) (hkind : scope.kind = .function)
    (hnames : ∀ y ∈ scope.names, y.2 = .local → scope.names.lookup y.1 = some .local) (hx : scope.names.lookup x = some .local)
    (h : wpAny (model prog w) A (eval iter env) (SrcD knd A h₀ L m env elt x scope cl (fun s₂ => FinE h₀ L m s₂ Q)) E s)
    (hs : ∀ x, foldedSetIterable iter env x = pure x := by intro _; rfl) :
    wpAny (model prog w) A (eval (.ListComp elt [⟨.Name x px, iter, [], 0⟩] scope pos) env) Q E s := by
  rw [eval_ListComp]
  refine wpAny_comprehension_free (use := none) rfl hs hclos hkind hnames (wpAny_mono h (fun xv s₁ h₁ => ?_) fun _ _ e => e)
  obtain ⟨d, o, kvs, news, rfl, hh, F, N, hm, hd, hlo, hsz, R⟩ := h₁
  obtain ⟨ep, ha⟩ := KdkAt.of hd
  refine wpAny_pyIter_dict (knd := knd) hlo (ha.dictAt (N _ hm).1) ?_
  refine lcD_block hh F N hm ha hsz hcell hkind hx rfl (R _ ⟨_, rfl⟩) ?_
  intro D C h tk m' ys news' F' N' o1 hn hC₀ hD₀ hCL hDL hCD offC fin
  refine ⟨m', hn, fun h'' hs'' => fin D h'' tk (F'.change hs'' hCL hC₀) (fun p hp => ?_) o1⟩
  refine ⟨hs''.extBut _ _ ?_ (N' p hp).1, (N' p hp).2⟩
  rcases List.mem_cons.mp hp with rfl | hp
  · exact Ne.symm hCD
  · exact offC p hp
theorem lcD_assign {elt iter : Expr} {x y : Str} {px py : Pos} {scope : Scope} {cl : List (Str × Addr)} {pos spos : Pos} {Q : Flow → Shared → Prop} (_F₀ : Fr h₀ L s.heap m) (hLe : env.locals = L)
    (hsw : swapsWith (.ListComp elt [⟨.Name x px, iter, [], 0⟩] scope pos) (some (.Name y py)) spos.line env = pure true)
    (hclos : closureFor scope env = pure cl) (hcell : ∀ z ∈ scope.names, z.2 ≠ .cell) (hkind : scope.kind = .function)
    (hnames : ∀ z ∈ scope.names, z.2 = .local → scope.names.lookup z.1 = some .local) (hx : scope.names.lookup x = some .local)
    (hy : env.kindOf y = some .local) (hp : (env.scope.kind == .class || (env.scope.kind == .module && env.locals != env.globals)) = false)
    (h : wpAny (model prog w) A (eval iter env) (SrcD knd A h₀ L m env elt x scope cl (fun s₂ => FinA h₀ L m s₂ y Q)) E s)
    (hs : ∀ x, foldedSetIterable iter env x = pure x := by intro _; rfl) :
    wpAny (model prog w) A (exec (.Assign [.Name y py] (.ListComp elt [⟨.Name x px, iter, [], 0⟩] scope pos) spos) env) Q E s := by
  subst hLe
  rw [exec_Assign_Name_used _ _ _ _ hsw]
  refine wpAny_bind (wpAny_standAt (wpAny_bind ?_))
  show wpAny _ A (do let _ ← comprehension (.ListComp elt [⟨.Name x px, iter, [], 0⟩] scope pos) scope env _ (newList []) false (eval iter env) (some (assign (.Name y py) env))) _ _ s
  refine wpAny_bind (wpAny_mono (wpAny_comprehension_free (use := some (assign (.Name y py) env)) (Q := fun _ s' => Q .next s') rfl hs hclos hkind hnames
    (wpAny_mono h (fun xv s₁ h₁ => ?_) fun _ _ e => e)) (fun _ s' hq => wpAny_pure (wpAny_pure hq)) fun _ _ e => e)
  obtain ⟨d, o, kvs, news, rfl, hh, F, N, hm, hd, hlo, hsz, R⟩ := h₁
  obtain ⟨ep, ha⟩ := KdkAt.of hd
  refine wpAny_pyIter_dict (knd := knd) hlo (ha.dictAt (N _ hm).1) ?_
  refine lcD_block hh F N hm ha hsz hcell hkind hx rfl (R _ ⟨_, rfl⟩) ?_
  intro D C h' tk m' ys news' F' N' o1 hn hC₀ hD₀ hCL hDL hCD offC fin
  show wpAny _ A (assign (.Name y py) env (.ref D)) _ _ _
  refine wpAny_assign_Name (wpAny_storeName_local hy F'.ns (fun h₂ hn₂ hs₂ => ?_) hp)
  have hL₀ : h₀.get? env.locals = none := Heap.get?_none_of_le F'.above
  have F₂ : Fr h₀ env.locals h₂ (fun z => if z = y then some (.ref D) else m z) := ⟨hn₂, fun b o e => hs₂.extBut b o (fun q => by rw [q, hL₀] at e; cases e) (F'.keep b o e), F'.above⟩
  refine ⟨m', hn.sameBut hs₂ hCL, fun h'' hs'' => fin D h'' _ (F₂.change hs'' hCL hC₀) (fun p hp => ?_) o1⟩
  have z : h₂.get? p.1 = some p.2 := hs₂.extBut _ _ (N' p hp).2.1 (N' p hp).1
  refine ⟨hs''.extBut _ _ ?_ z, (N' p hp).2⟩
  rcases List.mem_cons.mp hp with rfl | hp
  · exact Ne.symm hCD
  · exact offC p hp
/-- its turns, by a word W over how far it has come, what it has made and the ledger -/
theorem lc_turns {elt : Expr} {x : Str} {scope : Scope} {cl : List (Str × Addr)} {S : Led → Prop} {P : Nat → Value → Prop} {Fin : List Value → Led → Prop} {n : Nat} {news : Led} (W : Nat → List Value → Led → Prop) (w0 : W 0 [] news)
    (turn : ∀ i v ys l I oI C oC D m₂ h tk (E' : Value → Shared → Prop), i < n → P i v → W i ys l → NsObj oC m₂ → m₂ x = some v → Fr h₀ L h m → News h₀ L h ((I, oI) :: (C, oC) :: (D, lst ys) :: l) → Off3 I C D l → ((@Ne Nat I C) ∧ (@Ne Nat I D) ∧ (@Ne Nat C D)) →
      wpAny (model prog w) A (eval elt (compEnvC scope cl C env)) (CompEnd h₀ L m { s with heap := h, toks := tk } I oI C oC D (lst ys) S (fun y l' => W (i + 1) (ys ++ [y]) l')) E' { s with heap := h, toks := tk })
    (fin : ∀ ys l, W n ys l → Fin ys l) : CompRest prog w A h₀ L m env elt x scope cl s S P Fin n 0 [] news := by
  have key : ∀ (j i : Nat) (ys : List Value) (l : Led), i + j = n → W i ys l → CompRest prog w A h₀ L m env elt x scope cl s S P Fin j i ys l := by
    intro j
    induction j with
    | zero =>
      intro i ys l hi hW
      have e : i = n := by omega
      subst e
      exact CompRest.zero (fin ys l hW)
    | succ j ih =>
      intro i ys l hi hW
      refine CompRest.succ ?_
      intro v I oI C oC D m₂ h tk E' hv hC hx F N off ne
      refine wpAny_mono (turn i v ys l I oI C oC D m₂ h tk E' (by omega) hv hW hC hx F N off ne) (fun y s₂ hq => ?_) fun _ _ e => e
      obtain ⟨h', tk', l', e, F', N', off', hS, hW'⟩ := hq
      exact ⟨h', tk', l', e, F', N', off', hS, ih (i + 1) _ _ (by omega) hW'⟩
  exact key n 0 [] news (by omega) w0
end
end Mine
namespace Mine
open PySem PySem.W PySem.Spec PySem.Calls PyProof.Rows
open PySem.SeqAt in
def Same (v u : Value) : Prop := ∀ (A : Around) (s : Shared), EqAt A s v u true
section
open PySem.SeqAt
theorem Same.refl (v : Value) : Same v v := fun _ _ => EqAt.same v
theorem Same.int (a : Int) (t u : Tok) : Same (.int a t) (.int a u) := fun A s => by
  have := EqAt.int_int (A := A) (s := s) a t a u
  rwa [beq_self_eq_true] at this
theorem Same.str (a : Str) (t u : Tok) : Same (.str a t) (.str a u) := fun A s => by
  have := EqAt.str_str (A := A) (s := s) a t a u
  rwa [beq_self_eq_true] at this
theorem Same.bytes (a : Array UInt8) (t u : Tok) : Same (.bytes a t) (.bytes a u) := fun A s prog w E Q h => by
  unfold eqBool
  refine wpAny_holding ?_
  refine wpAny_ite_split (fun _ => wpAny_bind (wpAny_rule (wpAny_pure h))) (fun _ => ?_)
  refine wpAny_bind ?_
  show wpAny _ _ (compareOp .Eq (.bytes a t) (.bytes a u)) _ _ _
  refine eq_bytes ?_
  refine wpAny_truthy_bool ?_
  simpa using h
inductive Sames : List Value → List Value → Prop
  | nil : Sames [] []
  | cons {v u : Value} {vs us : List Value} : Same v u → Sames vs us → Sames (v :: vs) (u :: us)
theorem Sames.length {vs us : List Value} (h : Sames vs us) : vs.length = us.length := by
  induction h with
  | nil => rfl
  | cons _ _ ih => simp [ih]
theorem Sames.get {vs us : List Value} (h : Sames vs us) : ∀ (j : Nat) (h1 : j < vs.length) (h2 : j < us.length), Same vs[j] us[j] := by
  induction h with
  | nil => intro j h1; exact absurd h1 (Nat.not_lt_zero _)
  | cons a _ ih =>
    intro j h1 h2
    cases j with
    | zero => exact a
    | succ j => exact ih j (by simpa using h1) (by simpa using h2)
theorem all_true (n : Nat) : ((List.range n).all fun _ => true) = true := by simp
section
variable {prog : Program} {w : World} {A : Around} {E : Value → Shared → Prop} {s : Shared} {a b : Addr} {vs us : List Value} {Q : Value → Shared → Prop}
theorem rc_lists (ha : s.heap.IsList a (List.toArray vs)) (hb : s.heap.IsList b (List.toArray us)) (h : Sames vs us) (hu : A.units < cLine) : RcAt A s (.ref a) (.ref b) true := by
  have := RcAt.lists (e := fun _ => true) ha hb (by simpa using h.length) hu fun j h1 h2 => h.get j (by simpa using h1) (by simpa using h2) _ _
  rwa [all_true] at this
theorem rc_tuples (ha : s.heap.IsTuple a (List.toArray vs)) (hb : s.heap.IsTuple b (List.toArray us)) (h : Sames vs us) (hu : A.units < cLine) : RcAt A s (.ref a) (.ref b) true := by
  have := RcAt.tuples (e := fun _ => true) ha hb hu fun j h1 h2 => h.get j (by simpa using h1) (by simpa using h2) _ _
  rw [all_true] at this
  simpa [h.length] using this
theorem eq_tupA (ha : s.heap.IsTuple a (List.toArray vs)) (hb : s.heap.IsTuple b (List.toArray us)) (hne : a ≠ b) (h : Sames vs us) (hu : A.units < cLine) : EqAt A s (.ref a) (.ref b) true := EqAt.of_refs hne (rc_tuples ha hb h hu)
theorem eq_lists (ha : s.heap.IsList a (List.toArray vs)) (hb : s.heap.IsList b (List.toArray us)) (h : Sames vs us) (hu : A.units < cLine) (q : Q (.bool true) s) : wpAny (model prog w) A (compareOp .Eq (.ref a) (.ref b)) Q E s :=
  rc_lists ha hb h hu prog w E Q q
theorem ne_lists (ha : s.heap.IsList a (List.toArray vs)) (hb : s.heap.IsList b (List.toArray us)) (h : Sames vs us) (hu : A.units < cLine) (q : Q (.bool false) s) : wpAny (model prog w) A (compareOp .NotEq (.ref a) (.ref b)) Q E s := by
  have := RcNeAt.lists (e := fun _ => true) ha hb (by simpa using h.length) hu fun j h1 h2 => h.get j (by simpa using h1) (by simpa using h2) _ _
  rw [all_true] at this
  exact this prog w E Q q
theorem ne_tuples (ha : s.heap.IsTuple a (List.toArray vs)) (hb : s.heap.IsTuple b (List.toArray us)) (h : Sames vs us) (hu : A.units < cLine) (q : Q (.bool false) s) : wpAny (model prog w) A (compareOp .NotEq (.ref a) (.ref b)) Q E s := by
  have := RcNeAt.tuples (e := fun _ => true) ha hb hu fun j h1 h2 => h.get j (by simpa using h1) (by simpa using h2) _ _
  rw [all_true] at this
  have e : (!(true && (List.toArray vs).size == (List.toArray us).size)) = false := by simp [h.length]
  rw [e] at this
  exact this prog w E Q q
end
end
end Mine
/-! bytearray(), made where nobody can hold it -/
namespace Mine
open PySem PySem.W PySem.Spec PySem.Calls PyProof.Rows
open Sem (wp)
theorem ba_mro : mroOf (.type "bytearray") = pure [.type "bytearray", .type "object"] := by rw [mroOf_type]; kernel_rfl
theorem ba_look_new : typeLookup (.type "bytearray") "__new__" = pure (some (.builtin "bytearray.__new__")) := by rw [typeLookup_type, builtinLookup_eq_fast]; kernel_rfl
theorem ba_slot_init : Slot "bytearray" "__init__" "bytearray.__init__" :=
  Slot.of (T := "bytearray") (name := "__init__") (owner := "bytearray") (n := "__init__") (by rw [typeLookup_type, builtinLookup_eq_fast]; kernel_rfl) (by decide +kernel) (by decide +kernel) (by decide +kernel)
    (.inl (by decide +kernel)) (by rw [isSubtype_type]; kernel_rfl)
theorem ba_called : TypeCalled "bytearray" "bytearray.__new__" "bytearray.__init__" :=
  ⟨by decide +kernel, by decide +kernel, ⟨_, _, ba_mro⟩, madeBy_type ba_mro ba_look_new (by decide +kernel), by decide +kernel, by rw [isSubtype_type]; kernel_rfl, ba_slot_init⟩
theorem ba_typeCall : checkTypeCall "bytearray" ⟨[], []⟩ = pure () := by kernel_rfl
theorem ba_newCall : checkBuiltinCall "bytearray.__new__" ⟨[.type "bytearray"], []⟩ = pure () := by kernel_rfl
theorem ba_entry_new : entryFor table "bytearray.__new__" = some Builtin.«list.__new__» :=
  entryFor_alias (id' := "list.__new__") (by kernel_rfl) (by first | rfl | decide +kernel) (by decide +kernel) (by kernel_rfl)
theorem ba_entry_init : entryFor table "bytearray.__init__" = some Builtin.«bytearray.__init__» := entryFor_of_tree (by kernel_rfl)
theorem ba_plain_new : plainId "bytearray.__new__" = true := by decide +kernel
set_option maxRecDepth 1000000 in
set_option maxHeartbeats 4000000 in
theorem ba_owner : ("bytearray.__new__".splitOn ".__new__").headD "" = "bytearray" := by simp +decide [String.splitOn, String.splitOnAux]
theorem ba_sub : isSubtype (.type "bytearray") (.type "bytearray") = pure true := by rw [isSubtype_type]; kernel_rfl
abbrev baObj : Obj := { cls := .type "bytearray", data := .bytearray #[] }
section
variable {prog : Program} {w : World} {A : Around} {E : Value → Shared → Prop} {s : Shared}
theorem ba_new {Q₁ : Value → Shared → Prop} (h : Q₁ (.ref s.heap.objs.size) { s with heap := s.heap.push baObj }) :
    codeAny (model prog w) A (.call (.builtin "bytearray.__new__") ⟨[.type "bytearray"], []⟩) (wants Q₁ E) s := by
  refine codeAny_of_tree ?_
  show wpAny _ A.in1 (do checkBuiltinCall "bytearray.__new__" ⟨[.type "bytearray"], []⟩; again (.builtin "bytearray.__new__" ⟨[.type "bytearray"], []⟩)) _ _ s
  refine wpAny_bind (wpAny_of_eq ba_newCall (wpAny_pure ⟨plainId_quiet ba_plain_new _, codeAny_builtin_stack ba_entry_new rfl fun p st => ?_⟩))
  rw [Around.under_plainId ba_plain_new _]
  have hsub := ba_sub
  have hown := ba_owner
  obtain ⟨hp, g, d, tk, os⟩ := s
  simp only [hown]
  wp_walk
  exact h

theorem ba_rel : typeLookup (.type "bytearray") "__release_buffer__" = pure (some (.builtin "bytearray.__release_buffer__")) := by rw [typeLookup_type, builtinLookup_eq_fast]; kernel_rfl
theorem ba_ends : ("bytearray.__release_buffer__".endsWith ("." ++ "__release_buffer__")) = true := by decide +kernel
theorem ba_drop : ("bytearray.__release_buffer__".dropRight ("__release_buffer__".length + 1)) = "bytearray" := by decide +kernel
theorem ba_opt : Builtin.Bytes.bindOptional "bytearray.__init__" "bytearray" ["source", "encoding", "errors"] [] [] = pure [none, none, none] := by kernel_rfl
theorem ba_init {a : Addr} {Q : Fin → Shared → Prop} (ho : s.heap.get? a = some baObj) (h : Q (.done (.ret .none)) { s with heap := s.heap.update a (Obj.mapBytearray fun _ => #[]) }) :
    wpP (model prog w) A (Builtin.«bytearray.__init__» ⟨[.ref a], []⟩) Q E s := by
  unfold Builtin.«bytearray.__init__»
  dsimp only
  have rel : ∀ {Q : Bool → Shared → Prop}, Q false s → wpAny (model prog w) A (Builtin.Bytes.ownRelease (.ref a)) Q E s := fun q => by
    unfold Builtin.Bytes.ownRelease Builtin.Bytes.slotIsOwn
    refine wpAny_bind (wpAny_bind (wpAny_specialOf (T := "bytearray") ⟨_, ho, rfl⟩ ba_rel ?_))
    dsimp only
    rw [ba_ends, ba_drop]
    refine wpAny_mono (wpAny_isInstance (T := "bytearray") (b := true) ⟨_, ho, rfl⟩ ba_sub ?_) (fun _ _ x => x) fun _ _ x => x
    exact wpAny_pure q
  refine wpP_first (rel ?_)
  rw [if_neg Bool.false_ne_true]
  rw [ba_opt]
  refine wpP_first (wpAny_pure ?_)
  dsimp only
  refine wpP_first (wpAny_of_eq (a := ()) rfl ?_)
  refine wpP_first (wpAny_of_eq (a := ()) rfl ?_)
  unfold orM
  refine wpP_bind (wpP_bind (exported_no ?_))
  show wpP _ _ (Builtin.Bytes.exportsOf (.ref a) >>= fun x => pure (decide (x > 0))) _ _ _
  unfold Builtin.Bytes.exportsOf
  refine wpP_of (wpAny_bind (wpAny_bind (wpAny_load ho (wpAny_pure (wpAny_pure ?_)))))
  show wpP _ _ _ _ _ _
  rw [if_neg (by decide)]
  refine wpP_of ?_
  unfold Builtin.Bytes.write updateBytearray
  refine wpAny_bind (wpAny_bind (wpAny_load ho ?_))
  refine wpAny_bind (wpAny_update ho ?_)
  refine wpAny_lookBehind (o := Obj.mapBytearray (fun _ => #[]) baObj) (Heap.get?_update_self _ ho rfl) ?_ ?_
  · rfl
  exact wpAny_pure h
theorem codeP_builtin {id : String} {args : Args} {b : Builtin} {R : Result → Shared → Prop} (hb : entryFor table id = some b)
    (h : wpP (model prog w) (A.under (.builtin id args)) (b args) (finP (model prog w) A R) (fun e s' => R (.error e) s') s) : codeP (model prog w) A (.builtin id args) R s := by
  refine codeP_of_tree ?_
  show wpP _ _ (match entryFor table id with | some b => b args | none => unsupported ((withoutEnding? id "#data").getD id)) _ _ s
  rw [hb]; exact h
theorem codeP_call_builtin {id : String} {args : Args} {b : Builtin} {R : Result → Shared → Prop} (hq : plainId id = true) (hc : calm (.builtin id args) = true) (hb : entryFor table id = some b)
    (h : wpAny (model prog w) A.in1 (checkBuiltinCall id args) (fun _ s₁ => wpP (model prog w) A.in1 (b args) (finP (model prog w) A R) (fun e s' => R (.error e) s') s₁)
      (fun e s' => R (.error e) s') s) : codeP (model prog w) A (.call (.builtin id) args) R s := by
  refine codeP_of_tree ?_
  show wpP _ A.in1 (do checkBuiltinCall id args; again (.builtin id args)) _ _ s
  refine wpP_first (wpAny_mono h (fun _ s₁ h₁ => wpP_pure (And.intro ⟨plainId_quiet hq args, hc⟩ (codeP_builtin hb (by rw [Around.under_plainId hq args]; exact h₁)))) fun _ _ h' => h')

theorem ba_args (a : Value) : argsOk "bytearray.__init__" ⟨[a], []⟩ := by unfold argsOk; kernel_rfl
theorem ba_call {Q : Value → Shared → Prop} (h : Q (.ref s.heap.objs.size) { s with heap := (s.heap.push baObj).update s.heap.objs.size (Obj.mapBytearray fun _ => #[]) }) :
    wpP (model prog w) A (call (.type "bytearray") []) Q E s := by
  obtain ⟨c, tl, hmro⟩ := ba_called.mro
  have hmade := ba_called.made
  have hsub := ba_called.sub
  refine wpP_call (codeP_of_tree ?_)
  show wpP _ _ (callAny (.type "bytearray") ⟨[], []⟩) _ _ _
  refine wpP_pure (a := Fin.again (.builtin "type.__call__" ⟨[.type "bytearray"], []⟩)) ⟨⟨Code.quiet_builtin _ (by decide +kernel), by decide +kernel⟩, codeP_builtin F.entry_type_call ?_⟩
  rw [Around.under_plain (weight_type_call_type "bytearray" [] []) (units_type_call_type "bytearray" [] [])]
  unfold Builtin.«type.__call__»
  dsimp only
  have h2 := ba_called.canCreate
  rw [if_neg (by decide), if_neg (by rw [h2]; exact Bool.false_ne_true)]
  refine wpP_first (wpAny_of_eq ba_typeCall ?_)
  refine wpP_first (wpAny_of_eq hmro ?_)
  rw [if_neg (by exact Bool.false_ne_true)]
  refine wpP_first (wpAny_of_eq hmade ?_)
  dsimp only
  refine wpP_first (wpAny_pure ?_)
  refine wpP_first (wpAny_holding (wpAny_call (codeAny_mono (ba_new (Q₁ := fun v s' => v = .ref s.heap.objs.size ∧ s' = { s with heap := s.heap.push baObj }) (E := fun _ _ => False) ⟨rfl, rfl⟩) fun r s' hr => ?_)))
  rcases r with e | (v | _ | _ | _)
  · exact hr.elim
  · exact hr.elim
  · exact hr.elim
  · exact hr.elim
  obtain ⟨rfl, rfl⟩ := hr
  have hS : (s.heap.push baObj).get? s.heap.objs.size = some baObj := Heap.get?_push_size _ rfl
  have hT : ({ s with heap := s.heap.push baObj } : Shared).TypeIs (.ref s.heap.objs.size) "bytearray" := ⟨_, hS, rfl⟩
  show wpP _ _ _ _ _ _
  refine wpP_first (wpAny_isInstance (T := "bytearray") (b := true) hT ba_sub ?_)
  rw [if_neg (by decide)]
  refine wpP_bind (wpP_holding ?_)
  unfold callSpecial?
  refine wpP_first (wpAny_specialOf hT ba_slot_init.lookup ?_)
  dsimp only
  refine wpP_holding (wpP_first (wpAny_of_eq (ba_slot_init.bind _) ?_))
  refine wpP_bind (wpP_call (codeP_call_builtin ba_slot_init.plain (show (!holders.contains "bytearray.__init__") = true by decide +kernel) ba_entry_init (ba_slot_init.check _ _ _ _ _ _ _ _ hT (ba_args _) ?_)))
  refine ba_init hS ?_
  exact wpP_pure (wpP_pure h)
end
end Mine
/-! statements and calls over the stacks on which nobody holds a bytearray -/
namespace Mine
open PySem PySem.W PySem.Spec PySem.Calls PyProof.Rows
open Sem (wp)
section
variable {M : Model} {A : Around} {E : Value → Shared → Prop} {s : Shared} {env : Env}
theorem wpP_execs_cons {st : Stmt} {rest : List Stmt} {Q : Flow → Shared → Prop}
    (h : wpP M A (exec st env) (fun f s' => match f with | .next => wpP M A (execs rest env) Q E s' | f => Q f s') E s) : wpP M A (execs (st :: rest) env) Q E s := fun Γ p hi hg => by
  rw [execs_cons, Sem.wp_bind']
  refine Sem.wp_mono M Γ _ (fun f p' s' h' => ?_) (fun _ _ _ h' => h') _ _ (h Γ p hi hg)
  cases f <;> first | exact h' Γ p' hi hg | exact h'
/-- what is asked behind a statement -/
def RestP (M : Model) (A : Around) (env : Env) (rest : List Stmt) (Q : Flow → Shared → Prop) (E : Value → Shared → Prop) (f : Flow) (s' : Shared) : Prop :=
  match f with | .next => wpP M A (execs rest env) Q E s' | f => Q f s'
theorem wpP_execs_own {st : Stmt} {rest : List Stmt} {Q : Flow → Shared → Prop}
    (h : wpP M A (exec st env) (RestP M A env rest Q E) E s) : wpP M A (execs (st :: rest) env) Q E s := wpP_execs_cons h
/-- a statement of the library's -/
theorem wpP_execs_step {st : Stmt} {rest : List Stmt} {Q : Flow → Shared → Prop}
    (h : wpAny M A (exec st env) (RestP M A env rest Q E) E s) : wpP M A (execs (st :: rest) env) Q E s := wpP_execs_cons (wpP_of h)
theorem wpP_Assign_Name {x : Str} {pos' pos : Pos} {value : Expr} {Q : Flow → Shared → Prop}
    (h : wpP M A (eval value env) (fun v s₁ => wpAny M A (storeName env x v) (fun _ => Q .next) E s₁) E s)
    (hs : swapsWith value (some (.Name x pos')) pos.line env = pure false) : wpP M A (exec (.Assign [.Name x pos'] value pos) env) Q E s := fun Γ p hi hg => by
  simp only [exec_Assign_Name env x pos' value pos hs, Sem.wp_bind', Sem.wp_cmd_standAt, Sem.wp_bindName, Sem.wp_pure']
  exact Sem.wp_mono M Γ _ (fun v _ s₁ h₁ => h₁ Γ _ hi) (fun _ _ _ h' => h') _ _ (h Γ _ hi hg)
theorem wpP_Assign_Attribute {o : Expr} {attr : Str} {pos' pos : Pos} {value : Expr} {Q : Flow → Shared → Prop}
    (h : wpP M A (eval value env) (fun v s₁ => wpAny M A (eval o env) (fun ov s₂ => wpAny M A (setAttr ov attr v) (fun _ => Q .next) E s₂) E s₁) E s)
    (hs : swapsWith value (some (.Attribute o attr pos')) pos.line env = pure false) : wpP M A (exec (.Assign [.Attribute o attr pos'] value pos) env) Q E s := fun Γ p hi hg => by
  simp only [plainObj_exec_Assign_Attribute o attr pos' value pos hs, assign_Attribute, Sem.wp_bind', Sem.wp_holding, Sem.wp_cmd_standAt, Sem.wp_release, Sem.wp_pure']
  exact Sem.wp_mono M Γ _ (fun v p₁ s₁ h₁ => Sem.wp_mono M Γ _ (fun ov _ s₂ h₂ => h₂ Γ _ hi) (fun _ _ _ h' => h') _ _ (h₁ Γ p₁ hi)) (fun _ _ _ h' => h') _ _ (h Γ _ hi hg)
theorem wpP_Assign_stores {targets : List Expr} {value : Expr} {pos : Pos} {Q : Flow → Shared → Prop}
    (h : wpP M A (eval value env) (fun v s₁ => wpAny M A (assignAll v ((assignEach targets env).map (·.2))) (fun _ => Q .next) E s₁) E s)
    (hs : swapsWithSole targets value pos.line env = pure false) (hw : swappedStores targets value env = pure none) : wpP M A (exec (.Assign targets value pos) env) Q E s := by
  rw [exec_Assign_arm]
  refine wpP_first (wpAny_standAt ?_)
  rw [hs]
  refine wpP_first (wpAny_pure ?_)
  rw [if_neg (by decide)]
  refine wpP_bind (wpP_mono h (fun v s₁ h₁ => ?_) fun _ _ x => x)
  rw [hw]
  refine wpP_first (wpAny_pure ?_)
  show wpP M A (do assignAll v ((assignEach targets env).map (·.2)); pure .next) Q E s₁
  exact wpP_of (wpAny_bind (wpAny_mono h₁ (fun _ _ x => wpAny_pure x) fun _ _ x => x))
theorem wpP_If {test : Expr} {body orelse : List Stmt} {pos : Pos} {Q : Flow → Shared → Prop}
    (h : wpP M A (isTrue test env (eval test env)) (fun b s₂ => if b then wpP M A (execs body env) Q E s₂ else wpP M A (execs orelse env) Q E s₂) E s) :
    wpP M A (exec (.If test body orelse pos) env) Q E s := fun Γ p hi hg => by
  simp only [exec_If, Sem.wp_bind', Sem.wp_cmd_standAt]
  refine Sem.wp_mono M Γ _ (fun b p₂ s₂ h₂ => ?_) (fun _ _ _ h' => h') _ _ (h Γ _ hi hg)
  cases b <;> exact h₂ Γ p₂ hi hg
theorem wpP_operate {vs : List Value} {m : Sem Value} {Q : Value → Shared → Prop} (h : wpP M A m Q E s) : wpP M A (operate vs m) Q E s := fun Γ p hi hg => by
  rw [Sem.wp_operate]; exact h Γ p hi hg
theorem wpP_callWith {pos : Pos} {f : Value} {first : List Value} {args : List (Bool × Sem Value)} {keywords : List (Option Str × Sem Value)} {Q : Value → Shared → Prop}
    (h : wpAny M A (evalArgs f true args keywords) (fun x s₁ => wpAny M A (keeperOf f) (fun _ s₂ => wpP M A (call f (first ++ x.pos) x.kw) Q E s₂) E s₁) E s) :
    wpP M A (callWith pos f first args keywords) Q E s := by
  unfold callWith
  refine wpP_first (wpAny_holding (wpAny_mono h (fun x s₁ h₁ => wpP_first (wpAny_standAt ?_)) fun _ _ x => x))
  have tail : ∀ {t : Sem Value} {s₂ : Shared}, wpP M A t Q E s₂ → wpP M A (t >>= fun r => holding [r] point >>= fun _ => pure r) Q E s₂ :=
    fun ht => wpP_bind (wpP_mono ht (fun r s₂ hr => wpP_first (wpAny_holding (wpAny_point (wpP_pure hr)))) fun _ _ x => x)
  dsimp only
  refine wpP_first (m := keeperOf f) (wpAny_mono h₁ (fun k s₂ h₂ => ?_) fun _ _ x => x)
  cases k <;> cases (args.any (·.1) || keywords.any (·.1.isNone))
  all_goals dsimp only
  all_goals (try split)
  all_goals first
    | exact tail h₂
    | exact tail (by unfold callMarked; exact wpP_keep h₂)
    | exact tail (wpP_operate h₂)
theorem wpP_Call_Name {id : Str} {p pos : Pos} {args : List Expr} {keywords : List Keyword} {Q : Value → Shared → Prop}
    (h : wpAny M A (eval (.Name id p) env) (fun f s₁ => wpP M A (callWith pos f [] (backTo pos (starEach args env)) (backToKw pos (keywordEach keywords env))) Q E s₁) E s) :
    wpP M A (eval (.Call (.Name id p) args keywords pos) env) Q E s := by
  rw [arm_eval_Call_Name']
  exact wpP_first h
end

section
variable {prog : Program} {w : World} {A : Around} {s : Shared} {K : Frag} {p : Program} {loose : List Str} {mean : ExcName → Option Value} {mg mb : Str → Option Value} {hb : Heap} {fp : Led}
  {R : Result → Shared → Prop} {name qual : Str} {params : Arguments} {body : List Stmt} {scope : Scope} {dV kV doc pm cdv ct oc : Value} {an od : Option Addr} {osl : Array (Option Value)} {f : Addr} {args : Args} {binds : List (Str × Value)}

theorem enterP {k : Nat} (B : Base K p loose mean mg mb hb) (H : Has hb s fp) (lo : Lo (k + 1) A)
    (ho : K.lookup f = some ⟨oc, od, .func (fnOf name qual params body scope dV kV doc pm an cdv ct), osl⟩) (hcd : codeIn K cdv qual = true)
    (hbind : BindsTo s (fnOf name qual params body scope dV kV doc pm an cdv ct) args binds) (hloc : ∀ y ∈ binds, scope.names.lookup y.1 = some .local)
    (h : ∀ RR : Result → Shared → Prop, (∀ r s', R r s' → RR r s') → ∀ g L' h₁ A', Lo k A' → hb.StaysIn g → (∀ b o, g.get? b = some o → s.heap.get? b = some o) → (∀ b o, s.heap.get? b = some o → b ∉ adrs fp → g.get? b = some o) →
      Fr g L' h₁ (fun y => binds.reverse.lookup y) → News g L' h₁ fp → (adrs fp).Nodup → K.In g → Top p loose mean mg mb g →
      wpP (model prog w) A' (execs body (envOf qual scope L' f cdv))
        (fun fl s' => RR (.ok (.ret (match fl with | .ret v => v | _ => .none))) s') (fun _ _ => False) { s with heap := h₁, toks := s.toks + binds.length })
    (hcell : ∀ x ∈ scope.names, x.2 ≠ .cell) (hco : scope.isCoroutine = false) (hgen : scope.isGenerator = false) (hk : scope.kind = .function) :
    codeP (model prog w) A (.call (.ref f) args) R s := by
  have hX := B.X.keeps H.stays
  refine codeP_call_def (fd := fnOf name qual params body scope dV kV doc pm an cdv ct) (body := body) (binds := binds) lo.room (hX _ _ ho) rfl (B.T.nolimit.keeps H.stays) (codeRec_of hX hcd) rfl hbind hcell hloc (fun h₁ hns hk₁ => ?_) hco hgen hk
  have st : hb.StaysIn (hideAll s.heap (adrs fp)) := fun b o e => hideAll_get _ (H.stays b o e) fun hm => by
    obtain ⟨q, hq, rfl⟩ := List.mem_map.mp hm
    rw [(H.at_ q hq).2] at e; cases e
  exact h R (fun _ _ x => x) (hideAll s.heap (adrs fp)) s.heap.objs.size h₁ _ lo.deeper st (fun b o e => of_hideAll _ e) (fun b o e hb => hideAll_get _ e hb) ⟨hns, fun b o e => hk₁ b o (of_hideAll _ e), Nat.le_of_eq (hideAll_size _ _)⟩
    (fun q hq => ⟨hk₁ _ _ (H.at_ q hq).1, Nat.ne_of_lt (Heap.lt_size (H.at_ q hq).1), hideAll_none _ (List.mem_map_of_mem hq)⟩) H.nd (B.X.keeps st) (B.T.keeps st)
end

section
variable {M : Model} {A : Around} {s : Shared} {hb h₀ : Heap} {L : Addr} {m : Str → Option Value} {news fp rest : Led} {f : Value} {args : List Value} {φ : Value → Led → Prop} {Q : Value → Shared → Prop} {E : Value → Shared → Prop}
theorem use_codeP {R : Result → Shared → Prop} (St : hb.StaysIn h₀) (F : Fr h₀ L s.heap m) (N : News h₀ L s.heap news) (D : (adrs news).Nodup) (P : Takes news fp rest)
    (c : Has hb s fp → codeP M A (.call f ⟨args, []⟩) (Rets s fp φ) s)
    (k : ∀ v nf, φ v nf → ∀ h' tk', Fr h₀ L h' m → News h₀ L h' (nf ++ rest) → (adrs (nf ++ rest)).Nodup → R (.ok (.ret v)) { s with heap := h', toks := tk' }) : codeP M A (.call f ⟨args, []⟩) R s := by
  refine codeP_mono (c (has_of St F N D P)) ?_
  rintro r s' ⟨v, nf, h', tk', rfl, rfl, keep, foot, nd, hφ⟩
  obtain ⟨F', N', D'⟩ := after F N D P keep foot nd
  exact k v nf hφ h' tk' F' N' D'
theorem use_callP (St : hb.StaysIn h₀) (F : Fr h₀ L s.heap m) (N : News h₀ L s.heap news) (D : (adrs news).Nodup) (P : Takes news fp rest)
    (c : Has hb s fp → codeP M A (.call f ⟨args, []⟩) (Rets s fp φ) s)
    (k : ∀ v nf, φ v nf → ∀ h' tk', Fr h₀ L h' m → News h₀ L h' (nf ++ rest) → (adrs (nf ++ rest)).Nodup → Q v { s with heap := h', toks := tk' }) : wpP M A (call f args) Q E s := by
  refine wpP_call (codeP_mono (c (has_of St F N D P)) ?_)
  rintro r s' ⟨v, nf, h', tk', rfl, rfl, keep, foot, nd, hφ⟩
  obtain ⟨F', N', D'⟩ := after F N D P keep foot nd
  exact k v nf hφ h' tk' F' N' D'
end

section
variable {M : Model} {A : Around} {E : Value → Shared → Prop} {s : Shared} {env : Env}
theorem wpP_named0 {id : Str} {p pos : Pos} {Q : Value → Shared → Prop}
    (h : wpAny M A (eval (.Name id p) env) (fun f s₁ => wpAny M A (keeperOf f) (fun _ s₂ => wpP M A (call f []) Q E s₂) E s₁) E s) :
    wpP M A (eval (.Call (.Name id p) [] [] pos) env) Q E s :=
  wpP_Call_Name (wpAny_mono h (fun f _ h₁ => wpP_callWith (PyProof.Rows.evalArgs_none (f := f) h₁)) fun _ _ x => x)
theorem wpP_named {id : Str} {p pos : Pos} {e : Expr} {rest : List Expr} {Q : Value → Shared → Prop}
    (h : wpAny M A (eval (.Name id p) env) (fun f s₁ => wpAny M A (spliced (backTo pos (starEach (e :: rest) env))) (fun vs s₂ => wpAny M A (keeperOf f) (fun _ s₃ => wpP M A (call f vs) Q E s₃) E s₂) E s₁) E s)
    (he : starEach (e :: rest) env = (false, eval e env) :: starEach rest env := by rfl) :
    wpP M A (eval (.Call (.Name id p) (e :: rest) [] pos) env) Q E s :=
  wpP_Call_Name (wpAny_mono h (fun f _ h₁ => wpP_callWith (by rw [he] at h₁ ⊢; exact evalArgs_plain h₁)) fun _ _ x => x)
theorem keep_type {T : String} {Q : Keeper → Shared → Prop} (h : Q .machine s) : wpAny M A (keeperOf (.type T)) Q E s := wpAny_pure h
theorem keep_fn {K : Frag} {f : Addr} {oc : Value} {od : Option Addr} {fd : FuncData} {osl : Array (Option Value)} {Q : Keeper → Shared → Prop} (X : K.In s.heap)
    (ho : K.lookup f = some ⟨oc, od, .func fd, osl⟩) (h : Q .frame s) : wpAny M A (keeperOf (.ref f)) Q E s := by
  unfold keeperOf
  exact wpAny_bind (wpAny_load (X _ _ ho) (wpAny_pure h))
def isFnB (K : Frag) (f : Addr) : Bool := match K.lookup f with
  | some ⟨_, _, .func _, _⟩ => true
  | _ => false
theorem keep_fnB {K : Frag} {f : Addr} {Q : Keeper → Shared → Prop} (X : K.In s.heap) (h1 : isFnB K f = true) (h : Q .frame s) : wpAny M A (keeperOf (.ref f)) Q E s := by
  unfold isFnB at h1
  split at h1
  · rename_i ho
    exact keep_fn X ho h
  · cases h1
theorem keep_cls {prog : Program} {w : World} {K : Frag} {C : Addr} {Q : Keeper → Shared → Prop} (X : K.In s.heap) (hm : makesIn K C = true) (h : Q .machine s) : wpAny (model prog w) A (keeperOf (.ref C)) Q E s := by
  obtain ⟨⟨oc, od, cd, sl, hC, _⟩, _, _, _, _, call, _⟩ := makes_of (M := model prog w) X hm
  unfold keeperOf
  refine wpAny_bind (wpAny_load hC ?_)
  exact wpAny_bind (call.here (wpAny_pure h))
end
end Mine
/-! an object is made, over the stacks on which nobody holds a bytearray -/
namespace Mine
open PySem PySem.W PySem.Spec PySem.Calls PyProof.Rows
section
variable {prog : Program} {w : World} {A : Around} {C : Addr} {R : Result → Shared → Prop} {h : Heap} {g : Array GenState} {d : Drawn} {t : Nat} {os : OsState}
theorem makeP_core {rest : List Value} {init : Value} (Y : Makes (model prog w) h C) (hi : Looks (model prog w) h (typeLookup (.ref C) "__init__") (some init))
    (hb : ∀ self, Looks (model prog w) h (bindSpecial init self) (init, [self])) (hne : (some init != some (Value.builtin "object.__init__")) = true)
    (hq : codeP (model prog w) (A.under (.builtin "type.__call__" ⟨.ref C :: rest, []⟩)) (.call init ⟨.ref (h.objs.size + 1) :: rest, []⟩) (InitBack (h.objs.size + 1) R) ⟨(h.push emptyDict).push (instObj C h.objs.size), g, d, t, os⟩) :
    codeP (model prog w) A (.call (.ref C) ⟨rest, []⟩) R ⟨h, g, d, t, os⟩ := by
  have Y' := Y
  obtain ⟨⟨oc, od, cd, sl, hC, e1, e2, e4⟩, made, base, self, top, call, typ⟩ := Y
  refine codeP_of_tree (wpP_of ?_)
  show wpAny _ _ (callAny (.ref C) _) _ _ _
  refine nd_load hC ?_
  show wpAny _ _ (callAny.viaDunder (.ref C) _) _ _ _
  unfold callAny.viaDunder
  refine wpAny_bind (call.at ?_)
  dsimp only
  rw [tc_bind]
  refine wpAny_bind (wpAny_pure (wpAny_bind (wpAny_pure ?_)))
  refine wpAny_pure (a := Fin.again (.call (.builtin "type.__call__") ⟨.ref C :: rest, []⟩)) (And.intro ⟨rfl, rfl⟩ ?_)
  refine codeP_of_tree (wpP_of ?_)
  show wpAny _ A.in1 (do checkBuiltinCall "type.__call__" ⟨.ref C :: rest, []⟩; again (.builtin "type.__call__" ⟨.ref C :: rest, []⟩)) _ _ _
  refine wpAny_bind (check_slot tc_kind tc_split typ (tc_args _ _ _) (wpAny_pure (And.intro ⟨Code.quiet_builtin _ (by decide +kernel), show (!holders.contains "type.__call__") = true by decide +kernel⟩ (codeP_builtin entry_typeCall ?_))))
  unfold Builtin.«type.__call__»
  have hm : Looks (model prog w) h (mroOf (.ref C)) cd.mro := ((Looks.ld (part := none) hC).andThen .now).andThen .now
  dsimp only
  rw [if_neg (show ¬ ((Value.ref C == Value.type "type") = true) from Bool.false_ne_true)]
  refine wpP_first (hm.here ?_)
  rw [if_neg (by rw [e4]; exact Bool.false_ne_true)]
  refine wpP_first (made.here ?_)
  dsimp only
  refine wpP_first (wpAny_pure ?_)
  refine wpP_first (wpAny_holding (wpAny_call ?_))
  refine new_K Y' hi (.inl hne) ?_
  have k : ∀ b o, h.get? b = some o → ((h.push emptyDict).push (instObj C h.objs.size)).get? b = some o := fun b o e => Heap.get?_push_of_some _ (Heap.get?_push_of_some _ e)
  have hx : ((h.push emptyDict).push (instObj C h.objs.size)).get? (h.objs.size + 1) = some (instObj C h.objs.size) := by heap_get
  have t1 : Looks (model prog w) ((h.push emptyDict).push (instObj C h.objs.size)) (typeOf (.ref (h.objs.size + 1))) (.ref C) := (Looks.ld hx).andThen .now
  have s1 := self.keeps k
  have i1 := hi.keeps k
  have b1 := (hb (.ref (h.objs.size + 1))).keeps k
  show wpP _ _ _ _ _ _
  unfold isInstance
  refine wpP_first (wpAny_bind (t1.here (s1.here ?_)))
  rw [if_neg (by decide)]
  refine wpP_bind (wpP_holding ?_)
  unfold callSpecial? specialOf
  refine wpP_first (wpAny_bind (t1.here (i1.here ?_)))
  dsimp only
  refine wpP_holding (wpP_first (b1.here ?_))
  refine wpP_bind (wpP_call (codeP_mono hq fun r s' z => ?_))
  rcases r with e | (v | _ | _ | _) <;> first | exact z | exact z.elim | skip
  obtain ⟨rfl, z⟩ := z
  exact wpP_pure (wpP_pure z)
end
section
variable {prog : Program} {w : World} {A : Around} {s : Shared} {K : Frag} {hb h₀ : Heap} {L C fI : Addr} {m : Str → Option Value} {news fp0 rest : Led} {pos : List Value} {φ : Addr → Addr → Led → Prop} {Q : Value → Shared → Prop} {E : Value → Shared → Prop}
theorem makeP_use (St : hb.StaysIn h₀) (F : Fr h₀ L s.heap m) (N : News h₀ L s.heap news) (D : (adrs news).Nodup) (X : K.In h₀) (P : Takes news fp0 rest)
    (hm : makesIn K C = true) (hi : findIn K (.ref C) "__init__" = some (some (.ref fI))) (hf : typeIn K (.ref fI) = some (.type "function"))
    (c : ∀ x dx s', Has hb s' ((x, instObj C dx) :: (dx, dictOf [] 0) :: fp0) → codeP (model prog w) (A.under (.builtin "type.__call__" ⟨.ref C :: pos, []⟩)) (.call (.ref fI) ⟨.ref x :: pos, []⟩) (Rets s' ((x, instObj C dx) :: (dx, dictOf [] 0) :: fp0) (fun v nf => v = .none ∧ φ x dx nf)) s')
    (k : ∀ x dx nf, φ x dx nf → ∀ h' tk', Fr h₀ L h' m → News h₀ L h' (nf ++ rest) → (adrs (nf ++ rest)).Nodup → Q (.ref x) { s with heap := h', toks := tk' }) :
    wpP (model prog w) A (call (.ref C) pos []) Q E s := by
  refine wpP_call ?_
  obtain ⟨hh, g, d, t, os⟩ := s
  have XS := X.keeps (h' := hh) F.keep
  refine makeP_core (makes_of XS hm) (looks_findIn XS hi) (fun self => bind_fn XS self hf) rfl ?_
  have N' := (N.push F emptyDict).push (F.push _) (instObj C hh.objs.size)
  rw [Heap.size_push] at N'
  have l1 : ∀ p ∈ news, p.1 < hh.objs.size := fun p hp => Heap.lt_size (N p hp).1
  have D' := nd_new2 (o := dictOf [] 0) (o' := instObj C hh.objs.size) D l1 (Nat.lt_succ_self _)
  refine use_codeP (s := ⟨(hh.push emptyDict).push (instObj C hh.objs.size), g, d, t, os⟩) St ((F.push _).push _) N' D' (Takes.cons Pull.head (Takes.cons Pull.head P)) (c (hh.objs.size + 1) hh.objs.size _) ?_
  rintro v nf ⟨rfl, hφ⟩ h'' tk' F'' N'' D''
  exact ⟨rfl, k _ _ nf hφ h'' tk' F'' N'' D''⟩
end
end Mine
/-! loops and comprehensions with a test, over the stacks on which nobody holds a bytearray -/
namespace Mine
open PySem PySem.W PySem.Spec PySem.Calls PyProof.Rows
section
variable {α : Type} {M : Model} {A : Around} {E : Value → Shared → Prop} {s : Shared} {env : Env}
abbrev NoE : Value → Shared → Prop := fun _ _ => False
theorem anyE {t : Sem α} {Q : α → Shared → Prop} (h : wpAny M A t Q NoE s) : wpAny M A t Q E s := wpAny_mono h (fun _ _ x => x) fun _ _ x => x.elim
theorem wpP_E {t : Sem α} {Q : α → Shared → Prop} (h : wpP M A t Q NoE s) : wpP M A t Q E s := wpP_mono h (fun _ _ x => x) fun _ _ x => x.elim
theorem wpP_attempt {m : Sem α} {Q : Except Value α → Shared → Prop} (h : wpP M A m (fun a => Q (.ok a)) (fun e => Q (.error e)) s) :
    wpP M A m.attempt Q E s := fun Γ p hΓ hg => by rw [Sem.wp_attempt]; exact h Γ p hΓ hg
theorem wpP_runOwn {c : Code} {Q : Flow → Shared → Prop} (hq : calm c = true)
    (hc : codeP M (A.mark none) c (fun r s' => match r with | .ok f => Q f s' | .error _ => False) s) : wpP M A (runOwn c env none) Q E s := by
  unfold runOwn
  exact wpP_onRaise (wpP_run hq (codeP_mono hc fun r s' h => by
    cases r with
    | ok f => exact h
    | error e => exact h.elim))
theorem wpP_isTrue_Not {x : Expr} {pos : Pos} {whole : Sem Value} {Q : Bool → Shared → Prop} (h : wpP M A (isTrue x env (eval x env)) (fun b s₁ => Q (!b) s₁) E s) :
    wpP M A (isTrue (.UnaryOp .Not x pos) env whole) Q E s := wpP_bind (wpP_mono h (fun _ _ q => wpP_pure q) fun _ _ q => q)
theorem wpP_isTrue_Call {f : Expr} {as : List Expr} {ks : List Keyword} {pos : Pos} {whole : Sem Value} {Q : Bool → Shared → Prop} (h : wpP M A whole (fun v s₁ => wpAny M A (truthy v) Q E s₁) E s) :
    wpP M A (isTrue (.Call f as ks pos) env whole) Q E s := by
  show wpP M A (do let v ← whole; standAt _; holding [v] (truthy v)) Q E s
  exact wpP_bind (wpP_mono h (fun _ _ q => wpP_of (wpAny_bind (wpAny_standAt (wpAny_holding q)))) fun _ _ q => q)
theorem wpP_isTrue_Compare1 {l op r pos whole} {Q : Bool → Shared → Prop}
    (h : wpP M A (eval l env) (fun a s₁ => wpAny M A (eval r env) (fun b s₂ => wpAny M A (compareOp op a b)
      (fun c s₃ => wpAny M A (truthy c) Q E s₃) E s₂) E s₁) E s)
    (hm : behindInMarks op r = false) : wpP M A (isTrue (.Compare l [op] [r] pos) env whole) Q E s := fun Γ p hΓ hg => by
  simp only [isTrue_Compare1, markedBehindIn_of_false hm, Sem.wp_bind', Sem.wp_holding, Sem.wp_cmd_standAt, Sem.wp_operate]
  exact Sem.wp_mono M Γ _ (fun a p₁ s₁ h₁ => Sem.wp_mono M Γ _ (fun b _ s₂ h₂ => Sem.wp_mono M Γ _ (fun c p₃ s₃ h₃ => h₃ Γ p₃ hΓ)
    (fun _ _ _ h' => h') _ _ (h₂ Γ _ hΓ)) (fun _ _ _ h' => h') _ _ (h₁ Γ p₁ hΓ)) (fun _ _ _ h' => h') _ _ (h Γ p hΓ hg)
end
section
variable {prog : Program} {w : World} {A : Around} {E : Value → Shared → Prop} {R : Result → Shared → Prop} {s : Shared}
theorem codeP_forLoop {target it body orelse env} (I : Nat → Shared → Prop)
    (turn : ∀ n s, I n s → wpAny (model prog w) A (pyNext it) (fun r s₁ => match r with
      | none => wpAny (model prog w) A (execs orelse env) (fun f s₃ => R (.ok f) s₃) NoE s₁
      | some v => wpAny (model prog w) A (assign target env v) (fun _ s₂ => wpP (model prog w) A (execs body env) (fun f s₃ => match f with
          | .next | .cont => ∃ m, m < n ∧ I m s₃
          | .brk => R (.ok .next) s₃
          | .ret v => R (.ok (.ret v)) s₃) NoE s₂) NoE s₁) NoE s)
    (n : Nat) (h : I n s) (ht : ∀ v, letOwnedTupleGo target it v = pure () := by intro _; rfl) : codeP (model prog w) A (.forLoop target it body orelse env) R s := by
  refine codeP_loop rfl rfl I (fun n s hI => ?_) n h
  show wpP _ _ ((forTurn target it body orelse env).onRaise (fun x => do noteFrame x env; theTreesLotGoes x)) _ _ s
  refine wpP_onRaise (wpP_E ?_)
  simp only [forTurn]
  refine wpP_first (wpAny_standAt (wpP_first (wpAny_onRaise (anyE (wpAny_mono (turn n s hI) (fun r s₁ h₁ => ?_) fun _ _ h' => h')))))
  cases r with
  | none => exact wpP_pure (.inr ⟨⟨rfl, rfl⟩, codeP_of (codeAny_block (anyE h₁))⟩)
  | some v =>
    refine wpP_first (wpAny_of_eq (ht v) ?_)
    refine wpP_first (wpAny_mono h₁ (fun _ s₂ h₂ => wpP_bind (wpP_mono h₂ (fun f s₃ h₃ => ?_) fun _ _ h' => h')) fun _ _ h' => h')
    cases f with
    | next => exact wpP_pure (.inl ⟨rfl, h₃⟩)
    | cont => exact wpP_pure (.inl ⟨rfl, h₃⟩)
    | brk => exact wpP_pure h₃
    | ret v => exact wpP_pure h₃
theorem codeP_compLoop {elt target iter : Expr} {ifs : List Expr} {scope : Scope} {pos : Pos} {it acc : Value} {env : Env} (I : Nat → Shared → Prop)
    (turn : ∀ n s, I n s → wpAny (model prog w) A (pyNext it) (fun r s₁ => match r with
      | none => R (.ok .next) s₁
      | some v => wpAny (model prog w) A (assign target env v) (fun _ s₂ =>
          wpP (model prog w) A (forIn ifs true fun c r => if r = true then do let ok ← isTrue c env (eval c env); pure (ForInStep.yield ok) else pure (ForInStep.yield r)) (fun ok s₃ =>
            if ok = true then wpAny (model prog w) A (eval elt env) (fun x s₄ =>
              wpAny (model prog w) A (call (.builtin "list.append") [acc, x]) (fun _ s₅ => ∃ m, m < n ∧ I m s₅) NoE s₄) NoE s₃
            else ∃ m, m < n ∧ I m s₃) NoE s₂) NoE s₁) NoE s)
    (n : Nat) (h : I n s) (ht : ∀ v, letOwnedTupleGo target it v = pure () := by intro _; rfl) :
    codeP (model prog w) A (.compLoop (.ListComp elt [⟨target, iter, ifs, 0⟩] scope pos) 0 it acc env) R s := by
  refine codeP_loop rfl rfl I (fun n s hI => ?_) n h
  show wpP _ A ((compTurn (.ListComp elt [⟨target, iter, ifs, 0⟩] scope pos) 0 it acc env).onRaise (fun x => do noteFrame x env; theTreesLotGoes x)) _ _ s
  refine wpP_onRaise (wpP_E ?_)
  rw [compTurn_list]
  refine wpP_first (wpAny_standAt (wpP_first (wpAny_mono (turn n s hI) (fun r s₁ h₁ => ?_) fun _ _ h' => h')))
  cases r with
  | none => exact wpP_pure h₁
  | some v =>
    refine wpP_first (wpAny_of_eq (ht v) ?_)
    refine wpP_first (wpAny_mono h₁ (fun _ s₂ h₂ => wpP_bind (wpP_mono h₂ (fun ok s₃ h₃ => ?_) fun _ _ h' => h')) fun _ _ h' => h')
    cases ok with
    | false => exact wpP_pure (.inl ⟨rfl, h₃⟩)
    | true =>
      exact wpP_first (wpAny_bind (wpAny_mono h₃ (fun x s₄ h₄ => wpAny_bind (wpAny_mono h₄ (fun _ s₅ h₅ => wpAny_pure (wpP_pure (.inl ⟨rfl, h₅⟩))) fun _ _ h' => h')) fun _ _ h' => h'))
theorem testsP_one {env : Env} {c : Expr} {Q : Bool → Shared → Prop} (h : wpP (model prog w) A (isTrue c env (eval c env)) Q E s) :
    wpP (model prog w) A (forIn [c] true fun c r => if r = true then do let ok ← isTrue c env (eval c env); pure (ForInStep.yield ok) else pure (ForInStep.yield r)) Q E s := by
  simp only [List.forIn_cons, List.forIn_nil, if_true]
  exact wpP_bind (wpP_bind (wpP_mono h (fun b s' hb => wpP_pure (wpP_pure hb)) fun _ _ x => x))
theorem codeP_compStart {elt target iter ifs rest scope pos it acc env}
    (h0 : codeP (model prog w) A (.compLoop (.ListComp elt (⟨target, iter, ifs, 0⟩ :: rest) scope pos) 0 it acc env) R s)
    (h : wpAny (model prog w) A (pyIter it) (fun it' s' => codeP (model prog w) A (.compLoop (.ListComp elt (⟨target, iter, ifs, 0⟩ :: rest) scope pos) 0 it' acc env) R s') NoE s) :
    codeP (model prog w) A (.compStart (.ListComp elt (⟨target, iter, ifs, 0⟩ :: rest) scope pos) 0 it acc env) R s := by
  refine codeP_of_tree ?_
  show wpP _ _ ((compStart (.ListComp elt (⟨target, iter, ifs, 0⟩ :: rest) scope pos) 0 it acc env).onRaise (fun x => do noteFrame x env; standAt theWindowsPlace)) _ _ s
  refine wpP_onRaise (wpP_E ?_)
  unfold compStart
  show wpP _ _ (ask >>= _) _ _ s
  refine wpP_first (wpAny_askSetting ?_)
  split
  · first
      | exact wpP_bind (wpP_pure (wpP_pure (And.intro ⟨rfl, rfl⟩ h0)))
      | exact wpP_pure (And.intro ⟨rfl, rfl⟩ h0)
  · first
      | exact wpP_first (wpAny_rule (wpP_first (wpAny_standAt (wpP_first (wpAny_mono h (fun it' s' h' => wpP_pure (And.intro ⟨rfl, rfl⟩ h')) fun _ _ x => x)))))
      | (refine wpP_first (wpAny_rule ?_); show wpP _ _ (standAt iter.pos >>= _) _ _ s; exact wpP_first (wpAny_standAt (wpP_first (wpAny_mono h (fun it' s' h' => wpP_pure (And.intro ⟨rfl, rfl⟩ h')) fun _ _ x => x))))
end
end Mine
/-! for over a range, a comprehension with a test over a range: over the stacks on which nobody holds a bytearray -/
namespace Mine
open PySem PySem.W PySem.Spec PySem.Calls PyProof.Rows
open LCg (NsObj ns_obj lst lst_snoc Off3 Off1 fr_but news_but)
section
variable {prog : Program} {w : World} {A : Around} {s : Shared} {env : Env} {h₀ : Heap} {x : Str} {body : List Stmt} {Q : Flow → Shared → Prop}
/-- what a for over a range asks for, once its range is made -/
inductive RangeP (prog : Program) (w : World) (A : Around) (h₀ : Heap) (env : Env) (x : Str) (body : List Stmt) (Q : Flow → Shared → Prop) (J : (Str → Option Value) → Led → Prop) (xv : Value) (s : Shared) : Prop
  | mk (r : Addr) (a₀ b₀ : Int) (t₀ u₀ v₀ : Tok) (n : Nat) (m₀ : Str → Option Value) (news : Led) (e0 : xv = .ref r) (e1 : A.handled = none) (e2 : Fr h₀ env.locals s.heap m₀) (e3 : News h₀ env.locals s.heap news) (e4 : (adrs news).Nodup) (e5 : IsRange s.heap r a₀ b₀ 1 t₀ u₀ v₀) (e6 : Builtin.Range.small a₀ b₀ 1 = true) (e7 : Builtin.Range.rangeSize a₀ b₀ 1 = (n : Int)) (e8 : J m₀ news) (e9 : (∀ (i : Nat) t m₁ l I oI h tk, i < n → J m₁ l → (adrs ((I, oI) :: l)).Nodup → Fr h₀ env.locals h (fun y => if y = x then some (.int (a₀ + (i : Int)) t) else m₁ y) → News h₀ env.locals h ((I, oI) :: l) →
      wpP (model prog w) A (execs body env) (MTurnPost h₀ env.locals { s with heap := h, toks := tk } (I, oI) J Q) NoE { s with heap := h, toks := tk })) (e10 : (∀ m₁ l h tk, J m₁ l → (adrs l).Nodup → Fr h₀ env.locals h m₁ → News h₀ env.locals h l → Q .next { s with heap := h, toks := tk })) : RangeP prog w A h₀ env x body Q J xv s
inductive RInv (h₀ : Heap) (L : Addr) (s₁ : Shared) (I : Addr) (a₀ : Int) (n : Nat) (J : (Str → Option Value) → Led → Prop) (k : Nat) (s' : Shared) : Prop
  | mk (h' : Heap) (tk : Nat) (m' : Str → Option Value) (news' : Led) (i : Nat) (es : s' = { s₁ with heap := h', toks := tk }) (st : IsRangeIter h' I (a₀ + (i : Nat) * 1) ((n : Int) - (i : Nat)) 1) (F : Fr h₀ L h' m') (N : News h₀ L h' news')
    (D : (adrs ((I, (default : Obj)) :: news')).Nodup) (j : J m' news') (le : i ≤ n) (ek : k = n + 1 - i) : RInv h₀ L s₁ I a₀ n J k s'
theorem wpP_For_range {px pos : Pos} {iter : Expr} (J : (Str → Option Value) → Led → Prop) (hx : env.kindOf x = some .local)
    (hp : (env.scope.kind == .class || (env.scope.kind == .module && env.locals != env.globals)) = false)
    (h : wpAny (model prog w) A (eval iter env) (RangeP prog w A h₀ env x body Q J) NoE s)
    (hs : ∀ x, foldedSetIterable iter env x = pure x := by intro _; rfl) :
    wpP (model prog w) A (exec (.For (.Name x px) iter body [] pos) env) Q NoE s := by
  rw [exec_For]
  refine wpP_first (wpAny_standAt (wpP_first (wpAny_mono h (fun xv s₁ h₁ => ?_) fun _ _ e => e)))
  obtain ⟨r, a₀, b₀, t₀, u₀, v₀, n, m₀, news, rfl, hh, F, N, D, hr, hsm, hn, j0, turn, done⟩ := h₁
  refine wpP_first (wpAny_of_eq (hs _) (wpP_first (wpAny_standAt (wpP_first (wpAny_holding (wpAny_pyIter_range hr hsm ?_))))))
  refine wpP_runOwn rfl ?_
  show codeP (model prog w) A (.forLoop (.Name x px) (.ref s₁.heap.objs.size) body [] env) _ _
  have W := Walks.range (prog := prog) (w := w) hh s₁.heap.objs.size a₀ 1 n
  have hI₀ : h₀.get? s₁.heap.objs.size = none := next_is_new F
  have hIL : env.locals ≠ s₁.heap.objs.size := Nat.ne_of_lt F.ns.lt
  generalize hI : s₁.heap.objs.size = I at W hI₀ hIL ⊢
  refine codeP_forLoop
    (RInv h₀ env.locals s₁ I a₀ n J) ?_ (n + 1)
    ⟨_, _, m₀, news, 0, rfl, ?_, F.push _, fun p hp => ⟨Heap.get?_push_of_some _ (N p hp).1, (N p hp).2⟩, ?_, j0, Nat.zero_le _, rfl⟩
  · rintro k s' ⟨h', tk, m', news', i, rfl, hst', F', N', D', hJ, hi, rfl⟩
    have offI : ∀ p ∈ news', p.1 ≠ I := fun p hp e => (List.nodup_cons.mp D').1 (by show I ∈ adrs news'; rw [← e]; exact List.mem_map_of_mem hp)
    have next : ∀ h₁ : Heap, (∀ b o, b ∉ [I] → h'.get? b = some o → h₁.get? b = some o) → Fr h₀ env.locals h₁ m' ∧ News h₀ env.locals h₁ news' := fun h₁ hk₁ =>
      ⟨fr_but F' hk₁ hIL hI₀, news_but N' hk₁ offI⟩
    by_cases hlt : i < n
    · refine W.item i _ _ _ hlt hst' fun v h₁ tk₁ hP hst₁ hk₁ => ?_
      obtain ⟨t, rfl⟩ := hP
      obtain ⟨F₁, N₁⟩ := next h₁ hk₁
      refine wpAny_assign_Name (wpAny_storeName_local hx F₁.ns (fun h₂ hn₂ hs₂ => ?_) hp)
      have F₂ := F₁.set hn₂ hs₂
      have hst₂ := W.frame _ _ _ hst₁ fun b hb o e => (hs₂.2 b fun q => hIL (by rw [← q]; exact (List.mem_singleton.mp hb))).trans e
      obtain ⟨oI, heI⟩ : ∃ o, h₂.get? I = some o := ⟨_, hst₂⟩
      have N₂ : News h₀ env.locals h₂ ((I, oI) :: news') := fun p hp => by
        rcases List.mem_cons.mp hp with rfl | hp
        · exact ⟨heI, Ne.symm hIL, hI₀⟩
        · exact (N₁.set hs₂) p hp
      rw [Int.mul_one] at F₂
      refine wpP_mono (turn i t m' news' I oI h₂ _ hlt hJ D' F₂ N₂) (fun f s₃ h₃ => ?_) fun _ _ e => e
      have fin : ∀ tq, TurnEnd h₀ env.locals { s₁ with heap := h₂, toks := tq } (I, oI) J s₃ → ∃ m, m < n + 1 - i ∧ RInv h₀ env.locals s₁ I a₀ n J m s₃ := by
        rintro tq ⟨h'', tk', m'', all, news'', rfl, F₃, N₃, D₃, P₃, hJ₃⟩
        refine ⟨n + 1 - (i + 1), by omega, h'', tk', m'', news'', i + 1, rfl, ?_, F₃, fun p hp => N₃ _ (P₃.sub hp), P₃.nd D₃, hJ₃, hlt, rfl⟩
        have e1 := (N₃ _ P₃.mem).1
        have e2 : h₂.get? I = some _ := hst₂
        rw [heI] at e2
        show h''.get? I = some _
        rw [e1]
        exact e2
      cases f with
      | ret v => exact h₃
      | brk => exact h₃
      | next => exact fin _ h₃
      | cont => exact fin _ h₃
    · have hin : i = n := by omega
      subst hin
      refine W.done _ _ _ hst' fun h₁ tk₁ hk₁ => wpAny_execs_nil ?_
      obtain ⟨F₁, N₁⟩ := next h₁ hk₁
      exact done m' news' h₁ tk₁ hJ (List.nodup_cons.mp D').2 F₁ N₁
  · subst hI; show IsRangeIter _ _ _ _ _; rw [hn]; simpa using Heap.get?_push_size _ rfl
  · subst hI; exact nd_new D fun p hp => Heap.lt_size (N p hp).1
end
section
variable {prog : Program} {w : World} {A : Around} {s : Shared} {h₀ : Heap} {L : Addr} {m : Str → Option Value} {env : Env}
def compPostP (Q : Value → Shared → Prop) (acc : Value) (C : Addr) (r : Result) (s' : Shared) : Prop :=
  match r with
  | .ok _ => ∃ m, s'.heap.Ns C m ∧ ∀ h', Heap.SameBut C s'.heap h' → Q acc { s' with heap := h' }
  | .error _ => False
theorem wpP_comprehension {e : Expr} {scope : Scope} {pos : Pos} {newAcc first : Sem Value} {g : Comprehension} {gs : List Comprehension} {cl : List (Str × Addr)}
    {Q : Value → Shared → Prop}
    (hcl : clausesOf e = g :: gs) (hs : ∀ x, foldedSetIterable g.iter env x = pure x) (hclos : closureFor scope env = pure cl)
    (hkind : scope.kind = .function) (hnames : ∀ x ∈ scope.names, x.2 = .local → scope.names.lookup x.1 = some .local)
    (h : wpAny (model prog w) A first (fun x s₁ => wpAny (model prog w) A (pyIter x) (fun it s₂ => wpAny (model prog w) A newAcc (fun acc s₃ =>
      wpAny (model prog w) A (newFunctionEnv scope env.globals cl [] env.qual none .none (some env)) (fun cenv s₄ =>
        codeP (model prog w) A (.compStart e 0 it acc { cenv with scope := relabel scope env }) (compPostP Q acc cenv.locals) s₄) NoE s₃) NoE s₂) NoE s₁) NoE s) :
    wpP (model prog w) A (comprehension e scope env pos newAcc false first none) Q NoE s := by
  unfold comprehension
  rw [hclos, hcl]
  refine wpP_first (wpAny_mono h (fun x s₁ h₁ => wpP_first (wpAny_standAt (wpP_first (wpAny_of_eq (hs x) (wpP_first (wpAny_holding (wpAny_mono h₁ (fun it s₂ h₂ => ?_)
      fun _ _ h' => h'))))))) fun _ _ h' => h')
  show wpP _ A (newAcc >>= _) _ _ _
  refine wpP_first (wpAny_mono h₂ (fun acc s₃ h₃ => wpP_first (wpAny_pure (wpP_first (wpAny_mono h₃ (fun cenv s₄ h₄ => ?_) fun _ _ h' => h')))) fun _ _ h' => h')
  dsimp only
  have hv : ∀ x ∈ (scope.names.filter fun x => (x.2 == .local || x.2 == .cell) && x.1 != (".0" : Str)).reverse, x.2 = .local →
      Env.kindOf { cenv with scope := relabel scope env } x.1 = some .local := fun x hx hl => lookup_relabel_local (hnames x (List.mem_filter.mp (List.mem_reverse.mp hx)).1 hl)
  refine wpP_holding (wpP_bind (wpP_attempt (wpP_holding (wpP_run rfl (codeP_mono h₄ fun r s' hr => ?_)))))
  cases r with
  | ok f =>
    obtain ⟨m, hn, hr⟩ := hr
    exact wpP_of (wpAny_bind (wpAny_holding (wpAny_comp_letGo (cenv := { cenv with scope := relabel scope env }) hkind _ s' m hv hn fun h' m' _ hs' => wpAny_pure (hr h' hs'))))
  | error x => exact hr.elim
end
end Mine
/-! the block of a comprehension with one test (printed by genph.py) -/
namespace Mine
open PySem PySem.W PySem.Spec PySem.Calls PyProof.Rows
open LCg (NsObj ns_obj lst lst_snoc fr_but news_but)
theorem nd_cid {I C D : Addr} {l : Led} (h1 : (@Ne Nat I C)) (h2 : (@Ne Nat I D)) (h3 : (@Ne Nat C D)) (Dl : (adrs l).Nodup) (off : ∀ p ∈ l, (@Ne Nat p.1 I) ∧ (@Ne Nat p.1 C) ∧ (@Ne Nat p.1 D)) : (adrs ((I, (default : Obj)) :: (C, default) :: (D, default) :: l)).Nodup := by
  have hm : ∀ x ∈ adrs l, x ≠ I ∧ x ≠ C ∧ x ≠ D := fun x hx => by
    obtain ⟨p, hp, rfl⟩ := List.mem_map.mp hx
    exact off p hp
  refine List.nodup_cons.mpr ⟨fun h => ?_, List.nodup_cons.mpr ⟨fun h => ?_, List.nodup_cons.mpr ⟨fun h => (hm _ h).2.2 rfl, Dl⟩⟩⟩
  · rcases List.mem_cons.mp h with e | h
    · exact h1 e
    · rcases List.mem_cons.mp h with e | h
      · exact h2 e
      · exact (hm _ h).1 rfl
  · rcases List.mem_cons.mp h with e | h
    · exact h3 e
    · exact (hm _ h).2.1 rfl
theorem nd_cid_off {I C D : Addr} {oI oC oD : Obj} {l : Led} (h : (adrs ((I, oI) :: (C, oC) :: (D, oD) :: l)).Nodup) : ∀ p ∈ l, (@Ne Nat p.1 I) ∧ (@Ne Nat p.1 C) ∧ (@Ne Nat p.1 D) := by
  intro p hp
  have hm : p.1 ∈ adrs l := List.mem_map_of_mem hp
  obtain ⟨h1, h⟩ := List.nodup_cons.mp h
  obtain ⟨h2, h⟩ := List.nodup_cons.mp h
  obtain ⟨h3, h⟩ := List.nodup_cons.mp h
  exact ⟨fun e => h1 (List.mem_cons_of_mem _ (List.mem_cons_of_mem _ (e ▸ hm))), fun e => h2 (List.mem_cons_of_mem _ (e ▸ hm)), fun e => h3 (e ▸ hm)⟩
inductive CEndR (h₀ : Heap) (L : Addr) (m : Str → Option Value) (gg : Array GenState) (dd : Drawn) (oo : OsState) (I : Addr) (oI : Obj) (C : Addr) (oC : Obj) (D : Addr) (oD : Obj) (rest : Value → Led → Prop) (y : Value) (s₂ : Shared) : Prop
  | mk (h' : Heap) (tk : Nat) (all news' : Led) (e0 : s₂ = ⟨h', gg, dd, tk, oo⟩) (e1 : Fr h₀ L h' m) (e2 : News h₀ L h' all) (e3 : (adrs all).Nodup) (e4 : Takes all [(I, oI), (C, oC), (D, oD)] news') (e5 : rest y news') : CEndR h₀ L m gg dd oo I oI C oC D oD rest y s₂
def CEnd (h₀ : Heap) (L : Addr) (m : Str → Option Value) (s₁ : Shared) (I : Addr) (oI : Obj) (C : Addr) (oC : Obj) (D : Addr) (oD : Obj) (rest : Value → Led → Prop) (y : Value) (s₂ : Shared) : Prop :=
  CEndR h₀ L m s₁.gens s₁.drawn s₁.os I oI C oC D oD rest y s₂
theorem CEnd.intro {h₀ : Heap} {L I C D : Addr} {m : Str → Option Value} {s₁ : Shared} {oI oC oD : Obj} {rest : Value → Led → Prop} {y : Value} {h' : Heap} {tk : Nat} {all news' : Led}
    (F : Fr h₀ L h' m) (N : News h₀ L h' all) (D₁ : (adrs all).Nodup) (P : Takes all [(I, oI), (C, oC), (D, oD)] news') (r : rest y news') :
    CEnd h₀ L m s₁ I oI C oC D oD rest y { s₁ with heap := h', toks := tk } := ⟨h', tk, all, news', rfl, F, N, D₁, P, r⟩
inductive BInv (h₀ : Heap) (L : Addr) (m : Str → Option Value) (s₂ : Shared) (I C D : Addr) (n : Nat) (St : Nat → Heap → Prop) (Wd : Nat → List Value → Led → Prop) (k : Nat) (s' : Shared) : Prop
  | mk (h' : Heap) (tk i : Nat) (ys : List Value) (m' : Str → Option Value) (news' : Led) (es : s' = { s₂ with heap := h', toks := tk }) (le : i ≤ n) (ek : k = n + 1 - i) (st : St i h') (F : Fr h₀ L h' m) (ns : h'.Ns C m') (N : News h₀ L h' ((D, lst ys) :: news'))
    (nd : (adrs ((I, (default : Obj)) :: (C, default) :: (D, default) :: news')).Nodup) (w : Wd i ys news') : BInv h₀ L m s₂ I C D n St Wd k s'
structure Back (h₀ : Heap) (L I C D : Addr) (ys : List Value) (St : Heap → Prop) (h₄ : Heap) (news₄ : Led) : Prop where
  zD : h₄.get? D = some (lst ys)
  N : News h₀ L h₄ news₄
  st : St h₄
  ns : ∃ mC, h₄.Ns C mC
  nd : (adrs ((I, (default : Obj)) :: (C, default) :: (D, default) :: news₄)).Nodup
section
variable {prog : Program} {w : World} {A : Around} {E : Value → Shared → Prop} {s : Shared} {h₀ : Heap} {L : Addr} {m : Str → Option Value} {env : Env}

theorem blockP {elt iter c : Expr} {x : Str} {px : Pos} {scope : Scope} {cl : List (Str × Addr)} {pos : Pos} {s₂ : Shared} {I : Addr} {fp : List Addr} {n : Nat} {P : Nat → Value → Prop} {St : Nat → Heap → Prop} {news : Led}
    {RR : Value → Addr → Result → Shared → Prop} (Wd : Nat → List Value → Led → Prop)
    (W : Walks prog w A I fp [I] n P St) (hsz : n ≤ sizeLine) (hIo : ∀ i h, St i h → ∃ o, h.get? I = some o)
    (hSt : ∀ i j ys h h' o nw, St i h → h.get? I = some o → h'.get? I = some o → (∀ b o, h₀.get? b = some o → h'.get? b = some o) → News h₀ L h' nw → Wd j ys nw → St i h')
    (hcell : ∀ y ∈ scope.names, y.2 ≠ .cell) (hkind : scope.kind = .function) (hx : scope.names.lookup x = some .local) (hst : St 0 s₂.heap) (hfp : ∀ b ∈ fp, b < s₂.heap.objs.size)
    (F : Fr h₀ L s₂.heap m) (N : News h₀ L s₂.heap news) (hD : (adrs news).Nodup) (hIL : L ≠ I) (hI₀ : h₀.get? I = none) (off : ∀ p ∈ news, p.1 ≠ I) (w0 : Wd 0 [] news) (hlen : ∀ i ys l, Wd i ys l → ys.length ≤ i)
    (turn : ∀ i v ys l I oI C oC D m₂ h tk, i < n → P i v → Wd i ys l → NsObj oC m₂ → m₂ x = some v → Fr h₀ L h m → News h₀ L h ((I, oI) :: (C, oC) :: (D, lst ys) :: l) → (adrs ((I, oI) :: (C, oC) :: (D, lst ys) :: l)).Nodup →
      wpP (model prog w) A (isTrue c (compEnvC scope cl C env) (eval c (compEnvC scope cl C env))) (fun b s₃ => if b = true then wpAny (model prog w) A (eval elt (compEnvC scope cl C env)) (CEnd h₀ L m s₂ I oI C oC D (lst ys) (fun y l' => Wd (i + 1) (ys ++ [y]) l')) NoE s₃
        else CEnd h₀ L m s₂ I oI C oC D (lst ys) (fun _ l' => Wd (i + 1) ys l') .none s₃) NoE { s₂ with heap := h, toks := tk })
    (hRR : ∀ D C h tk m' ys news', Fr h₀ L h m → News h₀ L h ((D, lst ys) :: news') → (adrs ((D, lst ys) :: news')).Nodup → h.Ns C m' → h₀.get? C = none → C ≠ L → (∀ p ∈ (D, lst ys) :: news', p.1 ≠ C) → Wd n ys news' → RR (.ref D) C (.ok .next) { s₂ with heap := h, toks := tk }) :
    wpAny (model prog w) A (newList []) (fun acc s₃ => wpAny (model prog w) A (newFunctionEnv scope env.globals cl [] env.qual none .none (some env)) (fun cenv s₄ =>
      codeP (model prog w) A (.compStart (.ListComp elt [⟨.Name x px, iter, [c], 0⟩] scope pos) 0 (.ref I) acc { cenv with scope := relabel scope env }) (RR acc cenv.locals) s₄) E s₃) E s₂ := by
  refine wpAny_newObj_type (wpAny_newFunctionEnv hcell (by intro y hy; simp at hy) (fun h₁ hns₁ hsb₁ => ?_) hkind)
  dsimp only at hns₁ hsb₁ ⊢
  generalize hH2 : s₂.heap.push { cls := .type "list", dict := none, data := .seq ([] : List Value).toArray } = H2 at hns₁ hsb₁ ⊢
  have hC : H2.objs.size = s₂.heap.objs.size + 1 := by rw [← hH2, Heap.size_push]
  have hDC : s₂.heap.objs.size ≠ H2.objs.size := by rw [hC]; exact Nat.ne_of_lt (Nat.lt_succ_self _)
  have below : ∀ b, b < s₂.heap.objs.size → b ≠ H2.objs.size ∧ b ≠ s₂.heap.objs.size := fun b hb => ⟨by rw [hC]; exact Nat.ne_of_lt (Nat.lt_succ_of_lt hb), Nat.ne_of_lt hb⟩
  have hDf : s₂.heap.objs.size ∉ fp := fun hm => Nat.lt_irrefl _ (hfp _ hm)
  have hCf : H2.objs.size ∉ fp := fun hm => by have := hfp _ hm; rw [hC] at this; exact Nat.lt_irrefl _ (Nat.lt_of_succ_lt this)
  have hIf : I ∈ fp := W.sub I (List.mem_singleton.mpr rfl)
  have hIlt : I < s₂.heap.objs.size := hfp I hIf
  have old : ∀ b o, s₂.heap.get? b = some o → h₁.get? b = some o := fun b o e => hsb₁.extBut b o (below b (Heap.lt_size e)).1 (Heap.get?_push_of_some _ (hH2 ▸ Heap.get?_push_of_some _ e))
  have hacc : h₁.get? s₂.heap.objs.size = some (lst []) := hsb₁.extBut _ _ hDC (Heap.get?_push_of_some _ (hH2 ▸ Heap.get?_push_size _ rfl))
  have hst₁ : St 0 h₁ := W.frame _ _ _ hst fun b _ o e => old b o e
  have fresh : ∀ a, s₂.heap.objs.size ≤ a → s₂.heap.get? a = none := fun a ha => by
    cases e : s₂.heap.get? a with
    | none => rfl
    | some o' => exact absurd (Heap.lt_size e) (Nat.not_lt.mpr ha)
  have fresh₀ : ∀ a, s₂.heap.objs.size ≤ a → h₀.get? a = none := fun a ha => by
    cases e : h₀.get? a with
    | none => rfl
    | some o' => have := F.keep a o' e; rw [fresh a ha] at this; cases this
  have hD₀ : h₀.get? s₂.heap.objs.size = none := fresh₀ _ (Nat.le_refl _)
  have hC₀ : h₀.get? H2.objs.size = none := fresh₀ _ (by rw [hC]; exact Nat.le_succ _)
  have hLlt : L < s₂.heap.objs.size := F.ns.lt
  have hDL : s₂.heap.objs.size ≠ L := Ne.symm (below L hLlt).2
  have hCL : H2.objs.size ≠ L := Ne.symm (below L hLlt).1
  have hCI : I ≠ H2.objs.size := (below I hIlt).1
  have hDI : I ≠ s₂.heap.objs.size := (below I hIlt).2
  have nd₀ : (adrs ((I, (default : Obj)) :: (H2.objs.size, default) :: (s₂.heap.objs.size, default) :: news)).Nodup := nd_cid hCI hDI (Ne.symm hDC) hD fun p hp => ⟨off p hp, (below _ (Heap.lt_size (N p hp).1)).1, (below _ (Heap.lt_size (N p hp).1)).2⟩
  have loop : ∀ s₃ : Shared, s₃ = { s₂ with heap := h₁, toks := s₂.toks + ([] : List (Str × Value)).length } →
      codeP (model prog w) A (.compLoop (.ListComp elt [⟨.Name x px, iter, [c], 0⟩] scope pos) 0 (.ref I) (.ref s₂.heap.objs.size) (compEnvC scope cl H2.objs.size env))
        (RR (.ref s₂.heap.objs.size) H2.objs.size) s₃ := by
    rintro s₃ rfl
    refine codeP_compLoop
      (BInv h₀ L m s₂ I H2.objs.size s₂.heap.objs.size n St Wd) ?_ (n + 1)
      ⟨h₁, _, 0, [], _, news, rfl, Nat.zero_le _, rfl, hst₁, F.keeps old, hns₁, fun p hp => ?_, nd₀, w0⟩
    · rintro k s' ⟨h', tk, i, ys, m', news', rfl, hi, rfl, hst', F', hn', N', nd', hW'⟩
      have off3 := nd_cid_off nd'
      by_cases hlt : i < n
      · refine W.item i _ _ _ hlt hst' fun v h₂ tk₂ hPv hst₂ hk₂ => ?_
        refine wpAny_assign_Name (wpAny_storeName_local (lookup_relabel_local hx) (hn'.at' fun o e => hk₂ _ o (by simpa using Ne.symm hCI) e) (fun h₃ hn₃ hs₃ => ?_) (by simp [compEnvC, relabel, hkind]))
        refine testsP_one ?_
        have hst₃ : St (i + 1) h₃ := W.frame _ _ _ hst₂ fun b hb o e => hs₃.extBut b o (fun q => hCf (by have q' : b = H2.objs.size := q; rw [← q']; exact hb)) e
        obtain ⟨oI, heI⟩ := hIo _ _ hst₃
        obtain ⟨oC, heC, hoC⟩ := ns_obj hn₃
        have F₃ : Fr h₀ L h₃ m := (fr_but F' hk₂ hIL hI₀).change hs₃ hCL hC₀
        have N₂ : News h₀ L h₂ ((s₂.heap.objs.size, lst ys) :: news') := news_but N' hk₂ fun p hp => by
          rcases List.mem_cons.mp hp with rfl | hp
          · exact Ne.symm hDI
          · exact (off3 p hp).1
        have N₃ : News h₀ L h₃ ((I, oI) :: (H2.objs.size, oC) :: (s₂.heap.objs.size, lst ys) :: news') := fun p hp => by
          rcases List.mem_cons.mp hp with rfl | hp
          · exact ⟨heI, Ne.symm hIL, hI₀⟩
          · rcases List.mem_cons.mp hp with rfl | hp
            · exact ⟨heC, hCL, hC₀⟩
            · have z := N₂ p hp
              refine ⟨hs₃.extBut _ _ ?_ z.1, z.2⟩
              rcases List.mem_cons.mp hp with rfl | hp
              · exact hDC
              · exact (off3 p hp).2.1
        refine wpP_E (wpP_mono (turn i v ys news' I oI H2.objs.size oC s₂.heap.objs.size _ h₃ _ hlt hPv hW' hoC (by simp) F₃ N₃ nd') (fun b s₄ h₄ => ?_) fun _ _ e => e)
        have back : ∀ h₄ all news₄, News h₀ L h₄ all → (adrs all).Nodup → Takes all [(I, oI), (H2.objs.size, oC), (s₂.heap.objs.size, lst ys)] news₄ → (∀ b o, h₀.get? b = some o → h₄.get? b = some o) → ∀ j zs, Wd j zs news₄ →
            Back h₀ L I H2.objs.size s₂.heap.objs.size ys (St (i + 1)) h₄ news₄ := by
          intro h₄ all news₄ N₄ D₄ P₄ k₄ j zs hWj
          have sub : ∀ p ∈ [(I, oI), (H2.objs.size, oC), (s₂.heap.objs.size, lst ys)] ++ news₄, p ∈ all := fun p hp => P₄.mem_iff.mpr hp
          have zI := (N₄ (I, oI) (sub _ List.mem_cons_self)).1
          have zC := (N₄ (H2.objs.size, oC) (sub _ (List.mem_cons_of_mem _ List.mem_cons_self))).1
          have zD := (N₄ (s₂.heap.objs.size, lst ys) (sub _ (List.mem_cons_of_mem _ (List.mem_cons_of_mem _ List.mem_cons_self)))).1
          have N₄' : News h₀ L h₄ news₄ := fun p hp => N₄ p (sub p (List.mem_append_right _ hp))
          exact ⟨zD, N₄', hSt _ j zs _ _ _ _ hst₃ heI zI k₄ N₄' hWj, ⟨_, hoC.ns zC⟩, (List.Perm.nodup_iff (P₄.map _)).mp D₄⟩
        cases b with
        | false =>
          obtain ⟨h₄, tk₄, all, news₄, rfl, F₄, N₄, D₄, P₄, hW₄⟩ := h₄
          have bk := back h₄ all news₄ N₄ D₄ P₄ F₄.keep _ _ hW₄
          refine ⟨n + 1 - (i + 1), by omega, h₄, tk₄, i + 1, ys, _, news₄, rfl, hlt, rfl, bk.st, F₄, Classical.choose_spec bk.ns, fun p hp => ?_, bk.nd, hW₄⟩
          rcases List.mem_cons.mp hp with rfl | hp
          · exact ⟨bk.zD, hDL, hD₀⟩
          · exact bk.N p hp
        | true =>
          refine anyE (wpAny_mono h₄ (fun y s₅ h₅ => ?_) fun _ _ e => e)
          obtain ⟨h₄, tk₄, all, news₄, rfl, F₄, N₄, D₄, P₄, hW₄⟩ := h₅
          have bk := back h₄ all news₄ N₄ D₄ P₄ F₄.keep _ _ hW₄
          have hyl := hlen _ _ _ hW'
          refine append_at (hsz := by show ys.toArray.size ≤ sizeLine; rw [List.size_toArray]; omega) bk.zD fun h₅ hs₅ hD₅ => ?_
          have off4 := nd_cid_off bk.nd
          refine ⟨n + 1 - (i + 1), by omega, h₅, tk₄, i + 1, ys ++ [y], _, news₄, rfl, hlt, rfl, W.frame _ _ _ bk.st fun b hb o e => hs₅.extBut b o (fun q => hDf (q ▸ hb)) e, F₄.change hs₅ hDL hD₀,
            (Classical.choose_spec bk.ns).sameBut hs₅ (Ne.symm hDC), fun p hp => ?_, bk.nd, hW₄⟩
          rcases List.mem_cons.mp hp with rfl | hp
          · exact ⟨hD₅.trans (congrArg some (lst_snoc ys y)), hDL, hD₀⟩
          · exact ⟨hs₅.extBut _ _ (off4 p hp).2.2 (bk.N p hp).1, (bk.N p hp).2⟩
      · obtain rfl : i = n := Nat.le_antisymm hi (Nat.not_lt.mp hlt)
        refine W.done _ _ _ hst' fun h₂ tk₂ hk₂ => ?_
        refine hRR _ _ h₂ tk₂ _ ys news' (fr_but F' hk₂ hIL hI₀) (news_but N' hk₂ fun p hp => ?_) (List.nodup_cons.mp (List.nodup_cons.mp nd').2).2 (hn'.at' fun o e => hk₂ _ o (by simpa using Ne.symm hCI) e) hC₀ hCL (fun p hp => ?_) hW'
        · rcases List.mem_cons.mp hp with rfl | hp
          · exact Ne.symm hDI
          · exact (off3 p hp).1
        · rcases List.mem_cons.mp hp with rfl | hp
          · exact hDC
          · exact (off3 p hp).2.1
    · rcases List.mem_cons.mp hp with rfl | hp
      · exact ⟨hacc, hDL, hD₀⟩
      · exact ⟨old _ _ (N p hp).1, (N p hp).2⟩
  exact codeP_compStart (loop _ rfl) (W.self 0 _ _ _ hst₁ (loop _ rfl))

theorem blockT {elt iter c : Expr} {x : Str} {px : Pos} {scope : Scope} {cl : List (Str × Addr)} {pos : Pos} {s₂ : Shared} {I : Addr} {fp : List Addr} {n : Nat} {P : Nat → Value → Prop} {St : Nat → Heap → Prop} {news : Led}
    {RR : Value → Addr → Result → Shared → Prop} (Wd : Nat → List Value → Led → Prop)
    (W : Walks prog w A I fp [I] n P St) (hsz : n ≤ sizeLine) (hIo : ∀ i h, St i h → ∃ o, h.get? I = some o)
    (hSt : ∀ i j ys h h' o nw, St i h → h.get? I = some o → h'.get? I = some o → (∀ b o, h₀.get? b = some o → h'.get? b = some o) → News h₀ L h' nw → Wd j ys nw → St i h')
    (hcell : ∀ y ∈ scope.names, y.2 ≠ .cell) (hkind : scope.kind = .function) (hx : scope.names.lookup x = some .local) (hst : St 0 s₂.heap) (hfp : ∀ b ∈ fp, b < s₂.heap.objs.size)
    (F : Fr h₀ L s₂.heap m) (N : News h₀ L s₂.heap news) (hD : (adrs news).Nodup) (hIL : L ≠ I) (hI₀ : h₀.get? I = none) (off : ∀ p ∈ news, p.1 ≠ I) (w0 : Wd 0 [] news) (hlen : ∀ i ys l, Wd i ys l → ys.length ≤ i)
    (turn : ∀ i v ys l I oI C oC D m₂ h tk, i < n → P i v → Wd i ys l → NsObj oC m₂ → m₂ x = some v → Fr h₀ L h m → News h₀ L h ((I, oI) :: (C, oC) :: (D, lst ys) :: l) → (adrs ((I, oI) :: (C, oC) :: (D, lst ys) :: l)).Nodup →
      wpAny (model prog w) A (isTrue c (compEnvC scope cl C env) (eval c (compEnvC scope cl C env))) (fun b s₃ => if b = true then wpAny (model prog w) A (eval elt (compEnvC scope cl C env)) (CEnd h₀ L m s₂ I oI C oC D (lst ys) (fun y l' => Wd (i + 1) (ys ++ [y]) l')) NoE s₃
        else CEnd h₀ L m s₂ I oI C oC D (lst ys) (fun _ l' => Wd (i + 1) ys l') .none s₃) NoE { s₂ with heap := h, toks := tk })
    (hRR : ∀ D C h tk m' ys news', Fr h₀ L h m → News h₀ L h ((D, lst ys) :: news') → (adrs ((D, lst ys) :: news')).Nodup → h.Ns C m' → h₀.get? C = none → C ≠ L → (∀ p ∈ (D, lst ys) :: news', p.1 ≠ C) → Wd n ys news' → RR (.ref D) C (.ok .next) { s₂ with heap := h, toks := tk }) :
    wpAny (model prog w) A (newList []) (fun acc s₃ => wpAny (model prog w) A (newFunctionEnv scope env.globals cl [] env.qual none .none (some env)) (fun cenv s₄ =>
      codeAny (model prog w) A (.compStart (.ListComp elt [⟨.Name x px, iter, [c], 0⟩] scope pos) 0 (.ref I) acc { cenv with scope := relabel scope env }) (RR acc cenv.locals) s₄) E s₃) E s₂ := by
  refine wpAny_newObj_type (wpAny_newFunctionEnv hcell (by intro y hy; simp at hy) (fun h₁ hns₁ hsb₁ => ?_) hkind)
  dsimp only at hns₁ hsb₁ ⊢
  generalize hH2 : s₂.heap.push { cls := .type "list", dict := none, data := .seq ([] : List Value).toArray } = H2 at hns₁ hsb₁ ⊢
  have hC : H2.objs.size = s₂.heap.objs.size + 1 := by rw [← hH2, Heap.size_push]
  have hDC : s₂.heap.objs.size ≠ H2.objs.size := by rw [hC]; exact Nat.ne_of_lt (Nat.lt_succ_self _)
  have below : ∀ b, b < s₂.heap.objs.size → b ≠ H2.objs.size ∧ b ≠ s₂.heap.objs.size := fun b hb => ⟨by rw [hC]; exact Nat.ne_of_lt (Nat.lt_succ_of_lt hb), Nat.ne_of_lt hb⟩
  have hDf : s₂.heap.objs.size ∉ fp := fun hm => Nat.lt_irrefl _ (hfp _ hm)
  have hCf : H2.objs.size ∉ fp := fun hm => by have := hfp _ hm; rw [hC] at this; exact Nat.lt_irrefl _ (Nat.lt_of_succ_lt this)
  have hIf : I ∈ fp := W.sub I (List.mem_singleton.mpr rfl)
  have hIlt : I < s₂.heap.objs.size := hfp I hIf
  have old : ∀ b o, s₂.heap.get? b = some o → h₁.get? b = some o := fun b o e => hsb₁.extBut b o (below b (Heap.lt_size e)).1 (Heap.get?_push_of_some _ (hH2 ▸ Heap.get?_push_of_some _ e))
  have hacc : h₁.get? s₂.heap.objs.size = some (lst []) := hsb₁.extBut _ _ hDC (Heap.get?_push_of_some _ (hH2 ▸ Heap.get?_push_size _ rfl))
  have hst₁ : St 0 h₁ := W.frame _ _ _ hst fun b _ o e => old b o e
  have fresh : ∀ a, s₂.heap.objs.size ≤ a → s₂.heap.get? a = none := fun a ha => by
    cases e : s₂.heap.get? a with
    | none => rfl
    | some o' => exact absurd (Heap.lt_size e) (Nat.not_lt.mpr ha)
  have fresh₀ : ∀ a, s₂.heap.objs.size ≤ a → h₀.get? a = none := fun a ha => by
    cases e : h₀.get? a with
    | none => rfl
    | some o' => have := F.keep a o' e; rw [fresh a ha] at this; cases this
  have hD₀ : h₀.get? s₂.heap.objs.size = none := fresh₀ _ (Nat.le_refl _)
  have hC₀ : h₀.get? H2.objs.size = none := fresh₀ _ (by rw [hC]; exact Nat.le_succ _)
  have hLlt : L < s₂.heap.objs.size := F.ns.lt
  have hDL : s₂.heap.objs.size ≠ L := Ne.symm (below L hLlt).2
  have hCL : H2.objs.size ≠ L := Ne.symm (below L hLlt).1
  have hCI : I ≠ H2.objs.size := (below I hIlt).1
  have hDI : I ≠ s₂.heap.objs.size := (below I hIlt).2
  have nd₀ : (adrs ((I, (default : Obj)) :: (H2.objs.size, default) :: (s₂.heap.objs.size, default) :: news)).Nodup := nd_cid hCI hDI (Ne.symm hDC) hD fun p hp => ⟨off p hp, (below _ (Heap.lt_size (N p hp).1)).1, (below _ (Heap.lt_size (N p hp).1)).2⟩
  have loop : ∀ s₃ : Shared, s₃ = { s₂ with heap := h₁, toks := s₂.toks + ([] : List (Str × Value)).length } →
      codeAny (model prog w) A (.compLoop (.ListComp elt [⟨.Name x px, iter, [c], 0⟩] scope pos) 0 (.ref I) (.ref s₂.heap.objs.size) (compEnvC scope cl H2.objs.size env))
        (RR (.ref s₂.heap.objs.size) H2.objs.size) s₃ := by
    rintro s₃ rfl
    refine codeAny_compLoop_tests
      (BInv h₀ L m s₂ I H2.objs.size s₂.heap.objs.size n St Wd) ?_ (n + 1)
      ⟨h₁, _, 0, [], _, news, rfl, Nat.zero_le _, rfl, hst₁, F.keeps old, hns₁, fun p hp => ?_, nd₀, w0⟩
    · rintro k s' ⟨h', tk, i, ys, m', news', rfl, hi, rfl, hst', F', hn', N', nd', hW'⟩
      have off3 := nd_cid_off nd'
      by_cases hlt : i < n
      · refine W.item i _ _ _ hlt hst' fun v h₂ tk₂ hPv hst₂ hk₂ => ?_
        refine wpAny_assign_Name (wpAny_storeName_local (lookup_relabel_local hx) (hn'.at' fun o e => hk₂ _ o (by simpa using Ne.symm hCI) e) (fun h₃ hn₃ hs₃ => ?_) (by simp [compEnvC, relabel, hkind]))
        refine wpAny_tests_one ?_
        have hst₃ : St (i + 1) h₃ := W.frame _ _ _ hst₂ fun b hb o e => hs₃.extBut b o (fun q => hCf (by have q' : b = H2.objs.size := q; rw [← q']; exact hb)) e
        obtain ⟨oI, heI⟩ := hIo _ _ hst₃
        obtain ⟨oC, heC, hoC⟩ := ns_obj hn₃
        have F₃ : Fr h₀ L h₃ m := (fr_but F' hk₂ hIL hI₀).change hs₃ hCL hC₀
        have N₂ : News h₀ L h₂ ((s₂.heap.objs.size, lst ys) :: news') := news_but N' hk₂ fun p hp => by
          rcases List.mem_cons.mp hp with rfl | hp
          · exact Ne.symm hDI
          · exact (off3 p hp).1
        have N₃ : News h₀ L h₃ ((I, oI) :: (H2.objs.size, oC) :: (s₂.heap.objs.size, lst ys) :: news') := fun p hp => by
          rcases List.mem_cons.mp hp with rfl | hp
          · exact ⟨heI, Ne.symm hIL, hI₀⟩
          · rcases List.mem_cons.mp hp with rfl | hp
            · exact ⟨heC, hCL, hC₀⟩
            · have z := N₂ p hp
              refine ⟨hs₃.extBut _ _ ?_ z.1, z.2⟩
              rcases List.mem_cons.mp hp with rfl | hp
              · exact hDC
              · exact (off3 p hp).2.1
        refine anyE (wpAny_mono (turn i v ys news' I oI H2.objs.size oC s₂.heap.objs.size _ h₃ _ hlt hPv hW' hoC (by simp) F₃ N₃ nd') (fun b s₄ h₄ => ?_) fun _ _ e => e)
        have back : ∀ h₄ all news₄, News h₀ L h₄ all → (adrs all).Nodup → Takes all [(I, oI), (H2.objs.size, oC), (s₂.heap.objs.size, lst ys)] news₄ → (∀ b o, h₀.get? b = some o → h₄.get? b = some o) → ∀ j zs, Wd j zs news₄ →
            Back h₀ L I H2.objs.size s₂.heap.objs.size ys (St (i + 1)) h₄ news₄ := by
          intro h₄ all news₄ N₄ D₄ P₄ k₄ j zs hWj
          have sub : ∀ p ∈ [(I, oI), (H2.objs.size, oC), (s₂.heap.objs.size, lst ys)] ++ news₄, p ∈ all := fun p hp => P₄.mem_iff.mpr hp
          have zI := (N₄ (I, oI) (sub _ List.mem_cons_self)).1
          have zC := (N₄ (H2.objs.size, oC) (sub _ (List.mem_cons_of_mem _ List.mem_cons_self))).1
          have zD := (N₄ (s₂.heap.objs.size, lst ys) (sub _ (List.mem_cons_of_mem _ (List.mem_cons_of_mem _ List.mem_cons_self)))).1
          have N₄' : News h₀ L h₄ news₄ := fun p hp => N₄ p (sub p (List.mem_append_right _ hp))
          exact ⟨zD, N₄', hSt _ j zs _ _ _ _ hst₃ heI zI k₄ N₄' hWj, ⟨_, hoC.ns zC⟩, (List.Perm.nodup_iff (P₄.map _)).mp D₄⟩
        cases b with
        | false =>
          obtain ⟨h₄, tk₄, all, news₄, rfl, F₄, N₄, D₄, P₄, hW₄⟩ := h₄
          have bk := back h₄ all news₄ N₄ D₄ P₄ F₄.keep _ _ hW₄
          refine ⟨n + 1 - (i + 1), by omega, h₄, tk₄, i + 1, ys, _, news₄, rfl, hlt, rfl, bk.st, F₄, Classical.choose_spec bk.ns, fun p hp => ?_, bk.nd, hW₄⟩
          rcases List.mem_cons.mp hp with rfl | hp
          · exact ⟨bk.zD, hDL, hD₀⟩
          · exact bk.N p hp
        | true =>
          refine anyE (wpAny_mono h₄ (fun y s₅ h₅ => ?_) fun _ _ e => e)
          obtain ⟨h₄, tk₄, all, news₄, rfl, F₄, N₄, D₄, P₄, hW₄⟩ := h₅
          have bk := back h₄ all news₄ N₄ D₄ P₄ F₄.keep _ _ hW₄
          have hyl := hlen _ _ _ hW'
          refine append_at (hsz := by show ys.toArray.size ≤ sizeLine; rw [List.size_toArray]; omega) bk.zD fun h₅ hs₅ hD₅ => ?_
          have off4 := nd_cid_off bk.nd
          refine ⟨n + 1 - (i + 1), by omega, h₅, tk₄, i + 1, ys ++ [y], _, news₄, rfl, hlt, rfl, W.frame _ _ _ bk.st fun b hb o e => hs₅.extBut b o (fun q => hDf (q ▸ hb)) e, F₄.change hs₅ hDL hD₀,
            (Classical.choose_spec bk.ns).sameBut hs₅ (Ne.symm hDC), fun p hp => ?_, bk.nd, hW₄⟩
          rcases List.mem_cons.mp hp with rfl | hp
          · exact ⟨hD₅.trans (congrArg some (lst_snoc ys y)), hDL, hD₀⟩
          · exact ⟨hs₅.extBut _ _ (off4 p hp).2.2 (bk.N p hp).1, (bk.N p hp).2⟩
      · obtain rfl : i = n := Nat.le_antisymm hi (Nat.not_lt.mp hlt)
        refine W.done _ _ _ hst' fun h₂ tk₂ hk₂ => ?_
        refine hRR _ _ h₂ tk₂ _ ys news' (fr_but F' hk₂ hIL hI₀) (news_but N' hk₂ fun p hp => ?_) (List.nodup_cons.mp (List.nodup_cons.mp nd').2).2 (hn'.at' fun o e => hk₂ _ o (by simpa using Ne.symm hCI) e) hC₀ hCL (fun p hp => ?_) hW'
        · rcases List.mem_cons.mp hp with rfl | hp
          · exact Ne.symm hDI
          · exact (off3 p hp).1
        · rcases List.mem_cons.mp hp with rfl | hp
          · exact hDC
          · exact (off3 p hp).2.1
    · rcases List.mem_cons.mp hp with rfl | hp
      · exact ⟨hacc, hDL, hD₀⟩
      · exact ⟨old _ _ (N p hp).1, (N p hp).2⟩
  exact codeAny_compStart_list (loop _ rfl) (W.self 0 _ _ _ hst₁ (loop _ rfl))
end
end Mine
/-! a comprehension with a test: over a range at P, over a dict's keys at all stacks -/
namespace Mine
open PySem PySem.W PySem.Spec PySem.Calls PyProof.Rows
open LCg (NsObj lst)
section
variable {prog : Program} {w : World} {A : Around} {E : Value → Shared → Prop} {s : Shared} {h₀ : Heap} {L : Addr} {m : Str → Option Value} {env : Env}
inductive LcRangeP (prog : Program) (w : World) (A : Around) (h₀ : Heap) (L : Addr) (m : Str → Option Value) (env : Env) (elt c : Expr) (x : Str) (scope : Scope) (cl : List (Str × Addr)) (Wd : Nat → List Value → Led → Prop) (Q : Value → Shared → Prop) (xv : Value) (s : Shared) : Prop
  | mk (r : Addr) (a₀ b₀ : Int) (t₀ u₀ v₀ : Tok) (n : Nat) (news : Led) (e0 : xv = .ref r) (e1 : A.handled = none) (e2 : Fr h₀ L s.heap m) (e3 : News h₀ L s.heap news) (e4 : (adrs news).Nodup) (e5 : IsRange s.heap r a₀ b₀ 1 t₀ u₀ v₀) (e6 : Builtin.Range.small a₀ b₀ 1 = true) (e7 : Builtin.Range.rangeSize a₀ b₀ 1 = (n : Int)) (e8 : n ≤ sizeLine) (e9 : Wd 0 [] news) (e10 : (∀ (i : Nat) t ys l I oI C oC D m₂ h tk, i < n → Wd i ys l → NsObj oC m₂ → m₂ x = some (.int (a₀ + (i : Int)) t) → Fr h₀ L h m → News h₀ L h ((I, oI) :: (C, oC) :: (D, lst ys) :: l) → (adrs ((I, oI) :: (C, oC) :: (D, lst ys) :: l)).Nodup →
      wpP (model prog w) A (isTrue c (compEnvC scope cl C env) (eval c (compEnvC scope cl C env))) (fun b s₃ => if b = true then wpAny (model prog w) A (eval elt (compEnvC scope cl C env)) (CEnd h₀ L m s I oI C oC D (lst ys) (fun y l' => Wd (i + 1) (ys ++ [y]) l')) NoE s₃
        else CEnd h₀ L m s I oI C oC D (lst ys) (fun _ l' => Wd (i + 1) ys l') .none s₃) NoE { s with heap := h, toks := tk })) (e11 : (∀ D ys l h tk, Wd n ys l → (adrs ((D, lst ys) :: l)).Nodup → Fr h₀ L h m → News h₀ L h ((D, lst ys) :: l) → Q (.ref D) { s with heap := h, toks := tk })) : LcRangeP prog w A h₀ L m env elt c x scope cl Wd Q xv s
theorem lcP_range {elt iter c : Expr} {x : Str} {px : Pos} {scope : Scope} {cl : List (Str × Addr)} {pos : Pos} {Q : Value → Shared → Prop} (Wd : Nat → List Value → Led → Prop)
    (hlen : ∀ i ys l, Wd i ys l → ys.length ≤ i)
    (hclos : closureFor scope env = pure cl) (hcell : ∀ y ∈ scope.names, y.2 ≠ .cell) (hkind : scope.kind = .function)
    (hnames : ∀ y ∈ scope.names, y.2 = .local → scope.names.lookup y.1 = some .local) (hx : scope.names.lookup x = some .local)
    (h : wpAny (model prog w) A (eval iter env) (LcRangeP prog w A h₀ L m env elt c x scope cl Wd Q) NoE s)
    (hs : ∀ x, foldedSetIterable iter env x = pure x := by intro _; rfl) :
    wpP (model prog w) A (eval (.ListComp elt [⟨.Name x px, iter, [c], 0⟩] scope pos) env) Q NoE s := by
  rw [eval_ListComp]
  refine wpP_comprehension rfl hs hclos hkind hnames (wpAny_mono h (fun xv s₁ h₁ => ?_) fun _ _ e => e)
  obtain ⟨r, a₀, b₀, t₀, u₀, v₀, n, news, rfl, hh, F, N, D, hr, hsm, hn, hsz, w0, turn, done⟩ := h₁
  refine wpAny_pyIter_range hr hsm ?_
  refine blockP (m := m) Wd (LCg.range_walks hh a₀ n) hsz (fun i h st => ⟨_, st⟩) (fun i j ys h h' o nw st e e' k N' hW => LCg.range_st i h h' o nw st e e' k N' trivial) hcell hkind hx ?_ (fun b hb => ?_)
    ?_ ?_ D (Nat.ne_of_lt F.ns.lt) (next_is_new F) (fun p hp => Nat.ne_of_lt (Heap.lt_size (N p hp).1)) w0 hlen ?_ ?_
  · show IsRangeIter _ _ _ _ _
    rw [hn]; simpa using Heap.get?_push_size _ rfl
  · rw [List.mem_singleton.mp hb]
    show s₁.heap.objs.size < (s₁.heap.push _).objs.size
    rw [Heap.size_push]; exact Nat.lt_succ_self _
  · exact F.keeps fun _ _ e => Heap.get?_push_of_some _ e
  · exact N.grown fun _ _ e => Heap.get?_push_of_some _ e
  · rintro i v ys l I oI C oC D m₂ h tk hi ⟨t, rfl⟩ hW hC hx F' N' D'
    exact turn i t ys l I oI C oC D m₂ h tk hi hW hC hx F' N' D'
  · intro D C h tk m' ys news' F' N' D' hn hC₀ hCL offC hW
    refine ⟨m', hn, fun h'' hs'' => done D ys news' h'' tk hW D' (F'.change hs'' hCL hC₀) fun p hp => ⟨hs''.extBut _ _ (offC p hp) (N' p hp).1, (N' p hp).2⟩⟩
variable {K : Type} [DecidableEq K] {knd : KeyKind prog w K}
inductive LcDictT (knd : KeyKind prog w K) (A : Around) (h₀ : Heap) (L : Addr) (m : Str → Option Value) (env : Env) (elt c : Expr) (x : Str) (scope : Scope) (cl : List (Str × Addr)) (Wd : Nat → List Value → Led → Prop) (Q : Value → Shared → Prop) (xv : Value) (s : Shared) : Prop
  | mk (d : Addr) (o : Obj) (kvs : List (K × Value)) (news : Led) (e0 : xv = .ref d) (e1 : A.handled = none) (e2 : Fr h₀ L s.heap m) (e3 : News h₀ L s.heap news) (e4 : (adrs news).Nodup) (e5 : o.IsDictOf knd kvs) (e6 : (d == sysModules) = false) (e7 : kvs.length ≤ sizeLine) (e8 : (∀ i ys l, Wd i ys l → (d, o) ∈ l)) (e9 : Wd 0 [] news) (e10 : (∀ (i : Nat) k y v ys l I oI C oC D m₂ h tk, kvs[i]? = some (k, y) → knd.is k v = true → Wd i ys l → NsObj oC m₂ → m₂ x = some v → Fr h₀ L h m → News h₀ L h ((I, oI) :: (C, oC) :: (D, lst ys) :: l) → (adrs ((I, oI) :: (C, oC) :: (D, lst ys) :: l)).Nodup →
      wpAny (model prog w) A (isTrue c (compEnvC scope cl C env) (eval c (compEnvC scope cl C env))) (fun b s₃ => if b = true then wpAny (model prog w) A (eval elt (compEnvC scope cl C env)) (CEnd h₀ L m s I oI C oC D (lst ys) (fun y l' => Wd (i + 1) (ys ++ [y]) l')) NoE s₃
        else CEnd h₀ L m s I oI C oC D (lst ys) (fun _ l' => Wd (i + 1) ys l') .none s₃) NoE { s with heap := h, toks := tk })) (e11 : (∀ D ys l h tk, Wd kvs.length ys l → (adrs ((D, lst ys) :: l)).Nodup → Fr h₀ L h m → News h₀ L h ((D, lst ys) :: l) → Q (.ref D) { s with heap := h, toks := tk })) : LcDictT knd A h₀ L m env elt c x scope cl Wd Q xv s
theorem lcT_dict {elt iter c : Expr} {x : Str} {px : Pos} {scope : Scope} {cl : List (Str × Addr)} {pos : Pos} {Q : Value → Shared → Prop} (Wd : Nat → List Value → Led → Prop)
    (hlen : ∀ i ys l, Wd i ys l → ys.length ≤ i)
    (hclos : closureFor scope env = pure cl) (hcell : ∀ y ∈ scope.names, y.2 ≠ .cell) (hkind : scope.kind = .function)
    (hnames : ∀ y ∈ scope.names, y.2 = .local → scope.names.lookup y.1 = some .local) (hx : scope.names.lookup x = some .local)
    (h : wpAny (model prog w) A (eval iter env) (LcDictT knd A h₀ L m env elt c x scope cl Wd Q) E s)
    (hs : ∀ x, foldedSetIterable iter env x = pure x := by intro _; rfl) :
    wpAny (model prog w) A (eval (.ListComp elt [⟨.Name x px, iter, [c], 0⟩] scope pos) env) Q E s := by
  rw [eval_ListComp]
  refine wpAny_comprehension_free (use := none) rfl hs hclos hkind hnames (wpAny_mono h (fun xv s₁ h₁ => ?_) fun _ _ e => e)
  obtain ⟨d, o, kvs, news, rfl, hh, F, N, D, hd, hlo, hsz, hsub, w0, turn, done⟩ := h₁
  have hm := hsub _ _ _ w0
  obtain ⟨ep, ha⟩ := KdkAt.of hd
  refine wpAny_pyIter_dict (knd := knd) hlo (ha.dictAt (N _ hm).1) ?_
  have hlt : d < s₁.heap.objs.size := Heap.lt_size (N _ hm).1
  have hat : s₁.heap.DictAt knd d kvs ep := ha.dictAt (N _ hm).1
  have up : ∀ b o', s₁.heap.get? b = some o' → (s₁.heap.push { cls := .type "dict_keyiterator", data := .fields #[.ref d, .int 0 0, .int kvs.length 0, .int ep 0] }).get? b = some o' := fun b o' e => Heap.get?_push_of_some _ e
  refine blockT (s₂ := { s₁ with heap := s₁.heap.push { cls := .type "dict_keyiterator", data := .fields #[.ref d, .int 0 0, .int kvs.length 0, .int ep 0] } }) Wd (Walks.dictKeys (knd := knd) hh s₁.heap.objs.size d (Nat.ne_of_lt hlt) kvs ep) hsz (fun i h st => by obtain ⟨o', e, _⟩ := st.1; exact ⟨o', e⟩) (fun i j ys h h' oI nw st e e' k N' hW => ?_) hcell hkind hx
    ⟨⟨_, Heap.get?_push_size _ rfl, rfl, rfl⟩, hat.at' fun o' e => up _ _ e⟩ (fun b hb => ?_) (F.keeps up) (N.grown up) D (Nat.ne_of_lt F.ns.lt) (next_is_new F) (fun p hp => Nat.ne_of_lt (Heap.lt_size (N p hp).1)) w0 hlen ?_ ?_
  · refine ⟨st.1.at fun o' q => ?_, ?_⟩
    · rw [e] at q; cases q; exact e'
    · exact ha.dictAt (N' _ (hsub _ _ _ hW)).1
  · show b < (s₁.heap.push _).objs.size
    rw [Heap.size_push]
    rcases List.mem_cons.mp hb with rfl | hb
    · exact Nat.lt_succ_self _
    · rw [List.mem_singleton.mp hb]; exact Nat.lt_succ_of_lt hlt
  · rintro i v ys l I oI C oC D m₂ h tk hi ⟨k, y, hk, hv⟩ hW hC hx F' N' D'
    exact turn i k y v ys l I oI C oC D m₂ h tk hk hv hW hC hx F' N' D'
  · intro D C h tk m' ys news' F' N' D' hn hC₀ hCL offC hW
    refine ⟨m', hn, fun h'' hs'' => done D ys news' h'' tk hW D' (F'.change hs'' hCL hC₀) fun p hp => ⟨hs''.extBut _ _ (offC p hp) (N' p hp).1, (N' p hp).2⟩⟩
end
end Mine
/-! a def with cells, entered at P with the around in the open; calls whose frames below change in their slots alone -/
namespace Mine
open PySem PySem.W PySem.Spec PySem.Calls PyProof.Rows
section
variable {prog : Program} {w : World} {A : Around} {s : Shared} {K : Frag} {p : Program} {loose : List Str} {mean : ExcName → Option Value} {mg mb : Str → Option Value} {hb : Heap} {fp : Led}
  {R : Result → Shared → Prop} {name qual : Str} {params : Arguments} {body : List Stmt} {scope : Scope} {dV kV doc pm cdv ct oc : Value} {an od : Option Addr} {osl : Array (Option Value)} {f : Addr} {args : Args} {binds : List (Str × Value)}
theorem enterCP {k : Nat} (B : Base K p loose mean mg mb hb) (H : Has hb s fp) (lo : Lo (k + 1) A)
    (ho : K.lookup f = some ⟨oc, od, .func (fnOf name qual params body scope dV kV doc pm an cdv ct), osl⟩) (hcd : codeIn K cdv qual = true)
    (hbind : BindsTo s (fnOf name qual params body scope dV kV doc pm an cdv ct) args binds)
    (hkind : (binds.all fun y => scope.names.lookup y.1 == some .local || scope.names.lookup y.1 == some .cell) = true) (hnd : ((cellsFrom 0 scope.names []).map (·.1)).Nodup)
    (h : ∀ RR : Result → Shared → Prop, (∀ r s', R r s' → RR r s') → ∀ g L' h₁ A' tk cells, A' = A.deeper (envOfC qual scope L' f cdv) → g = hideAll s.heap (adrs fp) → Lo k A' → hb.StaysIn g → (∀ b o, g.get? b = some o → s.heap.get? b = some o) → (∀ b o, s.heap.get? b = some o → b ∉ adrs fp → g.get? b = some o) →
      Fr g L' h₁ (bindL (envOfC qual scope L' f cdv).kindOf binds fun _ => none) → News g L' h₁ (cells ++ fp) → (adrs (cells ++ fp)).Nodup →
      CellsAre (bindC (envOfC qual scope L' f cdv).kindOf binds fun _ => none) (cellsFrom (L' + 1) scope.names []) cells → K.In g → Top p loose mean mg mb g →
      wpP (model prog w) A' (execs body (envOfC qual scope L' f cdv))
        (fun fl s' => RR (.ok (.ret (match fl with | .ret v => v | _ => .none))) s') (fun _ _ => False) { s with heap := h₁, toks := tk })
    (hco : scope.isCoroutine = false) (hgen : scope.isGenerator = false) (hk : scope.kind = .function) :
    codeP (model prog w) A (.call (.ref f) args) R s := by
  have hX := B.X.keeps H.stays
  have st : hb.StaysIn (hideAll s.heap (adrs fp)) := fun b o e => hideAll_get _ (H.stays b o e) fun hm => by
    obtain ⟨q, hq, rfl⟩ := List.mem_map.mp hm
    rw [(H.at_ q hq).2] at e; cases e
  refine codeP_call_function (fd := fnOf name qual params body scope dV kV doc pm an cdv ct) lo.room (hX _ _ ho) rfl hco hgen rfl (codeRec_of hX hcd) (hbind _ _ _ _ ?_)
  refine wpAny_newFunctionEnv_cells hk (kindsX hkind _) fun env' he s' x => ?_
  subst he
  refine ⟨(B.T.nolimit.keeps H.stays).keeps x.toInCall.keep, codeP_func ?_⟩
  obtain ⟨h₁, tk, rfl, _⟩ := x.done
  have hk₁ := x.toInCall.keep
  obtain ⟨cells, NC, Y⟩ := Cl.news (h₀ := s.heap) (Nat.le_refl _) fun n c hm => ⟨x.cell n c (lookup_of_mem_nodup (cellsFrom_names scope.names 0 (s.heap.objs.size + 1) [] [] rfl ▸ hnd) hm), x.above n c hm⟩
  refine wpP_mono (h R (fun _ _ x => x) (hideAll s.heap (adrs fp)) s.heap.objs.size h₁ _ tk cells rfl rfl lo.deeper st (fun b o e => of_hideAll _ e) (fun b o e hb => hideAll_get _ e hb) ⟨x.toInCall.ns, fun b o e => hk₁ b o (of_hideAll _ e), Nat.le_of_eq (hideAll_size _ _)⟩
    (fun q hq => ?_) ?_ Y (B.X.keeps st) (B.T.keeps st)) (fun _ _ x => x) fun _ _ x => x.elim
  · rcases List.mem_append.mp hq with hq | hq
    · refine ⟨(NC q hq).1, (NC q hq).2.1, ?_⟩
      cases e : (hideAll s.heap (adrs fp)).get? q.1 with
      | none => rfl
      | some o => have := of_hideAll _ e; rw [(NC q hq).2.2] at this; cases this
    · exact ⟨hk₁ _ _ (H.at_ q hq).1, Nat.ne_of_lt (Heap.lt_size (H.at_ q hq).1), hideAll_none _ (List.mem_map_of_mem hq)⟩
  · have hcn : (adrs cells).Nodup := by
      rw [cells_adr Y]
      exact cells_nd scope.names (s.heap.objs.size + 1) [] List.nodup_nil (fun c hc => nomatch hc)
    unfold adrs at hcn ⊢
    rw [List.map_append]
    refine List.nodup_append.mpr ⟨hcn, H.nd, ?_⟩
    intro a ha b hb e
    subst e
    obtain ⟨q, hq, rfl⟩ := List.mem_map.mp ha
    obtain ⟨r, hr, e⟩ := List.mem_map.mp hb
    have h1 := (H.at_ r hr).1
    have e' : r.1 = q.1 := e
    rw [e', (NC q hq).2.2] at h1
    cases h1
end
/-- the call returns; the frames below it (fs) have changed in their slots at most -/
inductive RetsF (fs : List Addr) (s : Shared) (fp : Led) (φ : Value → Led → Prop) (r : Result) (s' : Shared) : Prop
  | mk (v : _) (nf : _) (h' : _) (tk' : _) (e0 : r = .ok (.ret v)) (e1 : s' = { s with heap := h', toks := tk' }) (e2 : (∀ b o, s.heap.get? b = some o → b ∉ adrs fp → b ∉ fs → h'.get? b = some o)) (e3 : (∀ b o, s.heap.get? b = some o → b ∉ adrs fp → b ∈ fs → ∃ sl, h'.get? b = some { o with slots := sl })) (e4 : (∀ q ∈ nf, h'.get? q.1 = some q.2 ∧ (q.1 ∈ adrs fp ∨ s.heap.get? q.1 = none))) (e5 : (adrs nf).Nodup) (e6 : φ v nf) : RetsF fs s fp φ r s'
theorem RetsF.of {fs : List Addr} {s s' : Shared} {fp : Led} {φ : Value → Led → Prop} {r : Result} (h : Rets s fp φ r s') : RetsF fs s fp φ r s' := by
  obtain ⟨v, nf, h', tk', e1, e2, keep, foot, nd, hv⟩ := h
  exact ⟨v, nf, h', tk', e1, e2, fun b o e n _ => keep b o e n, fun b o e n _ => ⟨o.slots, keep b o e n⟩, foot, nd, hv⟩
section
variable {M : Model} {A : Around} {s : Shared} {hb h₀ h' : Heap} {L : Addr} {m : Str → Option Value} {news fp rest nf : Led} {fs : List Addr} {f : Value} {args : List Value} {φ : Value → Led → Prop} {Q : Value → Shared → Prop} {E : Value → Shared → Prop}
theorem News.sub {led led' : Led} (N : News h₀ L h' led) (h : ∀ q ∈ led', q ∈ led) : News h₀ L h' led' := fun q hq => N q (h q hq)
/-- behind a call that changed this very frame's slots -/
theorem after_F (hL : fs = [L]) (F : Fr h₀ L s.heap m) (N : News h₀ L s.heap news) (D : (adrs news).Nodup) (P : Takes news fp rest)
    (keep : ∀ b o, s.heap.get? b = some o → b ∉ adrs fp → b ∉ fs → h'.get? b = some o) (slot : ∀ b o, s.heap.get? b = some o → b ∉ adrs fp → b ∈ fs → ∃ sl, h'.get? b = some { o with slots := sl })
    (foot : ∀ q ∈ nf, h'.get? q.1 = some q.2 ∧ (q.1 ∈ adrs fp ∨ s.heap.get? q.1 = none)) (nd : (adrs nf).Nodup) :
    Fr h₀ L h' m ∧ News h₀ L h' (nf ++ rest) ∧ (adrs (nf ++ rest)).Nodup := by
  subst hL
  have D1 : (adrs (fp ++ rest)).Nodup := (List.Perm.nodup_iff (P.map _)).mp D
  have D2 := D1
  unfold adrs at D2
  rw [List.map_append] at D2
  have inN : ∀ q ∈ fp ++ rest, q ∈ news := fun q hq => P.mem_iff.mpr hq
  have fpN : ∀ b ∈ adrs fp, ∃ o, (b, o) ∈ news := fun b hb => by
    obtain ⟨q, hq, rfl⟩ := List.mem_map.mp hb
    exact ⟨q.2, inN _ (List.mem_append_left _ hq)⟩
  obtain ⟨oL, es, ep, hL, hLd, hLk, hLf⟩ := F.ns
  have nL : L ∉ adrs fp := fun hm => by
    obtain ⟨o, ho⟩ := fpN L hm
    exact (N _ ho).2.1 rfl
  have gL : h₀.get? L = none := by
    cases e : h₀.get? L with
    | none => rfl
    | some o => exact absurd (Nat.lt_of_lt_of_le (Heap.lt_size e) F.above) (Nat.lt_irrefl _)
  obtain ⟨sl, hsl⟩ := slot _ _ hL nL (List.mem_singleton.mpr rfl)
  refine ⟨⟨⟨_, es, ep, hsl, hLd, hLk, hLf⟩, fun b o e => keep b o (F.keep b o e) (fun hm => ?_) (fun hm => ?_), F.above⟩, fun q hq => ?_, ?_⟩
  · obtain ⟨o', ho⟩ := fpN b hm
    have := (N _ ho).2.2
    rw [e] at this; cases this
  · rw [List.mem_singleton.mp hm, gL] at e; cases e
  · rcases List.mem_append.mp hq with hq | hq
    · obtain ⟨h1, h2⟩ := foot q hq
      rcases h2 with h2 | hs
      · obtain ⟨o, ho⟩ := fpN _ h2
        exact ⟨h1, (N _ ho).2.1, (N _ ho).2.2⟩
      · refine ⟨h1, fun e => ?_, ?_⟩
        · rw [e, hL] at hs; cases hs
        · cases e : h₀.get? q.1 with
          | none => rfl
          | some o => rw [F.keep _ _ e] at hs; cases hs
    · have hq' := inN q (List.mem_append_right _ hq)
      refine ⟨keep _ _ (N q hq').1 (fun hm => ?_) (fun hm => (N q hq').2.1 (List.mem_singleton.mp hm)), (N q hq').2⟩
      exact (List.nodup_append.mp D2).2.2 _ hm _ (List.mem_map_of_mem hq) rfl
  · unfold adrs at nd ⊢
    rw [List.map_append]
    refine List.nodup_append.mpr ⟨nd, (List.nodup_append.mp D2).2.1, ?_⟩
    intro a ha b hb e
    subst e
    obtain ⟨q, hq, rfl⟩ := List.mem_map.mp ha
    rcases (foot q hq).2 with h2 | hs
    · exact (List.nodup_append.mp D2).2.2 _ h2 _ hb rfl
    · obtain ⟨r, hr, e⟩ := List.mem_map.mp hb
      have h1 := (N r (inN r (List.mem_append_right _ hr))).1
      rw [e, hs] at h1; cases h1
theorem use_callPF (hL : fs = [L]) (St : hb.StaysIn h₀) (F : Fr h₀ L s.heap m) (N : News h₀ L s.heap news) (D : (adrs news).Nodup) (P : Takes news fp rest)
    (c : Has hb s fp → codeP M A (.call f ⟨args, []⟩) (RetsF fs s fp φ) s)
    (k : ∀ v nf, φ v nf → ∀ h' tk', Fr h₀ L h' m → News h₀ L h' (nf ++ rest) → (adrs (nf ++ rest)).Nodup → Q v { s with heap := h', toks := tk' }) : wpP M A (call f args) Q E s := by
  refine wpP_call (codeP_mono (c (has_of St F N D P)) ?_)
  rintro r s' ⟨v, nf, h', tk', rfl, rfl, keep, slot, foot, nd, hφ⟩
  obtain ⟨F', N', D'⟩ := after_F hL F N D P keep slot foot nd
  exact k v nf hφ h' tk' F' N' D'
/-- the end of a def behind a try whose body raised: the ground has turned from g to g' -/
theorem rets_endF {led : Led} {g g' : Heap} {L' : Addr} {m' : Str → Option Value} {v : Value} {tk' : Nat}
    (hg2 : ∀ b o, s.heap.get? b = some o → b ∉ adrs fp → g.get? b = some o) (T : KtsTurn fs g g')
    (F : Fr g' L' h' m') (N : News g' L' h' led) (hφ : φ v nf) (D : (adrs nf).Nodup) (sub : ∀ q ∈ nf, q ∈ led) : RetsF fs s fp φ (.ok (.ret v)) { s with heap := h', toks := tk' } :=
  ⟨v, nf, h', tk', rfl, rfl, fun b o e n m => F.keep b o (T.other b o (hg2 b o e n) m), fun b o e n m => by
    obtain ⟨sl, hs⟩ := T.frame b o (hg2 b o e n) m
    exact ⟨sl, F.keep _ _ hs⟩, fun q hq => ⟨(N q (sub q hq)).1, by
      by_cases hm : q.1 ∈ adrs fp
      · exact .inl hm
      · refine .inr ?_
        cases e : s.heap.get? q.1 with
        | none => rfl
        | some o =>
          have h1 := hg2 _ _ e hm
          have h2 := (N q (sub q hq)).2.2
          by_cases hf : q.1 ∈ fs
          · obtain ⟨sl, hs⟩ := T.frame _ _ h1 hf
            rw [hs] at h2; cases h2
          · rw [T.other _ _ h1 hf] at h2; cases h2⟩, D, hφ⟩
/-- the end of a def right behind such a call: the frames below it have changed in their slots, and so has its own -/
theorem rets_lastF {ψ : Value → Led → Prop} {led fp' : Led} {g : Heap} {L' : Addr} {m' : Str → Option Value} {s₁ s' : Shared} {r : Result}
    (hs₁ : ∃ tk, s₁ = { s with heap := h', toks := tk })
    (hg2 : ∀ b o, s.heap.get? b = some o → b ∉ adrs fp → g.get? b = some o)
    (F : Fr g L' h' m') (N : News g L' h' led) (D : (adrs led).Nodup) (P : Takes led fp' rest) (h : RetsF (L' :: fs) s₁ fp' ψ r s')
    (hφ : ∀ v nf, ψ v nf → ∃ nf₂, φ v nf₂ ∧ (adrs nf₂).Nodup ∧ ∀ q ∈ nf₂, (q ∈ nf ∨ q ∈ rest) ∧ q.1 ∉ fs) : RetsF fs s fp φ r s' := by
  obtain ⟨tk, rfl⟩ := hs₁
  obtain ⟨v, nf, h'', tk', rfl, rfl, keep, slot, foot, nd, hv⟩ := h
  obtain ⟨nf₂, hφ, hnd, hsub⟩ := hφ v nf hv
  have D1 : (adrs (fp' ++ rest)).Nodup := (List.Perm.nodup_iff (P.map _)).mp D
  unfold adrs at D1
  rw [List.map_append] at D1
  have inN : ∀ q ∈ fp' ++ rest, q ∈ led := fun q hq => P.mem_iff.mpr hq
  have fpN : ∀ b ∈ adrs fp', g.get? b = none := fun b hb => by
    obtain ⟨q, hq, rfl⟩ := List.mem_map.mp hb
    exact (N _ (inN _ (List.mem_append_left _ hq))).2.2
  have gL : g.get? L' = none := by
    cases e : g.get? L' with
    | none => rfl
    | some o => exact absurd (Nat.lt_of_lt_of_le (Heap.lt_size e) F.above) (Nat.lt_irrefl _)
  have gnone : ∀ b o, g.get? b = some o → b ∉ adrs fp' ∧ b ≠ L' := fun b o e => ⟨fun hm => (by rw [fpN b hm] at e; cases e), fun hm => (by rw [hm, gL] at e; cases e)⟩
  have fresh : ∀ b, g.get? b = none → b ∈ adrs fp ∨ s.heap.get? b = none := fun b e => by
    by_cases hm : b ∈ adrs fp
    · exact .inl hm
    · refine .inr ?_
      cases e2 : s.heap.get? b with
      | none => rfl
      | some o => rw [hg2 _ _ e2 hm] at e; cases e
  refine ⟨v, nf₂, h'', tk', rfl, rfl, fun b o e n m => ?_, fun b o e n m => ?_, fun q hq => ?_, hnd, hφ⟩
  · have e1 := hg2 b o e n
    have := gnone _ _ e1
    exact keep b o (F.keep _ _ e1) this.1 fun hm => by
      rcases List.mem_cons.mp hm with z | z
      · exact this.2 z
      · exact m z
  · have e1 := hg2 b o e n
    exact slot b o (F.keep _ _ e1) (gnone _ _ e1).1 (List.mem_cons_of_mem _ m)
  · obtain ⟨h1, h2⟩ := hsub q hq
    rcases h1 with h1 | h1
    · refine ⟨(foot q h1).1, ?_⟩
      rcases (foot q h1).2 with z | z
      · exact fresh _ (fpN _ z)
      · refine fresh _ ?_
        cases e : g.get? q.1 with
        | none => rfl
        | some o =>
          have e2 : h'.get? q.1 = none := z
          rw [F.keep _ _ e] at e2; cases e2
    · have hq' := N q (inN q (List.mem_append_right _ h1))
      refine ⟨keep _ _ hq'.1 (fun hm => (List.nodup_append.mp D1).2.2 _ hm _ (List.mem_map_of_mem h1) rfl) (fun hm => ?_), fresh _ hq'.2.2⟩
      rcases List.mem_cons.mp hm with z | z
      · exact hq'.2.1 z
      · exact h2 z
end
section
variable {A : Around} {base h₀ h : Heap} {outer : List Env} {L a : Addr} {m : Str → Option Value} {name : Str} {scope : Scope} {cd : Value}
theorem below_pushC (K : Below A base outer h₀) (F : Fr h₀ L h m) (hk : scope.kind = .function) : Below (A.deeper (envOfC name scope L a cd)) base (envOfC name scope L a cd :: outer) h := by
  have hnew : base.get? L = none := by
    cases hq : base.get? L with
    | none => rfl
    | some o => exact absurd (Nat.lt_of_lt_of_le (Heap.lt_size (K.stays L o hq)) F.above) (Nat.lt_irrefl _)
  refine ⟨Around.frames_deeper K.stack, fun b o e => F.keep b o (K.stays b o e), ?_⟩
  exact .cons (by show scope.kind ≠ .module; rw [hk]; decide) rfl F.ns hnew (K.frames.of_keeps fun b o e _ => ⟨o, F.keep b o e, rfl⟩)
end
end Mine
/-! a tuple's assignment to names, its first item at P -/
namespace Mine
open PySem PySem.W PySem.Spec PySem.Calls PyProof.Rows
section
variable {M : Model} {A : Around} {E : Value → Shared → Prop} {s : Shared} {env : Env}
theorem wpP_Tuple2 {e1 e2 : Expr} {k : Nat} {pos : Pos} {Q : Value → Shared → Prop}
    (h : wpP M A (eval e1 env) (fun v1 s₁ => wpAny M A (eval e2 env) (fun v2 s₂ => wpAny M A (newTuple [v1, v2]) Q E s₂) E s₁) E s)
    (he : starEach [e1, e2] env = [(false, eval e1 env), (false, eval e2 env)]) : wpP M A (eval (.Tuple [e1, e2] k pos) env) Q E s := by
  rw [arm_eval_Tuple]
  refine wpP_first (wpAny_standAt ?_)
  rw [he]
  refine wpP_bind ?_
  show wpP M A (spliced [(false, eval e1 env), (false, eval e2 env)]) _ E s
  unfold spliced
  refine wpP_bind (wpP_mono h (fun v1 s₁ h₁ => ?_) fun _ _ x => x)
  refine wpP_of ?_
  show wpAny M A (pure [v1] >>= fun here => holding here (spliced [(false, eval e2 env)]) >>= fun r => pure (here ++ r)) _ E s₁
  refine wpAny_bind (wpAny_pure (wpAny_bind (wpAny_holding ?_)))
  unfold spliced
  refine wpAny_bind (wpAny_mono h₁ (fun v2 s₂ h₂ => ?_) fun _ _ x => x)
  show wpAny M A (pure [v2] >>= fun here => holding here (spliced []) >>= fun r => pure (here ++ r)) _ E s₂
  refine wpAny_bind (wpAny_pure (wpAny_bind (wpAny_holding ?_)))
  unfold spliced
  exact wpAny_pure (wpAny_pure (wpAny_pure (wpP_of h₂)))
theorem wpP_Assign_swapped {elts k tpos value pos} {names : List Str} {Q : Flow → Shared → Prop}
    (h : wpP M A (eval value env) (fun v s₁ => wpAny M A (unpackItems v names.length none) (fun items s₂ =>
      wpAny M A (assignInOrder (names.reverse.map fun n => bindName env n) items.reverse) (fun _ => Q .next) E s₂) E s₁) E s)
    (hs : swapsWithSole [.Tuple elts k tpos] value pos.line env = pure false)
    (hw : swappedStores [.Tuple elts k tpos] value env = pure (some names)) :
    wpP M A (exec (.Assign [.Tuple elts k tpos] value pos) env) Q E s := by
  rw [PyProof.Rows.exec_Assign]
  refine wpP_first (wpAny_standAt ?_)
  rw [hs]
  refine wpP_first (wpAny_pure ?_)
  rw [if_neg (by decide)]
  refine wpP_bind (wpP_mono h (fun v s₁ h₁ => ?_) fun _ _ x => x)
  rw [hw]
  refine wpP_first (wpAny_pure (wpP_of ?_))
  show wpAny M A (do rule "assign.swapped-stores"; let items ← unpackItems v names.length none; assignInOrder (names.reverse.map fun n => bindName env n) items.reverse; pure .next) Q E s₁
  exact wpAny_bind (wpAny_rule (wpAny_bind (wpAny_mono h₁ (fun items s₂ h₂ => wpAny_bind (wpAny_mono h₂ (fun _ _ x => wpAny_pure x) fun _ _ x => x)) fun _ _ x => x)))
end
end Mine
/-! loops whose turns bind no name but the loop's own -/
namespace Mine
open PySem PySem.W PySem.Spec PySem.Calls PyProof.Rows
theorem key_again {x : Str} {v kv : Option Value} {m : Str → Option Value} : (fun y => if y = x then v else (fun y => if y = x then kv else m y) y) = fun y => if y = x then v else m y := by
  funext y
  by_cases e : y = x
  · simp [e]
  · simp [e]
section
variable {prog : Program} {w : World} {A : Around} {E : Value → Shared → Prop} {s : Shared} {env : Env} {h₀ : Heap} {x : Str} {body : List Stmt} {Q : Flow → Shared → Prop}
variable {a : Addr} {vs : List Value} {nn : Nat} {m₀ : Str → Option Value} {news : Led}
theorem for_listK (J : Nat → Led → Prop) (hh : A.handled = none) (F : Fr h₀ env.locals s.heap m₀) (N : News h₀ env.locals s.heap news) (D : (adrs news).Nodup)
    (hsrc : ∀ i l, J i l → (a, listOf vs.toArray nn) ∈ l) (j0 : J 0 news)
    (turn : ∀ i v l I oI h tk, vs[i]? = some v → J i l → (adrs ((I, oI) :: l)).Nodup → Fr h₀ env.locals h (fun y => if y = x then some v else m₀ y) → News h₀ env.locals h ((I, oI) :: l) →
      wpAny (model prog w) A (execs body env) (MTurnPost h₀ env.locals { s with heap := h, toks := tk } (I, oI) (fun m' l' => (∃ kv, m' = fun y => if y = x then kv else m₀ y) ∧ J (i + 1) l') Q) E { s with heap := h, toks := tk })
    (done : ∀ kv l h tk, J vs.length l → (adrs l).Nodup → Fr h₀ env.locals h (fun y => if y = x then kv else m₀ y) → News h₀ env.locals h l → Q .next { s with heap := h, toks := tk }) :
    wpAny (model prog w) A (pyIter (.ref a)) (fun it s₂ => LoopAtV prog w A h₀ env x body Q E it s₂) E s := by
  refine for_list (fun i m' l => (∃ kv, m' = fun y => if y = x then kv else m₀ y) ∧ J i l) hh F N D (fun i m l h => hsrc i l h.2) ⟨⟨m₀ x, ?_⟩, j0⟩ ?_ ?_
  · funext y
    by_cases e : y = x
    · simp [e]
    · simp [e]
  · rintro i v m₁ l I oI h tk hv ⟨⟨kv, rfl⟩, hJ⟩ hD F' N'
    rw [key_again] at F'
    exact turn i v l I oI h tk hv hJ hD F' N'
  · rintro m₁ l h tk ⟨⟨kv, rfl⟩, hJ⟩ hD F' N'
    exact done kv l h tk hJ hD F' N'
end
end Mine
/-! sorted over a dict whose keys are ints in rising order -/
namespace Mine
open PySem PySem.W PySem.Spec PySem.Calls PyProof.Rows
theorem ints_of {K : List (Int × Value)} : ∀ {vs : List Value}, vs.length = K.length → (∀ (j : Nat) v, vs[j]? = some v → ∃ k x, K[j]? = some (k, x) ∧ ∃ t, v = .int k t) → IntsAre vs (K.map (·.1)) := by
  induction K with
  | nil =>
    intro vs hl _
    have : vs = [] := List.eq_nil_of_length_eq_zero hl
    subst this; exact IntsAre.nil
  | cons p r ih =>
    intro vs hl h
    cases vs with
    | nil => simp at hl
    | cons v vs =>
      obtain ⟨k, x, e, t, rfl⟩ := h 0 v rfl
      have e' : p = (k, x) := by simpa using e
      subst e'
      refine IntsAre.cons _ t (ih (by simpa using hl) fun j v hv => ?_)
      obtain ⟨k', x', e', t', rfl⟩ := h (j + 1) v (by simpa using hv)
      exact ⟨k', x', by simpa using e', t', rfl⟩
section
variable {prog : Program} {w : World} {A : Around} {E : Value → Shared → Prop} {s : Shared} {h₀ : Heap} {L : Addr} {m : Str → Option Value} {news : Led} {Q : Value → Shared → Prop}
theorem sorted_dictI {d : Addr} {o : Obj} {kv : List (Int × Value)} (hh : A.handled = none) (F : Fr h₀ L s.heap m) (N : News h₀ L s.heap news) (D : (adrs news).Nodup) (hm : (d, o) ∈ news) (hd : o.IsDictOf (intKind prog w) kv) (hlo : (d == sysModules) = false)
    (hks : (kv.map (·.1)).Pairwise (· < ·)) (hl : kv.length < 64)
    (h : ∀ D' vs c h' tk, Fr h₀ L h' m → News h₀ L h' ((D', listOf (List.toArray vs) c) :: news) → (adrs ((D', listOf (List.toArray vs) c) :: news)).Nodup → IntsAre vs (kv.map (·.1)) → Q (.ref D') { s with heap := h', toks := tk }) :
    wpAny (model prog w) A (call (.builtin "sorted") [.ref d]) Q E s := by
  obtain ⟨ep, hat⟩ := (Heap.dictOf_iff.mpr ⟨o, (N _ hm).1, hd⟩ : s.heap.DictOf (intKind prog w) d kv).dictAt
  refine kdu_sorted (kdl_dict (knd := intKind prog w) (kvs := kv) (ep := ep) hlo) hh F N hat (by rw [sizeLine_eq]; omega) fun B h' tk vs F' N' l1 hlv hv => ?_
  have hI : IntsAre vs (kv.map (·.1)) := ints_of hlv fun j v e => by
    obtain ⟨k, x, e1, e2⟩ := hv j v e
    exact ⟨k, x, e1, Value.isInt_shape e2⟩
  have z := N' (B, listOf (List.toArray vs) 0) (List.mem_cons_self ..)
  have ho : h'.get? B = some (seqObj "list" vs.toArray 0) := z.1
  refine wpAny_call_entry PyProof.Rows.slot_list_sort ⟨_, z.1, rfl⟩ PyProof.Rows.entry_list_sort (list_sort_tree (n := 0) (vs := vs) ho hI (by omega) fun out ns' hI' hp hP => ⟨.none, rfl, ?_⟩) (PyProof.Rows.args_list_sort _)
  have hns : ns' = kv.map (·.1) := lks_uniq hp hP (hks.imp Int.le_of_lt)
  subst hns
  obtain ⟨e, he⟩ := sortedHeap_at (out := out) ho
  have old : ∀ b o', b ≠ B → h'.get? b = some o' → (sortedHeap h' B vs out).get? b = some o' := fun b o' hb e' => (sortedHeap_old hb (Heap.lt_size e')).trans e'
  have hBL : L ≠ B := Ne.symm z.2.1
  have F'' : Fr h₀ L (sortedHeap h' B vs out) m := ⟨F'.ns.at' fun o' e' => old _ _ hBL e', fun b o' e' => old b o' (fun q => by rw [q, z.2.2] at e'; cases e') (F'.keep b o' e'), F'.above⟩
  refine h B out.toList e _ tk F'' (fun p hp => ?_) (nd_new D l1) hI'
  rcases List.mem_cons.mp hp with rfl | hp
  · exact ⟨by rw [Array.toArray_toList]; exact he, z.2⟩
  · have z' := N' p (List.mem_cons_of_mem _ hp)
    exact ⟨old _ _ (Nat.ne_of_lt (l1 p hp)) z'.1, z'.2⟩
end
end Mine
/-! an exception class whose base is an own class with an own __init__: made and raised -/
namespace Mine
open PySem PySem.W PySem.Spec PySem.Calls PyProof.Rows
section
variable {M : Model} {A : Around} {E : Value → Shared → Prop} {h : Heap} {g : Array GenState} {d : Drawn} {t : Nat} {os : OsState}
variable {nm q : Str} {C N : Addr} {bs bm bmB : List Value} {hdct : Bool} {sn : List Str} {sub : List Value} {ab : Bool} {col : Option Bool} {dd : Option Addr} {k0 k1 k2 k3 k5 : Option Value} {B newId initId : String}
theorem ex_check_new (F : ExcBaseFacts B newId initId bmB) (hb : bm.contains (.type B) = true) {rest : List Value} {Q : Unit → Shared → Prop} (hC : h.get? C = some (excClassObj nm q C N bs bm hdct sn sub ab col dd k0 k1 k2 k3 k5 newId))
    (hq : Q () ⟨h, g, d, t, os⟩) : wpAny M A (checkBuiltinCall newId ⟨.ref C :: rest, []⟩) Q E ⟨h, g, d, t, os⟩ := by
  have hcont : (Value.ref C :: bm).contains (.type B) = true := by rw [List.contains_cons, hb, Bool.or_true]
  have hstar := F.noStar
  simp only [checkBuiltinCall, F.newKind, F.newSplit, F.newRow]
  repeat (first | refine wpAny_loadPart_at hC ?_ | (refine wpAny_isSubtype_exc hC ?_; rw [hcont]) | refine wpAny_staticBase_exc hC ?_ | refine wpAny_madeBy_exc hC ?_ | simp only [bne_self_eq_false, Bool.false_eq_true, if_false] | wp_step)
  exact hq
end
section
variable {prog : Program} {w : World} {A : Around} {R : Result → Shared → Prop} {E : Value → Shared → Prop} {h : Heap} {g : Array GenState} {d : Drawn} {t : Nat} {os : OsState}
variable {nm q : Str} {C N : Addr} {bs bm bmB : List Value} {hdct : Bool} {sn : List Str} {sub : List Value} {ab : Bool} {col : Option Bool} {dd : Option Addr} {k0 k1 k2 k3 k5 : Option Value} {B newId initId : String}
theorem ex_new (F : ExcBaseFacts B newId initId bmB) (hb : bm.contains (.type B) = true) (hA : bm.contains (.type "AttributeError") = false) (hN : bm.contains (.type "NameError") = false) {rest : List Value}
    (hC : h.get? C = some (excClassObj nm q C N bs bm hdct sn sub ab col dd k0 k1 k2 k3 k5 newId))
    (hq : R (.ok (.ret (.ref (h.objs.size + 1)))) ⟨(h.push { cls := .type "tuple", data := .seq rest.toArray }).push
      { cls := .ref C, data := .fields #[.ref h.objs.size, .none, .none, .none, .bool false, .none] }, g, d, t, os⟩) (hrest : rest.length ≤ sizeLine) :
    codeAny (model prog w) A (.builtin newId ⟨.ref C :: rest, []⟩) R ⟨h, g, d, t, os⟩ := by
  have hends := F.ends
  have hcB : (Value.ref C :: bm).contains (.type B) = true := by rw [List.contains_cons, hb, Bool.or_true]
  have hcA : (Value.ref C :: bm).contains (.type "AttributeError") = false := by rw [List.contains_cons, hA]; rfl
  have hcN : (Value.ref C :: bm).contains (.type "NameError") = false := by rw [List.contains_cons, hN]; rfl
  refine codeAny_builtinAt F.entry ?_
  unfold Builtin.«BaseException.__new__»
  refine PySem.wpAt_bind ?_
  show PySem.wpAt _ _ _ (stack >>= _) _ _ _
  refine PySem.wpAt_bind (PySem.wpAt_stack fun p below => PySem.wpAt_of_wpAny ?_)
  wp_walk
  refine PySem.wpAt_of_wpAny ?_
  rw [F.owner]
  repeat (first | with_reducible refine wpAny_madeHere_exc F.canon hC ?_ | with_reducible refine wpAny_loadPart_at hC ?_ | (with_reducible refine wpAny_isSubtype_exc hC ?_; first | rw [hcB] | rw [hcA] | rw [hcN]) | wp_step)
  show R _ _
  rw [Heap.size_push]
  exact hq
theorem ex_type_call (F : ExcBaseFacts B newId initId bmB) (hb : bm.contains (.type B) = true) (hA : bm.contains (.type "AttributeError") = false) (hN : bm.contains (.type "NameError") = false) {rest : List Value} {fI : Addr} {oI : Obj} {Q : Fin → Shared → Prop}
    (hC : h.get? C = some (excClassObj nm q C N bs bm hdct sn sub ab col dd k0 k1 k2 k3 k5 newId)) (hi : Looks (model prog w) h (typeLookup (.ref C) "__init__") (some (.ref fI)))
    (hfI : h.get? fI = some oI) (hfc : oI.cls = .type "function")
    (hq : ∀ h' e, Heap.MadeExcOf h h' e (.ref C) rest →
      wpAny (model prog w) A (call (.ref fI) (.ref e :: rest)) (fun r s' => r = .none ∧ Q (.done (.ret (.ref e))) s') E ⟨h', g, d, t, os⟩) (hrest : rest.length ≤ sizeLine) :
    wpAny (model prog w) A (Builtin.«type.__call__» ⟨.ref C :: rest, []⟩) Q E ⟨h, g, d, t, os⟩ := by
  repeat (first | with_reducible refine wpAny_loadPart_at hC ?_ | with_reducible refine wpAny_madeBy_exc hC ?_ | wp_step)
  refine codeAny_call_builtin_code (Code.quiet_builtin _ F.quiet) (ex_check_new F hb hC ?_)
  refine ex_new F hb hA hN hC ?_ hrest
  show wpAny _ _ _ _ _ _
  have hC₁ := Heap.get?_push_of_some { cls := .ref C, data := .fields #[.ref h.objs.size, .none, .none, .none, .bool false, .none] }
    (Heap.get?_push_of_some { cls := .type "tuple", data := .seq rest.toArray } hC)
  have hfI₁ := Heap.get?_push_of_some { cls := .ref C, data := .fields #[.ref h.objs.size, .none, .none, .none, .bool false, .none] }
    (Heap.get?_push_of_some { cls := .type "tuple", data := .seq rest.toArray } hfI)
  have hi₁ := hi.keeps (h' := (h.push { cls := .type "tuple", data := .seq rest.toArray }).push { cls := .ref C, data := .fields #[.ref h.objs.size, .none, .none, .none, .bool false, .none] })
    fun b o e => Heap.get?_push_of_some _ (Heap.get?_push_of_some _ e)
  have hget : ((h.push { cls := .type "tuple", data := .seq rest.toArray }).push
      { cls := .ref C, data := .fields #[.ref h.objs.size, .none, .none, .none, .bool false, .none] }).get? (h.objs.size + 1) = some
      { cls := .ref C, data := .fields #[.ref h.objs.size, .none, .none, .none, .bool false, .none] } := by heap_get
  have hcC : (Value.ref C :: bm).contains (.ref C) = true := by simp
  unfold isInstance
  repeat (first | with_reducible refine wpAny_loadPart_at hget ?_ | (with_reducible refine wpAny_isSubtype_exc hC₁ ?_; rw [hcC]) | wp_step)
  show wpAny _ _ (typeLookup (.ref C) _) _ _ _
  refine hi₁.here ?_
  refine wpAny_holding (wpAny_bind ?_)
  unfold bindSpecial
  refine wpAny_bind (wpAny_typeOf (T := "function") ⟨_, hfI₁, hfc⟩ ?_)
  rw [if_pos (by decide)]
  refine wpAny_pure (wpAny_bind (wpAny_mono (hq _ (h.objs.size + 1) ⟨fun b o hb => Heap.get?_push_of_some _ (Heap.get?_push_of_some _ hb), Heap.get?_none_of_le (Nat.le_succ _), h.objs.size, hget, Heap.get?_none_of_le (Nat.le_refl _), ?_⟩) (fun r s' hr => ?_) fun _ _ x => x))
  · exact Heap.get?_push_of_some _ (Heap.get?_push_at rfl rfl)
  · obtain ⟨rfl, hQ⟩ := hr
    wp_walk
    exact hQ
theorem ex_call (F : ExcBaseFacts B newId initId bmB) (hb : bm.contains (.type B) = true) (hA : bm.contains (.type "AttributeError") = false) (hN : bm.contains (.type "NameError") = false) {rest : List Value} {fI : Addr} {oI : Obj} {Q : Value → Shared → Prop}
    (hC : h.get? C = some (excClassObj nm q C N bs bm hdct sn sub ab col dd k0 k1 k2 k3 k5 newId)) (hi : Looks (model prog w) h (typeLookup (.ref C) "__init__") (some (.ref fI)))
    (hfI : h.get? fI = some oI) (hfc : oI.cls = .type "function")
    (hq : ∀ h' e, Heap.MadeExcOf h h' e (.ref C) rest →
      wpAny (model prog w) (A.under (.builtin "type.__call__" ⟨.ref C :: rest, []⟩)) (call (.ref fI) (.ref e :: rest)) (fun r s' => r = .none ∧ Q (.ref e) s') E ⟨h', g, d, t, os⟩) (hrest : rest.length ≤ sizeLine) :
    wpAny (model prog w) A (call (.ref C) rest) Q E ⟨h, g, d, t, os⟩ := by
  have f1 := tc_lookup
  have f2 := PySem.tc_bind (.ref C)
  have hT : (⟨h, g, d, t, os⟩ : Shared).TypeIs (.ref C) "type" := ⟨_, hC, rfl⟩
  refine wpAny_call (codeAny_of_tree ?_)
  show wpAny _ _ (callAny (.ref C) _) _ _ _
  repeat (any_goals (first | assumption | with_reducible refine wpAny_loadPart_at hC ?_ | wp_step))
  refine ⟨rfl, ?_⟩
  refine codeAny_call_builtin_at (Code.quiet_builtin _ (by decide +kernel)) entry_typeCall (wpAny_check_type_call_sub hC (ex_type_call (hrest := hrest) F hb hA hN hC hi hfI hfc fun h' e hm => ?_))
  exact hq h' e hm
end
end Mine
/-! an attribute stored on an exception of an own class -/
namespace Mine
open PySem PySem.W PySem.Spec PySem.Calls PyProof.Rows
section
variable {prog : Program} {w : World} {A : Around} {R : Result → Shared → Prop} {E : Value → Shared → Prop} {h : Heap} {g : Array GenState} {d : Drawn} {t : Nat} {os : OsState}
variable {nm q : Str} {C N x : Addr} {bs bm : List Value} {sn : List Str} {sub : List Value} {ab : Bool} {col : Option Bool} {dd : Option Addr} {k0 k1 k2 k3 k5 : Option Value} {newId : String} {name : Str} {v : Value} {o : Obj}
theorem ex_check_sa {M : Model} {nameV : Value} {Q : Unit → Shared → Prop} (hO : bm.contains (.type "object") = true)
    (hC : h.get? C = some (excClassObj nm q C N bs bm true sn sub ab col dd k0 k1 k2 k3 k5 newId)) (hx : h.get? x = some o) (hc : o.cls = .ref C) (hq : Q () ⟨h, g, d, t, os⟩) :
    wpAny M A (checkBuiltinCall "object.__setattr__" ⟨[.ref x, nameV, v], []⟩) Q E ⟨h, g, d, t, os⟩ := by
  have SF := PySem.F.store_Exception
  have hcB : (Value.ref C :: bm).contains (.type "object") = true := by rw [List.contains_cons, hO, Bool.or_true]
  have ha := SF.args (.ref x) nameV v
  simp only [checkBuiltinCall, SF.kind, SF.split]
  refine wpAny_bind ?_
  · unfold isInstance
    repeat (first | (with_reducible refine wpAny_loadPart_at hx ?_; rw [hc]) | (with_reducible refine wpAny_isSubtype_exc hC ?_; rw [hcB]) | wp_step)
    exact hq
theorem ex_store_entry {tk : Tok} {Q : Fin → Shared → Prop}
    (hC : h.get? C = some (excClassObj nm q C N bs bm true sn sub ab col dd k0 k1 k2 k3 k5 newId)) (hln : Looks (model prog w) h (typeLookup (.ref C) name) none) (hpass : ∀ self, refuseLoop self "__setattr__" bm = pure ())
    (hx : h.get? x = some o) (hc : o.cls = .ref C) (hdn : o.dict = none) (hnc : ∀ c, o.data ≠ .cls c)
    (hq : ∀ h' tk', (∀ b o', b ≠ x → h.get? b = some o' → h'.get? b = some o') → h'.get? x = some { cls := o.cls, dict := some h.objs.size, data := o.data, slots := o.slots } → Q (.done (.ret .none)) ⟨h', g, d, tk', os⟩) :
    wpAny (model prog w) A (Builtin.«object.__setattr__» ⟨[.ref x, .str name tk, v], []⟩) Q E ⟨h, g, d, t, os⟩ := by
  have hp := hpass (.ref x)
  unfold Builtin.«object.__setattr__»
  repeat (first | rw [refuse_eq] | (rw [refuseLoop_ref, hp]) | (with_reducible refine wpAny_loadPart_at hx ?_; rw [hc]) | with_reducible refine wpAny_mroOf_exc hC ?_ | with_reducible refine hln.here ?_ | wp_step)
  rw [hdn, if_neg (by simp [typeHasDict])]
  split
  · rename_i hcd
    cases hcd
  split
  · rename_i c hcd
    exact absurd hcd (hnc c)
  · have hx₁ : (h.push { cls := .type "dict", data := .dict #[] }).get? x = some o := Heap.get?_push_of_some _ hx
    have hxs : x ≠ h.objs.size := Nat.ne_of_lt (Heap.lt_size hx)
    refine wpAny_bind (wpAny_alloc' ?_)
    refine wpAny_bind (wpAny_update' hx₁ ?_)
    refine wpAny_pure ?_
    have hgd : ((h.push { cls := .type "dict", data := .dict #[] }).update x fun o => { cls := o.cls, dict := some h.objs.size, data := o.data, slots := o.slots }).get? h.objs.size
        = some { cls := .type "dict", data := .dict #[] } :=
      (Heap.get?_update_ne _ _ _ _ hxs.symm).trans (Heap.get?_push_at rfl rfl)
    have hnd : ((h.push { cls := .type "dict", data := .dict #[] }).update x fun o => { cls := o.cls, dict := some h.objs.size, data := o.data, slots := o.slots }).Ns h.objs.size (fun _ => none) :=
      ⟨_, #[], _, hgd, rfl, fun e he => absurd he (by simp), fun _ => rfl⟩
    show wpAny _ _ (Builtin.ObjectAttr.storeInDict h.objs.size (.str name tk) name v) _ _ _
    unfold Builtin.ObjectAttr.storeInDict Builtin.ObjectAttr.newKeyGuard
    refine wpAny_bind (wpAny_pure (wpAny_bind (wpAny_nsSet1 (Heap.Ns1.of_empty hnd) fun h' hn' hs => ?_)))
    obtain ⟨oD, esD, epD, hoD, hdD, hcD⟩ := hn'.count (Within.cons name v Within.nil)
    refine wpAny_bind (wpAny_lookBehind hoD (by rw [hdD]; exact pastItsLine_dict (Nat.le_trans hcD (by rw [List.length_cons, List.length_nil, sizeLine_eq]; omega))) ?_)
    wp_walk
    refine hq h' _ (fun b ob hbx hb => ?_) ?_
    · exact (hs.2 b (Nat.ne_of_lt (Heap.lt_size hb))).trans ((Heap.get?_update_ne _ _ _ _ hbx).trans (Heap.get?_push_of_some _ hb))
    · refine (hs.2 x hxs).trans (Heap.get?_update_self _ hx₁ ?_)
      have hfr := (Heap.get?_some_iff.mp hx).2
      obtain ⟨oc, od, odt, osl⟩ := o
      cases odt <;> first | rfl | exact hfr
theorem ex_store {Q : Unit → Shared → Prop} (hO : bm.contains (.type "object") = true)
    (hC : h.get? C = some (excClassObj nm q C N bs bm true sn sub ab col dd k0 k1 k2 k3 k5 newId)) (hla : Looks (model prog w) h (typeLookup (.ref C) "__setattr__") (some (.builtin "object.__setattr__"))) (hln : Looks (model prog w) h (typeLookup (.ref C) name) none) (hpass : ∀ self, refuseLoop self "__setattr__" bm = pure ())
    (hx : h.get? x = some o) (hc : o.cls = .ref C) (hdn : o.dict = none) (hnc : ∀ c, o.data ≠ .cls c)
    (hq : ∀ h' tk', (∀ b o', b ≠ x → h.get? b = some o' → h'.get? b = some o') → h'.get? x = some { cls := o.cls, dict := some h.objs.size, data := o.data, slots := o.slots } → Q () ⟨h', g, d, tk', os⟩) :
    wpAny (model prog w) A (setAttr (.ref x) name v) Q E ⟨h, g, d, t, os⟩ := by
  have SF := PySem.F.store_Exception
  have f3 := SF.slot.bind (.ref x)
  unfold setAttr callSpecial? specialOf
  repeat (any_goals (first | assumption | (with_reducible refine wpAny_loadPart_at hx ?_; rw [hc]) | with_reducible refine hla.here ?_ | wp_step))
  refine codeAny_call_builtin SF.slot.plain SF.entry (ex_check_sa hO hC hx hc (ex_store_entry hC hln hpass hx hc hdn hnc fun h' tk' hk hs => ?_))
  repeat (any_goals (first | assumption | wp_step))
  exact hq h' tk' hk hs
end
end Mine
/-! dict(a list of pairs) -/
namespace Mine
open PySem PySem.W PySem.Spec PySem.Calls PyProof.Rows
theorem dof_no_keys : typeLookup (.type "list") "keys" = pure none := by rw [typeLookup_type, builtinLookup_eq_fast]; kernel_rfl
theorem dof_entry : entryFor table "dict.update.loop" = some Builtin.«dict.update.loop» := entryFor_of_tree (by kernel_rfl)
theorem dof_plain : plainId "dict.update.loop" = true := by decide +kernel
section
variable {prog : Program} {w : World} {A : Around} {E : Value → Shared → Prop} {s : Shared}
theorem keys_none {a : Addr} {xs : Array Value} {k : Nat} {sl : Array (Option Value)} {Q : Option Value → Shared → Prop} (hA : A.handled = none)
    (hx : s.heap.get? a = some { cls := .type "list", dict := none, data := .seq xs k, slots := sl }) (h : ∀ h' tk, (∀ b o, s.heap.get? b = some o → h'.get? b = some o) → Q none { s with heap := h', toks := tk }) :
    wpAny (model prog w) A (getAttr? (.ref a) "keys") Q E s := by
  obtain ⟨hp, g, d, tk, os⟩ := s
  have hT : ∀ tk', (⟨hp, g, d, tk', os⟩ : Shared).TypeIs (.ref a) "list" := fun _ => ⟨_, hx, rfl⟩
  have f1 := sub_AttributeError
  have f3 := F.slot_list_getattribute.lookup
  have f4 := F.slot_list_getattribute.bind (.ref a)
  have f5 := am_list_getattr_none
  unfold getAttr? getAttrBy? getAttrBy
  repeat (any_goals (first | assumption | exact hT _ | ((with_reducible show wpAny _ _ (call (Value.builtin "list.__getattribute__") _ _) _ _ _); refine call_meets F.slot_list_getattribute (hT _) am_entry_list_getattribute (F.args_list_getattribute_2 _ _) (meets_getattribute_miss_list a xs k sl "keys" _ dof_no_keys (by decide)) ⟨hx, hA, fun h' tk' e hx' => ?_⟩) | wp_step))
  obtain ⟨t', u', he⟩ := hx'.there
  show wpAny _ _ (getattributeRaised _ _ _ _ _ _ _) _ _ _
  unfold getattributeRaised
  repeat (any_goals (first | assumption | wp_step))
  exact h _ _ hx'.of.keeps
/-- the list's pairs -/
def PairsAt (h : Heap) (vs : List Value) (kvs : List (Int × Value)) : Prop := vs.length = kvs.length ∧ ∀ (i : Nat) (v : Value), vs[i]? = some v → ∃ (p : Addr) (k : Int) (t : Tok) (y : Value), v = Value.ref p ∧ kvs[i]? = some (k, y) ∧ IsTup h p #[.int k t, y]
theorem stored_fresh {kv : List (Int × Value)} {k : Int} {v : Value} (e : valueAt kv k = none) : stored kv k v = kv ++ [(k, v)] := by
  unfold stored
  rw [if_neg]
  unfold valueAt at e
  rw [Option.map_eq_none_iff, List.find?_eq_none] at e
  rw [List.any_eq_true]
  rintro ⟨p, hp, hk⟩
  exact e p hp hk
theorem stored_take {kvs : List (Int × Value)} {i : Nat} {k : Int} {y : Value} (hn : (kvs.map (·.1)).Nodup) (e : kvs[i]? = some (k, y)) : stored (kvs.take i) k y = kvs.take (i + 1) := by
  have e2 : kvs.take (i + 1) = kvs.take i ++ [(k, y)] := by rw [List.take_add_one, e]; rfl
  have nk : valueAt (kvs.take i) k = none := by
    unfold valueAt
    rw [Option.map_eq_none_iff, List.find?_eq_none]
    intro p hp
    have hn2 : ((kvs.take (i + 1)).map (·.1)).Nodup := (List.Sublist.map _ (List.take_sublist _ _)).nodup hn
    rw [e2, List.map_append] at hn2
    have := (List.nodup_append.mp hn2).2.2 p.1 (List.mem_map_of_mem hp) k (by simp)
    simpa using this
  rw [stored_fresh nk, e2]
theorem dof_loop {I d l : Addr} {items : Array Value} {kvs : List (Int × Value)} {R : Result → Shared → Prop} (W : Walks prog w A.in1 I [I, l] [I] items.size (fun i v => items[i]? = some v) (fun i h => h.IsListIter I l i ∧ h.IsList l items))
    (hdI : d ≠ I) (hdl : d ≠ l) (hn : (kvs.map (·.1)).Nodup) (hz : kvs.length ≤ 1000) (hlen : items.size = kvs.length) :
    ∀ (j i : Nat) (s : Shared), kvs.length - i = j → i ≤ kvs.length → (s.heap.IsListIter I l i ∧ s.heap.IsList l items) → s.heap.DictOf (intKind prog w) d (kvs.take i) →
      (∀ (i : Nat) (v : Value), items[i]? = some v → ∃ (p : Addr) (k : Int) (t : Tok) (y : Value), v = Value.ref p ∧ kvs[i]? = some (k, y) ∧ p ≠ d ∧ p ≠ I ∧ IsTup s.heap p #[.int k t, y]) →
      (∀ h' tk, (∀ b o, b ≠ I → b ≠ d → s.heap.get? b = some o → h'.get? b = some o) → h'.DictOf (intKind prog w) d kvs → R (.ok (.ret .none)) { s with heap := h', toks := tk }) →
      codeAny (model prog w) A (.builtin "dict.update.loop" ⟨[.ref d, .ref I, rawInt i, .none], []⟩) R s := by
  intro j
  induction j with
  | zero =>
    intro i s hj hi st hd hp hR
    have hin : i = kvs.length := by omega
    subst hin
    refine codeAny_builtin dof_entry ?_
    rw [Around.under_plainId dof_plain _]
    show wpAny _ A.in1 (pyNext (.ref I) >>= _) _ _ s
    refine wpAny_bind (W.done s _ _ (by rw [hlen]; exact st) fun h' tk hk => ?_)
    show wpAny _ A.in1 (Builtin.Dict.addKeywords d [] >>= fun _ => ret Value.none) _ _ _
    refine wpAny_bind (wpAny_pure (wpAny_pure ?_))
    refine hR h' tk (fun b o hb _ e => hk b o (by simpa using hb) e) ?_
    rw [List.take_length] at hd
    obtain ⟨o, es, ep, ho, rest⟩ := hd
    exact ⟨o, es, ep, hk _ _ (by simpa using hdI) ho, rest⟩
  | succ j ih =>
    intro i s hj hi st hd hp hR
    have hlt : i < kvs.length := by omega
    refine codeAny_builtin dof_entry ?_
    rw [Around.under_plainId dof_plain _]
    show wpAny _ A.in1 (pyNext (.ref I) >>= _) _ _ s
    refine wpAny_bind (W.item i s _ _ (by omega) st fun v h' tk hv st' hk => ?_)
    obtain ⟨p, k, t, y, rfl, hky, hpd, hpI, hpt⟩ := hp i v hv
    have hkeep : ∀ b o, b ≠ I → s.heap.get? b = some o → h'.get? b = some o := fun b o hb e => hk b o (by simpa using hb) e
    have hpt' : IsTup h' p #[.int k t, y] := by
      obtain ⟨o, ho, rest⟩ := hpt
      exact ⟨o, hkeep _ _ hpI ho, rest⟩
    have hd' : h'.DictOf (intKind prog w) d (kvs.take i) := by
      obtain ⟨o, es, ep, ho, rest⟩ := hd
      exact ⟨o, es, ep, hkeep _ _ hdI ho, rest⟩
    show wpAny _ A.in1 (holding [Value.ref p] _ >>= _) _ _ _
    refine wpAny_bind (wpAny_holding (wpAny_bind (wpAny_tryCatch ?_)))
    obtain ⟨o, ho, hc, n, hdat⟩ := id hpt'
    unfold Builtin.Dict.pairItems
    refine wpAny_bind (wpAny_typeOf (T := "tuple") ⟨o, ho, hc⟩ ?_)
    rw [if_pos (by decide)]
    refine wpAny_bind (wpAny_seqItems ho hdat (wpAny_pure ?_))
    show wpAny _ A.in1 (holding [Value.int k t, y] (dictSet d (.int k t) y)) _ _ _
    refine wpAny_holding (wpAny_dictSet_pairs (s := { s with heap := h', toks := tk }) (intKind_is _ _ _ _) hd' (fun h'' hd'' hs => ?_) (by rw [sizeLine_eq, List.length_take]; omega))
    rw [stored_take hn hky] at hd''
    refine wpAny_pure ⟨plainId_quiet dof_plain _, ?_⟩
    have st'' : h''.IsListIter I l (i + 1) ∧ h''.IsList l items := W.frame _ _ _ st' fun b hb o e => (hs.2 b fun q => by
      rcases List.mem_cons.mp hb with z | z
      · exact hdI (q.symm.trans z)
      · exact hdl (q.symm.trans (List.mem_singleton.mp z))).trans e
    refine ih (i + 1) { s with heap := h'', toks := tk + 1 } (by omega) hlt st'' hd'' (fun i v hv => ?_) fun h3 tk3 hk3 hd3 => ?_
    · obtain ⟨p, k, t, y, e1, e2, e3, e4, o, ho, rest⟩ := hp i v hv
      exact ⟨p, k, t, y, e1, e2, e3, e4, o, (hs.2 p e3).trans (hkeep _ _ e4 ho), rest⟩
    · exact hR h3 tk3 (fun b o hb hbd e => hk3 b o hb hbd ((hs.2 b hbd).trans (hkeep b o hb e))) hd3
theorem dict_pairs {h₀ : Heap} {L l : Addr} {m : Str → Option Value} {news : Led} {vs : List Value} {n : Nat} {kvs : List (Int × Value)} {Q : Value → Shared → Prop} (hA : A.handled = none) (F : Fr h₀ L s.heap m) (N : News h₀ L s.heap news) (hbig : h₀.NoLimit)
    (hm : (l, listOf vs.toArray n) ∈ news) (hp : PairsAt s.heap vs kvs) (hn : (kvs.map (·.1)).Nodup) (hz : kvs.length ≤ 1000)
    (h : ∀ d h' o tk, Fr h₀ L h' m → News h₀ L h' ((d, o) :: news) → (∀ p ∈ news, p.1 < d) → (d == sysModules) = false → o.IsDictOf (intKind prog w) kvs → Q (.ref d) { s with heap := h', toks := tk }) :
    wpAny (model prog w) A (call (.type "dict") [.ref l]) Q E s := by
  refine callType_codes (Q₁ := fun obj s₁ => obj = .ref s.heap.objs.size ∧ s₁ = { s with heap := s.heap.push { cls := .type "dict", data := .dict #[] } }) PySem.F.kt_called_dict (PySem.F.kt_typeCall_dict_1 _) PySem.F.entry_dict_init (kt_code_dict_new _ ⟨rfl, rfl⟩) ?_
  rintro obj s₁ ⟨rfl, rfl⟩
  have hnew : (s.heap.push { cls := .type "dict", data := .dict #[] }).DictOf (intKind prog w) s.heap.objs.size [] := Heap.DictOf.new s.heap
  refine ⟨hnew.typeIs, PySem.F.args_dict_init_2 _ _, ?_⟩
  have hl := (N _ hm).1
  have hlt : l < s.heap.objs.size := Heap.lt_size hl
  have hl1 : (s.heap.push { cls := .type "dict", data := .dict #[] }).get? l = some (listOf vs.toArray n) := Heap.get?_push_of_some _ hl
  unfold Builtin.«dict.__init__»
  refine wpAny_bind ?_
  unfold Builtin.Dict.selfAndRest
  refine wpAny_bind (wpAny_notOrdered_dict hnew.typeIs ?_)
  show wpAny _ _ (pure (s.heap.objs.size, [Value.ref l])) _ _ _
  refine wpAny_pure ?_
  show wpAny _ _ (Builtin.Dict.updateFrom "dict.__init__" s.heap.objs.size (.ref l) [] .none) _ _ _
  unfold Builtin.Dict.updateFrom
  refine wpAny_bind (wpAny_typeOf (T := "list") ⟨_, hl1, rfl⟩ ?_)
  rw [if_pos (by decide)]
  refine wpAny_bind (keys_none (by exact hA) hl1 fun h1 tk1 hk1 => ?_)
  rw [if_pos (by rfl)]
  refine wpAny_bind (wpAny_rule ?_)
  have hl2 : h1.IsList l vs.toArray := ⟨_, hk1 _ _ hl1, rfl, _, rfl⟩
  refine wpAny_bind (wpAny_pyIter_list (s := { s with heap := h1, toks := tk1 }) hl2 ?_)
  have hd1 : h1.DictOf (intKind prog w) s.heap.objs.size [] := by
    obtain ⟨o, es, ep, ho, rest⟩ := hnew
    exact ⟨o, es, ep, hk1 _ _ ho, rest⟩
  have hds : s.heap.objs.size < h1.objs.size := by
    obtain ⟨o, es, ep, ho, rest⟩ := hd1
    exact Heap.lt_size ho
  have hll : l < h1.objs.size := Heap.lt_size (hk1 _ _ hl1)
  refine wpAny_pure ⟨plainId_quiet dof_plain _, ?_⟩
  have hsz : vs.toArray.size = kvs.length := by rw [List.size_toArray]; exact hp.1
  refine dof_loop (Walks.list (by exact hA) h1.objs.size l (Nat.ne_of_lt hll) vs.toArray) (Nat.ne_of_lt hds) (Nat.ne_of_gt hlt) hn hz hsz (kvs.length - 0) 0 _ rfl (Nat.zero_le _)
    ⟨⟨_, Heap.get?_push_size _ rfl, rfl, rfl⟩, hl2.push _⟩ (by rw [List.take_zero]; exact hd1.push _) (fun i v hv => ?_) fun h3 tk3 hk3 hd3 => ?_
  · obtain ⟨p, k, t, y, e1, e2, o, ho, rest⟩ := hp.2 i v (by simpa using hv)
    have hp1 : (s.heap.push { cls := .type "dict", data := .dict #[] }).get? p = some o := Heap.get?_push_of_some _ ho
    exact ⟨p, k, t, y, e1, e2, Nat.ne_of_lt (Heap.lt_size ho), Nat.ne_of_lt (Heap.lt_size (hk1 _ _ hp1)), o, Heap.get?_push_of_some _ (hk1 _ _ hp1), rest⟩
  · obtain ⟨o', ho', hd'⟩ := Heap.dictOf_iff.mp hd3
    have up : ∀ b o, s.heap.get? b = some o → h3.get? b = some o := fun b o e => hk3 b o
      (fun q => absurd (Heap.lt_size (hk1 _ _ (Heap.get?_push_of_some _ e))) (by rw [q]; exact Nat.lt_irrefl _)) (fun q => absurd (Heap.lt_size e) (by rw [q]; exact Nat.lt_irrefl _))
      (Heap.get?_push_of_some _ (hk1 _ _ (Heap.get?_push_of_some _ e)))
    refine ⟨rfl, h _ h3 o' tk3 (F.keeps up) (fun q hq => ?_) (fun p hp => Heap.lt_size (N p hp).1) (F.notModules (modules_low hbig)) hd'⟩
    rcases List.mem_cons.mp hq with rfl | hq
    · exact ⟨ho', Nat.ne_of_gt F.ns.lt, next_is_new F⟩
    · exact N.grown up q hq
end
end Mine
/-! dict.update from an empty dict or from a dict of one int -/
namespace Mine
open PySem PySem.W PySem.Spec PySem.Calls PyProof.Rows PyProof.V
section
variable {prog : Program} {w : World} {A : Around} {E : Value → Shared → Prop} {s : Shared} {h₀ : Heap} {L d e : Addr} {m : Str → Option Value} {news : Led} {rest : Led} {g : Obj → Led} {o oe : Obj}
theorem tk2_mem {a b : Addr × Obj} (P : Takes news [a, b] rest) : b ∈ news := P.mem_iff.mpr (by simp)
theorem tk2_ne {a b : Addr × Obj} (D : (adrs news).Nodup) (P : Takes news [a, b] rest) : a.1 ≠ b.1 := by
  have D1 := (List.Perm.nodup_iff (P.map Prod.fst)).mp D
  rw [List.map_append] at D1
  have D2 := (List.nodup_append.mp D1).1
  simp only [List.map_cons, List.map_nil, List.nodup_cons, List.mem_cons, List.not_mem_nil, or_false] at D2
  exact D2.1
theorem upd_none {Q : Value → Shared → Prop} (F : Fr h₀ L s.heap m) (N : News h₀ L s.heap news) (U : UpdF d o news g) (hd : o.IsDictOf (intKind prog w) []) (D : (adrs news).Nodup) (P : Takes news [(d, o), (e, oe)] rest) (hde : oe.IsDictOf (intKind prog w) []) (lo : (e == sysModules) = false)
    (h : ∀ h' o', Fr h₀ L h' m → News h₀ L h' (g o') → o'.IsDictOf (intKind prog w) [] → Q .none { s with heap := h' }) : wpAny (model prog w) A (call (.builtin "dict.update") [.ref d, .ref e]) Q E s :=
  kt_update_K (D := []) (D₂ := []) PyProof.V.same_int F N U hd .nil ⟨lo, [], Heap.dictOf_iff.mpr ⟨oe, (N _ (tk2_mem P)).1, hde⟩, .nil⟩ (tk2_ne D P) (fun h' o' kvs' F' N' hd' hf' => by
    have e1 : kvs' = [] := by
      have := hf'.length
      exact List.eq_nil_of_length_eq_zero this.symm
    rw [e1] at hd'
    exact h h' o' F' N' hd') (by decide)
theorem upd_one {Q : Value → Shared → Prop} {k τ : Int} {t : Tok} (F : Fr h₀ L s.heap m) (N : News h₀ L s.heap news) (U : UpdF d o news g) (hd : o.IsDictOf (intKind prog w) []) (D : (adrs news).Nodup) (P : Takes news [(d, o), (e, oe)] rest) (hde : oe.IsDictOf (intKind prog w) [(k, .int τ t)]) (lo : (e == sysModules) = false)
    (h : ∀ h' o' t', Fr h₀ L h' m → News h₀ L h' (g o') → o'.IsDictOf (intKind prog w) [(k, .int τ t')] → Q .none { s with heap := h' }) : wpAny (model prog w) A (call (.builtin "dict.update") [.ref d, .ref e]) Q E s :=
  kt_update_K (D := []) (D₂ := [(.int k, .int τ)]) PyProof.V.same_int F N U hd .nil ⟨lo, [(k, .int τ t)], Heap.dictOf_iff.mpr ⟨oe, (N _ (tk2_mem P)).1, hde⟩, .cons (.int τ t) .nil⟩ (tk2_ne D P) (fun h' o' kvs' F' N' hd' hf' => by
    have hf2 : FlatPairs PyData.int kvs' [(PyData.int k, .int τ)] := hf'
    have key : ∀ {D : List (PyData × PyData)}, FlatPairs PyData.int kvs' D → D = [(PyData.int k, .int τ)] → ∃ t', kvs' = [(k, .int τ t')] := by
      intro D hD e
      cases hD with
      | nil => cases e
      | cons f r =>
        cases e
        obtain ⟨t', rfl⟩ := f.int_inv
        cases r
        exact ⟨t', rfl⟩
    obtain ⟨t', e1⟩ := key hf2 rfl
    rw [e1] at hd'
    exact h h' o' t' F' N' hd') (by rw [sizeLine_eq]; exact Nat.le_of_ble_eq_true rfl)
end
end Mine
/-! the pairs of a dict's comprehension with a test on the key -/
namespace Mine
open PySem PySem.W PySem.Spec PySem.Calls PyProof.Rows
inductive PL : List Value → List (Int × Value) → Led → Prop
  | nil : PL [] [] []
  | snoc {ys : List Value} {kv : List (Int × Value)} {led : Led} {p : Addr} {k : Int} {t : Tok} {y : Value} {n : Nat} : PL ys kv led → PL (ys ++ [.ref p]) (kv ++ [(k, y)]) ((p, tupOf [.int k t, y] n) :: led)
theorem PL.length {ys : List Value} {kv : List (Int × Value)} {led : Led} (h : PL ys kv led) : ys.length = kv.length := by
  induction h with
  | nil => rfl
  | snoc _ ih => simp [ih]
theorem PL.pairs {ys : List Value} {kv : List (Int × Value)} {led : Led} {h : Heap} (x : PL ys kv led) (a : ∀ q ∈ led, h.get? q.1 = some q.2) : PairsAt h ys kv := by
  refine ⟨x.length, ?_⟩
  induction x with
  | nil => intro i v hv; cases hv
  | @snoc ys kv led p k t y n x ih =>
    intro i v hv
    have hl := x.length
    by_cases hi : i < ys.length
    · rw [List.getElem?_append_left hi] at hv
      obtain ⟨p', k', t', y', e1, e2, e3⟩ := ih (fun q hq => a q (List.mem_cons_of_mem _ hq)) i v hv
      exact ⟨p', k', t', y', e1, by rw [List.getElem?_append_left (by omega)]; exact e2, e3⟩
    · have e : i = ys.length := by
        have := (List.getElem?_eq_some_iff.mp hv).1
        rw [List.length_append, List.length_singleton] at this
        omega
      subst e
      rw [List.getElem?_append_right (Nat.le_refl _), Nat.sub_self] at hv
      have hv' : Value.ref p = v := Option.some.inj hv
      refine ⟨p, k, t, y, hv'.symm, ?_, ⟨_, a _ List.mem_cons_self, rfl, n, rfl⟩⟩
      rw [List.getElem?_append_right (by omega), hl, Nat.sub_self]; rfl
def keepB (b3 : Bool) (p : Int × Value) : Bool := b3 || decide (p.1 ≠ 3)
inductive PW (b3 : Bool) (tv : List (Int × Value)) (base : Led) (i : Nat) (ys : List Value) (l : Led) : Prop
  | mk (led : _) (e0 : l = led ++ base) (e1 : PL ys ((tv.take i).filter (keepB b3)) led) : PW b3 tv base i ys l
theorem PW.len {b3 : Bool} {tv : List (Int × Value)} {base : Led} : ∀ i ys l, PW b3 tv base i ys l → ys.length ≤ i := by
  rintro i ys l ⟨led, _, h⟩
  rw [h.length]
  exact Nat.le_trans (List.length_filter_le _ _) (by rw [List.length_take]; omega)
theorem keep_nodup {tv : List (Int × Value)} {f : Int × Value → Bool} (h : (tv.map (·.1)).Pairwise (· < ·)) : ((tv.filter f).map (·.1)).Nodup :=
  List.Pairwise.imp (fun h => Int.ne_of_lt h) (List.Pairwise.sublist (List.Sublist.map _ List.filter_sublist) h)
section
variable {prog : Program} {w : World} {A : Around} {s : Shared} {h₀ : Heap} {L : Addr} {m : Str → Option Value} {env : Env}
theorem pairs_src {elt c : Expr} {x : Str} {scope : Scope} {cl : List (Str × Addr)} {Q : Value → Shared → Prop} {b3 : Bool} {d : Addr} {o : Obj} {tv : List (Int × Value)} {news : Led}
    (hh : A.handled = none) (F : Fr h₀ L s.heap m) (N : News h₀ L s.heap news) (D : (adrs news).Nodup) (hm : (d, o) ∈ news) (hd : o.IsDictOf (PySem.intKind prog w) tv) (hlo : (d == sysModules) = false) (hz : tv.length ≤ 1000)
    (turn : ∀ (i : Nat) k y t ys led I oI C oC D m₂ h tk, tv[i]? = some (k, y) → LCg.NsObj oC m₂ → m₂ x = some (.int k t) → Fr h₀ L h m → News h₀ L h ((I, oI) :: (C, oC) :: (D, LCg.lst ys) :: (led ++ news)) → (adrs ((I, oI) :: (C, oC) :: (D, LCg.lst ys) :: (led ++ news))).Nodup →
      wpAny (model prog w) A (isTrue c (compEnvC scope cl C env) (eval c (compEnvC scope cl C env))) (fun b s₃ => b = keepB b3 (k, y) ∧ if b = true then wpAny (model prog w) A (eval elt (compEnvC scope cl C env)) (CEnd h₀ L m s I oI C oC D (LCg.lst ys) (fun y' l' => ∃ p t n, y' = .ref p ∧ l' = (p, tupOf [.int k t, y] n) :: (led ++ news))) NoE s₃
        else CEnd h₀ L m s I oI C oC D (LCg.lst ys) (fun _ l' => l' = led ++ news) .none s₃) NoE { s with heap := h, toks := tk })
    (done : ∀ D ys led h tk, PL ys (tv.filter (keepB b3)) led → (adrs ((D, LCg.lst ys) :: (led ++ news))).Nodup → Fr h₀ L h m → News h₀ L h ((D, LCg.lst ys) :: (led ++ news)) → Q (.ref D) { s with heap := h, toks := tk }) :
    LcDictT (PySem.intKind prog w) A h₀ L m env elt c x scope cl (PW b3 tv news) Q (.ref d) s := by
  refine ⟨d, o, tv, news, rfl, hh, F, N, D, hd, hlo, by rw [sizeLine_eq]; omega, ?_, ⟨[], rfl, PL.nil⟩, ?_, ?_⟩
  · rintro i ys l ⟨led, rfl, _⟩
    exact List.mem_append_right _ hm
  · rintro i k y v ys l I oI C oC D m₂ h tk hi hk ⟨led, rfl, hP⟩ hC hx F' N' D'
    obtain ⟨t, rfl⟩ := Value.isInt_shape hk
    have ht : tv.take (i + 1) = tv.take i ++ [(k, y)] := by rw [List.take_add_one, hi]; rfl
    refine wpAny_mono (turn i k y t ys led I oI C oC D m₂ h tk hi hC hx F' N' D') (fun b s₃ z => ?_) fun _ _ e => e
    obtain ⟨hb, z⟩ := z
    cases b with
    | true =>
      rw [if_pos rfl] at z ⊢
      refine wpAny_mono z (fun y' s₄ z4 => ?_) fun _ _ e => e
      obtain ⟨h', tk', all, l', e1, e2, e3, e4, e5, p, t', n, rfl, rfl⟩ := z4
      refine ⟨h', tk', all, _, e1, e2, e3, e4, e5, (p, tupOf [.int k t', y] n) :: led, rfl, ?_⟩
      rw [ht, List.filter_append, List.filter_cons_of_pos (by rw [← hb]), List.filter_nil]
      exact hP.snoc
    | false =>
      rw [if_neg (by decide)] at z ⊢
      obtain ⟨h', tk', all, l', e1, e2, e3, e4, e5, rfl⟩ := z
      refine ⟨h', tk', all, _, e1, e2, e3, e4, e5, led, rfl, ?_⟩
      rw [ht, List.filter_append, List.filter_cons_of_neg (by rw [← hb]; decide), List.filter_nil, List.append_nil]
      exact hP
  · rintro D ys l h tk ⟨led, rfl, hP⟩ D' F' N'
    rw [List.take_length] at hP
    exact done D ys led h tk hP D' F' N'
variable {E : Value → Shared → Prop} {K : Type} [DecidableEq K] {knd : KeyKind prog w K}
theorem lcT_dictF {elt iter c : Expr} {x : Str} {px : Pos} {scope : Scope} {cl : List (Str × Addr)} {pos : Pos} {Q : Value → Shared → Prop} (_F : Fr h₀ L s.heap m) {Wd : Nat → List Value → Led → Prop}
    (hclos : closureFor scope env = pure cl) (hcell : ∀ y ∈ scope.names, y.2 ≠ .cell) (hkind : scope.kind = .function)
    (hnames : ∀ y ∈ scope.names, y.2 = .local → scope.names.lookup y.1 = some .local) (hx : scope.names.lookup x = some .local)
    (hlen : ∀ i ys l, Wd i ys l → ys.length ≤ i)
    (h : wpAny (model prog w) A (eval iter env) (LcDictT knd A h₀ L m env elt c x scope cl Wd Q) E s)
    (hs : ∀ x, foldedSetIterable iter env x = pure x := by intro _; rfl) :
    wpAny (model prog w) A (eval (.ListComp elt [⟨.Name x px, iter, [c], 0⟩] scope pos) env) Q E s := lcT_dict Wd hlen hclos hcell hkind hnames hx h hs
theorem lcT_pairs {elt iter c : Expr} {x : Str} {px : Pos} {scope : Scope} {cl : List (Str × Addr)} {pos : Pos} {Q : Value → Shared → Prop} {news : Led} {tv : List (Int × Value)} (b3 : Bool) (F : Fr h₀ L s.heap m) (_N : News h₀ L s.heap news)
    (hclos : closureFor scope env = pure cl) (hcell : ∀ y ∈ scope.names, y.2 ≠ .cell) (hkind : scope.kind = .function)
    (hnames : ∀ y ∈ scope.names, y.2 = .local → scope.names.lookup y.1 = some .local) (hx : scope.names.lookup x = some .local)
    (h : wpAny (model prog w) A (eval iter env) (LcDictT (PySem.intKind prog w) A h₀ L m env elt c x scope cl (PW b3 tv news) Q) E s)
    (hs : ∀ x, foldedSetIterable iter env x = pure x := by intro _; rfl) :
    wpAny (model prog w) A (eval (.ListComp elt [⟨.Name x px, iter, [c], 0⟩] scope pos) env) Q E s := lcT_dictF F hclos hcell hkind hnames hx PW.len h hs
end
end Mine
open PySem PySem.W PyProof.Rows
set_option Elab.async false
set_option maxRecDepth 100000
namespace Mine
noncomputable def pick (l : List Obj) : Nat → List Nat → List (Option Obj) :=
  List.rec (motive := fun _ => Nat → List Nat → List (Option Obj)) (fun _ as => as.map fun _ => none)
    (fun o _ ih i as => List.rec (motive := fun _ => List (Option Obj)) [] (fun a r _ =>
      match Nat.beq a i with
      | true => (match o.data with | .freed => none | _ => some o) :: ih (i + 1) r
      | false => ih (i + 1) (a :: r)) as) l
theorem pick_nil (i : Nat) (as : List Nat) : pick [] i as = as.map fun _ => none := rfl
theorem pick_cons (o : Obj) (l : List Obj) (i : Nat) (a : Nat) (r : List Nat) :
    pick (o :: l) i (a :: r) = if a = i then (match o.data with | .freed => none | _ => some o) :: pick l (i + 1) r else pick l (i + 1) (a :: r) := by
  show (match Nat.beq a i with
      | true => (match o.data with | .freed => none | _ => some o) :: pick l (i + 1) r
      | false => pick l (i + 1) (a :: r)) = _
  cases h : Nat.beq a i with
  | true => rw [if_pos (Nat.eq_of_beq_eq_true h)]
  | false => rw [if_neg (Nat.ne_of_beq_eq_false h)]
theorem pick_cons_nil (o : Obj) (l : List Obj) (i : Nat) : pick (o :: l) i [] = [] := rfl
def at? (l : List Obj) (i : Nat) : Option Obj := match l[i]? with
  | some ⟨_, _, .freed, _⟩ => none
  | o => o
theorem map_some {f g : Nat → Option Obj} (h : ∀ b v, f b = some v → g b = some v) {r : List Nat} : ∀ {vs : List Obj}, r.map f = vs.map some → r.map g = vs.map some := by
  induction r with
  | nil => exact fun e => e
  | cons b r ih =>
    intro vs e
    cases vs with
    | nil => cases e
    | cons v vs =>
      injection e with e1 e2
      exact List.cons_eq_cons.mpr ⟨h b v e1, ih e2⟩
theorem at_step {o : Obj} {l : List Obj} {i b : Nat} {v : Obj} (h : (if i + 1 ≤ b then at? l (b - (i + 1)) else none) = some v) : (if i ≤ b then at? (o :: l) (b - i) else none) = some v := by
  by_cases hle : i + 1 ≤ b
  · rw [if_pos hle] at h
    rw [if_pos (Nat.le_of_succ_le hle), (Nat.succ_pred_eq_of_pos (Nat.sub_pos_of_lt hle)).symm]
    exact h
  · rw [if_neg hle] at h; cases h
theorem pick_spec {l : List Obj} : ∀ {i : Nat} {as : List Nat} {vs : List Obj}, pick l i as = vs.map some → as.map (fun a => if i ≤ a then at? l (a - i) else none) = vs.map some := by
  induction l with
  | nil =>
    intro i as vs h
    rw [pick_nil] at h
    exact map_some (fun b v (e : none = some v) => nomatch e) h
  | cons o l ih =>
    intro i as vs h
    cases as with
    | nil => exact h
    | cons a r =>
      rw [pick_cons] at h
      by_cases e : a = i
      · subst e
        rw [if_pos rfl] at h
        cases vs with
        | nil => cases h
        | cons v vs =>
          injection h with h1 h2
          refine List.cons_eq_cons.mpr ⟨?_, map_some (fun _ _ => at_step) (ih h2)⟩
          show (if a ≤ a then at? (o :: l) (a - a) else none) = some v
          rw [if_pos (Nat.le_refl _), Nat.sub_self]
          rcases o with ⟨c, d, dt, s⟩
          cases dt <;> first | (cases h1; done) | exact h1
      · rw [if_neg e] at h
        exact map_some (fun _ _ => at_step) (ih h)
noncomputable def hookObs (as : List Addr) (s : Shared) : List (Option Obj) := pick s.heap.objs.toList 0 as
theorem hook_of {K : Params → Frag} {as : List Addr} (e : ∀ P, as = (K P).map (·.1)) (w : World) (s : Shared)
    (x : hookObs as s = (K w.params).map fun p => some p.2) : InK K w s.heap := by
  refine InK.of e w s ?_
  have := pick_spec (l := s.heap.objs.toList) (i := 0) (as := as) (vs := (K w.params).map (·.2)) (by rw [List.map_map]; exact x)
  rw [List.map_map] at this
  refine Eq.trans ?_ this
  apply List.map_congr_left
  intro a _
  rw [if_pos (Nat.zero_le _), Nat.sub_zero]
  unfold at? Heap.get?
  rw [Array.getElem?_toList]
  rfl
noncomputable def hook4 (K : Params → Frag) (as : List Addr) (e : ∀ P, as = (K P).map (·.1)) (_u : Unit) : Hook :=
  ⟨List (Option Obj), hookObs as, fun w => (K w.params).map fun p => some p.2, InK K, hook_of e, InK.keeps⟩
theorem kIn_of {K : Params → Frag} {as : List Addr} {e : ∀ P, as = (K P).map (·.1)} {w : World} {h : Heap} (Y : (hook4 K as e ()).says w h) : (K w.params).In h := Y
end Mine
namespace Mine
open PySem PySem.W PySem.Calls PyProof.Rows
theorem good_caller : GoodC ⟨.builtin "claim.caller" {}, none, none, [], none⟩ := ⟨by decide +kernel, fun _ hx => (nomatch hx)⟩
theorem ends_P {prog : Program} {w : World} {t : Sem Fin} {s : Shared} {R : Result → Shared → Prop} (hreg : s.asleep)
    (h : wpP (model prog w) callerA t (fun fin s' => ∃ f, fin = .done f ∧ (R (.ok f) s' ∧ leftWithCleanup s'.gens = false)) (fun e s' => R (.error e) s' ∧ leftWithCleanup s'.gens = false) s) :
    ∃ n r s' s'', runN (denote table) prog w n s ⟨t, .builtin "claim.caller" {}, default, []⟩ = .halted (outcomeOf r) s' ∧
      schedN (denote table) prog w n (.single s ⟨t, .builtin "claim.caller" {}, default, []⟩) = .halted (outcomeOf r) s' ∧ s'.forget = s''.forget ∧ R r s'' := by
  have z := h _ default caller_in good_caller
  obtain ⟨n, r, s₁, s₂, hs, hn, hfo, hR⟩ := wp_halts_full (M := model prog w) (R := R) hreg (Sem.wp_mono _ _ t (fun fin p' s' h' => by
    obtain ⟨f, rfl, hf⟩ := h'
    exact hf) (fun _ _ _ h' => h') _ _ z)
  exact ⟨n, r, s₂, s₁, hn, hs, hfo, hR⟩

/-- what is to be walked: the call of the law, on the stacks where nobody holds a bytearray -/
abbrev WalkP (q : Program) (loose : List Str) (XP : (Str → Option Value) → Heap → Prop) (YP : World → Heap → Prop) (r : RowW) (d : DefRec) (kwd : List (Str × Expr)) : Prop :=
  ∀ (w : World) (s₀ s₁ : Shared) (mg mb : Str → Option Value), Ground q loose r.records XP w s₀ mg mb s₁.heap → YP w s₁.heap → ∀ (a : Addr) (o : Obj) (pm cd doc dV kV : Value), s₁.heap.get? a = some o →
    o.data = .func { docDef d.name d.params d.body d.scope pm cd doc with defaults := dV, kwdefaults := kV } → s₁.heap.CodeRec cd d.name → Dflts mg s₁.heap d.params kwd dV kV → mg d.name = some (.ref a) → s₁.gens = #[] →
    ∀ (args : List WData) (vals : List Value) (as : List Addr), r.claim.pre args = true → WData.layableAll args = true → ReadsAllW r.records (classAt s₀.heap) s₁.heap vals args as → WellAll w.params s₁.heap vals args → (∀ b ∈ as, (b == sysModules) = false) →
      wpP (model r.prog w) callerA (PySem.call (.ref a) vals) (fun v s' => GoodWG r.claim (classAt s₀.heap) (ExcName.means s₀.heap) args s₁ (.ok (.ret v)) s')
        (fun e s' => GoodWG r.claim (classAt s₀.heap) (ExcName.means s₀.heap) args s₁ (.error e) s') s₁

abbrev lawTree (name : Str) (vs : List Value) : Sem Fin := do match ← nsGet mainNs name with
      | some f => do ret (← PySem.call f vs)
      | none => unsupported "claim.caller:no-such-global"
theorem call_tree {prog : Program} {w : World} {s : Shared} {mg : Str → Option Value} {name : Str} {a : Addr} {vs : List Value} {R : Result → Shared → Prop} (g : s.heap.Ns mainGlobals mg) (h1 : mg name = some (.ref a))
    (hc : wpP (model prog w) callerA (PySem.call (.ref a) vs) (fun v s' => R (.ok (.ret v)) s') (fun e s' => R (.error e) s') s) :
    wpP (model prog w) callerA (lawTree name vs) (fun f s' => ∃ g, f = .done g ∧ R (.ok g) s') (fun e s' => R (.error e) s') s := by
  refine wpP_first (wpAny_nsGet g ?_)
  rw [h1]
  exact wpP_bind (wpP_mono hc (fun v s' g => wpP_pure ⟨_, rfl, g⟩) fun e s' g => g)
structure EndsP (r : RowW) (s : Shared) (kps : List Str) (writes : Bool) (args : List WData) (vs : List Value) (s₁ : Shared) (res : Result) (s' : Shared) : Prop where
  ends : r.claim.Ends s args vs s₁ res s'
  os : s'.os = s.os
  kept : writes = true → namesKept r.prog kps s.heap s'.heap ∧ ∀ x ∈ r.claim.records, ∀ a, classAt s.heap x.1 = some a → recordClass s'.heap a x.1 (x.2.map (·.1)) = true
theorem from_key {r : RowW} {w : World} {s₀ s : Shared} {mg mb : Str → Option Value} {q : Program} {loose : List Str} {XP : (Str → Option Value) → Heap → Prop} {YP : World → Heap → Prop} {d : DefRec} {kwd : List (Str × Expr)} {kps : List Str} {writes : Bool}
    (hz : s.asleep) (hg0 : s.gens = #[]) (hT : TopRan r.prog w s₀ s) (hg : s.heap.isNs mainGlobals = true) (G : Ground q loose r.records XP w s mg mb s.heap) (y : YP w s.heap) (hYk : ∀ w h h', YP w h → (∀ b o, h.get? b = some o → h'.get? b = some o) → YP w h')
    (hXk : ∀ mg h h', XP mg h → (∀ b o, h.get? b = some o → h'.get? b = some o) → XP mg h') (hfr : frees r = true) (hwi : r.claim.within = []) (hwr : (!writes || r.records.isEmpty) = true) (hn : d.name = r.name) (hdef : defOf q r.name = some (d, kwd))
    (call : WalkP q loose XP YP r d kwd) {args : List WData} (hpre : r.claim.pre args = true) (hlay : WData.layableAll args = true) {ord : List DictEntry → List DictEntry} (hord : ∀ l, (ord l).Perm l) {P : Prop}
    (key : ∀ vs s₁ k res s', layAllW r.records (classAt s.heap) w.params ord args s = some (vs, s₁) → schedN (denote table) r.prog w k (.single s₁ ⟨lawTree r.name vs, .builtin "claim.caller" {}, default, []⟩) = .halted (outcomeOf res) s' →
      EndsP r s kps writes args vs s₁ res s' → s'.heap.life = s.heap.life → P) : P := by
  obtain ⟨hsame, hu, ha, hap, hm⟩ := frees_parts hfr
  obtain ⟨x, hlaid⟩ := Option.isSome_iff_exists.mp (layAllW_isSome (P := w.params) (ord := ord) G.has args r.args s (pre_splitW hpre).1)
  revert hlaid
  refine Prod.casesOn (motive := fun x => layAllW _ _ _ _ _ _ = some x → P) x ?_
  intro vs s₁ hlaid
  have keeps := layAllW_keeps _ _ _ hlaid
  have hal := layAllW_rest _ _ _ hlaid
  obtain ⟨as, hrd, hin, hold⟩ := reads_layAllW hord _ _ _ hlaid hlay s₁.heap (fun _ _ e => e)
  have L : Laid r.records w s s₁ args vs as := ⟨⟨ord, hord, hlaid⟩, hrd, hin, hold, keeps, hal.1.trans hg0, hal.2.2.1⟩
  have G₁ := G.keeps hXk keeps
  obtain ⟨a, o, pm, cd, doc, dV, kV, h1, h2, h3, h4, h5⟩ := G₁.fn hdef
  have hc := call w s s₁ mg mb G₁ (hYk _ _ _ y keeps) a o pm cd doc dV kV h2 h3 h4 h5 (hn ▸ h1) L.gens args vs as hpre hlay L.reads L.well (L.low G.low)
  have fin : ∀ res s', GoodWG r.claim (classAt s.heap) (ExcName.means s.heap) args s₁ res s' → EndsP r s kps writes args vs s₁ res s' ∧ leftWithCleanup s'.gens = false := by
    intro res s' g
    have z := g.laid (c := r.claim) hsame hwi (ident_freeW hu ha hap) L
    exact ⟨⟨z.1, z.2.1, fun e => ⟨namesKept_of hT hg kps keeps g.2.1.old, noTable hwr e⟩⟩, leftWithCleanup_false_of_bare z.2.2⟩
  obtain ⟨k, res, s', s'', hrun, hsched, hfo, hE⟩ := ends_P (R := EndsP r s kps writes args vs s₁) (Shared.asleep_of_life hal.2.2.2 hz) (call_tree (R := fun res s' => EndsP r s kps writes args vs s₁ res s' ∧ leftWithCleanup s'.gens = false) G₁.T.g h1 (wpP_mono hc (fun v s' g => fin _ _ g) fun e s' g => fin _ _ g))
  obtain ⟨eh, _, _, eo, _⟩ := Shared.forget_eq hfo
  exact key vs s₁ k res s' hlaid hsched ⟨hE.ends.congr eh, eo.trans hE.os, by rw [eh]; exact hE.kept⟩ ((runN_life _ _ _ hrun).trans hal.2.2.2)
theorem from_P {r : RowW} {w : World} {s₀ s : Shared} {mg mb : Str → Option Value} {q : Program} {loose : List Str} {XP : (Str → Option Value) → Heap → Prop} {YP : World → Heap → Prop} {d : DefRec} {kwd : List (Str × Expr)} {kps : List Str} {writes : Bool}
    {free : Addr → Prop} {gens : Prop}
    (hz : s.asleep) (hg0 : s.gens = #[]) (hT : TopRan r.prog w s₀ s) (hg : s.heap.isNs mainGlobals = true) (G : Ground q loose r.records XP w s mg mb s.heap) (y : YP w s.heap) (hYk : ∀ w h h', YP w h → (∀ b o, h.get? b = some o → h'.get? b = some o) → YP w h')
    (hXk : ∀ mg h h', XP mg h → (∀ b o, h.get? b = some o → h'.get? b = some o) → XP mg h') (hfr : frees r = true) (hwi : r.claim.within = []) (hwr : (!writes || r.records.isEmpty) = true) (hn : d.name = r.name) (hdef : defOf q r.name = some (d, kwd))
    (call : WalkP q loose XP YP r d kwd) :
    r.claim.CallFrom (fun vs => ⟨(do match ← nsGet mainNs r.name with
      | some f => do ret (← PySem.call f vs)
      | none => unsupported "claim.caller:no-such-global"), .builtin "claim.caller" {}, default, []⟩) w free gens
      (fun h' => writes = true → namesKept r.prog kps s.heap h' ∧ ∀ x ∈ r.claim.records, ∀ a, classAt s.heap x.1 = some a → recordClass h' a x.1 (x.2.map (·.1)) = true) s := by
  intro args hpre hlay ord hord
  refine from_key (kps := kps) hz hg0 hT hg G y hYk hXk hfr hwi hwr hn hdef call hpre hlay hord fun vs s₁ k res s' hlaid hsched hE hlife => ?_
  refine ⟨vs, s₁, hlaid, k, _, s', hsched, ?_, (fun _ i x hx => by rw [hg0] at hx; simp at hx), hE.kept, by rw [hlife], Shared.rest_eq hE.os⟩
  rcases hE.ends with ⟨v, rfl, d1, d2, d3, d4, d5⟩ | ⟨e, ob, cls, rfl, d1, d2, d3, d4, d5⟩
  · exact .inl ⟨v, rfl, d1, d2, d3, fun b o y _ => d4 b o y, d5⟩
  · exact .inr ⟨e, ob, cls, rfl, d1, d2, d3, d4, fun b o y _ => d5 b o y⟩

theorem head_P {r : OpenRow} {q : Program} {loose : List Str} {Xt : Shared → Bool} {XP : (Str → Option Value) → Heap → Prop} {α : Type} {Yf : Shared → α} {Ya : World → α} {YP : World → Heap → Prop} {d : DefRec} {kwd : List (Str × Expr)} {N : Nat}
    (left : LeftO r.prog q loose Xt Yf Ya N) (hY : ∀ w s, Yf s = Ya w → YP w s.heap) (hYk : ∀ w h h', YP w h → (∀ b o, h.get? b = some o → h'.get? b = some o) → YP w h')
    (hX : ∀ s, Xt s = true → XP (s.heap.nsMap mainGlobals) s.heap) (hXk : ∀ mg h h', XP mg h → (∀ b o, h.get? b = some o → h'.get? b = some o) → XP mg h')
    (hdef : defOf q r.name = some (d, kwd)) (hp : r.prog.theDef r.name = some (d.params, d.body, d.scope)) (hk : kwWritten? d.params.kwonlyargs d.params.kw_defaults = some kwd) (hRf : ∀ s, Xt s = true → RecFacts r.records s.heap) (hwr : (!r.writes || r.records.isEmpty) = true)
    (k1 : r.wellSaid = true) (ok : (chainsOk q && opensWell r.prog && (frees r.toRowW && r.within.isEmpty)) = true) (hb : r.prog.bare) (hw : r.toRowW.promised)
    (call : WalkP q loose XP YP r.toRowW d kwd) : r.Holds := by
  refine ⟨k1, hw, ?_⟩
  obtain ⟨ok, k5⟩ := Bool.and_eq_true_iff.mp ok
  obtain ⟨hch, o1⟩ := Bool.and_eq_true_iff.mp ok
  obtain ⟨k5, k6⟩ := Bool.and_eq_true_iff.mp k5
  obtain ⟨_, _, _, _, hm⟩ := frees_parts k5
  refine ⟨⟨hb, o1, by show r.toRowW.makers.map _ = []; rw [hm]; rfl⟩, hw.witness, fun w => ⟨(left.behind hX hch w).1, fun s' hs' => ?_⟩⟩
  obtain ⟨s₀, hf, hg0, s, hT, hz, hgens, hg, G00, y⟩ := (left.behind (XP := fun mg h => XP mg h ∧ RecFacts r.records h) (fun s hs => ⟨hX s hs, hRf s hs⟩) hch w).2 s' hs'
  have G0 : Ground q loose [] XP w s (s.heap.nsMap mainGlobals) (s.heap.nsMap builtinsNs) s.heap := ⟨G00.T, G00.B, G00.D, G00.TE, G00.TD, G00.W, G00.X.1, G00.cls, G00.has, G00.apart, G00.once, G00.K⟩
  have RF := G00.X.2
  refine ⟨s₀, hf, hg0, s, hT, fun n hn => ?_, RF.1, RF.2.1, ?_⟩
  · obtain rfl : n = r.name := by split at hn <;> simp_all
    exact pinned_of_view hg G0 hdef hp hk
  · exact from_P (r := r.toRowW) hz (Array.eq_empty_of_size_eq_zero (beq_iff_eq.mp hgens)) hT hg (RF.ground G0) (hY w s y) hYk hXk k5 (List.isEmpty_iff.mp k6) hwr (defOf_name hdef) hdef call
/-- the head's look at the top alone: the names hd.view_39, hd.heap_39 (the top itself is shown at the end) -/
theorem head_Q {r : OpenRow} {q : Program} {loose : List Str} {Xt : Shared → Bool} {XP : (Str → Option Value) → Heap → Prop} {α : Type} {Yf : Shared → α} {Ya : World → α} {YP : World → Heap → Prop} {d : DefRec} {kwd : List (Str × Expr)} {N : Nat}
    (_left : True) (_hY : ∀ w s, Yf s = Ya w → YP w s.heap) (_hYk : ∀ w h h', YP w h → (∀ b o, h.get? b = some o → h'.get? b = some o) → YP w h')
    (_hX : ∀ s, Xt s = true → XP (s.heap.nsMap mainGlobals) s.heap) (_hXk : ∀ mg h h', XP mg h → (∀ b o, h.get? b = some o → h'.get? b = some o) → XP mg h')
    (_hdef : defOf q r.name = some (d, kwd)) (_hp : r.prog.theDef r.name = some (d.params, d.body, d.scope)) (_hk : kwWritten? d.params.kwonlyargs d.params.kw_defaults = some kwd) (_hRf : ∀ s, Xt s = true → RecFacts r.records s.heap) (_hwr : (!r.writes || r.records.isEmpty) = true)
    (_k1 : True) (_ok : True) (_hb : r.prog.bare) (_hw : r.toRowW.promised)
    (call : WalkP q loose XP YP r.toRowW d kwd ∧ r.Holds) : r.Holds := call.2
/-- what hd asks for -/
def dom {P Q R : Prop} (_ : P ∧ Q → R) : Prop := P
end Mine
section
set_option hygiene false in
local macro_rules | `(tactic| refine PySem.W.holds_open $xs*) => `(tactic| (refine Mine.head_Q $xs*; (case hl => exact True.intro)))
local macro_rules | `(tactic| o_head ($f:ident $K:term $A:term $p:term)) => `(tactic| o_head (Mine.hook4 $K $A $p ()))
set_option maxHeartbeats 0
namespace Mine
open_top hd for (PySem.Challenge.rw_pq1201_01.row)
end Mine
end
set_option maxHeartbeats 500000
theorem Mine.fill : PySem.Challenge.rw_pq1201_01 = PySem.Challenge.rw_pq1201_01 ∧ hd.heap_1 = hd.heap_1 := by w_top off; k_fill; exact ⟨rfl, rfl⟩
open PySem PySem.W PySem.Spec PySem.Calls PyProof.Rows Mine
local macro_rules | `(tactic| walk_at $s:str) => `(tactic| k_extra $s)
local macro_rules | `(tactic| k_upd) => `(tactic| k_extra "k_upd")
local macro_rules | `(tactic| k_updF) => `(tactic| k_extra "k_updF")
local macro_rules | `(tactic| k_mem) => `(tactic| k_extra "k_mem")
local macro_rules | `(tactic| k_handed) => `(tactic| k_extra "k_handed")
local macro_rules | `(tactic| k_units) => `(tactic| k_extra "k_units")
local macro_rules | `(tactic| k_room) => `(tactic| k_extra "k_room")
local macro_rules | `(tactic| k_in) => `(tactic| k_extra "k_in")
local macro_rules | `(tactic| k_lt $h:ident) => `(tactic| k_dflt (have Dn := nd_newD (by assumption) $h))
local macro_rules | `(tactic| k_lt2 $h:ident) => `(tactic| k_dflt (have Dn := nd_newD2 (by assumption) (by assumption) $h))
namespace Mine
open PySem PySem.W PySem.Spec PySem.Calls PyProof.Rows
abbrev ent (P : Params) (n : String) (t : Tok) (v : Value) : DictEntry := ⟨PyData.keyHash P (Str.ofString n), .str (Str.ofString n) t, v⟩
noncomputable def LOOSE : List Str := looseW hd.view_1 [Str.ofString "Sender", Str.ofString "Segment", Str.ofString "Tcb"]
abbrev PR : Program := PySem.Challenge.rw_pq1201_01.prog
section
theorem ln_Take_1 : True := by
 k_with_none
 k_with "m_enter" => ((
     case ho => k_is
     case hcd => k_is
     case hbind => first | exact BindsTo.of_eq rfl | exact binds_K (Frag.In.keeps (Base.X (by assumption)) (Has.stays (by assumption))) rfl (by k_is) rfl rfl rfl
     case hloc => exact locs rfl
     case hcell => decide
     case hco => exact rfl
     case hgen => exact rfl
     case hk => exact rfl
     intro RR hRR g L' h₁ A' lo' St hg1 hg2 F N D X T
     (try dsimp only [List.reverse, List.reverseAux, List.length] at *)))
 k_with "m_takes" => (first
     | exact Takes.nil
     | (refine' Takes.cons ?az047 ?bz047; (case az047 => walk_at "m_pull"); (case bz047 => walk_at "m_takes"))
     | (refine' Takes.app ?az047 ?bz047; (case az047 => walk_at "m_pullL"); (case bz047 => walk_at "m_takes"))
     | (refine' Takes.last ?az047; (case az047 => walk_at "m_pullL")))
 k_with "m_pull" => (first
     | exact Pull.head
     | (refine' Pull.tail ?az350; (case az350 => walk_at "m_pull"))
     | (refine' Pull.app ?az350; (case az350 => walk_at "m_pull")))
 k_with "m_pullL" => (first
     | exact PullL.head
     | exact PullL.whole
     | (refine' PullL.tail ?az531; (case az531 => walk_at "m_pullL"))
     | (refine' PullL.app ?az531; (case az531 => walk_at "m_pullL")))
 k_with "m_ends" => ((case p1 => ((try simp only [tcbLed]); (try simp only [whLed, List.append_assoc, List.cons_append, List.nil_append, List.append_nil]); (walk_at "m_takes"))))
 k_with "m_updn" => (first | exact UpdN.head | (refine' UpdN.tail ?az058; (case az058 => walk_at "m_updn")) | (refine' UpdN.app ?az058; (case az058 => walk_at "m_updn")))
 k_with "m_updg" => (first | exact UpdG.head | (refine' UpdG.tail ?az984; (case az984 => walk_at "m_updg")) | (refine' UpdG.app ?az984; (case az984 => walk_at "m_updg")))
 k_with "k_upd" => (k_dflt (refine' upd_of ?Dz233 ?Uz233; (case Dz233 => assumption); (case Uz233 => walk_at "m_updn")))
 k_with "k_updF" => (k_dflt (refine' updF_of ?Dz235 ?Uz235; (case Dz235 => assumption); (case Uz235 => walk_at "m_updg")))
 k_with "k_mem" => (first | with_reducible exact List.mem_cons_self | (with_reducible exact List.mem_append_left _ (by assumption)) | (with_reducible refine' List.mem_cons_of_mem _ ?mmz799; (case mmz799 => k_mem)) | (with_reducible refine' List.mem_append_right _ ?mmz799; (case mmz799 => k_mem)) | with_reducible assumption)
 k_with "k_handed" => (assumption)
 k_with "k_units" => (first | exact Lo.line (by assumption) | exact Lo.line (Lo.in1 (by assumption)))
 k_with "k_room" => (exact Lo.room (by assumption))
 k_with "subscriptTail Name Constant ref int" => ((k_dflt (first
     | (refine' item_M (by assumption) ?hmz616 ?h0z616 ?hhiz616 ?hxz616 ?_ ?hsz616; (case hmz616 => k_mem); (case h0z616 => decide); (case hhiz616 => decide); (case hxz616 => exact rfl); (case hsz616 => with_unfolding_all rfl))
     | (refine' item_T (by assumption) ?hmz616 ?h0z616 ?hhiz616 ?hxz616 ?_ ?hsz616; (case hmz616 => k_mem); (case h0z616 => decide); (case hhiz616 => decide); (case hxz616 => exact rfl); (case hsz616 => with_unfolding_all rfl)))))
 k_with "execs cons" => (((with_reducible show wpAny _ _ (execs (_ :: _) _) _ _ _); (k_dflt (refine execs_flat (s := s) ?_)); intro tkF))
 k_with "binaryOp Mod int int" => ((refine mod_g (by omega) ?_; intro r hr))
 k_with "binaryOp FloorDiv int int" => ((refine fdiv_g (by omega) (by omega) ?_; intro q hq))
 k_with "binaryOp Mult int int" => ((refine mul_g (by omega) ?_))
 trivial
theorem take_c {w : World} {mean : ExcName → Option Value} {mg mb : Str → Option Value} {hb : Heap} {s : Shared} {A : Around} {a : Addr} {x y top : Int} {tx ty tt : Tok} {n : Nat}
   (B : Base (hd.heap_1 w.params) hd.view_1 LOOSE mean mg mb hb) (lo : Lo 1 A) (hx : 0 ≤ x) (hy : 0 ≤ y ∧ y < 2147483647) (ht : 0 < top ∧ top < 1000) (H : Has hb s [(a, listOf #[.int x tx, .int y ty] n)]) :
   codeAny (model PR w) A (.call (.ref 1135) ⟨[.ref a, .int top tt], []⟩) (Rets s [(a, listOf #[.int x tx, .int y ty] n)] (fun v nf => ∃ d td x' tx' y' ty', v = .int d td ∧ nf = [(a, listOf #[.int x' tx', .int y' ty'] n)] ∧ (0 ≤ d ∧ d < top) ∧ (0 ≤ x' ∧ x' ≤ x) ∧ (0 ≤ y' ∧ y' < 2147483647))) s := by
  refine' enter (binds := [(Str.ofString "source", .ref a), (Str.ofString "top", .int top tt)]) B H lo ?ho ?hcd ?hbind ?hloc ?h ?hcell ?hco ?hgen ?hk
  walk_at "m_enter"
  k_steps
  all_goals (try dsimp only)
  all_goals (refine' rets_end hRR hg2 (by assumption) (by assumption) (by assumption) ⟨_, _, _, _, _, _, rfl, rfl, ?_, ?_, ?_⟩ ?p1; (walk_at "m_ends"))
  all_goals omega
theorem take_elim {P : Value → Led → Prop} {a : Addr} {n : Nat} {x top : Int} (h : ∀ d td x' tx' y' ty', (0 ≤ d ∧ d < top) → (0 ≤ x' ∧ x' ≤ x) → (0 ≤ y' ∧ y' < 2147483647) → P (.int d td) [(a, listOf #[.int x' tx', .int y' ty'] n)]) :
    ∀ v nf, (∃ d td x' tx' y' ty', v = .int d td ∧ nf = [(a, listOf #[.int x' tx', .int y' ty'] n)] ∧ (0 ≤ d ∧ d < top) ∧ (0 ≤ x' ∧ x' ≤ x) ∧ (0 ≤ y' ∧ y' < 2147483647)) → P v nf := by
  rintro v nf ⟨d, td, x', tx', y', ty', rfl, rfl, h1, h2, h3⟩
  exact h _ _ _ _ _ _ h1 h2 h3
end
end Mine
namespace Mine
open PySem PySem.W PySem.Spec PySem.Calls PyProof.Rows
inductive ackIP (w : World) (p_delay : Value) (x dx : Addr) (nf : Led) : Prop
  | mk (k0 k1 u1 k2 k3 : Tok) (e0 : nf = [(x, instObj 118 dx), (dx, dictOf [ent w.params "delay" k0 p_delay, ent w.params "waiting" k1 (.int 0 u1), ent w.params "due" k2 .none, ent w.params "has_gap" k3 (.bool false)] 4)]) : ackIP w p_delay x dx nf
theorem ln_Inits_1 : True := by
 k_with_none
 k_with "m_enter" => ((
     case ho => k_is
     case hcd => k_is
     case hbind => first | exact BindsTo.of_eq rfl | exact binds_K (Frag.In.keeps (Base.X (by assumption)) (Has.stays (by assumption))) rfl (by k_is) rfl rfl rfl
     case hloc => exact locs rfl
     case hcell => decide
     case hco => exact rfl
     case hgen => exact rfl
     case hk => exact rfl
     intro RR hRR g L' h₁ A' lo' St hg1 hg2 F N D X T
     (try dsimp only [List.reverse, List.reverseAux, List.length] at *)))
 k_with "m_takes" => (first
     | exact Takes.nil
     | (refine' Takes.cons ?az047 ?bz047; (case az047 => walk_at "m_pull"); (case bz047 => walk_at "m_takes"))
     | (refine' Takes.app ?az047 ?bz047; (case az047 => walk_at "m_pullL"); (case bz047 => walk_at "m_takes"))
     | (refine' Takes.last ?az047; (case az047 => walk_at "m_pullL")))
 k_with "m_pull" => (first
     | exact Pull.head
     | (refine' Pull.tail ?az350; (case az350 => walk_at "m_pull"))
     | (refine' Pull.app ?az350; (case az350 => walk_at "m_pull")))
 k_with "m_pullL" => (first
     | exact PullL.head
     | exact PullL.whole
     | (refine' PullL.tail ?az531; (case az531 => walk_at "m_pullL"))
     | (refine' PullL.app ?az531; (case az531 => walk_at "m_pullL")))
 k_with "m_ends" => ((case p1 => ((try simp only [tcbLed]); (try simp only [whLed, List.append_assoc, List.cons_append, List.nil_append, List.append_nil]); (walk_at "m_takes"))))
 k_with "m_updn" => (first | exact UpdN.head | (refine' UpdN.tail ?az058; (case az058 => walk_at "m_updn")) | (refine' UpdN.app ?az058; (case az058 => walk_at "m_updn")))
 k_with "m_updg" => (first | exact UpdG.head | (refine' UpdG.tail ?az984; (case az984 => walk_at "m_updg")) | (refine' UpdG.app ?az984; (case az984 => walk_at "m_updg")))
 k_with "k_upd" => (k_dflt (refine' upd_of ?Dz233 ?Uz233; (case Dz233 => assumption); (case Uz233 => walk_at "m_updn")))
 k_with "k_updF" => (k_dflt (refine' updF_of ?Dz235 ?Uz235; (case Dz235 => assumption); (case Uz235 => walk_at "m_updg")))
 k_with "k_mem" => (first | with_reducible exact List.mem_cons_self | (with_reducible exact List.mem_append_left _ (by assumption)) | (with_reducible refine' List.mem_cons_of_mem _ ?mmz799; (case mmz799 => k_mem)) | (with_reducible refine' List.mem_append_right _ ?mmz799; (case mmz799 => k_mem)) | with_reducible assumption)
 k_with "k_handed" => (assumption)
 k_with "k_units" => (first | exact Lo.line (by assumption) | exact Lo.line (Lo.in1 (by assumption)))
 k_with "k_room" => (exact Lo.room (by assumption))
 k_with "execs cons" => (((with_reducible show wpAny _ _ (execs (_ :: _) _) _ _ _); (k_dflt (refine execs_flat (s := s) ?_)); intro tkF))
 k_with "setAttr ref" => ((k_dflt (refine' set_hid ?wF ?wX ?wN ?wD ?wh1 ?wU ?who ?wk6 ?wk7 ?wk8 ?wk9 ?wk10 ?wk11 ?wk13 ?_; (case wN => k_asm); (case wF => k_asm); (case wX => k_in); (case wD => k_asm); (case wh1 => k_mem); (case wU => walk_at "m_updg"); (case who => first | assumption | exact rfl); (case wk6 => k_is); (case wk7 => k_is); (case wk8 => k_is); (case wk9 => k_is); (case wk10 => k_get); (case wk11 => k_put); (case wk13 => exact Nat.le_of_ble_eq_true rfl)); intro h' o' ho F' N' Dn; (try dsimp only at N' Dn); (try k_sweep)))
 trivial
theorem ackI {w : World} {mean : ExcName → Option Value} {mg mb : Str → Option Value} {hb : Heap} {s : Shared} {A : Around} {x dx : Addr} {p_delay : Value} (B : Base (hd.heap_1 w.params) hd.view_1 LOOSE mean mg mb hb) (lo : Lo 1 A) (H : Has hb s [(x, instObj 118 dx), (dx, dictOf [] 0)]) :
    codeAny (model PR w) A (.call (.ref 79) ⟨[.ref x, p_delay], []⟩) (Rets s [(x, instObj 118 dx), (dx, dictOf [] 0)] (fun v nf => v = .none ∧ ackIP w p_delay x dx nf)) s := by
  refine' enter (binds := [(Str.ofString "self", .ref x), (Str.ofString "delay", p_delay)]) B H lo ?ho ?hcd ?hbind ?hloc ?h ?hcell ?hco ?hgen ?hk
  walk_at "m_enter"
  k_steps
  all_goals (try dsimp only)
  all_goals subst ho
  all_goals (refine' rets_end hRR hg2 (by assumption) (by assumption) (by assumption) ⟨rfl, _, _, _, _, _, rfl⟩ ?p1; (walk_at "m_ends"))
inductive congIP (w : World) (p_mss : Value) (p_first : Value) (p_most : Value) (x dx : Addr) (nf : Led) : Prop
  | mk (k0 k1 k2 k3 k4 u4 k5 u5 k6 k7 : Tok) (e0 : nf = [(x, instObj 202 dx), (dx, dictOf [ent w.params "mss" k0 p_mss, ent w.params "most" k1 p_most, ent w.params "size" k2 p_first, ent w.params "threshold" k3 p_most, ent w.params "gathered" k4 (.int 0 u4), ent w.params "duplicates" k5 (.int 0 u5), ent w.params "is_recovering" k6 (.bool false), ent w.params "is_cautious" k7 (.bool false)] 8)]) : congIP w p_mss p_first p_most x dx nf
theorem congI {w : World} {mean : ExcName → Option Value} {mg mb : Str → Option Value} {hb : Heap} {s : Shared} {A : Around} {x dx : Addr} {p_mss : Value} {p_first : Value} {p_most : Value} (B : Base (hd.heap_1 w.params) hd.view_1 LOOSE mean mg mb hb) (lo : Lo 1 A) (H : Has hb s [(x, instObj 202 dx), (dx, dictOf [] 0)]) :
    codeAny (model PR w) A (.call (.ref 136) ⟨[.ref x, p_mss, p_first, p_most], []⟩) (Rets s [(x, instObj 202 dx), (dx, dictOf [] 0)] (fun v nf => v = .none ∧ congIP w p_mss p_first p_most x dx nf)) s := by
  refine' enter (binds := [(Str.ofString "self", .ref x), (Str.ofString "mss", p_mss), (Str.ofString "first", p_first), (Str.ofString "most", p_most)]) B H lo ?ho ?hcd ?hbind ?hloc ?h ?hcell ?hco ?hgen ?hk
  walk_at "m_enter"
  k_steps
  all_goals (try dsimp only)
  all_goals subst ho
  all_goals (refine' rets_end hRR hg2 (by assumption) (by assumption) (by assumption) ⟨rfl, _, _, _, _, _, _, _, _, _, _, rfl⟩ ?p1; (walk_at "m_ends"))
inductive rttIP (w : World) (p_first : Value) (p_least : Value) (p_most : Value) (x dx : Addr) (nf : Led) : Prop
  | mk (k0 k1 k2 k3 u3 k4 u4 k5 u5 : Tok) (e0 : nf = [(x, instObj 370 dx), (dx, dictOf [ent w.params "first" k0 p_first, ent w.params "least" k1 p_least, ent w.params "most" k2 p_most, ent w.params "mean8" k3 (.int 0 u3), ent w.params "spread4" k4 (.int 0 u4), ent w.params "measured" k5 (.int 0 u5)] 6)]) : rttIP w p_first p_least p_most x dx nf
theorem rttI {w : World} {mean : ExcName → Option Value} {mg mb : Str → Option Value} {hb : Heap} {s : Shared} {A : Around} {x dx : Addr} {p_first : Value} {p_least : Value} {p_most : Value} (B : Base (hd.heap_1 w.params) hd.view_1 LOOSE mean mg mb hb) (lo : Lo 1 A) (H : Has hb s [(x, instObj 370 dx), (dx, dictOf [] 0)]) :
    codeAny (model PR w) A (.call (.ref 332) ⟨[.ref x, p_first, p_least, p_most], []⟩) (Rets s [(x, instObj 370 dx), (dx, dictOf [] 0)] (fun v nf => v = .none ∧ rttIP w p_first p_least p_most x dx nf)) s := by
  refine' enter (binds := [(Str.ofString "self", .ref x), (Str.ofString "first", p_first), (Str.ofString "least", p_least), (Str.ofString "most", p_most)]) B H lo ?ho ?hcd ?hbind ?hloc ?h ?hcell ?hco ?hgen ?hk
  walk_at "m_enter"
  k_steps
  all_goals (try dsimp only)
  all_goals subst ho
  all_goals (refine' rets_end hRR hg2 (by assumption) (by assumption) (by assumption) ⟨rfl, _, _, _, _, _, _, _, _, _, rfl⟩ ?p1; (walk_at "m_ends"))
inductive clockIP (w : World) (p_estimate : Value) (p_most_tries : Value) (x dx : Addr) (nf : Led) : Prop
  | mk (k0 k1 k2 u2 k3 k4 u4 : Tok) (e0 : nf = [(x, instObj 314 dx), (dx, dictOf [ent w.params "estimate" k0 p_estimate, ent w.params "most_tries" k1 p_most_tries, ent w.params "tries" k2 (.int 0 u2), ent w.params "timed_end" k3 .none, ent w.params "timed_at" k4 (.int 0 u4)] 5)]) : clockIP w p_estimate p_most_tries x dx nf
theorem clockI {w : World} {mean : ExcName → Option Value} {mg mb : Str → Option Value} {hb : Heap} {s : Shared} {A : Around} {x dx : Addr} {p_estimate : Value} {p_most_tries : Value} (B : Base (hd.heap_1 w.params) hd.view_1 LOOSE mean mg mb hb) (lo : Lo 1 A) (H : Has hb s [(x, instObj 314 dx), (dx, dictOf [] 0)]) :
    codeAny (model PR w) A (.call (.ref 255) ⟨[.ref x, p_estimate, p_most_tries], []⟩) (Rets s [(x, instObj 314 dx), (dx, dictOf [] 0)] (fun v nf => v = .none ∧ clockIP w p_estimate p_most_tries x dx nf)) s := by
  refine' enter (binds := [(Str.ofString "self", .ref x), (Str.ofString "estimate", p_estimate), (Str.ofString "most_tries", p_most_tries)]) B H lo ?ho ?hcd ?hbind ?hloc ?h ?hcell ?hco ?hgen ?hk
  walk_at "m_enter"
  k_steps
  all_goals (try dsimp only)
  all_goals subst ho
  all_goals (refine' rets_end hRR hg2 (by assumption) (by assumption) (by assumption) ⟨rfl, _, _, _, _, _, _, _, rfl⟩ ?p1; (walk_at "m_ends"))
inductive peerIP (w : World) (p_ring : Value) (x dx : Addr) (nf : Led) : Prop
  | mk (k0 k1 u1 k2 u2 k3 k4 u4 : Tok) (e0 : nf = [(x, instObj 461 dx), (dx, dictOf [ent w.params "ring" k0 p_ring, ent w.params "size" k1 (.int 0 u1), ent w.params "most" k2 (.int 0 u2), ent w.params "told_seq" k3 .none, ent w.params "told_ack" k4 (.int 0 u4)] 5)]) : peerIP w p_ring x dx nf
theorem peerI {w : World} {mean : ExcName → Option Value} {mg mb : Str → Option Value} {hb : Heap} {s : Shared} {A : Around} {x dx : Addr} {p_ring : Value} (B : Base (hd.heap_1 w.params) hd.view_1 LOOSE mean mg mb hb) (lo : Lo 1 A) (H : Has hb s [(x, instObj 461 dx), (dx, dictOf [] 0)]) :
    codeAny (model PR w) A (.call (.ref 444) ⟨[.ref x, p_ring], []⟩) (Rets s [(x, instObj 461 dx), (dx, dictOf [] 0)] (fun v nf => v = .none ∧ peerIP w p_ring x dx nf)) s := by
  refine' enter (binds := [(Str.ofString "self", .ref x), (Str.ofString "ring", p_ring)]) B H lo ?ho ?hcd ?hbind ?hloc ?h ?hcell ?hco ?hgen ?hk
  walk_at "m_enter"
  k_steps
  all_goals (try dsimp only)
  all_goals subst ho
  all_goals (refine' rets_end hRR hg2 (by assumption) (by assumption) (by assumption) ⟨rfl, _, _, _, _, _, _, _, _, rfl⟩ ?p1; (walk_at "m_ends"))
inductive queueIP (w : World) (p_room : Tok) (x dx : Addr) (nf : Led) : Prop
  | mk (k0 k1 u1 : Tok) (e0 : nf = [(x, instObj 426 dx), (dx, dictOf [ent w.params "room" k0 (.int 16 p_room), ent w.params "held" k1 (.bytes #[] u1)] 2)]) : queueIP w p_room x dx nf
theorem queueI {w : World} {mean : ExcName → Option Value} {mg mb : Str → Option Value} {hb : Heap} {s : Shared} {A : Around} {x dx : Addr} {p_room : Tok} (B : Base (hd.heap_1 w.params) hd.view_1 LOOSE mean mg mb hb) (lo : Lo 1 A) (H : Has hb s [(x, instObj 426 dx), (dx, dictOf [] 0)]) :
    codeAny (model PR w) A (.call (.ref 388) ⟨[.ref x, (.int 16 p_room)], []⟩) (Rets s [(x, instObj 426 dx), (dx, dictOf [] 0)] (fun v nf => v = .none ∧ queueIP w p_room x dx nf)) s := by
  refine' enter (binds := [(Str.ofString "self", .ref x), (Str.ofString "room", (.int 16 p_room))]) B H lo ?ho ?hcd ?hbind ?hloc ?h ?hcell ?hco ?hgen ?hk
  walk_at "m_enter"
  k_steps
  all_goals (try dsimp only)
  all_goals subst ho
  all_goals (refine' rets_end hRR hg2 (by assumption) (by assumption) (by assumption) ⟨rfl, _, _, _, rfl⟩ ?p1; (walk_at "m_ends"))
inductive limIP (w : World) (p_ring : Value) (p_mss : Value) (p_send_room : Value) (p_receive_room : Value) (p_first_timeout : Value) (p_least_timeout : Value) (p_most_timeout : Value) (p_most_tries : Value) (p_ack_delay : Value) (p_time_wait : Value) (x dx : Addr) (nf : Led) : Prop
  | mk (k0 k1 k2 k3 k4 k5 k6 k7 k8 k9 : Tok) (e0 : nf = [(x, instObj 823 dx), (dx, dictOf [ent w.params "ring" k0 p_ring, ent w.params "mss" k1 p_mss, ent w.params "send_room" k2 p_send_room, ent w.params "receive_room" k3 p_receive_room, ent w.params "first_timeout" k4 p_first_timeout, ent w.params "least_timeout" k5 p_least_timeout, ent w.params "most_timeout" k6 p_most_timeout, ent w.params "most_tries" k7 p_most_tries, ent w.params "ack_delay" k8 p_ack_delay, ent w.params "time_wait" k9 p_time_wait] 10)]) : limIP w p_ring p_mss p_send_room p_receive_room p_first_timeout p_least_timeout p_most_timeout p_most_tries p_ack_delay p_time_wait x dx nf
theorem limI {w : World} {mean : ExcName → Option Value} {mg mb : Str → Option Value} {hb : Heap} {s : Shared} {A : Around} {x dx : Addr} {p_ring : Value} {p_mss : Value} {p_send_room : Value} {p_receive_room : Value} {p_first_timeout : Value} {p_least_timeout : Value} {p_most_timeout : Value} {p_most_tries : Value} {p_ack_delay : Value} {p_time_wait : Value} (B : Base (hd.heap_1 w.params) hd.view_1 LOOSE mean mg mb hb) (lo : Lo 1 A) (H : Has hb s [(x, instObj 823 dx), (dx, dictOf [] 0)]) :
    codeAny (model PR w) A (.call (.ref 820) ⟨[.ref x, p_ring, p_mss, p_send_room, p_receive_room, p_first_timeout, p_least_timeout, p_most_timeout, p_most_tries, p_ack_delay, p_time_wait], []⟩) (Rets s [(x, instObj 823 dx), (dx, dictOf [] 0)] (fun v nf => v = .none ∧ limIP w p_ring p_mss p_send_room p_receive_room p_first_timeout p_least_timeout p_most_timeout p_most_tries p_ack_delay p_time_wait x dx nf)) s := by
  refine' enter (binds := [(Str.ofString "self", .ref x), (Str.ofString "ring", p_ring), (Str.ofString "mss", p_mss), (Str.ofString "send_room", p_send_room), (Str.ofString "receive_room", p_receive_room), (Str.ofString "first_timeout", p_first_timeout), (Str.ofString "least_timeout", p_least_timeout), (Str.ofString "most_timeout", p_most_timeout), (Str.ofString "most_tries", p_most_tries), (Str.ofString "ack_delay", p_ack_delay), (Str.ofString "time_wait", p_time_wait)]) B H lo ?ho ?hcd ?hbind ?hloc ?h ?hcell ?hco ?hgen ?hk
  walk_at "m_enter"
  k_steps
  all_goals (try dsimp only)
  all_goals subst ho
  all_goals (refine' rets_end hRR hg2 (by assumption) (by assumption) (by assumption) ⟨rfl, _, _, _, _, _, _, _, _, _, _, rfl⟩ ?p1; (walk_at "m_ends"))
inductive segIP (w : World) (p_source_port : Value) (p_target_port : Value) (p_seq : Value) (p_ack : Value) (p_flags : Value) (p_window : Value) (p_urgent : Value) (p_options : Value) (p_payload : Value) (x dx : Addr) (nf : Led) : Prop
  | mk (k0 k1 k2 k3 k4 k5 k6 k7 k8 : Tok) (e0 : nf = [(x, instObj 702 dx), (dx, dictOf [ent w.params "source_port" k0 p_source_port, ent w.params "target_port" k1 p_target_port, ent w.params "seq" k2 p_seq, ent w.params "ack" k3 p_ack, ent w.params "flags" k4 p_flags, ent w.params "window" k5 p_window, ent w.params "urgent" k6 p_urgent, ent w.params "options" k7 p_options, ent w.params "payload" k8 p_payload] 9)]) : segIP w p_source_port p_target_port p_seq p_ack p_flags p_window p_urgent p_options p_payload x dx nf
theorem segI {w : World} {mean : ExcName → Option Value} {mg mb : Str → Option Value} {hb : Heap} {s : Shared} {A : Around} {x dx : Addr} {p_source_port : Value} {p_target_port : Value} {p_seq : Value} {p_ack : Value} {p_flags : Value} {p_window : Value} {p_urgent : Value} {p_options : Value} {p_payload : Value} (B : Base (hd.heap_1 w.params) hd.view_1 LOOSE mean mg mb hb) (lo : Lo 1 A) (H : Has hb s [(x, instObj 702 dx), (dx, dictOf [] 0)]) :
    codeAny (model PR w) A (.call (.ref 678) ⟨[.ref x, p_source_port, p_target_port, p_seq, p_ack, p_flags, p_window, p_urgent, p_options, p_payload], []⟩) (Rets s [(x, instObj 702 dx), (dx, dictOf [] 0)] (fun v nf => v = .none ∧ segIP w p_source_port p_target_port p_seq p_ack p_flags p_window p_urgent p_options p_payload x dx nf)) s := by
  refine' enter (binds := [(Str.ofString "self", .ref x), (Str.ofString "source_port", p_source_port), (Str.ofString "target_port", p_target_port), (Str.ofString "seq", p_seq), (Str.ofString "ack", p_ack), (Str.ofString "flags", p_flags), (Str.ofString "window", p_window), (Str.ofString "urgent", p_urgent), (Str.ofString "options", p_options), (Str.ofString "payload", p_payload)]) B H lo ?ho ?hcd ?hbind ?hloc ?h ?hcell ?hco ?hgen ?hk
  walk_at "m_enter"
  k_steps
  all_goals (try dsimp only)
  all_goals subst ho
  all_goals (refine' rets_end hRR hg2 (by assumption) (by assumption) (by assumption) ⟨rfl, _, _, _, _, _, _, _, _, _, rfl⟩ ?p1; (walk_at "m_ends"))
end Mine
namespace Mine
open PySem PySem.W PySem.Spec PySem.Calls PyProof.Rows
theorem Takes.all {l : Led} : Takes l l [] := by unfold Takes; rw [List.append_nil]
/-- the value at a key, of a list of pairs -/
abbrev look (kvs : List (Int × Int)) (k : Int) : Option Int := (kvs.find? fun p => p.1 = k).map (·.2)
abbrev less (kvs : List (Int × Int)) (k : Int) : List (Int × Int) := kvs.filter fun p => decide (p.1 ≠ k)
inductive Ents (TL : Led) : List (Int × Value) → List (Int × Int) → Prop
  | nil : Ents TL [] []
  | cons {k τ g : Int} {b : Addr} {t u : Tok} {n : Nat} {kv : List (Int × Value)} {kvs : List (Int × Int)} : (b, tupOf [.int τ t, .int g u] n) ∈ TL → Ents TL kv kvs → Ents TL ((k, .ref b) :: kv) ((k, τ) :: kvs)
theorem Ents.mono {TL TL' : Led} {kv : List (Int × Value)} {kvs : List (Int × Int)} (h : Ents TL kv kvs) (s : ∀ q ∈ TL, q ∈ TL') : Ents TL' kv kvs := by
  induction h with
  | nil => exact .nil
  | cons m _ ih => exact .cons (s _ m) ih
theorem Ents.length {TL : Led} {kv : List (Int × Value)} {kvs : List (Int × Int)} (h : Ents TL kv kvs) : kv.length = kvs.length := by
  induction h with
  | nil => rfl
  | cons _ _ ih => simp [ih]
theorem Ents.miss {TL : Led} {kv : List (Int × Value)} {kvs : List (Int × Int)} {k : Int} (h : Ents TL kv kvs) (e : look kvs k = none) : valueAt kv k = none := by
  induction h with
  | nil => rfl
  | @cons k' τ g b t u n kv kvs m _ ih =>
    unfold look at e ih; unfold valueAt at ih ⊢
    rw [List.find?_cons] at e ⊢
    by_cases hk : k' = k
    · simp [hk] at e
    · simp only [hk, decide_false] at e ⊢
      exact ih e
theorem Ents.there {TL : Led} {kv : List (Int × Value)} {kvs : List (Int × Int)} {k τ : Int} (h : Ents TL kv kvs) (e : look kvs k = some τ) : ∃ b t g u n, valueAt kv k = some (.ref b) ∧ (b, tupOf [.int τ t, .int g u] n) ∈ TL := by
  induction h with
  | nil => simp at e
  | @cons k' τ' g b t u n kv kvs m _ ih =>
    unfold look at e ih; unfold valueAt at ih ⊢
    rw [List.find?_cons] at e ⊢
    by_cases hk : k' = k
    · simp [hk] at e ⊢
      subst e
      exact ⟨_, _, _, _, m⟩
    · simp only [hk, decide_false] at e ⊢
      exact ih e
theorem Ents.without {TL : Led} {kv : List (Int × Value)} {kvs : List (Int × Int)} (k : Int) (h : Ents TL kv kvs) : Ents TL (without kv k) (less kvs k) := by
  unfold PySem.without less
  induction h with
  | nil => exact .nil
  | @cons k' τ g b t u n kv kvs m _ ih =>
    rw [List.filter_cons, List.filter_cons]
    by_cases hk : k' = k
    · simpa [hk] using ih
    · simpa [hk] using Ents.cons (k := k') m ih
theorem stored_new {kv : List (Int × Value)} {k : Int} {v : Value} (e : valueAt kv k = none) : stored kv k v = kv ++ [(k, v)] := by
  unfold stored
  rw [if_neg]
  unfold valueAt at e
  rw [Option.map_eq_none_iff, List.find?_eq_none] at e
  rw [List.any_eq_true]
  rintro ⟨p, hp, hk⟩
  exact e p hp hk
theorem Ents.app {TL : Led} {kv : List (Int × Value)} {kvs : List (Int × Int)} {k τ g : Int} {b : Addr} {t u : Tok} {n : Nat} (h : Ents TL kv kvs) (m : (b, tupOf [.int τ t, .int g u] n) ∈ TL) : Ents TL (kv ++ [(k, .ref b)]) (kvs ++ [(k, τ)]) := by
  induction h with
  | nil => exact .cons m .nil
  | cons m' _ ih => exact .cons m' ih
theorem look_less (kvs : List (Int × Int)) (k : Int) : look (less kvs k) k = none := by
  unfold look less
  rw [Option.map_eq_none_iff, List.find?_eq_none]
  intro p hp
  have := (List.mem_filter.mp hp).2
  simpa using this
theorem less_of_none {kvs : List (Int × Int)} {k : Int} (e : look kvs k = none) : less kvs k = kvs := by
  unfold look at e
  rw [Option.map_eq_none_iff, List.find?_eq_none] at e
  unfold less
  rw [List.filter_eq_self]
  intro p hp
  simpa using e p hp
theorem Ents.at {TL : Led} {kv : List (Int × Value)} {kvs : List (Int × Int)} (h : Ents TL kv kvs) : ∀ {i : Nat} {k : Int} {y : Value}, kv[i]? = some (k, y) → ∃ τ b t g u n, y = .ref b ∧ kvs[i]? = some (k, τ) ∧ (b, tupOf [.int τ t, .int g u] n) ∈ TL := by
  induction h with
  | nil => intro i k y e; simp at e
  | @cons k' τ g b t u n kv kvs m _ ih =>
    intro i k y e
    cases i with
    | zero => simp at e; obtain ⟨rfl, rfl⟩ := e; exact ⟨τ, b, t, g, u, n, rfl, rfl, m⟩
    | succ i => simpa using ih (by simpa using e)
theorem valueAt_at : ∀ {kv : List (Int × Value)} {i : Nat} {k : Int} {y : Value}, (kv.map (·.1)).Nodup → kv[i]? = some (k, y) → valueAt kv k = some y
  | [], i, k, y, _, e => by simp at e
  | (k', y') :: r, 0, k, y, _, e => by
    simp at e; obtain ⟨rfl, rfl⟩ := e; simp [valueAt]
  | (k', y') :: r, i + 1, k, y, hn, e => by
    have hn' := List.nodup_cons.mp hn
    have e' : r[i]? = some (k, y) := by simpa using e
    have hne : k' ≠ k := fun q => hn'.1 (by
      show k' ∈ _
      rw [q]
      exact List.mem_map.mpr ⟨(k, y), List.mem_of_getElem? e', rfl⟩)
    have ih := valueAt_at hn'.2 e'
    unfold valueAt at ih ⊢
    rw [List.find?_cons]
    simp only [hne, decide_false]
    exact ih
/-- kept from the walk's eyes -/
def IntsM (ys : List Value) (l : List Int) : Prop := IntsAre ys l
def ov (o : Option Int) (t : Tok) : Value := match o with | some τ => .int τ t | none => .none
theorem IntsM.snoc {ys : List Value} {kvs : List (Int × Int)} {i : Nat} {k τ : Int} {t : Tok} (h : IntsM ys ((kvs.take i).map Prod.snd)) (e : kvs[i]? = some (k, τ)) : IntsM (ys ++ [.int τ t]) ((kvs.take (i + 1)).map Prod.snd) := by
  rw [List.take_add_one, e]
  have := IntsAre.append h (.cons τ t .nil)
  unfold IntsM
  simpa using this
theorem IntsM.all {ys : List Value} {kvs : List (Int × Int)} {i : Nat} (h : IntsM ys ((kvs.take i).map Prod.snd)) (e : kvs.length ≤ i) : IntsM ys (kvs.map Prod.snd) := by
  rwa [List.take_of_length_le e] at h
theorem min_of {ns : List Int} {M : Int} (h1 : M ∈ ns) (h2 : ∀ a, a ∈ ns → M ≤ a) : ns.min? = some M := by
  rw [List.min?_eq_some_iff]
  exact ⟨h1, h2⟩
abbrev refs (SL : Led) : List Value := SL.map fun q => Value.ref q.1
/-- the slots: sixteen lists of ints -/
def Slots (c : Nat) (SL : Led) : Prop := ∀ q ∈ SL, ∃ vs ns n, q.2 = listOf (List.toArray vs) n ∧ IntsAre vs ns ∧ vs.length ≤ c
theorem Slots.more {c : Nat} {SL : Led} {a : Addr} {n : Nat} (h : Slots c SL) : Slots c (SL ++ [(a, listOf #[] n)]) := by
  intro q hq
  rcases List.mem_append.mp hq with hq | hq
  · exact h q hq
  · rw [List.mem_singleton.mp hq]
    exact ⟨[], [], n, rfl, .nil, Nat.zero_le _⟩
theorem allLt_mem {d : Addr} : ∀ {l : Led}, AllLt d l → ∀ p ∈ l, p.1 < d
  | [], _, _, hp => nomatch hp
  | _ :: _, h, p, hp => by
    rcases List.mem_cons.mp hp with rfl | hp
    · exact h.1
    · exact allLt_mem h.2 p hp
theorem off3_lt {I C D a : Addr} {o : Obj} {l : Led} (h : LCg.Off3 I C D l) (l1 : I < a) (l2 : C < a) (l3 : D < a) : LCg.Off3 I C D ((a, o) :: l) := ⟨⟨Nat.ne_of_gt l1, Nat.ne_of_gt l2, Nat.ne_of_gt l3⟩, h⟩
theorem off3_app {I C D : Addr} : ∀ {l l' : Led}, LCg.Off3 I C D (l ++ l') → LCg.Off3 I C D l ∧ LCg.Off3 I C D l'
  | [], _, h => ⟨trivial, h⟩
  | _ :: _, _, h => ⟨⟨h.1, (off3_app h.2).1⟩, (off3_app h.2).2⟩
theorem off3_perm {I C D : Addr} {l l' : Led} (h : LCg.Off3 I C D l) (p : ∀ q ∈ l', q ∈ l) : LCg.Off3 I C D l' := LCg.Off3.of fun q hq => h.mem q (p q hq)
theorem sub_new {P1 P2 P3 a : Addr × Obj} {SL base : Led} : ∀ p ∈ P1 :: P2 :: P3 :: (base ++ (SL ++ [a])), p ∈ a :: P1 :: P2 :: P3 :: (base ++ SL) := by
  intro p hp
  simp only [List.mem_cons, List.mem_append, List.not_mem_nil, or_false] at hp ⊢
  rcases hp with rfl | rfl | rfl | h | h | rfl <;> simp [*]
theorem nd_mid {d : Addr} {o : Obj} {SL base : Led} (D : (adrs (base ++ SL)).Nodup) (h : AllLt d (base ++ SL)) : (adrs (base ++ (SL ++ [(d, o)]))).Nodup := by
  have h1 := nd_newD D (allLt_mem h)
  have e : (base ++ (SL ++ [(d, o)])).Perm ((d, o) :: (base ++ SL)) := by
    rw [← List.append_assoc]
    exact List.perm_append_singleton ..
  exact (List.Perm.nodup_iff (e.map _)).mpr h1
theorem off3_mid {I C D d : Addr} {o : Obj} {SL base : Led} (h : LCg.Off3 I C D (base ++ SL)) (l1 : I < d) (l2 : C < d) (l3 : D < d) : LCg.Off3 I C D (base ++ (SL ++ [(d, o)])) :=
  off3_perm (off3_lt (o := o) h l1 l2 l3) fun q hq => by
    simp only [List.mem_cons, List.mem_append, List.not_mem_nil, or_false] at hq ⊢
    rcases hq with h | h | rfl <;> simp [*]
theorem refs_more {SL : Led} {d : Addr} {o : Obj} : refs SL ++ [.ref d] = refs (SL ++ [(d, o)]) := by simp [refs]
theorem Slots.at {c : Nat} {SL : Led} (h : Slots c SL) {q : Addr × Obj} (hq : q ∈ SL) : ∃ l1 l2 b vs ns n, SL = l1 ++ (b, listOf (List.toArray vs) n) :: l2 ∧ q.1 = b ∧ IntsAre vs ns ∧ vs.length ≤ c := by
  obtain ⟨l1, l2, e⟩ := List.append_of_mem hq
  obtain ⟨vs, ns, n, e2, i, l⟩ := h q hq
  refine ⟨l1, l2, q.1, vs, ns, n, ?_, rfl, i, l⟩
  rw [e, ← e2]
theorem Slots.set {c c' : Nat} {l1 l2 : Led} {q : Addr × Obj} {b : Addr} {vs : List Value} {ns : List Int} {n : Nat} (h : Slots c (l1 ++ q :: l2)) (hc : c ≤ c') (i : IntsAre vs ns) (l : vs.length ≤ c') : Slots c' (l1 ++ (b, listOf (List.toArray vs) n) :: l2) := by
  intro p hp
  rcases List.mem_append.mp hp with hp | hp
  · obtain ⟨vs, ns, n, a, b, d⟩ := h p (List.mem_append_left _ hp)
    exact ⟨vs, ns, n, a, b, Nat.le_trans d hc⟩
  · rcases List.mem_cons.mp hp with rfl | hp
    · exact ⟨vs, ns, n, rfl, i, l⟩
    · obtain ⟨vs, ns, n, a, b, d⟩ := h p (List.mem_append_right _ (List.mem_cons_of_mem _ hp))
      exact ⟨vs, ns, n, a, b, Nat.le_trans d hc⟩
abbrev whLed (w : World) (a da sl la en : Addr) (oen : Obj) (g : Int) (k0 k1 k2 k3 k4 k5 t0 t5 : Tok) (rv : List Value) (nsl nla : Nat) (SL TL : Led) : Led :=
  (a, instObj 802 da) :: (da, dictOf [ent w.params "size" k0 (.int 16 t0), ent w.params "slots" k1 (.ref sl), ent w.params "late" k2 (.ref la), ent w.params "entries" k3 (.ref en), ent w.params "reached" k4 .none, ent w.params "given" k5 (.int g t5)] 6) ::
    (sl, listOf (List.toArray rv) nsl) :: (la, listOf #[] nla) :: (en, oen) :: (SL ++ TL)
theorem refs_set {l1 l2 : Led} {b : Addr} {o o' : Obj} : refs (l1 ++ (b, o) :: l2) = refs (l1 ++ (b, o') :: l2) := by simp [refs]
theorem len_set {l1 l2 : Led} {q q' : Addr × Obj} {n : Nat} (h : (l1 ++ q :: l2).length = n) : (l1 ++ q' :: l2).length = n := by simpa using h
theorem less_le (kvs : List (Int × Int)) (k : Int) : (less kvs k).length ≤ kvs.length := List.length_filter_le ..
/-- V bears the wheel a, its entries kvs -/
inductive WhIs (w : World) (a : Addr) (c : Nat) (kvs : List (Int × Int)) (V : Led) : Prop
  | mk (da sl la en : Addr) (oen : Obj) (g : Int) (k0 k1 k2 k3 k4 k5 t0 t5 : Tok) (rv : List Value) (nsl nla : Nat) (SL TL : Led) (kv : List (Int × Value)) (e0 : V = whLed w a da sl la en oen g k0 k1 k2 k3 k4 k5 t0 t5 rv nsl nla SL TL) (e1 : rv = refs SL) (e2 : SL.length = 16) (e3 : Slots c SL) (e4 : oen.IsDictOf (intKind PR w) kv) (e5 : (en == sysModules) = false) (e6 : (0 ≤ g ∧ g ≤ c)) (e7 : Ents TL kv kvs) (e8 : kvs.length ≤ c) : WhIs w a c kvs V
theorem WhIs.intro {w : World} {a : Addr} {c : Nat} {kvs : List (Int × Int)} {da sl la en : Addr} {oen : Obj} {g : Int} {k0 k1 k2 k3 k4 k5 t0 t5 : Tok} {rv : List Value} {nsl nla : Nat} {SL TL : Led} {kv : List (Int × Value)}
    (h1 : rv = refs SL) (h2 : SL.length = 16) (h3 : Slots c SL) (h4 : oen.IsDictOf (intKind PR w) kv) (h5 : (en == sysModules) = false) (h6 : 0 ≤ g ∧ g ≤ c) (h7 : Ents TL kv kvs) (h8 : kvs.length ≤ c) :
    WhIs w a c kvs (whLed w a da sl la en oen g k0 k1 k2 k3 k4 k5 t0 t5 rv nsl nla SL TL) :=
  ⟨da, sl, la, en, oen, g, k0, k1, k2, k3, k4, k5, t0, t5, rv, nsl, nla, SL, TL, kv, rfl, h1, h2, h3, h4, h5, h6, h7, h8⟩
theorem WhIs.elim {w : World} {a : Addr} {c : Nat} {kvs : List (Int × Int)} {V : Led} {G : Led → Prop} (W : WhIs w a c kvs V) (k : ∀ (da sl la en : Addr) (oen : Obj) (g : Int) (k0 k1 k2 k3 k4 k5 t0 t5 : Tok) (rv : List Value) (nsl nla : Nat) (SL TL : Led) (kv : List (Int × Value)),
    rv = refs SL → SL.length = 16 → Slots c SL → oen.IsDictOf (intKind PR w) kv → (en == sysModules) = false → (0 ≤ g ∧ g ≤ c) → Ents TL kv kvs → kvs.length ≤ c → G (whLed w a da sl la en oen g k0 k1 k2 k3 k4 k5 t0 t5 rv nsl nla SL TL)) : G V := by
  obtain ⟨da, sl, la, en, oen, g, k0, k1, k2, k3, k4, k5, t0, t5, rv, nsl, nla, SL, TL, kv, rfl, h1, h2, h3, h4, h5, h6, h7, h8⟩ := W
  exact k _ _ _ _ _ _ _ _ _ _ _ _ _ _ _ _ _ _ _ _ h1 h2 h3 h4 h5 h6 h7 h8
theorem WhIs.len {w : World} {a : Addr} {c : Nat} {kvs : List (Int × Int)} {V : Led} (W : WhIs w a c kvs V) : kvs.length ≤ c := by
  obtain ⟨da, sl, la, en, oen, g, k0, k1, k2, k3, k4, k5, t0, t5, rv, nsl, nla, SL, TL, kv, rfl, _, _, _, _, _, _, _, h⟩ := W
  exact h
theorem WhIs.inst {w : World} {a : Addr} {c : Nat} {kvs : List (Int × Int)} {V : Led} (W : WhIs w a c kvs V) : ∃ (da sl la en : Addr) (g : Int) (k0 k1 k2 k3 k4 k5 t0 t5 : Tok), (a, instObj 802 da) ∈ V ∧
    (da, dictOf [ent w.params "size" k0 (.int 16 t0), ent w.params "slots" k1 (.ref sl), ent w.params "late" k2 (.ref la), ent w.params "entries" k3 (.ref en), ent w.params "reached" k4 .none, ent w.params "given" k5 (.int g t5)] 6) ∈ V := by
  obtain ⟨da, sl, la, en, oen, g, k0, k1, k2, k3, k4, k5, t0, t5, rv, nsl, nla, SL, TL, kv, rfl, _⟩ := W
  exact ⟨da, sl, la, en, g, k0, k1, k2, k3, k4, k5, t0, t5, .head _, .tail _ (.head _)⟩
section
variable {prog : Program} {w : World} {A : Around} {E : Value → Shared → Prop} {s : Shared} {h₀ : Heap} {L : Addr} {m : Str → Option Value} {news : Led} {Q : Value → Shared → Prop}
theorem slot_item {value slice : PySem.Expr} {sl : Addr} {SL : Led} {rv : List Value} {n c : Nat} {k : Int} {u : Tok} (N : News h₀ L s.heap news) (hm : (sl, listOf (List.toArray rv) n) ∈ news) (er : rv = refs SL) (hl : SL.length = 16) (hS : Slots c SL) (h0 : 0 ≤ k ∧ k < 16)
    (h : ∀ l1 l2 b vs ns n, SL = l1 ++ (b, listOf (List.toArray vs) n) :: l2 → IntsAre vs ns → vs.length ≤ c → Q (.ref b) s)
    (hs : subscripted slice false (.ref sl) (.int k u) = operate [.ref sl, .int k u] (getItem (.ref sl) (.int k u))) :
    wpAny (model prog w) A (subscriptTail value slice (.ref sl) (.int k u)) Q E s := by
  have hk : k.toNat < SL.length := by omega
  obtain ⟨l1, l2, b, vs, ns, n', e, eb, i, l⟩ := hS.at (List.getElem_mem hk)
  refine item_M N hm h0.1 (by omega) (v := .ref b) ?_ (h l1 l2 b vs ns n' e i l) hs
  rw [er, ← eb]
  show ((refs SL).toArray.toList)[k.toNat]? = _
  simp [refs, hk]
theorem list_in {a : Addr} {vs : List Value} {ns : List Int} {n : Nat} {k : Int} {t : Tok} (N : News h₀ L s.heap news) (hm : (a, listOf (List.toArray vs) n) ∈ news) (hi : IntsAre vs ns) (h : ∀ b, ns.any (· == k) = b → Q (.bool b) s) :
    wpAny (model prog w) A (compareOp .In (.int k t) (.ref a)) Q E s := in_list_ints ⟨_, (N _ hm).1, rfl, _, rfl⟩ hi (h _ rfl)
theorem IntsAre.eraseIdx {vs : List Value} {ns : List Int} (h : IntsAre vs ns) : ∀ j, IntsAre (vs.eraseIdx j) (ns.eraseIdx j) := by
  induction h with
  | nil => intro j; exact .nil
  | cons n t h ih =>
    intro j
    cases j with
    | zero => exact h
    | succ j => exact .cons n t (ih j)
theorem list_remove {a : Addr} {vs : List Value} {ns : List Int} {n : Nat} {k : Int} {t : Tok} {g : Obj → Led} (F : Fr h₀ L s.heap m) (N : News h₀ L s.heap news) (D : (adrs news).Nodup) (U₀ : UpdG a (listOf (List.toArray vs) n) news g) (hi : IntsAre vs ns) (hk : ns.any (· == k) = true) (hz : vs.length ≤ 1000)
    (h : ∀ h' vs' ns' n', Fr h₀ L h' m → News h₀ L h' (g (listOf (List.toArray vs') n')) → (adrs (g (listOf (List.toArray vs') n'))).Nodup → IntsAre vs' ns' → vs'.length ≤ vs.length → Q .none { s with heap := h' }) :
    wpAny (model prog w) A (call (.builtin "list.remove") [.ref a, .int k t]) Q E s := by
  have U := updF_of D U₀
  have Dg := fun o' => U₀.nd (o' := o') D
  obtain ⟨pre, post, rfl, hg, x1, x2⟩ := U.split
  have hm := N (a, listOf (List.toArray vs) n) (List.mem_append_right _ (.head _))
  rw [← any_isInt k hi] at hk
  -- the first place
  obtain ⟨j, hj, hit, hno⟩ : ∃ j, ∃ hj : j < vs.length, isInt k vs[j] = true ∧ ∀ i (hi : i < vs.length), i < j → isInt k vs[i] = false := by
    cases e : vs.findIdx? (isInt k) with
    | none =>
      rw [List.findIdx?_eq_none_iff] at e
      rw [List.any_eq_true] at hk
      obtain ⟨x, hx, hx2⟩ := hk
      rw [e x hx] at hx2; cases hx2
    | some j =>
      rw [List.findIdx?_eq_some_iff_getElem] at e
      obtain ⟨hj, h1, h2⟩ := e
      exact ⟨j, hj, h1, fun i hi hlt => by simpa using h2 i hlt⟩
  refine call_meets PySem.F.slot_list_remove ⟨_, hm.1, rfl⟩ PySem.F.entry_list_remove (PySem.F.args_list_remove_2 _ _)
    (PySem.MeetsSeq.list_remove a (List.toArray vs) n (.int k t) (isInt k) (fun y hy => eq_isInt k t hi y (by simpa using hy)) j (by simpa using hj) (by simpa using hit) (fun i hi' hlt => by simpa using hno i (by simpa using hi') hlt) (by rw [sizeLine_eq]; simp; omega))
    ⟨hm.1, ?_⟩
  have hup : (s.heap.update a (Obj.mapSeq fun xs => xs.eraseIdxIfInBounds j)).get? a = some (Obj.mapSeq (fun xs => xs.eraseIdxIfInBounds j) (listOf (List.toArray vs) n)) :=
    Heap.get?_update_self _ hm.1 rfl
  have eobj : ∃ n', Obj.mapSeq (fun xs => xs.eraseIdxIfInBounds j) (listOf (List.toArray vs) n) = listOf (List.toArray (vs.eraseIdx j)) n' := by
    have e9 : (List.toArray vs).eraseIdxIfInBounds j = List.toArray (vs.eraseIdx j) := by simp [Array.eraseIdxIfInBounds, hj]
    rw [← e9]
    exact ⟨_, rfl⟩
  obtain ⟨n', eobj⟩ := eobj
  rw [eobj] at hup
  refine h _ (vs.eraseIdx j) (ns.eraseIdx j) n' (F.change (Heap.SameBut.update ..) hm.2.1 hm.2.2) (by rw [hg]; exact N.setIn x1 x2 (Heap.SameBut.update ..) hup) (Dg _) (IntsAre.eraseIdx hi j) (List.length_eraseIdx_le vs j)
theorem list_append {a : Addr} {vs : List Value} {n : Nat} {v : Value} {g : Obj → Led} (F : Fr h₀ L s.heap m) (N : News h₀ L s.heap news) (D : (adrs news).Nodup) (U₀ : UpdG a (listOf (List.toArray vs) n) news g) (hz : vs.length ≤ 1000)
    (h : ∀ h' n', Fr h₀ L h' m → News h₀ L h' (g (listOf (List.toArray (vs ++ [v])) n')) → (adrs (g (listOf (List.toArray (vs ++ [v])) n'))).Nodup → Q .none { s with heap := h' }) :
    wpAny (model prog w) A (call (.builtin "list.append") [.ref a, v]) Q E s := by
  have U := updF_of D U₀
  obtain ⟨pre, post, rfl, hg, x1, x2⟩ := U.split
  have hm := N (a, listOf (List.toArray vs) n) (List.mem_append_right _ (.head _))
  refine append_K (its := List.toArray vs) (n := n) F N (upd_mid x1 x2) (fun h' F' N' => ?_) (by rw [sizeLine_eq]; simp; omega)
  have e : (List.toArray vs).push v = List.toArray (vs ++ [v]) := by simp
  rw [e] at N'
  exact h h' _ F' (by rw [hg]; exact N') (U₀.nd D)
theorem item_T {value slice : PySem.Expr} {b : Addr} {vs : List Value} {n : Nat} {k : Int} {u : Tok} {v : Value} (N : News h₀ L s.heap news) (hm : (b, tupOf vs n) ∈ news) (h0 : 0 ≤ k) (hhi : k < 2 ^ 63) (hx : vs[k.toNat]? = some v) (h : Q v s)
    (hs : subscripted slice false (.ref b) (.int k u) = operate [.ref b, .int k u] (getItem (.ref b) (.int k u))) :
    wpAny (model prog w) A (subscriptTail value slice (.ref b) (.int k u)) Q E s := by
  have hk : k.toNat < vs.length := by
    rcases Nat.lt_or_ge k.toNat vs.length with e | e
    · exact e
    · rw [List.getElem?_eq_none e] at hx; cases hx
  refine item_tupleT (News.isTup N hm) (by omega) hhi (j := k.toNat) ?_ hx h hs
  have e1 : ¬ k < 0 := by omega
  have e2 : k < (vs.length : Int) := by omega
  simp only [seqIndex?, e1, if_false, h0, e2, decide_true, Bool.and_self, if_true]
theorem dict_item {K : Type} [DecidableEq K] {knd : KeyKind prog w K} {d : Addr} {o : Obj} {kvs : List (K × Value)} {k : K} {key v : Value} (N : News h₀ L s.heap news) (hp : (d, o) ∈ news) (hd : o.IsDictOf knd kvs) (hkey : knd.is k key = true) (hl : valueAt kvs k = some v) (h : Q v { s with toks := s.toks + 1 }) :
    wpAny (model prog w) A (getItem (.ref d) key) Q E s := kdt_getItem N hp hd hkey hl h
theorem Lo.line64 {k : Nat} {A : Around} (h : Lo k A) : A.units + 64 < cLine := by have := h.3; show A.units + 64 < 9900; omega
theorem ne_nil {a b : Addr} {vs : List Value} {ns : List Int} {n n2 k : Nat} (lo : Lo k A) (N : News h₀ L s.heap news) (h1 : (a, listOf (List.toArray vs) n) ∈ news) (hi : IntsM vs ns) (h2 : (b, listOf (List.toArray []) n2) ∈ news) (q0 : ns = [] → Q (.bool false) s) (q1 : 0 < ns.length → Q (.bool true) s) :
    wpAny (model prog w) A (compareOp .NotEq (.ref a) (.ref b)) Q E s := by
  refine ne_intsK (News.isList N h1) hi (News.isList N h2) .nil lo.line64 ?_
  cases ns with
  | nil => simpa using q0 rfl
  | cons x r => simpa using q1 (by simp)
theorem min_M {a : Addr} {vs : List Value} {ns : List Int} {n k : Nat} (lo : Lo k A) (F : Fr h₀ L s.heap m) (N : News h₀ L s.heap news) (hm : (a, listOf (List.toArray vs) n) ∈ news) (hi : IntsM vs ns) (hne : 0 < ns.length)
    (h : ∀ h' M t tk, Fr h₀ L h' m → News h₀ L h' news → ns.min? = some M → Q (.int M t) { s with heap := h', toks := tk }) : wpAny (model prog w) A (call (.builtin "min") [.ref a]) Q E s :=
  min_list_N lo.handled F N (News.isList N hm) hi hne fun h' M t tk F' N' a b => h h' M t tk F' N' (min_of a b)
end
end Mine
namespace Mine
open PySem PySem.W PySem.Spec PySem.Calls PyProof.Rows
section
theorem ln_Canc_1 : True := by
 k_with_none
 k_with "m_enter" => ((
     case ho => k_is
     case hcd => k_is
     case hbind => first | exact BindsTo.of_eq rfl | exact binds_K (Frag.In.keeps (Base.X (by assumption)) (Has.stays (by assumption))) rfl (by k_is) rfl rfl rfl
     case hloc => exact locs rfl
     case hcell => decide
     case hco => exact rfl
     case hgen => exact rfl
     case hk => exact rfl
     intro RR hRR g L' h₁ A' lo' St hg1 hg2 F N D X T
     (try dsimp only [List.reverse, List.reverseAux, List.length] at *)))
 k_with "m_takes" => (first
     | exact Takes.nil
     | (refine' Takes.cons ?az047 ?bz047; (case az047 => walk_at "m_pull"); (case bz047 => walk_at "m_takes"))
     | (refine' Takes.app ?az047 ?bz047; (case az047 => walk_at "m_pullL"); (case bz047 => walk_at "m_takes"))
     | (refine' Takes.last ?az047; (case az047 => walk_at "m_pullL")))
 k_with "m_pull" => (first
     | exact Pull.head
     | (refine' Pull.tail ?az350; (case az350 => walk_at "m_pull"))
     | (refine' Pull.app ?az350; (case az350 => walk_at "m_pull")))
 k_with "m_pullL" => (first
     | exact PullL.head
     | exact PullL.whole
     | (refine' PullL.tail ?az531; (case az531 => walk_at "m_pullL"))
     | (refine' PullL.app ?az531; (case az531 => walk_at "m_pullL")))
 k_with "m_ends" => ((case p1 => ((try simp only [tcbLed]); (try simp only [whLed, List.append_assoc, List.cons_append, List.nil_append, List.append_nil]); (walk_at "m_takes"))))
 k_with "subscriptTail" => ((k_dflt (first
     | (refine' item_M (by assumption) ?hmz616 ?h0z616 ?hhiz616 ?hxz616 ?_ ?hsz616; (case hmz616 => k_mem); (case h0z616 => decide); (case hhiz616 => decide); (case hxz616 => exact rfl); (case hsz616 => with_unfolding_all rfl))
     | (refine' item_T (by assumption) ?hmz616 ?h0z616 ?hhiz616 ?hxz616 ?_ ?hsz616; (case hmz616 => k_mem); (case h0z616 => decide); (case hhiz616 => decide); (case hxz616 => exact rfl); (case hsz616 => with_unfolding_all rfl)))))
 k_with "m_updn" => (first | exact UpdN.head | (refine' UpdN.tail ?az058; (case az058 => walk_at "m_updn")) | (refine' UpdN.app ?az058; (case az058 => walk_at "m_updn")))
 k_with "m_updg" => (first | exact UpdG.head | (refine' UpdG.tail ?az984; (case az984 => walk_at "m_updg")) | (refine' UpdG.app ?az984; (case az984 => walk_at "m_updg")))
 k_with "k_upd" => (k_dflt (refine' upd_of ?Dz233 ?Uz233; (case Dz233 => assumption); (case Uz233 => walk_at "m_updn")))
 k_with "k_updF" => (k_dflt (refine' updF_of ?Dz235 ?Uz235; (case Dz235 => assumption); (case Uz235 => walk_at "m_updg")))
 k_with "k_mem" => (first | with_reducible exact List.mem_cons_self | (with_reducible exact List.mem_append_left _ (by assumption)) | (with_reducible refine' List.mem_cons_of_mem _ ?mmz799; (case mmz799 => k_mem)) | (with_reducible refine' List.mem_append_right _ ?mmz799; (case mmz799 => k_mem)) | with_reducible assumption)
 k_with "getMethod ref" => ((k_dflt (refine' method_inst ?k1z510 ?k2z510 ?k3z510 ?k4z510 ?k5z510 ?k6z510 ?k7z510 ?_; (case k1z510 => k_asm); (case k2z510 => k_asm); (case k3z510 => k_inst); (case k4z510 => k_is); (case k5z510 => k_is); (case k6z510 => k_is); (case k7z510 => k_get); k_whole)))
 k_with "getAttr ref" => ((k_dflt (refine' get_own ?k1z343 ?k2z343 ?k3z343 ?k4z343 ?k5z343 ?k6z343 ?k7z343 ?k8z343 ?k9z343 ?_; (case k1z343 => k_asm); (case k2z343 => k_asm); (case k3z343 => k_inst); (case k4z343 => k_is); (case k5z343 => k_is); (case k6z343 => k_is); (case k7z343 => k_is); (case k8z343 => k_get); (case k9z343 => k_handed); k_whole)))
 k_with "k_handed" => (assumption)
 k_with "k_units" => (first | exact Lo.line (by assumption) | exact Lo.line (Lo.in1 (by assumption)))
 k_with "k_room" => (exact Lo.room (by assumption))
 k_with "assign Tuple" => (((with_reducible show wpAny _ _ (assign (Expr.Tuple _ _ _) _ (Value.ref _)) _ _ _); k_dflt (refine' unpackN_ ?F ?N ?T ?k1 ?k2 ?k3 ?_; (case F => k_asm); (case N => k_asm); (case T => (refine News.isTup (by k_asm) (by k_mem))); (case k1 => exact Lo.handled (by assumption)); (case k2 => exact rfl); (case k3 => exact rfl)); intro h' F' N'; (try k_sweep)))
 k_with "exec For Name Tuple cons nil" => (((rename Fr _ _ _ _ => lF'); (with_unfolding_all refine' For_invVF lF' ?k1z869 ?k2z869 ?_; (case k1z869 => exact rfl); (case k2z869 => exact rfl); k_whole)))
 k_with "pyIter ref" => (((with_reducible show wpAny _ _ (pyIter (Value.ref _)) (fun it s₂ => LoopAtV _ _ _ _ _ _ _ _ _ it s₂) _ _); (k_dflt (first
     | (refine' unr_tuple ?hhz581 ?Fz581 ?Nz581 ?Dz581 ?mz581 ?_; (case Fz581 => k_asm); (case Nz581 => k_asm); (case mz581 => k_mem); (case hhz581 => exact Lo.handled (by assumption)); (case Dz581 => k_asm))
     | (refine' unr_list ?hhz581 ?Fz581 ?Nz581 ?Dz581 ?mz581 ?_; (case Fz581 => k_asm); (case Nz581 => k_asm); (case mz581 => k_mem); (case hhz581 => exact Lo.handled (by assumption)); (case Dz581 => k_asm))))))
 k_with "UnrT" => ((k_dflt (first | (refine UnrT.cons ?_; intro I' oI' h' tk' Dn F' N') | (refine UnrT.nil ?_; intro h' tk' Dn F' N')); (try k_sweep)))
 k_with "MTurnPost" => ((k_dflt ((show TurnEnd _ _ _ _ _ _); (refine' TurnEnd.intro (by assumption) (by assumption) (by assumption) ?Pz235 ⟨?mz235, ?_⟩; (case Pz235 => walk_at "m_pull"); (case mz235 => k_mem)))))
 k_with "execs cons" => (((with_reducible show wpAny _ _ (execs (_ :: _) _) _ _ _); (k_dflt (refine execs_flat (s := s) ?_)); intro tkF))
 k_with "compareOp In int ref" => ((k_dflt (first
     | refine kda_in (knd := PySem.intKind _ _) (by k_asm) (by k_mem) (by k_asm) (by k_asm) (intKind_is _ _ _ _) true (by simp only [*]; rfl) ?_
     | refine kda_in (knd := PySem.intKind _ _) (by k_asm) (by k_mem) (by k_asm) (by k_asm) (intKind_is _ _ _ _) false (by simp only [*]; rfl) ?_)))
 k_with "getMethod ref" => ((k_dflt (
      (with_reducible show wpAny _ _ (getMethod (Value.ref _) (Str.ofString "pop") _) _ _ _); refine kob_method (knd := PySem.intKind _ _) PySem.F.slot_dict_pop PySem.F.type_dict_pop (by k_asm) (by k_mem) (by k_asm) ?_)))
 k_with "call builtin:dict.pop" => ((k_dflt (
     ((with_reducible show wpAny _ _ (call (Value.builtin "dict.pop") [Value.ref _, Value.int _ _]) _ _ _); refine' kob_pop (knd := PySem.intKind _ _) (more := []) ?Fz524 ?Nz524 ?Uz524 ?dz524 (intKind_is _ _ _ _) (.inl rfl) (by rfl) (PySem.F.args_dict_pop_2 _ _) ?lz524 ?zz524 ?_; (case Fz524 => k_asm); (case Nz524 => k_asm); (case Uz524 => k_updF); (case dz524 => k_asm); (case lz524 => assumption); (case zz524 => (rw [sizeLine_eq]; omega)))); intro h' o' F' N' hdi'; (try dsimp only at N')))
 k_with "binaryOp Mod int int" => ((refine mod_g (by omega) ?_; intro r hr))
 k_with "subscriptTail" => ((k_dflt (refine' slot_item (by assumption) ?hm ?er ?hl ?hS ?h0 ?_ ?hs; (case hm => k_mem); (case er => assumption); (case hl => assumption); (case hS => assumption); (case h0 => omega); (case hs => with_unfolding_all rfl)); intro l1 l2 sb svs sns sn eSL sI sL; subst eSL; (rename News _ _ _ _ => nN); (rename (adrs _).Nodup => nD); simp only [List.append_assoc, List.cons_append] at nN nD))
 k_with "compareOp In int ref" => ((k_dflt (refine list_in (by assumption) (by k_mem) (by first | assumption | exact IntsAre.nil) ?_); intro bb ebb; cases bb; (all_goals (first | (exfalso; simp only [List.any_nil, Bool.false_eq_true, reduceCtorEq] at ebb; done) | skip))))
 k_with "call builtin:list.remove" => ((k_dflt (refine' Mine.list_remove ?F ?N ?D ?U ?i ?k ?z ?_; (case F => assumption); (case N => assumption); (case D => assumption); (case U => walk_at "m_updg"); (case i => assumption); (case k => assumption); (case z => omega)); intro h' svs' sns' sn' F' N' Dn sI' sL'; (try dsimp only at N' Dn); (try k_sweep)))
 trivial
theorem cancel_c0 {w : World} {mean : ExcName → Option Value} {mg mb : Str → Option Value} {hb : Heap} {s : Shared} {A : Around} {a : Addr} {c : Nat} {kvs : List (Int × Int)} {V : Led} {k : Int} {tk : Tok}
   (B : Base (hd.heap_1 w.params) hd.view_1 LOOSE mean mg mb hb) (lo : Lo 1 A) (W : WhIs w a c kvs V) (hc : c ≤ 100) (H : Has hb s V) (hl : look kvs k = none) :
   codeAny (model PR w) A (.call (.ref 775) ⟨[.ref a, .int k tk], []⟩) (Rets s V (fun v nf => v = .none ∧ WhIs w a c (less kvs k) nf)) s := by
  revert H
  refine WhIs.elim (G := fun V => Has hb s V → codeAny (model PR w) A _ (Rets s V _) s) W ?_
  intro da sl la en oen gv k0 k1 k2 k3 k4 k5 t0 t5 rv nsl nla SL TL kv er h16 hS hdi hlo hgv hE hkc H
  have hlen := hE.length
  dsimp only [whLed] at H ⊢
  have hv := hE.miss hl
  refine' enter (binds := [(Str.ofString "self", .ref a), (Str.ofString "key", .int k tk)]) B H lo ?ho ?hcd ?hbind ?hloc ?h ?hcell ?hco ?hgen ?hk
  walk_at "m_enter"
  k_steps
  all_goals (try dsimp only)
  refine' rets_end hRR hg2 (by assumption) (by assumption) (by assumption) ⟨rfl, WhIs.intro (SL := SL) (TL := TL) er h16 hS hdi hlo hgv ((less_of_none hl).symm ▸ hE) ((less_of_none hl).symm ▸ hkc)⟩ ?p1
  walk_at "m_ends"
theorem cancel_c1 {w : World} {mean : ExcName → Option Value} {mg mb : Str → Option Value} {hb : Heap} {s : Shared} {A : Around} {a : Addr} {c : Nat} {kvs : List (Int × Int)} {V : Led} {k : Int} {tk : Tok}
   (B : Base (hd.heap_1 w.params) hd.view_1 LOOSE mean mg mb hb) (lo : Lo 1 A) (W : WhIs w a c kvs V) (hc : c ≤ 100) (H : Has hb s V) {τ : Int} (hl : look kvs k = some τ) :
   codeAny (model PR w) A (.call (.ref 775) ⟨[.ref a, .int k tk], []⟩) (Rets s V (fun v nf => v = .none ∧ WhIs w a c (less kvs k) nf)) s := by
  revert H
  refine WhIs.elim (G := fun V => Has hb s V → codeAny (model PR w) A _ (Rets s V _) s) W ?_
  intro da sl la en oen gv k0 k1 k2 k3 k4 k5 t0 t5 rv nsl nla SL TL kv er h16 hS hdi hlo hgv hE hkc H
  have hlen := hE.length
  dsimp only [whLed] at H ⊢
  obtain ⟨b, t, gg, u, n, hv, hb⟩ := hE.there hl
  refine' enter (binds := [(Str.ofString "self", .ref a), (Str.ofString "key", .int k tk)]) B H lo ?ho ?hcd ?hbind ?hloc ?h ?hcell ?hco ?hgen ?hk
  walk_at "m_enter"
  k_steps
  all_goals (try dsimp only)
  · refine' rets_end hRR hg2 (by assumption) (by assumption) (by assumption) ⟨rfl, WhIs.intro er h16 hS (by assumption) hlo hgv (hE.without k) (Nat.le_trans (less_le ..) hkc)⟩ ?p1
    walk_at "m_ends"
  · refine' rets_end hRR hg2 (by assumption) (by assumption) (by assumption) ⟨rfl, WhIs.intro (SL := l1 ++ (sb, listOf (List.toArray svs') sn') :: l2) (er.trans refs_set) (len_set h16) (hS.set (Nat.le_refl _) sI' (Nat.le_trans sL' sL)) (by assumption) hlo hgv (hE.without k) (Nat.le_trans (less_le ..) hkc)⟩ ?p2
    case p2 => ((try simp only [whLed, List.append_assoc, List.cons_append, List.nil_append]); (walk_at "m_takes"))
theorem cancel_c {w : World} {mean : ExcName → Option Value} {mg mb : Str → Option Value} {hb : Heap} {s : Shared} {A : Around} {a : Addr} {c : Nat} {kvs : List (Int × Int)} {V : Led} {k : Int} {tk : Tok}
   (B : Base (hd.heap_1 w.params) hd.view_1 LOOSE mean mg mb hb) (lo : Lo 1 A) (W : WhIs w a c kvs V) (hc : c ≤ 100) (H : Has hb s V) :
   codeAny (model PR w) A (.call (.ref 775) ⟨[.ref a, .int k tk], []⟩) (Rets s V (fun v nf => v = .none ∧ WhIs w a c (less kvs k) nf)) s := by
  cases hl : look kvs k with
  | none => exact cancel_c0 B lo W hc H hl
  | some τ => exact cancel_c1 B lo W hc H hl
end
end Mine
namespace Mine
open PySem PySem.W PySem.Spec PySem.Calls PyProof.Rows
section
theorem ln_Put_1 : True := by
 k_with_none
 k_with "m_enter" => ((
     case ho => k_is
     case hcd => k_is
     case hbind => first | exact BindsTo.of_eq rfl | exact binds_K (Frag.In.keeps (Base.X (by assumption)) (Has.stays (by assumption))) rfl (by k_is) rfl rfl rfl
     case hloc => exact locs rfl
     case hcell => decide
     case hco => exact rfl
     case hgen => exact rfl
     case hk => exact rfl
     intro RR hRR g L' h₁ A' lo' St hg1 hg2 F N D X T
     (try dsimp only [List.reverse, List.reverseAux, List.length] at *)))
 k_with "m_takes" => (first
     | exact Takes.nil
     | (refine' Takes.cons ?az047 ?bz047; (case az047 => walk_at "m_pull"); (case bz047 => walk_at "m_takes"))
     | (refine' Takes.app ?az047 ?bz047; (case az047 => walk_at "m_pullL"); (case bz047 => walk_at "m_takes"))
     | (refine' Takes.last ?az047; (case az047 => walk_at "m_pullL")))
 k_with "m_pull" => (first
     | exact Pull.head
     | (refine' Pull.tail ?az350; (case az350 => walk_at "m_pull"))
     | (refine' Pull.app ?az350; (case az350 => walk_at "m_pull")))
 k_with "m_pullL" => (first
     | exact PullL.head
     | exact PullL.whole
     | (refine' PullL.tail ?az531; (case az531 => walk_at "m_pullL"))
     | (refine' PullL.app ?az531; (case az531 => walk_at "m_pullL")))
 k_with "m_ends" => ((case p1 => ((try simp only [tcbLed]); (try simp only [whLed, List.append_assoc, List.cons_append, List.nil_append, List.append_nil]); (walk_at "m_takes"))))
 k_with "subscriptTail" => ((k_dflt (first
     | (refine' item_M (by assumption) ?hmz616 ?h0z616 ?hhiz616 ?hxz616 ?_ ?hsz616; (case hmz616 => k_mem); (case h0z616 => decide); (case hhiz616 => decide); (case hxz616 => exact rfl); (case hsz616 => with_unfolding_all rfl))
     | (refine' item_T (by assumption) ?hmz616 ?h0z616 ?hhiz616 ?hxz616 ?_ ?hsz616; (case hmz616 => k_mem); (case h0z616 => decide); (case hhiz616 => decide); (case hxz616 => exact rfl); (case hsz616 => with_unfolding_all rfl)))))
 k_with "m_updn" => (first | exact UpdN.head | (refine' UpdN.tail ?az058; (case az058 => walk_at "m_updn")) | (refine' UpdN.app ?az058; (case az058 => walk_at "m_updn")))
 k_with "m_updg" => (first | exact UpdG.head | (refine' UpdG.tail ?az984; (case az984 => walk_at "m_updg")) | (refine' UpdG.app ?az984; (case az984 => walk_at "m_updg")))
 k_with "k_upd" => (k_dflt (refine' upd_of ?Dz233 ?Uz233; (case Dz233 => assumption); (case Uz233 => walk_at "m_updn")))
 k_with "k_updF" => (k_dflt (refine' updF_of ?Dz235 ?Uz235; (case Dz235 => assumption); (case Uz235 => walk_at "m_updg")))
 k_with "k_mem" => (first | with_reducible exact List.mem_cons_self | (with_reducible exact List.mem_append_left _ (by assumption)) | (with_reducible refine' List.mem_cons_of_mem _ ?mmz799; (case mmz799 => k_mem)) | (with_reducible refine' List.mem_append_right _ ?mmz799; (case mmz799 => k_mem)) | with_reducible assumption)
 k_with "getMethod ref" => ((k_dflt (refine' method_inst ?k1z510 ?k2z510 ?k3z510 ?k4z510 ?k5z510 ?k6z510 ?k7z510 ?_; (case k1z510 => k_asm); (case k2z510 => k_asm); (case k3z510 => k_inst); (case k4z510 => k_is); (case k5z510 => k_is); (case k6z510 => k_is); (case k7z510 => k_get); k_whole)))
 k_with "getAttr ref" => ((k_dflt (refine' get_own ?k1z343 ?k2z343 ?k3z343 ?k4z343 ?k5z343 ?k6z343 ?k7z343 ?k8z343 ?k9z343 ?_; (case k1z343 => k_asm); (case k2z343 => k_asm); (case k3z343 => k_inst); (case k4z343 => k_is); (case k5z343 => k_is); (case k6z343 => k_is); (case k7z343 => k_is); (case k8z343 => k_get); (case k9z343 => k_handed); k_whole)))
 k_with "k_handed" => (assumption)
 k_with "k_units" => (first | exact Lo.line (by assumption) | exact Lo.line (Lo.in1 (by assumption)))
 k_with "k_room" => (exact Lo.room (by assumption))
 k_with "execs cons" => (((with_reducible show wpAny _ _ (execs (_ :: _) _) _ _ _); (k_dflt (refine execs_flat (s := s) ?_)); intro tkF))
 k_with "binaryOp Mod int int" => ((refine mod_g (by omega) ?_; intro r hr))
 k_with "subscriptTail" => ((k_dflt (refine' slot_item (by assumption) ?hm ?er ?hl ?hS ?h0 ?_ ?hs; (case hm => k_mem); (case er => assumption); (case hl => assumption); (case hS => assumption); (case h0 => omega); (case hs => with_unfolding_all rfl)); intro l1 l2 sb svs sns sn eSL sI sL; subst eSL; (rename News _ _ _ _ => nN); (rename (adrs _).Nodup => nD); simp only [List.append_assoc, List.cons_append] at nN nD))
 trivial
theorem list_of_c {w : World} {mean : ExcName → Option Value} {mg mb : Str → Option Value} {hb : Heap} {s : Shared} {A : Around} {a da sl la en : Addr} {oen : Obj} {gv : Int} {k0 k1 k2 k3 k4 k5 t0 t5 : Tok} {rv : List Value} {nsl nla c : Nat} {SL TL : Led} {τ : Int} {tk : Tok}
   (B : Base (hd.heap_1 w.params) hd.view_1 LOOSE mean mg mb hb) (lo : Lo 1 A) (er : rv = refs SL) (h16 : SL.length = 16) (hS : Slots c SL) (H : Has hb s (whLed w a da sl la en oen gv k0 k1 k2 k3 k4 k5 t0 t5 rv nsl nla SL TL)) :
   codeAny (model PR w) A (.call (.ref 768) ⟨[.ref a, .int τ tk], []⟩) (Rets s (whLed w a da sl la en oen gv k0 k1 k2 k3 k4 k5 t0 t5 rv nsl nla SL TL) (fun v nf => ∃ l1 l2 sb svs sns sn, SL = l1 ++ (sb, listOf (List.toArray svs) sn) :: l2 ∧ IntsAre svs sns ∧ svs.length ≤ c ∧ v = .ref sb ∧
     nf = whLed w a da sl la en oen gv k0 k1 k2 k3 k4 k5 t0 t5 rv nsl nla (l1 ++ (sb, listOf (List.toArray svs) sn) :: l2) TL)) s := by
  dsimp only [whLed] at H ⊢
  refine' enter (binds := [(Str.ofString "self", .ref a), (Str.ofString "time", .int τ tk)]) B H lo ?ho ?hcd ?hbind ?hloc ?h ?hcell ?hco ?hgen ?hk
  walk_at "m_enter"
  k_steps

  all_goals (try dsimp only)
  refine' rets_end hRR hg2 (by assumption) (by assumption) (by assumption) ⟨l1, l2, sb, svs, sns, sn, rfl, sI, sL, rfl, rfl⟩ ?p1
  walk_at "m_ends"
theorem ln_Put_2 : True := by
 k_with "call ref" => (((with_reducible show wpAny _ _ (call (Value.ref 775) [_, _]) _ _ _); (k_dflt (refine' use_call (by assumption) (by assumption) (by assumption) (by assumption) ?P (fun H => cancel_c B (Lo.mono (by assumption) (by decide)) (by assumption) ?hc H) ?_; (case P => walk_at "m_takes"); (case hc => omega))); (try clear DN); (refine elim1 ?_; intro nfN WN hN tkN FN NN DN); (obtain ⟨da, sl, la, en, oen, gv, k0, k1, k2, k3, k4, k5, t0, t5, rv, nsl, nla, SL, TL, kv, rfl, er, h16, hS, hdi, hlo, hgv, hE, hkc⟩ := WN); (have hlen := hE.length); (dsimp only [whLed] at NN DN); (simp only [List.append_nil, List.append_assoc, List.cons_append] at NN DN); (try k_sweep)))
 k_with "call ref" => (((with_reducible show wpAny _ _ (call (Value.ref 768) [_, _]) _ _ _); (k_dflt (refine' use_call (by assumption) (by assumption) (by assumption) (by assumption) ?P (fun H => list_of_c B (Lo.mono (by assumption) (by decide)) er h16 hS H) ?_; (case P => walk_at "m_takes"))); (try clear DN); (rintro vN nfN ⟨l1, l2, sb, svs, sns, sn, eSL, sI, sL, rfl, rfl⟩ hM tkM FN NN DN); (subst eSL); (dsimp only [whLed] at NN DN); (simp only [List.append_assoc, List.cons_append, List.nil_append, List.append_nil] at NN DN); (try k_sweep)))
 k_with "setItem ref int" => ((k_dflt (refine' kda_set (knd := PySem.intKind _ _) ?F ?N ?U ?d (intKind_is _ _ _ _) ?z ?_; (case F => k_asm); (case N => k_asm); (case U => k_updF); (case d => k_asm); (case z => (rw [sizeLine_eq]; omega))); intro h' o' F' N' hdi'; (try dsimp only at N'); (try k_sweep)))
 k_with "call builtin:list.append" => ((k_dflt (refine' Mine.list_append ?F ?N ?D ?U ?z ?_; (case F => assumption); (case N => assumption); (case D => assumption); (case U => walk_at "m_updg"); (case z => omega)); intro h' sn' F' N' Dn; (try dsimp only at N' Dn); (try k_sweep)))
 trivial
theorem put_c {w : World} {mean : ExcName → Option Value} {mg mb : Str → Option Value} {hb : Heap} {s : Shared} {A : Around} {a : Addr} {c : Nat} {kvs : List (Int × Int)} {V : Led} {k τ : Int} {tk tt : Tok}
   (B : Base (hd.heap_1 w.params) hd.view_1 LOOSE mean mg mb hb) (lo : Lo 2 A) (W : WhIs w a c kvs V) (hc : c ≤ 50) (H : Has hb s V) :
   codeAny (model PR w) A (.call (.ref 761) ⟨[.ref a, .int k tk, .int τ tt], []⟩) (Rets s V (fun v nf => v = .none ∧ WhIs w a (c + 1) (less kvs k ++ [(k, τ)]) nf)) s := by
  obtain ⟨da', sl', la', en', g', k0', k1', k2', k3', k4', k5', t0', t5', hi1, hi2⟩ := W.inst
  refine' enter (binds := [(Str.ofString "self", .ref a), (Str.ofString "key", .int k tk), (Str.ofString "time", .int τ tt)]) B H lo ?ho ?hcd ?hbind ?hloc ?h ?hcell ?hco ?hgen ?hk
  walk_at "m_enter"
  k_steps
  all_goals (try dsimp only)
  have hn := hE.miss (look_less kvs k)
  rw [stored_new hn] at hdi'
  refine' rets_end hRR hg2 (by assumption) (by assumption) (by assumption) ⟨rfl, WhIs.intro (g := gv + 1) (SL := l1 ++ (sb, listOf (List.toArray (svs ++ [Value.int k _])) sn') :: l2) (TL := (_, tupOf [.int τ tt, .int (gv + 1) _] 0) :: TL) (er.trans refs_set) (len_set h16) (hS.set (Nat.le_succ _) (IntsAre.append sI (.cons k _ .nil)) (by simp; omega)) hdi' hlo (by constructor <;> omega) ((hE.mono fun q hq => List.mem_cons_of_mem _ hq).app (List.mem_cons_self ..)) (by simp; omega)⟩ ?p1
  walk_at "m_ends"
end
end Mine
namespace Mine
open PySem PySem.W PySem.Spec PySem.Calls PyProof.Rows
section
theorem ln_TimeOf_1 : True := by
 k_with_none
 k_with "m_enter" => ((
     case ho => k_is
     case hcd => k_is
     case hbind => first | exact BindsTo.of_eq rfl | exact binds_K (Frag.In.keeps (Base.X (by assumption)) (Has.stays (by assumption))) rfl (by k_is) rfl rfl rfl
     case hloc => exact locs rfl
     case hcell => decide
     case hco => exact rfl
     case hgen => exact rfl
     case hk => exact rfl
     intro RR hRR g L' h₁ A' lo' St hg1 hg2 F N D X T
     (try dsimp only [List.reverse, List.reverseAux, List.length] at *)))
 k_with "m_takes" => (first
     | exact Takes.nil
     | (refine' Takes.cons ?az047 ?bz047; (case az047 => walk_at "m_pull"); (case bz047 => walk_at "m_takes"))
     | (refine' Takes.app ?az047 ?bz047; (case az047 => walk_at "m_pullL"); (case bz047 => walk_at "m_takes"))
     | (refine' Takes.last ?az047; (case az047 => walk_at "m_pullL")))
 k_with "m_pull" => (first
     | exact Pull.head
     | (refine' Pull.tail ?az350; (case az350 => walk_at "m_pull"))
     | (refine' Pull.app ?az350; (case az350 => walk_at "m_pull")))
 k_with "m_pullL" => (first
     | exact PullL.head
     | exact PullL.whole
     | (refine' PullL.tail ?az531; (case az531 => walk_at "m_pullL"))
     | (refine' PullL.app ?az531; (case az531 => walk_at "m_pullL")))
 k_with "m_ends" => ((case p1 => ((try simp only [tcbLed]); (try simp only [whLed, List.append_assoc, List.cons_append, List.nil_append, List.append_nil]); (walk_at "m_takes"))))
 k_with "subscriptTail" => ((k_dflt (first
     | (refine' item_M (by assumption) ?hmz616 ?h0z616 ?hhiz616 ?hxz616 ?_ ?hsz616; (case hmz616 => k_mem); (case h0z616 => decide); (case hhiz616 => decide); (case hxz616 => exact rfl); (case hsz616 => with_unfolding_all rfl))
     | (refine' item_T (by assumption) ?hmz616 ?h0z616 ?hhiz616 ?hxz616 ?_ ?hsz616; (case hmz616 => k_mem); (case h0z616 => decide); (case hhiz616 => decide); (case hxz616 => exact rfl); (case hsz616 => with_unfolding_all rfl)))))
 k_with "m_updn" => (first | exact UpdN.head | (refine' UpdN.tail ?az058; (case az058 => walk_at "m_updn")) | (refine' UpdN.app ?az058; (case az058 => walk_at "m_updn")))
 k_with "m_updg" => (first | exact UpdG.head | (refine' UpdG.tail ?az984; (case az984 => walk_at "m_updg")) | (refine' UpdG.app ?az984; (case az984 => walk_at "m_updg")))
 k_with "k_upd" => (k_dflt (refine' upd_of ?Dz233 ?Uz233; (case Dz233 => assumption); (case Uz233 => walk_at "m_updn")))
 k_with "k_updF" => (k_dflt (refine' updF_of ?Dz235 ?Uz235; (case Dz235 => assumption); (case Uz235 => walk_at "m_updg")))
 k_with "k_mem" => (first | with_reducible exact List.mem_cons_self | (with_reducible exact List.mem_append_left _ (by assumption)) | (with_reducible refine' List.mem_cons_of_mem _ ?mmz799; (case mmz799 => k_mem)) | (with_reducible refine' List.mem_append_right _ ?mmz799; (case mmz799 => k_mem)) | with_reducible assumption)
 k_with "getAttr ref" => ((k_dflt (refine' get_own ?k1z343 ?k2z343 ?k3z343 ?k4z343 ?k5z343 ?k6z343 ?k7z343 ?k8z343 ?k9z343 ?_; (case k1z343 => k_asm); (case k2z343 => k_asm); (case k3z343 => k_inst); (case k4z343 => k_is); (case k5z343 => k_is); (case k6z343 => k_is); (case k7z343 => k_is); (case k8z343 => k_get); (case k9z343 => k_handed); k_whole)))
 k_with "k_handed" => (assumption)
 k_with "k_units" => (first | exact Lo.line (by assumption) | exact Lo.line (Lo.in1 (by assumption)))
 k_with "k_room" => (exact Lo.room (by assumption))
 k_with "execs cons" => (((with_reducible show wpAny _ _ (execs (_ :: _) _) _ _ _); (k_dflt (refine execs_flat (s := s) ?_)); intro tkF))
 k_with "compareOp In int ref" => ((k_dflt (first
     | refine kda_in (knd := PySem.intKind _ _) (by k_asm) (by k_mem) (by k_asm) (by k_asm) (intKind_is _ _ _ _) true (by simp only [*]; rfl) ?_
     | refine kda_in (knd := PySem.intKind _ _) (by k_asm) (by k_mem) (by k_asm) (by k_asm) (intKind_is _ _ _ _) false (by simp only [*]; rfl) ?_)))
 k_with "getItem ref int" => ((k_dflt (refine dict_item (knd := PySem.intKind _ _) (by k_asm) (by k_mem) (by k_asm) (intKind_is _ _ _ _) (by assumption) ?_)))
 trivial
theorem time_of_c {w : World} {mean : ExcName → Option Value} {mg mb : Str → Option Value} {hb : Heap} {s : Shared} {A : Around} {a : Addr} {c : Nat} {kvs : List (Int × Int)} {V : Led} {k : Int} {tk : Tok}
   (B : Base (hd.heap_1 w.params) hd.view_1 LOOSE mean mg mb hb) (lo : Lo 1 A) (W : WhIs w a c kvs V) (H : Has hb s V) :
   codeAny (model PR w) A (.call (.ref 782) ⟨[.ref a, .int k tk], []⟩) (Rets s V (fun v nf => (∃ t, v = ov (look kvs k) t) ∧ nf = V)) s := by
  revert H
  refine WhIs.elim (G := fun V => Has hb s V → codeAny (model PR w) A _ (Rets s V (fun v nf => (∃ t, v = ov (look kvs k) t) ∧ nf = V)) s) W ?_
  intro da sl la en oen gv k0 k1 k2 k3 k4 k5 t0 t5 rv nsl nla SL TL kv er h16 hS hdi hlo hgv hE hkc H
  dsimp only [whLed] at H ⊢
  have hd2 : valueAt kv k = none ∧ look kvs k = none ∨ ∃ τ b t g u n, look kvs k = some τ ∧ valueAt kv k = some (.ref b) ∧ (b, tupOf [.int τ t, .int g u] n) ∈ TL := by
    cases hl : look kvs k with
    | none => exact .inl ⟨hE.miss hl, rfl⟩
    | some τ => obtain ⟨b, t, g, u, n, h1, h2⟩ := hE.there hl; exact .inr ⟨τ, b, t, g, u, n, rfl, h1, h2⟩
  refine' enter (binds := [(Str.ofString "self", .ref a), (Str.ofString "key", .int k tk)]) B H lo ?ho ?hcd ?hbind ?hloc ?h ?hcell ?hco ?hgen ?hk
  walk_at "m_enter"
  rcases hd2 with ⟨hv, hl⟩ | ⟨τ, b, t, gg, u, n, hl, hv, hb⟩
  all_goals k_steps
  all_goals (try dsimp only)
  · refine' rets_end hRR hg2 (by assumption) (by assumption) (by assumption) ⟨⟨0, by rw [hl]; rfl⟩, rfl⟩ ?p1
    walk_at "m_ends"
  · refine' rets_end hRR hg2 (by assumption) (by assumption) (by assumption) ⟨⟨_, by rw [hl]; rfl⟩, rfl⟩ ?p2
    case p2 => ((try simp only [whLed, List.append_assoc, List.cons_append, List.nil_append]); (walk_at "m_takes"))
end
end Mine
namespace Mine
open PySem PySem.W PySem.Spec PySem.Calls PyProof.Rows
section
theorem ln_NextT_1 : True := by
 k_with_none
 k_with "m_updn" => (first | exact UpdN.head | (refine' UpdN.tail ?az058; (case az058 => walk_at "m_updn")) | (refine' UpdN.app ?az058; (case az058 => walk_at "m_updn")))
 k_with "m_updg" => (first | exact UpdG.head | (refine' UpdG.tail ?az984; (case az984 => walk_at "m_updg")) | (refine' UpdG.app ?az984; (case az984 => walk_at "m_updg")))
 k_with "k_upd" => (k_dflt (refine' upd_of ?Dz233 ?Uz233; (case Dz233 => assumption); (case Uz233 => walk_at "m_updn")))
 k_with "k_updF" => (k_dflt (refine' updF_of ?Dz235 ?Uz235; (case Dz235 => assumption); (case Uz235 => walk_at "m_updg")))
 k_with "k_mem" => (first | with_reducible exact List.mem_cons_self | (with_reducible exact List.mem_append_left _ (by assumption)) | (with_reducible refine' List.mem_cons_of_mem _ ?mmz799; (case mmz799 => k_mem)) | (with_reducible refine' List.mem_append_right _ ?mmz799; (case mmz799 => k_mem)) | with_reducible assumption)
 k_with "getAttr ref" => ((k_dflt (refine' get_own ?k1z343 ?k2z343 ?k3z343 ?k4z343 ?k5z343 ?k6z343 ?k7z343 ?k8z343 ?k9z343 ?_; (case k1z343 => k_asm); (case k2z343 => k_asm); (case k3z343 => k_inst); (case k4z343 => k_is); (case k5z343 => k_is); (case k6z343 => k_is); (case k7z343 => k_is); (case k8z343 => k_get); (case k9z343 => k_handed); k_whole)))
 k_with "k_handed" => (assumption)
 k_with "k_units" => (first | exact Lo.line (by assumption) | exact Lo.line (Lo.in1 (by assumption)))
 k_with "k_room" => (exact Lo.room (by assumption))
 k_with "m_enterC" => ((
     case ho => k_is
     case hcd => k_is
     case hbind => first | exact BindsTo.of_eq rfl | exact binds_K (Frag.In.keeps (Base.X (by assumption)) (Has.stays (by assumption))) rfl (by k_is) rfl rfl rfl
     case hkind => exact rfl
     case hnd => decide +kernel
     case hco => exact rfl
     case hgen => exact rfl
     case hk => exact rfl
     intro RR hRR g L' h₁ A' tkc cells lo' St hg1 hg2 F N D Y X T
     k_cells Y
     (simp only [List.cons_append, List.nil_append] at N D)
     (try dsimp only)))
 k_with "m_lcDA" => (k_dflt (refine' lcD_assign (knd := PySem.intKind _ _) ?F ?l ?w ?a ?b ?c ?d ?e ?y ?p ?_ ?s; (case F => k_asm); (case l => rfl); (case w => with_unfolding_all rfl); (case a => with_unfolding_all rfl); (case b => decide); (case c => rfl); (case d => decide); (case e => rfl); (case y => rfl); (case p => rfl); (case s => (intro _; rfl))))
 k_with "m_srcD" => (k_dflt (refine' ⟨_, _, _, _, rfl, Lo.handled (by assumption), by k_asm, by k_asm, ?m, ?hd, ?lo, ?sz, ?_⟩; (case m => k_mem); (case hd => assumption); (case lo => assumption); (case sz => (rw [sizeLine_eq]; omega)); rintro s₂ ⟨gH, rfl⟩))
 k_with "m_compEnd" => (k_dflt (refine' LCg.CompEnd.intro (by assumption) (by assumption) _ ?subz628 (by assumption) ?hSz628 ?_; (case subz628 => exact fun _ hp => hp); (case hSz628 => k_mem)))
 k_with "m_itemT" => ((k_dflt (refine' item_T (by assumption) ?hmz604 ?h0z604 ?hhiz604 ?hxz604 ?_ ?hsz604; (case hmz604 => k_mem); (case h0z604 => decide); (case hhiz604 => decide); (case hxz604 => exact rfl); (case hsz604 => with_unfolding_all rfl))))
 k_with "m_dictTail" => ((k_dflt (refine' kdt_tail (knd := PySem.intKind _ _) ?Nz296 ?mz296 ?dz296 ?_ ?hsz296; (case Nz296 => k_asm); (case mz296 => k_mem); (case dz296 => assumption); (case hsz296 => with_unfolding_all rfl))))
 k_with "m_sub" => ((intro q hq; repeat (first | exact hq | refine List.mem_cons_of_mem _ ?_)))
 k_with "FinA" => (((k_dflt (intro D' h' tk' F' N' o1')); (k_dflt (have Dn := nd_off (by assumption) o1')); (try k_sweep)))
 k_with "execs cons" => (((with_reducible show wpAny _ _ (execs (_ :: _) _) _ _ _); (k_dflt (refine execs_flat (s := s) ?_)); intro tkF))
 k_with "compareOp In int ref" => ((k_dflt (first
     | refine kda_in (knd := PySem.intKind _ _) (by k_asm) (by k_mem) (by k_asm) (by k_asm) (intKind_is _ _ _ _) true (by simp only [*]; rfl) ?_
     | refine kda_in (knd := PySem.intKind _ _) (by k_asm) (by k_mem) (by k_asm) (by k_asm) (intKind_is _ _ _ _) false (by simp only [*]; rfl) ?_)))
 k_with "getItem ref int" => ((k_dflt (refine dict_item (knd := PySem.intKind _ _) (by k_asm) (by k_mem) (by k_asm) (intKind_is _ _ _ _) (by assumption) ?_)))
 k_with "exec Assign cons ListComp" => (walk_at "m_lcDA")
 k_with "CompEnd" => ((walk_at "m_compEnd"))
 k_with "SrcD" => (((walk_at "m_srcD"); (refine' lc_turns (fun i ys l => l = _ ∧ IntsM ys ((kvs.take i).map Prod.snd)) ⟨rfl, IntsAre.nil⟩ (fun i v ys l I oI C oC D2 m₂ h tk E' hi hv hW hoC hx F' N' off ne => ?_) (fun ys l hW => ?_)); (all_goals (first
     | (obtain ⟨rfl, hYi⟩ := hW; obtain ⟨kk, yy, hkk, hkey⟩ := hv; obtain ⟨tkk, rfl⟩ := Value.isInt_shape hkey; obtain ⟨τ, b, t, gg, u, n, rfl, hka, htm⟩ := hE.at hkk; have hva := valueAt_at (keysNodup_of_isDictOf hdi) hkk)
     | (obtain ⟨rfl, hYs⟩ := hW; have hY := hYs.all (by omega))))))
 k_with "subscriptTail Attribute Name Name ref int" => ((walk_at "m_dictTail"))
 k_with "subscriptTail Subscript" => ((walk_at "m_itemT"))
 k_with "And" => (exact ⟨rfl, IntsM.snoc (by assumption) (by assumption)⟩)
 k_with "compareOp NotEq ref ref" => ((k_dflt (refine' ne_nil (by assumption) (by assumption) ?m1z437 (by assumption) ?m2z437 ?_ ?_; (case m1z437 => k_mem); (case m2z437 => k_mem); all_goals (intro hne))))
 k_with "call builtin:min" => ((k_dflt (refine' min_M (by assumption) (by assumption) (by assumption) ?m (by assumption) ?n ?_; (case m => k_mem); (case n => assumption)); intro h' M t' tk' F' N' hM; (try k_sweep)))
 trivial
theorem next_time_c {w : World} {mean : ExcName → Option Value} {mg mb : Str → Option Value} {hb : Heap} {s : Shared} {A : Around} {a : Addr} {c : Nat} {kvs : List (Int × Int)} {V : Led}
   (B : Base (hd.heap_1 w.params) hd.view_1 LOOSE mean mg mb hb) (lo : Lo 1 A) (W : WhIs w a c kvs V) (hc : c ≤ 100) (H : Has hb s V) :
   codeAny (model PR w) A (.call (.ref 787) ⟨[.ref a], []⟩) (Rets s V (fun v nf => (∃ t, v = ov ((kvs.map Prod.snd).min?) t) ∧ nf = V)) s := by
  revert H
  refine WhIs.elim (G := fun V => Has hb s V → codeAny (model PR w) A _ (Rets s V (fun v nf => (∃ t, v = ov ((kvs.map Prod.snd).min?) t) ∧ nf = V)) s) W ?_
  intro da sl la en oen gv k0 k1 k2 k3 k4 k5 t0 t5 rv nsl nla SL TL kv er h16 hS hdi hlo hgv hE hkc H
  have hlen := hE.length
  dsimp only [whLed] at H ⊢
  refine' enterC (binds := [(Str.ofString "self", .ref a)]) B H lo ?ho ?hcd ?hbind ?hkind ?hnd ?h ?hco ?hgen ?hk
  walk_at "m_enterC"
  k_steps
  all_goals (try dsimp only)
  all_goals refine' rets_same hRR hg2 (by assumption) (by assumption) ⟨?_, rfl⟩ (List.nodup_cons.mp D).2 (by walk_at "m_sub")
  · exact ⟨0, by rw [‹List.map Prod.snd kvs = []›]; rfl⟩
  · exact ⟨_, by rw [hM]; rfl⟩
end
end Mine
namespace Mine
open PySem PySem.W PySem.Spec PySem.Calls PyProof.Rows
section
theorem ln_WheelI_1 : True := by
 k_with_none
 k_with "m_enter" => ((
     case ho => k_is
     case hcd => k_is
     case hbind => first | exact BindsTo.of_eq rfl | exact binds_K (Frag.In.keeps (Base.X (by assumption)) (Has.stays (by assumption))) rfl (by k_is) rfl rfl rfl
     case hloc => exact locs rfl
     case hcell => decide
     case hco => exact rfl
     case hgen => exact rfl
     case hk => exact rfl
     intro RR hRR g L' h₁ A' lo' St hg1 hg2 F N D X T
     (try dsimp only [List.reverse, List.reverseAux, List.length] at *)))
 k_with "m_takes" => (first
     | exact Takes.nil
     | (refine' Takes.cons ?az047 ?bz047; (case az047 => walk_at "m_pull"); (case bz047 => walk_at "m_takes"))
     | (refine' Takes.app ?az047 ?bz047; (case az047 => walk_at "m_pullL"); (case bz047 => walk_at "m_takes"))
     | (refine' Takes.last ?az047; (case az047 => walk_at "m_pullL")))
 k_with "m_pull" => (first
     | exact Pull.head
     | (refine' Pull.tail ?az350; (case az350 => walk_at "m_pull"))
     | (refine' Pull.app ?az350; (case az350 => walk_at "m_pull")))
 k_with "m_pullL" => (first
     | exact PullL.head
     | exact PullL.whole
     | (refine' PullL.tail ?az531; (case az531 => walk_at "m_pullL"))
     | (refine' PullL.app ?az531; (case az531 => walk_at "m_pullL")))
 k_with "m_ends" => ((case p1 => ((try simp only [tcbLed]); (try simp only [whLed, List.append_assoc, List.cons_append, List.nil_append, List.append_nil]); (walk_at "m_takes"))))
 k_with "m_updn" => (first | exact UpdN.head | (refine' UpdN.tail ?az058; (case az058 => walk_at "m_updn")) | (refine' UpdN.app ?az058; (case az058 => walk_at "m_updn")))
 k_with "m_updg" => (first | exact UpdG.head | (refine' UpdG.tail ?az984; (case az984 => walk_at "m_updg")) | (refine' UpdG.app ?az984; (case az984 => walk_at "m_updg")))
 k_with "k_upd" => (k_dflt (refine' upd_of ?Dz233 ?Uz233; (case Dz233 => assumption); (case Uz233 => walk_at "m_updn")))
 k_with "k_updF" => (k_dflt (refine' updF_of ?Dz235 ?Uz235; (case Dz235 => assumption); (case Uz235 => walk_at "m_updg")))
 k_with "k_mem" => (first | with_reducible exact List.mem_cons_self | (with_reducible exact List.mem_append_left _ (by assumption)) | (with_reducible refine' List.mem_cons_of_mem _ ?mmz799; (case mmz799 => k_mem)) | (with_reducible refine' List.mem_append_right _ ?mmz799; (case mmz799 => k_mem)) | with_reducible assumption)
 k_with "k_handed" => (assumption)
 k_with "k_units" => (first | exact Lo.line (by assumption) | exact Lo.line (Lo.in1 (by assumption)))
 k_with "k_room" => (exact Lo.room (by assumption))
 k_with "FinE" => (((k_dflt (intro D' h' tk' F' N' o1')); (k_dflt (have Dn := nd_off (by assumption) o1')); (try k_sweep)))
 k_with "execs cons" => (((with_reducible show wpAny _ _ (execs (_ :: _) _) _ _ _); (k_dflt (refine execs_flat (s := s) ?_)); intro tkF))
 k_with "eval ListComp" => ((k_dflt (refine LCg.ListComp_U (F₀ := by k_asm) (by with_unfolding_all rfl) (by decide) (by rfl) (by decide) (by rfl) ?_)))
 k_with "CompSrc" => (((k_dflt (refine LCg.CompSrc.range (n := 16) (Lo.handled (by assumption)) (by k_asm) (by k_asm) (by assumption) (by decide) (by rfl) (by rw [sizeLine_eq]; decide) ?_)); (intro gH); (refine' lc_turns (fun i ys l => ∃ SL, l = _ ++ SL ∧ ys = refs SL ∧ SL.length = i ∧ Slots 0 SL ∧ (adrs l).Nodup) ⟨[], (List.append_nil _).symm, rfl, rfl, (fun q hq => nomatch hq), by assumption⟩ (fun i v ys l I oI C oC D2 m₂ h tk E' hi hv hW hoC hx F' N' off ne => ?_) (fun ys l hW => ?_)); (all_goals (obtain ⟨SL, rfl, rfl, hSLn, hS, DS⟩ := hW))))
 k_with "CompEnd" => (((rename (_ < _ ∧ _ < _ ∧ _ < _ ∧ AllLt _ _) => hlt); (k_dflt (refine LCg.CompEnd.intro (by assumption) (by assumption) (_ ++ (SL ++ [(_, listOf #[] 0)])) sub_new (off3_mid off hlt.1 hlt.2.1 hlt.2.2.1) trivial ⟨_, rfl, refs_more, by simp [hSLn], hS.more, nd_mid DS hlt.2.2.2⟩))))
 k_with "FinE" => (((k_dflt (intro D' h' tk' F' N' o1')); (k_dflt (have Dn := nd_off (by assumption) o1')); (simp only [List.cons_append, List.nil_append] at N' Dn); (try k_sweep)))
 trivial
theorem wheelI {w : World} {mean : ExcName → Option Value} {mg mb : Str → Option Value} {hb : Heap} {s : Shared} {A : Around} {x dx : Addr}
   (B : Base (hd.heap_1 w.params) hd.view_1 LOOSE mean mg mb hb) (lo : Lo 1 A) (H : Has hb s [(x, instObj 802 dx), (dx, dictOf [] 0)]) :
   codeAny (model PR w) A (.call (.ref 754) ⟨[.ref x], []⟩) (Rets s [(x, instObj 802 dx), (dx, dictOf [] 0)] (fun v nf => v = .none ∧ WhIs w x 0 [] nf)) s := by
  refine' enter (binds := [(Str.ofString "self", .ref x), (Str.ofString "size", .int 16 1201)]) B H lo ?ho ?hcd ?hbind ?hloc ?h ?hcell ?hco ?hgen ?hk
  walk_at "m_enter"
  k_steps
  all_goals (try dsimp only)
  refine' rets_end hRR hg2 (by assumption) (by assumption) (by assumption) ⟨rfl, WhIs.intro (g := 0) (SL := SL) (TL := []) (kv := []) rfl hSLn hS (by assumption) (by assumption) (by decide) .nil (Nat.zero_le _)⟩ ?p1
  walk_at "m_ends"
end
end Mine
namespace Mine
open PySem PySem.W PySem.Spec PySem.Calls PyProof.Rows
inductive LimObj (w : World) (o : Obj) : Prop
  | mk (k0 k1 k2 k3 k4 k5 k6 k7 k8 k9 t0 t1 t2 t3 t4 t5 t6 t7 t8 t9 : Tok) (e0 : o = dictOf [ent w.params "ring" k0 (.int 256 t0), ent w.params "mss" k1 (.int 4 t1), ent w.params "send_room" k2 (.int 16 t2), ent w.params "receive_room" k3 (.int 16 t3), ent w.params "first_timeout" k4 (.int 6 t4), ent w.params "least_timeout" k5 (.int 4 t5), ent w.params "most_timeout" k6 (.int 24 t6), ent w.params "most_tries" k7 (.int 3 t7), ent w.params "ack_delay" k8 (.int 2 t8), ent w.params "time_wait" k9 (.int 12 t9)] 10) : LimObj w o
inductive SndObj (w : World) (o : Obj) : Prop
  | mk (k0 k1 k2 k3 k4 k5 k6 k7 k8 k9 k10 t4 : Tok) (v0 v1 v2 v3 v5 v6 v7 v8 v9 v10 : Value) (e0 : o = dictOf [ent w.params "iss" k0 v0, ent w.params "ring" k1 v1, ent w.params "mss" k2 v2, ent w.params "una" k3 v3, ent w.params "next" k4 (.int 9 t4), ent w.params "greatest" k5 v5, ent w.params "peer" k6 v6, ent w.params "queue" k7 v7, ent w.params "syn_pending" k8 v8, ent w.params "fin_asked" k9 v9, ent w.params "fin_sent" k10 v10] 11) : SndObj w o
inductive AckObj (w : World) (due : Value) (o : Obj) : Prop
  | mk (k0 k1 k2 k3 t0 t1 : Tok) (v1 : Int) (v3 : Bool) (e0 : o = dictOf [ent w.params "delay" k0 (.int 2 t0), ent w.params "waiting" k1 (.int v1 t1), ent w.params "due" k2 due, ent w.params "has_gap" k3 (.bool v3)] 4) (e1 : (0 ≤ v1 ∧ v1 ≤ 2)) (e2 : handedIn due = true) : AckObj w due o
inductive TcbObj (w : World) (lim loc rem snd ac wh : Addr) (S : Str) (ev rv : Value) (o : Obj) : Prop
  | mk (k0 k1 k2 k3 k4 k5 k6 k7 k8 k9 k10 k11 k12 k13 tS : Tok) (v6 v7 v11 v12 v13 : Value) (e0 : o = dictOf [ent w.params "limits" k0 (.ref lim), ent w.params "local" k1 (.ref loc), ent w.params "remote" k2 (.ref rem), ent w.params "state" k3 (.str S tS), ent w.params "sender" k4 (.ref snd), ent w.params "receiver" k5 rv, ent w.params "clock" k6 v6, ent w.params "congestion" k7 v7, ent w.params "acks" k8 (.ref ac), ent w.params "wheel" k9 (.ref wh), ent w.params "error" k10 ev, ent w.params "probes" k11 v11, ent w.params "unanswered" k12 v12, ent w.params "is_nagle" k13 v13] 14) (e1 : handedIn ev = true) (e2 : handedIn rv = true) : TcbObj w lim loc rem snd ac wh S ev rv o
abbrev baOf : Obj := { cls := .type "bytearray", data := .bytearray #[] 0 }
inductive RecObj (w : World) (nx : Int) (ba : Addr) (o : Obj) : Prop
  | mk (k0 k1 k2 k3 k4 k5 k6 k7 k8 k9 t0 t1 t2 t3 t6 : Tok) (v5 v7 v9 : Value) (e0 : o = dictOf [ent w.params "ring" k0 (.int 256 t0), ent w.params "room" k1 (.int 16 t1), ent w.params "mss" k2 (.int 4 t2), ent w.params "next" k3 (.int nx t3), ent w.params "ready" k4 (.ref ba), ent w.params "assembly" k5 v5, ent w.params "told_edge" k6 (.int (nx + 16) t6), ent w.params "fin_at" k7 v7, ent w.params "has_fin" k8 (.bool false), ent w.params "urgent_at" k9 v9] 10) : RecObj w nx ba o
def RecIs (w : World) (rv : Value) (ro : Option Int) (RL : Led) : Prop := match ro with
  | none => rv = .none ∧ RL = []
  | some nx => (0 ≤ nx ∧ nx < 200) ∧ ∃ r dr ba od, rv = .ref r ∧ RecObj w nx ba od ∧ RL = [(r, instObj 1117 dr), (dr, od), (ba, baOf)]
abbrev tcbLed (t dt : Addr) (odt : Obj) (lim dlim : Addr) (odl : Obj) (loc rem : Addr) (l1 l2 : List Value) (n1 n2 : Nat) (snd dsnd : Addr) (ods : Obj) (ac dac : Addr) (oda : Obj) (RL WL : Led) : Led :=
  (t, instObj 866 dt) :: (dt, odt) :: (lim, instObj 823 dlim) :: (dlim, odl) :: (loc, tupOf l1 n1) :: (rem, tupOf l2 n2) :: (snd, instObj 652 dsnd) :: (dsnd, ods) :: (ac, instObj 118 dac) :: (dac, oda) :: (RL ++ WL)
inductive TcbIs (w : World) (t : Addr) (S : Str) (ev due : Value) (ro : Option Int) (c : Nat) (kvs : List (Int × Int)) (V : Led) : Prop
  | mk (dt : Addr) (odt : Obj) (lim dlim : Addr) (odl : Obj) (loc rem : Addr) (v1 v2 : Value) (tl tr : Tok) (n1 n2 : Nat) (snd dsnd : Addr) (ods : Obj) (ac dac : Addr) (oda : Obj) (RL WL : Led) (wh : Addr) (rv : Value) (e0 : V = tcbLed t dt odt lim dlim odl loc rem [v1, .int 10 tl] [v2, .int 20 tr] n1 n2 snd dsnd ods ac dac oda RL WL) (e1 : TcbObj w lim loc rem snd ac wh S ev rv odt) (e2 : LimObj w odl) (e3 : SndObj w ods) (e4 : AckObj w due oda) (e5 : RecIs w rv ro RL) (e6 : WhIs w wh c kvs WL) : TcbIs w t S ev due ro c kvs V
theorem TcbIs.intro {w : World} {t : Addr} {S : Str} {ev due : Value} {ro : Option Int} {c : Nat} {kvs : List (Int × Int)} {dt : Addr} {odt : Obj} {lim dlim : Addr} {odl : Obj} {loc rem : Addr} {v1 v2 : Value} {tl tr : Tok} {n1 n2 : Nat} {snd dsnd : Addr} {ods : Obj} {ac dac : Addr} {oda : Obj} {RL WL : Led} {wh : Addr} {rv : Value}
    (h1 : TcbObj w lim loc rem snd ac wh S ev rv odt) (h2 : LimObj w odl) (h3 : SndObj w ods) (h4 : AckObj w due oda) (h5 : RecIs w rv ro RL) (h6 : WhIs w wh c kvs WL) :
    TcbIs w t S ev due ro c kvs (tcbLed t dt odt lim dlim odl loc rem [v1, .int 10 tl] [v2, .int 20 tr] n1 n2 snd dsnd ods ac dac oda RL WL) :=
  ⟨dt, odt, lim, dlim, odl, loc, rem, v1, v2, tl, tr, n1, n2, snd, dsnd, ods, ac, dac, oda, RL, WL, wh, rv, rfl, h1, h2, h3, h4, h5, h6⟩
theorem SndObj.intro {w : World} {k0 k1 k2 k3 k4 k5 k6 k7 k8 k9 k10 t4 : Tok} {v0 v1 v2 v3 v5 v6 v7 v8 v9 v10 : Value} : SndObj w (dictOf [ent w.params "iss" k0 v0, ent w.params "ring" k1 v1, ent w.params "mss" k2 v2, ent w.params "una" k3 v3, ent w.params "next" k4 (.int 9 t4), ent w.params "greatest" k5 v5, ent w.params "peer" k6 v6, ent w.params "queue" k7 v7, ent w.params "syn_pending" k8 v8, ent w.params "fin_asked" k9 v9, ent w.params "fin_sent" k10 v10] 11) :=
  ⟨k0, k1, k2, k3, k4, k5, k6, k7, k8, k9, k10, t4, v0, v1, v2, v3, v5, v6, v7, v8, v9, v10, rfl⟩
theorem LimObj.intro {w : World} {k0 k1 k2 k3 k4 k5 k6 k7 k8 k9 t0 t1 t2 t3 t4 t5 t6 t7 t8 t9 : Tok} : LimObj w (dictOf [ent w.params "ring" k0 (.int 256 t0), ent w.params "mss" k1 (.int 4 t1), ent w.params "send_room" k2 (.int 16 t2), ent w.params "receive_room" k3 (.int 16 t3), ent w.params "first_timeout" k4 (.int 6 t4), ent w.params "least_timeout" k5 (.int 4 t5), ent w.params "most_timeout" k6 (.int 24 t6), ent w.params "most_tries" k7 (.int 3 t7), ent w.params "ack_delay" k8 (.int 2 t8), ent w.params "time_wait" k9 (.int 12 t9)] 10) :=
  ⟨k0, k1, k2, k3, k4, k5, k6, k7, k8, k9, t0, t1, t2, t3, t4, t5, t6, t7, t8, t9, rfl⟩
theorem RecObj.intro {w : World} {nx : Int} {ba : Addr} {k0 k1 k2 k3 k4 k5 k6 k7 k8 k9 t0 t1 t2 t3 t6 : Tok} {v5 v7 v9 : Value} : RecObj w nx ba (dictOf [ent w.params "ring" k0 (.int 256 t0), ent w.params "room" k1 (.int 16 t1), ent w.params "mss" k2 (.int 4 t2), ent w.params "next" k3 (.int nx t3), ent w.params "ready" k4 (.ref ba), ent w.params "assembly" k5 v5, ent w.params "told_edge" k6 (.int (nx + 16) t6), ent w.params "fin_at" k7 v7, ent w.params "has_fin" k8 (.bool false), ent w.params "urgent_at" k9 v9] 10) :=
  ⟨k0, k1, k2, k3, k4, k5, k6, k7, k8, k9, t0, t1, t2, t3, t6, v5, v7, v9, rfl⟩
theorem TcbObj.intro {w : World} {lim loc rem snd ac wh : Addr} {S : Str} {ev rv : Value} {k0 k1 k2 k3 k4 k5 k6 k7 k8 k9 k10 k11 k12 k13 tS : Tok} {v6 v7 v11 v12 v13 : Value} (he : handedIn ev = true) (hr : handedIn rv = true) :
    TcbObj w lim loc rem snd ac wh S ev rv (dictOf [ent w.params "limits" k0 (.ref lim), ent w.params "local" k1 (.ref loc), ent w.params "remote" k2 (.ref rem), ent w.params "state" k3 (.str S tS), ent w.params "sender" k4 (.ref snd), ent w.params "receiver" k5 rv, ent w.params "clock" k6 v6, ent w.params "congestion" k7 v7, ent w.params "acks" k8 (.ref ac), ent w.params "wheel" k9 (.ref wh), ent w.params "error" k10 ev, ent w.params "probes" k11 v11, ent w.params "unanswered" k12 v12, ent w.params "is_nagle" k13 v13] 14) :=
  ⟨k0, k1, k2, k3, k4, k5, k6, k7, k8, k9, k10, k11, k12, k13, tS, v6, v7, v11, v12, v13, rfl, he, hr⟩
end Mine
/-! what is written in an object, taken apart once for all; the connection's attributes and the wheel's methods, the ledger being unknown -/
namespace Mine
open PySem PySem.W PySem.Spec PySem.Calls PyProof.Rows
theorem ln_Acc_1 : True := by
 k_with_none
 k_with "m_updn" => (first | exact UpdN.head | (refine' UpdN.tail ?az058; (case az058 => walk_at "m_updn")) | (refine' UpdN.app ?az058; (case az058 => walk_at "m_updn")))
 k_with "m_updg" => (first | exact UpdG.head | (refine' UpdG.tail ?az984; (case az984 => walk_at "m_updg")) | (refine' UpdG.app ?az984; (case az984 => walk_at "m_updg")))
 k_with "k_upd" => (k_dflt (refine' upd_of ?Dz233 ?Uz233; (case Dz233 => assumption); (case Uz233 => walk_at "m_updn")))
 k_with "k_updF" => (k_dflt (refine' updF_of ?Dz235 ?Uz235; (case Dz235 => assumption); (case Uz235 => walk_at "m_updg")))
 k_with "k_mem" => (first | with_reducible exact List.mem_cons_self | (with_reducible exact List.mem_append_left _ (by assumption)) | (with_reducible refine' List.mem_cons_of_mem _ ?mmz799; (case mmz799 => k_mem)) | (with_reducible refine' List.mem_append_right _ ?mmz799; (case mmz799 => k_mem)) | with_reducible assumption)
 k_with "getMethod ref" => ((k_dflt (refine' method_inst ?k1z510 ?k2z510 ?k3z510 ?k4z510 ?k5z510 ?k6z510 ?k7z510 ?_; (case k1z510 => k_asm); (case k2z510 => k_asm); (case k3z510 => k_inst); (case k4z510 => k_is); (case k5z510 => k_is); (case k6z510 => k_is); (case k7z510 => k_get); k_whole)))
 k_with "getAttr ref" => ((k_dflt (refine' get_own ?k1z343 ?k2z343 ?k3z343 ?k4z343 ?k5z343 ?k6z343 ?k7z343 ?k8z343 ?k9z343 ?_; (case k1z343 => k_asm); (case k2z343 => k_asm); (case k3z343 => k_inst); (case k4z343 => k_is); (case k5z343 => k_is); (case k6z343 => k_is); (case k7z343 => k_is); (case k8z343 => k_get); (case k9z343 => k_handed); k_whole)))
 k_with "k_handed" => (assumption)
 k_with "k_units" => (first | exact Lo.line (by assumption) | exact Lo.line (Lo.in1 (by assumption)))
 k_with "k_room" => (exact Lo.room (by assumption))
 trivial
theorem pull_all {V news rest : Led} (P : PullL V news rest) {q : Addr × Obj} (h : q ∈ V) : q ∈ news := List.Perm.mem_iff P |>.mpr (List.mem_append_left _ h)
theorem TcbIs.elim {w : World} {t : Addr} {S : Str} {ev due : Value} {ro : Option Int} {c : Nat} {kvs : List (Int × Int)} {V : Led} {G : Led → Prop} (W : TcbIs w t S ev due ro c kvs V)
    (k : ∀ (dt : Addr) (odt : Obj) (lim dlim : Addr) (odl : Obj) (loc rem : Addr) (v1 v2 : Value) (tl tr : Tok) (n1 n2 : Nat) (snd dsnd : Addr) (ods : Obj) (ac dac : Addr) (oda : Obj) (RL WL : Led) (wh : Addr) (rv : Value),
      TcbObj w lim loc rem snd ac wh S ev rv odt → LimObj w odl → SndObj w ods → AckObj w due oda → RecIs w rv ro RL → WhIs w wh c kvs WL → G (tcbLed t dt odt lim dlim odl loc rem [v1, .int 10 tl] [v2, .int 20 tr] n1 n2 snd dsnd ods ac dac oda RL WL)) : G V := by
  obtain ⟨dt, odt, lim, dlim, odl, loc, rem, v1, v2, tl, tr, n1, n2, snd, dsnd, ods, ac, dac, oda, RL, WL, wh, rv, rfl, h1, h2, h3, h4, h5, h6⟩ := W
  exact k _ _ _ _ _ _ _ _ _ _ _ _ _ _ _ _ _ _ _ _ _ _ _ h1 h2 h3 h4 h5 h6
section
variable {w : World} {A : Around} {E : Value → Shared → Prop} {s : Shared} {h₀ : Heap} {L : Addr} {m : Str → Option Value} {news rest : Led}
section
variable {lim loc rem snd ac wh t dt : Addr} {S : Str} {ev rv : Value} {odt : Obj} {expr : Bool} {Q : Value → Shared → Prop}
theorem news2 {x d : Addr} {o1 o2 : Obj} (N : News h₀ L s.heap news) (h1 : (x, o1) ∈ news) (h2 : (d, o2) ∈ news) : News h₀ L s.heap [(x, o1), (d, o2)] := fun q hq => by
  rcases List.mem_cons.mp hq with rfl | hq
  · exact N _ h1
  · rw [List.mem_singleton.mp hq]; exact N _ h2
theorem tcb_limits (T : TcbObj w lim loc rem snd ac wh S ev rv odt) (F : Fr h₀ L s.heap m) (X : (hd.heap_1 w.params).In h₀) (N' : News h₀ L s.heap news) (h1 : (t, instObj 866 dt) ∈ news) (h2 : (dt, odt) ∈ news)
    (h : Q (.ref lim) { s with toks := s.toks + 1 }) : wpAny (model PR w) A (getAttr (.ref t) (Str.ofString "limits") expr) Q E s := by
  have N := news2 N' h1 h2
  clear N' h1 h2
  obtain ⟨p0, p1, p2, p3, p4, p5, p6, p7, p8, p9, p10, p11, p12, p13, tS, v6, v7, v11, v12, v13, rfl, hev, hrv⟩ := T
  walk_at "getAttr ref"
  exact h
theorem tcb_local (T : TcbObj w lim loc rem snd ac wh S ev rv odt) (F : Fr h₀ L s.heap m) (X : (hd.heap_1 w.params).In h₀) (N' : News h₀ L s.heap news) (h1 : (t, instObj 866 dt) ∈ news) (h2 : (dt, odt) ∈ news)
    (h : Q (.ref loc) { s with toks := s.toks + 1 }) : wpAny (model PR w) A (getAttr (.ref t) (Str.ofString "local") expr) Q E s := by
  have N := news2 N' h1 h2
  clear N' h1 h2
  obtain ⟨p0, p1, p2, p3, p4, p5, p6, p7, p8, p9, p10, p11, p12, p13, tS, v6, v7, v11, v12, v13, rfl, hev, hrv⟩ := T
  walk_at "getAttr ref"
  exact h
theorem tcb_remote (T : TcbObj w lim loc rem snd ac wh S ev rv odt) (F : Fr h₀ L s.heap m) (X : (hd.heap_1 w.params).In h₀) (N' : News h₀ L s.heap news) (h1 : (t, instObj 866 dt) ∈ news) (h2 : (dt, odt) ∈ news)
    (h : Q (.ref rem) { s with toks := s.toks + 1 }) : wpAny (model PR w) A (getAttr (.ref t) (Str.ofString "remote") expr) Q E s := by
  have N := news2 N' h1 h2
  clear N' h1 h2
  obtain ⟨p0, p1, p2, p3, p4, p5, p6, p7, p8, p9, p10, p11, p12, p13, tS, v6, v7, v11, v12, v13, rfl, hev, hrv⟩ := T
  walk_at "getAttr ref"
  exact h
theorem tcb_sender (T : TcbObj w lim loc rem snd ac wh S ev rv odt) (F : Fr h₀ L s.heap m) (X : (hd.heap_1 w.params).In h₀) (N' : News h₀ L s.heap news) (h1 : (t, instObj 866 dt) ∈ news) (h2 : (dt, odt) ∈ news)
    (h : Q (.ref snd) { s with toks := s.toks + 1 }) : wpAny (model PR w) A (getAttr (.ref t) (Str.ofString "sender") expr) Q E s := by
  have N := news2 N' h1 h2
  clear N' h1 h2
  obtain ⟨p0, p1, p2, p3, p4, p5, p6, p7, p8, p9, p10, p11, p12, p13, tS, v6, v7, v11, v12, v13, rfl, hev, hrv⟩ := T
  walk_at "getAttr ref"
  exact h
theorem tcb_receiver (T : TcbObj w lim loc rem snd ac wh S ev rv odt) (F : Fr h₀ L s.heap m) (X : (hd.heap_1 w.params).In h₀) (N' : News h₀ L s.heap news) (h1 : (t, instObj 866 dt) ∈ news) (h2 : (dt, odt) ∈ news)
    (h : Q (rv) { s with toks := s.toks + 1 }) : wpAny (model PR w) A (getAttr (.ref t) (Str.ofString "receiver") expr) Q E s := by
  have N := news2 N' h1 h2
  clear N' h1 h2
  obtain ⟨p0, p1, p2, p3, p4, p5, p6, p7, p8, p9, p10, p11, p12, p13, tS, v6, v7, v11, v12, v13, rfl, hev, hrv⟩ := T
  walk_at "getAttr ref"
  exact h
theorem tcb_acks (T : TcbObj w lim loc rem snd ac wh S ev rv odt) (F : Fr h₀ L s.heap m) (X : (hd.heap_1 w.params).In h₀) (N' : News h₀ L s.heap news) (h1 : (t, instObj 866 dt) ∈ news) (h2 : (dt, odt) ∈ news)
    (h : Q (.ref ac) { s with toks := s.toks + 1 }) : wpAny (model PR w) A (getAttr (.ref t) (Str.ofString "acks") expr) Q E s := by
  have N := news2 N' h1 h2
  clear N' h1 h2
  obtain ⟨p0, p1, p2, p3, p4, p5, p6, p7, p8, p9, p10, p11, p12, p13, tS, v6, v7, v11, v12, v13, rfl, hev, hrv⟩ := T
  walk_at "getAttr ref"
  exact h
theorem tcb_wheel (T : TcbObj w lim loc rem snd ac wh S ev rv odt) (F : Fr h₀ L s.heap m) (X : (hd.heap_1 w.params).In h₀) (N' : News h₀ L s.heap news) (h1 : (t, instObj 866 dt) ∈ news) (h2 : (dt, odt) ∈ news)
    (h : Q (.ref wh) { s with toks := s.toks + 1 }) : wpAny (model PR w) A (getAttr (.ref t) (Str.ofString "wheel") expr) Q E s := by
  have N := news2 N' h1 h2
  clear N' h1 h2
  obtain ⟨p0, p1, p2, p3, p4, p5, p6, p7, p8, p9, p10, p11, p12, p13, tS, v6, v7, v11, v12, v13, rfl, hev, hrv⟩ := T
  walk_at "getAttr ref"
  exact h
theorem tcb_error (T : TcbObj w lim loc rem snd ac wh S ev rv odt) (F : Fr h₀ L s.heap m) (X : (hd.heap_1 w.params).In h₀) (N' : News h₀ L s.heap news) (h1 : (t, instObj 866 dt) ∈ news) (h2 : (dt, odt) ∈ news)
    (h : Q (ev) { s with toks := s.toks + 1 }) : wpAny (model PR w) A (getAttr (.ref t) (Str.ofString "error") expr) Q E s := by
  have N := news2 N' h1 h2
  clear N' h1 h2
  obtain ⟨p0, p1, p2, p3, p4, p5, p6, p7, p8, p9, p10, p11, p12, p13, tS, v6, v7, v11, v12, v13, rfl, hev, hrv⟩ := T
  walk_at "getAttr ref"
  exact h
theorem tcb_state (T : TcbObj w lim loc rem snd ac wh S ev rv odt) (F : Fr h₀ L s.heap m) (X : (hd.heap_1 w.params).In h₀) (N' : News h₀ L s.heap news) (h1 : (t, instObj 866 dt) ∈ news) (h2 : (dt, odt) ∈ news)
    (h : ∀ tS, Q (.str S tS) { s with toks := s.toks + 1 }) : wpAny (model PR w) A (getAttr (.ref t) (Str.ofString "state") expr) Q E s := by
  have N := news2 N' h1 h2
  clear N' h1 h2
  obtain ⟨p0, p1, p2, p3, p4, p5, p6, p7, p8, p9, p10, p11, p12, p13, tS, v6, v7, v11, v12, v13, rfl, hev, hrv⟩ := T
  walk_at "getAttr ref"
  exact h _
theorem tcb_set_state {Q : Unit → Shared → Prop} {S' : Str} {tS' : Tok} {G : Obj → Led} (T : TcbObj w lim loc rem snd ac wh S ev rv odt) (F : Fr h₀ L s.heap m) (X : (hd.heap_1 w.params).In h₀) (N : News h₀ L s.heap news) (D : (adrs news).Nodup) (h1 : (t, instObj 866 dt) ∈ news) (U : UpdG dt odt news G)
    (h : ∀ h' o', TcbObj w lim loc rem snd ac wh S' ev rv o' → Fr h₀ L h' m → News h₀ L h' (G o') → (adrs (G o')).Nodup → Q () { s with heap := h', toks := s.toks + 2 }) : wpAny (model PR w) A (setAttr (.ref t) (Str.ofString "state") (.str S' tS')) Q E s := by
  have h2 := U.mem2
  obtain ⟨p0, p1, p2, p3, p4, p5, p6, p7, p8, p9, p10, p11, p12, p13, tS, v6, v7, v11, v12, v13, rfl, hev, hrv⟩ := T
  refine' set_dict (ox := instObj 866 dt) F X N (InstAt.of_news N h1 h2) rfl ?k6 ?k7 ?k8 ?k9 ?k10 ?k11 (upd_of D U.toN) ?k13 ?_
  case k6 => k_is
  case k7 => k_is
  case k8 => k_is
  case k9 => k_is
  case k10 => k_get
  case k11 => k_put
  case k13 => exact Nat.le_of_ble_eq_true rfl
  intro h' F' N'
  exact h h' _ (TcbObj.intro hev hrv) F' N' (U.nd D)
theorem tcb_set_error {Q : Unit → Shared → Prop} {ev' : Value} (hev' : handedIn ev' = true) {G : Obj → Led} (T : TcbObj w lim loc rem snd ac wh S ev rv odt) (F : Fr h₀ L s.heap m) (X : (hd.heap_1 w.params).In h₀) (N : News h₀ L s.heap news) (D : (adrs news).Nodup) (h1 : (t, instObj 866 dt) ∈ news) (U : UpdG dt odt news G)
    (h : ∀ h' o', TcbObj w lim loc rem snd ac wh S ev' rv o' → Fr h₀ L h' m → News h₀ L h' (G o') → (adrs (G o')).Nodup → Q () { s with heap := h', toks := s.toks + 2 }) : wpAny (model PR w) A (setAttr (.ref t) (Str.ofString "error") ev') Q E s := by
  have h2 := U.mem2
  obtain ⟨p0, p1, p2, p3, p4, p5, p6, p7, p8, p9, p10, p11, p12, p13, tS, v6, v7, v11, v12, v13, rfl, hev, hrv⟩ := T
  refine' set_dict (ox := instObj 866 dt) F X N (InstAt.of_news N h1 h2) rfl ?k6 ?k7 ?k8 ?k9 ?k10 ?k11 (upd_of D U.toN) ?k13 ?_
  case k6 => k_is
  case k7 => k_is
  case k8 => k_is
  case k9 => k_is
  case k10 => k_get
  case k11 => k_put
  case k13 => exact Nat.le_of_ble_eq_true rfl
  intro h' F' N'
  exact h h' _ (TcbObj.intro hev' hrv) F' N' (U.nd D)
theorem tcb_set_receiver {Q : Unit → Shared → Prop} {rv' : Value} (hrv' : handedIn rv' = true) {G : Obj → Led} (T : TcbObj w lim loc rem snd ac wh S ev rv odt) (F : Fr h₀ L s.heap m) (X : (hd.heap_1 w.params).In h₀) (N : News h₀ L s.heap news) (D : (adrs news).Nodup) (h1 : (t, instObj 866 dt) ∈ news) (U : UpdG dt odt news G)
    (h : ∀ h' o', TcbObj w lim loc rem snd ac wh S ev rv' o' → Fr h₀ L h' m → News h₀ L h' (G o') → (adrs (G o')).Nodup → Q () { s with heap := h', toks := s.toks + 2 }) : wpAny (model PR w) A (setAttr (.ref t) (Str.ofString "receiver") rv') Q E s := by
  have h2 := U.mem2
  obtain ⟨p0, p1, p2, p3, p4, p5, p6, p7, p8, p9, p10, p11, p12, p13, tS, v6, v7, v11, v12, v13, rfl, hev, hrv⟩ := T
  refine' set_dict (ox := instObj 866 dt) F X N (InstAt.of_news N h1 h2) rfl ?k6 ?k7 ?k8 ?k9 ?k10 ?k11 (upd_of D U.toN) ?k13 ?_
  case k6 => k_is
  case k7 => k_is
  case k8 => k_is
  case k9 => k_is
  case k10 => k_get
  case k11 => k_put
  case k13 => exact Nat.le_of_ble_eq_true rfl
  intro h' F' N'
  exact h h' _ (TcbObj.intro hev hrv') F' N' (U.nd D)
end
theorem wh_cancel {pl : Sem Bool} {Q : Value × List Value → Shared → Prop} {wh : Addr} {c : Nat} {kvs : List (Int × Int)} {V : Led} (W : WhIs w wh c kvs V) (F : Fr h₀ L s.heap m) (X : (hd.heap_1 w.params).In h₀) (N' : News h₀ L s.heap news) (P : PullL V news rest)
    (h : Q (.ref 775, [.ref wh]) s) : wpAny (model PR w) A (getMethod (.ref wh) (Str.ofString "cancel") pl) Q E s := by
  obtain ⟨da, sl, la, en, g, k0, k1, k2, k3, k4, k5, t0, t5, hi1, hi2⟩ := W.inst
  have N := news2 N' (pull_all P hi1) (pull_all P hi2)
  clear N' hi1 hi2 P
  walk_at "getMethod ref"
  exact h
theorem wh_put {pl : Sem Bool} {Q : Value × List Value → Shared → Prop} {wh : Addr} {c : Nat} {kvs : List (Int × Int)} {V : Led} (W : WhIs w wh c kvs V) (F : Fr h₀ L s.heap m) (X : (hd.heap_1 w.params).In h₀) (N' : News h₀ L s.heap news) (P : PullL V news rest)
    (h : Q (.ref 761, [.ref wh]) s) : wpAny (model PR w) A (getMethod (.ref wh) (Str.ofString "put") pl) Q E s := by
  obtain ⟨da, sl, la, en, g, k0, k1, k2, k3, k4, k5, t0, t5, hi1, hi2⟩ := W.inst
  have N := news2 N' (pull_all P hi1) (pull_all P hi2)
  clear N' hi1 hi2 P
  walk_at "getMethod ref"
  exact h
theorem wh_next_time {pl : Sem Bool} {Q : Value × List Value → Shared → Prop} {wh : Addr} {c : Nat} {kvs : List (Int × Int)} {V : Led} (W : WhIs w wh c kvs V) (F : Fr h₀ L s.heap m) (X : (hd.heap_1 w.params).In h₀) (N' : News h₀ L s.heap news) (P : PullL V news rest)
    (h : Q (.ref 787, [.ref wh]) s) : wpAny (model PR w) A (getMethod (.ref wh) (Str.ofString "next_time") pl) Q E s := by
  obtain ⟨da, sl, la, en, g, k0, k1, k2, k3, k4, k5, t0, t5, hi1, hi2⟩ := W.inst
  have N := news2 N' (pull_all P hi1) (pull_all P hi2)
  clear N' hi1 hi2 P
  walk_at "getMethod ref"
  exact h
theorem wh_time_of {pl : Sem Bool} {Q : Value × List Value → Shared → Prop} {wh : Addr} {c : Nat} {kvs : List (Int × Int)} {V : Led} (W : WhIs w wh c kvs V) (F : Fr h₀ L s.heap m) (X : (hd.heap_1 w.params).In h₀) (N' : News h₀ L s.heap news) (P : PullL V news rest)
    (h : Q (.ref 782, [.ref wh]) s) : wpAny (model PR w) A (getMethod (.ref wh) (Str.ofString "time_of") pl) Q E s := by
  obtain ⟨da, sl, la, en, g, k0, k1, k2, k3, k4, k5, t0, t5, hi1, hi2⟩ := W.inst
  have N := news2 N' (pull_all P hi1) (pull_all P hi2)
  clear N' hi1 hi2 P
  walk_at "getMethod ref"
  exact h
section
variable {x dx : Addr} {o : Obj} {expr : Bool} {Q : Value → Shared → Prop}
theorem lim_time_wait (W : LimObj w o) (F : Fr h₀ L s.heap m) (X : (hd.heap_1 w.params).In h₀) (N' : News h₀ L s.heap news) (h1 : (x, instObj 823 dx) ∈ news) (h2 : (dx, o) ∈ news)
    (h : ∀ t, Q (.int 12 t) { s with toks := s.toks + 1 }) : wpAny (model PR w) A (getAttr (.ref x) (Str.ofString "time_wait") expr) Q E s := by
  have N := news2 N' h1 h2
  clear N' h1 h2
  obtain ⟨q0, q1, q2, q3, q4, q5, q6, q7, q8, q9, u0, u1, u2, u3, u4, u5, u6, u7, u8, u9, rfl⟩ := W
  walk_at "getAttr ref"
  exact h _
theorem lim_receive_room (W : LimObj w o) (F : Fr h₀ L s.heap m) (X : (hd.heap_1 w.params).In h₀) (N' : News h₀ L s.heap news) (h1 : (x, instObj 823 dx) ∈ news) (h2 : (dx, o) ∈ news)
    (h : ∀ t, Q (.int 16 t) { s with toks := s.toks + 1 }) : wpAny (model PR w) A (getAttr (.ref x) (Str.ofString "receive_room") expr) Q E s := by
  have N := news2 N' h1 h2
  clear N' h1 h2
  obtain ⟨q0, q1, q2, q3, q4, q5, q6, q7, q8, q9, u0, u1, u2, u3, u4, u5, u6, u7, u8, u9, rfl⟩ := W
  walk_at "getAttr ref"
  exact h _
theorem lim_mss (W : LimObj w o) (F : Fr h₀ L s.heap m) (X : (hd.heap_1 w.params).In h₀) (N' : News h₀ L s.heap news) (h1 : (x, instObj 823 dx) ∈ news) (h2 : (dx, o) ∈ news)
    (h : ∀ t, Q (.int 4 t) { s with toks := s.toks + 1 }) : wpAny (model PR w) A (getAttr (.ref x) (Str.ofString "mss") expr) Q E s := by
  have N := news2 N' h1 h2
  clear N' h1 h2
  obtain ⟨q0, q1, q2, q3, q4, q5, q6, q7, q8, q9, u0, u1, u2, u3, u4, u5, u6, u7, u8, u9, rfl⟩ := W
  walk_at "getAttr ref"
  exact h _
theorem lim_ring (W : LimObj w o) (F : Fr h₀ L s.heap m) (X : (hd.heap_1 w.params).In h₀) (N' : News h₀ L s.heap news) (h1 : (x, instObj 823 dx) ∈ news) (h2 : (dx, o) ∈ news)
    (h : ∀ t, Q (.int 256 t) { s with toks := s.toks + 1 }) : wpAny (model PR w) A (getAttr (.ref x) (Str.ofString "ring") expr) Q E s := by
  have N := news2 N' h1 h2
  clear N' h1 h2
  obtain ⟨q0, q1, q2, q3, q4, q5, q6, q7, q8, q9, u0, u1, u2, u3, u4, u5, u6, u7, u8, u9, rfl⟩ := W
  walk_at "getAttr ref"
  exact h _
theorem lim_send_room (W : LimObj w o) (F : Fr h₀ L s.heap m) (X : (hd.heap_1 w.params).In h₀) (N' : News h₀ L s.heap news) (h1 : (x, instObj 823 dx) ∈ news) (h2 : (dx, o) ∈ news)
    (h : ∀ t, Q (.int 16 t) { s with toks := s.toks + 1 }) : wpAny (model PR w) A (getAttr (.ref x) (Str.ofString "send_room") expr) Q E s := by
  have N := news2 N' h1 h2
  clear N' h1 h2
  obtain ⟨q0, q1, q2, q3, q4, q5, q6, q7, q8, q9, u0, u1, u2, u3, u4, u5, u6, u7, u8, u9, rfl⟩ := W
  walk_at "getAttr ref"
  exact h _
theorem lim_ack_delay (W : LimObj w o) (F : Fr h₀ L s.heap m) (X : (hd.heap_1 w.params).In h₀) (N' : News h₀ L s.heap news) (h1 : (x, instObj 823 dx) ∈ news) (h2 : (dx, o) ∈ news)
    (h : ∀ t, Q (.int 2 t) { s with toks := s.toks + 1 }) : wpAny (model PR w) A (getAttr (.ref x) (Str.ofString "ack_delay") expr) Q E s := by
  have N := news2 N' h1 h2
  clear N' h1 h2
  obtain ⟨q0, q1, q2, q3, q4, q5, q6, q7, q8, q9, u0, u1, u2, u3, u4, u5, u6, u7, u8, u9, rfl⟩ := W
  walk_at "getAttr ref"
  exact h _
theorem lim_first_timeout (W : LimObj w o) (F : Fr h₀ L s.heap m) (X : (hd.heap_1 w.params).In h₀) (N' : News h₀ L s.heap news) (h1 : (x, instObj 823 dx) ∈ news) (h2 : (dx, o) ∈ news)
    (h : ∀ t, Q (.int 6 t) { s with toks := s.toks + 1 }) : wpAny (model PR w) A (getAttr (.ref x) (Str.ofString "first_timeout") expr) Q E s := by
  have N := news2 N' h1 h2
  clear N' h1 h2
  obtain ⟨q0, q1, q2, q3, q4, q5, q6, q7, q8, q9, u0, u1, u2, u3, u4, u5, u6, u7, u8, u9, rfl⟩ := W
  walk_at "getAttr ref"
  exact h _
theorem lim_least_timeout (W : LimObj w o) (F : Fr h₀ L s.heap m) (X : (hd.heap_1 w.params).In h₀) (N' : News h₀ L s.heap news) (h1 : (x, instObj 823 dx) ∈ news) (h2 : (dx, o) ∈ news)
    (h : ∀ t, Q (.int 4 t) { s with toks := s.toks + 1 }) : wpAny (model PR w) A (getAttr (.ref x) (Str.ofString "least_timeout") expr) Q E s := by
  have N := news2 N' h1 h2
  clear N' h1 h2
  obtain ⟨q0, q1, q2, q3, q4, q5, q6, q7, q8, q9, u0, u1, u2, u3, u4, u5, u6, u7, u8, u9, rfl⟩ := W
  walk_at "getAttr ref"
  exact h _
theorem lim_most_timeout (W : LimObj w o) (F : Fr h₀ L s.heap m) (X : (hd.heap_1 w.params).In h₀) (N' : News h₀ L s.heap news) (h1 : (x, instObj 823 dx) ∈ news) (h2 : (dx, o) ∈ news)
    (h : ∀ t, Q (.int 24 t) { s with toks := s.toks + 1 }) : wpAny (model PR w) A (getAttr (.ref x) (Str.ofString "most_timeout") expr) Q E s := by
  have N := news2 N' h1 h2
  clear N' h1 h2
  obtain ⟨q0, q1, q2, q3, q4, q5, q6, q7, q8, q9, u0, u1, u2, u3, u4, u5, u6, u7, u8, u9, rfl⟩ := W
  walk_at "getAttr ref"
  exact h _
theorem lim_most_tries (W : LimObj w o) (F : Fr h₀ L s.heap m) (X : (hd.heap_1 w.params).In h₀) (N' : News h₀ L s.heap news) (h1 : (x, instObj 823 dx) ∈ news) (h2 : (dx, o) ∈ news)
    (h : ∀ t, Q (.int 3 t) { s with toks := s.toks + 1 }) : wpAny (model PR w) A (getAttr (.ref x) (Str.ofString "most_tries") expr) Q E s := by
  have N := news2 N' h1 h2
  clear N' h1 h2
  obtain ⟨q0, q1, q2, q3, q4, q5, q6, q7, q8, q9, u0, u1, u2, u3, u4, u5, u6, u7, u8, u9, rfl⟩ := W
  walk_at "getAttr ref"
  exact h _
theorem snd_next (W : SndObj w o) (F : Fr h₀ L s.heap m) (X : (hd.heap_1 w.params).In h₀) (N' : News h₀ L s.heap news) (h1 : (x, instObj 652 dx) ∈ news) (h2 : (dx, o) ∈ news)
    (h : ∀ t, Q (.int 9 t) { s with toks := s.toks + 1 }) : wpAny (model PR w) A (getAttr (.ref x) (Str.ofString "next") expr) Q E s := by
  have N := news2 N' h1 h2
  clear N' h1 h2
  obtain ⟨k0, k1, k2, k3, k4, k5, k6, k7, k8, k9, k10, t4, v0, v1, v2, v3, v5, v6, v7, v8, v9, v10, rfl⟩ := W
  walk_at "getAttr ref"
  exact h _
theorem rec_next {nx : Int} {ba : Addr} (W : RecObj w nx ba o) (F : Fr h₀ L s.heap m) (X : (hd.heap_1 w.params).In h₀) (N' : News h₀ L s.heap news) (h1 : (x, instObj 1117 dx) ∈ news) (h2 : (dx, o) ∈ news)
    (h : ∀ t, Q (.int nx t) { s with toks := s.toks + 1 }) : wpAny (model PR w) A (getAttr (.ref x) (Str.ofString "next") expr) Q E s := by
  have N := news2 N' h1 h2
  clear N' h1 h2
  obtain ⟨k0, k1, k2, k3, k4, k5, k6, k7, k8, k9, t0, t1, t2, t3, t6, v5, v7, v9, rfl⟩ := W
  walk_at "getAttr ref"
  exact h _
end
section
variable {x dx : Addr} {o : Obj} {pl : Sem Bool} {Q : Value × List Value → Shared → Prop}
theorem ack_on_sent {due : Value} (W : AckObj w due o) (F : Fr h₀ L s.heap m) (X : (hd.heap_1 w.params).In h₀) (N' : News h₀ L s.heap news) (h1 : (x, instObj 118 dx) ∈ news) (h2 : (dx, o) ∈ news)
    (h : Q (.ref 108, [.ref x]) s) : wpAny (model PR w) A (getMethod (.ref x) (Str.ofString "on_sent") pl) Q E s := by
  have N := news2 N' h1 h2
  clear N' h1 h2
  obtain ⟨k0, k1, k2, k3, t0, t1, v1, v3, rfl, _⟩ := W
  walk_at "getMethod ref"
  exact h
theorem ack_due_time {due : Value} (W : AckObj w due o) (F : Fr h₀ L s.heap m) (X : (hd.heap_1 w.params).In h₀) (N' : News h₀ L s.heap news) (h1 : (x, instObj 118 dx) ∈ news) (h2 : (dx, o) ∈ news)
    (h : Q (.ref 115, [.ref x]) s) : wpAny (model PR w) A (getMethod (.ref x) (Str.ofString "due_time") pl) Q E s := by
  have N := news2 N' h1 h2
  clear N' h1 h2
  obtain ⟨k0, k1, k2, k3, t0, t1, v1, v3, rfl, _⟩ := W
  walk_at "getMethod ref"
  exact h
theorem ack_on_octets {due : Value} (W : AckObj w due o) (F : Fr h₀ L s.heap m) (X : (hd.heap_1 w.params).In h₀) (N' : News h₀ L s.heap news) (h1 : (x, instObj 118 dx) ∈ news) (h2 : (dx, o) ∈ news)
    (h : Q (.ref 87, [.ref x]) s) : wpAny (model PR w) A (getMethod (.ref x) (Str.ofString "on_octets") pl) Q E s := by
  have N := news2 N' h1 h2
  clear N' h1 h2
  obtain ⟨k0, k1, k2, k3, t0, t1, v1, v3, rfl, _⟩ := W
  walk_at "getMethod ref"
  exact h
theorem rec_window {nx : Int} {ba : Addr} (W : RecObj w nx ba o) (F : Fr h₀ L s.heap m) (X : (hd.heap_1 w.params).In h₀) (N' : News h₀ L s.heap news) (h1 : (x, instObj 1117 dx) ∈ news) (h2 : (dx, o) ∈ news)
    (h : Q (.ref 1030, [.ref x]) s) : wpAny (model PR w) A (getMethod (.ref x) (Str.ofString "window") pl) Q E s := by
  have N := news2 N' h1 h2
  clear N' h1 h2
  obtain ⟨k0, k1, k2, k3, k4, k5, k6, k7, k8, k9, t0, t1, t2, t3, t6, v5, v7, v9, rfl⟩ := W
  walk_at "getMethod ref"
  exact h
theorem tcb_make {lim loc rem snd ac wh : Addr} {S : Str} {ev rv : Value} (W : TcbObj w lim loc rem snd ac wh S ev rv o) (F : Fr h₀ L s.heap m) (X : (hd.heap_1 w.params).In h₀) (N' : News h₀ L s.heap news) (h1 : (x, instObj 866 dx) ∈ news) (h2 : (dx, o) ∈ news)
    (h : Q (.ref 863, [.ref x]) s) : wpAny (model PR w) A (getMethod (.ref x) (Str.ofString "make") pl) Q E s := by
  have N := news2 N' h1 h2
  clear N' h1 h2
  obtain ⟨p0, p1, p2, p3, p4, p5, p6, p7, p8, p9, p10, p11, p12, p13, tS, v6, v7, v11, v12, v13, rfl, hev, hrv⟩ := W
  walk_at "getMethod ref"
  exact h
theorem tcb_window_now {lim loc rem snd ac wh : Addr} {S : Str} {ev rv : Value} (W : TcbObj w lim loc rem snd ac wh S ev rv o) (F : Fr h₀ L s.heap m) (X : (hd.heap_1 w.params).In h₀) (N' : News h₀ L s.heap news) (h1 : (x, instObj 866 dx) ∈ news) (h2 : (dx, o) ∈ news)
    (h : Q (.ref 855, [.ref x]) s) : wpAny (model PR w) A (getMethod (.ref x) (Str.ofString "window_now") pl) Q E s := by
  have N := news2 N' h1 h2
  clear N' h1 h2
  obtain ⟨p0, p1, p2, p3, p4, p5, p6, p7, p8, p9, p10, p11, p12, p13, tS, v6, v7, v11, v12, v13, rfl, hev, hrv⟩ := W
  walk_at "getMethod ref"
  exact h
end
end
end Mine
namespace Mine
open PySem PySem.W PySem.Spec PySem.Calls PyProof.Rows
theorem ln_Snd_1 : True := by
 k_with_none
 k_with "m_enter" => ((
     case ho => k_is
     case hcd => k_is
     case hbind => first | exact BindsTo.of_eq rfl | exact binds_K (Frag.In.keeps (Base.X (by assumption)) (Has.stays (by assumption))) rfl (by k_is) rfl rfl rfl
     case hloc => exact locs rfl
     case hcell => decide
     case hco => exact rfl
     case hgen => exact rfl
     case hk => exact rfl
     intro RR hRR g L' h₁ A' lo' St hg1 hg2 F N D X T
     (try dsimp only [List.reverse, List.reverseAux, List.length] at *)))
 k_with "m_takes" => (first
     | exact Takes.nil
     | (refine' Takes.cons ?az047 ?bz047; (case az047 => walk_at "m_pull"); (case bz047 => walk_at "m_takes"))
     | (refine' Takes.app ?az047 ?bz047; (case az047 => walk_at "m_pullL"); (case bz047 => walk_at "m_takes"))
     | (refine' Takes.last ?az047; (case az047 => walk_at "m_pullL")))
 k_with "m_pull" => (first
     | exact Pull.head
     | (refine' Pull.tail ?az350; (case az350 => walk_at "m_pull"))
     | (refine' Pull.app ?az350; (case az350 => walk_at "m_pull")))
 k_with "m_pullL" => (first
     | exact PullL.head
     | exact PullL.whole
     | (refine' PullL.tail ?az531; (case az531 => walk_at "m_pullL"))
     | (refine' PullL.app ?az531; (case az531 => walk_at "m_pullL")))
 k_with "m_ends" => ((case p1 => ((try simp only [tcbLed]); (try simp only [whLed, List.append_assoc, List.cons_append, List.nil_append, List.append_nil]); (walk_at "m_takes"))))
 k_with "m_updn" => (first | exact UpdN.head | (refine' UpdN.tail ?az058; (case az058 => walk_at "m_updn")) | (refine' UpdN.app ?az058; (case az058 => walk_at "m_updn")))
 k_with "m_updg" => (first | exact UpdG.head | (refine' UpdG.tail ?az984; (case az984 => walk_at "m_updg")) | (refine' UpdG.app ?az984; (case az984 => walk_at "m_updg")))
 k_with "k_upd" => (k_dflt (refine' upd_of ?Dz233 ?Uz233; (case Dz233 => assumption); (case Uz233 => walk_at "m_updn")))
 k_with "k_updF" => (k_dflt (refine' updF_of ?Dz235 ?Uz235; (case Dz235 => assumption); (case Uz235 => walk_at "m_updg")))
 k_with "k_mem" => (first | with_reducible exact List.mem_cons_self | (with_reducible exact List.mem_append_left _ (by assumption)) | (with_reducible refine' List.mem_cons_of_mem _ ?mmz799; (case mmz799 => k_mem)) | (with_reducible refine' List.mem_append_right _ ?mmz799; (case mmz799 => k_mem)) | with_reducible assumption)
 k_with "k_handed" => (assumption)
 k_with "k_units" => (first | exact Lo.line (by assumption) | exact Lo.line (Lo.in1 (by assumption)))
 k_with "k_room" => (exact Lo.room (by assumption))
 k_with "execs cons" => (((with_reducible show wpAny _ _ (execs (_ :: _) _) _ _ _); (k_dflt (refine execs_flat (s := s) ?_)); intro tkF))
 k_with "call ref" => (((with_reducible show wpAny _ _ (call (Value.ref 118) [_]) _ _ _); (k_dflt (refine' make_use (by assumption) (by assumption) (by assumption) (by assumption) (by assumption) Takes.nil ?hm ?hi ?hf (fun x dx s' H => ackI B (Lo.make (Lo.mono (by assumption) (by decide))) H) ?_; (case hm => k_is); (case hi => k_is); (case hf => k_is))); (try clear DN); (rintro xN dN nfN ⟨t0, t1, t2, t3, t4, rfl⟩ hN tkN FN NN DN); (dsimp only [List.cons_append, List.nil_append] at NN DN); (try k_sweep)))
 k_with "call ref" => (((with_reducible show wpAny _ _ (call (Value.ref 202) [_, _, _]) _ _ _); (k_dflt (refine' make_use (by assumption) (by assumption) (by assumption) (by assumption) (by assumption) Takes.nil ?hm ?hi ?hf (fun x dx s' H => congI B (Lo.make (Lo.mono (by assumption) (by decide))) H) ?_; (case hm => k_is); (case hi => k_is); (case hf => k_is))); (try clear DN); (intro xN dN nfN hJ hN tkN FN NN DN); clear hJ; (replace NN := news_drop NN); (replace DN := nd_drop DN); (try dsimp only [List.cons_append, List.nil_append] at NN DN); (try k_sweep)))
 k_with "call ref" => (((with_reducible show wpAny _ _ (call (Value.ref 370) [_, _, _]) _ _ _); (k_dflt (refine' make_use (by assumption) (by assumption) (by assumption) (by assumption) (by assumption) Takes.nil ?hm ?hi ?hf (fun x dx s' H => rttI B (Lo.make (Lo.mono (by assumption) (by decide))) H) ?_; (case hm => k_is); (case hi => k_is); (case hf => k_is))); (try clear DN); (intro xN dN nfN hJ hN tkN FN NN DN); clear hJ; (replace NN := news_drop NN); (replace DN := nd_drop DN); (try dsimp only [List.cons_append, List.nil_append] at NN DN); (try k_sweep)))
 k_with "call ref" => (((with_reducible show wpAny _ _ (call (Value.ref 314) [_, _]) _ _ _); (k_dflt (refine' make_use (by assumption) (by assumption) (by assumption) (by assumption) (by assumption) Takes.nil ?hm ?hi ?hf (fun x dx s' H => clockI B (Lo.make (Lo.mono (by assumption) (by decide))) H) ?_; (case hm => k_is); (case hi => k_is); (case hf => k_is))); (try clear DN); (intro xN dN nfN hJ hN tkN FN NN DN); clear hJ; (replace NN := news_drop NN); (replace DN := nd_drop DN); (try dsimp only [List.cons_append, List.nil_append] at NN DN); (try k_sweep)))
 k_with "call ref" => (((with_reducible show wpAny _ _ (call (Value.ref 461) [_]) _ _ _); (k_dflt (refine' make_use (by assumption) (by assumption) (by assumption) (by assumption) (by assumption) Takes.nil ?hm ?hi ?hf (fun x dx s' H => peerI B (Lo.make (Lo.mono (by assumption) (by decide))) H) ?_; (case hm => k_is); (case hi => k_is); (case hf => k_is))); (try clear DN); (intro xN dN nfN hJ hN tkN FN NN DN); clear hJ; (replace NN := news_drop NN); (replace DN := nd_drop DN); (try dsimp only [List.cons_append, List.nil_append] at NN DN); (try k_sweep)))
 k_with "call ref" => (((with_reducible show wpAny _ _ (call (Value.ref 426) [_]) _ _ _); (k_dflt (refine' make_use (by assumption) (by assumption) (by assumption) (by assumption) (by assumption) Takes.nil ?hm ?hi ?hf (fun x dx s' H => queueI B (Lo.make (Lo.mono (by assumption) (by decide))) H) ?_; (case hm => k_is); (case hi => k_is); (case hf => k_is))); (try clear DN); (intro xN dN nfN hJ hN tkN FN NN DN); clear hJ; (replace NN := news_drop NN); (replace DN := nd_drop DN); (try dsimp only [List.cons_append, List.nil_append] at NN DN); (try k_sweep)))
 k_with "call ref" => (((with_reducible show wpAny _ _ (call (Value.ref 823) [_, _, _, _, _, _, _, _, _, _]) _ _ _); (k_dflt (refine' make_use (by assumption) (by assumption) (by assumption) (by assumption) (by assumption) Takes.nil ?hm ?hi ?hf (fun x dx s' H => limI B (Lo.make (Lo.mono (by assumption) (by decide))) H) ?_; (case hm => k_is); (case hi => k_is); (case hf => k_is))); (try clear DN); (rintro xN dN nfN ⟨t0, t1, t2, t3, t4, t5, t6, t7, t8, t9, rfl⟩ hN tkN FN NN DN); (dsimp only [List.cons_append, List.nil_append] at NN DN); (try k_sweep)))
 k_with "call ref" => (((with_reducible show wpAny _ _ (call (Value.ref 702) [_, _, _, _, _, _, _, _, _]) _ _ _); (k_dflt (refine' make_use (by assumption) (by assumption) (by assumption) (by assumption) (by assumption) Takes.nil ?hm ?hi ?hf (fun x dx s' H => segI B (Lo.make (Lo.mono (by assumption) (by decide))) H) ?_; (case hm => k_is); (case hi => k_is); (case hf => k_is))); (try clear DN); (rintro xN dN nfN ⟨t0, t1, t2, t3, t4, t5, t6, t7, t8, rfl⟩ hN tkN FN NN DN); (dsimp only [List.cons_append, List.nil_append] at NN DN); (try k_sweep)))
 trivial
theorem senderI {w : World} {mean : ExcName → Option Value} {mg mb : Str → Option Value} {hb : Heap} {s : Shared} {A : Around} {x dx : Addr} {t9 t256 t4 t16 : Tok}
   (B : Base (hd.heap_1 w.params) hd.view_1 LOOSE mean mg mb hb) (lo : Lo 3 A) (H : Has hb s [(x, instObj 652 dx), (dx, dictOf [] 0)]) :
   codeAny (model PR w) A (.call (.ref 479) ⟨[.ref x, .int 9 t9, .int 256 t256, .int 4 t4, .int 16 t16], []⟩) (Rets s [(x, instObj 652 dx), (dx, dictOf [] 0)] (fun v nf => v = .none ∧ ∃ o, SndObj w o ∧ nf = [(x, instObj 652 dx), (dx, o)])) s := by
  refine' enter (binds := [(Str.ofString "self", .ref x), (Str.ofString "iss", .int 9 t9), (Str.ofString "ring", .int 256 t256), (Str.ofString "mss", .int 4 t4), (Str.ofString "room", .int 16 t16)]) B H lo ?ho ?hcd ?hbind ?hloc ?h ?hcell ?hco ?hgen ?hk
  walk_at "m_enter"
  k_steps
  all_goals (try dsimp only)
  refine' rets_end hRR hg2 (by assumption) (by assumption) (by assumption) ⟨rfl, _, SndObj.intro, rfl⟩ ?p1
  walk_at "m_ends"
end Mine
namespace Mine
open PySem PySem.W PySem.Spec PySem.Calls PyProof.Rows
inductive Ints2 : List (Int × Value) → List (Int × Int) → Prop
  | nil : Ints2 [] []
  | cons {k τ : Int} {t : Tok} {kv : List (Int × Value)} {kvs : List (Int × Int)} : Ints2 kv kvs → Ints2 ((k, .int τ t) :: kv) ((k, τ) :: kvs)
theorem Ints2.length {kv : List (Int × Value)} {kvs : List (Int × Int)} (h : Ints2 kv kvs) : kv.length = kvs.length := by
  induction h with
  | nil => rfl
  | cons _ ih => simp [ih]
theorem Ints2.at {kv : List (Int × Value)} {kvs : List (Int × Int)} (h : Ints2 kv kvs) : ∀ {i : Nat} {k : Int} {y : Value}, kv[i]? = some (k, y) → ∃ τ t, y = .int τ t ∧ kvs[i]? = some (k, τ) := by
  induction h with
  | nil => intro i k y e; simp at e
  | @cons k' τ t kv kvs _ ih =>
    intro i k y e
    cases i with
    | zero => simp at e; obtain ⟨rfl, rfl⟩ := e; exact ⟨τ, t, rfl, rfl⟩
    | succ i => simpa using ih (by simpa using e)
theorem Ints2.val {kv : List (Int × Value)} {kvs : List (Int × Int)} (h : Ints2 kv kvs) (k : Int) : ∃ t, (valueAt kv k).getD .none = ov (look kvs k) t := by
  induction h with
  | nil => exact ⟨0, rfl⟩
  | @cons k' τ t kv kvs _ ih =>
    unfold valueAt look at ih ⊢
    rw [List.find?_cons, List.find?_cons]
    by_cases hk : k' = k
    · simp only [hk, decide_true]; exact ⟨t, rfl⟩
    · simp only [hk, decide_false]; exact ih
theorem Ints2.map {kv : List (Int × Value)} {kvs : List (Int × Int)} (h : Ints2 kv kvs) : kv.map (·.1) = kvs.map (·.1) := by
  induction h with
  | nil => rfl
  | cons _ ih => simp [ih]
theorem Ints2.none0 {kv : List (Int × Value)} {kvs : List (Int × Int)} (h : Ints2 kv kvs) (e : kv = []) : (kvs.map Prod.snd).min? = none := by
  subst e
  cases h
  rfl
theorem same_ov (o : Option Int) (t u : Tok) : Same (ov o t) (ov o u) := by
  cases o with
  | none => exact Same.refl _
  | some τ => exact Same.int τ t u
inductive Ovs (kvs : List (Int × Int)) : Nat → List Value → Prop
  | nil : Ovs kvs 0 []
  | snoc {i : Nat} {ys : List Value} {t : Tok} : Ovs kvs i ys → Ovs kvs (i + 1) (ys ++ [ov (look kvs ((i + 1 : Nat) : Int)) t])
theorem Sames.snoc {vs us : List Value} {v u : Value} (h : Sames vs us) (e : Same v u) : Sames (vs ++ [v]) (us ++ [u]) := by
  induction h with
  | nil => exact .cons e .nil
  | cons a _ ih => exact .cons a ih
theorem Ovs.same {kvs : List (Int × Int)} {n : Nat} {ys zs : List Value} (h : Ovs kvs n ys) (h' : Ovs kvs n zs) : Sames ys zs := by
  induction h generalizing zs with
  | nil => cases h'; exact .nil
  | snoc _ ih =>
    cases h' with
    | snoc h'' => exact (ih h'').snoc (same_ov _ _ _)
theorem four_at {t1 t2 t3 t4 : Tok} : ∀ {i : Nat} {v : Value}, i < 4 → (#[Value.int 1 t1, Value.int 2 t2, Value.int 3 t3, Value.int 4 t4] : Array Value)[i]? = some v → ∃ t, v = .int ((i + 1 : Nat) : Int) t
  | 0, v, _, h => ⟨t1, by simpa using h.symm⟩
  | 1, v, _, h => ⟨t2, by simpa using h.symm⟩
  | 2, v, _, h => ⟨t3, by simpa using h.symm⟩
  | 3, v, _, h => ⟨t4, by simpa using h.symm⟩
  | n + 4, _, h, _ => absurd h (by omega)
theorem nd_off3 {I C D : Addr} {l : Led} (Dl : (adrs l).Nodup) (off : LCg.Off3 I C D l) (ne : (@Ne Nat I C) ∧ (@Ne Nat I D) ∧ (@Ne Nat C D)) : (I :: C :: D :: adrs l).Nodup := by
  have hm := off.mem
  have h1 : ∀ x ∈ adrs l, x ≠ I ∧ x ≠ C ∧ x ≠ D := fun x hx => by
    obtain ⟨p, hp, rfl⟩ := List.mem_map.mp hx
    exact hm p hp
  refine List.nodup_cons.mpr ⟨fun h => ?_, List.nodup_cons.mpr ⟨fun h => ?_, List.nodup_cons.mpr ⟨fun h => (h1 _ h).2.2 rfl, Dl⟩⟩⟩
  · rcases List.mem_cons.mp h with e | h
    · exact ne.1 e
    · rcases List.mem_cons.mp h with e | h
      · exact ne.2.1 e
      · exact (h1 _ h).1 rfl
  · rcases List.mem_cons.mp h with e | h
    · exact ne.2.2 e
    · exact (h1 _ h).2.1 rfl
theorem sub_takes {all nf r : Led} (P : Takes all nf r) : ∀ p ∈ nf, p ∈ all := fun p hp => P.mem_iff.mpr (List.mem_append_left _ hp)
/-- rets_end, what is handed back being of the beginning -/
theorem rets_like {s : Shared} {fp led r1 : Led} {φ : Value → Led → Prop} {g : Heap} {s' : Shared} {L' : Addr} {m' : Str → Option Value} {v : Value} {nf : Led}
    {RR : Result → Shared → Prop} (hRR : ∀ r s', Rets s fp φ r s' → RR r s') (hg2 : ∀ b o, s.heap.get? b = some o → b ∉ adrs fp → g.get? b = some o)
    (F : Fr g L' s'.heap m') (N : News g L' s'.heap led) (hφ : φ v nf) (D : (adrs nf).Nodup) (P : Takes led nf r1) (hs : s' = { s with heap := s'.heap, toks := s'.toks } := by rfl) :
    RR (.ok (.ret v)) s' := rets_same hRR hg2 F N hφ D (sub_takes P) hs
section
variable {prog : Program} {w : World} {A : Around} {E : Value → Shared → Prop} {s : Shared} {h₀ : Heap} {L : Addr} {m : Str → Option Value} {news : Led} {Q : Value → Shared → Prop}
theorem eq_empty {a b : Addr} {oa ob : Obj} {ka : List (Int × Value)} {k : Nat} (lo : Lo k A) (N : News h₀ L s.heap news) (pa : (a, oa) ∈ news) (pb : (b, ob) ∈ news) (da : oa.IsDictOf (PySem.intKind prog w) ka) (db : ob.IsDictOf (PySem.intKind prog w) []) (la : (a == sysModules) = false) (lb : (b == sysModules) = false)
    (q0 : ka = [] → Q (.bool true) s) (q1 : 0 < ka.length → Q (.bool false) s) : wpAny (model prog w) A (compareOp .Eq (.ref a) (.ref b)) Q E s := by
  refine keq_eq (r := true) la lb (Heap.dictOf_iff.mpr ⟨oa, (N _ pa).1, da⟩) (Heap.dictOf_iff.mpr ⟨ob, (N _ pb).1, db⟩) lo.line (fun e => ?_) ?_
  · cases ka with
    | nil => exact .nil
    | cons p r => simp at e
  · cases ka with
    | nil => simpa using q0 rfl
    | cons p r => simpa using q1 (by simp)
theorem eq_L {a b : Addr} {vs us : List Value} {n n' k : Nat} (lo : Lo k A) (N : News h₀ L s.heap news) (pa : (a, listOf (List.toArray vs) n) ∈ news) (pb : (b, listOf (List.toArray us) n') ∈ news) (e : Sames vs us) (q : Q (.bool true) s) : wpAny (model prog w) A (compareOp .Eq (.ref a) (.ref b)) Q E s :=
  eq_lists (News.isList N pa) (News.isList N pb) e lo.line q
theorem ne_L {a b : Addr} {vs us : List Value} {n n' k : Nat} (lo : Lo k A) (N : News h₀ L s.heap news) (pa : (a, listOf (List.toArray vs) n) ∈ news) (pb : (b, listOf (List.toArray us) n') ∈ news) (e : Sames vs us) (q : Q (.bool false) s) : wpAny (model prog w) A (compareOp .NotEq (.ref a) (.ref b)) Q E s :=
  ne_lists (News.isList N pa) (News.isList N pb) e lo.line q
theorem ne_T {a b : Addr} {vs us : List Value} {n n' k : Nat} (lo : Lo k A) (N : News h₀ L s.heap news) (pa : (a, tupOf vs n) ∈ news) (pb : (b, tupOf us n') ∈ news) (e : Sames vs us) (q : Q (.bool false) s) : wpAny (model prog w) A (compareOp .NotEq (.ref a) (.ref b)) Q E s :=
  ne_tuples ⟨_, (N _ pa).1, rfl, _, rfl⟩ ⟨_, (N _ pb).1, rfl, _, rfl⟩ e lo.line q
theorem ovs_end {s₁ : Shared} {h' : Heap} {tk : Nat} {I C D ax : Addr} {oI oC oD : Obj} {all l0 r : Led} {its : Array Value} {n i : Nat} {kvs : List (Int × Int)} {ys : List Value} {t : Tok} (F : Fr h₀ L h' m) (N : News h₀ L h' all) (P : Takes all ((I, oI) :: (C, oC) :: (D, oD) :: l0) r) (off : LCg.Off3 I C D l0)
    (hm : (ax, listOf its n) ∈ l0) (hO : Ovs kvs i ys) :
    LCg.CompEnd h₀ L m s₁ I oI C oC D oD (LCg.SrcAt h₀ ax its) (fun y l' => l' = l0 ∧ Ovs kvs (i + 1) (ys ++ [y])) (ov (look kvs ((i + 1 : Nat) : Int)) t) { s₁ with heap := h', toks := tk } :=
  LCg.CompEnd.intro F N l0 (sub_takes P) off (Or.inr ⟨_, hm, rfl, _, rfl⟩) ⟨rfl, Ovs.snoc hO⟩
theorem get_ov {d : Addr} {o : Obj} {kv : List (Int × Value)} {kvs : List (Int × Int)} {k : Int} {tk : Tok} (N : News h₀ L s.heap news) (hp : (d, o) ∈ news) (hd : o.IsDictOf (PySem.intKind prog w) kv) (lo : (d == sysModules) = false) (hI : Ints2 kv kvs)
    (h : ∀ t, Q (ov (look kvs k) t) { s with toks := s.toks + 1 }) : wpAny (model prog w) A (call (.builtin "dict.get") [.ref d, .int k tk]) Q E s := by
  obtain ⟨t, e⟩ := hI.val k
  exact kdg_get1 N hp hd lo (intKind_is _ _ _ _) _ rfl (by rw [e]; exact h t)
theorem ne_ov {o : Option Int} {t u : Tok} (q : Q (.bool false) s) : wpAny (model prog w) A (compareOp .NotEq (ov o t) (ov o u)) Q E s := by
  cases o with
  | none => exact EqNone.ne_none_none q
  | some M => exact ne_int (by simpa using q)
end
end Mine
namespace Mine
open PySem PySem.W PySem.Spec PySem.Calls PyProof.Rows
theorem ln_Due_1 : True := by
 k_with_none
 k_with "m_enter" => ((
     case ho => k_is
     case hcd => k_is
     case hbind => first | exact BindsTo.of_eq rfl | exact binds_K (Frag.In.keeps (Base.X (by assumption)) (Has.stays (by assumption))) rfl (by k_is) rfl rfl rfl
     case hloc => exact locs rfl
     case hcell => decide
     case hco => exact rfl
     case hgen => exact rfl
     case hk => exact rfl
     intro RR hRR g L' h₁ A' lo' St hg1 hg2 F N D X T
     (try dsimp only [List.reverse, List.reverseAux, List.length] at *)))
 k_with "m_takes" => (first
     | exact Takes.nil
     | (refine' Takes.cons ?az047 ?bz047; (case az047 => walk_at "m_pull"); (case bz047 => walk_at "m_takes"))
     | (refine' Takes.app ?az047 ?bz047; (case az047 => walk_at "m_pullL"); (case bz047 => walk_at "m_takes"))
     | (refine' Takes.last ?az047; (case az047 => walk_at "m_pullL")))
 k_with "m_pull" => (first
     | exact Pull.head
     | (refine' Pull.tail ?az350; (case az350 => walk_at "m_pull"))
     | (refine' Pull.app ?az350; (case az350 => walk_at "m_pull")))
 k_with "m_pullL" => (first
     | exact PullL.head
     | exact PullL.whole
     | (refine' PullL.tail ?az531; (case az531 => walk_at "m_pullL"))
     | (refine' PullL.app ?az531; (case az531 => walk_at "m_pullL")))
 k_with "m_ends" => ((case p1 => ((try simp only [tcbLed]); (try simp only [whLed, List.append_assoc, List.cons_append, List.nil_append, List.append_nil]); (walk_at "m_takes"))))
 k_with "m_updn" => (first | exact UpdN.head | (refine' UpdN.tail ?az058; (case az058 => walk_at "m_updn")) | (refine' UpdN.app ?az058; (case az058 => walk_at "m_updn")))
 k_with "m_updg" => (first | exact UpdG.head | (refine' UpdG.tail ?az984; (case az984 => walk_at "m_updg")) | (refine' UpdG.app ?az984; (case az984 => walk_at "m_updg")))
 k_with "k_upd" => (k_dflt (refine' upd_of ?Dz233 ?Uz233; (case Dz233 => assumption); (case Uz233 => walk_at "m_updn")))
 k_with "k_updF" => (k_dflt (refine' updF_of ?Dz235 ?Uz235; (case Dz235 => assumption); (case Uz235 => walk_at "m_updg")))
 k_with "k_mem" => (first | with_reducible exact List.mem_cons_self | (with_reducible exact List.mem_append_left _ (by assumption)) | (with_reducible refine' List.mem_cons_of_mem _ ?mmz799; (case mmz799 => k_mem)) | (with_reducible refine' List.mem_append_right _ ?mmz799; (case mmz799 => k_mem)) | with_reducible assumption)
 k_with "getAttr ref" => ((k_dflt (refine' get_own ?k1z343 ?k2z343 ?k3z343 ?k4z343 ?k5z343 ?k6z343 ?k7z343 ?k8z343 ?k9z343 ?_; (case k1z343 => k_asm); (case k2z343 => k_asm); (case k3z343 => k_inst); (case k4z343 => k_is); (case k5z343 => k_is); (case k6z343 => k_is); (case k7z343 => k_is); (case k8z343 => k_get); (case k9z343 => k_handed); k_whole)))
 k_with "k_handed" => (assumption)
 k_with "k_units" => (first | exact Lo.line (by assumption) | exact Lo.line (Lo.in1 (by assumption)))
 k_with "k_room" => (exact Lo.room (by assumption))
 k_with "execs cons" => (((with_reducible show wpAny _ _ (execs (_ :: _) _) _ _ _); (k_dflt (refine execs_flat (s := s) ?_)); intro tkF))
 trivial
theorem due_c {w : World} {mean : ExcName → Option Value} {mg mb : Str → Option Value} {hb : Heap} {s : Shared} {A : Around} {ac dac : Addr} {oda : Obj} {due : Value}
   (B : Base (hd.heap_1 w.params) hd.view_1 LOOSE mean mg mb hb) (lo : Lo 1 A) (W : AckObj w due oda) (H : Has hb s [(ac, instObj 118 dac), (dac, oda)]) :
   codeAny (model PR w) A (.call (.ref 115) ⟨[.ref ac], []⟩) (Rets s [(ac, instObj 118 dac), (dac, oda)] (fun v nf => v = due ∧ nf = [(ac, instObj 118 dac), (dac, oda)])) s := by
  obtain ⟨k0, k1, k2, k3, t0, t1, v1, v3, rfl, _, hdu⟩ := W
  refine' enter (binds := [(Str.ofString "self", .ref ac)]) B H lo ?ho ?hcd ?hbind ?hloc ?h ?hcell ?hco ?hgen ?hk
  walk_at "m_enter"
  k_steps
  all_goals (try dsimp only)
  refine' rets_end hRR hg2 (by assumption) (by assumption) (by assumption) ⟨rfl, rfl⟩ ?p1
  walk_at "m_ends"
theorem sent_c {w : World} {mean : ExcName → Option Value} {mg mb : Str → Option Value} {hb : Heap} {s : Shared} {A : Around} {ac dac : Addr} {oda : Obj} {due : Value}
   (B : Base (hd.heap_1 w.params) hd.view_1 LOOSE mean mg mb hb) (lo : Lo 1 A) (W : AckObj w due oda) (H : Has hb s [(ac, instObj 118 dac), (dac, oda)]) :
   codeAny (model PR w) A (.call (.ref 108) ⟨[.ref ac], []⟩) (Rets s [(ac, instObj 118 dac), (dac, oda)] (fun v nf => v = .none ∧ ∃ o, AckObj w .none o ∧ nf = [(ac, instObj 118 dac), (dac, o)])) s := by
  obtain ⟨k0, k1, k2, k3, t0, t1, v1, v3, rfl, _, hdu⟩ := W
  refine' enter (binds := [(Str.ofString "self", .ref ac)]) B H lo ?ho ?hcd ?hbind ?hloc ?h ?hcell ?hco ?hgen ?hk
  walk_at "m_enter"
  k_steps
  all_goals (try dsimp only)
  refine' rets_end hRR hg2 (by assumption) (by assumption) (by assumption) ⟨rfl, _, ⟨_, _, _, _, _, _, 0, _, rfl, by decide, rfl⟩, rfl⟩ ?p1
  walk_at "m_ends"
end Mine
namespace Mine
open PySem PySem.W PySem.Spec PySem.Calls PyProof.Rows
section
theorem ln_Clo_1 : True := by
 k_with_none
 k_with "m_enter" => ((
     case ho => k_is
     case hcd => k_is
     case hbind => first | exact BindsTo.of_eq rfl | exact binds_K (Frag.In.keeps (Base.X (by assumption)) (Has.stays (by assumption))) rfl (by k_is) rfl rfl rfl
     case hloc => exact locs rfl
     case hcell => decide
     case hco => exact rfl
     case hgen => exact rfl
     case hk => exact rfl
     intro RR hRR g L' h₁ A' lo' St hg1 hg2 F N D X T
     (try dsimp only [List.reverse, List.reverseAux, List.length] at *)))
 k_with "m_takes" => (first
     | exact Takes.nil
     | (refine' Takes.cons ?az047 ?bz047; (case az047 => walk_at "m_pull"); (case bz047 => walk_at "m_takes"))
     | (refine' Takes.app ?az047 ?bz047; (case az047 => walk_at "m_pullL"); (case bz047 => walk_at "m_takes"))
     | (refine' Takes.last ?az047; (case az047 => walk_at "m_pullL")))
 k_with "m_pull" => (first
     | exact Pull.head
     | (refine' Pull.tail ?az350; (case az350 => walk_at "m_pull"))
     | (refine' Pull.app ?az350; (case az350 => walk_at "m_pull")))
 k_with "m_pullL" => (first
     | exact PullL.head
     | exact PullL.whole
     | (refine' PullL.tail ?az531; (case az531 => walk_at "m_pullL"))
     | (refine' PullL.app ?az531; (case az531 => walk_at "m_pullL")))
 k_with "m_ends" => ((case p1 => ((try simp only [tcbLed]); (try simp only [whLed, List.append_assoc, List.cons_append, List.nil_append, List.append_nil]); (walk_at "m_takes"))))
 k_with "m_updn" => (first | exact UpdN.head | (refine' UpdN.tail ?az058; (case az058 => walk_at "m_updn")) | (refine' UpdN.app ?az058; (case az058 => walk_at "m_updn")))
 k_with "m_updg" => (first | exact UpdG.head | (refine' UpdG.tail ?az984; (case az984 => walk_at "m_updg")) | (refine' UpdG.app ?az984; (case az984 => walk_at "m_updg")))
 k_with "k_upd" => (k_dflt (refine' upd_of ?Dz233 ?Uz233; (case Dz233 => assumption); (case Uz233 => walk_at "m_updn")))
 k_with "k_updF" => (k_dflt (refine' updF_of ?Dz235 ?Uz235; (case Dz235 => assumption); (case Uz235 => walk_at "m_updg")))
 k_with "k_mem" => (first | with_reducible exact List.mem_cons_self | (with_reducible exact List.mem_append_left _ (by assumption)) | (with_reducible refine' List.mem_cons_of_mem _ ?mmz799; (case mmz799 => k_mem)) | (with_reducible refine' List.mem_append_right _ ?mmz799; (case mmz799 => k_mem)) | with_reducible assumption)
 k_with "getMethod ref" => ((k_dflt (refine' method_inst ?k1z510 ?k2z510 ?k3z510 ?k4z510 ?k5z510 ?k6z510 ?k7z510 ?_; (case k1z510 => k_asm); (case k2z510 => k_asm); (case k3z510 => k_inst); (case k4z510 => k_is); (case k5z510 => k_is); (case k6z510 => k_is); (case k7z510 => k_get); k_whole)))
 k_with "getAttr ref" => ((k_dflt (refine' get_own ?k1z343 ?k2z343 ?k3z343 ?k4z343 ?k5z343 ?k6z343 ?k7z343 ?k8z343 ?k9z343 ?_; (case k1z343 => k_asm); (case k2z343 => k_asm); (case k3z343 => k_inst); (case k4z343 => k_is); (case k5z343 => k_is); (case k6z343 => k_is); (case k7z343 => k_is); (case k8z343 => k_get); (case k9z343 => k_handed); k_whole)))
 k_with "k_handed" => (assumption)
 k_with "k_units" => (first | exact Lo.line (by assumption) | exact Lo.line (Lo.in1 (by assumption)))
 k_with "k_room" => (exact Lo.room (by assumption))
 k_with "exec For Name Tuple cons nil" => (((rename Fr _ _ _ _ => lF'); (with_unfolding_all refine' For_invVF lF' ?k1z869 ?k2z869 ?_; (case k1z869 => exact rfl); (case k2z869 => exact rfl); k_whole)))
 k_with "pyIter ref" => (((with_reducible show wpAny _ _ (pyIter (Value.ref _)) (fun it s₂ => LoopAtV _ _ _ _ _ _ _ _ _ it s₂) _ _); (k_dflt (first
     | (refine' unr_tuple ?hhz581 ?Fz581 ?Nz581 ?Dz581 ?mz581 ?_; (case Fz581 => k_asm); (case Nz581 => k_asm); (case mz581 => k_mem); (case hhz581 => exact Lo.handled (by assumption)); (case Dz581 => k_asm))
     | (refine' unr_list ?hhz581 ?Fz581 ?Nz581 ?Dz581 ?mz581 ?_; (case Fz581 => k_asm); (case Nz581 => k_asm); (case mz581 => k_mem); (case hhz581 => exact Lo.handled (by assumption)); (case Dz581 => k_asm))))))
 k_with "UnrT" => ((k_dflt (first | (refine UnrT.cons ?_; intro I' oI' h' tk' Dn F' N') | (refine UnrT.nil ?_; intro h' tk' Dn F' N')); (try k_sweep)))
 k_with "MTurnPost" => ((k_dflt ((show TurnEnd _ _ _ _ _ _); (refine' TurnEnd.intro (by assumption) (by assumption) (by assumption) ?Pz235 ⟨?mz235, ?_⟩; (case Pz235 => walk_at "m_pull"); (case mz235 => k_mem)))))
 k_with "execs cons" => (((with_reducible show wpAny _ _ (execs (_ :: _) _) _ _ _); (k_dflt (refine execs_flat (s := s) ?_)); intro tkF))
 k_with "getAttr ref" => ((k_dflt (with_reducible refine' tcb_state ?yT ?yF ?yX ?yN ?yh1 ?yh2 ?_; (case yN => k_asm); (case yF => k_asm); (case yX => k_in); (case yh1 => k_mem); (case yh2 => k_mem); (case yT => assumption)); intro tS))
 k_with "getAttr ref" => ((k_dflt ((first | with_reducible refine' tcb_wheel ?Tz082 ?Fz082 ?Xz082 ?Nz082 ?h1z082 ?h2z082 ?_ | with_reducible refine' tcb_error ?Tz082 ?Fz082 ?Xz082 ?Nz082 ?h1z082 ?h2z082 ?_ | with_reducible refine' tcb_acks ?Tz082 ?Fz082 ?Xz082 ?Nz082 ?h1z082 ?h2z082 ?_ | with_reducible refine' tcb_limits ?Tz082 ?Fz082 ?Xz082 ?Nz082 ?h1z082 ?h2z082 ?_ | with_reducible refine' tcb_receiver ?Tz082 ?Fz082 ?Xz082 ?Nz082 ?h1z082 ?h2z082 ?_ | with_reducible refine' tcb_sender ?Tz082 ?Fz082 ?Xz082 ?Nz082 ?h1z082 ?h2z082 ?_ | with_reducible refine' tcb_local ?Tz082 ?Fz082 ?Xz082 ?Nz082 ?h1z082 ?h2z082 ?_ | with_reducible refine' tcb_remote ?Tz082 ?Fz082 ?Xz082 ?Nz082 ?h1z082 ?h2z082 ?_); (case Nz082 => k_asm); (case Fz082 => k_asm); (case Xz082 => k_in); (case h1z082 => k_mem); (case h2z082 => k_mem); (case Tz082 => assumption))))
 k_with "getMethod ref" => ((k_dflt ((first | with_reducible refine' wh_cancel ?Wz724 ?Fz724 ?Xz724 ?Nz724 ?Pz724 ?_ | with_reducible refine' wh_put ?Wz724 ?Fz724 ?Xz724 ?Nz724 ?Pz724 ?_ | with_reducible refine' wh_next_time ?Wz724 ?Fz724 ?Xz724 ?Nz724 ?Pz724 ?_ | with_reducible refine' wh_time_of ?Wz724 ?Fz724 ?Xz724 ?Nz724 ?Pz724 ?_); (case Nz724 => k_asm); (case Fz724 => k_asm); (case Xz724 => k_in); (case Wz724 => assumption); (case Pz724 => walk_at "m_pullL"))))
 k_with "setAttr ref" => ((k_dflt ((first | with_reducible refine' tcb_set_state ?zT ?zF ?zX ?zN ?zD ?zh1 ?zU ?_ | with_reducible refine' tcb_set_error rfl ?zT ?zF ?zX ?zN ?zD ?zh1 ?zU ?_ | with_reducible refine' tcb_set_error hev ?zT ?zF ?zX ?zN ?zD ?zh1 ?zU ?_ | with_reducible refine' tcb_set_receiver rfl ?zT ?zF ?zX ?zN ?zD ?zh1 ?zU ?_); (case zN => k_asm); (case zF => k_asm); (case zX => k_in); (case zD => k_asm); (case zh1 => k_mem); (case zU => walk_at "m_updg"); (case zT => assumption)); intro h' o' hT F' N' Dn; (try dsimp only at N' Dn); (try k_sweep)))
 k_with "call ref" => (((with_reducible show wpAny _ _ (call (Value.ref 775) [_, _]) _ _ _); (k_dflt (refine' use_call (by assumption) (by assumption) (by assumption) (by assumption) ?P (fun H => cancel_c B (Lo.mono (by assumption) (by decide)) (by assumption) ?hc H) ?_; (case P => walk_at "m_takes"); (case hc => omega))); (try clear DN); (refine elim1 ?_; intro nfN WN hN tkN FN NN DN); (try k_sweep)))
 k_with "call ref" => (((with_reducible show wpAny _ _ (call (Value.ref 761) [_, _, _]) _ _ _); (k_dflt (refine' use_call (by assumption) (by assumption) (by assumption) (by assumption) ?P (fun H => put_c B (Lo.mono (by assumption) (by decide)) (by assumption) ?hc H) ?_; (case P => walk_at "m_takes"); (case hc => omega))); (try clear DN); (refine elim1 ?_; intro nfN WN hN tkN FN NN DN); (try k_sweep)))
 k_with "getAttr ref" => ((k_dflt ((first | with_reducible refine' lim_time_wait ?xT ?xF ?xX ?xN ?xh1 ?xh2 ?_ | with_reducible refine' lim_receive_room ?xT ?xF ?xX ?xN ?xh1 ?xh2 ?_ | with_reducible refine' lim_mss ?xT ?xF ?xX ?xN ?xh1 ?xh2 ?_ | with_reducible refine' lim_ring ?xT ?xF ?xX ?xN ?xh1 ?xh2 ?_ | with_reducible refine' lim_send_room ?xT ?xF ?xX ?xN ?xh1 ?xh2 ?_ | with_reducible refine' lim_ack_delay ?xT ?xF ?xX ?xN ?xh1 ?xh2 ?_ | with_reducible refine' lim_first_timeout ?xT ?xF ?xX ?xN ?xh1 ?xh2 ?_ | with_reducible refine' lim_least_timeout ?xT ?xF ?xX ?xN ?xh1 ?xh2 ?_ | with_reducible refine' lim_most_timeout ?xT ?xF ?xX ?xN ?xh1 ?xh2 ?_ | with_reducible refine' lim_most_tries ?xT ?xF ?xX ?xN ?xh1 ?xh2 ?_ | with_reducible refine' rec_next ?xT ?xF ?xX ?xN ?xh1 ?xh2 ?_); (case xN => k_asm); (case xF => k_asm); (case xX => k_in); (case xh1 => k_mem); (case xh2 => k_mem); (case xT => assumption)); intro tI))
 k_with "getMethod ref" => ((k_dflt ((first | with_reducible refine' ack_on_sent ?xT ?xF ?xX ?xN ?xh1 ?xh2 ?_ | with_reducible refine' ack_due_time ?xT ?xF ?xX ?xN ?xh1 ?xh2 ?_ | with_reducible refine' ack_on_octets ?xT ?xF ?xX ?xN ?xh1 ?xh2 ?_ | with_reducible refine' rec_window ?xT ?xF ?xX ?xN ?xh1 ?xh2 ?_ | with_reducible refine' tcb_make ?xT ?xF ?xX ?xN ?xh1 ?xh2 ?_ | with_reducible refine' tcb_window_now ?xT ?xF ?xX ?xN ?xh1 ?xh2 ?_); (case xN => k_asm); (case xF => k_asm); (case xX => k_in); (case xh1 => k_mem); (case xh2 => k_mem); (case xT => first | assumption | exact AckNew.obj (by assumption)))))
 k_with "getAttr ref" => ((k_dflt ((with_reducible refine' snd_next ?xT ?xF ?xX ?xN ?xh1 ?xh2 ?_); (case xN => k_asm); (case xF => k_asm); (case xX => k_in); (case xh1 => k_mem); (case xh2 => k_mem); (case xT => assumption)); intro tI))
 trivial
theorem less4 {kvs : List (Int × Int)} (h : ∀ p ∈ kvs, 1 ≤ p.1 ∧ p.1 ≤ 4) : less (less (less (less kvs 1) 2) 3) 4 = [] := by
  unfold less
  simp only [List.filter_filter, List.filter_eq_nil_iff]
  intro p hp
  have := h p hp
  simp only [Bool.and_eq_true, decide_eq_true_eq, ne_eq, not_and, Classical.not_not]
  omega
theorem closed_n {w : World} {mean : ExcName → Option Value} {mg mb : Str → Option Value} {hb : Heap} {s : Shared} {A : Around} {t : Addr} {S : Str} {ev due : Value} {ro : Option Int} {c : Nat} {kvs : List (Int × Int)} {V : Led}
   (B : Base (hd.heap_1 w.params) hd.view_1 LOOSE mean mg mb hb) (lo : Lo 2 A) (W : TcbIs w t S ev due ro c kvs V) (hc : c ≤ 50) (hk : ∀ p ∈ kvs, 1 ≤ p.1 ∧ p.1 ≤ 4) (H : Has hb s V) :
   codeAny (model PR w) A (.call (.ref 877) ⟨[.ref t, .none], []⟩) (Rets s V (fun v nf => v = .none ∧ TcbIs w t (Str.ofString "closed") ev due ro c [] nf)) s := by
  revert H
  refine TcbIs.elim (G := fun V => Has hb s V → codeAny (model PR w) A _ (Rets s V _) s) W ?_
  intro dt odt lim dlim odl loc rem v1 v2 tl tr n1 n2 snd dsnd ods ac dac oda RL WL wh rv hT hL hSn hA hR WN H
  dsimp only [tcbLed] at H ⊢
  refine' enter (binds := [(Str.ofString "tcb", .ref t), (Str.ofString "error", .none)]) B H lo ?ho ?hcd ?hbind ?hloc ?h ?hcell ?hco ?hgen ?hk
  walk_at "m_enter"
  k_steps
  all_goals (try dsimp only)
  rw [less4 hk] at WN
  refine' rets_end hRR hg2 (by assumption) (by assumption) (by assumption) ⟨rfl, TcbIs.intro hT hL hSn hA hR WN⟩ ?p1
  walk_at "m_ends"
theorem closed_s {w : World} {mean : ExcName → Option Value} {mg mb : Str → Option Value} {hb : Heap} {s : Shared} {A : Around} {t : Addr} {S : Str} {ev due : Value} {ro : Option Int} {c : Nat} {kvs : List (Int × Int)} {V : Led} {E : Str} {tE : Tok}
   (B : Base (hd.heap_1 w.params) hd.view_1 LOOSE mean mg mb hb) (lo : Lo 2 A) (W : TcbIs w t S ev due ro c kvs V) (hc : c ≤ 50) (hk : ∀ p ∈ kvs, 1 ≤ p.1 ∧ p.1 ≤ 4) (H : Has hb s V) :
   codeAny (model PR w) A (.call (.ref 877) ⟨[.ref t, .str E tE], []⟩) (Rets s V (fun v nf => v = .none ∧ TcbIs w t (Str.ofString "closed") (.str E tE) due ro c [] nf)) s := by
  revert H
  refine TcbIs.elim (G := fun V => Has hb s V → codeAny (model PR w) A _ (Rets s V _) s) W ?_
  intro dt odt lim dlim odl loc rem v1 v2 tl tr n1 n2 snd dsnd ods ac dac oda RL WL wh rv hT hL hSn hA hR WN H
  dsimp only [tcbLed] at H ⊢
  refine' enter (binds := [(Str.ofString "tcb", .ref t), (Str.ofString "error", .str E tE)]) B H lo ?ho ?hcd ?hbind ?hloc ?h ?hcell ?hco ?hgen ?hk
  walk_at "m_enter"
  k_steps
  all_goals (try dsimp only)
  rw [less4 hk] at WN
  refine' rets_end hRR hg2 (by assumption) (by assumption) (by assumption) ⟨rfl, TcbIs.intro hT hL hSn hA hR WN⟩ ?p1
  walk_at "m_ends"
end
end Mine
namespace Mine
open PySem PySem.W PySem.Spec PySem.Calls PyProof.Rows
section
theorem ln_Etw_1 : True := by
 k_with_none
 k_with "m_enter" => ((
     case ho => k_is
     case hcd => k_is
     case hbind => first | exact BindsTo.of_eq rfl | exact binds_K (Frag.In.keeps (Base.X (by assumption)) (Has.stays (by assumption))) rfl (by k_is) rfl rfl rfl
     case hloc => exact locs rfl
     case hcell => decide
     case hco => exact rfl
     case hgen => exact rfl
     case hk => exact rfl
     intro RR hRR g L' h₁ A' lo' St hg1 hg2 F N D X T
     (try dsimp only [List.reverse, List.reverseAux, List.length] at *)))
 k_with "m_takes" => (first
     | exact Takes.nil
     | (refine' Takes.cons ?az047 ?bz047; (case az047 => walk_at "m_pull"); (case bz047 => walk_at "m_takes"))
     | (refine' Takes.app ?az047 ?bz047; (case az047 => walk_at "m_pullL"); (case bz047 => walk_at "m_takes"))
     | (refine' Takes.last ?az047; (case az047 => walk_at "m_pullL")))
 k_with "m_pull" => (first
     | exact Pull.head
     | (refine' Pull.tail ?az350; (case az350 => walk_at "m_pull"))
     | (refine' Pull.app ?az350; (case az350 => walk_at "m_pull")))
 k_with "m_pullL" => (first
     | exact PullL.head
     | exact PullL.whole
     | (refine' PullL.tail ?az531; (case az531 => walk_at "m_pullL"))
     | (refine' PullL.app ?az531; (case az531 => walk_at "m_pullL")))
 k_with "m_ends" => ((case p1 => ((try simp only [tcbLed]); (try simp only [whLed, List.append_assoc, List.cons_append, List.nil_append, List.append_nil]); (walk_at "m_takes"))))
 k_with "m_updn" => (first | exact UpdN.head | (refine' UpdN.tail ?az058; (case az058 => walk_at "m_updn")) | (refine' UpdN.app ?az058; (case az058 => walk_at "m_updn")))
 k_with "m_updg" => (first | exact UpdG.head | (refine' UpdG.tail ?az984; (case az984 => walk_at "m_updg")) | (refine' UpdG.app ?az984; (case az984 => walk_at "m_updg")))
 k_with "k_upd" => (k_dflt (refine' upd_of ?Dz233 ?Uz233; (case Dz233 => assumption); (case Uz233 => walk_at "m_updn")))
 k_with "k_updF" => (k_dflt (refine' updF_of ?Dz235 ?Uz235; (case Dz235 => assumption); (case Uz235 => walk_at "m_updg")))
 k_with "k_mem" => (first | with_reducible exact List.mem_cons_self | (with_reducible exact List.mem_append_left _ (by assumption)) | (with_reducible refine' List.mem_cons_of_mem _ ?mmz799; (case mmz799 => k_mem)) | (with_reducible refine' List.mem_append_right _ ?mmz799; (case mmz799 => k_mem)) | with_reducible assumption)
 k_with "getMethod ref" => ((k_dflt (refine' method_inst ?k1z510 ?k2z510 ?k3z510 ?k4z510 ?k5z510 ?k6z510 ?k7z510 ?_; (case k1z510 => k_asm); (case k2z510 => k_asm); (case k3z510 => k_inst); (case k4z510 => k_is); (case k5z510 => k_is); (case k6z510 => k_is); (case k7z510 => k_get); k_whole)))
 k_with "getAttr ref" => ((k_dflt (refine' get_own ?k1z343 ?k2z343 ?k3z343 ?k4z343 ?k5z343 ?k6z343 ?k7z343 ?k8z343 ?k9z343 ?_; (case k1z343 => k_asm); (case k2z343 => k_asm); (case k3z343 => k_inst); (case k4z343 => k_is); (case k5z343 => k_is); (case k6z343 => k_is); (case k7z343 => k_is); (case k8z343 => k_get); (case k9z343 => k_handed); k_whole)))
 k_with "k_handed" => (assumption)
 k_with "k_units" => (first | exact Lo.line (by assumption) | exact Lo.line (Lo.in1 (by assumption)))
 k_with "k_room" => (exact Lo.room (by assumption))
 k_with "exec For Name Tuple cons nil" => (((rename Fr _ _ _ _ => lF'); (with_unfolding_all refine' For_invVF lF' ?k1z869 ?k2z869 ?_; (case k1z869 => exact rfl); (case k2z869 => exact rfl); k_whole)))
 k_with "pyIter ref" => (((with_reducible show wpAny _ _ (pyIter (Value.ref _)) (fun it s₂ => LoopAtV _ _ _ _ _ _ _ _ _ it s₂) _ _); (k_dflt (first
     | (refine' unr_tuple ?hhz581 ?Fz581 ?Nz581 ?Dz581 ?mz581 ?_; (case Fz581 => k_asm); (case Nz581 => k_asm); (case mz581 => k_mem); (case hhz581 => exact Lo.handled (by assumption)); (case Dz581 => k_asm))
     | (refine' unr_list ?hhz581 ?Fz581 ?Nz581 ?Dz581 ?mz581 ?_; (case Fz581 => k_asm); (case Nz581 => k_asm); (case mz581 => k_mem); (case hhz581 => exact Lo.handled (by assumption)); (case Dz581 => k_asm))))))
 k_with "UnrT" => ((k_dflt (first | (refine UnrT.cons ?_; intro I' oI' h' tk' Dn F' N') | (refine UnrT.nil ?_; intro h' tk' Dn F' N')); (try k_sweep)))
 k_with "MTurnPost" => ((k_dflt ((show TurnEnd _ _ _ _ _ _); (refine' TurnEnd.intro (by assumption) (by assumption) (by assumption) ?Pz235 ⟨?mz235, ?_⟩; (case Pz235 => walk_at "m_pull"); (case mz235 => k_mem)))))
 k_with "execs cons" => (((with_reducible show wpAny _ _ (execs (_ :: _) _) _ _ _); (k_dflt (refine execs_flat (s := s) ?_)); intro tkF))
 k_with "getAttr ref" => ((k_dflt (with_reducible refine' tcb_state ?yT ?yF ?yX ?yN ?yh1 ?yh2 ?_; (case yN => k_asm); (case yF => k_asm); (case yX => k_in); (case yh1 => k_mem); (case yh2 => k_mem); (case yT => assumption)); intro tS))
 k_with "getAttr ref" => ((k_dflt ((first | with_reducible refine' tcb_wheel ?Tz082 ?Fz082 ?Xz082 ?Nz082 ?h1z082 ?h2z082 ?_ | with_reducible refine' tcb_error ?Tz082 ?Fz082 ?Xz082 ?Nz082 ?h1z082 ?h2z082 ?_ | with_reducible refine' tcb_acks ?Tz082 ?Fz082 ?Xz082 ?Nz082 ?h1z082 ?h2z082 ?_ | with_reducible refine' tcb_limits ?Tz082 ?Fz082 ?Xz082 ?Nz082 ?h1z082 ?h2z082 ?_ | with_reducible refine' tcb_receiver ?Tz082 ?Fz082 ?Xz082 ?Nz082 ?h1z082 ?h2z082 ?_ | with_reducible refine' tcb_sender ?Tz082 ?Fz082 ?Xz082 ?Nz082 ?h1z082 ?h2z082 ?_ | with_reducible refine' tcb_local ?Tz082 ?Fz082 ?Xz082 ?Nz082 ?h1z082 ?h2z082 ?_ | with_reducible refine' tcb_remote ?Tz082 ?Fz082 ?Xz082 ?Nz082 ?h1z082 ?h2z082 ?_); (case Nz082 => k_asm); (case Fz082 => k_asm); (case Xz082 => k_in); (case h1z082 => k_mem); (case h2z082 => k_mem); (case Tz082 => assumption))))
 k_with "getMethod ref" => ((k_dflt ((first | with_reducible refine' wh_cancel ?Wz724 ?Fz724 ?Xz724 ?Nz724 ?Pz724 ?_ | with_reducible refine' wh_put ?Wz724 ?Fz724 ?Xz724 ?Nz724 ?Pz724 ?_ | with_reducible refine' wh_next_time ?Wz724 ?Fz724 ?Xz724 ?Nz724 ?Pz724 ?_ | with_reducible refine' wh_time_of ?Wz724 ?Fz724 ?Xz724 ?Nz724 ?Pz724 ?_); (case Nz724 => k_asm); (case Fz724 => k_asm); (case Xz724 => k_in); (case Wz724 => assumption); (case Pz724 => walk_at "m_pullL"))))
 k_with "setAttr ref" => ((k_dflt ((first | with_reducible refine' tcb_set_state ?zT ?zF ?zX ?zN ?zD ?zh1 ?zU ?_ | with_reducible refine' tcb_set_error rfl ?zT ?zF ?zX ?zN ?zD ?zh1 ?zU ?_ | with_reducible refine' tcb_set_error hev ?zT ?zF ?zX ?zN ?zD ?zh1 ?zU ?_ | with_reducible refine' tcb_set_receiver rfl ?zT ?zF ?zX ?zN ?zD ?zh1 ?zU ?_); (case zN => k_asm); (case zF => k_asm); (case zX => k_in); (case zD => k_asm); (case zh1 => k_mem); (case zU => walk_at "m_updg"); (case zT => assumption)); intro h' o' hT F' N' Dn; (try dsimp only at N' Dn); (try k_sweep)))
 k_with "call ref" => (((with_reducible show wpAny _ _ (call (Value.ref 775) [_, _]) _ _ _); (k_dflt (refine' use_call (by assumption) (by assumption) (by assumption) (by assumption) ?P (fun H => cancel_c B (Lo.mono (by assumption) (by decide)) (by assumption) ?hc H) ?_; (case P => walk_at "m_takes"); (case hc => omega))); (try clear DN); (refine elim1 ?_; intro nfN WN hN tkN FN NN DN); (try k_sweep)))
 k_with "call ref" => (((with_reducible show wpAny _ _ (call (Value.ref 761) [_, _, _]) _ _ _); (k_dflt (refine' use_call (by assumption) (by assumption) (by assumption) (by assumption) ?P (fun H => put_c B (Lo.mono (by assumption) (by decide)) (by assumption) ?hc H) ?_; (case P => walk_at "m_takes"); (case hc => omega))); (try clear DN); (refine elim1 ?_; intro nfN WN hN tkN FN NN DN); (try k_sweep)))
 k_with "getAttr ref" => ((k_dflt ((first | with_reducible refine' lim_time_wait ?xT ?xF ?xX ?xN ?xh1 ?xh2 ?_ | with_reducible refine' lim_receive_room ?xT ?xF ?xX ?xN ?xh1 ?xh2 ?_ | with_reducible refine' lim_mss ?xT ?xF ?xX ?xN ?xh1 ?xh2 ?_ | with_reducible refine' lim_ring ?xT ?xF ?xX ?xN ?xh1 ?xh2 ?_ | with_reducible refine' lim_send_room ?xT ?xF ?xX ?xN ?xh1 ?xh2 ?_ | with_reducible refine' lim_ack_delay ?xT ?xF ?xX ?xN ?xh1 ?xh2 ?_ | with_reducible refine' lim_first_timeout ?xT ?xF ?xX ?xN ?xh1 ?xh2 ?_ | with_reducible refine' lim_least_timeout ?xT ?xF ?xX ?xN ?xh1 ?xh2 ?_ | with_reducible refine' lim_most_timeout ?xT ?xF ?xX ?xN ?xh1 ?xh2 ?_ | with_reducible refine' lim_most_tries ?xT ?xF ?xX ?xN ?xh1 ?xh2 ?_ | with_reducible refine' rec_next ?xT ?xF ?xX ?xN ?xh1 ?xh2 ?_); (case xN => k_asm); (case xF => k_asm); (case xX => k_in); (case xh1 => k_mem); (case xh2 => k_mem); (case xT => assumption)); intro tI))
 k_with "getMethod ref" => ((k_dflt ((first | with_reducible refine' ack_on_sent ?xT ?xF ?xX ?xN ?xh1 ?xh2 ?_ | with_reducible refine' ack_due_time ?xT ?xF ?xX ?xN ?xh1 ?xh2 ?_ | with_reducible refine' ack_on_octets ?xT ?xF ?xX ?xN ?xh1 ?xh2 ?_ | with_reducible refine' rec_window ?xT ?xF ?xX ?xN ?xh1 ?xh2 ?_ | with_reducible refine' tcb_make ?xT ?xF ?xX ?xN ?xh1 ?xh2 ?_ | with_reducible refine' tcb_window_now ?xT ?xF ?xX ?xN ?xh1 ?xh2 ?_); (case xN => k_asm); (case xF => k_asm); (case xX => k_in); (case xh1 => k_mem); (case xh2 => k_mem); (case xT => first | assumption | exact AckNew.obj (by assumption)))))
 k_with "getAttr ref" => ((k_dflt ((with_reducible refine' snd_next ?xT ?xF ?xX ?xN ?xh1 ?xh2 ?_); (case xN => k_asm); (case xF => k_asm); (case xX => k_in); (case xh1 => k_mem); (case xh2 => k_mem); (case xT => assumption)); intro tI))
 trivial
theorem etw_c {w : World} {mean : ExcName → Option Value} {mg mb : Str → Option Value} {hb : Heap} {s : Shared} {A : Around} {t : Addr} {S : Str} {ev due : Value} {ro : Option Int} {c : Nat} {kvs : List (Int × Int)} {V : Led} {now : Int} {tn : Tok}
   (B : Base (hd.heap_1 w.params) hd.view_1 LOOSE mean mg mb hb) (lo : Lo 3 A) (W : TcbIs w t S ev due ro c kvs V) (hc : c ≤ 40) (hnow : 0 ≤ now ∧ now ≤ 1000) (H : Has hb s V) :
   codeAny (model PR w) A (.call (.ref 884) ⟨[.ref t, .int now tn], []⟩) (Rets s V (fun v nf => v = .none ∧ TcbIs w t (Str.ofString "time wait") ev due ro (c + 1) (less (less (less kvs 1) 2) 4 ++ [(4, now + 12)]) nf)) s := by
  revert H
  refine TcbIs.elim (G := fun V => Has hb s V → codeAny (model PR w) A _ (Rets s V _) s) W ?_
  intro dt odt lim dlim odl loc rem v1 v2 tl tr n1 n2 snd dsnd ods ac dac oda RL WL wh rv hT hL hSn hA hR WN H
  dsimp only [tcbLed] at H ⊢
  refine' enter (binds := [(Str.ofString "tcb", .ref t), (Str.ofString "now", .int now tn)]) B H lo ?ho ?hcd ?hbind ?hloc ?h ?hcell ?hco ?hgen ?hk
  walk_at "m_enter"
  k_steps
  all_goals (try dsimp only)
  refine' rets_end hRR hg2 (by assumption) (by assumption) (by assumption) ⟨rfl, TcbIs.intro hT hL hSn hA hR WN⟩ ?p1
  walk_at "m_ends"
end
end Mine
namespace Mine
open PySem PySem.W PySem.Spec PySem.Calls PyProof.Rows
section
variable {w : World} {A : Around} {E : Value → Shared → Prop} {s : Shared} {h₀ : Heap} {L : Addr} {m : Str → Option Value} {env : Env} {news : Led}
theorem ln_Stands_1 : True := by
 k_with_none
 k_with "m_takes" => (first
     | exact Takes.nil
     | (refine' Takes.cons ?az047 ?bz047; (case az047 => walk_at "m_pull"); (case bz047 => walk_at "m_takes"))
     | (refine' Takes.app ?az047 ?bz047; (case az047 => walk_at "m_pullL"); (case bz047 => walk_at "m_takes"))
     | (refine' Takes.last ?az047; (case az047 => walk_at "m_pullL")))
 k_with "m_pull" => (first
     | exact Pull.head
     | (refine' Pull.tail ?az350; (case az350 => walk_at "m_pull"))
     | (refine' Pull.app ?az350; (case az350 => walk_at "m_pull")))
 k_with "m_pullL" => (first
     | exact PullL.head
     | exact PullL.whole
     | (refine' PullL.tail ?az531; (case az531 => walk_at "m_pullL"))
     | (refine' PullL.app ?az531; (case az531 => walk_at "m_pullL")))
 k_with "m_ends" => ((case p1 => ((try simp only [tcbLed]); (try simp only [whLed, List.append_assoc, List.cons_append, List.nil_append, List.append_nil]); (walk_at "m_takes"))))
 k_with "m_updn" => (first | exact UpdN.head | (refine' UpdN.tail ?az058; (case az058 => walk_at "m_updn")) | (refine' UpdN.app ?az058; (case az058 => walk_at "m_updn")))
 k_with "m_updg" => (first | exact UpdG.head | (refine' UpdG.tail ?az984; (case az984 => walk_at "m_updg")) | (refine' UpdG.app ?az984; (case az984 => walk_at "m_updg")))
 k_with "k_upd" => (k_dflt (refine' upd_of ?Dz233 ?Uz233; (case Dz233 => assumption); (case Uz233 => walk_at "m_updn")))
 k_with "k_updF" => (k_dflt (refine' updF_of ?Dz235 ?Uz235; (case Dz235 => assumption); (case Uz235 => walk_at "m_updg")))
 k_with "k_mem" => (first | with_reducible exact List.mem_cons_self | (with_reducible exact List.mem_append_left _ (by assumption)) | (with_reducible refine' List.mem_cons_of_mem _ ?mmz799; (case mmz799 => k_mem)) | (with_reducible refine' List.mem_append_right _ ?mmz799; (case mmz799 => k_mem)) | with_reducible assumption)
 k_with "getMethod ref" => ((k_dflt (refine' method_inst ?k1z510 ?k2z510 ?k3z510 ?k4z510 ?k5z510 ?k6z510 ?k7z510 ?_; (case k1z510 => k_asm); (case k2z510 => k_asm); (case k3z510 => k_inst); (case k4z510 => k_is); (case k5z510 => k_is); (case k6z510 => k_is); (case k7z510 => k_get); k_whole)))
 k_with "getAttr ref" => ((k_dflt (refine' get_own ?k1z343 ?k2z343 ?k3z343 ?k4z343 ?k5z343 ?k6z343 ?k7z343 ?k8z343 ?k9z343 ?_; (case k1z343 => k_asm); (case k2z343 => k_asm); (case k3z343 => k_inst); (case k4z343 => k_is); (case k5z343 => k_is); (case k6z343 => k_is); (case k7z343 => k_is); (case k8z343 => k_get); (case k9z343 => k_handed); k_whole)))
 k_with "k_handed" => (assumption)
 k_with "k_units" => (first | exact Lo.line (by assumption) | exact Lo.line (Lo.in1 (by assumption)))
 k_with "k_room" => (exact Lo.room (by assumption))
 k_with "m_enterC" => ((
     case ho => k_is
     case hcd => k_is
     case hbind => first | exact BindsTo.of_eq rfl | exact binds_K (Frag.In.keeps (Base.X (by assumption)) (Has.stays (by assumption))) rfl (by k_is) rfl rfl rfl
     case hkind => exact rfl
     case hnd => decide +kernel
     case hco => exact rfl
     case hgen => exact rfl
     case hk => exact rfl
     intro RR hRR g L' h₁ A' tkc cells lo' St hg1 hg2 F N D Y X T
     k_cells Y
     (simp only [List.cons_append, List.nil_append] at N D)
     (try dsimp only)))
 k_with "m_lcD" => (k_dflt (refine' lcD (knd := PySem.intKind _ _) ?F ?a ?b ?c ?d ?e ?_ ?s; (case F => k_asm); (case a => with_unfolding_all rfl); (case b => decide); (case c => rfl); (case d => decide); (case e => rfl); (case s => (intro _; rfl))))
 k_with "m_srcD" => (k_dflt (refine' ⟨_, _, _, _, rfl, Lo.handled (by assumption), by k_asm, by k_asm, ?m, ?hd, ?lo, ?sz, ?_⟩; (case m => k_mem); (case hd => assumption); (case lo => assumption); (case sz => (rw [sizeLine_eq]; omega)); rintro s₂ ⟨gH, rfl⟩))
 k_with "m_compEnd" => (k_dflt (refine' LCg.CompEnd.intro (by assumption) (by assumption) _ ?subz628 (by assumption) ?hSz628 ?_; (case subz628 => exact fun _ hp => hp); (case hSz628 => k_mem)))
 k_with "m_dictTail" => ((k_dflt (refine' kdt_tail (knd := PySem.intKind _ _) ?Nz296 ?mz296 ?dz296 ?_ ?hsz296; (case Nz296 => k_asm); (case mz296 => k_mem); (case dz296 => assumption); (case hsz296 => with_unfolding_all rfl))))
 k_with "FinE" => (((k_dflt (intro D' h' tk' F' N' o1')); (k_dflt (have Dn := nd_off (by assumption) o1')); (try k_sweep)))
 k_with "execs cons" => (((with_reducible show wpAny _ _ (execs (_ :: _) _) _ _ _); (k_dflt (refine execs_flat (s := s) ?_)); intro tkF))
 k_with "getAttr ref" => ((k_dflt (with_reducible refine' tcb_state ?yT ?yF ?yX ?yN ?yh1 ?yh2 ?_; (case yN => k_asm); (case yF => k_asm); (case yX => k_in); (case yh1 => k_mem); (case yh2 => k_mem); (case yT => assumption)); intro tS))
 k_with "getAttr ref" => ((k_dflt ((first | with_reducible refine' tcb_wheel ?Tz082 ?Fz082 ?Xz082 ?Nz082 ?h1z082 ?h2z082 ?_ | with_reducible refine' tcb_error ?Tz082 ?Fz082 ?Xz082 ?Nz082 ?h1z082 ?h2z082 ?_ | with_reducible refine' tcb_acks ?Tz082 ?Fz082 ?Xz082 ?Nz082 ?h1z082 ?h2z082 ?_ | with_reducible refine' tcb_limits ?Tz082 ?Fz082 ?Xz082 ?Nz082 ?h1z082 ?h2z082 ?_ | with_reducible refine' tcb_receiver ?Tz082 ?Fz082 ?Xz082 ?Nz082 ?h1z082 ?h2z082 ?_ | with_reducible refine' tcb_sender ?Tz082 ?Fz082 ?Xz082 ?Nz082 ?h1z082 ?h2z082 ?_ | with_reducible refine' tcb_local ?Tz082 ?Fz082 ?Xz082 ?Nz082 ?h1z082 ?h2z082 ?_ | with_reducible refine' tcb_remote ?Tz082 ?Fz082 ?Xz082 ?Nz082 ?h1z082 ?h2z082 ?_); (case Nz082 => k_asm); (case Fz082 => k_asm); (case Xz082 => k_in); (case h1z082 => k_mem); (case h2z082 => k_mem); (case Tz082 => assumption))))
 k_with "getMethod ref" => ((k_dflt ((first | with_reducible refine' wh_cancel ?Wz724 ?Fz724 ?Xz724 ?Nz724 ?Pz724 ?_ | with_reducible refine' wh_put ?Wz724 ?Fz724 ?Xz724 ?Nz724 ?Pz724 ?_ | with_reducible refine' wh_next_time ?Wz724 ?Fz724 ?Xz724 ?Nz724 ?Pz724 ?_ | with_reducible refine' wh_time_of ?Wz724 ?Fz724 ?Xz724 ?Nz724 ?Pz724 ?_); (case Nz724 => k_asm); (case Fz724 => k_asm); (case Xz724 => k_in); (case Wz724 => assumption); (case Pz724 => walk_at "m_pullL"))))
 k_with "call ref" => (((with_reducible show wpAny _ _ (call (Value.ref 775) [_, _]) _ _ _); (k_dflt (refine' use_call (by assumption) (by assumption) (by assumption) (by assumption) ?P (fun H => cancel_c B (Lo.mono (by assumption) (by decide)) (by assumption) ?hc H) ?_; (case P => walk_at "m_takes"); (case hc => omega))); (try clear DN); (refine elim1 ?_; intro nfN WN hN tkN FN NN DN); (try k_sweep)))
 k_with "call ref" => (((with_reducible show wpAny _ _ (call (Value.ref 761) [_, _, _]) _ _ _); (k_dflt (refine' use_call (by assumption) (by assumption) (by assumption) (by assumption) ?P (fun H => put_c B (Lo.mono (by assumption) (by decide)) (by assumption) ?hc H) ?_; (case P => walk_at "m_takes"); (case hc => omega))); (try clear DN); (refine elim1 ?_; intro nfN WN hN tkN FN NN DN); (try k_sweep)))
 k_with "getAttr ref" => ((k_dflt ((first | with_reducible refine' lim_time_wait ?xT ?xF ?xX ?xN ?xh1 ?xh2 ?_ | with_reducible refine' lim_receive_room ?xT ?xF ?xX ?xN ?xh1 ?xh2 ?_ | with_reducible refine' lim_mss ?xT ?xF ?xX ?xN ?xh1 ?xh2 ?_ | with_reducible refine' lim_ring ?xT ?xF ?xX ?xN ?xh1 ?xh2 ?_ | with_reducible refine' lim_send_room ?xT ?xF ?xX ?xN ?xh1 ?xh2 ?_ | with_reducible refine' lim_ack_delay ?xT ?xF ?xX ?xN ?xh1 ?xh2 ?_ | with_reducible refine' lim_first_timeout ?xT ?xF ?xX ?xN ?xh1 ?xh2 ?_ | with_reducible refine' lim_least_timeout ?xT ?xF ?xX ?xN ?xh1 ?xh2 ?_ | with_reducible refine' lim_most_timeout ?xT ?xF ?xX ?xN ?xh1 ?xh2 ?_ | with_reducible refine' lim_most_tries ?xT ?xF ?xX ?xN ?xh1 ?xh2 ?_ | with_reducible refine' rec_next ?xT ?xF ?xX ?xN ?xh1 ?xh2 ?_); (case xN => k_asm); (case xF => k_asm); (case xX => k_in); (case xh1 => k_mem); (case xh2 => k_mem); (case xT => assumption)); intro tI))
 k_with "getMethod ref" => ((k_dflt ((first | with_reducible refine' ack_on_sent ?xT ?xF ?xX ?xN ?xh1 ?xh2 ?_ | with_reducible refine' ack_due_time ?xT ?xF ?xX ?xN ?xh1 ?xh2 ?_ | with_reducible refine' ack_on_octets ?xT ?xF ?xX ?xN ?xh1 ?xh2 ?_ | with_reducible refine' rec_window ?xT ?xF ?xX ?xN ?xh1 ?xh2 ?_ | with_reducible refine' tcb_make ?xT ?xF ?xX ?xN ?xh1 ?xh2 ?_ | with_reducible refine' tcb_window_now ?xT ?xF ?xX ?xN ?xh1 ?xh2 ?_); (case xN => k_asm); (case xF => k_asm); (case xX => k_in); (case xh1 => k_mem); (case xh2 => k_mem); (case xT => first | assumption | exact AckNew.obj (by assumption)))))
 k_with "getAttr ref" => ((k_dflt ((with_reducible refine' snd_next ?xT ?xF ?xX ?xN ?xh1 ?xh2 ?_); (case xN => k_asm); (case xF => k_asm); (case xX => k_in); (case xh1 => k_mem); (case xh2 => k_mem); (case xT => assumption)); intro tI))
 k_with "call ref" => (((k_dflt (show wpAny _ _ (call (Value.ref 115) [_]) _ _ _)); (k_dflt (refine' use_call (by assumption) (by assumption) (by assumption) (by assumption) ?P (fun H => due_c B (Lo.mono (by assumption) (by decide)) (by assumption) H) ?_; (case P => walk_at "m_takes"))); (try clear DN); (refine elim0 ?_; intro hN tkN FN NN DN); (simp only [List.cons_append, List.nil_append] at NN DN); (try k_sweep)))
 k_with "call ref" => (((k_dflt (show wpAny _ _ (call (Value.ref 787) [_]) _ _ _)); (k_dflt (refine' use_call (by assumption) (by assumption) (by assumption) (by assumption) ?P (fun H => next_time_c B (Lo.mono (by assumption) (by decide)) (by assumption) ?hc H) ?_; (case P => walk_at "m_takes"); (case hc => omega))); (try clear DN); (refine elimT ?_; intro tN hN tkN FN NN DN); (try k_sweep)))
 k_with "call ref" => (((with_reducible show wpAny _ _ (call (Value.ref 782) [_, _]) _ _ _); (k_dflt (refine' use_call (by assumption) (by assumption) (by assumption) (by assumption) ?P (fun H => time_of_c B (Lo.mono (by assumption) (by decide)) (by assumption) H) ?_; (case P => walk_at "m_takes"))); (try clear DN); (refine elimT ?_; intro tN hN tkN FN NN DN); (try k_sweep)))
 trivial
theorem lc_ovs {elt : Expr} {x : Str} {scope : Scope} {cl : List (Str × Addr)} {S : Led → Prop} {Fin : List Value → Led → Prop} {kvs : List (Int × Int)} {t1 t2 t3 t4 : Tok} (D0 : (adrs news).Nodup)
    (turn : ∀ (i : Nat) tkk ys I oI C oC D m₂ h tk (E' : Value → Shared → Prop), Ovs kvs i ys → LCg.NsObj oC m₂ → m₂ x = some (.int ((i + 1 : Nat) : Int) tkk) → Fr h₀ L h m → News h₀ L h ((I, oI) :: (C, oC) :: (D, LCg.lst ys) :: news) → LCg.Off3 I C D news → (I :: C :: D :: adrs news).Nodup →
      wpAny (model PR w) A (eval elt (compEnvC scope cl C env)) (LCg.CompEnd h₀ L m { s with heap := h, toks := tk } I oI C oC D (LCg.lst ys) S (fun y l' => l' = news ∧ Ovs kvs (i + 1) (ys ++ [y]))) E' { s with heap := h, toks := tk })
    (fin : ∀ ys, Ovs kvs 4 ys → Fin ys news) : LCg.CompRest PR w A h₀ L m env elt x scope cl s S (fun i v => (#[Value.int 1 t1, Value.int 2 t2, Value.int 3 t3, Value.int 4 t4] : Array Value)[i]? = some v) Fin 4 0 [] news := by
  refine lc_turns (fun i ys l => l = news ∧ Ovs kvs i ys) ⟨rfl, Ovs.nil⟩ (fun i v ys l I oI C oC D m₂ h tk E' hi hv hW hoC hx F' N' off ne => ?_) (fun ys l hW => ?_)
  · obtain ⟨rfl, hO⟩ := hW
    obtain ⟨tkk, rfl⟩ := four_at hi hv
    exact turn i tkk ys I oI C oC D m₂ h tk E' hO hoC hx F' N' off (nd_off3 D0 off ne)
  · obtain ⟨rfl, hO⟩ := hW
    exact fin ys hO
theorem lc_ints {elt : Expr} {x : Str} {scope : Scope} {cl : List (Str × Addr)} {S : Led → Prop} {Fin : List Value → Led → Prop} {o : Obj} {tv : List (Int × Value)} {kvs : List (Int × Int)} (hd : o.IsDictOf (PySem.intKind PR w) tv) (hI : Ints2 tv kvs)
    (turn : ∀ (i : Nat) k τ tkk tτ ys I oI C oC D m₂ h tk (E' : Value → Shared → Prop), kvs[i]? = some (k, τ) → valueAt tv k = some (.int τ tτ) → IntsM ys ((kvs.take i).map Prod.snd) → LCg.NsObj oC m₂ → m₂ x = some (.int k tkk) → Fr h₀ L h m → News h₀ L h ((I, oI) :: (C, oC) :: (D, LCg.lst ys) :: news) → LCg.Off3 I C D news →
      wpAny (model PR w) A (eval elt (compEnvC scope cl C env)) (LCg.CompEnd h₀ L m { s with heap := h, toks := tk } I oI C oC D (LCg.lst ys) S (fun y l' => l' = news ∧ IntsM (ys ++ [y]) ((kvs.take (i + 1)).map Prod.snd))) E' { s with heap := h, toks := tk })
    (fin : ∀ ys, IntsM ys (kvs.map Prod.snd) → Fin ys news) : LCg.CompRest PR w A h₀ L m env elt x scope cl s S (fun i v => ∃ k y, tv[i]? = some (k, y) ∧ (PySem.intKind PR w).is k v = true) Fin tv.length 0 [] news := by
  refine lc_turns (fun i ys l => l = news ∧ IntsM ys ((kvs.take i).map Prod.snd)) ⟨rfl, IntsAre.nil⟩ (fun i v ys l I oI C oC D m₂ h tk E' hi hv hW hoC hx F' N' off ne => ?_) (fun ys l hW => ?_)
  · obtain ⟨rfl, hYi⟩ := hW
    obtain ⟨kk, yy, hkk, hkey⟩ := hv
    obtain ⟨tkk, rfl⟩ := Value.isInt_shape hkey
    obtain ⟨τ, tτ, rfl, hka⟩ := hI.at hkk
    exact turn i kk τ tkk tτ ys I oI C oC D m₂ h tk E' hka (valueAt_at (keysNodup_of_isDictOf hd) hkk) hYi hoC hx F' N' off
  · obtain ⟨rfl, hYs⟩ := hW
    exact fin ys (hYs.all (by have := hI.length; omega))
end
section
theorem ln_Stands_2 : True := by
 k_with "compareOp NotEq ref ref" => ((k_dflt (refine' ne_L (by assumption) (by assumption) ?m1 ?m2 ?e ?_; (case m1 => k_mem); (case m2 => k_mem); (case e => exact Sames.cons (Same.str _ _ _) (Sames.cons hE (Sames.cons hDu Sames.nil))))))
 k_with "eval ListComp" => ((k_dflt (first
     | ((with_reducible show wpAny _ _ (eval (Expr.ListComp _ [⟨_, Expr.Name _ _, _, _⟩] _ _) _) _ _ _); (walk_at "m_lcD"))
     | (refine LCg.ListComp_U (F₀ := by k_asm) (by with_unfolding_all rfl) (by decide) (by rfl) (by decide) (by rfl) ?_))))
 k_with "SrcD" => (((walk_at "m_srcD"); (refine' lc_ints hdi hI ?_ ?_); (all_goals (first
     | (intro i k τ tkk tτ ys I oI C oC D2 m₂ h tk E' hka hva hYi hoC hx F' N' off)
     | (intro ys hY)))))
 k_with "CompSrc" => (((k_dflt (refine' LCg.CompSrc.ledger (Lo.handled (by assumption)) (by k_asm) (by k_asm) ?m ?sz ?_; (case m => k_mem); (case sz => (rw [sizeLine_eq]; exact Nat.le_of_ble_eq_true rfl)))); (intro gH); (refine' lc_ovs (kvs := kvs) (by assumption) ?_ ?_); (all_goals (first
     | (intro i tkk ys I oI C oC D2 m₂ h tk E' hO hoC hx F' N' off Dn)
     | (intro ys hO)))))
 k_with "CompEnd" => ((first
     | (k_dflt (refine' ovs_end ?Fz392 ?Nz392 ?Pz392 ?offz392 ?hmz392 ?hOz392; (case hOz392 => assumption); (case Fz392 => assumption); (case Nz392 => assumption); (case offz392 => assumption); (case Pz392 => walk_at "m_takes"); (case hmz392 => k_mem)))
     | (walk_at "m_compEnd")))
 k_with "And" => (exact ⟨rfl, IntsM.snoc (by assumption) (by assumption)⟩)
 k_with "call builtin:min" => ((k_dflt (refine' min_M (by assumption) (by assumption) (by assumption) ?m (by assumption) ?n ?_; (case m => k_mem); (case n => (simp only [List.length_map]; omega))); intro h' M t' tk' F' N' hM; (try k_sweep)))
 k_with "compareOp Eq ref ref" => ((k_dflt (refine' eq_empty (by assumption) (by assumption) ?m1 ?m2 ?d1 ?d2 ?l1 ?l2 ?_ ?_; (case m1 => k_mem); (case m2 => k_mem); (case d1 => assumption); (case d2 => assumption); (case l1 => assumption); (case l2 => assumption); all_goals (intro hne))))
 k_with "compareOp Eq ref ref" => ((k_dflt (refine' eq_L (by assumption) (by assumption) ?m1z438 ?m2z438 ?ez438 ?_; (case m1z438 => k_mem); (case m2z438 => k_mem); (case ez438 => exact Ovs.same (by assumption) (by assumption)))))
 k_with "subscriptTail Name Name ref int" => ((walk_at "m_dictTail"))
 k_with "getItem ref int" => ((k_dflt (refine dict_item (knd := PySem.intKind _ _) (by k_asm) (by k_mem) (by k_asm) (intKind_is _ _ _ _) (by assumption) ?_)))
 k_with "compareOp NotEq" => ((k_dflt (refine ne_ov ?_)))
 k_with "eval IfExp" => (((k_dflt (refine' if_join (fun t => ov ((kvs.map Prod.snd).min?) t) ?oF ?oN ?wh ?wk; (case oF => k_asm); (case oN => k_asm)); (case' wk => (intro tOp hOp tkO F' N'; (try dsimp only); (try k_sweep))))))
 k_with "ValAt" => ((k_dflt (first
     | (refine' ValAt.mk 0 _ _ ?bE rfl ?bF ?bN; (case bE => (rw [hI.none0 hne]; rfl)); ((case bF => k_asm); (case bN => first | exact news_tail (by assumption) | exact news_tail (news_tail (by assumption)) | exact news_tail (news_tail (news_tail (by assumption))))))
     | (refine' ValAt.mk _ _ _ ?bE rfl ?bF ?bN; (case bE => (rw [hM]; rfl)); ((case bF => k_asm); (case bN => first | exact news_tail (by assumption) | exact news_tail (news_tail (by assumption)) | exact news_tail (news_tail (news_tail (by assumption)))))))))
 k_with "call builtin:dict.get" => ((k_dflt (refine' get_ov (by assumption) ?m ?d ?l hI ?_; (case m => k_mem); (case d => assumption); (case l => assumption)); intro tG))
 trivial
theorem stands_c {w : World} {mean : ExcName → Option Value} {mg mb : Str → Option Value} {hb : Heap} {s : Shared} {A : Around} {t : Addr} {S : Str} {ev due ev' due' : Value} {ro : Option Int} {c : Nat} {kvs : List (Int × Int)} {V : Led} {td : Addr} {otd : Obj} {tv : List (Int × Value)} {tS : Tok}
   (B : Base (hd.heap_1 w.params) hd.view_1 LOOSE mean mg mb hb) (lo : Lo 3 A) (W : TcbIs w t S ev due ro c kvs V) (hc : c ≤ 100) (hdi : otd.IsDictOf (intKind PR w) tv) (hlo : (td == sysModules) = false) (hI : Ints2 tv kvs) (hE : Same ev ev') (hDu : Same due due') (H : Has hb s ((td, otd) :: V)) :
   codeAny (model PR w) A (.call (.ref 1175) ⟨[.ref t, .str S tS, .ref td, due', ev'], []⟩) (Rets s ((td, otd) :: V) (fun v nf => v = .bool true ∧ nf = (td, otd) :: V)) s := by
  revert H
  refine TcbIs.elim (G := fun V => Has hb s ((td, otd) :: V) → codeAny (model PR w) A _ (Rets s ((td, otd) :: V) (fun v nf => v = .bool true ∧ nf = (td, otd) :: V)) s) W ?_
  intro dt odt lim dlim odl loc rem v1 v2 tl tr n1 n2 snd dsnd ods ac dac oda RL WL wh rv hT hL hSn hA hR WN H
  dsimp only [tcbLed] at H ⊢
  have hlen := hI.length
  have hkc := WN.len
  refine' enterC (binds := [(Str.ofString "tcb", .ref t), (Str.ofString "state", .str S tS), (Str.ofString "times", .ref td), (Str.ofString "due", due'), (Str.ofString "error", ev')]) B H lo ?ho ?hcd ?hbind ?hkind ?hnd ?h ?hco ?hgen ?hk
  walk_at "m_enterC"
  k_steps
  all_goals (try dsimp only)
  all_goals (refine' rets_like hRR hg2 (by assumption) (by assumption) ⟨rfl, rfl⟩ (List.nodup_cons.mp (List.nodup_cons.mp D).2).2 ?p1; (walk_at "m_ends"))
end
end Mine
namespace Mine
open PySem PySem.W PySem.Spec PySem.Calls PyProof.Rows
section
variable {prog : Program} {w : World} {A : Around} {E : Value → Shared → Prop} {s : Shared} {a b : Int} {t u : Tok} {Q : Value → Shared → Prop}
theorem ln_Ring_1 : True := by
 k_with_none
 k_with "m_enter" => ((
     case ho => k_is
     case hcd => k_is
     case hbind => first | exact BindsTo.of_eq rfl | exact binds_K (Frag.In.keeps (Base.X (by assumption)) (Has.stays (by assumption))) rfl (by k_is) rfl rfl rfl
     case hloc => exact locs rfl
     case hcell => decide
     case hco => exact rfl
     case hgen => exact rfl
     case hk => exact rfl
     intro RR hRR g L' h₁ A' lo' St hg1 hg2 F N D X T
     (try dsimp only [List.reverse, List.reverseAux, List.length] at *)))
 k_with "m_takes" => (first
     | exact Takes.nil
     | (refine' Takes.cons ?az047 ?bz047; (case az047 => walk_at "m_pull"); (case bz047 => walk_at "m_takes"))
     | (refine' Takes.app ?az047 ?bz047; (case az047 => walk_at "m_pullL"); (case bz047 => walk_at "m_takes"))
     | (refine' Takes.last ?az047; (case az047 => walk_at "m_pullL")))
 k_with "m_pull" => (first
     | exact Pull.head
     | (refine' Pull.tail ?az350; (case az350 => walk_at "m_pull"))
     | (refine' Pull.app ?az350; (case az350 => walk_at "m_pull")))
 k_with "m_pullL" => (first
     | exact PullL.head
     | exact PullL.whole
     | (refine' PullL.tail ?az531; (case az531 => walk_at "m_pullL"))
     | (refine' PullL.app ?az531; (case az531 => walk_at "m_pullL")))
 k_with "m_ends" => ((case p1 => ((try simp only [tcbLed]); (try simp only [whLed, List.append_assoc, List.cons_append, List.nil_append, List.append_nil]); (walk_at "m_takes"))))
 k_with "m_updn" => (first | exact UpdN.head | (refine' UpdN.tail ?az058; (case az058 => walk_at "m_updn")) | (refine' UpdN.app ?az058; (case az058 => walk_at "m_updn")))
 k_with "m_updg" => (first | exact UpdG.head | (refine' UpdG.tail ?az984; (case az984 => walk_at "m_updg")) | (refine' UpdG.app ?az984; (case az984 => walk_at "m_updg")))
 k_with "k_upd" => (k_dflt (refine' upd_of ?Dz233 ?Uz233; (case Dz233 => assumption); (case Uz233 => walk_at "m_updn")))
 k_with "k_updF" => (k_dflt (refine' updF_of ?Dz235 ?Uz235; (case Dz235 => assumption); (case Uz235 => walk_at "m_updg")))
 k_with "k_mem" => (first | with_reducible exact List.mem_cons_self | (with_reducible exact List.mem_append_left _ (by assumption)) | (with_reducible refine' List.mem_cons_of_mem _ ?mmz799; (case mmz799 => k_mem)) | (with_reducible refine' List.mem_append_right _ ?mmz799; (case mmz799 => k_mem)) | with_reducible assumption)
 k_with "k_handed" => (assumption)
 k_with "k_units" => (first | exact Lo.line (by assumption) | exact Lo.line (Lo.in1 (by assumption)))
 k_with "k_room" => (exact Lo.room (by assumption))
 k_with "execs cons" => (((with_reducible show wpAny _ _ (execs (_ :: _) _) _ _ _); (k_dflt (refine execs_flat (s := s) ?_)); intro tkF))
 trivial
theorem mod_e {z : Int} (hb : 0 < b) (hz : a % b = z) (h : Q (.int z s.toks) { s with toks := s.toks + 1 }) : wpAny (model prog w) A (binaryOp .Mod (.int a t) (.int b u)) Q E s :=
  mod_int' (by omega) (by rw [Int.fmod_eq_emod_of_nonneg a (by omega : (0:Int) ≤ b), hz]; exact h)
end
section
theorem ln_Ring_2 : True := by
 k_with "binaryOp Mod int int" => ((refine mod_e (by omega) (by assumption) ?_))
 trivial
theorem plus_c {w : World} {mean : ExcName → Option Value} {mg mb : Str → Option Value} {hb : Heap} {s : Shared} {A : Around} {a n r z : Int} {ta tn tr : Tok}
   (B : Base (hd.heap_1 w.params) hd.view_1 LOOSE mean mg mb hb) (lo : Lo 1 A) (hr : 0 < r) (hz : (a + n) % r = z) (H : Has hb s []) :
   codeAny (model PR w) A (.call (.ref 213) ⟨[.int a ta, .int n tn, .int r tr], []⟩) (Rets s [] (fun v nf => (∃ t, v = .int z t) ∧ nf = [])) s := by
  refine' enter (binds := [(Str.ofString "a", .int a ta), (Str.ofString "n", .int n tn), (Str.ofString "ring", .int r tr)]) B H lo ?ho ?hcd ?hbind ?hloc ?h ?hcell ?hco ?hgen ?hk
  walk_at "m_enter"
  k_steps
  all_goals (try dsimp only)
  all_goals (refine' rets_end hRR hg2 (by assumption) (by assumption) (by assumption) ⟨⟨_, rfl⟩, rfl⟩ ?p1; (walk_at "m_ends"))
theorem dist_c {w : World} {mean : ExcName → Option Value} {mg mb : Str → Option Value} {hb : Heap} {s : Shared} {A : Around} {a b r z : Int} {ta tn tr : Tok}
   (B : Base (hd.heap_1 w.params) hd.view_1 LOOSE mean mg mb hb) (lo : Lo 1 A) (hr : 0 < r) (hz : (b - a) % r = z) (H : Has hb s []) :
   codeAny (model PR w) A (.call (.ref 220) ⟨[.int a ta, .int b tn, .int r tr], []⟩) (Rets s [] (fun v nf => (∃ t, v = .int z t) ∧ nf = [])) s := by
  refine' enter (binds := [(Str.ofString "a", .int a ta), (Str.ofString "b", .int b tn), (Str.ofString "ring", .int r tr)]) B H lo ?ho ?hcd ?hbind ?hloc ?h ?hcell ?hco ?hgen ?hk
  walk_at "m_enter"
  k_steps
  all_goals (try dsimp only)
  all_goals (refine' rets_end hRR hg2 (by assumption) (by assumption) (by assumption) ⟨⟨_, rfl⟩, rfl⟩ ?p1; (walk_at "m_ends"))
end
section
theorem ln_Ring_3 : True := by
 k_with_none
 k_with "m_enter" => ((
     case ho => k_is
     case hcd => k_is
     case hbind => first | exact BindsTo.of_eq rfl | exact binds_K (Frag.In.keeps (Base.X (by assumption)) (Has.stays (by assumption))) rfl (by k_is) rfl rfl rfl
     case hloc => exact locs rfl
     case hcell => decide
     case hco => exact rfl
     case hgen => exact rfl
     case hk => exact rfl
     intro RR hRR g L' h₁ A' lo' St hg1 hg2 F N D X T
     (try dsimp only [List.reverse, List.reverseAux, List.length] at *)))
 k_with "m_takes" => (first
     | exact Takes.nil
     | (refine' Takes.cons ?az047 ?bz047; (case az047 => walk_at "m_pull"); (case bz047 => walk_at "m_takes"))
     | (refine' Takes.app ?az047 ?bz047; (case az047 => walk_at "m_pullL"); (case bz047 => walk_at "m_takes"))
     | (refine' Takes.last ?az047; (case az047 => walk_at "m_pullL")))
 k_with "m_pull" => (first
     | exact Pull.head
     | (refine' Pull.tail ?az350; (case az350 => walk_at "m_pull"))
     | (refine' Pull.app ?az350; (case az350 => walk_at "m_pull")))
 k_with "m_pullL" => (first
     | exact PullL.head
     | exact PullL.whole
     | (refine' PullL.tail ?az531; (case az531 => walk_at "m_pullL"))
     | (refine' PullL.app ?az531; (case az531 => walk_at "m_pullL")))
 k_with "m_ends" => ((case p1 => ((try simp only [tcbLed]); (try simp only [whLed, List.append_assoc, List.cons_append, List.nil_append, List.append_nil]); (walk_at "m_takes"))))
 k_with "m_updn" => (first | exact UpdN.head | (refine' UpdN.tail ?az058; (case az058 => walk_at "m_updn")) | (refine' UpdN.app ?az058; (case az058 => walk_at "m_updn")))
 k_with "m_updg" => (first | exact UpdG.head | (refine' UpdG.tail ?az984; (case az984 => walk_at "m_updg")) | (refine' UpdG.app ?az984; (case az984 => walk_at "m_updg")))
 k_with "k_upd" => (k_dflt (refine' upd_of ?Dz233 ?Uz233; (case Dz233 => assumption); (case Uz233 => walk_at "m_updn")))
 k_with "k_updF" => (k_dflt (refine' updF_of ?Dz235 ?Uz235; (case Dz235 => assumption); (case Uz235 => walk_at "m_updg")))
 k_with "k_mem" => (first | with_reducible exact List.mem_cons_self | (with_reducible exact List.mem_append_left _ (by assumption)) | (with_reducible refine' List.mem_cons_of_mem _ ?mmz799; (case mmz799 => k_mem)) | (with_reducible refine' List.mem_append_right _ ?mmz799; (case mmz799 => k_mem)) | with_reducible assumption)
 k_with "k_handed" => (assumption)
 k_with "k_units" => (first | exact Lo.line (by assumption) | exact Lo.line (Lo.in1 (by assumption)))
 k_with "k_room" => (exact Lo.room (by assumption))
 k_with "execs cons" => (((with_reducible show wpAny _ _ (execs (_ :: _) _) _ _ _); (k_dflt (refine execs_flat (s := s) ?_)); intro tkF))
 k_with "call ref" => (((k_dflt (show wpAny _ _ (call (Value.ref 220) [_, _, _]) _ _ _)); (k_dflt (refine' use_call (by assumption) (by assumption) (by assumption) (by assumption) Takes.nil (fun H => dist_c (z := z) B (Lo.mono (by assumption) (by decide)) hr hz H) ?_)); (try clear DN); (refine elimT ?_; intro tN hN tkN FN NN DN); (simp only [List.nil_append] at NN DN); (try k_sweep)))
 trivial
theorem before_c {w : World} {mean : ExcName → Option Value} {mg mb : Str → Option Value} {hb : Heap} {s : Shared} {A : Around} {a b r z : Int} {ta tn tr : Tok}
   (B : Base (hd.heap_1 w.params) hd.view_1 LOOSE mean mg mb hb) (lo : Lo 2 A) (hr : 0 < r ∧ r ≤ 1000) (hz : (b - a) % r = z) (hz0 : 0 ≤ z ∧ z < 1000) (hn : z = 0 ∨ r ≤ 2 * z) (H : Has hb s []) :
   codeAny (model PR w) A (.call (.ref 227) ⟨[.int a ta, .int b tn, .int r tr], []⟩) (Rets s [] (fun v nf => v = .bool false ∧ nf = [])) s := by
  have hr' := hr
  replace hr := hr.1
  refine' enter (binds := [(Str.ofString "a", .int a ta), (Str.ofString "b", .int b tn), (Str.ofString "ring", .int r tr)]) B H lo ?ho ?hcd ?hbind ?hloc ?h ?hcell ?hco ?hgen ?hk
  walk_at "m_enter"
  k_steps
  all_goals (try dsimp only)
  all_goals (refine' rets_end hRR hg2 (by assumption) (by assumption) (by assumption) ⟨by rw [decide_eq_false (by omega)], rfl⟩ ?p1; (walk_at "m_ends"))
end
end Mine
namespace Mine
open PySem PySem.W PySem.Spec PySem.Calls PyProof.Rows
theorem ln_AsmI_1 : True := by
 k_with_none
 k_with "m_enter" => ((
     case ho => k_is
     case hcd => k_is
     case hbind => first | exact BindsTo.of_eq rfl | exact binds_K (Frag.In.keeps (Base.X (by assumption)) (Has.stays (by assumption))) rfl (by k_is) rfl rfl rfl
     case hloc => exact locs rfl
     case hcell => decide
     case hco => exact rfl
     case hgen => exact rfl
     case hk => exact rfl
     intro RR hRR g L' h₁ A' lo' St hg1 hg2 F N D X T
     (try dsimp only [List.reverse, List.reverseAux, List.length] at *)))
 k_with "m_takes" => (first
     | exact Takes.nil
     | (refine' Takes.cons ?az047 ?bz047; (case az047 => walk_at "m_pull"); (case bz047 => walk_at "m_takes"))
     | (refine' Takes.app ?az047 ?bz047; (case az047 => walk_at "m_pullL"); (case bz047 => walk_at "m_takes"))
     | (refine' Takes.last ?az047; (case az047 => walk_at "m_pullL")))
 k_with "m_pull" => (first
     | exact Pull.head
     | (refine' Pull.tail ?az350; (case az350 => walk_at "m_pull"))
     | (refine' Pull.app ?az350; (case az350 => walk_at "m_pull")))
 k_with "m_pullL" => (first
     | exact PullL.head
     | exact PullL.whole
     | (refine' PullL.tail ?az531; (case az531 => walk_at "m_pullL"))
     | (refine' PullL.app ?az531; (case az531 => walk_at "m_pullL")))
 k_with "m_ends" => ((case p1 => ((try simp only [tcbLed]); (try simp only [whLed, List.append_assoc, List.cons_append, List.nil_append, List.append_nil]); (walk_at "m_takes"))))
 k_with "m_updn" => (first | exact UpdN.head | (refine' UpdN.tail ?az058; (case az058 => walk_at "m_updn")) | (refine' UpdN.app ?az058; (case az058 => walk_at "m_updn")))
 k_with "m_updg" => (first | exact UpdG.head | (refine' UpdG.tail ?az984; (case az984 => walk_at "m_updg")) | (refine' UpdG.app ?az984; (case az984 => walk_at "m_updg")))
 k_with "k_upd" => (k_dflt (refine' upd_of ?Dz233 ?Uz233; (case Dz233 => assumption); (case Uz233 => walk_at "m_updn")))
 k_with "k_updF" => (k_dflt (refine' updF_of ?Dz235 ?Uz235; (case Dz235 => assumption); (case Uz235 => walk_at "m_updg")))
 k_with "k_mem" => (first | with_reducible exact List.mem_cons_self | (with_reducible exact List.mem_append_left _ (by assumption)) | (with_reducible refine' List.mem_cons_of_mem _ ?mmz799; (case mmz799 => k_mem)) | (with_reducible refine' List.mem_append_right _ ?mmz799; (case mmz799 => k_mem)) | with_reducible assumption)
 k_with "k_handed" => (assumption)
 k_with "k_units" => (first | exact Lo.line (by assumption) | exact Lo.line (Lo.in1 (by assumption)))
 k_with "k_room" => (exact Lo.room (by assumption))
 k_with "execs cons" => (((with_reducible show wpAny _ _ (execs (_ :: _) _) _ _ _); (k_dflt (refine execs_flat (s := s) ?_)); intro tkF))
 trivial
theorem asmI {w : World} {mean : ExcName → Option Value} {mg mb : Str → Option Value} {hb : Heap} {s : Shared} {A : Around} {x dx : Addr} {p_ring : Value}
   (B : Base (hd.heap_1 w.params) hd.view_1 LOOSE mean mg mb hb) (lo : Lo 1 A) (hr : handedIn p_ring = true) (H : Has hb s [(x, instObj 983 dx), (dx, dictOf [] 0)]) :
   codeAny (model PR w) A (.call (.ref 905) ⟨[.ref x, p_ring], []⟩) (Rets s [(x, instObj 983 dx), (dx, dictOf [] 0)] (fun v nf => v = .none ∧ nf = [])) s := by
  refine' enter (binds := [(Str.ofString "self", .ref x), (Str.ofString "ring", p_ring)]) B H lo ?ho ?hcd ?hbind ?hloc ?h ?hcell ?hco ?hgen ?hk
  walk_at "m_enter"
  k_steps
  all_goals (try dsimp only)
  all_goals (refine' rets_end hRR hg2 (by assumption) (by assumption) (by assumption) ⟨rfl, rfl⟩ ?p1; (walk_at "m_ends"))
end Mine
namespace Mine
open PySem PySem.W PySem.Spec PySem.Calls PyProof.Rows
theorem ln_RecI_1 : True := by
 k_with_none
 k_with "m_enter" => ((
     case ho => k_is
     case hcd => k_is
     case hbind => first | exact BindsTo.of_eq rfl | exact binds_K (Frag.In.keeps (Base.X (by assumption)) (Has.stays (by assumption))) rfl (by k_is) rfl rfl rfl
     case hloc => exact locs rfl
     case hcell => decide
     case hco => exact rfl
     case hgen => exact rfl
     case hk => exact rfl
     intro RR hRR g L' h₁ A' lo' St hg1 hg2 F N D X T
     (try dsimp only [List.reverse, List.reverseAux, List.length] at *)))
 k_with "m_takes" => (first
     | exact Takes.nil
     | (refine' Takes.cons ?az047 ?bz047; (case az047 => walk_at "m_pull"); (case bz047 => walk_at "m_takes"))
     | (refine' Takes.app ?az047 ?bz047; (case az047 => walk_at "m_pullL"); (case bz047 => walk_at "m_takes"))
     | (refine' Takes.last ?az047; (case az047 => walk_at "m_pullL")))
 k_with "m_pull" => (first
     | exact Pull.head
     | (refine' Pull.tail ?az350; (case az350 => walk_at "m_pull"))
     | (refine' Pull.app ?az350; (case az350 => walk_at "m_pull")))
 k_with "m_pullL" => (first
     | exact PullL.head
     | exact PullL.whole
     | (refine' PullL.tail ?az531; (case az531 => walk_at "m_pullL"))
     | (refine' PullL.app ?az531; (case az531 => walk_at "m_pullL")))
 k_with "m_ends" => ((case p1 => ((try simp only [tcbLed]); (try simp only [whLed, List.append_assoc, List.cons_append, List.nil_append, List.append_nil]); (walk_at "m_takes"))))
 k_with "m_updn" => (first | exact UpdN.head | (refine' UpdN.tail ?az058; (case az058 => walk_at "m_updn")) | (refine' UpdN.app ?az058; (case az058 => walk_at "m_updn")))
 k_with "m_updg" => (first | exact UpdG.head | (refine' UpdG.tail ?az984; (case az984 => walk_at "m_updg")) | (refine' UpdG.app ?az984; (case az984 => walk_at "m_updg")))
 k_with "k_upd" => (k_dflt (refine' upd_of ?Dz233 ?Uz233; (case Dz233 => assumption); (case Uz233 => walk_at "m_updn")))
 k_with "k_updF" => (k_dflt (refine' updF_of ?Dz235 ?Uz235; (case Dz235 => assumption); (case Uz235 => walk_at "m_updg")))
 k_with "k_mem" => (first | with_reducible exact List.mem_cons_self | (with_reducible exact List.mem_append_left _ (by assumption)) | (with_reducible refine' List.mem_cons_of_mem _ ?mmz799; (case mmz799 => k_mem)) | (with_reducible refine' List.mem_append_right _ ?mmz799; (case mmz799 => k_mem)) | with_reducible assumption)
 k_with "getAttr ref" => ((k_dflt (refine' get_own ?k1z343 ?k2z343 ?k3z343 ?k4z343 ?k5z343 ?k6z343 ?k7z343 ?k8z343 ?k9z343 ?_; (case k1z343 => k_asm); (case k2z343 => k_asm); (case k3z343 => k_inst); (case k4z343 => k_is); (case k5z343 => k_is); (case k6z343 => k_is); (case k7z343 => k_is); (case k8z343 => k_get); (case k9z343 => k_handed); k_whole)))
 k_with "k_handed" => (assumption)
 k_with "k_units" => (first | exact Lo.line (by assumption) | exact Lo.line (Lo.in1 (by assumption)))
 k_with "k_room" => (exact Lo.room (by assumption))
 k_with "wpP" => (first | (with_reducible refine wpP_execs_step ?_) | ((with_reducible show wpP _ _ (execs [] _) _ _ _); refine wpP_of ?_))
 k_with "RestP" => ((k_dflt (first | show wpP _ _ _ _ _ _ | show RR _ _)))
 k_with "keeperOf" => ((k_dflt (first | refine keep_type ?_ | (refine' keep_fnB ?Xz322 ?ez322 ?_; (case Xz322 => k_in); (case ez322 => exact rfl)) | (refine' keep_fn ?Xz322 ?ez322 ?_; (case Xz322 => k_in); (case ez322 => k_is)) | (refine' keep_cls ?Xz322 ?mz322 ?_; (case Xz322 => k_in); (case mz322 => k_is)))))
 trivial
theorem ba_same : Obj.mapBytearray (fun _ => #[]) baObj = baOf := rfl
section
variable {prog : Program} {w : World} {A : Around} {E : Value → Shared → Prop} {s : Shared} {h₀ : Heap} {L : Addr} {m : Str → Option Value} {news : Led} {Q : Value → Shared → Prop}
theorem ba_use (F : Fr h₀ L s.heap m) (N : News h₀ L s.heap news) (D : (adrs news).Nodup)
    (h : ∀ d h', Fr h₀ L h' m → News h₀ L h' ((d, baOf) :: news) → (adrs ((d, baOf) :: news)).Nodup → Q (.ref d) { s with heap := h' }) :
    wpP (model prog w) A (call (.type "bytearray") []) Q E s := by
  refine ba_call ?_
  have keep : ∀ b o, (s.heap.push baObj).get? b = some o → ((s.heap.push baObj).update s.heap.objs.size (Obj.mapBytearray fun _ => #[])).get? b = some o := fun b o e => by
    by_cases hb : b = s.heap.objs.size
    · subst hb
      have e0 : (s.heap.push baObj).get? s.heap.objs.size = some baObj := Heap.get?_push_size _ rfl
      rw [e] at e0
      cases e0
      exact Heap.get?_update_self _ e rfl
    · rw [Heap.get?_update_other _ _ (Ne.symm hb)]; exact e
  have N1 := N.push F baOf
  have F1 := F.push baOf
  exact h s.heap.objs.size _ ⟨F1.ns.keeps keep, fun b o e => keep b o (F1.keep b o e), F1.above⟩ (fun q hq => ⟨keep _ _ (N1 q hq).1, (N1 q hq).2⟩) (nd_new D fun p hp => Heap.lt_size (N p hp).1)
end
section
theorem ln_RecI_2 : True := by
 k_with "call ref" => (((k_dflt (show wpAny _ _ (call (Value.ref 213) [_, _, _]) _ _ _)); (k_dflt (first
     | (refine' use_call (by assumption) (by assumption) (by assumption) (by assumption) Takes.nil (fun H => plus_c (z := nx) B (Lo.mono (by assumption) (by decide)) (by decide) ?hz H) ?_; (case hz => omega))
     | (refine' use_call (by assumption) (by assumption) (by assumption) (by assumption) Takes.nil (fun H => plus_c (z := nx + 16) B (Lo.mono (by assumption) (by decide)) (by decide) ?hz H) ?_; (case hz => omega)))); (try clear DN); (refine elimT ?_; intro tN hN tkN FN NN DN); (simp only [List.nil_append] at NN DN); (try k_sweep)))
 k_with "wpP" => ((with_reducible refine wpP_execs_own (wpP_Assign_Attribute (wpP_named0 ?_) ?hsz676); (case hsz676 => with_unfolding_all rfl)))
 k_with "wpP" => (((with_reducible show wpP _ _ (call (Value.type _) []) _ _ _); (k_dflt (refine ba_use (by assumption) (by assumption) (by assumption) ?_)); intro d' h' F' N' Dn; (try k_sweep)))
 k_with "call ref" => (((with_reducible show wpAny _ _ (call (Value.ref 983) [_]) _ _ _); (k_dflt (refine' make_use (by assumption) (by assumption) (by assumption) (by assumption) (by assumption) Takes.nil ?hm ?hi ?hf (φ := fun _ _ nf => nf = []) (fun x dx s' H => asmI B (Lo.make (Lo.mono (by assumption) (by decide))) rfl H) ?_; (case hm => k_is); (case hi => k_is); (case hf => k_is))); (try clear DN); (rintro xN dN nfN rfl hN tkN FN NN DN); (dsimp only [List.cons_append, List.nil_append] at NN DN); (try k_sweep)))
 trivial
theorem recI {w : World} {mean : ExcName → Option Value} {mg mb : Str → Option Value} {hb : Heap} {s : Shared} {A : Around} {x dx : Addr} {pl nx : Int} {t0 t1 t2 t3 : Tok}
   (B : Base (hd.heap_1 w.params) hd.view_1 LOOSE mean mg mb hb) (lo : Lo 3 A) (hpl : pl = 255 ∧ nx = 0 ∨ pl = 40 ∧ nx = 41) (H : Has hb s [(x, instObj 1117 dx), (dx, dictOf [] 0)]) :
   codeP (model PR w) A (.call (.ref 1002) ⟨[.ref x, .int pl t0, .int 256 t1, .int 16 t2, .int 4 t3], []⟩) (Rets s [(x, instObj 1117 dx), (dx, dictOf [] 0)] (fun v nf => v = .none ∧ RecIs w (.ref x) (some nx) nf)) s := by
  refine' enterP (binds := [(Str.ofString "self", .ref x), (Str.ofString "irs", .int pl t0), (Str.ofString "ring", .int 256 t1), (Str.ofString "room", .int 16 t2), (Str.ofString "mss", .int 4 t3)]) B H lo ?ho ?hcd ?hbind ?hloc ?h ?hcell ?hco ?hgen ?hk
  walk_at "m_enter"
  k_steps
  all_goals (try dsimp only)
  refine' rets_end hRR hg2 (by assumption) (by assumption) (by assumption) ⟨rfl, ⟨by omega, _, _, _, _, rfl, ⟨_, _, _, _, _, _, _, _, _, _, _, _, _, _, _, _, _, _, rfl⟩, rfl⟩⟩ ?p1
  walk_at "m_ends"
end
end Mine
namespace Mine
open PySem PySem.W PySem.Spec PySem.Calls PyProof.Rows
theorem ln_Win_1 : True := by
 k_with_none
 k_with "m_enter" => ((
     case ho => k_is
     case hcd => k_is
     case hbind => first | exact BindsTo.of_eq rfl | exact binds_K (Frag.In.keeps (Base.X (by assumption)) (Has.stays (by assumption))) rfl (by k_is) rfl rfl rfl
     case hloc => exact locs rfl
     case hcell => decide
     case hco => exact rfl
     case hgen => exact rfl
     case hk => exact rfl
     intro RR hRR g L' h₁ A' lo' St hg1 hg2 F N D X T
     (try dsimp only [List.reverse, List.reverseAux, List.length] at *)))
 k_with "m_takes" => (first
     | exact Takes.nil
     | (refine' Takes.cons ?az047 ?bz047; (case az047 => walk_at "m_pull"); (case bz047 => walk_at "m_takes"))
     | (refine' Takes.app ?az047 ?bz047; (case az047 => walk_at "m_pullL"); (case bz047 => walk_at "m_takes"))
     | (refine' Takes.last ?az047; (case az047 => walk_at "m_pullL")))
 k_with "m_pull" => (first
     | exact Pull.head
     | (refine' Pull.tail ?az350; (case az350 => walk_at "m_pull"))
     | (refine' Pull.app ?az350; (case az350 => walk_at "m_pull")))
 k_with "m_pullL" => (first
     | exact PullL.head
     | exact PullL.whole
     | (refine' PullL.tail ?az531; (case az531 => walk_at "m_pullL"))
     | (refine' PullL.app ?az531; (case az531 => walk_at "m_pullL")))
 k_with "m_ends" => ((case p1 => ((try simp only [tcbLed]); (try simp only [whLed, List.append_assoc, List.cons_append, List.nil_append, List.append_nil]); (walk_at "m_takes"))))
 k_with "m_updn" => (first | exact UpdN.head | (refine' UpdN.tail ?az058; (case az058 => walk_at "m_updn")) | (refine' UpdN.app ?az058; (case az058 => walk_at "m_updn")))
 k_with "m_updg" => (first | exact UpdG.head | (refine' UpdG.tail ?az984; (case az984 => walk_at "m_updg")) | (refine' UpdG.app ?az984; (case az984 => walk_at "m_updg")))
 k_with "k_upd" => (k_dflt (refine' upd_of ?Dz233 ?Uz233; (case Dz233 => assumption); (case Uz233 => walk_at "m_updn")))
 k_with "k_updF" => (k_dflt (refine' updF_of ?Dz235 ?Uz235; (case Dz235 => assumption); (case Uz235 => walk_at "m_updg")))
 k_with "k_mem" => (first | with_reducible exact List.mem_cons_self | (with_reducible exact List.mem_append_left _ (by assumption)) | (with_reducible refine' List.mem_cons_of_mem _ ?mmz799; (case mmz799 => k_mem)) | (with_reducible refine' List.mem_append_right _ ?mmz799; (case mmz799 => k_mem)) | with_reducible assumption)
 k_with "getMethod ref" => ((k_dflt (refine' method_inst ?k1z510 ?k2z510 ?k3z510 ?k4z510 ?k5z510 ?k6z510 ?k7z510 ?_; (case k1z510 => k_asm); (case k2z510 => k_asm); (case k3z510 => k_inst); (case k4z510 => k_is); (case k5z510 => k_is); (case k6z510 => k_is); (case k7z510 => k_get); k_whole)))
 k_with "getAttr ref" => ((k_dflt (refine' get_own ?k1z343 ?k2z343 ?k3z343 ?k4z343 ?k5z343 ?k6z343 ?k7z343 ?k8z343 ?k9z343 ?_; (case k1z343 => k_asm); (case k2z343 => k_asm); (case k3z343 => k_inst); (case k4z343 => k_is); (case k5z343 => k_is); (case k6z343 => k_is); (case k7z343 => k_is); (case k8z343 => k_get); (case k9z343 => k_handed); k_whole)))
 k_with "k_handed" => (assumption)
 k_with "k_units" => (first | exact Lo.line (by assumption) | exact Lo.line (Lo.in1 (by assumption)))
 k_with "k_room" => (exact Lo.room (by assumption))
 k_with "execs cons" => (((with_reducible show wpAny _ _ (execs (_ :: _) _) _ _ _); (k_dflt (refine execs_flat (s := s) ?_)); intro tkF))
 trivial
theorem ba_slot_len : Slot "bytearray" "__len__" "bytearray.__len__" :=
  Slot.of (T := "bytearray") (name := "__len__") (owner := "bytearray") (n := "__len__") (by rw [typeLookup_type, builtinLookup_eq_fast]; kernel_rfl) (by decide +kernel) (by decide +kernel) (by decide +kernel)
    (.inl (by decide +kernel)) (by rw [isSubtype_type]; kernel_rfl)
theorem ba_entry_len : entryFor table "bytearray.__len__" = some Builtin.«bytearray.__len__» := entryFor_of_tree (by kernel_rfl)
theorem ba_args_len (v : Value) : argsOk "bytearray.__len__" ⟨[v], []⟩ := by unfold argsOk; kernel_rfl
section
variable {prog : Program} {w : World} {A : Around} {E : Value → Shared → Prop} {s : Shared} {h₀ : Heap} {L : Addr} {m : Str → Option Value} {news : Led} {Q : Value → Shared → Prop}
theorem ba_len {d : Addr} (N : News h₀ L s.heap news) (hm : (d, baOf) ∈ news) (h : ∀ t tk, Q (.int 0 t) { s with toks := tk }) : wpAny (model prog w) A (call (.builtin "len") [.ref d]) Q E s := by
  have ho := (N _ hm).1
  have hT : s.TypeIs (.ref d) "bytearray" := ⟨_, ho, rfl⟩
  refine Calls.call_function_entry kind_len plain_len entry_len (args_len1 _) ?_
  unfold Builtin.«len»
  refine wpAny_bind (m := oneArg "len" _) (wpAny_pure ?_)
  refine wpAny_bind (m := callSpecial? (.ref d) (Str.ofString "__len__")) (wpAny_callSpecial?_slot (name := Str.ofString "__len__") hT ba_slot_len (wpAny_call_entry ba_slot_len hT ba_entry_len ?_ (ba_args_len _)))
  show wpAny _ _ (do retInt ((← Builtin.Bytes.payload (.ref d)).size : Int)) _ _ s
  unfold Builtin.Bytes.payload Builtin.Bytes.payload?
  refine wpAny_bind (wpAny_bind (wpAny_bind (wpAny_load ho (wpAny_pure ?_))))
  dsimp only
  refine wpAny_pure ?_
  refine wpAny_bind (wpAny_mkInt (wpAny_pure ⟨_, rfl, ?_⟩))
  refine wpAny_bind (wpAny_holding (wpAny_pure ?_))
  refine wpAny_bind (wpAny_letGo ?_)
  show wpAny _ _ (if (0 : Int) < 0 then _ else _) _ _ _
  rw [if_neg (by decide)]
  show wpAny _ _ (if (0 : Int) ≥ 2 ^ 63 then _ else _) _ _ _
  rw [if_neg (by decide)]
  exact wpAny_bind (wpAny_mkInt (wpAny_pure ⟨_, rfl, h _ _⟩))
end
section
theorem ln_Win_2 : True := by
 k_with "call builtin:len" => (((with_reducible show wpAny _ _ (call (Value.builtin "len") [Value.ref _]) _ _ _); (k_dflt (refine' ba_len (by assumption) ?m ?_; (case m => k_mem))); intro tL tkL))
 k_with "call ref" => (((k_dflt (show wpAny _ _ (call (Value.ref 213) [_, _, _]) _ _ _)); (k_dflt (refine' use_call (by assumption) (by assumption) (by assumption) (by assumption) Takes.nil (fun H => plus_c (z := nx + 16) B (Lo.mono (by assumption) (by decide)) (by decide) ?hz H) ?_; (case hz => omega))); (try clear DN); (refine elimT ?_; intro tN hN tkN FN NN DN); (simp only [List.nil_append] at NN DN); (try k_sweep)))
 trivial
theorem free_c {w : World} {mean : ExcName → Option Value} {mg mb : Str → Option Value} {hb : Heap} {s : Shared} {A : Around} {r dr ba : Addr} {od : Obj} {nx : Int}
   (B : Base (hd.heap_1 w.params) hd.view_1 LOOSE mean mg mb hb) (lo : Lo 2 A) (hx : 0 ≤ nx ∧ nx < 200) (W : RecObj w nx ba od) (H : Has hb s [(r, instObj 1117 dr), (dr, od), (ba, baOf)]) :
   codeAny (model PR w) A (.call (.ref 1009) ⟨[.ref r], []⟩) (Rets s [(r, instObj 1117 dr), (dr, od), (ba, baOf)] (fun v nf => (∃ t, v = .int (nx + 16) t) ∧ nf = [(r, instObj 1117 dr), (dr, od), (ba, baOf)])) s := by
  obtain ⟨k0, k1, k2, k3, k4, k5, k6, k7, k8, k9, t0, t1, t2, t3, t6, v5, v7, v9, rfl⟩ := W
  refine' enter (binds := [(Str.ofString "self", .ref r)]) B H lo ?ho ?hcd ?hbind ?hloc ?h ?hcell ?hco ?hgen ?hk
  walk_at "m_enter"
  k_steps
  all_goals (try dsimp only)
  refine' rets_end hRR hg2 (by assumption) (by assumption) (by assumption) ⟨⟨_, rfl⟩, rfl⟩ ?p1
  walk_at "m_ends"
end
section
theorem ln_Win_3 : True := by
 k_with_none
 k_with "m_enter" => ((
     case ho => k_is
     case hcd => k_is
     case hbind => first | exact BindsTo.of_eq rfl | exact binds_K (Frag.In.keeps (Base.X (by assumption)) (Has.stays (by assumption))) rfl (by k_is) rfl rfl rfl
     case hloc => exact locs rfl
     case hcell => decide
     case hco => exact rfl
     case hgen => exact rfl
     case hk => exact rfl
     intro RR hRR g L' h₁ A' lo' St hg1 hg2 F N D X T
     (try dsimp only [List.reverse, List.reverseAux, List.length] at *)))
 k_with "m_takes" => (first
     | exact Takes.nil
     | (refine' Takes.cons ?az047 ?bz047; (case az047 => walk_at "m_pull"); (case bz047 => walk_at "m_takes"))
     | (refine' Takes.app ?az047 ?bz047; (case az047 => walk_at "m_pullL"); (case bz047 => walk_at "m_takes"))
     | (refine' Takes.last ?az047; (case az047 => walk_at "m_pullL")))
 k_with "m_pull" => (first
     | exact Pull.head
     | (refine' Pull.tail ?az350; (case az350 => walk_at "m_pull"))
     | (refine' Pull.app ?az350; (case az350 => walk_at "m_pull")))
 k_with "m_pullL" => (first
     | exact PullL.head
     | exact PullL.whole
     | (refine' PullL.tail ?az531; (case az531 => walk_at "m_pullL"))
     | (refine' PullL.app ?az531; (case az531 => walk_at "m_pullL")))
 k_with "m_ends" => ((case p1 => ((try simp only [tcbLed]); (try simp only [whLed, List.append_assoc, List.cons_append, List.nil_append, List.append_nil]); (walk_at "m_takes"))))
 k_with "m_updn" => (first | exact UpdN.head | (refine' UpdN.tail ?az058; (case az058 => walk_at "m_updn")) | (refine' UpdN.app ?az058; (case az058 => walk_at "m_updn")))
 k_with "m_updg" => (first | exact UpdG.head | (refine' UpdG.tail ?az984; (case az984 => walk_at "m_updg")) | (refine' UpdG.app ?az984; (case az984 => walk_at "m_updg")))
 k_with "k_upd" => (k_dflt (refine' upd_of ?Dz233 ?Uz233; (case Dz233 => assumption); (case Uz233 => walk_at "m_updn")))
 k_with "k_updF" => (k_dflt (refine' updF_of ?Dz235 ?Uz235; (case Dz235 => assumption); (case Uz235 => walk_at "m_updg")))
 k_with "k_mem" => (first | with_reducible exact List.mem_cons_self | (with_reducible exact List.mem_append_left _ (by assumption)) | (with_reducible refine' List.mem_cons_of_mem _ ?mmz799; (case mmz799 => k_mem)) | (with_reducible refine' List.mem_append_right _ ?mmz799; (case mmz799 => k_mem)) | with_reducible assumption)
 k_with "getMethod ref" => ((k_dflt (refine' method_inst ?k1z510 ?k2z510 ?k3z510 ?k4z510 ?k5z510 ?k6z510 ?k7z510 ?_; (case k1z510 => k_asm); (case k2z510 => k_asm); (case k3z510 => k_inst); (case k4z510 => k_is); (case k5z510 => k_is); (case k6z510 => k_is); (case k7z510 => k_get); k_whole)))
 k_with "getAttr ref" => ((k_dflt (refine' get_own ?k1z343 ?k2z343 ?k3z343 ?k4z343 ?k5z343 ?k6z343 ?k7z343 ?k8z343 ?k9z343 ?_; (case k1z343 => k_asm); (case k2z343 => k_asm); (case k3z343 => k_inst); (case k4z343 => k_is); (case k5z343 => k_is); (case k6z343 => k_is); (case k7z343 => k_is); (case k8z343 => k_get); (case k9z343 => k_handed); k_whole)))
 k_with "k_handed" => (assumption)
 k_with "k_units" => (first | exact Lo.line (by assumption) | exact Lo.line (Lo.in1 (by assumption)))
 k_with "k_room" => (exact Lo.room (by assumption))
 k_with "execs cons" => (((with_reducible show wpAny _ _ (execs (_ :: _) _) _ _ _); (k_dflt (refine execs_flat (s := s) ?_)); intro tkF))
 k_with "call ref" => (((k_dflt (show wpAny _ _ (call (Value.ref 1009) [_]) _ _ _)); (k_dflt (refine' use_call (by assumption) (by assumption) (by assumption) (by assumption) ?P (fun H => free_c B (Lo.mono (by assumption) (by decide)) hx W H) ?_; (case P => walk_at "m_takes"))); (try clear DN); (refine elimT ?_; intro tN hN tkN FN NN DN); (simp only [List.cons_append, List.nil_append] at NN DN); (try k_sweep)))
 k_with "call ref" => (((k_dflt (show wpAny _ _ (call (Value.ref 227) [_, _, _]) _ _ _)); (k_dflt (first
     | (refine' use_call (by assumption) (by assumption) (by assumption) (by assumption) Takes.nil (fun H => before_c (z := 0) B (Lo.mono (by assumption) (by decide)) (by decide) ?hz (by decide) (by decide) H) ?_; (case hz => omega))
     | (refine' use_call (by assumption) (by assumption) (by assumption) (by assumption) Takes.nil (fun H => before_c (z := 240) B (Lo.mono (by assumption) (by decide)) (by decide) ?hz (by decide) (by decide) H) ?_; (case hz => omega)))); (try clear DN); (refine elim0 ?_; intro hN tkN FN NN DN); (simp only [List.nil_append] at NN DN); (try k_sweep)))
 k_with "call ref" => (((k_dflt (show wpAny _ _ (call (Value.ref 220) [_, _, _]) _ _ _)); (k_dflt (refine' use_call (by assumption) (by assumption) (by assumption) (by assumption) Takes.nil (fun H => dist_c (z := 16) B (Lo.mono (by assumption) (by decide)) (by decide) ?hz H) ?_; (case hz => omega))); (try clear DN); (refine elimT ?_; intro tN hN tkN FN NN DN); (simp only [List.nil_append] at NN DN); (try k_sweep)))
 trivial
theorem should_c {w : World} {mean : ExcName → Option Value} {mg mb : Str → Option Value} {hb : Heap} {s : Shared} {A : Around} {r dr ba : Addr} {od : Obj} {nx ms : Int} {tm : Tok}
   (B : Base (hd.heap_1 w.params) hd.view_1 LOOSE mean mg mb hb) (lo : Lo 4 A) (hx : 0 ≤ nx ∧ nx < 200) (W : RecObj w nx ba od) (H : Has hb s [(r, instObj 1117 dr), (dr, od), (ba, baOf)]) :
   codeAny (model PR w) A (.call (.ref 1016) ⟨[.ref r, .int ms tm], []⟩) (Rets s [(r, instObj 1117 dr), (dr, od), (ba, baOf)] (fun v nf => v = .bool false ∧ nf = [(r, instObj 1117 dr), (dr, od), (ba, baOf)])) s := by
  have W' := W
  obtain ⟨k0, k1, k2, k3, k4, k5, k6, k7, k8, k9, t0, t1, t2, t3, t6, v5, v7, v9, rfl⟩ := W'
  refine' enter (binds := [(Str.ofString "self", .ref r), (Str.ofString "mss", .int ms tm)]) B H lo ?ho ?hcd ?hbind ?hloc ?h ?hcell ?hco ?hgen ?hk
  walk_at "m_enter"
  k_steps
  all_goals (try dsimp only)
  refine' rets_end hRR hg2 (by assumption) (by assumption) (by assumption) ⟨rfl, rfl⟩ ?p1
  walk_at "m_ends"
theorem told_c {w : World} {mean : ExcName → Option Value} {mg mb : Str → Option Value} {hb : Heap} {s : Shared} {A : Around} {r dr ba : Addr} {od : Obj} {nx : Int}
   (B : Base (hd.heap_1 w.params) hd.view_1 LOOSE mean mg mb hb) (lo : Lo 3 A) (hx : 0 ≤ nx ∧ nx < 200) (W : RecObj w nx ba od) (H : Has hb s [(r, instObj 1117 dr), (dr, od), (ba, baOf)]) :
   codeAny (model PR w) A (.call (.ref 1023) ⟨[.ref r], []⟩) (Rets s [(r, instObj 1117 dr), (dr, od), (ba, baOf)] (fun v nf => (∃ t, v = .int 16 t) ∧ nf = [(r, instObj 1117 dr), (dr, od), (ba, baOf)])) s := by
  obtain ⟨k0, k1, k2, k3, k4, k5, k6, k7, k8, k9, t0, t1, t2, t3, t6, v5, v7, v9, rfl⟩ := W
  refine' enter (binds := [(Str.ofString "self", .ref r)]) B H lo ?ho ?hcd ?hbind ?hloc ?h ?hcell ?hco ?hgen ?hk
  walk_at "m_enter"
  k_steps
  all_goals (try dsimp only)
  refine' rets_end hRR hg2 (by assumption) (by assumption) (by assumption) ⟨⟨_, rfl⟩, rfl⟩ ?p1
  walk_at "m_ends"
end
end Mine
namespace Mine
open PySem PySem.W PySem.Spec PySem.Calls PyProof.Rows
section
variable {prog : Program} {w : World} {A : Around} {E : Value → Shared → Prop} {s : Shared} {h₀ : Heap} {L : Addr} {m : Str → Option Value} {news : Led} {Q : Value → Shared → Prop}
theorem ln_Win2_1 : True := by
 k_with_none
 k_with "m_enter" => ((
     case ho => k_is
     case hcd => k_is
     case hbind => first | exact BindsTo.of_eq rfl | exact binds_K (Frag.In.keeps (Base.X (by assumption)) (Has.stays (by assumption))) rfl (by k_is) rfl rfl rfl
     case hloc => exact locs rfl
     case hcell => decide
     case hco => exact rfl
     case hgen => exact rfl
     case hk => exact rfl
     intro RR hRR g L' h₁ A' lo' St hg1 hg2 F N D X T
     (try dsimp only [List.reverse, List.reverseAux, List.length] at *)))
 k_with "m_takes" => (first
     | exact Takes.nil
     | (refine' Takes.cons ?az047 ?bz047; (case az047 => walk_at "m_pull"); (case bz047 => walk_at "m_takes"))
     | (refine' Takes.app ?az047 ?bz047; (case az047 => walk_at "m_pullL"); (case bz047 => walk_at "m_takes"))
     | (refine' Takes.last ?az047; (case az047 => walk_at "m_pullL")))
 k_with "m_pull" => (first
     | exact Pull.head
     | (refine' Pull.tail ?az350; (case az350 => walk_at "m_pull"))
     | (refine' Pull.app ?az350; (case az350 => walk_at "m_pull")))
 k_with "m_pullL" => (first
     | exact PullL.head
     | exact PullL.whole
     | (refine' PullL.tail ?az531; (case az531 => walk_at "m_pullL"))
     | (refine' PullL.app ?az531; (case az531 => walk_at "m_pullL")))
 k_with "m_ends" => ((case p1 => ((try simp only [tcbLed]); (try simp only [whLed, List.append_assoc, List.cons_append, List.nil_append, List.append_nil]); (walk_at "m_takes"))))
 k_with "m_updn" => (first | exact UpdN.head | (refine' UpdN.tail ?az058; (case az058 => walk_at "m_updn")) | (refine' UpdN.app ?az058; (case az058 => walk_at "m_updn")))
 k_with "m_updg" => (first | exact UpdG.head | (refine' UpdG.tail ?az984; (case az984 => walk_at "m_updg")) | (refine' UpdG.app ?az984; (case az984 => walk_at "m_updg")))
 k_with "k_upd" => (k_dflt (refine' upd_of ?Dz233 ?Uz233; (case Dz233 => assumption); (case Uz233 => walk_at "m_updn")))
 k_with "k_updF" => (k_dflt (refine' updF_of ?Dz235 ?Uz235; (case Dz235 => assumption); (case Uz235 => walk_at "m_updg")))
 k_with "k_mem" => (first | with_reducible exact List.mem_cons_self | (with_reducible exact List.mem_append_left _ (by assumption)) | (with_reducible refine' List.mem_cons_of_mem _ ?mmz799; (case mmz799 => k_mem)) | (with_reducible refine' List.mem_append_right _ ?mmz799; (case mmz799 => k_mem)) | with_reducible assumption)
 k_with "getMethod ref" => ((k_dflt (refine' method_inst ?k1z510 ?k2z510 ?k3z510 ?k4z510 ?k5z510 ?k6z510 ?k7z510 ?_; (case k1z510 => k_asm); (case k2z510 => k_asm); (case k3z510 => k_inst); (case k4z510 => k_is); (case k5z510 => k_is); (case k6z510 => k_is); (case k7z510 => k_get); k_whole)))
 k_with "getAttr ref" => ((k_dflt (refine' get_own ?k1z343 ?k2z343 ?k3z343 ?k4z343 ?k5z343 ?k6z343 ?k7z343 ?k8z343 ?k9z343 ?_; (case k1z343 => k_asm); (case k2z343 => k_asm); (case k3z343 => k_inst); (case k4z343 => k_is); (case k5z343 => k_is); (case k6z343 => k_is); (case k7z343 => k_is); (case k8z343 => k_get); (case k9z343 => k_handed); k_whole)))
 k_with "k_handed" => (assumption)
 k_with "k_units" => (first | exact Lo.line (by assumption) | exact Lo.line (Lo.in1 (by assumption)))
 k_with "k_room" => (exact Lo.room (by assumption))
 k_with "execs cons" => (((with_reducible show wpAny _ _ (execs (_ :: _) _) _ _ _); (k_dflt (refine execs_flat (s := s) ?_)); intro tkF))
 k_with "getAttr ref" => ((k_dflt (with_reducible refine' tcb_state ?yT ?yF ?yX ?yN ?yh1 ?yh2 ?_; (case yN => k_asm); (case yF => k_asm); (case yX => k_in); (case yh1 => k_mem); (case yh2 => k_mem); (case yT => assumption)); intro tS))
 k_with "getAttr ref" => ((k_dflt ((first | with_reducible refine' tcb_wheel ?Tz082 ?Fz082 ?Xz082 ?Nz082 ?h1z082 ?h2z082 ?_ | with_reducible refine' tcb_error ?Tz082 ?Fz082 ?Xz082 ?Nz082 ?h1z082 ?h2z082 ?_ | with_reducible refine' tcb_acks ?Tz082 ?Fz082 ?Xz082 ?Nz082 ?h1z082 ?h2z082 ?_ | with_reducible refine' tcb_limits ?Tz082 ?Fz082 ?Xz082 ?Nz082 ?h1z082 ?h2z082 ?_ | with_reducible refine' tcb_receiver ?Tz082 ?Fz082 ?Xz082 ?Nz082 ?h1z082 ?h2z082 ?_ | with_reducible refine' tcb_sender ?Tz082 ?Fz082 ?Xz082 ?Nz082 ?h1z082 ?h2z082 ?_ | with_reducible refine' tcb_local ?Tz082 ?Fz082 ?Xz082 ?Nz082 ?h1z082 ?h2z082 ?_ | with_reducible refine' tcb_remote ?Tz082 ?Fz082 ?Xz082 ?Nz082 ?h1z082 ?h2z082 ?_); (case Nz082 => k_asm); (case Fz082 => k_asm); (case Xz082 => k_in); (case h1z082 => k_mem); (case h2z082 => k_mem); (case Tz082 => assumption))))
 k_with "getMethod ref" => ((k_dflt ((first | with_reducible refine' wh_cancel ?Wz724 ?Fz724 ?Xz724 ?Nz724 ?Pz724 ?_ | with_reducible refine' wh_put ?Wz724 ?Fz724 ?Xz724 ?Nz724 ?Pz724 ?_ | with_reducible refine' wh_next_time ?Wz724 ?Fz724 ?Xz724 ?Nz724 ?Pz724 ?_ | with_reducible refine' wh_time_of ?Wz724 ?Fz724 ?Xz724 ?Nz724 ?Pz724 ?_); (case Nz724 => k_asm); (case Fz724 => k_asm); (case Xz724 => k_in); (case Wz724 => assumption); (case Pz724 => walk_at "m_pullL"))))
 k_with "call ref" => (((with_reducible show wpAny _ _ (call (Value.ref 775) [_, _]) _ _ _); (k_dflt (refine' use_call (by assumption) (by assumption) (by assumption) (by assumption) ?P (fun H => cancel_c B (Lo.mono (by assumption) (by decide)) (by assumption) ?hc H) ?_; (case P => walk_at "m_takes"); (case hc => omega))); (try clear DN); (refine elim1 ?_; intro nfN WN hN tkN FN NN DN); (try k_sweep)))
 k_with "call ref" => (((with_reducible show wpAny _ _ (call (Value.ref 761) [_, _, _]) _ _ _); (k_dflt (refine' use_call (by assumption) (by assumption) (by assumption) (by assumption) ?P (fun H => put_c B (Lo.mono (by assumption) (by decide)) (by assumption) ?hc H) ?_; (case P => walk_at "m_takes"); (case hc => omega))); (try clear DN); (refine elim1 ?_; intro nfN WN hN tkN FN NN DN); (try k_sweep)))
 k_with "getAttr ref" => ((k_dflt ((first | with_reducible refine' lim_time_wait ?xT ?xF ?xX ?xN ?xh1 ?xh2 ?_ | with_reducible refine' lim_receive_room ?xT ?xF ?xX ?xN ?xh1 ?xh2 ?_ | with_reducible refine' lim_mss ?xT ?xF ?xX ?xN ?xh1 ?xh2 ?_ | with_reducible refine' lim_ring ?xT ?xF ?xX ?xN ?xh1 ?xh2 ?_ | with_reducible refine' lim_send_room ?xT ?xF ?xX ?xN ?xh1 ?xh2 ?_ | with_reducible refine' lim_ack_delay ?xT ?xF ?xX ?xN ?xh1 ?xh2 ?_ | with_reducible refine' lim_first_timeout ?xT ?xF ?xX ?xN ?xh1 ?xh2 ?_ | with_reducible refine' lim_least_timeout ?xT ?xF ?xX ?xN ?xh1 ?xh2 ?_ | with_reducible refine' lim_most_timeout ?xT ?xF ?xX ?xN ?xh1 ?xh2 ?_ | with_reducible refine' lim_most_tries ?xT ?xF ?xX ?xN ?xh1 ?xh2 ?_ | with_reducible refine' rec_next ?xT ?xF ?xX ?xN ?xh1 ?xh2 ?_); (case xN => k_asm); (case xF => k_asm); (case xX => k_in); (case xh1 => k_mem); (case xh2 => k_mem); (case xT => assumption)); intro tI))
 k_with "getMethod ref" => ((k_dflt ((first | with_reducible refine' ack_on_sent ?xT ?xF ?xX ?xN ?xh1 ?xh2 ?_ | with_reducible refine' ack_due_time ?xT ?xF ?xX ?xN ?xh1 ?xh2 ?_ | with_reducible refine' ack_on_octets ?xT ?xF ?xX ?xN ?xh1 ?xh2 ?_ | with_reducible refine' rec_window ?xT ?xF ?xX ?xN ?xh1 ?xh2 ?_ | with_reducible refine' tcb_make ?xT ?xF ?xX ?xN ?xh1 ?xh2 ?_ | with_reducible refine' tcb_window_now ?xT ?xF ?xX ?xN ?xh1 ?xh2 ?_); (case xN => k_asm); (case xF => k_asm); (case xX => k_in); (case xh1 => k_mem); (case xh2 => k_mem); (case xT => first | assumption | exact AckNew.obj (by assumption)))))
 k_with "getAttr ref" => ((k_dflt ((with_reducible refine' snd_next ?xT ?xF ?xX ?xN ?xh1 ?xh2 ?_); (case xN => k_asm); (case xF => k_asm); (case xX => k_in); (case xh1 => k_mem); (case xh2 => k_mem); (case xT => assumption)); intro tI))
 trivial
theorem min2_le {k : Nat} {a b : Int} {t u : Tok} (lo : Lo k A) (F : Fr h₀ L s.heap m) (N : News h₀ L s.heap news) (hab : a ≤ b)
    (h : ∀ h' tk, Fr h₀ L h' m → News h₀ L h' news → Q (.int a t) { s with heap := h', toks := tk }) : wpAny (model prog w) A (call (.builtin "min") [.int a t, .int b u]) Q E s := by
  refine min_two_ints lo.handled fun h' tk hk => ?_
  rw [if_neg (by omega)]
  exact h h' tk (F.keeps hk) (N.grown hk)
end
section
theorem ln_Win2_2 : True := by
 k_with "call ref" => (((k_dflt (show wpAny _ _ (call (Value.ref 1016) [_, _]) _ _ _)); (k_dflt (refine' use_call (by assumption) (by assumption) (by assumption) (by assumption) ?P (fun H => should_c B (Lo.mono (by assumption) (by decide)) hx W H) ?_; (case P => walk_at "m_takes"))); (try clear DN); (refine elim0 ?_; intro hN tkN FN NN DN); (simp only [List.cons_append, List.nil_append] at NN DN); (try k_sweep)))
 k_with "call ref" => (((k_dflt (show wpAny _ _ (call (Value.ref 1023) [_]) _ _ _)); (k_dflt (refine' use_call (by assumption) (by assumption) (by assumption) (by assumption) ?P (fun H => told_c B (Lo.mono (by assumption) (by decide)) hx W H) ?_; (case P => walk_at "m_takes"))); (try clear DN); (refine elimT ?_; intro tN hN tkN FN NN DN); (simp only [List.cons_append, List.nil_append] at NN DN); (try k_sweep)))
 trivial
theorem window_c {w : World} {mean : ExcName → Option Value} {mg mb : Str → Option Value} {hb : Heap} {s : Shared} {A : Around} {r dr ba : Addr} {od : Obj} {nx : Int}
   (B : Base (hd.heap_1 w.params) hd.view_1 LOOSE mean mg mb hb) (lo : Lo 5 A) (hx : 0 ≤ nx ∧ nx < 200) (W : RecObj w nx ba od) (H : Has hb s [(r, instObj 1117 dr), (dr, od), (ba, baOf)]) :
   codeAny (model PR w) A (.call (.ref 1030) ⟨[.ref r], []⟩) (Rets s [(r, instObj 1117 dr), (dr, od), (ba, baOf)] (fun v nf => (∃ t, v = .int 16 t) ∧ nf = [(r, instObj 1117 dr), (dr, od), (ba, baOf)])) s := by
  have W' := W
  obtain ⟨k0, k1, k2, k3, k4, k5, k6, k7, k8, k9, t0, t1, t2, t3, t6, v5, v7, v9, rfl⟩ := W'
  refine' enter (binds := [(Str.ofString "self", .ref r)]) B H lo ?ho ?hcd ?hbind ?hloc ?h ?hcell ?hco ?hgen ?hk
  walk_at "m_enter"
  k_steps
  all_goals (try dsimp only)
  refine' rets_end hRR hg2 (by assumption) (by assumption) (by assumption) ⟨⟨_, rfl⟩, rfl⟩ ?p1
  walk_at "m_ends"
end
section
theorem ln_Win2_3 : True := by
 k_with_none
 k_with "m_enter" => ((
     case ho => k_is
     case hcd => k_is
     case hbind => first | exact BindsTo.of_eq rfl | exact binds_K (Frag.In.keeps (Base.X (by assumption)) (Has.stays (by assumption))) rfl (by k_is) rfl rfl rfl
     case hloc => exact locs rfl
     case hcell => decide
     case hco => exact rfl
     case hgen => exact rfl
     case hk => exact rfl
     intro RR hRR g L' h₁ A' lo' St hg1 hg2 F N D X T
     (try dsimp only [List.reverse, List.reverseAux, List.length] at *)))
 k_with "m_takes" => (first
     | exact Takes.nil
     | (refine' Takes.cons ?az047 ?bz047; (case az047 => walk_at "m_pull"); (case bz047 => walk_at "m_takes"))
     | (refine' Takes.app ?az047 ?bz047; (case az047 => walk_at "m_pullL"); (case bz047 => walk_at "m_takes"))
     | (refine' Takes.last ?az047; (case az047 => walk_at "m_pullL")))
 k_with "m_pull" => (first
     | exact Pull.head
     | (refine' Pull.tail ?az350; (case az350 => walk_at "m_pull"))
     | (refine' Pull.app ?az350; (case az350 => walk_at "m_pull")))
 k_with "m_pullL" => (first
     | exact PullL.head
     | exact PullL.whole
     | (refine' PullL.tail ?az531; (case az531 => walk_at "m_pullL"))
     | (refine' PullL.app ?az531; (case az531 => walk_at "m_pullL")))
 k_with "m_ends" => ((case p1 => ((try simp only [tcbLed]); (try simp only [whLed, List.append_assoc, List.cons_append, List.nil_append, List.append_nil]); (walk_at "m_takes"))))
 k_with "m_updn" => (first | exact UpdN.head | (refine' UpdN.tail ?az058; (case az058 => walk_at "m_updn")) | (refine' UpdN.app ?az058; (case az058 => walk_at "m_updn")))
 k_with "m_updg" => (first | exact UpdG.head | (refine' UpdG.tail ?az984; (case az984 => walk_at "m_updg")) | (refine' UpdG.app ?az984; (case az984 => walk_at "m_updg")))
 k_with "k_upd" => (k_dflt (refine' upd_of ?Dz233 ?Uz233; (case Dz233 => assumption); (case Uz233 => walk_at "m_updn")))
 k_with "k_updF" => (k_dflt (refine' updF_of ?Dz235 ?Uz235; (case Dz235 => assumption); (case Uz235 => walk_at "m_updg")))
 k_with "k_mem" => (first | with_reducible exact List.mem_cons_self | (with_reducible exact List.mem_append_left _ (by assumption)) | (with_reducible refine' List.mem_cons_of_mem _ ?mmz799; (case mmz799 => k_mem)) | (with_reducible refine' List.mem_append_right _ ?mmz799; (case mmz799 => k_mem)) | with_reducible assumption)
 k_with "getMethod ref" => ((k_dflt (refine' method_inst ?k1z510 ?k2z510 ?k3z510 ?k4z510 ?k5z510 ?k6z510 ?k7z510 ?_; (case k1z510 => k_asm); (case k2z510 => k_asm); (case k3z510 => k_inst); (case k4z510 => k_is); (case k5z510 => k_is); (case k6z510 => k_is); (case k7z510 => k_get); k_whole)))
 k_with "getAttr ref" => ((k_dflt (refine' get_own ?k1z343 ?k2z343 ?k3z343 ?k4z343 ?k5z343 ?k6z343 ?k7z343 ?k8z343 ?k9z343 ?_; (case k1z343 => k_asm); (case k2z343 => k_asm); (case k3z343 => k_inst); (case k4z343 => k_is); (case k5z343 => k_is); (case k6z343 => k_is); (case k7z343 => k_is); (case k8z343 => k_get); (case k9z343 => k_handed); k_whole)))
 k_with "k_handed" => (assumption)
 k_with "k_units" => (first | exact Lo.line (by assumption) | exact Lo.line (Lo.in1 (by assumption)))
 k_with "k_room" => (exact Lo.room (by assumption))
 k_with "execs cons" => (((with_reducible show wpAny _ _ (execs (_ :: _) _) _ _ _); (k_dflt (refine execs_flat (s := s) ?_)); intro tkF))
 k_with "getAttr ref" => ((k_dflt (with_reducible refine' tcb_state ?yT ?yF ?yX ?yN ?yh1 ?yh2 ?_; (case yN => k_asm); (case yF => k_asm); (case yX => k_in); (case yh1 => k_mem); (case yh2 => k_mem); (case yT => assumption)); intro tS))
 k_with "getAttr ref" => ((k_dflt ((first | with_reducible refine' tcb_wheel ?Tz082 ?Fz082 ?Xz082 ?Nz082 ?h1z082 ?h2z082 ?_ | with_reducible refine' tcb_error ?Tz082 ?Fz082 ?Xz082 ?Nz082 ?h1z082 ?h2z082 ?_ | with_reducible refine' tcb_acks ?Tz082 ?Fz082 ?Xz082 ?Nz082 ?h1z082 ?h2z082 ?_ | with_reducible refine' tcb_limits ?Tz082 ?Fz082 ?Xz082 ?Nz082 ?h1z082 ?h2z082 ?_ | with_reducible refine' tcb_receiver ?Tz082 ?Fz082 ?Xz082 ?Nz082 ?h1z082 ?h2z082 ?_ | with_reducible refine' tcb_sender ?Tz082 ?Fz082 ?Xz082 ?Nz082 ?h1z082 ?h2z082 ?_ | with_reducible refine' tcb_local ?Tz082 ?Fz082 ?Xz082 ?Nz082 ?h1z082 ?h2z082 ?_ | with_reducible refine' tcb_remote ?Tz082 ?Fz082 ?Xz082 ?Nz082 ?h1z082 ?h2z082 ?_); (case Nz082 => k_asm); (case Fz082 => k_asm); (case Xz082 => k_in); (case h1z082 => k_mem); (case h2z082 => k_mem); (case Tz082 => assumption))))
 k_with "getMethod ref" => ((k_dflt ((first | with_reducible refine' wh_cancel ?Wz724 ?Fz724 ?Xz724 ?Nz724 ?Pz724 ?_ | with_reducible refine' wh_put ?Wz724 ?Fz724 ?Xz724 ?Nz724 ?Pz724 ?_ | with_reducible refine' wh_next_time ?Wz724 ?Fz724 ?Xz724 ?Nz724 ?Pz724 ?_ | with_reducible refine' wh_time_of ?Wz724 ?Fz724 ?Xz724 ?Nz724 ?Pz724 ?_); (case Nz724 => k_asm); (case Fz724 => k_asm); (case Xz724 => k_in); (case Wz724 => assumption); (case Pz724 => walk_at "m_pullL"))))
 k_with "call ref" => (((with_reducible show wpAny _ _ (call (Value.ref 775) [_, _]) _ _ _); (k_dflt (refine' use_call (by assumption) (by assumption) (by assumption) (by assumption) ?P (fun H => cancel_c B (Lo.mono (by assumption) (by decide)) (by assumption) ?hc H) ?_; (case P => walk_at "m_takes"); (case hc => omega))); (try clear DN); (refine elim1 ?_; intro nfN WN hN tkN FN NN DN); (try k_sweep)))
 k_with "call ref" => (((with_reducible show wpAny _ _ (call (Value.ref 761) [_, _, _]) _ _ _); (k_dflt (refine' use_call (by assumption) (by assumption) (by assumption) (by assumption) ?P (fun H => put_c B (Lo.mono (by assumption) (by decide)) (by assumption) ?hc H) ?_; (case P => walk_at "m_takes"); (case hc => omega))); (try clear DN); (refine elim1 ?_; intro nfN WN hN tkN FN NN DN); (try k_sweep)))
 k_with "getAttr ref" => ((k_dflt ((first | with_reducible refine' lim_time_wait ?xT ?xF ?xX ?xN ?xh1 ?xh2 ?_ | with_reducible refine' lim_receive_room ?xT ?xF ?xX ?xN ?xh1 ?xh2 ?_ | with_reducible refine' lim_mss ?xT ?xF ?xX ?xN ?xh1 ?xh2 ?_ | with_reducible refine' lim_ring ?xT ?xF ?xX ?xN ?xh1 ?xh2 ?_ | with_reducible refine' lim_send_room ?xT ?xF ?xX ?xN ?xh1 ?xh2 ?_ | with_reducible refine' lim_ack_delay ?xT ?xF ?xX ?xN ?xh1 ?xh2 ?_ | with_reducible refine' lim_first_timeout ?xT ?xF ?xX ?xN ?xh1 ?xh2 ?_ | with_reducible refine' lim_least_timeout ?xT ?xF ?xX ?xN ?xh1 ?xh2 ?_ | with_reducible refine' lim_most_timeout ?xT ?xF ?xX ?xN ?xh1 ?xh2 ?_ | with_reducible refine' lim_most_tries ?xT ?xF ?xX ?xN ?xh1 ?xh2 ?_ | with_reducible refine' rec_next ?xT ?xF ?xX ?xN ?xh1 ?xh2 ?_); (case xN => k_asm); (case xF => k_asm); (case xX => k_in); (case xh1 => k_mem); (case xh2 => k_mem); (case xT => assumption)); intro tI))
 k_with "getMethod ref" => ((k_dflt ((first | with_reducible refine' ack_on_sent ?xT ?xF ?xX ?xN ?xh1 ?xh2 ?_ | with_reducible refine' ack_due_time ?xT ?xF ?xX ?xN ?xh1 ?xh2 ?_ | with_reducible refine' ack_on_octets ?xT ?xF ?xX ?xN ?xh1 ?xh2 ?_ | with_reducible refine' rec_window ?xT ?xF ?xX ?xN ?xh1 ?xh2 ?_ | with_reducible refine' tcb_make ?xT ?xF ?xX ?xN ?xh1 ?xh2 ?_ | with_reducible refine' tcb_window_now ?xT ?xF ?xX ?xN ?xh1 ?xh2 ?_); (case xN => k_asm); (case xF => k_asm); (case xX => k_in); (case xh1 => k_mem); (case xh2 => k_mem); (case xT => first | assumption | exact AckNew.obj (by assumption)))))
 k_with "getAttr ref" => ((k_dflt ((with_reducible refine' snd_next ?xT ?xF ?xX ?xN ?xh1 ?xh2 ?_); (case xN => k_asm); (case xF => k_asm); (case xX => k_in); (case xh1 => k_mem); (case xh2 => k_mem); (case xT => assumption)); intro tI))
 k_with "call ref" => (((k_dflt (show wpAny _ _ (call (Value.ref 1030) [_]) _ _ _)); (k_dflt (refine' use_call (by assumption) (by assumption) (by assumption) (by assumption) ?P (fun H => window_c B (Lo.mono (by assumption) (by decide)) hx W H) ?_; (case P => walk_at "m_takes"))); (try clear DN); (refine elimT ?_; intro tN hN tkN FN NN DN); (simp only [List.cons_append, List.nil_append] at NN DN); (try k_sweep)))
 k_with "call builtin:min" => ((k_dflt (refine min2_le (by assumption) (by assumption) (by assumption) (by decide) ?_); intro h' tk' F' N'; (try k_sweep)))
 trivial
theorem wnow_n {w : World} {mean : ExcName → Option Value} {mg mb : Str → Option Value} {hb : Heap} {s : Shared} {A : Around} {t dt lim dlim loc rem snd ac wh : Addr} {odt odl : Obj} {S : Str} {ev : Value}
   (B : Base (hd.heap_1 w.params) hd.view_1 LOOSE mean mg mb hb) (lo : Lo 1 A) (WT : TcbObj w lim loc rem snd ac wh S ev .none odt) (WL : LimObj w odl)
   (H : Has hb s [(t, instObj 866 dt), (dt, odt), (lim, instObj 823 dlim), (dlim, odl)]) :
   codeAny (model PR w) A (.call (.ref 855) ⟨[.ref t], []⟩) (Rets s [(t, instObj 866 dt), (dt, odt), (lim, instObj 823 dlim), (dlim, odl)] (fun v nf => (∃ t, v = .int 16 t) ∧ nf = [(t, instObj 866 dt), (dt, odt), (lim, instObj 823 dlim), (dlim, odl)])) s := by
  refine' enter (binds := [(Str.ofString "self", .ref t)]) B H lo ?ho ?hcd ?hbind ?hloc ?h ?hcell ?hco ?hgen ?hk
  walk_at "m_enter"
  k_steps
  all_goals (try dsimp only)
  refine' rets_end hRR hg2 (by assumption) (by assumption) (by assumption) ⟨⟨_, rfl⟩, rfl⟩ ?p1
  walk_at "m_ends"
theorem wnow_s {w : World} {mean : ExcName → Option Value} {mg mb : Str → Option Value} {hb : Heap} {s : Shared} {A : Around} {t dt lim loc rem snd ac wh r dr ba : Addr} {odt od : Obj} {S : Str} {ev : Value} {nx : Int}
   (B : Base (hd.heap_1 w.params) hd.view_1 LOOSE mean mg mb hb) (lo : Lo 6 A) (WT : TcbObj w lim loc rem snd ac wh S ev (.ref r) odt) (hx : 0 ≤ nx ∧ nx < 200) (W : RecObj w nx ba od)
   (H : Has hb s [(t, instObj 866 dt), (dt, odt), (r, instObj 1117 dr), (dr, od), (ba, baOf)]) :
   codeAny (model PR w) A (.call (.ref 855) ⟨[.ref t], []⟩) (Rets s [(t, instObj 866 dt), (dt, odt), (r, instObj 1117 dr), (dr, od), (ba, baOf)] (fun v nf => (∃ t, v = .int 16 t) ∧ nf = [(t, instObj 866 dt), (dt, odt), (r, instObj 1117 dr), (dr, od), (ba, baOf)])) s := by
  refine' enter (binds := [(Str.ofString "self", .ref t)]) B H lo ?ho ?hcd ?hbind ?hloc ?h ?hcell ?hco ?hgen ?hk
  walk_at "m_enter"
  k_steps
  all_goals (try dsimp only)
  refine' rets_end hRR hg2 (by assumption) (by assumption) (by assumption) ⟨⟨_, rfl⟩, rfl⟩ ?p1
  walk_at "m_ends"
end
end Mine
namespace Mine
open PySem PySem.W PySem.Spec PySem.Calls PyProof.Rows
section
variable {prog : Program} {w : World} {A : Around} {E : Value → Shared → Prop} {s : Shared} {h₀ : Heap} {L : Addr} {m : Str → Option Value} {news : Led} {Q : Value → Shared → Prop}
theorem ln_Mss_1 : True := by
 k_with_none
 k_with "m_enter" => ((
     case ho => k_is
     case hcd => k_is
     case hbind => first | exact BindsTo.of_eq rfl | exact binds_K (Frag.In.keeps (Base.X (by assumption)) (Has.stays (by assumption))) rfl (by k_is) rfl rfl rfl
     case hloc => exact locs rfl
     case hcell => decide
     case hco => exact rfl
     case hgen => exact rfl
     case hk => exact rfl
     intro RR hRR g L' h₁ A' lo' St hg1 hg2 F N D X T
     (try dsimp only [List.reverse, List.reverseAux, List.length] at *)))
 k_with "m_takes" => (first
     | exact Takes.nil
     | (refine' Takes.cons ?az047 ?bz047; (case az047 => walk_at "m_pull"); (case bz047 => walk_at "m_takes"))
     | (refine' Takes.app ?az047 ?bz047; (case az047 => walk_at "m_pullL"); (case bz047 => walk_at "m_takes"))
     | (refine' Takes.last ?az047; (case az047 => walk_at "m_pullL")))
 k_with "m_pull" => (first
     | exact Pull.head
     | (refine' Pull.tail ?az350; (case az350 => walk_at "m_pull"))
     | (refine' Pull.app ?az350; (case az350 => walk_at "m_pull")))
 k_with "m_pullL" => (first
     | exact PullL.head
     | exact PullL.whole
     | (refine' PullL.tail ?az531; (case az531 => walk_at "m_pullL"))
     | (refine' PullL.app ?az531; (case az531 => walk_at "m_pullL")))
 k_with "m_ends" => ((case p1 => ((try simp only [tcbLed]); (try simp only [whLed, List.append_assoc, List.cons_append, List.nil_append, List.append_nil]); (walk_at "m_takes"))))
 k_with "m_updn" => (first | exact UpdN.head | (refine' UpdN.tail ?az058; (case az058 => walk_at "m_updn")) | (refine' UpdN.app ?az058; (case az058 => walk_at "m_updn")))
 k_with "m_updg" => (first | exact UpdG.head | (refine' UpdG.tail ?az984; (case az984 => walk_at "m_updg")) | (refine' UpdG.app ?az984; (case az984 => walk_at "m_updg")))
 k_with "k_upd" => (k_dflt (refine' upd_of ?Dz233 ?Uz233; (case Dz233 => assumption); (case Uz233 => walk_at "m_updn")))
 k_with "k_updF" => (k_dflt (refine' updF_of ?Dz235 ?Uz235; (case Dz235 => assumption); (case Uz235 => walk_at "m_updg")))
 k_with "k_mem" => (first | with_reducible exact List.mem_cons_self | (with_reducible exact List.mem_append_left _ (by assumption)) | (with_reducible refine' List.mem_cons_of_mem _ ?mmz799; (case mmz799 => k_mem)) | (with_reducible refine' List.mem_append_right _ ?mmz799; (case mmz799 => k_mem)) | with_reducible assumption)
 k_with "k_handed" => (assumption)
 k_with "k_units" => (first | exact Lo.line (by assumption) | exact Lo.line (Lo.in1 (by assumption)))
 k_with "k_room" => (exact Lo.room (by assumption))
 k_with "execs cons" => (((with_reducible show wpAny _ _ (execs (_ :: _) _) _ _ _); (k_dflt (refine execs_flat (s := s) ?_)); intro tkF))
 trivial
theorem bytes_M {k n : Nat} {l : Addr} {vs : List Value} {ns : List Int} {z : Array UInt8} (lo : Lo k A) (F : Fr h₀ L s.heap m) (N : News h₀ L s.heap news) (hm : (l, listOf vs.toArray n) ∈ news)
    (hi : IntsAre vs ns) (hr : KBa.In ns) (hn : ns.length ≤ 16777216) (hz : byteArr ns = z) (h : ∀ h' t' k, Fr h₀ L h' m → News h₀ L h' news → Q (.bytes z t') { s with heap := h', toks := k }) :
    wpAny (model prog w) A (call (.type "bytes") [.ref l]) Q E s := by
  subst hz
  exact KBa.make_K F N lo.handled (News.isList N hm) hi hr hn fun h' t' k F' N' _ => h h' t' k F' N'
end
section
theorem ln_Mss_2 : True := by
 k_with "call type:bytes" => ((k_dflt (refine' bytes_M (z := #[0, 4]) (by assumption) (by assumption) (by assumption) ?hm ?hi ?hr ?hn ?hz ?_; (case hm => k_mem); (case hi => exact IntsAre.cons _ _ (IntsAre.cons _ _ IntsAre.nil)); (case hr => (unfold KBa.In; decide +kernel)); (case hn => decide +kernel); (case hz => decide +kernel)); intro h' t' k' F' N'; (try k_sweep)))
 trivial
theorem put16_c {w : World} {mean : ExcName → Option Value} {mg mb : Str → Option Value} {hb : Heap} {s : Shared} {A : Around} {tn : Tok}
   (B : Base (hd.heap_1 w.params) hd.view_1 LOOSE mean mg mb hb) (lo : Lo 1 A) (H : Has hb s []) :
   codeAny (model PR w) A (.call (.ref 663) ⟨[.int 4 tn], []⟩) (Rets s [] (fun v nf => (∃ t, v = .bytes #[0, 4] t) ∧ nf = [])) s := by
  refine' enter (binds := [(Str.ofString "n", .int 4 tn)]) B H lo ?ho ?hcd ?hbind ?hloc ?h ?hcell ?hco ?hgen ?hk
  walk_at "m_enter"
  k_steps
  all_goals (try dsimp only)
  refine' rets_end hRR hg2 (by assumption) (by assumption) (by assumption) ⟨⟨_, rfl⟩, rfl⟩ ?p1
  walk_at "m_ends"
theorem check_c {w : World} {mean : ExcName → Option Value} {mg mb : Str → Option Value} {hb : Heap} {s : Shared} {A : Around} {tn tb : Tok}
   (B : Base (hd.heap_1 w.params) hd.view_1 LOOSE mean mg mb hb) (lo : Lo 1 A) (H : Has hb s []) :
   codeAny (model PR w) A (.call (.ref 713) ⟨[.int 4 tn, .int 16 tb], []⟩) (Rets s [] (fun v nf => v = .none ∧ nf = [])) s := by
  refine' enter (binds := [(Str.ofString "number", .int 4 tn), (Str.ofString "bits", .int 16 tb)]) B H lo ?ho ?hcd ?hbind ?hloc ?h ?hcell ?hco ?hgen ?hk
  walk_at "m_enter"
  k_steps
  all_goals (try dsimp only)
  refine' rets_end hRR hg2 (by assumption) (by assumption) (by assumption) ⟨rfl, rfl⟩ ?p1
  walk_at "m_ends"
end
section
theorem ln_Mss_3 : True := by
 k_with_none
 k_with "m_enter" => ((
     case ho => k_is
     case hcd => k_is
     case hbind => first | exact BindsTo.of_eq rfl | exact binds_K (Frag.In.keeps (Base.X (by assumption)) (Has.stays (by assumption))) rfl (by k_is) rfl rfl rfl
     case hloc => exact locs rfl
     case hcell => decide
     case hco => exact rfl
     case hgen => exact rfl
     case hk => exact rfl
     intro RR hRR g L' h₁ A' lo' St hg1 hg2 F N D X T
     (try dsimp only [List.reverse, List.reverseAux, List.length] at *)))
 k_with "m_takes" => (first
     | exact Takes.nil
     | (refine' Takes.cons ?az047 ?bz047; (case az047 => walk_at "m_pull"); (case bz047 => walk_at "m_takes"))
     | (refine' Takes.app ?az047 ?bz047; (case az047 => walk_at "m_pullL"); (case bz047 => walk_at "m_takes"))
     | (refine' Takes.last ?az047; (case az047 => walk_at "m_pullL")))
 k_with "m_pull" => (first
     | exact Pull.head
     | (refine' Pull.tail ?az350; (case az350 => walk_at "m_pull"))
     | (refine' Pull.app ?az350; (case az350 => walk_at "m_pull")))
 k_with "m_pullL" => (first
     | exact PullL.head
     | exact PullL.whole
     | (refine' PullL.tail ?az531; (case az531 => walk_at "m_pullL"))
     | (refine' PullL.app ?az531; (case az531 => walk_at "m_pullL")))
 k_with "m_ends" => ((case p1 => ((try simp only [tcbLed]); (try simp only [whLed, List.append_assoc, List.cons_append, List.nil_append, List.append_nil]); (walk_at "m_takes"))))
 k_with "m_updn" => (first | exact UpdN.head | (refine' UpdN.tail ?az058; (case az058 => walk_at "m_updn")) | (refine' UpdN.app ?az058; (case az058 => walk_at "m_updn")))
 k_with "m_updg" => (first | exact UpdG.head | (refine' UpdG.tail ?az984; (case az984 => walk_at "m_updg")) | (refine' UpdG.app ?az984; (case az984 => walk_at "m_updg")))
 k_with "k_upd" => (k_dflt (refine' upd_of ?Dz233 ?Uz233; (case Dz233 => assumption); (case Uz233 => walk_at "m_updn")))
 k_with "k_updF" => (k_dflt (refine' updF_of ?Dz235 ?Uz235; (case Dz235 => assumption); (case Uz235 => walk_at "m_updg")))
 k_with "k_mem" => (first | with_reducible exact List.mem_cons_self | (with_reducible exact List.mem_append_left _ (by assumption)) | (with_reducible refine' List.mem_cons_of_mem _ ?mmz799; (case mmz799 => k_mem)) | (with_reducible refine' List.mem_append_right _ ?mmz799; (case mmz799 => k_mem)) | with_reducible assumption)
 k_with "k_handed" => (assumption)
 k_with "k_units" => (first | exact Lo.line (by assumption) | exact Lo.line (Lo.in1 (by assumption)))
 k_with "k_room" => (exact Lo.room (by assumption))
 k_with "execs cons" => (((with_reducible show wpAny _ _ (execs (_ :: _) _) _ _ _); (k_dflt (refine execs_flat (s := s) ?_)); intro tkF))
 k_with "call type:bytes" => ((k_dflt (refine' bytes_M (z := #[2, 4]) (by assumption) (by assumption) (by assumption) ?hm ?hi ?hr ?hn ?hz ?_; (case hm => k_mem); (case hi => exact IntsAre.cons _ _ (IntsAre.cons _ _ IntsAre.nil)); (case hr => (unfold KBa.In; decide +kernel)); (case hn => decide +kernel); (case hz => decide +kernel)); intro h' t' k' F' N'; (try k_sweep)))
 k_with "call ref" => (((k_dflt (show wpAny _ _ (call (Value.ref 713) [_, _]) _ _ _)); (k_dflt (refine' use_call (by assumption) (by assumption) (by assumption) (by assumption) Takes.nil (fun H => check_c B (Lo.mono (by assumption) (by decide)) H) ?_)); (try clear DN); (refine elim0 ?_; intro hN tkN FN NN DN); (simp only [List.nil_append] at NN DN); (try k_sweep)))
 k_with "call ref" => (((k_dflt (show wpAny _ _ (call (Value.ref 663) [_]) _ _ _)); (k_dflt (refine' use_call (by assumption) (by assumption) (by assumption) (by assumption) Takes.nil (fun H => put16_c B (Lo.mono (by assumption) (by decide)) H) ?_)); (try clear DN); (refine elimT ?_; intro tN hN tkN FN NN DN); (simp only [List.nil_append] at NN DN); (try k_sweep)))
 trivial
theorem mss_c {w : World} {mean : ExcName → Option Value} {mg mb : Str → Option Value} {hb : Heap} {s : Shared} {A : Around} {tn : Tok}
   (B : Base (hd.heap_1 w.params) hd.view_1 LOOSE mean mg mb hb) (lo : Lo 2 A) (H : Has hb s []) :
   codeAny (model PR w) A (.call (.ref 720) ⟨[.int 4 tn], []⟩) (Rets s [] (fun v nf => (∃ t, v = .bytes #[2, 4, 0, 4] t) ∧ nf = [])) s := by
  refine' enter (binds := [(Str.ofString "n", .int 4 tn)]) B H lo ?ho ?hcd ?hbind ?hloc ?h ?hcell ?hco ?hgen ?hk
  walk_at "m_enter"
  k_steps
  all_goals (try dsimp only)
  refine' rets_end hRR hg2 (by assumption) (by assumption) (by assumption) ⟨⟨_, rfl⟩, rfl⟩ ?p1
  walk_at "m_ends"
end
end Mine
namespace Mine
open PySem PySem.W PySem.Spec PySem.Calls PyProof.Rows
section
variable {prog : Program} {w : World} {A : Around} {E : Value → Shared → Prop} {s : Shared} {a b : Int} {t u : Tok} {Q : Value → Shared → Prop}
theorem ln_Make_1 : True := by
 k_with_none
 k_with "m_takes" => (first
     | exact Takes.nil
     | (refine' Takes.cons ?az047 ?bz047; (case az047 => walk_at "m_pull"); (case bz047 => walk_at "m_takes"))
     | (refine' Takes.app ?az047 ?bz047; (case az047 => walk_at "m_pullL"); (case bz047 => walk_at "m_takes"))
     | (refine' Takes.last ?az047; (case az047 => walk_at "m_pullL")))
 k_with "m_pull" => (first
     | exact Pull.head
     | (refine' Pull.tail ?az350; (case az350 => walk_at "m_pull"))
     | (refine' Pull.app ?az350; (case az350 => walk_at "m_pull")))
 k_with "m_pullL" => (first
     | exact PullL.head
     | exact PullL.whole
     | (refine' PullL.tail ?az531; (case az531 => walk_at "m_pullL"))
     | (refine' PullL.app ?az531; (case az531 => walk_at "m_pullL")))
 k_with "m_ends" => ((case p1 => ((try simp only [tcbLed]); (try simp only [whLed, List.append_assoc, List.cons_append, List.nil_append, List.append_nil]); (walk_at "m_takes"))))
 k_with "subscriptTail" => ((k_dflt (first
     | (refine' item_M (by assumption) ?hmz616 ?h0z616 ?hhiz616 ?hxz616 ?_ ?hsz616; (case hmz616 => k_mem); (case h0z616 => decide); (case hhiz616 => decide); (case hxz616 => exact rfl); (case hsz616 => with_unfolding_all rfl))
     | (refine' item_T (by assumption) ?hmz616 ?h0z616 ?hhiz616 ?hxz616 ?_ ?hsz616; (case hmz616 => k_mem); (case h0z616 => decide); (case hhiz616 => decide); (case hxz616 => exact rfl); (case hsz616 => with_unfolding_all rfl)))))
 k_with "m_updn" => (first | exact UpdN.head | (refine' UpdN.tail ?az058; (case az058 => walk_at "m_updn")) | (refine' UpdN.app ?az058; (case az058 => walk_at "m_updn")))
 k_with "m_updg" => (first | exact UpdG.head | (refine' UpdG.tail ?az984; (case az984 => walk_at "m_updg")) | (refine' UpdG.app ?az984; (case az984 => walk_at "m_updg")))
 k_with "k_upd" => (k_dflt (refine' upd_of ?Dz233 ?Uz233; (case Dz233 => assumption); (case Uz233 => walk_at "m_updn")))
 k_with "k_updF" => (k_dflt (refine' updF_of ?Dz235 ?Uz235; (case Dz235 => assumption); (case Uz235 => walk_at "m_updg")))
 k_with "k_mem" => (first | with_reducible exact List.mem_cons_self | (with_reducible exact List.mem_append_left _ (by assumption)) | (with_reducible refine' List.mem_cons_of_mem _ ?mmz799; (case mmz799 => k_mem)) | (with_reducible refine' List.mem_append_right _ ?mmz799; (case mmz799 => k_mem)) | with_reducible assumption)
 k_with "getMethod ref" => ((k_dflt (refine' method_inst ?k1z510 ?k2z510 ?k3z510 ?k4z510 ?k5z510 ?k6z510 ?k7z510 ?_; (case k1z510 => k_asm); (case k2z510 => k_asm); (case k3z510 => k_inst); (case k4z510 => k_is); (case k5z510 => k_is); (case k6z510 => k_is); (case k7z510 => k_get); k_whole)))
 k_with "getAttr ref" => ((k_dflt (refine' get_own ?k1z343 ?k2z343 ?k3z343 ?k4z343 ?k5z343 ?k6z343 ?k7z343 ?k8z343 ?k9z343 ?_; (case k1z343 => k_asm); (case k2z343 => k_asm); (case k3z343 => k_inst); (case k4z343 => k_is); (case k5z343 => k_is); (case k6z343 => k_is); (case k7z343 => k_is); (case k8z343 => k_get); (case k9z343 => k_handed); k_whole)))
 k_with "k_handed" => (assumption)
 k_with "k_units" => (first | exact Lo.line (by assumption) | exact Lo.line (Lo.in1 (by assumption)))
 k_with "k_room" => (exact Lo.room (by assumption))
 k_with "execs cons" => (((with_reducible show wpAny _ _ (execs (_ :: _) _) _ _ _); (k_dflt (refine execs_flat (s := s) ?_)); intro tkF))
 k_with "getAttr ref" => ((k_dflt (with_reducible refine' tcb_state ?yT ?yF ?yX ?yN ?yh1 ?yh2 ?_; (case yN => k_asm); (case yF => k_asm); (case yX => k_in); (case yh1 => k_mem); (case yh2 => k_mem); (case yT => assumption)); intro tS))
 k_with "getAttr ref" => ((k_dflt ((first | with_reducible refine' tcb_wheel ?Tz082 ?Fz082 ?Xz082 ?Nz082 ?h1z082 ?h2z082 ?_ | with_reducible refine' tcb_error ?Tz082 ?Fz082 ?Xz082 ?Nz082 ?h1z082 ?h2z082 ?_ | with_reducible refine' tcb_acks ?Tz082 ?Fz082 ?Xz082 ?Nz082 ?h1z082 ?h2z082 ?_ | with_reducible refine' tcb_limits ?Tz082 ?Fz082 ?Xz082 ?Nz082 ?h1z082 ?h2z082 ?_ | with_reducible refine' tcb_receiver ?Tz082 ?Fz082 ?Xz082 ?Nz082 ?h1z082 ?h2z082 ?_ | with_reducible refine' tcb_sender ?Tz082 ?Fz082 ?Xz082 ?Nz082 ?h1z082 ?h2z082 ?_ | with_reducible refine' tcb_local ?Tz082 ?Fz082 ?Xz082 ?Nz082 ?h1z082 ?h2z082 ?_ | with_reducible refine' tcb_remote ?Tz082 ?Fz082 ?Xz082 ?Nz082 ?h1z082 ?h2z082 ?_); (case Nz082 => k_asm); (case Fz082 => k_asm); (case Xz082 => k_in); (case h1z082 => k_mem); (case h2z082 => k_mem); (case Tz082 => assumption))))
 k_with "getMethod ref" => ((k_dflt ((first | with_reducible refine' wh_cancel ?Wz724 ?Fz724 ?Xz724 ?Nz724 ?Pz724 ?_ | with_reducible refine' wh_put ?Wz724 ?Fz724 ?Xz724 ?Nz724 ?Pz724 ?_ | with_reducible refine' wh_next_time ?Wz724 ?Fz724 ?Xz724 ?Nz724 ?Pz724 ?_ | with_reducible refine' wh_time_of ?Wz724 ?Fz724 ?Xz724 ?Nz724 ?Pz724 ?_); (case Nz724 => k_asm); (case Fz724 => k_asm); (case Xz724 => k_in); (case Wz724 => assumption); (case Pz724 => walk_at "m_pullL"))))
 k_with "call ref" => (((with_reducible show wpAny _ _ (call (Value.ref 775) [_, _]) _ _ _); (k_dflt (refine' use_call (by assumption) (by assumption) (by assumption) (by assumption) ?P (fun H => cancel_c B (Lo.mono (by assumption) (by decide)) (by assumption) ?hc H) ?_; (case P => walk_at "m_takes"); (case hc => omega))); (try clear DN); (refine elim1 ?_; intro nfN WN hN tkN FN NN DN); (try k_sweep)))
 k_with "call ref" => (((with_reducible show wpAny _ _ (call (Value.ref 761) [_, _, _]) _ _ _); (k_dflt (refine' use_call (by assumption) (by assumption) (by assumption) (by assumption) ?P (fun H => put_c B (Lo.mono (by assumption) (by decide)) (by assumption) ?hc H) ?_; (case P => walk_at "m_takes"); (case hc => omega))); (try clear DN); (refine elim1 ?_; intro nfN WN hN tkN FN NN DN); (try k_sweep)))
 k_with "getAttr ref" => ((k_dflt ((first | with_reducible refine' lim_time_wait ?xT ?xF ?xX ?xN ?xh1 ?xh2 ?_ | with_reducible refine' lim_receive_room ?xT ?xF ?xX ?xN ?xh1 ?xh2 ?_ | with_reducible refine' lim_mss ?xT ?xF ?xX ?xN ?xh1 ?xh2 ?_ | with_reducible refine' lim_ring ?xT ?xF ?xX ?xN ?xh1 ?xh2 ?_ | with_reducible refine' lim_send_room ?xT ?xF ?xX ?xN ?xh1 ?xh2 ?_ | with_reducible refine' lim_ack_delay ?xT ?xF ?xX ?xN ?xh1 ?xh2 ?_ | with_reducible refine' lim_first_timeout ?xT ?xF ?xX ?xN ?xh1 ?xh2 ?_ | with_reducible refine' lim_least_timeout ?xT ?xF ?xX ?xN ?xh1 ?xh2 ?_ | with_reducible refine' lim_most_timeout ?xT ?xF ?xX ?xN ?xh1 ?xh2 ?_ | with_reducible refine' lim_most_tries ?xT ?xF ?xX ?xN ?xh1 ?xh2 ?_ | with_reducible refine' rec_next ?xT ?xF ?xX ?xN ?xh1 ?xh2 ?_); (case xN => k_asm); (case xF => k_asm); (case xX => k_in); (case xh1 => k_mem); (case xh2 => k_mem); (case xT => assumption)); intro tI))
 k_with "getMethod ref" => ((k_dflt ((first | with_reducible refine' ack_on_sent ?xT ?xF ?xX ?xN ?xh1 ?xh2 ?_ | with_reducible refine' ack_due_time ?xT ?xF ?xX ?xN ?xh1 ?xh2 ?_ | with_reducible refine' ack_on_octets ?xT ?xF ?xX ?xN ?xh1 ?xh2 ?_ | with_reducible refine' rec_window ?xT ?xF ?xX ?xN ?xh1 ?xh2 ?_ | with_reducible refine' tcb_make ?xT ?xF ?xX ?xN ?xh1 ?xh2 ?_ | with_reducible refine' tcb_window_now ?xT ?xF ?xX ?xN ?xh1 ?xh2 ?_); (case xN => k_asm); (case xF => k_asm); (case xX => k_in); (case xh1 => k_mem); (case xh2 => k_mem); (case xT => first | assumption | exact AckNew.obj (by assumption)))))
 k_with "getAttr ref" => ((k_dflt ((with_reducible refine' snd_next ?xT ?xF ?xX ?xN ?xh1 ?xh2 ?_); (case xN => k_asm); (case xF => k_asm); (case xX => k_in); (case xh1 => k_mem); (case xh2 => k_mem); (case xT => assumption)); intro tI))
 k_with "call ref" => (((with_reducible show wpAny _ _ (call (Value.ref 118) [_]) _ _ _); (k_dflt (refine' make_use (by assumption) (by assumption) (by assumption) (by assumption) (by assumption) Takes.nil ?hm ?hi ?hf (fun x dx s' H => ackI B (Lo.make (Lo.mono (by assumption) (by decide))) H) ?_; (case hm => k_is); (case hi => k_is); (case hf => k_is))); (try clear DN); (rintro xN dN nfN ⟨t0, t1, t2, t3, t4, rfl⟩ hN tkN FN NN DN); (dsimp only [List.cons_append, List.nil_append] at NN DN); (try k_sweep)))
 k_with "call ref" => (((with_reducible show wpAny _ _ (call (Value.ref 202) [_, _, _]) _ _ _); (k_dflt (refine' make_use (by assumption) (by assumption) (by assumption) (by assumption) (by assumption) Takes.nil ?hm ?hi ?hf (fun x dx s' H => congI B (Lo.make (Lo.mono (by assumption) (by decide))) H) ?_; (case hm => k_is); (case hi => k_is); (case hf => k_is))); (try clear DN); (intro xN dN nfN hJ hN tkN FN NN DN); clear hJ; (replace NN := news_drop NN); (replace DN := nd_drop DN); (try dsimp only [List.cons_append, List.nil_append] at NN DN); (try k_sweep)))
 k_with "call ref" => (((with_reducible show wpAny _ _ (call (Value.ref 370) [_, _, _]) _ _ _); (k_dflt (refine' make_use (by assumption) (by assumption) (by assumption) (by assumption) (by assumption) Takes.nil ?hm ?hi ?hf (fun x dx s' H => rttI B (Lo.make (Lo.mono (by assumption) (by decide))) H) ?_; (case hm => k_is); (case hi => k_is); (case hf => k_is))); (try clear DN); (intro xN dN nfN hJ hN tkN FN NN DN); clear hJ; (replace NN := news_drop NN); (replace DN := nd_drop DN); (try dsimp only [List.cons_append, List.nil_append] at NN DN); (try k_sweep)))
 k_with "call ref" => (((with_reducible show wpAny _ _ (call (Value.ref 314) [_, _]) _ _ _); (k_dflt (refine' make_use (by assumption) (by assumption) (by assumption) (by assumption) (by assumption) Takes.nil ?hm ?hi ?hf (fun x dx s' H => clockI B (Lo.make (Lo.mono (by assumption) (by decide))) H) ?_; (case hm => k_is); (case hi => k_is); (case hf => k_is))); (try clear DN); (intro xN dN nfN hJ hN tkN FN NN DN); clear hJ; (replace NN := news_drop NN); (replace DN := nd_drop DN); (try dsimp only [List.cons_append, List.nil_append] at NN DN); (try k_sweep)))
 k_with "call ref" => (((with_reducible show wpAny _ _ (call (Value.ref 461) [_]) _ _ _); (k_dflt (refine' make_use (by assumption) (by assumption) (by assumption) (by assumption) (by assumption) Takes.nil ?hm ?hi ?hf (fun x dx s' H => peerI B (Lo.make (Lo.mono (by assumption) (by decide))) H) ?_; (case hm => k_is); (case hi => k_is); (case hf => k_is))); (try clear DN); (intro xN dN nfN hJ hN tkN FN NN DN); clear hJ; (replace NN := news_drop NN); (replace DN := nd_drop DN); (try dsimp only [List.cons_append, List.nil_append] at NN DN); (try k_sweep)))
 k_with "call ref" => (((with_reducible show wpAny _ _ (call (Value.ref 426) [_]) _ _ _); (k_dflt (refine' make_use (by assumption) (by assumption) (by assumption) (by assumption) (by assumption) Takes.nil ?hm ?hi ?hf (fun x dx s' H => queueI B (Lo.make (Lo.mono (by assumption) (by decide))) H) ?_; (case hm => k_is); (case hi => k_is); (case hf => k_is))); (try clear DN); (intro xN dN nfN hJ hN tkN FN NN DN); clear hJ; (replace NN := news_drop NN); (replace DN := nd_drop DN); (try dsimp only [List.cons_append, List.nil_append] at NN DN); (try k_sweep)))
 k_with "call ref" => (((with_reducible show wpAny _ _ (call (Value.ref 823) [_, _, _, _, _, _, _, _, _, _]) _ _ _); (k_dflt (refine' make_use (by assumption) (by assumption) (by assumption) (by assumption) (by assumption) Takes.nil ?hm ?hi ?hf (fun x dx s' H => limI B (Lo.make (Lo.mono (by assumption) (by decide))) H) ?_; (case hm => k_is); (case hi => k_is); (case hf => k_is))); (try clear DN); (rintro xN dN nfN ⟨t0, t1, t2, t3, t4, t5, t6, t7, t8, t9, rfl⟩ hN tkN FN NN DN); (dsimp only [List.cons_append, List.nil_append] at NN DN); (try k_sweep)))
 k_with "call ref" => (((with_reducible show wpAny _ _ (call (Value.ref 702) [_, _, _, _, _, _, _, _, _]) _ _ _); (k_dflt (refine' make_use (by assumption) (by assumption) (by assumption) (by assumption) (by assumption) Takes.nil ?hm ?hi ?hf (fun x dx s' H => segI B (Lo.make (Lo.mono (by assumption) (by decide))) H) ?_; (case hm => k_is); (case hi => k_is); (case hf => k_is))); (try clear DN); (rintro xN dN nfN ⟨t0, t1, t2, t3, t4, t5, t6, t7, t8, rfl⟩ hN tkN FN NN DN); (dsimp only [List.cons_append, List.nil_append] at NN DN); (try k_sweep)))
 trivial
theorem band_e {z : Int} (hz : Builtin.bitAnd a b = z) (h : Q (.int z s.toks) { s with toks := s.toks + 1 }) : wpAny (model prog w) A (binaryOp .BitAnd (.int a t) (.int b u)) Q E s := and_int (by rw [hz]; exact h)
theorem bor_e {z : Int} (hz : Builtin.bitOr a b = z) (h : Q (.int z s.toks) { s with toks := s.toks + 1 }) : wpAny (model prog w) A (binaryOp .BitOr (.int a t) (.int b u)) Q E s := or_int (by rw [hz]; exact h)
end
inductive SegObj (w : World) (seq ack fl : Int) (opts pl : Array UInt8) (o : Obj) : Prop
  | mk (k0 k1 k2 k3 k4 k5 k6 k7 k8 a0 a1 a2 a3 a4 a5 a6 a7 a8 : Tok) (e0 : o = dictOf [ent w.params "source_port" k0 (.int 10 a0), ent w.params "target_port" k1 (.int 20 a1), ent w.params "seq" k2 (.int seq a2), ent w.params "ack" k3 (.int ack a3), ent w.params "flags" k4 (.int fl a4), ent w.params "window" k5 (.int 16 a5), ent w.params "urgent" k6 (.int 0 a6), ent w.params "options" k7 (.bytes opts a7), ent w.params "payload" k8 (.bytes pl a8)] 9) : SegObj w seq ack fl opts pl o
theorem seg_elim {w : World} {seq ack fl : Int} {opts pl : Array UInt8} {a0 a1 a2 a3 a4 a5 a6 a7 a8 : Tok} {P : Addr → Addr → Led → Prop} (h : ∀ x dx o, SegObj w seq ack fl opts pl o → P x dx [(x, instObj 702 dx), (dx, o)]) :
    ∀ x dx nf, segIP w (.int 10 a0) (.int 20 a1) (.int seq a2) (.int ack a3) (.int fl a4) (.int 16 a5) (.int 0 a6) (.bytes opts a7) (.bytes pl a8) x dx nf → P x dx nf := by
  rintro x dx nf ⟨k0, k1, k2, k3, k4, k5, k6, k7, k8, rfl⟩
  exact h x dx _ ⟨_, _, _, _, _, _, _, _, _, _, _, _, _, _, _, _, _, _, rfl⟩
section
variable {w : World} {A : Around} {E : Value → Shared → Prop} {s : Shared} {h₀ : Heap} {L : Addr} {m : Str → Option Value} {news : Led}
theorem seg_row {pl : Sem Bool} {Q : Value × List Value → Shared → Prop} {sg dsg : Addr} {od : Obj} {seq ack fl : Int} {opts pd : Array UInt8} (W : SegObj w seq ack fl opts pd od) (F : Fr h₀ L s.heap m) (X : (hd.heap_1 w.params).In h₀) (N' : News h₀ L s.heap news) (h1 : (sg, instObj 702 dsg) ∈ news) (h2 : (dsg, od) ∈ news)
    (h : Q (.ref 699, [.ref sg]) s) : wpAny (model PR w) A (getMethod (.ref sg) (Str.ofString "row") pl) Q E s := by
  have N := news2 N' h1 h2
  clear N' h1 h2
  obtain ⟨k0, k1, k2, k3, k4, k5, k6, k7, k8, a0, a1, a2, a3, a4, a5, a6, a7, a8, rfl⟩ := W
  refine' method_inst F X (InstAt.of_news N ?h1 ?h2) ?k4 ?k5 ?k6 ?k7 h
  case h1 => k_mem
  case h2 => k_mem
  case k4 => k_is
  case k5 => k_is
  case k6 => k_is
  case k7 => k_get
end
inductive Made (w : World) (t : Addr) (S : Str) (ev due : Value) (ro : Option Int) (c : Nat) (kvs : List (Int × Int)) (seq ack fl : Int) (opts pl : Array UInt8) (v : Value) (nf : Led) : Prop
  | mk (sg : _) (dsg : _) (od : _) (V' : _) (e0 : v = .ref sg) (e1 : SegObj w seq ack fl opts pl od) (e2 : nf = (sg, instObj 702 dsg) :: (dsg, od) :: V') (e3 : TcbIs w t S ev due ro c kvs V') : Made w t S ev due ro c kvs seq ack fl opts pl v nf
theorem made_elim {w : World} {t : Addr} {S : Str} {ev due : Value} {ro : Option Int} {c : Nat} {kvs : List (Int × Int)} {seq ack fl : Int} {opts pl : Array UInt8} {P : Value → Led → Prop}
    (h : ∀ sg dsg od V, SegObj w seq ack fl opts pl od → TcbIs w t S ev due ro c kvs V → P (.ref sg) ((sg, instObj 702 dsg) :: (dsg, od) :: V)) : ∀ v nf, Made w t S ev due ro c kvs seq ack fl opts pl v nf → P v nf := by
  rintro v nf ⟨sg, dsg, od, V, rfl, hs, rfl, W⟩
  exact h sg dsg od V hs W
section
theorem ln_Make_2 : True := by
 k_with "binaryOp BitAnd int int" => ((refine band_e (by assumption) ?_))
 k_with "binaryOp BitOr int int" => ((refine bor_e (by assumption) ?_))
 k_with "call builtin:min" => ((k_dflt (refine min2_le (by assumption) (by assumption) (by assumption) (by decide) ?_); intro h' tk' F' N'; (try k_sweep)))
 k_with "call ref" => (((k_dflt (show wpAny _ _ (call (Value.ref 720) [_]) _ _ _)); (k_dflt (refine' use_call (by assumption) (by assumption) (by assumption) (by assumption) Takes.nil (fun H => mss_c B (Lo.mono (by assumption) (by decide)) H) ?_)); (try clear DN); (refine elimT ?_; intro tN hN tkN FN NN DN); (simp only [List.nil_append] at NN DN); (try k_sweep)))
 k_with "call ref" => (((k_dflt (show wpAny _ _ (call (Value.ref 855) [_]) _ _ _)); (k_dflt (refine' use_call (by assumption) (by assumption) (by assumption) (by assumption) ?P (fun H => wnow_n B (Lo.mono (by assumption) (by decide)) hT hL H) ?_; (case P => walk_at "m_takes"))); (try clear DN); (refine elimT ?_; intro tN hN tkN FN NN DN); (simp only [List.cons_append, List.nil_append] at NN DN); (try k_sweep)))
 k_with "call ref" => (((with_reducible show wpAny _ _ (call (Value.ref 702) [_, _, _, _, _, _, _, _, _]) _ _ _); (k_dflt (refine' make_use (by assumption) (by assumption) (by assumption) (by assumption) (by assumption) Takes.nil ?hm ?hi ?hf (fun x dx s' H => segI B (Lo.make (Lo.mono (by assumption) (by decide))) H) ?_; (case hm => k_is); (case hi => k_is); (case hf => k_is))); (try clear DN); (refine seg_elim ?_; intro xN dN oN hSg hN tkN FN NN DN); (dsimp only [List.cons_append, List.nil_append] at NN DN); (try k_sweep)))
 k_with "eval IfExp" => ((k_dflt (refine' if_join (fun t => Value.bytes opts t) ?oF ?oN ?wh ?wk; (case oF => k_asm); (case oN => k_asm)); (case' wk => (intro tOp hOp tkO F' N'; (try k_sweep)))))
 k_with "ValAt" => ((first | (have hO := ho1 (by omega)) | (have hO := ho0 (by omega))); (k_dflt (refine' ValAt.mk _ _ _ ?bEz014 rfl ?bFz014 ?bNz014; (case bEz014 => (rw [hO])); (case bFz014 => k_asm); (case bNz014 => k_asm))))
 trivial
theorem make_n {w : World} {mean : ExcName → Option Value} {mg mb : Str → Option Value} {hb : Heap} {s : Shared} {A : Around} {t : Addr} {S : Str} {ev due : Value} {c : Nat} {kvs : List (Int × Int)} {V : Led} {fl seq z : Int} {opts pl : Array UInt8} {tf ts tp : Tok} {args : Args}
   (B : Base (hd.heap_1 w.params) hd.view_1 LOOSE mean mg mb hb) (lo : Lo 3 A) (W : TcbIs w t S ev due none c kvs V) (ha : args = ⟨[.ref t, .int fl tf, .int seq ts, .bytes pl tp], []⟩ ∨ (args = ⟨[.ref t, .int fl tf, .int seq ts], []⟩ ∧ pl = #[] ∧ tp = 1377))
   (hz : Builtin.bitAnd fl 2 = z) (ho0 : z = 0 → opts = #[]) (ho1 : z ≠ 0 → opts = #[2, 4, 0, 4]) (H : Has hb s V) :
   codeAny (model PR w) A (.call (.ref 863) args) (Rets s V (Made w t S ev due none c kvs seq 0 fl opts pl)) s := by
  revert H
  refine TcbIs.elim (G := fun V => Has hb s V → codeAny (model PR w) A _ (Rets s V _) s) W ?_
  intro dt odt lim dlim odl loc rem v1 v2 tl tr n1 n2 snd dsnd ods ac dac oda RL WL wh rv hT hL hSn hA hR WN H
  have hR2 := hR
  obtain ⟨rfl, rfl⟩ := hR2
  dsimp only [tcbLed] at H ⊢
  refine' enter (binds := [(Str.ofString "self", .ref t), (Str.ofString "flags", .int fl tf), (Str.ofString "seq", .int seq ts), (Str.ofString "payload", .bytes pl tp)]) B H lo ?ho ?hcd ?hbind ?hloc ?h ?hcell ?hco ?hgen ?hk
  case ho => k_is
  case hcd => k_is
  case hbind =>
    rcases ha with rfl | ⟨rfl, rfl, rfl⟩
    · exact binds_K (Frag.In.keeps (Base.X (by assumption)) (Has.stays (by assumption))) rfl (by k_is) rfl rfl rfl
    · exact binds_K (Frag.In.keeps (Base.X (by assumption)) (Has.stays (by assumption))) rfl (by k_is) rfl rfl rfl
  case hloc => exact locs rfl
  case hcell => decide
  case hco => exact rfl
  case hgen => exact rfl
  case hk => exact rfl
  intro RR hRR g L' h₁ A' lo' St hg1 hg2 F N D X T
  (try dsimp only [List.reverse, List.reverseAux, List.length] at *)
  k_steps
  all_goals (try dsimp only)
  refine' rets_end hRR hg2 (by assumption) (by assumption) (by assumption) ⟨_, _, _, _, rfl, hSg, rfl, TcbIs.intro hT hL hSn hA hR WN⟩ ?p1
  walk_at "m_ends"
theorem ln_Make_3 : True := by
 k_with "call ref" => (((k_dflt (show wpAny _ _ (call (Value.ref 855) [_]) _ _ _)); (k_dflt (refine' use_call (by assumption) (by assumption) (by assumption) (by assumption) ?P (fun H => wnow_s B (Lo.mono (by assumption) (by decide)) hT hx hRo H) ?_; (case P => ((try simp only [whLed]); walk_at "m_takes")))); (try clear DN); (refine elimT ?_; intro tN hN tkN FN NN DN); (simp only [List.cons_append, List.nil_append] at NN DN); (try k_sweep)))
 k_with "call ref" => (((k_dflt (show wpAny _ _ (call (Value.ref 108) [_]) _ _ _)); (k_dflt (refine' use_call (by assumption) (by assumption) (by assumption) (by assumption) ?P (fun H => sent_c B (Lo.mono (by assumption) (by decide)) hA H) ?_; (case P => walk_at "m_takes"))); (try clear DN); (refine elimO ?_; intro oA hA3 hN tkN FN NN DN); (simp only [List.cons_append, List.nil_append] at NN DN); (try k_sweep)))
 trivial
theorem make_s {w : World} {mean : ExcName → Option Value} {mg mb : Str → Option Value} {hb : Heap} {s : Shared} {A : Around} {t : Addr} {S : Str} {ev due : Value} {c : Nat} {nx fl' : Int} {kvs : List (Int × Int)} {V : Led} {fl seq z : Int} {opts pl : Array UInt8} {tf ts tp : Tok} {args : Args}
   (B : Base (hd.heap_1 w.params) hd.view_1 LOOSE mean mg mb hb) (lo : Lo 7 A) (W : TcbIs w t S ev due (some nx) c kvs V) (hc : c ≤ 50) (hor : Builtin.bitOr fl 16 = fl') (ha : args = ⟨[.ref t, .int fl tf, .int seq ts, .bytes pl tp], []⟩ ∨ (args = ⟨[.ref t, .int fl tf, .int seq ts], []⟩ ∧ pl = #[] ∧ tp = 1377))
   (hz : Builtin.bitAnd fl' 2 = z) (ho0 : z = 0 → opts = #[]) (ho1 : z ≠ 0 → opts = #[2, 4, 0, 4]) (H : Has hb s V) :
   codeAny (model PR w) A (.call (.ref 863) args) (Rets s V (Made w t S ev .none (some nx) c (less kvs 3) seq nx fl' opts pl)) s := by
  revert H
  refine TcbIs.elim (G := fun V => Has hb s V → codeAny (model PR w) A _ (Rets s V _) s) W ?_
  intro dt odt lim dlim odl loc rem v1 v2 tl tr n1 n2 snd dsnd ods ac dac oda RL WL wh rv hT hL hSn hA hR WN H
  have hR2 := hR
  obtain ⟨hx, r, dr, ba, od, rfl, hRo, rfl⟩ := hR2
  dsimp only [tcbLed, List.cons_append, List.nil_append] at H ⊢
  refine' enter (binds := [(Str.ofString "self", .ref t), (Str.ofString "flags", .int fl tf), (Str.ofString "seq", .int seq ts), (Str.ofString "payload", .bytes pl tp)]) B H lo ?ho ?hcd ?hbind ?hloc ?h ?hcell ?hco ?hgen ?hk
  case ho => k_is
  case hcd => k_is
  case hbind =>
    rcases ha with rfl | ⟨rfl, rfl, rfl⟩
    · exact binds_K (Frag.In.keeps (Base.X (by assumption)) (Has.stays (by assumption))) rfl (by k_is) rfl rfl rfl
    · exact binds_K (Frag.In.keeps (Base.X (by assumption)) (Has.stays (by assumption))) rfl (by k_is) rfl rfl rfl
  case hloc => exact locs rfl
  case hcell => decide
  case hco => exact rfl
  case hgen => exact rfl
  case hk => exact rfl
  intro RR hRR g L' h₁ A' lo' St hg1 hg2 F N D X T
  (try dsimp only [List.reverse, List.reverseAux, List.length] at *)
  k_steps
  all_goals (try dsimp only)
  refine' rets_end hRR hg2 (by assumption) (by assumption) (by assumption) ⟨_, _, _, _, rfl, hSg, rfl, TcbIs.intro hT hL hSn hA3 hR WN⟩ ?p1
  walk_at "m_ends"
end
end Mine
namespace Mine
open PySem PySem.W PySem.Spec PySem.Calls PyProof.Rows
theorem ln_RowC_1 : True := by
 k_with_none
 k_with "m_enter" => ((
     case ho => k_is
     case hcd => k_is
     case hbind => first | exact BindsTo.of_eq rfl | exact binds_K (Frag.In.keeps (Base.X (by assumption)) (Has.stays (by assumption))) rfl (by k_is) rfl rfl rfl
     case hloc => exact locs rfl
     case hcell => decide
     case hco => exact rfl
     case hgen => exact rfl
     case hk => exact rfl
     intro RR hRR g L' h₁ A' lo' St hg1 hg2 F N D X T
     (try dsimp only [List.reverse, List.reverseAux, List.length] at *)))
 k_with "m_takes" => (first
     | exact Takes.nil
     | (refine' Takes.cons ?az047 ?bz047; (case az047 => walk_at "m_pull"); (case bz047 => walk_at "m_takes"))
     | (refine' Takes.app ?az047 ?bz047; (case az047 => walk_at "m_pullL"); (case bz047 => walk_at "m_takes"))
     | (refine' Takes.last ?az047; (case az047 => walk_at "m_pullL")))
 k_with "m_pull" => (first
     | exact Pull.head
     | (refine' Pull.tail ?az350; (case az350 => walk_at "m_pull"))
     | (refine' Pull.app ?az350; (case az350 => walk_at "m_pull")))
 k_with "m_pullL" => (first
     | exact PullL.head
     | exact PullL.whole
     | (refine' PullL.tail ?az531; (case az531 => walk_at "m_pullL"))
     | (refine' PullL.app ?az531; (case az531 => walk_at "m_pullL")))
 k_with "m_ends" => ((case p1 => ((try simp only [tcbLed]); (try simp only [whLed, List.append_assoc, List.cons_append, List.nil_append, List.append_nil]); (walk_at "m_takes"))))
 k_with "m_updn" => (first | exact UpdN.head | (refine' UpdN.tail ?az058; (case az058 => walk_at "m_updn")) | (refine' UpdN.app ?az058; (case az058 => walk_at "m_updn")))
 k_with "m_updg" => (first | exact UpdG.head | (refine' UpdG.tail ?az984; (case az984 => walk_at "m_updg")) | (refine' UpdG.app ?az984; (case az984 => walk_at "m_updg")))
 k_with "k_upd" => (k_dflt (refine' upd_of ?Dz233 ?Uz233; (case Dz233 => assumption); (case Uz233 => walk_at "m_updn")))
 k_with "k_updF" => (k_dflt (refine' updF_of ?Dz235 ?Uz235; (case Dz235 => assumption); (case Uz235 => walk_at "m_updg")))
 k_with "k_mem" => (first | with_reducible exact List.mem_cons_self | (with_reducible exact List.mem_append_left _ (by assumption)) | (with_reducible refine' List.mem_cons_of_mem _ ?mmz799; (case mmz799 => k_mem)) | (with_reducible refine' List.mem_append_right _ ?mmz799; (case mmz799 => k_mem)) | with_reducible assumption)
 k_with "getAttr ref" => ((k_dflt (refine' get_own ?k1z343 ?k2z343 ?k3z343 ?k4z343 ?k5z343 ?k6z343 ?k7z343 ?k8z343 ?k9z343 ?_; (case k1z343 => k_asm); (case k2z343 => k_asm); (case k3z343 => k_inst); (case k4z343 => k_is); (case k5z343 => k_is); (case k6z343 => k_is); (case k7z343 => k_is); (case k8z343 => k_get); (case k9z343 => k_handed); k_whole)))
 k_with "k_handed" => (assumption)
 k_with "k_units" => (first | exact Lo.line (by assumption) | exact Lo.line (Lo.in1 (by assumption)))
 k_with "k_room" => (exact Lo.room (by assumption))
 k_with "execs cons" => (((with_reducible show wpAny _ _ (execs (_ :: _) _) _ _ _); (k_dflt (refine execs_flat (s := s) ?_)); intro tkF))
 trivial
theorem by_dunder : typeLookup (.type "bytes") "__bytes__" = pure (some (.builtin "bytes.__bytes__")) := by rw [typeLookup_type, builtinLookup_eq_fast]; kernel_rfl
section
variable {prog : Program} {w : World} {A : Around} {E : Value → Shared → Prop} {s : Shared} {h₀ : Heap} {L : Addr} {m : Str → Option Value} {news : Led} {Q : Value → Shared → Prop}
theorem bytes_same {b : Array UInt8} {t : Tok} (h : Q (.bytes b t) s) : wpAny (model prog w) A (call (.type "bytes") [.bytes b t]) Q E s := by
  have hT : s.TypeIs (.bytes b t) "bytes" := PySem.W.typeIs_bytes _ _ _
  refine callType_codes (Q₁ := fun obj s₁ => obj = .bytes b t ∧ s₁ = s) PySem.F.bm_called (PySem.F.bm_typeCall _) PySem.F.entry_object_init ?_ fun obj s₁ h₁ => ?_
  · refine codeAny_of_tree ?_
    show wpAny _ A.in1.in1 (do checkBuiltinCall "bytes.__new__" ⟨[.type "bytes", .bytes b t], []⟩; again (.builtin "bytes.__new__" ⟨[.type "bytes", .bytes b t], []⟩)) _ _ s
    refine wpAny_bind (wpAny_of_eq (PySem.F.bm_newCall _) (wpAny_pure ⟨plainId_quiet PySem.F.bm_plain _, codeAny_builtin PySem.F.bm_entry ?_⟩))
    rw [Around.under_plainId PySem.F.bm_plain _]
    unfold Builtin.«bytes.__new__»
    refine wpAny_bind (wpAny_of_eq (a := true) rfl ?_)
    refine bm_if_false rfl ?_
    refine wpAny_bind (wpAny_of_eq PySem.F.bm_sub ?_)
    refine bm_if_false rfl ?_
    refine wpAny_bind (wpAny_of_eq (PySem.F.bm_bind _) ?_)
    refine wpAny_bind (wpAny_of_eq (a := ()) rfl ?_)
    refine wpAny_bind (wpAny_of_eq (a := ()) rfl ?_)
    refine bm_if_false rfl ?_
    refine wpAny_bind (wpAny_specialOf hT by_dunder ?_)
    dsimp only
    refine wpAny_bind (wpAny_rule (wpAny_bind (wpAny_typeOf hT ?_)))
    refine bm_if_true (by decide) ?_
    exact wpAny_pure ⟨rfl, rfl⟩
  · obtain ⟨rfl, rfl⟩ := h₁
    exact ⟨hT, PySem.F.args_object_init_2 _ _, object_init_meets PySem.F.bm_called.init.lookup PySem.F.bm_called.made (by decide) prog w A.in1 _ _ ⟨hT, rfl, h⟩⟩
theorem tup_add {a b : Addr} {vs ws : List Value} {n k : Nat} (F : Fr h₀ L s.heap m) (N : News h₀ L s.heap news) (D : (adrs news).Nodup) (h1 : (a, tupOf vs n) ∈ news) (h2 : (b, tupOf ws k) ∈ news) (hv : vs ≠ []) (hw : ws ≠ []) (hsz : vs.length + ws.length ≤ 1000)
    (h : ∀ d h', Fr h₀ L h' m → News h₀ L h' ((d, tupOf (vs ++ ws) 0) :: news) → (adrs ((d, tupOf (vs ++ ws) 0) :: news)).Nodup → Q (.ref d) { s with heap := h' }) : wpAny (model prog w) A (binaryOp .Add (.ref a) (.ref b)) Q E s :=
  add_tuples F N (News.isTup N h1) (News.isTup N h2) (fun e => absurd e hv) (fun _ e => absurd e hw) (fun _ _ h' F' N' => h _ h' F' N' (nd_new D fun p hp => Heap.lt_size (N p hp).1)) (by rw [sizeLine_eq]; omega)
end
inductive RowObj (seq ack fl : Int) (opts pl : Array UInt8) (o : Obj) : Prop
  | mk (a0 a1 a2 a3 a4 a5 a6 a7 a8 : Tok) (n : Nat) (e0 : o = tupOf [.int 10 a0, .int 20 a1, .int seq a2, .int ack a3, .int fl a4, .int 16 a5, .int 0 a6, .bytes opts a7, .bytes pl a8] n) : RowObj seq ack fl opts pl o
section
theorem ln_RowC_2 : True := by
 k_with "call type:bytes" => ((refine bytes_same ?_))
 k_with "binaryOp Add ref ref" => ((k_dflt (refine' tup_add (by assumption) (by assumption) (by assumption) ?m1 ?m2 ?v1 ?v2 ?sz ?_; (case m1 => k_mem); (case m2 => k_mem); (case v1 => exact List.cons_ne_nil _ _); (case v2 => exact List.cons_ne_nil _ _); (case sz => exact Nat.le_of_ble_eq_true rfl)); intro d' h' F' N' Dn; (simp only [List.cons_append, List.nil_append] at N' Dn); (try k_sweep)))
 trivial
theorem row_c {w : World} {mean : ExcName → Option Value} {mg mb : Str → Option Value} {hb : Heap} {s : Shared} {A : Around} {sg dsg : Addr} {od : Obj} {seq ack fl : Int} {opts pl : Array UInt8}
   (B : Base (hd.heap_1 w.params) hd.view_1 LOOSE mean mg mb hb) (lo : Lo 1 A) (W : SegObj w seq ack fl opts pl od) (H : Has hb s [(sg, instObj 702 dsg), (dsg, od)]) :
   codeAny (model PR w) A (.call (.ref 699) ⟨[.ref sg], []⟩) (Rets s [(sg, instObj 702 dsg), (dsg, od)] (fun v nf => ∃ t o, v = .ref t ∧ RowObj seq ack fl opts pl o ∧ nf = [(t, o), (sg, instObj 702 dsg), (dsg, od)])) s := by
  obtain ⟨k0, k1, k2, k3, k4, k5, k6, k7, k8, a0, a1, a2, a3, a4, a5, a6, a7, a8, rfl⟩ := W
  refine' enter (binds := [(Str.ofString "self", .ref sg)]) B H lo ?ho ?hcd ?hbind ?hloc ?h ?hcell ?hco ?hgen ?hk
  walk_at "m_enter"
  k_steps
  all_goals (try dsimp only)
  all_goals (refine' rets_end hRR hg2 (by assumption) (by assumption) (by assumption) ⟨_, _, rfl, ⟨_, _, _, _, _, _, _, _, _, _, rfl⟩, rfl⟩ ?p1; (walk_at "m_ends"))
end
end Mine
namespace Mine
open PySem PySem.W PySem.Spec PySem.Calls PyProof.Rows
theorem ln_TcbI_1 : True := by
 k_with_none
 k_with "m_enter" => ((
     case ho => k_is
     case hcd => k_is
     case hbind => first | exact BindsTo.of_eq rfl | exact binds_K (Frag.In.keeps (Base.X (by assumption)) (Has.stays (by assumption))) rfl (by k_is) rfl rfl rfl
     case hloc => exact locs rfl
     case hcell => decide
     case hco => exact rfl
     case hgen => exact rfl
     case hk => exact rfl
     intro RR hRR g L' h₁ A' lo' St hg1 hg2 F N D X T
     (try dsimp only [List.reverse, List.reverseAux, List.length] at *)))
 k_with "m_takes" => (first
     | exact Takes.nil
     | (refine' Takes.cons ?az047 ?bz047; (case az047 => walk_at "m_pull"); (case bz047 => walk_at "m_takes"))
     | (refine' Takes.app ?az047 ?bz047; (case az047 => walk_at "m_pullL"); (case bz047 => walk_at "m_takes"))
     | (refine' Takes.last ?az047; (case az047 => walk_at "m_pullL")))
 k_with "m_pull" => (first
     | exact Pull.head
     | (refine' Pull.tail ?az350; (case az350 => walk_at "m_pull"))
     | (refine' Pull.app ?az350; (case az350 => walk_at "m_pull")))
 k_with "m_pullL" => (first
     | exact PullL.head
     | exact PullL.whole
     | (refine' PullL.tail ?az531; (case az531 => walk_at "m_pullL"))
     | (refine' PullL.app ?az531; (case az531 => walk_at "m_pullL")))
 k_with "m_ends" => ((case p1 => ((try simp only [tcbLed]); (try simp only [whLed, List.append_assoc, List.cons_append, List.nil_append, List.append_nil]); (walk_at "m_takes"))))
 k_with "m_updn" => (first | exact UpdN.head | (refine' UpdN.tail ?az058; (case az058 => walk_at "m_updn")) | (refine' UpdN.app ?az058; (case az058 => walk_at "m_updn")))
 k_with "m_updg" => (first | exact UpdG.head | (refine' UpdG.tail ?az984; (case az984 => walk_at "m_updg")) | (refine' UpdG.app ?az984; (case az984 => walk_at "m_updg")))
 k_with "k_upd" => (k_dflt (refine' upd_of ?Dz233 ?Uz233; (case Dz233 => assumption); (case Uz233 => walk_at "m_updn")))
 k_with "k_updF" => (k_dflt (refine' updF_of ?Dz235 ?Uz235; (case Dz235 => assumption); (case Uz235 => walk_at "m_updg")))
 k_with "k_mem" => (first | with_reducible exact List.mem_cons_self | (with_reducible exact List.mem_append_left _ (by assumption)) | (with_reducible refine' List.mem_cons_of_mem _ ?mmz799; (case mmz799 => k_mem)) | (with_reducible refine' List.mem_append_right _ ?mmz799; (case mmz799 => k_mem)) | with_reducible assumption)
 k_with "getAttr ref" => ((k_dflt (refine' get_own ?k1z343 ?k2z343 ?k3z343 ?k4z343 ?k5z343 ?k6z343 ?k7z343 ?k8z343 ?k9z343 ?_; (case k1z343 => k_asm); (case k2z343 => k_asm); (case k3z343 => k_inst); (case k4z343 => k_is); (case k5z343 => k_is); (case k6z343 => k_is); (case k7z343 => k_is); (case k8z343 => k_get); (case k9z343 => k_handed); k_whole)))
 k_with "k_handed" => (assumption)
 k_with "k_units" => (first | exact Lo.line (by assumption) | exact Lo.line (Lo.in1 (by assumption)))
 k_with "k_room" => (exact Lo.room (by assumption))
 k_with "execs cons" => (((with_reducible show wpAny _ _ (execs (_ :: _) _) _ _ _); (k_dflt (refine execs_flat (s := s) ?_)); intro tkF))
 k_with "getAttr ref" => ((k_dflt (with_reducible refine' tcb_state ?yT ?yF ?yX ?yN ?yh1 ?yh2 ?_; (case yN => k_asm); (case yF => k_asm); (case yX => k_in); (case yh1 => k_mem); (case yh2 => k_mem); (case yT => assumption)); intro tS))
 k_with "getAttr ref" => ((k_dflt ((first | with_reducible refine' tcb_wheel ?Tz082 ?Fz082 ?Xz082 ?Nz082 ?h1z082 ?h2z082 ?_ | with_reducible refine' tcb_error ?Tz082 ?Fz082 ?Xz082 ?Nz082 ?h1z082 ?h2z082 ?_ | with_reducible refine' tcb_acks ?Tz082 ?Fz082 ?Xz082 ?Nz082 ?h1z082 ?h2z082 ?_ | with_reducible refine' tcb_limits ?Tz082 ?Fz082 ?Xz082 ?Nz082 ?h1z082 ?h2z082 ?_ | with_reducible refine' tcb_receiver ?Tz082 ?Fz082 ?Xz082 ?Nz082 ?h1z082 ?h2z082 ?_ | with_reducible refine' tcb_sender ?Tz082 ?Fz082 ?Xz082 ?Nz082 ?h1z082 ?h2z082 ?_ | with_reducible refine' tcb_local ?Tz082 ?Fz082 ?Xz082 ?Nz082 ?h1z082 ?h2z082 ?_ | with_reducible refine' tcb_remote ?Tz082 ?Fz082 ?Xz082 ?Nz082 ?h1z082 ?h2z082 ?_); (case Nz082 => k_asm); (case Fz082 => k_asm); (case Xz082 => k_in); (case h1z082 => k_mem); (case h2z082 => k_mem); (case Tz082 => assumption))))
 k_with "call ref" => (((with_reducible show wpAny _ _ (call (Value.ref 775) [_, _]) _ _ _); (k_dflt (refine' use_call (by assumption) (by assumption) (by assumption) (by assumption) ?P (fun H => cancel_c B (Lo.mono (by assumption) (by decide)) (by assumption) ?hc H) ?_; (case P => walk_at "m_takes"); (case hc => omega))); (try clear DN); (refine elim1 ?_; intro nfN WN hN tkN FN NN DN); (try k_sweep)))
 k_with "call ref" => (((with_reducible show wpAny _ _ (call (Value.ref 761) [_, _, _]) _ _ _); (k_dflt (refine' use_call (by assumption) (by assumption) (by assumption) (by assumption) ?P (fun H => put_c B (Lo.mono (by assumption) (by decide)) (by assumption) ?hc H) ?_; (case P => walk_at "m_takes"); (case hc => omega))); (try clear DN); (refine elim1 ?_; intro nfN WN hN tkN FN NN DN); (try k_sweep)))
 k_with "getAttr ref" => ((k_dflt ((first | with_reducible refine' lim_time_wait ?xT ?xF ?xX ?xN ?xh1 ?xh2 ?_ | with_reducible refine' lim_receive_room ?xT ?xF ?xX ?xN ?xh1 ?xh2 ?_ | with_reducible refine' lim_mss ?xT ?xF ?xX ?xN ?xh1 ?xh2 ?_ | with_reducible refine' lim_ring ?xT ?xF ?xX ?xN ?xh1 ?xh2 ?_ | with_reducible refine' lim_send_room ?xT ?xF ?xX ?xN ?xh1 ?xh2 ?_ | with_reducible refine' lim_ack_delay ?xT ?xF ?xX ?xN ?xh1 ?xh2 ?_ | with_reducible refine' lim_first_timeout ?xT ?xF ?xX ?xN ?xh1 ?xh2 ?_ | with_reducible refine' lim_least_timeout ?xT ?xF ?xX ?xN ?xh1 ?xh2 ?_ | with_reducible refine' lim_most_timeout ?xT ?xF ?xX ?xN ?xh1 ?xh2 ?_ | with_reducible refine' lim_most_tries ?xT ?xF ?xX ?xN ?xh1 ?xh2 ?_ | with_reducible refine' rec_next ?xT ?xF ?xX ?xN ?xh1 ?xh2 ?_); (case xN => k_asm); (case xF => k_asm); (case xX => k_in); (case xh1 => k_mem); (case xh2 => k_mem); (case xT => assumption)); intro tI))
 k_with "getAttr ref" => ((k_dflt ((with_reducible refine' snd_next ?xT ?xF ?xX ?xN ?xh1 ?xh2 ?_); (case xN => k_asm); (case xF => k_asm); (case xX => k_in); (case xh1 => k_mem); (case xh2 => k_mem); (case xT => assumption)); intro tI))
 k_with "call ref" => (((with_reducible show wpAny _ _ (call (Value.ref 118) [_]) _ _ _); (k_dflt (refine' make_use (by assumption) (by assumption) (by assumption) (by assumption) (by assumption) Takes.nil ?hm ?hi ?hf (fun x dx s' H => ackI B (Lo.make (Lo.mono (by assumption) (by decide))) H) ?_; (case hm => k_is); (case hi => k_is); (case hf => k_is))); (try clear DN); (rintro xN dN nfN ⟨t0, t1, t2, t3, t4, rfl⟩ hN tkN FN NN DN); (dsimp only [List.cons_append, List.nil_append] at NN DN); (try k_sweep)))
 k_with "call ref" => (((with_reducible show wpAny _ _ (call (Value.ref 202) [_, _, _]) _ _ _); (k_dflt (refine' make_use (by assumption) (by assumption) (by assumption) (by assumption) (by assumption) Takes.nil ?hm ?hi ?hf (fun x dx s' H => congI B (Lo.make (Lo.mono (by assumption) (by decide))) H) ?_; (case hm => k_is); (case hi => k_is); (case hf => k_is))); (try clear DN); (intro xN dN nfN hJ hN tkN FN NN DN); clear hJ; (replace NN := news_drop NN); (replace DN := nd_drop DN); (try dsimp only [List.cons_append, List.nil_append] at NN DN); (try k_sweep)))
 k_with "call ref" => (((with_reducible show wpAny _ _ (call (Value.ref 370) [_, _, _]) _ _ _); (k_dflt (refine' make_use (by assumption) (by assumption) (by assumption) (by assumption) (by assumption) Takes.nil ?hm ?hi ?hf (fun x dx s' H => rttI B (Lo.make (Lo.mono (by assumption) (by decide))) H) ?_; (case hm => k_is); (case hi => k_is); (case hf => k_is))); (try clear DN); (intro xN dN nfN hJ hN tkN FN NN DN); clear hJ; (replace NN := news_drop NN); (replace DN := nd_drop DN); (try dsimp only [List.cons_append, List.nil_append] at NN DN); (try k_sweep)))
 k_with "call ref" => (((with_reducible show wpAny _ _ (call (Value.ref 314) [_, _]) _ _ _); (k_dflt (refine' make_use (by assumption) (by assumption) (by assumption) (by assumption) (by assumption) Takes.nil ?hm ?hi ?hf (fun x dx s' H => clockI B (Lo.make (Lo.mono (by assumption) (by decide))) H) ?_; (case hm => k_is); (case hi => k_is); (case hf => k_is))); (try clear DN); (intro xN dN nfN hJ hN tkN FN NN DN); clear hJ; (replace NN := news_drop NN); (replace DN := nd_drop DN); (try dsimp only [List.cons_append, List.nil_append] at NN DN); (try k_sweep)))
 k_with "call ref" => (((with_reducible show wpAny _ _ (call (Value.ref 461) [_]) _ _ _); (k_dflt (refine' make_use (by assumption) (by assumption) (by assumption) (by assumption) (by assumption) Takes.nil ?hm ?hi ?hf (fun x dx s' H => peerI B (Lo.make (Lo.mono (by assumption) (by decide))) H) ?_; (case hm => k_is); (case hi => k_is); (case hf => k_is))); (try clear DN); (intro xN dN nfN hJ hN tkN FN NN DN); clear hJ; (replace NN := news_drop NN); (replace DN := nd_drop DN); (try dsimp only [List.cons_append, List.nil_append] at NN DN); (try k_sweep)))
 k_with "call ref" => (((with_reducible show wpAny _ _ (call (Value.ref 426) [_]) _ _ _); (k_dflt (refine' make_use (by assumption) (by assumption) (by assumption) (by assumption) (by assumption) Takes.nil ?hm ?hi ?hf (fun x dx s' H => queueI B (Lo.make (Lo.mono (by assumption) (by decide))) H) ?_; (case hm => k_is); (case hi => k_is); (case hf => k_is))); (try clear DN); (intro xN dN nfN hJ hN tkN FN NN DN); clear hJ; (replace NN := news_drop NN); (replace DN := nd_drop DN); (try dsimp only [List.cons_append, List.nil_append] at NN DN); (try k_sweep)))
 k_with "call ref" => (((with_reducible show wpAny _ _ (call (Value.ref 823) [_, _, _, _, _, _, _, _, _, _]) _ _ _); (k_dflt (refine' make_use (by assumption) (by assumption) (by assumption) (by assumption) (by assumption) Takes.nil ?hm ?hi ?hf (fun x dx s' H => limI B (Lo.make (Lo.mono (by assumption) (by decide))) H) ?_; (case hm => k_is); (case hi => k_is); (case hf => k_is))); (try clear DN); (rintro xN dN nfN ⟨t0, t1, t2, t3, t4, t5, t6, t7, t8, t9, rfl⟩ hN tkN FN NN DN); (dsimp only [List.cons_append, List.nil_append] at NN DN); (try k_sweep)))
 k_with "call ref" => (((with_reducible show wpAny _ _ (call (Value.ref 702) [_, _, _, _, _, _, _, _, _]) _ _ _); (k_dflt (refine' make_use (by assumption) (by assumption) (by assumption) (by assumption) (by assumption) Takes.nil ?hm ?hi ?hf (fun x dx s' H => segI B (Lo.make (Lo.mono (by assumption) (by decide))) H) ?_; (case hm => k_is); (case hi => k_is); (case hf => k_is))); (try clear DN); (rintro xN dN nfN ⟨t0, t1, t2, t3, t4, t5, t6, t7, t8, rfl⟩ hN tkN FN NN DN); (dsimp only [List.cons_append, List.nil_append] at NN DN); (try k_sweep)))
 trivial
theorem clock_c {w : World} {mean : ExcName → Option Value} {mg mb : Str → Option Value} {hb : Heap} {s : Shared} {A : Around} {lim dlim : Addr} {odl : Obj}
   (B : Base (hd.heap_1 w.params) hd.view_1 LOOSE mean mg mb hb) (lo : Lo 3 A) (W : LimObj w odl) (H : Has hb s [(lim, instObj 823 dlim), (dlim, odl)]) :
   codeAny (model PR w) A (.call (.ref 834) ⟨[.ref lim], []⟩) (Rets s [(lim, instObj 823 dlim), (dlim, odl)] (fun v nf => (∃ r, v = .ref r) ∧ nf = [(lim, instObj 823 dlim), (dlim, odl)])) s := by
  refine' enter (binds := [(Str.ofString "limits", .ref lim)]) B H lo ?ho ?hcd ?hbind ?hloc ?h ?hcell ?hco ?hgen ?hk
  walk_at "m_enter"
  k_steps
  all_goals (try dsimp only)
  refine' rets_end hRR hg2 (by assumption) (by assumption) (by assumption) ⟨⟨_, rfl⟩, rfl⟩ ?p1
  walk_at "m_ends"
theorem news_swap {h₀ h : Heap} {L : Addr} {W r : Led} (N : News h₀ L h (W ++ r)) : News h₀ L h (r ++ W) := fun q hq => N q (List.mem_append.mpr (List.mem_append.mp hq).symm)
theorem nd_swap {W r : Led} (D : (adrs (W ++ r)).Nodup) : (adrs (r ++ W)).Nodup := (List.Perm.nodup_iff (List.perm_append_comm.map _)).mp D
inductive AckNew (w : World) (o : Obj) : Prop
  | mk (k0 k1 k2 k3 t0 t1 : Tok) (e0 : o = dictOf [ent w.params "delay" k0 (.int 2 t0), ent w.params "waiting" k1 (.int 0 t1), ent w.params "due" k2 .none, ent w.params "has_gap" k3 (.bool false)] 4) : AckNew w o
theorem AckNew.obj {w : World} {o : Obj} (h : AckNew w o) : AckObj w .none o := by
  obtain ⟨k0, k1, k2, k3, t0, t1, rfl⟩ := h
  exact ⟨_, _, _, _, _, _, 0, _, rfl, by decide, rfl⟩
theorem ack_elim {w : World} {t : Tok} {P : Addr → Addr → Led → Prop} (h : ∀ x dx o, AckNew w o → P x dx [(x, instObj 118 dx), (dx, o)]) : ∀ x dx nf, ackIP w (.int 2 t) x dx nf → P x dx nf := by
  rintro x dx nf ⟨k0, k1, u1, k2, k3, rfl⟩
  exact h x dx _ ⟨_, _, _, _, _, _, rfl⟩
inductive TcbNew (w : World) (t : Addr) (nf : Led) : Prop
  | mk (dt : Addr) (odt : Obj) (lim dlim : Addr) (odl : Obj) (loc rem : Addr) (v1 v2 : Value) (tl tr : Tok) (n1 n2 : Nat) (snd dsnd : Addr) (ods : Obj) (ac dac : Addr) (oda : Obj) (WL : Led) (wh : Addr) (e0 : nf = tcbLed t dt odt lim dlim odl loc rem [v1, .int 10 tl] [v2, .int 20 tr] n1 n2 snd dsnd ods ac dac oda [] WL) (e1 : TcbObj w lim loc rem snd ac wh (Str.ofString "closed") .none .none odt) (e2 : LimObj w odl) (e3 : SndObj w ods) (e4 : AckNew w oda) (e5 : WhIs w wh 0 [] WL) : TcbNew w t nf
theorem new_elim {w : World} {P : Addr → Led → Prop} (h : ∀ (t dt : Addr) (odt : Obj) (lim dlim : Addr) (odl : Obj) (loc rem : Addr) (v1 v2 : Value) (tl tr : Tok) (n1 n2 : Nat) (snd dsnd : Addr) (ods : Obj) (ac dac : Addr) (oda : Obj) (WL : Led) (wh : Addr),
    TcbObj w lim loc rem snd ac wh (Str.ofString "closed") .none .none odt → LimObj w odl → SndObj w ods → AckNew w oda → WhIs w wh 0 [] WL → P t (tcbLed t dt odt lim dlim odl loc rem [v1, .int 10 tl] [v2, .int 20 tr] n1 n2 snd dsnd ods ac dac oda [] WL)) : ∀ t nf, TcbNew w t nf → P t nf := by
  rintro t nf ⟨dt, odt, lim, dlim, odl, loc, rem, v1, v2, tl, tr, n1, n2, snd, dsnd, ods, ac, dac, oda, WL, wh, rfl, h1, h2, h3, h4, h5⟩
  exact h _ _ _ _ _ _ _ _ _ _ _ _ _ _ _ _ _ _ _ _ _ _ h1 h2 h3 h4 h5
theorem TcbNew.intro {w : World} {t dt : Addr} {odt : Obj} {lim dlim : Addr} {odl : Obj} {loc rem : Addr} {v1 v2 : Value} {tl tr : Tok} {n1 n2 : Nat} {snd dsnd : Addr} {ods : Obj} {ac dac : Addr} {oda : Obj} {WL : Led} {wh : Addr}
    (h1 : TcbObj w lim loc rem snd ac wh (Str.ofString "closed") .none .none odt) (h2 : LimObj w odl) (h3 : SndObj w ods) (h4 : AckNew w oda) (h5 : WhIs w wh 0 [] WL) : TcbNew w t (tcbLed t dt odt lim dlim odl loc rem [v1, .int 10 tl] [v2, .int 20 tr] n1 n2 snd dsnd ods ac dac oda [] WL) :=
  ⟨dt, odt, lim, dlim, odl, loc, rem, v1, v2, tl, tr, n1, n2, snd, dsnd, ods, ac, dac, oda, WL, wh, rfl, h1, h2, h3, h4, h5⟩
section
theorem ln_TcbI_2 : True := by
 k_with "call ref" => (((k_dflt (show wpAny _ _ (call (Value.ref 834) [_]) _ _ _)); (k_dflt (refine' use_call (by assumption) (by assumption) (by assumption) (by assumption) ?P (fun H => clock_c B (Lo.mono (by assumption) (by decide)) W H) ?_; (case P => walk_at "m_takes"))); (try clear DN); (refine elimR ?_; intro rC hN tkN FN NN DN); (simp only [List.cons_append, List.nil_append] at NN DN); (try k_sweep)))
 k_with "call ref" => (((with_reducible show wpAny _ _ (call (Value.ref 652) [_, _, _, _]) _ _ _); (k_dflt (refine' make_use (by assumption) (by assumption) (by assumption) (by assumption) (by assumption) Takes.nil ?hm ?hi ?hf (φ := fun x dx nf => ∃ o, SndObj w o ∧ nf = [(x, instObj 652 dx), (dx, o)]) (fun x dx s' H => senderI B (Lo.make (Lo.mono (by assumption) (by decide))) H) ?_; (case hm => k_is); (case hi => k_is); (case hf => k_is))); (try clear DN); (refine elimM ?_; intro xS dS oS hSn hN tkN FN NN DN); (dsimp only [List.cons_append, List.nil_append] at NN DN); (try k_sweep)))
 k_with "call ref" => (((k_dflt (show wpAny _ _ (call (Value.ref 802) []) _ _ _)); (k_dflt (refine' make_use (by assumption) (by assumption) (by assumption) (by assumption) (by assumption) Takes.nil ?hm ?hi ?hf (φ := fun x dx nf => WhIs w x 0 [] nf) (fun x dx s' H => wheelI B (Lo.make (Lo.mono (by assumption) (by decide))) H) ?_; (case hm => k_is); (case hi => k_is); (case hf => k_is))); (try clear DN); (intro xW dW nfW WN hN tkN FN NN DN); (replace NN := news_swap NN); (replace DN := nd_swap DN); (dsimp only [List.cons_append, List.nil_append] at NN DN); (try k_sweep)))
 k_with "call ref" => (((with_reducible show wpAny _ _ (call (Value.ref 118) [_]) _ _ _); (k_dflt (refine' make_use (by assumption) (by assumption) (by assumption) (by assumption) (by assumption) Takes.nil ?hm ?hi ?hf (fun x dx s' H => ackI B (Lo.make (Lo.mono (by assumption) (by decide))) H) ?_; (case hm => k_is); (case hi => k_is); (case hf => k_is))); (try clear DN); (refine ack_elim ?_; intro xA dA oA hA hN tkN FN NN DN); (dsimp only [List.cons_append, List.nil_append] at NN DN); (try k_sweep)))
 trivial
theorem tcbI {w : World} {mean : ExcName → Option Value} {mg mb : Str → Option Value} {hb : Heap} {s : Shared} {A : Around} {x dx lim dlim loc rem : Addr} {odl : Obj} {v1 v2 : Value} {tl tr t9 : Tok} {n1 n2 : Nat}
   (B : Base (hd.heap_1 w.params) hd.view_1 LOOSE mean mg mb hb) (lo : Lo 6 A) (W : LimObj w odl) (H : Has hb s [(x, instObj 866 dx), (dx, dictOf [] 0), (lim, instObj 823 dlim), (dlim, odl), (loc, tupOf [v1, .int 10 tl] n1), (rem, tupOf [v2, .int 20 tr] n2)]) :
   codeAny (model PR w) A (.call (.ref 848) ⟨[.ref x, .ref lim, .ref loc, .ref rem, .int 9 t9], []⟩) (Rets s [(x, instObj 866 dx), (dx, dictOf [] 0), (lim, instObj 823 dlim), (dlim, odl), (loc, tupOf [v1, .int 10 tl] n1), (rem, tupOf [v2, .int 20 tr] n2)] (fun v nf => v = .none ∧ TcbNew w x nf)) s := by
  refine' enter (binds := [(Str.ofString "self", .ref x), (Str.ofString "limits", .ref lim), (Str.ofString "local", .ref loc), (Str.ofString "remote", .ref rem), (Str.ofString "iss", .int 9 t9)]) B H lo ?ho ?hcd ?hbind ?hloc ?h ?hcell ?hco ?hgen ?hk
  walk_at "m_enter"
  k_steps
  all_goals (try dsimp only)
  refine' rets_end hRR hg2 (by assumption) (by assumption) (by assumption) ⟨rfl, TcbNew.intro (TcbObj.intro rfl rfl) W hSn hA WN⟩ ?p1
  walk_at "m_ends"
end
end Mine
namespace Mine
open PySem PySem.W PySem.Spec PySem.Calls PyProof.Rows
abbrev srcOf (x y : Int) (tx ty : Tok) (n : Nat) : Obj := listOf #[.int x tx, .int y ty] n
inductive SrcNew (a : Addr) (n : Nat) (x : Int) (q : Addr × Obj) : Prop
  | mk (x' y' : Int) (tx' ty' : Tok) (e0 : q = (a, srcOf x' y' tx' ty' n)) (e1 : (0 ≤ x' ∧ x' ≤ x)) (e2 : (0 ≤ y' ∧ y' < 2147483647)) : SrcNew a n x q
section
variable {prog : Program} {w : World} {A : Around} {E : Value → Shared → Prop} {s : Shared} {Q : Value → Shared → Prop} {h₀ : Heap} {L : Addr} {news : Led}
theorem ln_One_1 : True := by
 k_with_none
 k_with "m_enter" => ((
     case ho => k_is
     case hcd => k_is
     case hbind => first | exact BindsTo.of_eq rfl | exact binds_K (Frag.In.keeps (Base.X (by assumption)) (Has.stays (by assumption))) rfl (by k_is) rfl rfl rfl
     case hloc => exact locs rfl
     case hcell => decide
     case hco => exact rfl
     case hgen => exact rfl
     case hk => exact rfl
     intro RR hRR g L' h₁ A' lo' St hg1 hg2 F N D X T
     (try dsimp only [List.reverse, List.reverseAux, List.length] at *)))
 k_with "m_takes" => (first
     | exact Takes.nil
     | (refine' Takes.cons ?az047 ?bz047; (case az047 => walk_at "m_pull"); (case bz047 => walk_at "m_takes"))
     | (refine' Takes.app ?az047 ?bz047; (case az047 => walk_at "m_pullL"); (case bz047 => walk_at "m_takes"))
     | (refine' Takes.last ?az047; (case az047 => walk_at "m_pullL")))
 k_with "m_pull" => (first
     | exact Pull.head
     | (refine' Pull.tail ?az350; (case az350 => walk_at "m_pull"))
     | (refine' Pull.app ?az350; (case az350 => walk_at "m_pull")))
 k_with "m_pullL" => (first
     | exact PullL.head
     | exact PullL.whole
     | (refine' PullL.tail ?az531; (case az531 => walk_at "m_pullL"))
     | (refine' PullL.app ?az531; (case az531 => walk_at "m_pullL")))
 k_with "m_ends" => ((case p1 => ((try simp only [tcbLed]); (try simp only [whLed, List.append_assoc, List.cons_append, List.nil_append, List.append_nil]); (walk_at "m_takes"))))
 k_with "subscriptTail" => ((k_dflt (first
     | (refine' item_M (by assumption) ?hmz616 ?h0z616 ?hhiz616 ?hxz616 ?_ ?hsz616; (case hmz616 => k_mem); (case h0z616 => decide); (case hhiz616 => decide); (case hxz616 => exact rfl); (case hsz616 => with_unfolding_all rfl))
     | (refine' item_T (by assumption) ?hmz616 ?h0z616 ?hhiz616 ?hxz616 ?_ ?hsz616; (case hmz616 => k_mem); (case h0z616 => decide); (case hhiz616 => decide); (case hxz616 => exact rfl); (case hsz616 => with_unfolding_all rfl)))))
 k_with "m_updn" => (first | exact UpdN.head | (refine' UpdN.tail ?az058; (case az058 => walk_at "m_updn")) | (refine' UpdN.app ?az058; (case az058 => walk_at "m_updn")))
 k_with "m_updg" => (first | exact UpdG.head | (refine' UpdG.tail ?az984; (case az984 => walk_at "m_updg")) | (refine' UpdG.app ?az984; (case az984 => walk_at "m_updg")))
 k_with "k_upd" => (k_dflt (refine' upd_of ?Dz233 ?Uz233; (case Dz233 => assumption); (case Uz233 => walk_at "m_updn")))
 k_with "k_updF" => (k_dflt (refine' updF_of ?Dz235 ?Uz235; (case Dz235 => assumption); (case Uz235 => walk_at "m_updg")))
 k_with "k_mem" => (first | with_reducible exact List.mem_cons_self | (with_reducible exact List.mem_append_left _ (by assumption)) | (with_reducible refine' List.mem_cons_of_mem _ ?mmz799; (case mmz799 => k_mem)) | (with_reducible refine' List.mem_append_right _ ?mmz799; (case mmz799 => k_mem)) | with_reducible assumption)
 k_with "k_handed" => (assumption)
 k_with "k_units" => (first | exact Lo.line (by assumption) | exact Lo.line (Lo.in1 (by assumption)))
 k_with "k_room" => (exact Lo.room (by assumption))
 k_with "execs cons" => (((with_reducible show wpAny _ _ (execs (_ :: _) _) _ _ _); (k_dflt (refine execs_flat (s := s) ?_)); intro tkF))
 trivial
theorem item_any {value slice : PySem.Expr} {l : Addr} {vs : List Value} {n : Nat} {k : Int} {u : Tok} (N : News h₀ L s.heap news) (hm : (l, listOf vs.toArray n) ∈ news) (hk : 0 ≤ k ∧ k < vs.length) (hl : vs.length < 1000) (h : ∀ v, v ∈ vs → Q v s)
    (hs : subscripted slice false (.ref l) (.int k u) = operate [.ref l, .int k u] (getItem (.ref l) (.int k u))) :
    wpAny (model prog w) A (subscriptTail value slice (.ref l) (.int k u)) Q E s := by
  have hi : k.toNat < vs.length := by omega
  exact item_M N hm hk.1 (by omega) (List.getElem?_eq_getElem hi) (h _ (List.getElem_mem hi)) hs
theorem len_M {l : Addr} {vs : List Value} {n : Nat} (N : News h₀ L s.heap news) (hm : (l, listOf vs.toArray n) ∈ news) (hl : vs.length < 1000) (h : ∀ t tk, Q (.int vs.length t) { s with toks := tk }) : wpAny (model prog w) A (call (.builtin "len") [.ref l]) Q E s := by
  refine call_len_list (News.isList N hm) ?_ ?_
  · rw [List.size_toArray]; omega
  · rw [List.size_toArray]; exact h _ _
end
section
theorem ln_One_2 : True := by
 k_with "call builtin:len" => (((with_reducible show wpAny _ _ (call (Value.builtin "len") [Value.ref _]) _ _ _); (k_dflt (refine' len_M (by assumption) ?m (by assumption) ?_; (case m => k_mem))); intro tL tkL))
 k_with "call ref" => (((k_dflt (show wpAny _ _ (call (Value.ref 1135) [_, _]) _ _ _)); (k_dflt (refine' use_call (by assumption) (by assumption) (by assumption) (by assumption) ?P (fun H => take_c B (Lo.mono (by assumption) (by decide)) hx hy ?ht H) ?_; (case P => walk_at "m_takes"); (case ht => omega))); (try clear DN); (refine take_elim ?_; intro d' td' x' tx' y' ty' hd' hx' hy' hN tkN FN NN DN); (simp only [List.cons_append, List.nil_append] at NN DN); (try k_sweep)))
 k_with "subscriptTail" => ((k_dflt (refine' item_any (by assumption) ?hm (by assumption) (by assumption) ?_ ?hs; (case hm => k_mem); (case hs => with_unfolding_all rfl)); intro vI hvI))
 trivial
theorem one_c {w : World} {mean : ExcName → Option Value} {mg mb : Str → Option Value} {hb : Heap} {s : Shared} {A : Around} {a l : Addr} {x y : Int} {tx ty : Tok} {n nl : Nat} {vs : List Value}
   (B : Base (hd.heap_1 w.params) hd.view_1 LOOSE mean mg mb hb) (lo : Lo 2 A) (hx : 0 ≤ x) (hy : 0 ≤ y ∧ y < 2147483647) (hl : vs.length < 1000) (hl0 : 0 < vs.length) (H : Has hb s [(a, srcOf x y tx ty n), (l, listOf vs.toArray nl)]) :
   codeAny (model PR w) A (.call (.ref 1142) ⟨[.ref a, .ref l], []⟩) (Rets s [(a, srcOf x y tx ty n), (l, listOf vs.toArray nl)] (fun v nf => v ∈ vs ∧ ∃ q, SrcNew a n x q ∧ nf = [q, (l, listOf vs.toArray nl)])) s := by
  refine' enter (binds := [(Str.ofString "source", .ref a), (Str.ofString "things", .ref l)]) B H lo ?ho ?hcd ?hbind ?hloc ?h ?hcell ?hco ?hgen ?hk
  walk_at "m_enter"
  k_steps
  all_goals (try dsimp only)
  all_goals (refine' rets_end hRR hg2 (by assumption) (by assumption) (by assumption) ⟨by assumption, _, ⟨_, _, _, _, rfl, by assumption, by assumption⟩, rfl⟩ ?p1; (walk_at "m_ends"))
theorem one_elim {P : Value → Led → Prop} {a : Addr} {n : Nat} {x : Int} {vs : List Value} {lo : Addr × Obj} (h : ∀ v x' y' tx' ty', v ∈ vs → (0 ≤ x' ∧ x' ≤ x) → (0 ≤ y' ∧ y' < 2147483647) → P v [(a, srcOf x' y' tx' ty' n), lo]) :
    ∀ v nf, (v ∈ vs ∧ ∃ q, SrcNew a n x q ∧ nf = [q, lo]) → P v nf := by
  rintro v nf ⟨hv, q, ⟨x', y', tx', ty', rfl, h1, h2⟩, rfl⟩
  exact h _ _ _ _ _ hv h1 h2
end
end Mine
namespace Mine
open PySem PySem.W PySem.Spec PySem.Calls PyProof.Rows
section
variable {prog : Program} {w : World} {A : Around} {E : Value → Shared → Prop} {s : Shared} {a b : Int} {t u : Tok} {Q : Value → Shared → Prop}
theorem ln_LRow_1 : True := by
 k_with_none
 k_with "m_enter" => ((
     case ho => k_is
     case hcd => k_is
     case hbind => first | exact BindsTo.of_eq rfl | exact binds_K (Frag.In.keeps (Base.X (by assumption)) (Has.stays (by assumption))) rfl (by k_is) rfl rfl rfl
     case hloc => exact locs rfl
     case hcell => decide
     case hco => exact rfl
     case hgen => exact rfl
     case hk => exact rfl
     intro RR hRR g L' h₁ A' lo' St hg1 hg2 F N D X T
     (try dsimp only [List.reverse, List.reverseAux, List.length] at *)))
 k_with "m_takes" => (first
     | exact Takes.nil
     | (refine' Takes.cons ?az047 ?bz047; (case az047 => walk_at "m_pull"); (case bz047 => walk_at "m_takes"))
     | (refine' Takes.app ?az047 ?bz047; (case az047 => walk_at "m_pullL"); (case bz047 => walk_at "m_takes"))
     | (refine' Takes.last ?az047; (case az047 => walk_at "m_pullL")))
 k_with "m_pull" => (first
     | exact Pull.head
     | (refine' Pull.tail ?az350; (case az350 => walk_at "m_pull"))
     | (refine' Pull.app ?az350; (case az350 => walk_at "m_pull")))
 k_with "m_pullL" => (first
     | exact PullL.head
     | exact PullL.whole
     | (refine' PullL.tail ?az531; (case az531 => walk_at "m_pullL"))
     | (refine' PullL.app ?az531; (case az531 => walk_at "m_pullL")))
 k_with "m_ends" => ((case p1 => ((try simp only [tcbLed]); (try simp only [whLed, List.append_assoc, List.cons_append, List.nil_append, List.append_nil]); (walk_at "m_takes"))))
 k_with "m_updn" => (first | exact UpdN.head | (refine' UpdN.tail ?az058; (case az058 => walk_at "m_updn")) | (refine' UpdN.app ?az058; (case az058 => walk_at "m_updn")))
 k_with "m_updg" => (first | exact UpdG.head | (refine' UpdG.tail ?az984; (case az984 => walk_at "m_updg")) | (refine' UpdG.app ?az984; (case az984 => walk_at "m_updg")))
 k_with "k_upd" => (k_dflt (refine' upd_of ?Dz233 ?Uz233; (case Dz233 => assumption); (case Uz233 => walk_at "m_updn")))
 k_with "k_updF" => (k_dflt (refine' updF_of ?Dz235 ?Uz235; (case Dz235 => assumption); (case Uz235 => walk_at "m_updg")))
 k_with "k_mem" => (first | with_reducible exact List.mem_cons_self | (with_reducible exact List.mem_append_left _ (by assumption)) | (with_reducible refine' List.mem_cons_of_mem _ ?mmz799; (case mmz799 => k_mem)) | (with_reducible refine' List.mem_append_right _ ?mmz799; (case mmz799 => k_mem)) | with_reducible assumption)
 k_with "k_handed" => (assumption)
 k_with "k_units" => (first | exact Lo.line (by assumption) | exact Lo.line (Lo.in1 (by assumption)))
 k_with "k_room" => (exact Lo.room (by assumption))
 k_with "subscriptTail Name Constant ref int" => ((k_dflt (first
     | (refine' item_M (by assumption) ?hmz616 ?h0z616 ?hhiz616 ?hxz616 ?_ ?hsz616; (case hmz616 => k_mem); (case h0z616 => decide); (case hhiz616 => decide); (case hxz616 => exact rfl); (case hsz616 => with_unfolding_all rfl))
     | (refine' item_T (by assumption) ?hmz616 ?h0z616 ?hhiz616 ?hxz616 ?_ ?hsz616; (case hmz616 => k_mem); (case h0z616 => decide); (case hhiz616 => decide); (case hxz616 => exact rfl); (case hsz616 => with_unfolding_all rfl)))))
 k_with "execs cons" => (((with_reducible show wpAny _ _ (execs (_ :: _) _) _ _ _); (k_dflt (refine execs_flat (s := s) ?_)); intro tkF))
 trivial
theorem fdiv_d (hb : 0 < b) (hb2 : b < 1073741824) (h : Q (.int (a / b) s.toks) { s with toks := s.toks + 1 }) : wpAny (model prog w) A (binaryOp .FloorDiv (.int a t) (.int b u)) Q E s :=
  floordiv_int (by omega) (by rw [Int.fdiv_eq_ediv_of_nonneg a (by omega : (0:Int) ≤ b)]; exact h) (Or.inl (PyProof.noPylong_small (by omega)))
theorem mod_d (hb : 0 < b) (h : Q (.int (a % b) s.toks) { s with toks := s.toks + 1 }) : wpAny (model prog w) A (binaryOp .Mod (.int a t) (.int b u)) Q E s := mod_e hb rfl h
end
def STATES : List Str := [Str.ofString "closed", Str.ofString "listen", Str.ofString "syn sent", Str.ofString "syn received", Str.ofString "established", Str.ofString "fin wait 1", Str.ofString "fin wait 2", Str.ofString "close wait", Str.ofString "closing", Str.ofString "last ack", Str.ofString "time wait"]
def StatesAre (vs : List Value) : Prop := vs.length = 11 ∧ ∀ v ∈ vs, ∃ S t, v = .str S t ∧ S ∈ STATES
theorem states_c {w : World} {mean : ExcName → Option Value} {mg mb : Str → Option Value} {hb : Heap} {s : Shared} {A : Around}
   (B : Base (hd.heap_1 w.params) hd.view_1 LOOSE mean mg mb hb) (lo : Lo 1 A) (H : Has hb s []) :
   codeAny (model PR w) A (.call (.ref 1149) ⟨[], []⟩) (Rets s [] (fun v nf => ∃ l vs n, v = .ref l ∧ StatesAre vs ∧ nf = [(l, listOf vs.toArray n)])) s := by
  refine' enter (binds := []) B H lo ?ho ?hcd ?hbind ?hloc ?h ?hcell ?hco ?hgen ?hk
  walk_at "m_enter"
  k_steps
  all_goals (try dsimp only)
  refine' rets_end hRR hg2 (by assumption) (by assumption) (by assumption) ⟨_, _, _, rfl, ?st, rfl⟩ ?p1
  walk_at "m_ends"
  case st =>
    refine ⟨rfl, fun v hv => ?_⟩
    simp only [List.mem_cons, List.not_mem_nil, or_false] at hv
    rcases hv with rfl | rfl | rfl | rfl | rfl | rfl | rfl | rfl | rfl | rfl | rfl <;> exact ⟨_, _, rfl, by decide⟩
theorem states_elim {P : Value → Led → Prop} (h : ∀ (l : Addr) (vs : List Value) (n : Nat), vs.length = 11 → (∀ v ∈ vs, ∃ S t, v = .str S t ∧ S ∈ STATES) → P (.ref l) [(l, listOf vs.toArray n)]) : ∀ v nf, (∃ l vs n, v = .ref l ∧ StatesAre vs ∧ nf = [(l, listOf vs.toArray n)]) → P v nf := by
  rintro v nf ⟨l, vs, n, rfl, ⟨h1, h2⟩, rfl⟩
  exact h l vs n h1 h2
section
theorem ln_LRow_2 : True := by
 k_with "binaryOp Mod int int" => ((refine mod_d (by omega) ?_))
 k_with "binaryOp FloorDiv int int" => ((refine fdiv_d (by omega) (by omega) ?_))
 k_with "binaryOp Mult int int" => ((refine mul_g (by omega) ?_))
 k_with "call type:bytes" => ((k_dflt (refine' bytes_M (z := #[2, 4, 0, 4]) (by assumption) (by assumption) (by assumption) ?hm ?hi ?hr ?hn ?hz ?_; (case hm => k_mem); (case hi => exact IntsAre.cons _ _ (IntsAre.cons _ _ (IntsAre.cons _ _ (IntsAre.cons _ _ IntsAre.nil)))); (case hr => (unfold KBa.In; decide +kernel)); (case hn => decide +kernel); (case hz => decide +kernel)); intro h' t' k' F' N'; (try k_sweep)))
 k_with "ValAt" => ((first | (have hO := ho1 (by omega)) | (have hO := ho0 (by omega))); (k_dflt (refine' ValAt.mk _ _ _ ?bE rfl ?bF ?bN; (case bE => (rw [hO])); (case bF => k_asm); (case bN => first | k_asm | exact news_tail (by assumption)))))
 k_with "eval IfExp" => (((with_reducible show wpAny _ _ (eval (Expr.IfExp _ (Expr.Call _ _ _ _) _ _) _) _ _ _); (k_dflt (refine' if_join (fun t => Value.bytes opts t) ?oF ?oN ?wh ?wk; (case oF => k_asm); (case oN => k_asm)); (case' wk => (intro tOp hOp tkO F' N'; (try k_sweep))))))
 trivial
theorem lrow_n {w : World} {mean : ExcName → Option Value} {mg mb : Str → Option Value} {hb : Heap} {s : Shared} {A : Around} {seq fl : Int} {opts pl : Array UInt8} {ts tf tp : Tok}
   (B : Base (hd.heap_1 w.params) hd.view_1 LOOSE mean mg mb hb) (lo : Lo 1 A) (hfl : 0 ≤ fl ∧ fl ≤ 100) (ho1 : fl / 2 % 2 = 1 → opts = #[2, 4, 0, 4]) (ho0 : fl / 2 % 2 ≠ 1 → opts = #[]) (H : Has hb s []) :
   codeAny (model PR w) A (.call (.ref 1170) ⟨[.none, .int seq ts, .int fl tf, .bytes pl tp], []⟩) (Rets s [] (fun v nf => ∃ t o, v = .ref t ∧ RowObj seq 0 fl opts pl o ∧ nf = [(t, o)])) s := by
  refine' enter (binds := [(Str.ofString "place", .none), (Str.ofString "seq", .int seq ts), (Str.ofString "flags", .int fl tf), (Str.ofString "octets", .bytes pl tp)]) B H lo ?ho ?hcd ?hbind ?hloc ?h ?hcell ?hco ?hgen ?hk
  walk_at "m_enter"
  k_steps
  all_goals (try dsimp only)
  refine' rets_end hRR hg2 (by assumption) (by assumption) (by assumption) ⟨_, _, rfl, ⟨_, _, _, _, _, _, _, _, _, _, rfl⟩, rfl⟩ ?p1
  walk_at "m_ends"
theorem lrow_s {w : World} {mean : ExcName → Option Value} {mg mb : Str → Option Value} {hb : Heap} {s : Shared} {A : Around} {place seq fl : Int} {opts pl : Array UInt8} {tq ts tf tp : Tok}
   (B : Base (hd.heap_1 w.params) hd.view_1 LOOSE mean mg mb hb) (lo : Lo 1 A) (hfl : 0 ≤ fl ∧ fl ≤ 100) (ho1 : fl / 2 % 2 = 1 → opts = #[2, 4, 0, 4]) (ho0 : fl / 2 % 2 ≠ 1 → opts = #[]) (H : Has hb s []) :
   codeAny (model PR w) A (.call (.ref 1170) ⟨[.int place tq, .int seq ts, .int fl tf, .bytes pl tp], []⟩) (Rets s [] (fun v nf => ∃ t o, v = .ref t ∧ RowObj seq ((place + 1) % 256) (fl - fl / 16 % 2 * 16 + 16) opts pl o ∧ nf = [(t, o)])) s := by
  refine' enter (binds := [(Str.ofString "place", .int place tq), (Str.ofString "seq", .int seq ts), (Str.ofString "flags", .int fl tf), (Str.ofString "octets", .bytes pl tp)]) B H lo ?ho ?hcd ?hbind ?hloc ?h ?hcell ?hco ?hgen ?hk
  walk_at "m_enter"
  k_steps
  all_goals (try dsimp only)
  refine' rets_end hRR hg2 (by assumption) (by assumption) (by assumption) ⟨_, _, rfl, ⟨_, _, _, _, _, _, _, _, _, _, rfl⟩, rfl⟩ ?p1
  walk_at "m_ends"
end
end Mine
namespace Mine
open PySem PySem.W PySem.Spec PySem.Calls PyProof.Rows
def Times (i : Nat) (w : World) (o : Obj) (tv : List (Int × Value)) (kvs : List (Int × Int)) : Prop :=
  o.IsDictOf (intKind PR w) tv ∧ Ints2 tv kvs ∧ (∀ p ∈ kvs, (1 ≤ p.1 ∧ p.1 ≤ i) ∧ 20 ≤ p.2 ∧ p.2 < 50) ∧ kvs.length ≤ i ∧ (kvs.map Prod.fst).Pairwise (· < ·)
theorem ln_Drawn_1 : True := by
 k_with_none
 k_with "m_enter" => ((
     case ho => k_is
     case hcd => k_is
     case hbind => first | exact BindsTo.of_eq rfl | exact binds_K (Frag.In.keeps (Base.X (by assumption)) (Has.stays (by assumption))) rfl (by k_is) rfl rfl rfl
     case hloc => exact locs rfl
     case hcell => decide
     case hco => exact rfl
     case hgen => exact rfl
     case hk => exact rfl
     intro RR hRR g L' h₁ A' lo' St hg1 hg2 F N D X T
     (try dsimp only [List.reverse, List.reverseAux, List.length] at *)))
 k_with "m_takes" => (first
     | exact Takes.nil
     | (refine' Takes.cons ?az047 ?bz047; (case az047 => walk_at "m_pull"); (case bz047 => walk_at "m_takes"))
     | (refine' Takes.app ?az047 ?bz047; (case az047 => walk_at "m_pullL"); (case bz047 => walk_at "m_takes"))
     | (refine' Takes.last ?az047; (case az047 => walk_at "m_pullL")))
 k_with "m_pull" => (first
     | exact Pull.head
     | (refine' Pull.tail ?az350; (case az350 => walk_at "m_pull"))
     | (refine' Pull.app ?az350; (case az350 => walk_at "m_pull")))
 k_with "m_pullL" => (first
     | exact PullL.head
     | exact PullL.whole
     | (refine' PullL.tail ?az531; (case az531 => walk_at "m_pullL"))
     | (refine' PullL.app ?az531; (case az531 => walk_at "m_pullL")))
 k_with "m_updn" => (first | exact UpdN.head | (refine' UpdN.tail ?az058; (case az058 => walk_at "m_updn")) | (refine' UpdN.app ?az058; (case az058 => walk_at "m_updn")))
 k_with "m_updg" => (first | exact UpdG.head | (refine' UpdG.tail ?az984; (case az984 => walk_at "m_updg")) | (refine' UpdG.app ?az984; (case az984 => walk_at "m_updg")))
 k_with "k_upd" => (k_dflt (refine' upd_of ?Dz233 ?Uz233; (case Dz233 => assumption); (case Uz233 => walk_at "m_updn")))
 k_with "k_updF" => (k_dflt (refine' updF_of ?Dz235 ?Uz235; (case Dz235 => assumption); (case Uz235 => walk_at "m_updg")))
 k_with "k_mem" => (first | with_reducible exact List.mem_cons_self | (with_reducible exact List.mem_append_left _ (by assumption)) | (with_reducible refine' List.mem_cons_of_mem _ ?mmz799; (case mmz799 => k_mem)) | (with_reducible refine' List.mem_append_right _ ?mmz799; (case mmz799 => k_mem)) | with_reducible assumption)
 k_with "k_handed" => (assumption)
 k_with "k_units" => (first | exact Lo.line (by assumption) | exact Lo.line (Lo.in1 (by assumption)))
 k_with "k_room" => (exact Lo.room (by assumption))
 k_with "exec For Name List cons nil" => (((rename Fr _ _ _ _ => lF'); (with_unfolding_all refine' For_invVF lF' ?k1z869 ?k2z869 ?_; (case k1z869 => exact rfl); (case k2z869 => exact rfl); k_whole)))
 k_with "pyIter ref" => (((with_reducible show wpAny _ _ (pyIter (Value.ref _)) (fun it s₂ => LoopAtV _ _ _ _ _ _ _ _ _ it s₂) _ _); (k_dflt (first
     | (refine' unr_tuple ?hhz581 ?Fz581 ?Nz581 ?Dz581 ?mz581 ?_; (case Fz581 => k_asm); (case Nz581 => k_asm); (case mz581 => k_mem); (case hhz581 => exact Lo.handled (by assumption)); (case Dz581 => k_asm))
     | (refine' unr_list ?hhz581 ?Fz581 ?Nz581 ?Dz581 ?mz581 ?_; (case Fz581 => k_asm); (case Nz581 => k_asm); (case mz581 => k_mem); (case hhz581 => exact Lo.handled (by assumption)); (case Dz581 => k_asm))))))
 k_with "MTurnPost" => ((k_dflt ((show TurnEnd _ _ _ _ _ _); (refine' TurnEnd.intro (by assumption) (by assumption) (by assumption) ?Pz235 ⟨?mz235, ?_⟩; (case Pz235 => walk_at "m_pull"); (case mz235 => k_mem)))))
 k_with "execs cons" => (((with_reducible show wpAny _ _ (execs (_ :: _) _) _ _ _); (k_dflt (refine execs_flat (s := s) ?_)); intro tkF))
 trivial
theorem four_key {i : Nat} {v : Value} {t1 t2 t3 t4 : Tok} (h : [Value.int 1 t1, .int 2 t2, .int 3 t3, .int 4 t4][i]? = some v) : i < 4 ∧ ∃ t, v = .int (i + 1) t := by
  rcases i with _ | _ | _ | _ | i
  · simp at h; exact ⟨by decide, t1, h.symm⟩
  · simp at h; exact ⟨by decide, t2, h.symm⟩
  · simp at h; exact ⟨by decide, t3, h.symm⟩
  · simp at h; exact ⟨by decide, t4, h.symm⟩
  · simp at h
theorem Times.up {i : Nat} {w : World} {o : Obj} {tv : List (Int × Value)} {kvs : List (Int × Int)} (h : Times i w o tv kvs) : Times (i + 1) w o tv kvs :=
  ⟨h.1, h.2.1, fun p hp => by have := h.2.2.1 p hp; omega, by have := h.2.2.2.1; omega, h.2.2.2.2⟩
theorem Ints2.snoc {tv : List (Int × Value)} {kvs : List (Int × Int)} {k τ : Int} {t : Tok} (h : Ints2 tv kvs) : Ints2 (tv ++ [(k, .int τ t)]) (kvs ++ [(k, τ)]) := by
  induction h with
  | nil => exact .cons .nil
  | cons _ ih => exact .cons ih
theorem Times.put {i : Nat} {w : World} {o o' : Obj} {tv : List (Int × Value)} {kvs : List (Int × Int)} {τ : Int} {t : Tok} (h : Times i w o tv kvs) (hτ : 20 ≤ τ ∧ τ < 50) (h' : o'.IsDictOf (intKind PR w) (stored tv ((i : Int) + 1) (.int τ t))) :
    Times (i + 1) w o' (tv ++ [((i : Int) + 1, .int τ t)]) (kvs ++ [((i : Int) + 1, τ)]) := by
  obtain ⟨_, h2, h3, h4, h5⟩ := h
  have nk : valueAt tv ((i : Int) + 1) = none := by
    unfold valueAt
    rw [Option.map_eq_none_iff, List.find?_eq_none]
    intro p hp
    have : p.1 ∈ kvs.map Prod.fst := by
      have e := h2.map
      rw [show kvs.map Prod.fst = kvs.map (·.1) from rfl, ← e]
      exact List.mem_map_of_mem hp
    obtain ⟨q, hq, e⟩ := List.mem_map.mp this
    have := h3 q hq
    simp only [decide_eq_true_eq]
    omega
  rw [stored_new nk] at h'
  refine ⟨h', h2.snoc, fun p hp => ?_, ?_, ?_⟩
  · rcases List.mem_append.mp hp with hp | hp
    · have := h3 p hp; omega
    · rw [List.mem_singleton.mp hp]; dsimp only; omega
  · rw [List.length_append]; simp; omega
  · rw [List.map_append]
    refine List.pairwise_append.mpr ⟨h5, List.pairwise_singleton .., fun a ha b hb => ?_⟩
    obtain ⟨q, hq, rfl⟩ := List.mem_map.mp ha
    have := h3 q hq
    simp only [List.map_cons, List.map_nil, List.mem_singleton] at hb
    omega
inductive DrawnJ (w : World) (n : Nat) (a : Addr) (q1 : Addr × Obj) (d : Addr) (q3 : Addr × Obj) (rest : Led) (i : Nat) (l : Led) : Prop
  | mk (xx yy : Int) (ux uy : Tok) (otd : Obj) (tv : List (Int × Value)) (kvs : List (Int × Int)) (e0 : l = q1 :: (d, otd) :: q3 :: (a, srcOf xx yy ux uy n) :: rest) (e1 : Times i w otd tv kvs) (e2 : 0 ≤ xx) (e3 : (0 ≤ yy ∧ yy < 2147483647)) : DrawnJ w n a q1 d q3 rest i l
section
variable {w : World} {A : Around} {E : Value → Shared → Prop} {s : Shared} {env : Env} {h₀ : Heap} {x : Str} {body : List Stmt} {Q : Flow → Shared → Prop}
theorem drawn_loop {l0 d a : Addr} {vs : List Value} {nn n : Nat} {od : Obj} {q3 : Addr × Obj} {rest : Led} {xx yy : Int} {ux uy : Tok} {m₀ : Str → Option Value} (hh : A.handled = none) (F : Fr h₀ env.locals s.heap m₀)
    (N : News h₀ env.locals s.heap ((l0, listOf vs.toArray nn) :: (d, od) :: q3 :: (a, srcOf xx yy ux uy n) :: rest)) (D : (adrs ((l0, listOf vs.toArray nn) :: (d, od) :: q3 :: (a, srcOf xx yy ux uy n) :: rest)).Nodup)
    (hd : od.IsDictOf (intKind PR w) []) (hx : 0 ≤ xx) (hy : 0 ≤ yy ∧ yy < 2147483647)
    (turn : ∀ i v l I oI h tk, vs[i]? = some v → DrawnJ w n a (l0, listOf vs.toArray nn) d q3 rest i l → (adrs ((I, oI) :: l)).Nodup → Fr h₀ env.locals h (fun y => if y = x then some v else m₀ y) → News h₀ env.locals h ((I, oI) :: l) →
      wpAny (model PR w) A (execs body env) (MTurnPost h₀ env.locals { s with heap := h, toks := tk } (I, oI) (fun m' l' => (∃ kv, m' = fun y => if y = x then kv else m₀ y) ∧ DrawnJ w n a (l0, listOf vs.toArray nn) d q3 rest (i + 1) l') Q) E { s with heap := h, toks := tk })
    (done : ∀ kv l h tk, DrawnJ w n a (l0, listOf vs.toArray nn) d q3 rest vs.length l → (adrs l).Nodup → Fr h₀ env.locals h (fun y => if y = x then kv else m₀ y) → News h₀ env.locals h l → Q .next { s with heap := h, toks := tk }) :
    wpAny (model PR w) A (pyIter (.ref l0)) (fun it s₂ => LoopAtV PR w A h₀ env x body Q E it s₂) E s :=
  for_listK (DrawnJ w n a (l0, listOf vs.toArray nn) d q3 rest) hh F N D (fun i l h => by obtain ⟨_, _, _, _, _, _, _, rfl, _⟩ := h; exact List.mem_cons_self)
    ⟨xx, yy, ux, uy, od, [], [], rfl, ⟨hd, .nil, (fun p hp => nomatch hp), Nat.le_refl _, .nil⟩, hx, hy⟩ turn done
end
def PlaceV (pv : Value) : Prop := pv = .none ∨ (∃ t, pv = .int 255 t) ∨ (∃ t, pv = .int 40 t)
def ErrV (ev : Value) : Prop := ev = .none ∨ ∃ t, ev = .str (Str.ofString "refused") t
inductive SrcOk (a : Addr) (n : Nat) (q : Addr × Obj) : Prop
  | mk (x' y' : Int) (tx' ty' : Tok) (e0 : q = (a, srcOf x' y' tx' ty' n)) (e1 : 0 ≤ x') (e2 : (0 ≤ y' ∧ y' < 2147483647)) : SrcOk a n q
inductive DrawnP (w : World) (a : Addr) (n : Nat) (v : Value) (nf : Led) : Prop
  | mk (l : Addr) (nl : Nat) (S : Str) (tS : Tok) (pv : Value) (d : Addr) (otd : Obj) (tv : List (Int × Value)) (kvs : List (Int × Int)) (b : Bool) (ev : Value) (q : Addr × Obj) (e0 : v = .ref l) (e1 : S ∈ STATES) (e2 : PlaceV pv) (e3 : ErrV ev) (e4 : Times 4 w otd tv kvs) (e5 : (d == sysModules) = false) (e6 : SrcOk a n q) (e7 : nf = [(l, listOf #[.str S tS, pv, .ref d, .bool b, ev] nl), (d, otd), q]) : DrawnP w a n v nf
theorem drawn_elim {w : World} {a : Addr} {n : Nat} {P : Value → Led → Prop} (h : ∀ (l : Addr) (nl : Nat) (S : Str) (tS : Tok) (pv : Value) (d : Addr) (otd : Obj) (tv : List (Int × Value)) (kvs : List (Int × Int)) (b : Bool) (ev : Value) (x' y' : Int) (tx' ty' : Tok),
    S ∈ STATES → PlaceV pv → ErrV ev → Times 4 w otd tv kvs → (d == sysModules) = false → 0 ≤ x' → (0 ≤ y' ∧ y' < 2147483647) → P (.ref l) [(l, listOf #[.str S tS, pv, .ref d, .bool b, ev] nl), (d, otd), (a, srcOf x' y' tx' ty' n)]) : ∀ v nf, DrawnP w a n v nf → P v nf := by
  rintro v nf ⟨l, nl, S, tS, pv, d, otd, tv, kvs, b, ev, q, rfl, h1, h2, h3, h4, h5, ⟨x', y', tx', ty', rfl, h6, h7⟩, rfl⟩
  exact h _ _ _ _ _ _ _ _ _ _ _ _ _ _ _ h1 h2 h3 h4 h5 h6 h7
theorem drawnJ_elim {w : World} {n : Nat} {a : Addr} {q1 : Addr × Obj} {d : Addr} {q3 : Addr × Obj} {rest : Led} {i : Nat} {l : Led} {G : Led → Prop} (J : DrawnJ w n a q1 d q3 rest i l)
    (k : ∀ (xx yy : Int) (ux uy : Tok) (otd : Obj) (tv : List (Int × Value)) (kvs : List (Int × Int)), Times i w otd tv kvs → 0 ≤ xx → (0 ≤ yy ∧ yy < 2147483647) → G (q1 :: (d, otd) :: q3 :: (a, srcOf xx yy ux uy n) :: rest)) : G l := by
  obtain ⟨xx, yy, ux, uy, otd, tv, kvs, rfl, hT, hx, hy⟩ := J
  exact k _ _ _ _ _ _ _ hT hx hy
theorem drawnJ_intro {w : World} {n : Nat} {a : Addr} {q1 : Addr × Obj} {d : Addr} {q3 : Addr × Obj} {rest : Led} {i : Nat} {xx yy : Int} {ux uy : Tok} {otd : Obj} {tv : List (Int × Value)} {kvs : List (Int × Int)} (hT : Times i w otd tv kvs) (hx : 0 ≤ xx) (hy : 0 ≤ yy ∧ yy < 2147483647) :
    DrawnJ w n a q1 d q3 rest i (q1 :: (d, otd) :: q3 :: (a, srcOf xx yy ux uy n) :: rest) := ⟨_, _, _, _, _, _, _, rfl, hT, hx, hy⟩
theorem drawnP_intro {w : World} {a : Addr} {n : Nat} {l : Addr} {nl : Nat} {S : Str} {tS : Tok} {pv : Value} {d : Addr} {otd : Obj} {tv : List (Int × Value)} {kvs : List (Int × Int)} {b : Bool} {ev : Value} {x' y' : Int} {tx' ty' : Tok}
    (h1 : S ∈ STATES) (h2 : PlaceV pv) (h3 : ErrV ev) (h4 : Times 4 w otd tv kvs) (h5 : (d == sysModules) = false) (h6 : 0 ≤ x') (h7 : 0 ≤ y' ∧ y' < 2147483647) : DrawnP w a n (.ref l) [(l, listOf #[.str S tS, pv, .ref d, .bool b, ev] nl), (d, otd), (a, srcOf x' y' tx' ty' n)] :=
  ⟨_, _, _, _, _, _, _, _, _, _, _, _, rfl, h1, h2, h3, h4, h5, ⟨_, _, _, _, rfl, h6, h7⟩, rfl⟩
theorem place_of {v : Value} {t u : Tok} (h : v ∈ [Value.none, .int 255 t, .int 40 u]) : PlaceV v := by
  simp only [List.mem_cons, List.not_mem_nil, or_false] at h
  rcases h with rfl | rfl | rfl
  · exact .inl rfl
  · exact .inr (.inl ⟨_, rfl⟩)
  · exact .inr (.inr ⟨_, rfl⟩)
theorem err_of {v : Value} {t : Tok} (h : v ∈ [Value.none, .str (Str.ofString "refused") t]) : ErrV v := by
  simp only [List.mem_cons, List.not_mem_nil, or_false] at h
  rcases h with rfl | rfl
  · exact .inl rfl
  · exact .inr ⟨_, rfl⟩
theorem pull_of {q : Addr × Obj} {all l : Led} (h : Takes all (q :: l) []) : Pull q all l := by
  unfold Takes at h; rw [List.append_nil] at h; exact h
def Stop (P : Prop) : Prop := P
theorem stop_of {P : Prop} (h : Stop P) : P := h
section
theorem ln_Drawn_2 : True := by
 k_with "call ref" => (((k_dflt (show wpAny _ _ (call (Value.ref 1149) []) _ _ _)); (k_dflt (refine' use_call (by assumption) (by assumption) (by assumption) (by assumption) Takes.nil (fun H => states_c B (Lo.mono (by assumption) (by decide)) H) ?_)); (try clear DN); (refine states_elim ?_; intro lS vsS nS hS11 hSt hN tkN FN NN DN); (simp only [List.cons_append, List.nil_append] at NN DN); (try k_sweep)))
 k_with "call ref" => (((k_dflt (show wpAny _ _ (call (Value.ref 1142) [_, _]) _ _ _)); (k_dflt (refine' use_call (by assumption) (by assumption) (by assumption) (by assumption) ?P (fun H => one_c B (Lo.mono (by assumption) (by decide)) ?a1 ?a2 ?a3 ?a4 H) ?_; (case P => walk_at "m_takes"); (case a1 => omega); (case a2 => omega); (case a3 => first | (exact Nat.le_of_ble_eq_true rfl) | (rw [hS11]; decide)); (case a4 => first | (exact Nat.le_of_ble_eq_true rfl) | (rw [hS11]; decide)))); (try clear DN); (refine one_elim ?_; intro vO xO yO txO tyO hvO hxO hyO hN tkN FN NN DN); (simp only [List.cons_append, List.nil_append] at NN DN); (try k_sweep)))
 k_with "unpackItems ref" => ((k_dflt (refine' unpackItemsN_ ?k1 ?k2 ?k3 ?k4 ?k5 ?_; (case k1 => k_asm); (case k2 => k_asm); (case k3 => (refine News.isTup (by k_asm) (by k_mem))); (case k4 => first | exact Lo.handled (by assumption) | with_unfolding_all rfl); (case k5 => first | exact Lo.handled (by assumption) | with_unfolding_all rfl)); intro h' F' N'; (try k_sweep)))
 k_with "call ref" => (((k_dflt (show wpAny _ _ (call (Value.ref 1135) [_, _]) _ _ _)); (k_dflt (refine' use_call (by assumption) (by assumption) (by assumption) (by assumption) ?P (fun H => take_c B (Lo.mono (by assumption) (by decide)) ?a1 ?a2 ?ht H) ?_; (case P => walk_at "m_takes"); (case a1 => omega); (case a2 => omega); (case ht => decide))); (try clear DN); (refine take_elim ?_; intro d' td' x' tx' y' ty' hd' hx' hy' hN tkN FN NN DN); (simp only [List.cons_append, List.nil_append] at NN DN); (try k_sweep)))
 k_with "pyIter ref" => ((refine stop_of ?_))
 k_with "setItem ref int" => ((k_dflt (refine' kda_set (knd := PySem.intKind _ _) ?F ?N ?U ?d (intKind_is _ _ _ _) ?z ?_; (case F => k_asm); (case N => k_asm); (case U => k_updF); (case d => exact hdT); (case z => (have q1 := hT.2.1.length; have q2 := hT.2.2.2.1; rw [sizeLine_eq]; omega))); intro h' o' F' N' hdi'; (try dsimp only at N'); (try k_sweep)))
 k_with "MTurnPost" => ((refine stop_of ?_))
 trivial
theorem drawn_c {w : World} {mean : ExcName → Option Value} {mg mb : Str → Option Value} {hb : Heap} {s : Shared} {A : Around} {a : Addr} {x y : Int} {tx ty : Tok} {n : Nat}
   (B : Base (hd.heap_1 w.params) hd.view_1 LOOSE mean mg mb hb) (lo : Lo 3 A) (hx : 0 ≤ x) (hy : 0 ≤ y ∧ y < 2147483647) (H : Has hb s [(a, srcOf x y tx ty n)]) :
   codeAny (model PR w) A (.call (.ref 1163) ⟨[.ref a], []⟩) (Rets s [(a, srcOf x y tx ty n)] (DrawnP w a n)) s := by
  refine' enter (binds := [(Str.ofString "source", .ref a)]) B H lo ?ho ?hcd ?hbind ?hloc ?h ?hcell ?hco ?hgen ?hk
  walk_at "m_enter"
  k_steps
  show wpAny _ _ (pyIter (Value.ref _)) (fun it s₂ => LoopAtV _ _ _ _ _ _ _ _ _ it s₂) _ _
  refine' drawn_loop ?hh ?F ?N ?D ?hd ?hx ?hy ?turn ?done
  case hh => exact Lo.handled (by assumption)
  case F => k_asm
  case N => k_asm
  case D => k_asm
  case hd => assumption
  case hx => omega
  case hy => omega
  case turn =>
    intro i v l I oI h tk hv hJ
    obtain ⟨hi4, tv4, rfl⟩ := four_key hv
    refine drawnJ_elim (G := fun l => (adrs ((I, oI) :: l)).Nodup → Fr g _ h _ → News g _ h ((I, oI) :: l) → wpAny _ _ _ _ _ _) hJ ?_
    intro xx yy ux uy otd tv kvs hT hxx hyy Dn F' N'
    have hdT := hT.1
    k_steps
    all_goals (show TurnEnd _ _ _ _ _ _)
    · refine' TurnEnd.intro (by assumption) (by assumption) (by assumption) (pull_of ?P) ⟨⟨_, rfl⟩, drawnJ_intro ?t ?c ?d⟩
      case P => walk_at "m_takes"
      case t => (refine' hT.put ?b ?h; (case h => assumption); (case b => omega))
      case c => omega
      case d => omega
    · refine' TurnEnd.intro (by assumption) (by assumption) (by assumption) (pull_of ?P) ⟨⟨_, rfl⟩, drawnJ_intro ?t ?c ?d⟩
      case P => walk_at "m_takes"
      case t => exact hT.up
      case c => omega
      case d => omega
  case done =>
    intro kv l h tk hJ
    refine drawnJ_elim (G := fun l => (adrs l).Nodup → Fr g _ h _ → News g _ h l → _) hJ ?_
    intro xx yy ux uy otd tv kvs hT hxx hyy Dn F' N'
    have hdT := hT.1
    k_steps
    obtain ⟨S0, tS0, rfl, hS0⟩ := hSt _ ‹_ ∈ vsS›
    have hpl := place_of ‹_ ∈ [Value.none, Value.int 255 _, Value.int 40 _]›
    have her := err_of ‹_ ∈ [Value.none, Value.str (Str.ofString "refused") _]›
    refine' rets_end hRR hg2 (by assumption) (by assumption) (by assumption) (drawnP_intro hS0 hpl her hT ?lo ?sx ?sy) ?p1
    case p1 => walk_at "m_takes"
    case lo => assumption
    case sx => omega
    case sy => constructor <;> omega
end
end Mine
namespace Mine
open PySem PySem.W PySem.Spec PySem.Calls PyProof.Rows
abbrev seObj (t : Addr) (d : Option Addr) : Obj := { cls := .ref 63, dict := d, data := .fields #[.ref t, .none, .none, .none, .bool false, .none] }
abbrev seBm : List Value := [.ref 38, .type "Exception", .type "BaseException", .type "object"]
theorem ln_Rse_1 : True := by
 k_with_none
 k_with "m_enter" => ((
     case ho => k_is
     case hcd => k_is
     case hbind => first | exact BindsTo.of_eq rfl | exact binds_K (Frag.In.keeps (Base.X (by assumption)) (Has.stays (by assumption))) rfl (by k_is) rfl rfl rfl
     case hloc => exact locs rfl
     case hcell => decide
     case hco => exact rfl
     case hgen => exact rfl
     case hk => exact rfl
     intro RR hRR g L' h₁ A' lo' St hg1 hg2 F N D X T
     (try dsimp only [List.reverse, List.reverseAux, List.length] at *)))
 k_with "m_updn" => (first | exact UpdN.head | (refine' UpdN.tail ?az058; (case az058 => walk_at "m_updn")) | (refine' UpdN.app ?az058; (case az058 => walk_at "m_updn")))
 k_with "m_updg" => (first | exact UpdG.head | (refine' UpdG.tail ?az984; (case az984 => walk_at "m_updg")) | (refine' UpdG.app ?az984; (case az984 => walk_at "m_updg")))
 k_with "k_upd" => (k_dflt (refine' upd_of ?Dz233 ?Uz233; (case Dz233 => assumption); (case Uz233 => walk_at "m_updn")))
 k_with "k_updF" => (k_dflt (refine' updF_of ?Dz235 ?Uz235; (case Dz235 => assumption); (case Uz235 => walk_at "m_updg")))
 k_with "k_mem" => (first | with_reducible exact List.mem_cons_self | (with_reducible exact List.mem_append_left _ (by assumption)) | (with_reducible refine' List.mem_cons_of_mem _ ?mmz799; (case mmz799 => k_mem)) | (with_reducible refine' List.mem_append_right _ ?mmz799; (case mmz799 => k_mem)) | with_reducible assumption)
 k_with "k_handed" => (assumption)
 k_with "k_units" => (first | exact Lo.line (by assumption) | exact Lo.line (Lo.in1 (by assumption)))
 k_with "k_room" => (exact Lo.room (by assumption))
 k_with "execs cons" => (((with_reducible show wpAny _ _ (execs (_ :: _) _) _ _ _); (k_dflt (refine execs_flat (s := s) ?_)); intro tkF))
 trivial
theorem se_cls {P : Params} {h : Heap} (X : (hd.heap_1 P).In h) : ∃ nm q N bs hs sn sub ab col dd k0 k1 k2 k3 k5, h.get? 63 = some (excClassObj nm q 63 N bs seBm hs sn sub ab col dd k0 k1 k2 k3 k5 "Exception.__new__") ∧ hs = true := by
  refine ⟨_, _, _, _, _, _, _, _, _, _, _, _, _, _, _, X 63 _ (by rfl), rfl⟩
theorem se_pass : ∀ self, refuseLoop self "__setattr__" seBm = pure () := fun self => by rw [refuseLoop_ref]; exact PySem.F.store_Exception.passes self
section
variable {w : World} {A : Around} {E : Value → Shared → Prop} {s : Shared} {h₀ : Heap} {L : Addr} {m : Str → Option Value} {news : Led} {e t : Addr} {Q : Unit → Shared → Prop} {v : Value}
theorem se_set (F : Fr h₀ L s.heap m) (X : (hd.heap_1 w.params).In h₀) (he : s.heap.get? e = some (seObj t none))
    (hq : ∀ h' tk' d, (∀ b o', b ≠ e → s.heap.get? b = some o' → h'.get? b = some o') → h'.get? e = some (seObj t (some d)) → Q () { s with heap := h', toks := tk' }) :
    wpAny (model PR w) A (setAttr (.ref e) (Str.ofString "message") v) Q E s := by
  have X' := X.keeps F.keep
  obtain ⟨nm, q, N, bs, hs, sn, sub, ab, col, dd, k0, k1, k2, k3, k5, hC, rfl⟩ := se_cls X'
  obtain ⟨hh, g, d, tk, os⟩ := s
  have la : Looks (model PR w) hh (typeLookup (.ref 63) "__setattr__") (some (.builtin "object.__setattr__")) := looks_findIn X' (by rfl)
  have ln : Looks (model PR w) hh (typeLookup (.ref 63) (Str.ofString "message")) none := looks_findIn X' (by rfl)
  refine ex_store (by rfl) hC la ln se_pass he rfl rfl (fun c q => by cases q) fun h' tk' hk hs => ?_
  exact hq h' tk' _ hk hs
end
section
theorem ln_Rse_2 : True := by
 k_with "setAttr ref" => (((k_dflt (refine se_set (by k_asm) (by k_asm) heL ?_)); intro hE tkE dE hkE hsE))
 trivial
theorem sei_c {w : World} {mean : ExcName → Option Value} {mg mb : Str → Option Value} {hb : Heap} {s : Shared} {A : Around} {e t : Addr} {M : Str} {tM : Tok}
   (B : Base (hd.heap_1 w.params) hd.view_1 LOOSE mean mg mb hb) (lo : Lo 1 A) (H : Has hb s []) (he : s.heap.get? e = some (seObj t none)) :
   codeAny (model PR w) A (.call (.ref 35) ⟨[.ref e, .str M tM], []⟩) (fun r s' => ∃ h' tk' d, r = .ok (.ret .none) ∧ s' = { s with heap := h', toks := tk' } ∧ (∀ b o, b ≠ e → s.heap.get? b = some o → h'.get? b = some o) ∧ h'.get? e = some (seObj t (some d))) s := by
  refine' enter (binds := [(Str.ofString "self", .ref e), (Str.ofString "message", .str M tM)]) B H lo ?ho ?hcd ?hbind ?hloc ?h ?hcell ?hco ?hgen ?hk
  walk_at "m_enter"
  have heL : h₁.get? e = some (seObj t none) := F.keep _ _ (hg2 _ _ he (fun q => nomatch q))
  k_steps
  refine' hRR _ _ ⟨_, _, _, rfl, rfl, fun b o hb e => ?s1, ?s2⟩
  case s2 => assumption
  case s1 => exact hkE _ _ hb (F.keep _ _ (hg2 _ _ e (fun q => nomatch q)))
end
section
variable {w : World} {A : Around} {E : Value → Shared → Prop} {s : Shared} {h₀ : Heap} {L : Addr} {m : Str → Option Value} {news : Led}
/-- what an exception is, just made: all else is kept -/
structure SeMade (h h' : Heap) (e t : Addr) (vs : List Value) : Prop where
  keeps : ∀ b o, h.get? b = some o → h'.get? b = some o
  new : h.get? e = none
  there : ∃ d, h'.get? e = some (seObj t d)
  tnew : h.get? t = none
  tup : h'.TupAt t vs
theorem ln_Rse_3 : True := by
 k_with_none
 k_with "m_enter" => ((
     case ho => k_is
     case hcd => k_is
     case hbind => first | exact BindsTo.of_eq rfl | exact binds_K (Frag.In.keeps (Base.X (by assumption)) (Has.stays (by assumption))) rfl (by k_is) rfl rfl rfl
     case hloc => exact locs rfl
     case hcell => decide
     case hco => exact rfl
     case hgen => exact rfl
     case hk => exact rfl
     intro RR hRR g L' h₁ A' lo' St hg1 hg2 F N D X T
     (try dsimp only [List.reverse, List.reverseAux, List.length] at *)))
 k_with "m_updn" => (first | exact UpdN.head | (refine' UpdN.tail ?az058; (case az058 => walk_at "m_updn")) | (refine' UpdN.app ?az058; (case az058 => walk_at "m_updn")))
 k_with "m_updg" => (first | exact UpdG.head | (refine' UpdG.tail ?az984; (case az984 => walk_at "m_updg")) | (refine' UpdG.app ?az984; (case az984 => walk_at "m_updg")))
 k_with "k_upd" => (k_dflt (refine' upd_of ?Dz233 ?Uz233; (case Dz233 => assumption); (case Uz233 => walk_at "m_updn")))
 k_with "k_updF" => (k_dflt (refine' updF_of ?Dz235 ?Uz235; (case Dz235 => assumption); (case Uz235 => walk_at "m_updg")))
 k_with "k_mem" => (first | with_reducible exact List.mem_cons_self | (with_reducible exact List.mem_append_left _ (by assumption)) | (with_reducible refine' List.mem_cons_of_mem _ ?mmz799; (case mmz799 => k_mem)) | (with_reducible refine' List.mem_append_right _ ?mmz799; (case mmz799 => k_mem)) | with_reducible assumption)
 k_with "k_handed" => (assumption)
 k_with "k_units" => (first | exact Lo.line (by assumption) | exact Lo.line (Lo.in1 (by assumption)))
 k_with "k_room" => (exact Lo.room (by assumption))
 k_with "execs cons" => (((with_reducible show wpAny _ _ (execs (_ :: _) _) _ _ _); (k_dflt (refine execs_flat (s := s) ?_)); intro tkF))
 trivial
theorem make_se {mean : ExcName → Option Value} {mg mb : Str → Option Value} {hb : Heap} {M : Str} {tM : Tok} {Q : Value → Shared → Prop}
   (B : Base (hd.heap_1 w.params) hd.view_1 LOOSE mean mg mb hb) (lo : Lo 2 A) (St : hb.StaysIn h₀) (F : Fr h₀ L s.heap m) (X : (hd.heap_1 w.params).In h₀)
   (k : ∀ e t h' tk', SeMade s.heap h' e t [.str M tM] → Q (.ref e) { s with heap := h', toks := tk' }) : wpAny (model PR w) A (call (.ref 63) [.str M tM]) Q E s := by
  have X' := X.keeps F.keep
  obtain ⟨nm, q, N, bs, hs, sn, sub, ab, col, dd, k0, k1, k2, k3, k5, hC, rfl⟩ := se_cls X'
  obtain ⟨hh, g, d, tk, os⟩ := s
  have li : Looks (model PR w) hh (typeLookup (.ref 63) "__init__") (some (.ref 35)) := looks_findIn X' (by rfl)
  refine ex_call PySem.F.excBase_Exception (by decide +kernel) (by decide +kernel) (by decide +kernel) hC li (X' 35 _ (by rfl)) rfl (fun h' e hm => ?_) (by rw [sizeLine_eq]; exact Nat.le_of_ble_eq_true rfl)
  obtain ⟨t, h1, h2, h3⟩ := hm.there
  have Hs : Has hb ⟨h', g, d, tk, os⟩ [] := ⟨fun _ q => (nomatch q), List.nodup_nil, fun b o q => hm.keeps _ _ (F.keep _ _ (St _ _ q))⟩
  refine wpAny_call (codeAny_mono (sei_c (s := ⟨h', g, d, tk, os⟩) B (Lo.make lo) Hs h1) ?_)
  rintro r s' ⟨h'', tk', d', rfl, rfl, hk, he⟩
  refine ⟨rfl, k e t h'' tk' ⟨fun b o q => hk b o (fun z => ?_) (hm.keeps _ _ q), hm.new, ⟨_, he⟩, h2, ?_⟩⟩
  · rw [z, hm.new] at q; cases q
  · have z : t ≠ e := fun z => by rw [z, h1] at h3; cases h3
    exact ⟨_, _, hk _ _ z h3, rfl, rfl⟩
theorem raise_se {M : Model} {env : Env} {x : Sem Value} {Q : Flow → Shared → Prop} (hh : A.handled = none) {P : Params}
    (h : wpAny M A x (fun v s₁ => ∃ e t d, v = .ref e ∧ (hd.heap_1 P).In s₁.heap ∧ s₁.heap.get? e = some (seObj t d) ∧ E (.ref e) s₁) E s) :
    wpAny M A (raiseStmt env (some x) none) Q E s := by
  unfold raiseStmt
  refine wpAny_bind (wpAny_mono h (fun v s₁ h₁ => ?_) fun _ _ x => x)
  obtain ⟨e, t, dd', rfl, X', he, hE⟩ := h₁
  obtain ⟨nm, q, N, bs, hs, sn, sub, ab, col, dd, k0, k1, k2, k3, k5, hC, rfl⟩ := se_cls X'
  have hcB : (Value.ref 63 :: seBm).contains (.type "BaseException") = true := by decide +kernel
  obtain ⟨hp, g, d, tk, os⟩ := s₁
  repeat (first | with_reducible refine wpAny_loadPart_at he ?_ | with_reducible refine wpAny_loadPart_at hC ?_ | (with_reducible refine wpAny_isSubtype_exc hC ?_; rw [hcB]) | wp_step)
  exact wpAny_raiseNew_none hh hE
end
end Mine
namespace Mine
open PySem PySem.W PySem.Spec PySem.Calls PyProof.Rows
theorem ln_Abx_1 : True := by
 k_with_none
 k_with "m_enter" => ((
     case ho => k_is
     case hcd => k_is
     case hbind => first | exact BindsTo.of_eq rfl | exact binds_K (Frag.In.keeps (Base.X (by assumption)) (Has.stays (by assumption))) rfl (by k_is) rfl rfl rfl
     case hloc => exact locs rfl
     case hcell => decide
     case hco => exact rfl
     case hgen => exact rfl
     case hk => exact rfl
     intro RR hRR g L' h₁ A' lo' St hg1 hg2 F N D X T
     (try dsimp only [List.reverse, List.reverseAux, List.length] at *)))
 k_with "m_takes" => (first
     | exact Takes.nil
     | (refine' Takes.cons ?az047 ?bz047; (case az047 => walk_at "m_pull"); (case bz047 => walk_at "m_takes"))
     | (refine' Takes.app ?az047 ?bz047; (case az047 => walk_at "m_pullL"); (case bz047 => walk_at "m_takes"))
     | (refine' Takes.last ?az047; (case az047 => walk_at "m_pullL")))
 k_with "m_pull" => (first
     | exact Pull.head
     | (refine' Pull.tail ?az350; (case az350 => walk_at "m_pull"))
     | (refine' Pull.app ?az350; (case az350 => walk_at "m_pull")))
 k_with "m_pullL" => (first
     | exact PullL.head
     | exact PullL.whole
     | (refine' PullL.tail ?az531; (case az531 => walk_at "m_pullL"))
     | (refine' PullL.app ?az531; (case az531 => walk_at "m_pullL")))
 k_with "m_ends" => ((case p1 => ((try simp only [tcbLed]); (try simp only [whLed, List.append_assoc, List.cons_append, List.nil_append, List.append_nil]); (walk_at "m_takes"))))
 k_with "m_updn" => (first | exact UpdN.head | (refine' UpdN.tail ?az058; (case az058 => walk_at "m_updn")) | (refine' UpdN.app ?az058; (case az058 => walk_at "m_updn")))
 k_with "m_updg" => (first | exact UpdG.head | (refine' UpdG.tail ?az984; (case az984 => walk_at "m_updg")) | (refine' UpdG.app ?az984; (case az984 => walk_at "m_updg")))
 k_with "k_upd" => (k_dflt (refine' upd_of ?Dz233 ?Uz233; (case Dz233 => assumption); (case Uz233 => walk_at "m_updn")))
 k_with "k_updF" => (k_dflt (refine' updF_of ?Dz235 ?Uz235; (case Dz235 => assumption); (case Uz235 => walk_at "m_updg")))
 k_with "k_mem" => (first | with_reducible exact List.mem_cons_self | (with_reducible exact List.mem_append_left _ (by assumption)) | (with_reducible refine' List.mem_cons_of_mem _ ?mmz799; (case mmz799 => k_mem)) | (with_reducible refine' List.mem_append_right _ ?mmz799; (case mmz799 => k_mem)) | with_reducible assumption)
 k_with "k_handed" => (assumption)
 k_with "k_units" => (first | exact Lo.line (by assumption) | exact Lo.line (Lo.in1 (by assumption)))
 k_with "k_room" => (exact Lo.room (by assumption))
 k_with "execs cons" => (((with_reducible show wpAny _ _ (execs (_ :: _) _) _ _ _); (k_dflt (refine execs_flat (s := s) ?_)); intro tkF))
 trivial
theorem follow_x {w : World} {mean : ExcName → Option Value} {mg mb : Str → Option Value} {hb : Heap} {s : Shared} {A : Around} {tS ta : Tok}
   (B : Base (hd.heap_1 w.params) hd.view_1 LOOSE mean mg mb hb) (lo : Lo 1 A) (H : Has hb s []) :
   codeAny (model PR w) A (.call (.ref 741) ⟨[.str (Str.ofString "closed") tS, .str (Str.ofString "abort") ta], []⟩) (Rets s [] (fun v nf => v = .none ∧ nf = [])) s := by
  refine' enter (binds := [(Str.ofString "state", .str (Str.ofString "closed") tS), (Str.ofString "event", .str (Str.ofString "abort") ta)]) B H lo ?ho ?hcd ?hbind ?hloc ?h ?hcell ?hco ?hgen ?hk
  walk_at "m_enter"
  k_steps
  all_goals (try dsimp only)
  all_goals (refine' rets_end hRR hg2 (by assumption) (by assumption) (by assumption) ⟨rfl, rfl⟩ ?p1; (walk_at "m_ends"))
section
variable {M : Model} {A : Around} {E : Value → Shared → Prop} {s' : Shared} {base g h : Heap} {outer : List Env} {L a e t : Addr} {m : Str → Option Value} {name : Str} {scope : Scope} {cd : Value} {Q : Unit → Shared → Prop} {news : Led} {vs : List Value}
theorem leave_se (K : Below A base outer g) (hx : SeMade h s'.heap e t vs) (F : Fr g L h m) (N : News g L h news)
    (hQ : ∀ h', RaisedS base g outer e (.ref 63) t vs news h' → g.UpToSlots h' → Q () { s' with heap := h' }) (hk : scope.kind = .function) :
    wpAny M (A.deeper (envOf name scope L a cd)) (leaving (envOf name scope L a cd) (.ref e)) Q E s' := by
  have K' := K.push (name := name) (a := a) (cd := cd) F hk
  have hin : ∀ env ∈ (envOf name scope L a cd :: outer), ∀ b, env.frame = some b → b ∈ (envOf name scope L a cd :: outer).filterMap (·.frame) := fun env he b hb => List.mem_filterMap.mpr ⟨env, he, hb⟩
  have st : base.StaysIn (hideAll h ((envOf name scope L a cd :: outer).filterMap (·.frame))) := fun b o q => hideAll_get _ (K'.stays b o q) fun hm => by
    rw [(K'.frames.mem hm).1] at q; cases q
  have sg : ∀ b o, g.get? b = some o → b ∉ outer.filterMap (·.frame) → (hideAll h ((envOf name scope L a cd :: outer).filterMap (·.frame))).get? b = some o := fun b o q nm => hideAll_get _ (F.keep b o q) fun hm => by
    rcases kts_mem hm with z | z
    · rw [z, kts_self F] at q
      cases q
    · exact nm z
  have hl : ∀ q ∈ news, (hideAll h ((envOf name scope L a cd :: outer).filterMap (·.frame))).get? q.1 = some q.2 ∧ g.get? q.1 = none ∧ base.get? q.1 = none := fun q hq => by
    refine ⟨hideAll_get _ (N q hq).1 fun hm => ?_, (N q hq).2.2, fresh_of_stays K.stays (N q hq).2.2⟩
    obtain ⟨env, he, hf⟩ := List.mem_filterMap.mp hm
    rcases List.mem_cons.mp he with rfl | he
    · exact (N q hq).2.1 (Option.some.inj hf).symm
    · obtain ⟨o, ho, _⟩ := (K.frames.mem (List.mem_filterMap.mpr ⟨env, he, hf⟩)).2
      rw [(N q hq).2.2] at ho; cases ho
  obtain ⟨dd, he⟩ := hx.there
  have hid : ∀ b, h.get? b = none → (hideAll h ((envOf name scope L a cd :: outer).filterMap (·.frame))).get? b = none := fun b hb => by
    cases q : (hideAll h ((envOf name scope L a cd :: outer).filterMap (·.frame))).get? b with
    | none => rfl
    | some o => have := of_hideAll _ q; rw [hb] at this; cases this
  refine wpAny_leaving_firstW (a0 := .ref t) K'.stack ((funFrames_hide K'.frames hin).of_keeps fun b o hb _ => ⟨o, hx.keeps b o hb, rfl⟩) rfl he (fun b o hb => hx.keeps b o (of_hideAll _ hb)) (hid _ hx.new) rfl rfl rfl fun h' hL => ?_
  obtain ⟨k1, ⟨_, _, k2⟩, k3, k4⟩ := hL
  have R : RaisedS base g outer e (.ref 63) t vs news h' := ⟨⟨_, st, sg, hl, ⟨k1, hid _ hx.new, k2, k3⟩, hid _ hx.tnew⟩, hx.tup.of_slots k4⟩
  exact hQ h' R (((Heap.UpToSlots.of_keeps F.keep).trans (Heap.UpToSlots.of_keeps hx.keeps)).trans k4)
end
section
variable {prog : Program} {w : World} {A : Around} {s : Shared} {K : Frag} {p : Program} {loose : List Str} {mean : ExcName → Option Value} {mg mb : Str → Option Value} {hb : Heap} {fp : Led}
  {R : Result → Shared → Prop} {name qual : Str} {params : Arguments} {body : List Stmt} {scope : Scope} {dV kV doc pm cdv ct oc : Value} {an od : Option Addr} {osl : Array (Option Value)} {f : Addr} {args : Args} {binds : List (Str × Value)}
theorem below_hide {outer : List Env} {hb h : Heap} (K : Below A hb outer h) (st : hb.StaysIn (hideAll h (adrs fp))) (nf : ∀ b ∈ outer.filterMap (·.frame), b ∉ adrs fp) : Below A hb outer (hideAll h (adrs fp)) := by
  refine ⟨K.stack, st, ?_⟩
  have key : ∀ l : List Env, (∀ b ∈ l.filterMap (·.frame), b ∉ adrs fp) → h.FunFrames hb l → (hideAll h (adrs fp)).FunFrames hb l := by
    intro l
    induction l with
    | nil => intro _ _; trivial
    | cons env r ih =>
      rintro hn ⟨h1, ⟨L, o, hf, hl, ho, hd⟩, h3⟩
      refine ⟨h1, ⟨L, o, hf, hl, hideAll_get _ ho ?_, hd⟩, ih (fun b hb => hn b ?_) h3⟩
      · exact hn L (List.mem_filterMap.mpr ⟨env, List.mem_cons_self, hf⟩)
      · obtain ⟨e', he, hf'⟩ := List.mem_filterMap.mp hb
        exact List.mem_filterMap.mpr ⟨e', List.mem_cons_of_mem _ he, hf'⟩
  exact key outer nf K.frames
end
end Mine
namespace Mine
open PySem PySem.W PySem.Spec PySem.Calls PyProof.Rows
section
variable {prog : Program} {w : World} {A : Around} {s : Shared} {K : Frag} {p : Program} {loose : List Str} {mean : ExcName → Option Value} {mg mb : Str → Option Value} {hb : Heap} {fp : Led}
  {R : Result → Shared → Prop} {name qual : Str} {params : Arguments} {body : List Stmt} {scope : Scope} {dV kV doc pm cdv ct oc : Value} {an od : Option Addr} {osl : Array (Option Value)} {f : Addr} {args : Args} {binds : List (Str × Value)}
/-- what is asked where a def's body raises -/
def OutE (M : Model) (A : Around) (env : Env) (R : Result → Shared → Prop) (e : Value) (s' : Shared) : Prop := wpAny M (A.deeper env) (leaving env e) (fun _ s'' => R (.error e) s'') (fun e' s'' => R (.error e') s'') s'
/-- enter, with the around in the open and a body that may raise -/
theorem ln_Abo_1 : True := by
 k_with_none
 k_with "m_takes" => (first
     | exact Takes.nil
     | (refine' Takes.cons ?az047 ?bz047; (case az047 => walk_at "m_pull"); (case bz047 => walk_at "m_takes"))
     | (refine' Takes.app ?az047 ?bz047; (case az047 => walk_at "m_pullL"); (case bz047 => walk_at "m_takes"))
     | (refine' Takes.last ?az047; (case az047 => walk_at "m_pullL")))
 k_with "m_pull" => (first
     | exact Pull.head
     | (refine' Pull.tail ?az350; (case az350 => walk_at "m_pull"))
     | (refine' Pull.app ?az350; (case az350 => walk_at "m_pull")))
 k_with "m_pullL" => (first
     | exact PullL.head
     | exact PullL.whole
     | (refine' PullL.tail ?az531; (case az531 => walk_at "m_pullL"))
     | (refine' PullL.app ?az531; (case az531 => walk_at "m_pullL")))
 k_with "m_updn" => (first | exact UpdN.head | (refine' UpdN.tail ?az058; (case az058 => walk_at "m_updn")) | (refine' UpdN.app ?az058; (case az058 => walk_at "m_updn")))
 k_with "m_updg" => (first | exact UpdG.head | (refine' UpdG.tail ?az984; (case az984 => walk_at "m_updg")) | (refine' UpdG.app ?az984; (case az984 => walk_at "m_updg")))
 k_with "k_upd" => (k_dflt (refine' upd_of ?Dz233 ?Uz233; (case Dz233 => assumption); (case Uz233 => walk_at "m_updn")))
 k_with "k_updF" => (k_dflt (refine' updF_of ?Dz235 ?Uz235; (case Dz235 => assumption); (case Uz235 => walk_at "m_updg")))
 k_with "k_mem" => (first | with_reducible exact List.mem_cons_self | (with_reducible exact List.mem_append_left _ (by assumption)) | (with_reducible refine' List.mem_cons_of_mem _ ?mmz799; (case mmz799 => k_mem)) | (with_reducible refine' List.mem_append_right _ ?mmz799; (case mmz799 => k_mem)) | with_reducible assumption)
 k_with "getAttr ref" => ((k_dflt (refine' get_own ?k1z343 ?k2z343 ?k3z343 ?k4z343 ?k5z343 ?k6z343 ?k7z343 ?k8z343 ?k9z343 ?_; (case k1z343 => k_asm); (case k2z343 => k_asm); (case k3z343 => k_inst); (case k4z343 => k_is); (case k5z343 => k_is); (case k6z343 => k_is); (case k7z343 => k_is); (case k8z343 => k_get); (case k9z343 => k_handed); k_whole)))
 k_with "k_handed" => (assumption)
 k_with "k_units" => (first | exact Lo.line (by assumption) | exact Lo.line (Lo.in1 (by assumption)))
 k_with "k_room" => (exact Lo.room (by assumption))
 k_with "execs cons" => (((with_reducible show wpAny _ _ (execs (_ :: _) _) _ _ _); (k_dflt (refine execs_flat (s := s) ?_)); intro tkF))
 k_with "getAttr ref" => ((k_dflt (with_reducible refine' tcb_state ?yT ?yF ?yX ?yN ?yh1 ?yh2 ?_; (case yN => k_asm); (case yF => k_asm); (case yX => k_in); (case yh1 => k_mem); (case yh2 => k_mem); (case yT => assumption)); intro tS))
 k_with "getAttr ref" => ((k_dflt ((first | with_reducible refine' tcb_wheel ?Tz082 ?Fz082 ?Xz082 ?Nz082 ?h1z082 ?h2z082 ?_ | with_reducible refine' tcb_error ?Tz082 ?Fz082 ?Xz082 ?Nz082 ?h1z082 ?h2z082 ?_ | with_reducible refine' tcb_acks ?Tz082 ?Fz082 ?Xz082 ?Nz082 ?h1z082 ?h2z082 ?_ | with_reducible refine' tcb_limits ?Tz082 ?Fz082 ?Xz082 ?Nz082 ?h1z082 ?h2z082 ?_ | with_reducible refine' tcb_receiver ?Tz082 ?Fz082 ?Xz082 ?Nz082 ?h1z082 ?h2z082 ?_ | with_reducible refine' tcb_sender ?Tz082 ?Fz082 ?Xz082 ?Nz082 ?h1z082 ?h2z082 ?_ | with_reducible refine' tcb_local ?Tz082 ?Fz082 ?Xz082 ?Nz082 ?h1z082 ?h2z082 ?_ | with_reducible refine' tcb_remote ?Tz082 ?Fz082 ?Xz082 ?Nz082 ?h1z082 ?h2z082 ?_); (case Nz082 => k_asm); (case Fz082 => k_asm); (case Xz082 => k_in); (case h1z082 => k_mem); (case h2z082 => k_mem); (case Tz082 => assumption))))
 k_with "call ref" => (((with_reducible show wpAny _ _ (call (Value.ref 775) [_, _]) _ _ _); (k_dflt (refine' use_call (by assumption) (by assumption) (by assumption) (by assumption) ?P (fun H => cancel_c B (Lo.mono (by assumption) (by decide)) (by assumption) ?hc H) ?_; (case P => walk_at "m_takes"); (case hc => omega))); (try clear DN); (refine elim1 ?_; intro nfN WN hN tkN FN NN DN); (try k_sweep)))
 k_with "call ref" => (((with_reducible show wpAny _ _ (call (Value.ref 761) [_, _, _]) _ _ _); (k_dflt (refine' use_call (by assumption) (by assumption) (by assumption) (by assumption) ?P (fun H => put_c B (Lo.mono (by assumption) (by decide)) (by assumption) ?hc H) ?_; (case P => walk_at "m_takes"); (case hc => omega))); (try clear DN); (refine elim1 ?_; intro nfN WN hN tkN FN NN DN); (try k_sweep)))
 k_with "getAttr ref" => ((k_dflt ((first | with_reducible refine' lim_time_wait ?xT ?xF ?xX ?xN ?xh1 ?xh2 ?_ | with_reducible refine' lim_receive_room ?xT ?xF ?xX ?xN ?xh1 ?xh2 ?_ | with_reducible refine' lim_mss ?xT ?xF ?xX ?xN ?xh1 ?xh2 ?_ | with_reducible refine' lim_ring ?xT ?xF ?xX ?xN ?xh1 ?xh2 ?_ | with_reducible refine' lim_send_room ?xT ?xF ?xX ?xN ?xh1 ?xh2 ?_ | with_reducible refine' lim_ack_delay ?xT ?xF ?xX ?xN ?xh1 ?xh2 ?_ | with_reducible refine' lim_first_timeout ?xT ?xF ?xX ?xN ?xh1 ?xh2 ?_ | with_reducible refine' lim_least_timeout ?xT ?xF ?xX ?xN ?xh1 ?xh2 ?_ | with_reducible refine' lim_most_timeout ?xT ?xF ?xX ?xN ?xh1 ?xh2 ?_ | with_reducible refine' lim_most_tries ?xT ?xF ?xX ?xN ?xh1 ?xh2 ?_ | with_reducible refine' rec_next ?xT ?xF ?xX ?xN ?xh1 ?xh2 ?_); (case xN => k_asm); (case xF => k_asm); (case xX => k_in); (case xh1 => k_mem); (case xh2 => k_mem); (case xT => assumption)); intro tI))
 k_with "getAttr ref" => ((k_dflt ((with_reducible refine' snd_next ?xT ?xF ?xX ?xN ?xh1 ?xh2 ?_); (case xN => k_asm); (case xF => k_asm); (case xX => k_in); (case xh1 => k_mem); (case xh2 => k_mem); (case xT => assumption)); intro tI))
 trivial
theorem enterX {k : Nat} (B : Base K p loose mean mg mb hb) (H : Has hb s fp) (lo : Lo (k + 1) A)
    (ho : K.lookup f = some ⟨oc, od, .func (fnOf name qual params body scope dV kV doc pm an cdv ct), osl⟩) (hcd : codeIn K cdv qual = true)
    (hbind : BindsTo s (fnOf name qual params body scope dV kV doc pm an cdv ct) args binds) (hloc : ∀ y ∈ binds, scope.names.lookup y.1 = some .local)
    (h : ∀ g L' h₁ A', A' = A.deeper (envOf qual scope L' f cdv) → g = hideAll s.heap (adrs fp) → Lo k A' → hb.StaysIn g → (∀ b o, g.get? b = some o → s.heap.get? b = some o) → (∀ b o, s.heap.get? b = some o → b ∉ adrs fp → g.get? b = some o) →
      Fr g L' h₁ (fun y => binds.reverse.lookup y) → News g L' h₁ fp → (adrs fp).Nodup → K.In g → Top p loose mean mg mb g →
      wpAny (model prog w) A' (execs body (envOf qual scope L' f cdv))
        (fun fl s' => R (.ok (.ret (match fl with | .ret v => v | _ => .none))) s') (OutE (model prog w) A (envOf qual scope L' f cdv) R) { s with heap := h₁, toks := s.toks + binds.length })
    (hcell : ∀ x ∈ scope.names, x.2 ≠ .cell) (hco : scope.isCoroutine = false) (hgen : scope.isGenerator = false) (hk : scope.kind = .function) :
    codeAny (model prog w) A (.call (.ref f) args) R s := by
  have hX := B.X.keeps H.stays
  refine codeAny_call_function (fd := fnOf name qual params body scope dV kV doc pm an cdv ct) lo.room (hX _ _ ho) rfl hco hgen rfl (codeRec_of hX hcd) (hbind _ _ _ _ ?_)
  refine wpAny_newFunctionEnv hcell hloc (fun h₀ hns₀ hsb₀ => ⟨(B.T.nolimit.keeps H.stays).fresh _ hsb₀, codeAny_func ?_⟩) hk
  have hk₁ : ∀ b o, s.heap.get? b = some o → h₀.get? b = some o := fun b o e => hsb₀.extBut b o (Nat.ne_of_lt (Heap.lt_size e)) (Heap.get?_push_of_some _ e)
  have st : hb.StaysIn (hideAll s.heap (adrs fp)) := fun b o e => hideAll_get _ (H.stays b o e) fun hm => by
    obtain ⟨q, hq, rfl⟩ := List.mem_map.mp hm
    rw [(H.at_ q hq).2] at e; cases e
  exact h (hideAll s.heap (adrs fp)) s.heap.objs.size h₀ _ rfl rfl lo.deeper st (fun b o e => of_hideAll _ e) (fun b o e hb => hideAll_get _ e hb) ⟨hns₀, fun b o e => hk₁ b o (of_hideAll _ e), Nat.le_of_eq (hideAll_size _ _)⟩
    (fun q hq => ⟨hk₁ _ _ (H.at_ q hq).1, Nat.ne_of_lt (Heap.lt_size (H.at_ q hq).1), hideAll_none _ (List.mem_map_of_mem hq)⟩) H.nd (B.X.keeps st) (B.T.keeps st)
end
section
variable {w : World} {A : Around} {E : Value → Shared → Prop} {s : Shared}
def SePost (P : Params) (E : Value → Shared → Prop) (v : Value) (s₁ : Shared) : Prop := ∃ e t d, v = .ref e ∧ (hd.heap_1 P).In s₁.heap ∧ s₁.heap.get? e = some (seObj t d) ∧ E (.ref e) s₁
theorem exec_raise {M : Model} {env : Env} {x : Expr} {pos : Pos} {Q : Flow → Shared → Prop} {P : Params} (hh : A.handled = none) (h : wpAny M A (eval x env) (SePost P E) E s) :
    wpAny M A (exec (.Raise (some x) none pos) env) Q E s := by
  rw [arm_exec_Raise]
  first
    | exact wpAny_bind (wpAny_standAt (raise_se (P := P) hh (wpAny_bind (wpAny_mono h (fun v s₃ h₃ => wpAny_bind (wpAny_standAt (wpAny_pure h₃))) fun _ _ x => x))))
    | (simp only [evalOpt, Option.map]; exact wpAny_bind (wpAny_standAt (raise_se (P := P) hh (wpAny_bind (wpAny_mono h (fun v s₃ h₃ => wpAny_bind (wpAny_standAt (wpAny_pure h₃))) fun _ _ x => x)))))
end
section
theorem ln_Abo_2 : True := by
 k_with "call ref" => (((k_dflt (show wpAny _ _ (call (Value.ref 741) [_, _]) _ _ _)); (k_dflt (refine' use_call (by assumption) (by assumption) (by assumption) (by assumption) Takes.nil (fun H => follow_x B (Lo.mono (by assumption) (by decide)) H) ?_)); (try clear DN); (refine elim0 ?_; intro hN tkN FN NN DN); (simp only [List.cons_append, List.nil_append] at NN DN); (try k_sweep)))
 k_with "exec Raise" => ((k_dflt (refine exec_raise (P := w.params) (Lo.handled (by assumption)) ?_)))
 k_with "call ref" => (((k_dflt (show wpAny _ _ (call (Value.ref 63) [_]) _ _ _)); (k_dflt (refine' make_se B (Lo.mono (by assumption) (by decide)) (by assumption) ?F (by assumption) ?_; (case F => k_asm))); intro eX tX hX tkX mX; refine stop_of ?_))
 trivial
theorem abort_x {w : World} {mean : ExcName → Option Value} {mg mb : Str → Option Value} {hb : Heap} {s : Shared} {A : Around} {t : Addr} {ev due : Value} {ro : Option Int} {c : Nat} {kvs : List (Int × Int)} {V rest : Led} {outer : List Env} {tn : Tok}
   (B : Base (hd.heap_1 w.params) hd.view_1 LOOSE mean mg mb hb) (lo : Lo 4 A) (W : TcbIs w t (Str.ofString "closed") ev due ro c kvs V) (K : Below A hb outer s.heap) (hnf : ∀ b ∈ outer.filterMap (·.frame), b ∉ adrs (V ++ rest)) (H : Has hb s (V ++ rest)) :
   codeAny (model PR w) A (.call (.ref 891) ⟨[.ref t, .int 7 tn], []⟩) (fun r s' => ∃ e tu vs h' tk', r = .error (.ref e) ∧ s' = { s with heap := h', toks := tk' } ∧
     RaisedS hb (hideAll s.heap (adrs (V ++ rest))) outer e (.ref 63) tu vs (V ++ rest) h' ∧ (hideAll s.heap (adrs (V ++ rest))).UpToSlots h') s := by
  revert H
  revert hnf
  refine TcbIs.elim (G := fun V => (∀ b ∈ outer.filterMap (·.frame), b ∉ adrs (V ++ rest)) → Has hb s (V ++ rest) → codeAny (model PR w) A _ (fun r s' => ∃ e tu vs h' tk', r = .error (.ref e) ∧ s' = { s with heap := h', toks := tk' } ∧
     RaisedS hb (hideAll s.heap (adrs (V ++ rest))) outer e (.ref 63) tu vs (V ++ rest) h' ∧ (hideAll s.heap (adrs (V ++ rest))).UpToSlots h') s) W ?_
  intro dt odt lim dlim odl loc rem v1 v2 tl tr n1 n2 snd dsnd ods ac dac oda RL WL wh rv hT hL hSn hA hR WN hnf H
  dsimp only [tcbLed, List.cons_append] at H hnf ⊢
  refine' enterX (binds := [(Str.ofString "tcb", .ref t), (Str.ofString "now", .int 7 tn)]) B H lo ?ho ?hcd ?hbind ?hloc ?h ?hcell ?hco ?hgen ?hk
  case ho => k_is
  case hcd => k_is
  case hbind => first | exact BindsTo.of_eq rfl | exact binds_K (Frag.In.keeps (Base.X (by assumption)) (Has.stays (by assumption))) rfl (by k_is) rfl rfl rfl
  case hloc => exact locs rfl
  case hcell => decide
  case hco => exact rfl
  case hgen => exact rfl
  case hk => exact rfl
  intro g L' h₁ A' hA' hgE lo' St hg1 hg2 F N D X T
  (try dsimp only [List.reverse, List.reverseAux, List.length] at *)
  k_steps
  unfold Stop
  show SePost _ _ _ _
  obtain ⟨dd, hdd⟩ := mX.there
  subst hgE
  refine ⟨eX, tX, dd, rfl, (X.keeps FN.keep).keeps mX.keeps, hdd, ?_⟩
  exact leave_se (below_hide K St hnf) mX FN NN (fun h' RR U => ⟨eX, tX, _, h', _, rfl, rfl, RR, U⟩) rfl
end
end Mine
namespace Mine
open PySem PySem.W PySem.Spec PySem.Calls PyProof.Rows
theorem ln_MadeC_1 : True := by
 k_with_none
 k_with "m_enter" => ((
     case ho => k_is
     case hcd => k_is
     case hbind => first | exact BindsTo.of_eq rfl | exact binds_K (Frag.In.keeps (Base.X (by assumption)) (Has.stays (by assumption))) rfl (by k_is) rfl rfl rfl
     case hloc => exact locs rfl
     case hcell => decide
     case hco => exact rfl
     case hgen => exact rfl
     case hk => exact rfl
     intro RR hRR g L' h₁ A' lo' St hg1 hg2 F N D X T
     (try dsimp only [List.reverse, List.reverseAux, List.length] at *)))
 k_with "m_takes" => (first
     | exact Takes.nil
     | (refine' Takes.cons ?az047 ?bz047; (case az047 => walk_at "m_pull"); (case bz047 => walk_at "m_takes"))
     | (refine' Takes.app ?az047 ?bz047; (case az047 => walk_at "m_pullL"); (case bz047 => walk_at "m_takes"))
     | (refine' Takes.last ?az047; (case az047 => walk_at "m_pullL")))
 k_with "m_pull" => (first
     | exact Pull.head
     | (refine' Pull.tail ?az350; (case az350 => walk_at "m_pull"))
     | (refine' Pull.app ?az350; (case az350 => walk_at "m_pull")))
 k_with "m_pullL" => (first
     | exact PullL.head
     | exact PullL.whole
     | (refine' PullL.tail ?az531; (case az531 => walk_at "m_pullL"))
     | (refine' PullL.app ?az531; (case az531 => walk_at "m_pullL")))
 k_with "m_ends" => ((case p1 => ((try simp only [tcbLed]); (try simp only [whLed, List.append_assoc, List.cons_append, List.nil_append, List.append_nil]); (walk_at "m_takes"))))
 k_with "m_updn" => (first | exact UpdN.head | (refine' UpdN.tail ?az058; (case az058 => walk_at "m_updn")) | (refine' UpdN.app ?az058; (case az058 => walk_at "m_updn")))
 k_with "m_updg" => (first | exact UpdG.head | (refine' UpdG.tail ?az984; (case az984 => walk_at "m_updg")) | (refine' UpdG.app ?az984; (case az984 => walk_at "m_updg")))
 k_with "k_upd" => (k_dflt (refine' upd_of ?Dz233 ?Uz233; (case Dz233 => assumption); (case Uz233 => walk_at "m_updn")))
 k_with "k_updF" => (k_dflt (refine' updF_of ?Dz235 ?Uz235; (case Dz235 => assumption); (case Uz235 => walk_at "m_updg")))
 k_with "k_mem" => (first | with_reducible exact List.mem_cons_self | (with_reducible exact List.mem_append_left _ (by assumption)) | (with_reducible refine' List.mem_cons_of_mem _ ?mmz799; (case mmz799 => k_mem)) | (with_reducible refine' List.mem_append_right _ ?mmz799; (case mmz799 => k_mem)) | with_reducible assumption)
 k_with "getMethod ref" => ((k_dflt (refine' method_inst ?k1z510 ?k2z510 ?k3z510 ?k4z510 ?k5z510 ?k6z510 ?k7z510 ?_; (case k1z510 => k_asm); (case k2z510 => k_asm); (case k3z510 => k_inst); (case k4z510 => k_is); (case k5z510 => k_is); (case k6z510 => k_is); (case k7z510 => k_get); k_whole)))
 k_with "getAttr ref" => ((k_dflt (refine' get_own ?k1z343 ?k2z343 ?k3z343 ?k4z343 ?k5z343 ?k6z343 ?k7z343 ?k8z343 ?k9z343 ?_; (case k1z343 => k_asm); (case k2z343 => k_asm); (case k3z343 => k_inst); (case k4z343 => k_is); (case k5z343 => k_is); (case k6z343 => k_is); (case k7z343 => k_is); (case k8z343 => k_get); (case k9z343 => k_handed); k_whole)))
 k_with "k_handed" => (assumption)
 k_with "k_units" => (first | exact Lo.line (by assumption) | exact Lo.line (Lo.in1 (by assumption)))
 k_with "k_room" => (exact Lo.room (by assumption))
 k_with "assign Tuple" => (((with_reducible show wpAny _ _ (assign (Expr.Tuple _ _ _) _ (Value.ref _)) _ _ _); k_dflt (refine' unpackN_ ?F ?N ?T ?k1 ?k2 ?k3 ?_; (case F => k_asm); (case N => k_asm); (case T => (refine News.isTup (by k_asm) (by k_mem))); (case k1 => exact Lo.handled (by assumption)); (case k2 => exact rfl); (case k3 => exact rfl)); intro h' F' N'; (try k_sweep)))
 k_with "pyIter ref" => (((with_reducible show wpAny _ _ (pyIter (Value.ref _)) (fun it s₂ => LoopAtV _ _ _ _ _ _ _ _ _ it s₂) _ _); (k_dflt (first
     | (refine' unr_tuple ?hhz581 ?Fz581 ?Nz581 ?Dz581 ?mz581 ?_; (case Fz581 => k_asm); (case Nz581 => k_asm); (case mz581 => k_mem); (case hhz581 => exact Lo.handled (by assumption)); (case Dz581 => k_asm))
     | (refine' unr_list ?hhz581 ?Fz581 ?Nz581 ?Dz581 ?mz581 ?_; (case Fz581 => k_asm); (case Nz581 => k_asm); (case mz581 => k_mem); (case hhz581 => exact Lo.handled (by assumption)); (case Dz581 => k_asm))))))
 k_with "MTurnPost" => ((k_dflt ((show TurnEnd _ _ _ _ _ _); (refine' TurnEnd.intro (by assumption) (by assumption) (by assumption) ?Pz235 ⟨?mz235, ?_⟩; (case Pz235 => walk_at "m_pull"); (case mz235 => k_mem)))))
 k_with "m_dictTail" => ((k_dflt (refine' kdt_tail (knd := PySem.intKind _ _) ?Nz296 ?mz296 ?dz296 ?_ ?hsz296; (case Nz296 => k_asm); (case mz296 => k_mem); (case dz296 => assumption); (case hsz296 => with_unfolding_all rfl))))
 k_with "execs cons" => (((with_reducible show wpAny _ _ (execs (_ :: _) _) _ _ _); (k_dflt (refine execs_flat (s := s) ?_)); intro tkF))
 k_with "getAttr ref" => ((k_dflt (with_reducible refine' tcb_state ?yT ?yF ?yX ?yN ?yh1 ?yh2 ?_; (case yN => k_asm); (case yF => k_asm); (case yX => k_in); (case yh1 => k_mem); (case yh2 => k_mem); (case yT => assumption)); intro tS))
 k_with "getAttr ref" => ((k_dflt ((first | with_reducible refine' tcb_wheel ?Tz082 ?Fz082 ?Xz082 ?Nz082 ?h1z082 ?h2z082 ?_ | with_reducible refine' tcb_error ?Tz082 ?Fz082 ?Xz082 ?Nz082 ?h1z082 ?h2z082 ?_ | with_reducible refine' tcb_acks ?Tz082 ?Fz082 ?Xz082 ?Nz082 ?h1z082 ?h2z082 ?_ | with_reducible refine' tcb_limits ?Tz082 ?Fz082 ?Xz082 ?Nz082 ?h1z082 ?h2z082 ?_ | with_reducible refine' tcb_receiver ?Tz082 ?Fz082 ?Xz082 ?Nz082 ?h1z082 ?h2z082 ?_ | with_reducible refine' tcb_sender ?Tz082 ?Fz082 ?Xz082 ?Nz082 ?h1z082 ?h2z082 ?_ | with_reducible refine' tcb_local ?Tz082 ?Fz082 ?Xz082 ?Nz082 ?h1z082 ?h2z082 ?_ | with_reducible refine' tcb_remote ?Tz082 ?Fz082 ?Xz082 ?Nz082 ?h1z082 ?h2z082 ?_); (case Nz082 => k_asm); (case Fz082 => k_asm); (case Xz082 => k_in); (case h1z082 => k_mem); (case h2z082 => k_mem); (case Tz082 => assumption))))
 k_with "getMethod ref" => ((k_dflt ((first | with_reducible refine' wh_cancel ?Wz724 ?Fz724 ?Xz724 ?Nz724 ?Pz724 ?_ | with_reducible refine' wh_put ?Wz724 ?Fz724 ?Xz724 ?Nz724 ?Pz724 ?_ | with_reducible refine' wh_next_time ?Wz724 ?Fz724 ?Xz724 ?Nz724 ?Pz724 ?_ | with_reducible refine' wh_time_of ?Wz724 ?Fz724 ?Xz724 ?Nz724 ?Pz724 ?_); (case Nz724 => k_asm); (case Fz724 => k_asm); (case Xz724 => k_in); (case Wz724 => assumption); (case Pz724 => walk_at "m_pullL"))))
 k_with "setAttr ref" => ((k_dflt ((first | with_reducible refine' tcb_set_state ?zT ?zF ?zX ?zN ?zD ?zh1 ?zU ?_ | with_reducible refine' tcb_set_error rfl ?zT ?zF ?zX ?zN ?zD ?zh1 ?zU ?_ | with_reducible refine' tcb_set_error hev ?zT ?zF ?zX ?zN ?zD ?zh1 ?zU ?_ | with_reducible refine' tcb_set_receiver rfl ?zT ?zF ?zX ?zN ?zD ?zh1 ?zU ?_); (case zN => k_asm); (case zF => k_asm); (case zX => k_in); (case zD => k_asm); (case zh1 => k_mem); (case zU => walk_at "m_updg"); (case zT => assumption)); intro h' o' hT F' N' Dn; (try dsimp only at N' Dn); (try k_sweep)))
 k_with "call ref" => (((with_reducible show wpAny _ _ (call (Value.ref 775) [_, _]) _ _ _); (k_dflt (refine' use_call (by assumption) (by assumption) (by assumption) (by assumption) ?P (fun H => cancel_c B (Lo.mono (by assumption) (by decide)) (by assumption) ?hc H) ?_; (case P => walk_at "m_takes"); (case hc => omega))); (try clear DN); (refine elim1 ?_; intro nfN WN hN tkN FN NN DN); (try k_sweep)))
 k_with "call ref" => (((with_reducible show wpAny _ _ (call (Value.ref 761) [_, _, _]) _ _ _); (k_dflt (refine' use_call (by assumption) (by assumption) (by assumption) (by assumption) ?P (fun H => put_c B (Lo.mono (by assumption) (by decide)) (by assumption) ?hc H) ?_; (case P => walk_at "m_takes"); (case hc => omega))); (try clear DN); (refine elim1 ?_; intro nfN WN hN tkN FN NN DN); (try k_sweep)))
 k_with "getAttr ref" => ((k_dflt ((first | with_reducible refine' lim_time_wait ?xT ?xF ?xX ?xN ?xh1 ?xh2 ?_ | with_reducible refine' lim_receive_room ?xT ?xF ?xX ?xN ?xh1 ?xh2 ?_ | with_reducible refine' lim_mss ?xT ?xF ?xX ?xN ?xh1 ?xh2 ?_ | with_reducible refine' lim_ring ?xT ?xF ?xX ?xN ?xh1 ?xh2 ?_ | with_reducible refine' lim_send_room ?xT ?xF ?xX ?xN ?xh1 ?xh2 ?_ | with_reducible refine' lim_ack_delay ?xT ?xF ?xX ?xN ?xh1 ?xh2 ?_ | with_reducible refine' lim_first_timeout ?xT ?xF ?xX ?xN ?xh1 ?xh2 ?_ | with_reducible refine' lim_least_timeout ?xT ?xF ?xX ?xN ?xh1 ?xh2 ?_ | with_reducible refine' lim_most_timeout ?xT ?xF ?xX ?xN ?xh1 ?xh2 ?_ | with_reducible refine' lim_most_tries ?xT ?xF ?xX ?xN ?xh1 ?xh2 ?_ | with_reducible refine' rec_next ?xT ?xF ?xX ?xN ?xh1 ?xh2 ?_); (case xN => k_asm); (case xF => k_asm); (case xX => k_in); (case xh1 => k_mem); (case xh2 => k_mem); (case xT => assumption)); intro tI))
 k_with "getMethod ref" => ((k_dflt ((first | with_reducible refine' ack_on_sent ?xT ?xF ?xX ?xN ?xh1 ?xh2 ?_ | with_reducible refine' ack_due_time ?xT ?xF ?xX ?xN ?xh1 ?xh2 ?_ | with_reducible refine' ack_on_octets ?xT ?xF ?xX ?xN ?xh1 ?xh2 ?_ | with_reducible refine' rec_window ?xT ?xF ?xX ?xN ?xh1 ?xh2 ?_ | with_reducible refine' tcb_make ?xT ?xF ?xX ?xN ?xh1 ?xh2 ?_ | with_reducible refine' tcb_window_now ?xT ?xF ?xX ?xN ?xh1 ?xh2 ?_); (case xN => k_asm); (case xF => k_asm); (case xX => k_in); (case xh1 => k_mem); (case xh2 => k_mem); (case xT => first | assumption | exact AckNew.obj (by assumption)))))
 k_with "getAttr ref" => ((k_dflt ((with_reducible refine' snd_next ?xT ?xF ?xX ?xN ?xh1 ?xh2 ?_); (case xN => k_asm); (case xF => k_asm); (case xX => k_in); (case xh1 => k_mem); (case xh2 => k_mem); (case xT => assumption)); intro tI))
 k_with "call ref" => (((with_reducible show wpAny _ _ (call (Value.ref 118) [_]) _ _ _); (k_dflt (refine' make_use (by assumption) (by assumption) (by assumption) (by assumption) (by assumption) Takes.nil ?hm ?hi ?hf (fun x dx s' H => ackI B (Lo.make (Lo.mono (by assumption) (by decide))) H) ?_; (case hm => k_is); (case hi => k_is); (case hf => k_is))); (try clear DN); (rintro xN dN nfN ⟨t0, t1, t2, t3, t4, rfl⟩ hN tkN FN NN DN); (dsimp only [List.cons_append, List.nil_append] at NN DN); (try k_sweep)))
 k_with "call ref" => (((with_reducible show wpAny _ _ (call (Value.ref 202) [_, _, _]) _ _ _); (k_dflt (refine' make_use (by assumption) (by assumption) (by assumption) (by assumption) (by assumption) Takes.nil ?hm ?hi ?hf (fun x dx s' H => congI B (Lo.make (Lo.mono (by assumption) (by decide))) H) ?_; (case hm => k_is); (case hi => k_is); (case hf => k_is))); (try clear DN); (intro xN dN nfN hJ hN tkN FN NN DN); clear hJ; (replace NN := news_drop NN); (replace DN := nd_drop DN); (try dsimp only [List.cons_append, List.nil_append] at NN DN); (try k_sweep)))
 k_with "call ref" => (((with_reducible show wpAny _ _ (call (Value.ref 370) [_, _, _]) _ _ _); (k_dflt (refine' make_use (by assumption) (by assumption) (by assumption) (by assumption) (by assumption) Takes.nil ?hm ?hi ?hf (fun x dx s' H => rttI B (Lo.make (Lo.mono (by assumption) (by decide))) H) ?_; (case hm => k_is); (case hi => k_is); (case hf => k_is))); (try clear DN); (intro xN dN nfN hJ hN tkN FN NN DN); clear hJ; (replace NN := news_drop NN); (replace DN := nd_drop DN); (try dsimp only [List.cons_append, List.nil_append] at NN DN); (try k_sweep)))
 k_with "call ref" => (((with_reducible show wpAny _ _ (call (Value.ref 314) [_, _]) _ _ _); (k_dflt (refine' make_use (by assumption) (by assumption) (by assumption) (by assumption) (by assumption) Takes.nil ?hm ?hi ?hf (fun x dx s' H => clockI B (Lo.make (Lo.mono (by assumption) (by decide))) H) ?_; (case hm => k_is); (case hi => k_is); (case hf => k_is))); (try clear DN); (intro xN dN nfN hJ hN tkN FN NN DN); clear hJ; (replace NN := news_drop NN); (replace DN := nd_drop DN); (try dsimp only [List.cons_append, List.nil_append] at NN DN); (try k_sweep)))
 k_with "call ref" => (((with_reducible show wpAny _ _ (call (Value.ref 461) [_]) _ _ _); (k_dflt (refine' make_use (by assumption) (by assumption) (by assumption) (by assumption) (by assumption) Takes.nil ?hm ?hi ?hf (fun x dx s' H => peerI B (Lo.make (Lo.mono (by assumption) (by decide))) H) ?_; (case hm => k_is); (case hi => k_is); (case hf => k_is))); (try clear DN); (intro xN dN nfN hJ hN tkN FN NN DN); clear hJ; (replace NN := news_drop NN); (replace DN := nd_drop DN); (try dsimp only [List.cons_append, List.nil_append] at NN DN); (try k_sweep)))
 k_with "call ref" => (((with_reducible show wpAny _ _ (call (Value.ref 426) [_]) _ _ _); (k_dflt (refine' make_use (by assumption) (by assumption) (by assumption) (by assumption) (by assumption) Takes.nil ?hm ?hi ?hf (fun x dx s' H => queueI B (Lo.make (Lo.mono (by assumption) (by decide))) H) ?_; (case hm => k_is); (case hi => k_is); (case hf => k_is))); (try clear DN); (intro xN dN nfN hJ hN tkN FN NN DN); clear hJ; (replace NN := news_drop NN); (replace DN := nd_drop DN); (try dsimp only [List.cons_append, List.nil_append] at NN DN); (try k_sweep)))
 k_with "call ref" => (((with_reducible show wpAny _ _ (call (Value.ref 823) [_, _, _, _, _, _, _, _, _, _]) _ _ _); (k_dflt (refine' make_use (by assumption) (by assumption) (by assumption) (by assumption) (by assumption) Takes.nil ?hm ?hi ?hf (fun x dx s' H => limI B (Lo.make (Lo.mono (by assumption) (by decide))) H) ?_; (case hm => k_is); (case hi => k_is); (case hf => k_is))); (try clear DN); (rintro xN dN nfN ⟨t0, t1, t2, t3, t4, t5, t6, t7, t8, t9, rfl⟩ hN tkN FN NN DN); (dsimp only [List.cons_append, List.nil_append] at NN DN); (try k_sweep)))
 k_with "call ref" => (((with_reducible show wpAny _ _ (call (Value.ref 702) [_, _, _, _, _, _, _, _, _]) _ _ _); (k_dflt (refine' make_use (by assumption) (by assumption) (by assumption) (by assumption) (by assumption) Takes.nil ?hm ?hi ?hf (fun x dx s' H => segI B (Lo.make (Lo.mono (by assumption) (by decide))) H) ?_; (case hm => k_is); (case hi => k_is); (case hf => k_is))); (try clear DN); (rintro xN dN nfN ⟨t0, t1, t2, t3, t4, t5, t6, t7, t8, rfl⟩ hN tkN FN NN DN); (dsimp only [List.cons_append, List.nil_append] at NN DN); (try k_sweep)))
 k_with "wpP" => (first | (with_reducible refine wpP_execs_step ?_) | ((with_reducible show wpP _ _ (execs [] _) _ _ _); refine wpP_of ?_))
 k_with "RestP" => ((k_dflt (first | show wpP _ _ _ _ _ _ | show RR _ _)))
 k_with "keeperOf" => ((k_dflt (first | refine keep_type ?_ | (refine' keep_fnB ?Xz322 ?ez322 ?_; (case Xz322 => k_in); (case ez322 => exact rfl)) | (refine' keep_fn ?Xz322 ?ez322 ?_; (case Xz322 => k_in); (case ez322 => k_is)) | (refine' keep_cls ?Xz322 ?mz322 ?_; (case Xz322 => k_in); (case mz322 => k_is)))))
 k_with "call ref" => (((with_reducible show wpAny _ _ (call (Value.ref 866) [_, _, _, _]) _ _ _); (k_dflt (refine' make_tcb B (Lo.mono (by assumption) (by decide)) (by assumption) (by assumption) (by assumption) (by assumption) (by assumption) ?P ?W ?_; (case P => walk_at "m_takes"); (case W => assumption))); (try clear DN); (refine new_elim ?_; intro tT dt odt lim dlim odl loc rem v1 v2 tl tr n1 n2 snd dsnd ods ac dac oda WL wh hT hL hSn hA0 WN hN tkN FN NN DN); (dsimp only [tcbLed, List.cons_append, List.nil_append] at NN DN); (try k_sweep)))
 k_with "call ref" => (((k_dflt (show wpAny _ _ (call (Value.ref 87) [_, _, _]) _ _ _)); (k_dflt (refine' use_call (by assumption) (by assumption) (by assumption) (by assumption) ?P (fun H => octets_d B (Lo.mono (by assumption) (by decide)) (by assumption) H) ?_; (case P => walk_at "m_takes"))); (try clear DN); (refine oct_elim ?_; intro oA tA SA tSA hA hN tkN FN NN DN); (simp only [List.cons_append, List.nil_append] at NN DN); (try k_sweep)))
 k_with "call builtin:sorted" => ((k_dflt (refine' sorted_dictI (Lo.handled (by assumption)) ?F ?N ?D ?m hTm.1 hlo (Ints2.keys_nodup hTm.2.1 hTm.2.2.2.2) ?l ?_; (case F => k_asm); (case N => k_asm); (case D => k_asm); (case m => k_mem); (case l => (have q1 := hTm.2.1.length; have q2 := hTm.2.2.2.1; omega))); intro D' vsK cK h' tkK F' N' Dn hIK; (try k_sweep)))
 k_with "pyIter ref" => ((refine stop_of ?_))
 k_with "subscriptTail Name Name ref int" => ((walk_at "m_dictTail"))
 k_with "getItem ref int" => ((k_dflt (refine dict_item (knd := PySem.intKind _ _) (by k_asm) (by k_mem) (by k_asm) (intKind_is _ _ _ _) (by assumption) ?_)))
 k_with "MTurnPost" => ((refine stop_of ?_))
 k_with "call ref" => (((with_reducible show wpAny _ _ (call (Value.ref 823) [_, _, _, _, _, _, _, _, _, _]) _ _ _); (k_dflt (refine' make_use (by assumption) (by assumption) (by assumption) (by assumption) (by assumption) Takes.nil ?hm ?hi ?hf (fun x dx s' H => limI B (Lo.make (Lo.mono (by assumption) (by decide))) H) ?_; (case hm => k_is); (case hi => k_is); (case hf => k_is))); (try clear DN); (refine lim_elim ?_; intro xN dN oN hLo hN tkN FN NN DN); (dsimp only [List.cons_append, List.nil_append] at NN DN); (try k_sweep)))
 k_with "wpP" => (((with_reducible show wpP _ _ (execs (Stmt.If (Expr.Compare _ _ _ _) _ _ _ :: _) _) _ _ _); (with_reducible refine wpP_execs_own (wpP_If (wpP_of ?_)))))
 k_with "wpP" => (((with_reducible show wpP _ _ (execs (Stmt.Assign [Expr.Attribute _ _ _] _ _ :: _) _) _ _ _); (with_reducible refine wpP_execs_own (wpP_Assign_Attribute (wpP_named ?_ ?hez066) ?hsz066)); (case hez066 => with_unfolding_all rfl); (case hsz066 => with_unfolding_all rfl)))
 k_with "wpP" => (((with_reducible show wpP _ _ (call (Value.ref 1117) [_, _, _, _]) _ _ _); (k_dflt (refine' makeP_use (by assumption) (by assumption) (by assumption) (by assumption) (by assumption) Takes.nil ?hm ?hi ?hf (φ := fun x dx nf => RecIs w (.ref x) (some nx) nf) (fun x dx s' H => recI B (Lo.make (Lo.mono (by assumption) (by decide))) hpl H) ?_; (case hm => k_is); (case hi => k_is); (case hf => k_is))); (try clear DN); (intro xR dR nfR hR hN tkN FN NN DN); (replace NN := news_swap NN); (replace DN := nd_swap DN); (simp only [List.append_assoc, List.cons_append, List.nil_append] at NN DN); (try k_sweep)))
 trivial
theorem octets_d {w : World} {mean : ExcName → Option Value} {mg mb : Str → Option Value} {hb : Heap} {s : Shared} {A : Around} {ac dac : Addr} {oda : Obj} {tn : Tok}
   (B : Base (hd.heap_1 w.params) hd.view_1 LOOSE mean mg mb hb) (lo : Lo 2 A) (W : AckNew w oda) (H : Has hb s [(ac, instObj 118 dac), (dac, oda)]) :
   codeAny (model PR w) A (.call (.ref 87) ⟨[.ref ac, .bool true, .int 1 tn], []⟩) (Rets s [(ac, instObj 118 dac), (dac, oda)]
     (fun v nf => ∃ o t S tS, v = .str S tS ∧ AckObj w (.int 3 t) o ∧ nf = [(ac, instObj 118 dac), (dac, o)])) s := by
  obtain ⟨k0, k1, k2, k3, t0, t1, rfl⟩ := W
  refine' enter (binds := [(Str.ofString "self", .ref ac), (Str.ofString "in_order", .bool true), (Str.ofString "now", .int 1 tn), (Str.ofString "has_holes", .bool false)]) B H lo ?ho ?hcd ?hbind ?hloc ?h ?hcell ?hco ?hgen ?hk
  walk_at "m_enter"
  k_steps
  all_goals (try dsimp only)
  refine' rets_end hRR hg2 (by assumption) (by assumption) (by assumption) ⟨_, _, _, _, rfl, ⟨_, _, _, _, _, _, 1, _, rfl, by decide, rfl⟩, rfl⟩ ?p1
  walk_at "m_ends"
theorem oct_elim {w : World} {ac dac : Addr} {P : Value → Led → Prop} (h : ∀ o t S tS, AckObj w (.int 3 t) o → P (.str S tS) [(ac, instObj 118 dac), (dac, o)]) : ∀ v nf, (∃ o t S tS, v = .str S tS ∧ AckObj w (.int 3 t) o ∧ nf = [(ac, instObj 118 dac), (dac, o)]) → P v nf := by
  rintro v nf ⟨o, t, S, tS, rfl, ho, rfl⟩
  exact h o t S tS ho
theorem lim_elim {w : World} {t0 t1 t2 t3 t4 t5 t6 t7 t8 t9 : Tok} {P : Addr → Addr → Led → Prop} (h : ∀ x dx o, LimObj w o → P x dx [(x, instObj 823 dx), (dx, o)]) :
    ∀ x dx nf, limIP w (.int 256 t0) (.int 4 t1) (.int 16 t2) (.int 16 t3) (.int 6 t4) (.int 4 t5) (.int 24 t6) (.int 3 t7) (.int 2 t8) (.int 12 t9) x dx nf → P x dx nf := by
  rintro x dx nf ⟨k0, k1, k2, k3, k4, k5, k6, k7, k8, k9, rfl⟩
  exact h x dx _ LimObj.intro
theorem take_snoc {kvs : List (Int × Int)} {i : Nat} {k τ : Int} (h : (kvs.map Prod.fst).Pairwise (· < ·)) (e : kvs[i]? = some (k, τ)) : less (kvs.take i) k ++ [(k, τ)] = kvs.take (i + 1) := by
  have e2 : kvs.take (i + 1) = kvs.take i ++ [(k, τ)] := by rw [List.take_add_one, e]; rfl
  rw [e2]
  congr 1
  unfold less
  rw [List.filter_eq_self]
  intro p hp
  have hlt : i < kvs.length := by
    rcases Nat.lt_or_ge i kvs.length with h | h
    · exact h
    · rw [List.getElem?_eq_none h] at e; cases e
  obtain ⟨j, hj, e3⟩ := List.mem_iff_getElem.mp hp
  have hj' : j < i := by rw [List.length_take] at hj; omega
  have e4 : kvs[j]'(by omega) = p := by rw [← e3, List.getElem_take]
  have := List.pairwise_iff_getElem.mp h j i (by rw [List.length_map]; omega) (by rw [List.length_map]; omega) hj'
  rw [List.getElem_map, List.getElem_map, e4] at this
  have e5 : kvs[i] = (k, τ) := by rw [List.getElem?_eq_getElem hlt] at e; exact Option.some.inj e
  rw [e5] at this
  have := Int.ne_of_lt this
  simpa using this
theorem Ints2.keys_nodup {tv : List (Int × Value)} {kvs : List (Int × Int)} (h : Ints2 tv kvs) (hp : (kvs.map Prod.fst).Pairwise (· < ·)) : (tv.map (·.1)).Pairwise (· < ·) := by
  rw [h.map]; exact hp
section
variable {w : World} {A : Around} {E : Value → Shared → Prop} {s : Shared} {env : Env} {h₀ : Heap} {x : Str} {body : List Stmt} {Q : Flow → Shared → Prop}
theorem put_loop {l0 wh : Addr} {vs : List Value} {nn : Nat} {led rest WL : Led} {m₀ : Str → Option Value} {tv : List (Int × Value)} {kvs : List (Int × Int)} {otd : Obj} (hh : A.handled = none) (F : Fr h₀ env.locals s.heap m₀)
    (N : News h₀ env.locals s.heap led) (D : (adrs led).Nodup) (P : PullL WL led rest) (hg : (l0, listOf (List.toArray vs) nn) ∈ rest) (W0 : WhIs w wh 0 [] WL) (hI : IntsAre vs (tv.map (·.1))) (hT : Times 4 w otd tv kvs)
    (turn : ∀ i k τ tk t WL' I oI h tk', i < 4 → kvs[i]? = some (k, τ) → valueAt tv k = some (.int τ t) → WhIs w wh i (kvs.take i) WL' → (adrs ((I, oI) :: (WL' ++ rest))).Nodup → Fr h₀ env.locals h (fun y => if y = x then some (.int k tk) else m₀ y) → News h₀ env.locals h ((I, oI) :: (WL' ++ rest)) →
      wpAny (model PR w) A (execs body env) (MTurnPost h₀ env.locals { s with heap := h, toks := tk' } (I, oI) (fun m' l' => (∃ kv, m' = fun y => if y = x then kv else m₀ y) ∧ ∃ WL'', l' = WL'' ++ rest ∧ WhIs w wh (i + 1) (less (kvs.take i) k ++ [(k, τ)]) WL'') Q) E { s with heap := h, toks := tk' })
    (done : ∀ kv WL' h tk, WhIs w wh kvs.length kvs WL' → (adrs (WL' ++ rest)).Nodup → Fr h₀ env.locals h (fun y => if y = x then kv else m₀ y) → News h₀ env.locals h (WL' ++ rest) → Q .next { s with heap := h, toks := tk }) :
    wpAny (model PR w) A (pyIter (.ref l0)) (fun it s₂ => LoopAtV PR w A h₀ env x body Q E it s₂) E s := by
  have hlv : vs.length = kvs.length := by rw [hI.length, List.length_map, hT.2.1.length]
  refine for_listK (a := l0) (vs := vs) (nn := nn) (fun i l => ∃ WL', l = WL' ++ rest ∧ WhIs w wh i (kvs.take i) WL') hh F (news := WL ++ rest) (fun q hq => N q (P.mem_iff.mpr hq)) ((List.Perm.nodup_iff (P.map _)).mp D) (fun i l h => by obtain ⟨WL', rfl, _⟩ := h; exact List.mem_append_right _ hg) ⟨WL, rfl, by simpa using W0⟩ ?_ ?_
  · rintro i v l I oI h tk' hv ⟨WL', rfl, hW⟩ hD F' N'
    obtain ⟨k, t, rfl, hk⟩ := hI.at i v hv
    rw [List.getElem?_map] at hk
    obtain ⟨p, hp, hpk⟩ := Option.map_eq_some_iff.mp hk
    obtain ⟨k', y⟩ := p
    have : k' = k := hpk
    subst this
    obtain ⟨τ, t', rfl, e⟩ := hT.2.1.at hp
    have hi : i < kvs.length := by
      rcases Nat.lt_or_ge i kvs.length with h | h
      · exact h
      · rw [List.getElem?_eq_none h] at e; cases e
    have hva := valueAt_at (keysNodup_of_isDictOf hT.1) hp
    have h4 := hT.2.2.2.1
    refine wpAny_mono (turn i k' τ t t' WL' I oI h tk' (by omega) e hva hW hD F' N') (fun f s₂ z => ?_) fun _ _ e => e
    have key : ∀ s₃, TurnEnd h₀ env.locals { s with heap := h, toks := tk' } (I, oI) (fun m' l' => (∃ kv, m' = fun y => if y = x then kv else m₀ y) ∧ ∃ WL'', l' = WL'' ++ rest ∧ WhIs w wh (i + 1) (less (kvs.take i) k' ++ [(k', τ)]) WL'') s₃ →
       TurnEnd h₀ env.locals { s with heap := h, toks := tk' } (I, oI) (fun m' l' => (∃ kv, m' = fun y => if y = x then kv else m₀ y) ∧ ∃ WL'', l' = WL'' ++ rest ∧ WhIs w wh (i + 1) (kvs.take (i + 1)) WL'') s₃ := by
      rintro s₃ ⟨h', tk, m', all, news', q1, q2, q3, q4, q5, q6, WL'', q7, q8⟩
      rw [take_snoc hT.2.2.2.2 e] at q8
      exact ⟨h', tk, m', all, news', q1, q2, q3, q4, q5, q6, WL'', q7, q8⟩
    cases f with
    | ret v => exact z
    | brk => exact z
    | next => exact key _ z
    | cont => exact key _ z
  · rintro kv l h tk ⟨WL', rfl, hW⟩ hD F' N'
    rw [hlv, List.take_length] at hW
    exact done kv WL' h tk hW hD F' N'
end
def PlaceR (pv : Value) (ro : Option Int) : Prop := (pv = .none ∧ ro = none) ∨ (∃ pl nx t, pv = .int pl t ∧ (pl = 255 ∧ nx = 0 ∨ pl = 40 ∧ nx = 41) ∧ ro = some nx)
def DueV (b : Bool) (due : Value) : Prop := if b = true then ∃ t, due = .int 3 t else due = .none
theorem due_t {b : Bool} {t : Tok} (h : b = true) : DueV b (.int 3 t) := by unfold DueV; rw [if_pos h]; exact ⟨t, rfl⟩
theorem due_f {b : Bool} (h : b = false) : DueV b .none := by unfold DueV; rw [if_neg (by rw [h]; exact Bool.false_ne_true)]
inductive MadeP (w : World) (S : Str) (ev : Value) (ro : Option Int) (b : Bool) (kvs : List (Int × Int)) (d : Addr) (otd : Obj) (v : Value) (nf : Led) : Prop
  | mk (t : _) (due : _) (V : _) (e0 : v = .ref t) (e1 : DueV b due) (e2 : TcbIs w t S ev due ro kvs.length kvs V) (e3 : nf = (d, otd) :: V) : MadeP w S ev ro b kvs d otd v nf
theorem madeP_elim {w : World} {S : Str} {ev : Value} {ro : Option Int} {b : Bool} {kvs : List (Int × Int)} {d : Addr} {otd : Obj} {P : Value → Led → Prop} (h : ∀ t due V, DueV b due → TcbIs w t S ev due ro kvs.length kvs V → P (.ref t) ((d, otd) :: V)) : ∀ v nf, MadeP w S ev ro b kvs d otd v nf → P v nf := by
  rintro v nf ⟨t, due, V, rfl, h1, h2, rfl⟩
  exact h t due V h1 h2
theorem nd_fp {led fp rest : Led} (P : Takes led fp rest) (D : (adrs led).Nodup) : (adrs fp).Nodup := by
  have h1 : (adrs (fp ++ rest)).Nodup := (List.Perm.nodup_iff (P.map _)).mp D
  unfold adrs at h1 ⊢
  rw [List.map_append] at h1
  exact (List.nodup_append.mp h1).1
section
variable {M : Model} {A : Around} {E : Value → Shared → Prop} {s : Shared} {h₀ : Heap} {L : Addr} {m : Str → Option Value} {env : Env} {Q : Flow → Shared → Prop} {st : Stmt} {rest : List Stmt} {w : World} {lim loc rem snd ac wh : Addr} {S : Str} {ev due : Value} {ro : Option Int} {b : Bool}
/-- behind «if place is not None» -/
inductive RecJ (h₀ : Heap) (L : Addr) (m : Str → Option Value) (w : World) (lim loc rem snd ac wh : Addr) (S : Str) (ev : Value) (ro : Option Int) (G : Obj → Led → Led) (gg : Array GenState) (dd : Drawn) (oo : OsState) (s' : Shared) : Prop
  | mk (h' : Heap) (tk : Nat) (rv : Value) (o' : Obj) (RL led r1 : Led) (hT : TcbObj w lim loc rem snd ac wh S ev rv o') (hR : RecIs w rv ro RL) (es : s' = ⟨h', gg, dd, tk, oo⟩) (F : Fr h₀ L h' m) (N : News h₀ L h' led) (D : (adrs led).Nodup) (P : Takes led (G o' RL) r1) : RecJ h₀ L m w lim loc rem snd ac wh S ev ro G gg dd oo s'
theorem recv_join (_F : Fr h₀ L s.heap m) (G : Obj → Led → Led) (h : wpP M A (exec st env) (fun f s' => f = .next ∧ RecJ h₀ L m w lim loc rem snd ac wh S ev ro G s.gens s.drawn s.os s') E s)
    (k : ∀ h' tk rv o' RL, TcbObj w lim loc rem snd ac wh S ev rv o' → RecIs w rv ro RL → Fr h₀ L h' m → News h₀ L h' (G o' RL) → (adrs (G o' RL)).Nodup → wpP M A (execs rest env) Q E ⟨h', s.gens, s.drawn, tk, s.os⟩) : wpP M A (execs (st :: rest) env) Q E s := by
  refine wpP_execs_own (wpP_mono h ?_ fun _ _ x => x)
  rintro f s' ⟨rfl, h', tk, rv, o', RL, led, r1, hT, hR, rfl, F, N, D, P⟩
  exact k h' tk rv o' RL hT hR F (fun q hq => N q (sub_takes P q hq)) (nd_fp P D)
/-- behind «if has_waiting» -/
inductive AckJ (h₀ : Heap) (L : Addr) (m : Str → Option Value) (w : World) (b : Bool) (G : Obj → Led) (gg : Array GenState) (dd : Drawn) (oo : OsState) (s' : Shared) : Prop
  | mk (h' : Heap) (tk : Nat) (due : Value) (o' : Obj) (led r1 : Led) (hd : DueV b due) (hA : AckObj w due o') (es : s' = ⟨h', gg, dd, tk, oo⟩) (F : Fr h₀ L h' m) (N : News h₀ L h' led) (D : (adrs led).Nodup) (P : Takes led (G o') r1) : AckJ h₀ L m w b G gg dd oo s'
theorem ack_join (_F : Fr h₀ L s.heap m) (G : Obj → Led) (h : wpAny M A (exec st env) (fun f s' => f = .next ∧ AckJ h₀ L m w b G s.gens s.drawn s.os s') E s)
    (k : ∀ h' tk due o', DueV b due → AckObj w due o' → Fr h₀ L h' m → News h₀ L h' (G o') → (adrs (G o')).Nodup → wpAny M A (execs rest env) Q E ⟨h', s.gens, s.drawn, tk, s.os⟩) : wpAny M A (execs (st :: rest) env) Q E s := by
  refine wpAny_execs_cons (wpAny_mono h ?_ fun _ _ x => x)
  rintro f s' ⟨rfl, h', tk, due, o', led, r1, hd, hA, rfl, F, N, D, P⟩
  exact k h' tk due o' hd hA F (fun q hq => N q (sub_takes P q hq)) (nd_fp P D)
end
section
theorem make_tcb {w : World} {mean : ExcName → Option Value} {mg mb : Str → Option Value} {hb : Heap} {s : Shared} {A : Around} {h₀ : Heap} {L : Addr} {m : Str → Option Value} {news rest : Led} {lim dlim loc rem : Addr} {odl : Obj} {v1 v2 : Value} {tl tr t9 : Tok} {n1 n2 : Nat} {Q E : Value → Shared → Prop}
   (B : Base (hd.heap_1 w.params) hd.view_1 LOOSE mean mg mb hb) (lo : Lo 7 A) (St : hb.StaysIn h₀) (F : Fr h₀ L s.heap m) (N : News h₀ L s.heap news) (D : (adrs news).Nodup) (X : (hd.heap_1 w.params).In h₀)
   (P : Takes news [(lim, instObj 823 dlim), (dlim, odl), (loc, tupOf [v1, .int 10 tl] n1), (rem, tupOf [v2, .int 20 tr] n2)] rest) (W : LimObj w odl)
   (k : ∀ x nf, TcbNew w x nf → ∀ h' tk', Fr h₀ L h' m → News h₀ L h' (nf ++ rest) → (adrs (nf ++ rest)).Nodup → Q (.ref x) { s with heap := h', toks := tk' }) :
   wpAny (model PR w) A (call (.ref 866) [.ref lim, .ref loc, .ref rem, .int 9 t9]) Q E s := by
  refine' make_use St F N D X P ?hm ?hi ?hf (φ := fun x dx nf => TcbNew w x nf) (fun x dx s' H => tcbI B (Lo.make lo) W H) ?_
  case hm => k_is
  case hi => k_is
  case hf => k_is
  exact fun x dx nf => k x nf
theorem ln_MadeC_2 : True := by
 k_with "wpP" => (((with_reducible show wpP _ _ (execs (Stmt.If (Expr.Compare _ _ _ _) _ _ _ :: _) _) _ _ _); refine stop_of ?_))
 k_with "And" => ((k_dflt (first
     | (refine' And.intro rfl (RecJ.mk _ _ _ _ [] _ _ (by assumption) ⟨rfl, rfl⟩ rfl (by assumption) (by assumption) (by assumption) ?P); (case P => walk_at "m_takes"))
     | (refine' And.intro rfl (RecJ.mk _ _ _ _ _ _ _ (by assumption) (by assumption) rfl (by assumption) (by assumption) (by assumption) ?P); (case P => walk_at "m_takes"))
     | (refine' And.intro rfl (AckJ.mk _ _ _ _ _ _ (due_t ‹b = true›) (by assumption) rfl (by assumption) (by assumption) (by assumption) ?P); (case P => walk_at "m_takes"))
     | (refine' And.intro rfl (AckJ.mk _ _ _ _ _ _ (due_f ‹b = false›) (AckNew.obj (by assumption)) rfl (by assumption) (by assumption) (by assumption) ?P); (case P => walk_at "m_takes")))))
 trivial
set_option maxHeartbeats 4000000 in
theorem made_c {w : World} {mean : ExcName → Option Value} {mg mb : Str → Option Value} {hb : Heap} {s : Shared} {A : Around} {S : Str} {tS : Tok} {pv ev : Value} {ro : Option Int} {b : Bool} {d : Addr} {otd : Obj} {tv : List (Int × Value)} {kvs : List (Int × Int)}
   (B : Base (hd.heap_1 w.params) hd.view_1 LOOSE mean mg mb hb) (lo : Lo 8 A) (hpv : PlaceR pv ro) (hTm : Times 4 w otd tv kvs) (hlo : (d == sysModules) = false) (hev : handedIn ev = true) (H : Has hb s [(d, otd)]) :
   codeP (model PR w) A (.call (.ref 1156) ⟨[.str S tS, pv, .ref d, .bool b, ev], []⟩) (Rets s [(d, otd)] (MadeP w S ev ro b kvs d otd)) s := by
  refine' enterP (binds := [(Str.ofString "state", .str S tS), (Str.ofString "place", pv), (Str.ofString "times", .ref d), (Str.ofString "has_waiting", .bool b), (Str.ofString "error", ev)]) B H lo ?ho ?hcd ?hbind ?hloc ?h ?hcell ?hco ?hgen ?hk
  walk_at "m_enter"
  k_steps
  unfold Stop
  refine recv_join (ro := ro) (ev := ev) (S := S) (w := w) (lim := lim) (loc := loc) (rem := rem) (snd := snd) (ac := ac) (wh := wh) F' (fun o RL => (tT, instObj 866 dt) :: (dt, o) :: (lim, instObj 823 dlim) :: (dlim, odl) :: (loc, tupOf [v1, .int 10 tl] n1) :: (rem, tupOf [v2, .int 20 tr] n2) :: (snd, instObj 652 dsnd) :: (dsnd, ods) :: (ac, instObj 118 dac) :: (dac, oda) :: (WL ++ (d, otd) :: RL)) (wpP_If (wpP_of ?_)) ?_
  · rcases hpv with ⟨rfl, rfl⟩ | ⟨pl, nx, tq, rfl, hpl, rfl⟩
    all_goals k_steps
  · clear hpv hT F' N' Dn
    intro h' tk rv o' RL hT hR F' N' Dn
    refine wpP_of ?_
    refine ack_join (b := b) (w := w) F' (fun o => (tT, instObj 866 dt) :: (dt, o') :: (lim, instObj 823 dlim) :: (dlim, odl) :: (loc, tupOf [v1, .int 10 tl] n1) :: (rem, tupOf [v2, .int 20 tr] n2) :: (snd, instObj 652 dsnd) :: (dsnd, ods) :: (ac, instObj 118 dac) :: (dac, o) :: (WL ++ (d, otd) :: RL)) ?_ ?_
    · k_steps
    · clear hA0 F' N' Dn
      intro h' tk due oA hdue hA F' N' Dn
      k_steps
      have hdT := hTm.1
      refine' put_loop (wh := wh) (WL := WL) (kvs := kvs) (Lo.handled (by assumption)) ?F ?N ?D ?Pl ?hg WN ?hI hTm ?turn ?done
      case F => assumption
      case N => assumption
      case D => assumption
      case Pl => walk_at "m_pullL"
      case hg => k_mem
      case hI => assumption
      case turn =>
        intro i k τ tk t WL' I oI h tk' hi4 he hva hW Dn F' N'
        k_steps
        show TurnEnd _ _ _ _ _ _
        refine' TurnEnd.intro (by assumption) (by assumption) (by assumption) (pull_of ?Pt) ⟨⟨_, rfl⟩, _, rfl, WN⟩
        case Pt => walk_at "m_takes"
      case done =>
        intro kv WL' h tk hW Dn F' N'
        k_steps
        (show RR _ _)
        refine' rets_end hRR hg2 (by assumption) (by assumption) (by assumption) ⟨_, _, _, rfl, hdue, TcbIs.intro hT hL hSn hA hR hW, rfl⟩ ?p1
        walk_at "m_ends"
end
end Mine
namespace Mine
open PySem PySem.W PySem.Spec PySem.Calls PyProof.Rows
section
variable {prog : Program} {w : World} {A : Around} {s : Shared} {K : Frag} {p : Program} {loose : List Str} {mean : ExcName → Option Value} {mg mb : Str → Option Value} {hb : Heap} {fp : Led}
  {R : Result → Shared → Prop} {name qual : Str} {params : Arguments} {body : List Stmt} {scope : Scope} {dV kV doc pm cdv ct oc : Value} {an od : Option Addr} {osl : Array (Option Value)} {f : Addr} {args : Args} {binds : List (Str × Value)}
/-- enter, with the around in the open -/
theorem ln_Abr_1 : True := by
 k_with_none
 k_with "m_updn" => (first | exact UpdN.head | (refine' UpdN.tail ?az058; (case az058 => walk_at "m_updn")) | (refine' UpdN.app ?az058; (case az058 => walk_at "m_updn")))
 k_with "m_updg" => (first | exact UpdG.head | (refine' UpdG.tail ?az984; (case az984 => walk_at "m_updg")) | (refine' UpdG.app ?az984; (case az984 => walk_at "m_updg")))
 k_with "k_upd" => (k_dflt (refine' upd_of ?Dz233 ?Uz233; (case Dz233 => assumption); (case Uz233 => walk_at "m_updn")))
 k_with "k_updF" => (k_dflt (refine' updF_of ?Dz235 ?Uz235; (case Dz235 => assumption); (case Uz235 => walk_at "m_updg")))
 k_with "k_mem" => (first | with_reducible exact List.mem_cons_self | (with_reducible exact List.mem_append_left _ (by assumption)) | (with_reducible refine' List.mem_cons_of_mem _ ?mmz799; (case mmz799 => k_mem)) | (with_reducible refine' List.mem_append_right _ ?mmz799; (case mmz799 => k_mem)) | with_reducible assumption)
 k_with "k_handed" => (assumption)
 k_with "k_units" => (first | exact Lo.line (by assumption) | exact Lo.line (Lo.in1 (by assumption)))
 k_with "k_room" => (exact Lo.room (by assumption))
 trivial
theorem enterA {k : Nat} (B : Base K p loose mean mg mb hb) (H : Has hb s fp) (lo : Lo (k + 1) A)
    (ho : K.lookup f = some ⟨oc, od, .func (fnOf name qual params body scope dV kV doc pm an cdv ct), osl⟩) (hcd : codeIn K cdv qual = true)
    (hbind : BindsTo s (fnOf name qual params body scope dV kV doc pm an cdv ct) args binds) (hloc : ∀ y ∈ binds, scope.names.lookup y.1 = some .local)
    (h : ∀ g L' h₁ A', A' = A.deeper (envOf qual scope L' f cdv) → g = hideAll s.heap (adrs fp) → Lo k A' → hb.StaysIn g → (∀ b o, g.get? b = some o → s.heap.get? b = some o) → (∀ b o, s.heap.get? b = some o → b ∉ adrs fp → g.get? b = some o) →
      Fr g L' h₁ (fun y => binds.reverse.lookup y) → News g L' h₁ fp → (adrs fp).Nodup → K.In g → Top p loose mean mg mb g →
      wpAny (model prog w) A' (execs body (envOf qual scope L' f cdv))
        (fun fl s' => R (.ok (.ret (match fl with | .ret v => v | _ => .none))) s') (fun _ _ => False) { s with heap := h₁, toks := s.toks + binds.length })
    (hcell : ∀ x ∈ scope.names, x.2 ≠ .cell) (hco : scope.isCoroutine = false) (hgen : scope.isGenerator = false) (hk : scope.kind = .function) :
    codeAny (model prog w) A (.call (.ref f) args) R s :=
  enterX B H lo ho hcd hbind hloc (fun g L' h₁ A' e1 e2 a b c d F N D X T => wpAny_mono (h g L' h₁ A' e1 e2 a b c d F N D X T) (fun _ _ x => x) fun _ _ x => x.elim) hcell hco hgen hk
end
section
variable {M : Model} {A : Around} {E : Value → Shared → Prop} {s : Shared} {env : Env}
theorem due_expr {b : Bool} {hw : Str} {p p2 p3 pos : Pos} {k2 k3} {Q : Value → Shared → Prop} (h0 : wpAny M A (eval (.Name hw p) env) (fun v s₁ => v = .bool b ∧ s₁ = s) NoE s) (h : ∀ v tk, DueV b v → Q v { s with toks := tk }) :
    wpAny M A (eval (.IfExp (.Name hw p) (.Constant (.int 3) k2 p2) (.Constant .none k3 p3) pos) env) Q E s := by
  refine IfExp_ (isTrue_plain (anyE (wpAny_mono h0 (fun v s₁ z => ?_) fun _ _ x => x)))
  obtain ⟨rfl, rfl⟩ := z
  refine wpAny_pure (a := b) ?_
  cases b with
  | true => exact wpAny_Constant_int (h _ _ (due_t rfl))
  | false => exact wpAny_pure (h _ _ (due_f rfl))
theorem DueV.same {b : Bool} {v v' : Value} (h : DueV b v) (h' : DueV b v') : Same v v' := by
  cases b with
  | true => obtain ⟨t, rfl⟩ := h; obtain ⟨t', rfl⟩ := h'; exact Same.int 3 t t'
  | false =>
    have e : v = .none := h
    have e' : v' = .none := h'
    rw [e, e']; exact Same.refl _
theorem DueV.handed {b : Bool} {v : Value} (h : DueV b v) : handedIn v = true := by
  cases b with
  | true => obtain ⟨t, rfl⟩ := h; rfl
  | false =>
    have e : v = .none := h
    rw [e]; rfl
end
theorem isList_arr {h₀ h : Heap} {L l : Addr} {news : Led} {its : Array Value} {n : Nat} (N : News h₀ L h news) (hm : (l, PySem.W.listOf its n) ∈ news) : h.IsList l its := ⟨_, (N _ hm).1, rfl, _, rfl⟩
theorem fr_hide {g h : Heap} {L : Addr} {m : Str → Option Value} {led : Led} (F : Fr g L h m) (N : News g L h led) : Fr g L (hideAll h (adrs led)) m := by
  have nL : L ∉ adrs led := fun hm => by
    obtain ⟨q, hq, e⟩ := List.mem_map.mp hm
    exact (N q hq).2.1 e
  refine ⟨F.ns.at' fun o e => hideAll_get _ e nL, fun b o e => hideAll_get _ (F.keep b o e) fun hm => ?_, F.above⟩
  obtain ⟨q, hq, e'⟩ := List.mem_map.mp hm
  have := (N q hq).2.2
  have e'' : q.1 = b := e'
  rw [e'', e] at this; cases this
section
variable {w : World} {A : Around} {E : Value → Shared → Prop} {s : Shared} {g : Heap} {L a : Addr} {m : Str → Option Value} {led V rest : Led} {name : Str} {scope : Scope} {cd : Value} {Q : Value → Shared → Prop} {outer : List Env}
theorem abort_use {mean : ExcName → Option Value} {mg mb : Str → Option Value} {hb : Heap} {t : Addr} {ev due : Value} {ro : Option Int} {c : Nat} {kvs : List (Int × Int)} {tn : Tok} {A' : Around}
   (B : Base (hd.heap_1 w.params) hd.view_1 LOOSE mean mg mb hb) (lo : Lo 4 A') (hA : A' = A.deeper (envOf name scope L a cd)) (hk : scope.kind = .function) (K : Below A hb outer g) (St : hb.StaysIn g) (F : Fr g L s.heap m) (N : News g L s.heap led) (D : (adrs led).Nodup) (P : Takes led V rest)
   (W : TcbIs w t (Str.ofString "closed") ev due ro c kvs V)
   (k : ∀ e tu vs h' tk', RaisedS hb (hideAll s.heap (adrs (V ++ rest))) (envOf name scope L a cd :: outer) e (.ref 63) tu vs (V ++ rest) h' → (hideAll s.heap (adrs (V ++ rest))).UpToSlots h' → Fr g L (hideAll s.heap (adrs (V ++ rest))) m →
     E (.ref e) { s with heap := h', toks := tk' }) : wpAny (model PR w) A' (call (.ref 891) [.ref t, .int 7 tn]) Q E s := by
  subst hA
  have N' : News g L s.heap (V ++ rest) := fun q hq => N q (P.mem_iff.mpr hq)
  have K' := K.push (name := name) (a := a) (cd := cd) F hk
  have H : Has hb s (V ++ rest) := has_of St F N' ((List.Perm.nodup_iff (P.map _)).mp D) Takes.all
  refine wpAny_call (codeAny_mono (abort_x B lo W K' (fun b hb' hm => ?_) H) ?_)
  · obtain ⟨q, hq, e⟩ := List.mem_map.mp hm
    have e' : q.1 = b := e
    rcases kts_mem hb' with z | z
    · exact (N' q hq).2.1 (e'.trans z)
    · obtain ⟨_, o, ho, _⟩ := K.frames.mem z
      have := (N' q hq).2.2
      rw [e', ho] at this; cases this
  · rintro r s' ⟨e, tu, vs, h', tk', rfl, rfl, RR, U⟩
    exact k e tu vs h' tk' RR U (fr_hide F N')
end
end Mine
namespace Mine
open PySem PySem.W PySem.Spec PySem.Calls PyProof.Rows
theorem ln_Abq_1 : True := by
 k_with_none
 k_with "m_takes" => (first
     | exact Takes.nil
     | (refine' Takes.cons ?az047 ?bz047; (case az047 => walk_at "m_pull"); (case bz047 => walk_at "m_takes"))
     | (refine' Takes.app ?az047 ?bz047; (case az047 => walk_at "m_pullL"); (case bz047 => walk_at "m_takes"))
     | (refine' Takes.last ?az047; (case az047 => walk_at "m_pullL")))
 k_with "m_pull" => (first
     | exact Pull.head
     | (refine' Pull.tail ?az350; (case az350 => walk_at "m_pull"))
     | (refine' Pull.app ?az350; (case az350 => walk_at "m_pull")))
 k_with "m_pullL" => (first
     | exact PullL.head
     | exact PullL.whole
     | (refine' PullL.tail ?az531; (case az531 => walk_at "m_pullL"))
     | (refine' PullL.app ?az531; (case az531 => walk_at "m_pullL")))
 k_with "m_updn" => (first | exact UpdN.head | (refine' UpdN.tail ?az058; (case az058 => walk_at "m_updn")) | (refine' UpdN.app ?az058; (case az058 => walk_at "m_updn")))
 k_with "m_updg" => (first | exact UpdG.head | (refine' UpdG.tail ?az984; (case az984 => walk_at "m_updg")) | (refine' UpdG.app ?az984; (case az984 => walk_at "m_updg")))
 k_with "k_upd" => (k_dflt (refine' upd_of ?Dz233 ?Uz233; (case Dz233 => assumption); (case Uz233 => walk_at "m_updn")))
 k_with "k_updF" => (k_dflt (refine' updF_of ?Dz235 ?Uz235; (case Dz235 => assumption); (case Uz235 => walk_at "m_updg")))
 k_with "k_mem" => (first | with_reducible exact List.mem_cons_self | (with_reducible exact List.mem_append_left _ (by assumption)) | (with_reducible refine' List.mem_cons_of_mem _ ?mmz799; (case mmz799 => k_mem)) | (with_reducible refine' List.mem_append_right _ ?mmz799; (case mmz799 => k_mem)) | with_reducible assumption)
 k_with "k_handed" => (assumption)
 k_with "k_units" => (first | exact Lo.line (by assumption) | exact Lo.line (Lo.in1 (by assumption)))
 k_with "k_room" => (exact Lo.room (by assumption))
 k_with "assign Tuple" => (((with_reducible show wpAny _ _ (assign (Expr.Tuple _ _ _) _ (Value.ref _)) _ _ _); k_dflt (refine' unpackN_ ?F ?N ?T ?k1 ?k2 ?k3 ?_; (case F => k_asm); (case N => k_asm); (case T => (refine News.isTup (by k_asm) (by k_mem))); (case k1 => exact Lo.handled (by assumption)); (case k2 => exact rfl); (case k3 => exact rfl)); intro h' F' N'; (try k_sweep)))
 k_with "execs cons" => (((with_reducible show wpAny _ _ (execs (_ :: _) _) _ _ _); (k_dflt (refine execs_flat (s := s) ?_)); intro tkF))
 k_with "assign Tuple" => (((with_reducible show wpAny _ _ (assign (Expr.Tuple _ _ _) _ (Value.ref _)) _ _ _); k_dflt (refine' kun_list ?F ?N ?T ?k1 ?k2 ?k3 ?_; (case F => k_asm); (case N => k_asm); (case T => (refine' isList_arr (by k_asm) ?mm; (case mm => k_mem))); (case k1 => exact Lo.handled (by assumption)); (case k2 => exact rfl); (case k3 => exact rfl)); intro h' F' N'; (try k_sweep)))
 k_with "eval IfExp" => (((k_dflt (refine' due_expr (b := b) ?h0 ?_; (case h0 => (k_steps; (try exact ⟨rfl, rfl⟩))))); intro vD tkD hvD))
 k_with "call ref" => (((k_dflt (show wpAny _ _ (call (Value.ref 1175) [_, _, _, _, _]) _ _ _)); (k_dflt (refine' use_call (by assumption) (by assumption) (by assumption) (by assumption) ?P (fun H => stands_c B (Lo.mono (by assumption) (by decide)) W (by omega) hT.1 hlo hT.2.1 (Same.refl _) (DueV.same hdue (by assumption)) H) ?_; (case P => walk_at "m_takes"))); (try clear DN); (refine elim0 ?_; intro hN tkN FN NN DN); (simp only [List.cons_append, List.nil_append] at NN DN); (try k_sweep)))
 k_with "unpackItems ref" => ((k_dflt (refine' unpackItemsN_ ?k1 ?k2 ?k3 ?k4 ?k5 ?_; (case k1 => k_asm); (case k2 => k_asm); (case k3 => (refine News.isTup (by k_asm) (by k_mem))); (case k4 => first | exact Lo.handled (by assumption) | with_unfolding_all rfl); (case k5 => first | exact Lo.handled (by assumption) | with_unfolding_all rfl)); intro h' F' N'; (try k_sweep)))
 trivial
theorem dicts_hide {fs : List Addr} {h : Heap} {fp : Led} (D : KtsDicts fs h) (nf : ∀ b ∈ fs, b ∉ adrs fp) : KtsDicts fs (hideAll h (adrs fp)) := fun b hb => by
  obtain ⟨o, es, n, ho, hd⟩ := D b hb
  exact ⟨o, es, n, hideAll_get _ ho (nf b hb), hd⟩
theorem nd_two {a b : Addr × Obj} {V : Led} (D : (adrs (a :: b :: V)).Nodup) : (adrs [a, b]).Nodup := (List.Sublist.map _ (List.Sublist.cons_cons a (List.Sublist.cons_cons b (List.nil_sublist V)))).nodup D
theorem sub_two {a b : Addr × Obj} {V : Led} (h1 : a ∈ V) (h2 : b ∈ V) : ∀ q ∈ [a, b], q ∈ V := fun q hq => by
  rcases List.mem_cons.mp hq with rfl | hq
  · exact h1
  · rw [List.mem_singleton.mp hq]; exact h2
section
theorem ln_Abq_2 : True := by
 k_with "exec Assign cons ListComp" => ((refine stop_of ?_))
 k_with "call ref" => (((k_dflt (show wpAny _ _ (call (Value.ref 891) [_, _]) _ _ _)); (k_dflt (refine' abort_use B (Lo.mono (by assumption) (by decide)) rfl rfl Kg St ?F ?N ?D ?P W ?_; (case F => k_asm); (case N => k_asm); (case D => assumption); (case P => walk_at "m_takes"))); intro eX tuX vsX hX tkX RR U FX; refine stop_of ?_))
 trivial
theorem aborted_x {w : World} {mean : ExcName → Option Value} {mg mb : Str → Option Value} {hb : Heap} {s : Shared} {A : Around} {t l d : Addr} {nl : Nat} {tS : Tok} {pv ev due : Value} {b : Bool} {otd : Obj} {tv : List (Int × Value)} {ro : Option Int} {c : Nat} {kvs : List (Int × Int)} {V : Led} {outer : List Env}
   (B : Base (hd.heap_1 w.params) hd.view_1 LOOSE mean mg mb hb) (lo : Lo 6 A) (W : TcbIs w t (Str.ofString "closed") ev due ro c kvs V) (hc : c ≤ 100) (hT : Times 4 w otd tv kvs) (hlo : (d == sysModules) = false) (hdue : DueV b due)
   (K : Below A hb outer s.heap) (hKD : KtsDicts (outer.filterMap (·.frame)) s.heap) (hnf : ∀ q ∈ outer.filterMap (·.frame), q ∉ adrs ((l, listOf #[.str (Str.ofString "closed") tS, pv, .ref d, .bool b, ev] nl) :: (d, otd) :: V))
   (H : Has hb s ((l, listOf #[.str (Str.ofString "closed") tS, pv, .ref d, .bool b, ev] nl) :: (d, otd) :: V)) :
   codeAny (model PR w) A (.call (.ref 1180) ⟨[.ref t, .ref l], []⟩) (RetsF (outer.filterMap (·.frame)) s ((l, listOf #[.str (Str.ofString "closed") tS, pv, .ref d, .bool b, ev] nl) :: (d, otd) :: V) (fun v nf => v = .bool true ∧ nf = [(l, listOf #[.str (Str.ofString "closed") tS, pv, .ref d, .bool b, ev] nl), (d, otd)])) s := by
  refine' enterA (binds := [(Str.ofString "tcb", .ref t), (Str.ofString "told", .ref l)]) B H lo ?ho ?hcd ?hbind ?hloc ?h ?hcell ?hco ?hgen ?hk
  case ho => k_is
  case hcd => k_is
  case hbind => first | exact BindsTo.of_eq rfl | exact binds_K (Frag.In.keeps (Base.X (by assumption)) (Has.stays (by assumption))) rfl (by k_is) rfl rfl rfl
  case hloc => exact locs rfl
  case hcell => decide
  case hco => exact rfl
  case hgen => exact rfl
  case hk => exact rfl
  intro g L' h₁ A' hA' hgE lo' St hg1 hg2 F N D X T
  (try dsimp only [List.reverse, List.reverseAux, List.length] at *)
  have Kg : Below A hb outer g := by rw [hgE]; exact below_hide K (hgE ▸ St) hnf
  have Dg : KtsDicts (outer.filterMap (·.frame)) g := by rw [hgE]; exact dicts_hide hKD hnf
  k_steps
  subst hA'
  refine LCg.Assign_ListComp_U (F₀ := by k_asm) (by rfl) (by with_unfolding_all rfl) (by with_unfolding_all rfl) (by decide) (by rfl) (by decide) (by rfl) (by rfl) (by rfl) ?_
  k_steps
  refine' caught_SO0 RR FX Kg U B.X B.T Dg KtsTurn.refl ?ex ?q ?_
  case ex => k_is
  case q => rfl
  intro h3 g3 n3 T3 F3 N3 G3 NV K3 X3 P3 D3
  clear N3
  replace NV := news_swap NV
  simp only [List.append_assoc, List.cons_append, List.nil_append] at NV
  have St3 := K3.stays
  k_steps
  refine' rets_endF hg2 T3 (by assumption) (by assumption) ⟨rfl, rfl⟩ (nd_two D) (sub_two ?m1 ?m2)
  case m1 => k_mem
  case m2 => k_mem
end
end Mine
namespace Mine
open PySem PySem.W PySem.Spec PySem.Calls PyProof.Rows
def QUIET : List Str := [Str.ofString "listen", Str.ofString "syn sent", Str.ofString "closing", Str.ofString "last ack", Str.ofString "time wait"]
section
variable {prog : Program} {w : World} {A : Around} {E : Value → Shared → Prop} {s : Shared} {x y : Str} {t u : Tok} {Q : Value → Shared → Prop}
theorem ln_Abn_1 : True := by
 k_with_none
 k_with "m_enter" => ((
     case ho => k_is
     case hcd => k_is
     case hbind => first | exact BindsTo.of_eq rfl | exact binds_K (Frag.In.keeps (Base.X (by assumption)) (Has.stays (by assumption))) rfl (by k_is) rfl rfl rfl
     case hloc => exact locs rfl
     case hcell => decide
     case hco => exact rfl
     case hgen => exact rfl
     case hk => exact rfl
     intro RR hRR g L' h₁ A' lo' St hg1 hg2 F N D X T
     (try dsimp only [List.reverse, List.reverseAux, List.length] at *)))
 k_with "m_takes" => (first
     | exact Takes.nil
     | (refine' Takes.cons ?az047 ?bz047; (case az047 => walk_at "m_pull"); (case bz047 => walk_at "m_takes"))
     | (refine' Takes.app ?az047 ?bz047; (case az047 => walk_at "m_pullL"); (case bz047 => walk_at "m_takes"))
     | (refine' Takes.last ?az047; (case az047 => walk_at "m_pullL")))
 k_with "m_pull" => (first
     | exact Pull.head
     | (refine' Pull.tail ?az350; (case az350 => walk_at "m_pull"))
     | (refine' Pull.app ?az350; (case az350 => walk_at "m_pull")))
 k_with "m_pullL" => (first
     | exact PullL.head
     | exact PullL.whole
     | (refine' PullL.tail ?az531; (case az531 => walk_at "m_pullL"))
     | (refine' PullL.app ?az531; (case az531 => walk_at "m_pullL")))
 k_with "m_ends" => ((case p1 => ((try simp only [tcbLed]); (try simp only [whLed, List.append_assoc, List.cons_append, List.nil_append, List.append_nil]); (walk_at "m_takes"))))
 k_with "m_updn" => (first | exact UpdN.head | (refine' UpdN.tail ?az058; (case az058 => walk_at "m_updn")) | (refine' UpdN.app ?az058; (case az058 => walk_at "m_updn")))
 k_with "m_updg" => (first | exact UpdG.head | (refine' UpdG.tail ?az984; (case az984 => walk_at "m_updg")) | (refine' UpdG.app ?az984; (case az984 => walk_at "m_updg")))
 k_with "k_upd" => (k_dflt (refine' upd_of ?Dz233 ?Uz233; (case Dz233 => assumption); (case Uz233 => walk_at "m_updn")))
 k_with "k_updF" => (k_dflt (refine' updF_of ?Dz235 ?Uz235; (case Dz235 => assumption); (case Uz235 => walk_at "m_updg")))
 k_with "k_mem" => (first | with_reducible exact List.mem_cons_self | (with_reducible exact List.mem_append_left _ (by assumption)) | (with_reducible refine' List.mem_cons_of_mem _ ?mmz799; (case mmz799 => k_mem)) | (with_reducible refine' List.mem_append_right _ ?mmz799; (case mmz799 => k_mem)) | with_reducible assumption)
 k_with "getMethod ref" => ((k_dflt (refine' method_inst ?k1z510 ?k2z510 ?k3z510 ?k4z510 ?k5z510 ?k6z510 ?k7z510 ?_; (case k1z510 => k_asm); (case k2z510 => k_asm); (case k3z510 => k_inst); (case k4z510 => k_is); (case k5z510 => k_is); (case k6z510 => k_is); (case k7z510 => k_get); k_whole)))
 k_with "getAttr ref" => ((k_dflt (refine' get_own ?k1z343 ?k2z343 ?k3z343 ?k4z343 ?k5z343 ?k6z343 ?k7z343 ?k8z343 ?k9z343 ?_; (case k1z343 => k_asm); (case k2z343 => k_asm); (case k3z343 => k_inst); (case k4z343 => k_is); (case k5z343 => k_is); (case k6z343 => k_is); (case k7z343 => k_is); (case k8z343 => k_get); (case k9z343 => k_handed); k_whole)))
 k_with "k_handed" => (assumption)
 k_with "k_units" => (first | exact Lo.line (by assumption) | exact Lo.line (Lo.in1 (by assumption)))
 k_with "k_room" => (exact Lo.room (by assumption))
 k_with "execs cons" => (((with_reducible show wpAny _ _ (execs (_ :: _) _) _ _ _); (k_dflt (refine execs_flat (s := s) ?_)); intro tkF))
 k_with "getAttr ref" => ((k_dflt (with_reducible refine' tcb_state ?yT ?yF ?yX ?yN ?yh1 ?yh2 ?_; (case yN => k_asm); (case yF => k_asm); (case yX => k_in); (case yh1 => k_mem); (case yh2 => k_mem); (case yT => assumption)); intro tS))
 k_with "getAttr ref" => ((k_dflt ((first | with_reducible refine' tcb_wheel ?Tz082 ?Fz082 ?Xz082 ?Nz082 ?h1z082 ?h2z082 ?_ | with_reducible refine' tcb_error ?Tz082 ?Fz082 ?Xz082 ?Nz082 ?h1z082 ?h2z082 ?_ | with_reducible refine' tcb_acks ?Tz082 ?Fz082 ?Xz082 ?Nz082 ?h1z082 ?h2z082 ?_ | with_reducible refine' tcb_limits ?Tz082 ?Fz082 ?Xz082 ?Nz082 ?h1z082 ?h2z082 ?_ | with_reducible refine' tcb_receiver ?Tz082 ?Fz082 ?Xz082 ?Nz082 ?h1z082 ?h2z082 ?_ | with_reducible refine' tcb_sender ?Tz082 ?Fz082 ?Xz082 ?Nz082 ?h1z082 ?h2z082 ?_ | with_reducible refine' tcb_local ?Tz082 ?Fz082 ?Xz082 ?Nz082 ?h1z082 ?h2z082 ?_ | with_reducible refine' tcb_remote ?Tz082 ?Fz082 ?Xz082 ?Nz082 ?h1z082 ?h2z082 ?_); (case Nz082 => k_asm); (case Fz082 => k_asm); (case Xz082 => k_in); (case h1z082 => k_mem); (case h2z082 => k_mem); (case Tz082 => assumption))))
 k_with "getMethod ref" => ((k_dflt ((first | with_reducible refine' wh_cancel ?Wz724 ?Fz724 ?Xz724 ?Nz724 ?Pz724 ?_ | with_reducible refine' wh_put ?Wz724 ?Fz724 ?Xz724 ?Nz724 ?Pz724 ?_ | with_reducible refine' wh_next_time ?Wz724 ?Fz724 ?Xz724 ?Nz724 ?Pz724 ?_ | with_reducible refine' wh_time_of ?Wz724 ?Fz724 ?Xz724 ?Nz724 ?Pz724 ?_); (case Nz724 => k_asm); (case Fz724 => k_asm); (case Xz724 => k_in); (case Wz724 => assumption); (case Pz724 => walk_at "m_pullL"))))
 k_with "call ref" => (((with_reducible show wpAny _ _ (call (Value.ref 775) [_, _]) _ _ _); (k_dflt (refine' use_call (by assumption) (by assumption) (by assumption) (by assumption) ?P (fun H => cancel_c B (Lo.mono (by assumption) (by decide)) (by assumption) ?hc H) ?_; (case P => walk_at "m_takes"); (case hc => omega))); (try clear DN); (refine elim1 ?_; intro nfN WN hN tkN FN NN DN); (try k_sweep)))
 k_with "call ref" => (((with_reducible show wpAny _ _ (call (Value.ref 761) [_, _, _]) _ _ _); (k_dflt (refine' use_call (by assumption) (by assumption) (by assumption) (by assumption) ?P (fun H => put_c B (Lo.mono (by assumption) (by decide)) (by assumption) ?hc H) ?_; (case P => walk_at "m_takes"); (case hc => omega))); (try clear DN); (refine elim1 ?_; intro nfN WN hN tkN FN NN DN); (try k_sweep)))
 k_with "getAttr ref" => ((k_dflt ((first | with_reducible refine' lim_time_wait ?xT ?xF ?xX ?xN ?xh1 ?xh2 ?_ | with_reducible refine' lim_receive_room ?xT ?xF ?xX ?xN ?xh1 ?xh2 ?_ | with_reducible refine' lim_mss ?xT ?xF ?xX ?xN ?xh1 ?xh2 ?_ | with_reducible refine' lim_ring ?xT ?xF ?xX ?xN ?xh1 ?xh2 ?_ | with_reducible refine' lim_send_room ?xT ?xF ?xX ?xN ?xh1 ?xh2 ?_ | with_reducible refine' lim_ack_delay ?xT ?xF ?xX ?xN ?xh1 ?xh2 ?_ | with_reducible refine' lim_first_timeout ?xT ?xF ?xX ?xN ?xh1 ?xh2 ?_ | with_reducible refine' lim_least_timeout ?xT ?xF ?xX ?xN ?xh1 ?xh2 ?_ | with_reducible refine' lim_most_timeout ?xT ?xF ?xX ?xN ?xh1 ?xh2 ?_ | with_reducible refine' lim_most_tries ?xT ?xF ?xX ?xN ?xh1 ?xh2 ?_ | with_reducible refine' rec_next ?xT ?xF ?xX ?xN ?xh1 ?xh2 ?_); (case xN => k_asm); (case xF => k_asm); (case xX => k_in); (case xh1 => k_mem); (case xh2 => k_mem); (case xT => assumption)); intro tI))
 k_with "getMethod ref" => ((k_dflt ((first | with_reducible refine' ack_on_sent ?xT ?xF ?xX ?xN ?xh1 ?xh2 ?_ | with_reducible refine' ack_due_time ?xT ?xF ?xX ?xN ?xh1 ?xh2 ?_ | with_reducible refine' ack_on_octets ?xT ?xF ?xX ?xN ?xh1 ?xh2 ?_ | with_reducible refine' rec_window ?xT ?xF ?xX ?xN ?xh1 ?xh2 ?_ | with_reducible refine' tcb_make ?xT ?xF ?xX ?xN ?xh1 ?xh2 ?_ | with_reducible refine' tcb_window_now ?xT ?xF ?xX ?xN ?xh1 ?xh2 ?_); (case xN => k_asm); (case xF => k_asm); (case xX => k_in); (case xh1 => k_mem); (case xh2 => k_mem); (case xT => first | assumption | exact AckNew.obj (by assumption)))))
 k_with "getAttr ref" => ((k_dflt ((with_reducible refine' snd_next ?xT ?xF ?xX ?xN ?xh1 ?xh2 ?_); (case xN => k_asm); (case xF => k_asm); (case xX => k_in); (case xh1 => k_mem); (case xh2 => k_mem); (case xT => assumption)); intro tI))
 k_with "compareOp Eq str str" => (((with_reducible show wpAny _ _ (compareOp CmpOp.Eq (Value.str S _) _) _ _ _); (k_dflt (refine eq_str_ne hS ?_))))
 k_with "compareOp NotIn str ref" => ((k_dflt (first
     | (refine' notin_tq ?k1 ?k2 ?k3 ?_; (case k1 => exact News.isTup (by k_asm) (by k_mem)); (case k2 => kde_strs); (case k3 => exact hq))
     | (refine' notin_lq ?k1 ?k2 ?k3 ?_; (case k1 => exact News.isList (by k_asm) (by k_mem)); (case k2 => kde_strs); (case k3 => exact hq)))))
 trivial
theorem eq_str_ne (hne : x ≠ y) (h : Q (.bool false) s) : wpAny (model prog w) A (compareOp .Eq (.str x t) (.str y u)) Q E s := by
  refine eq_str ?_
  have e : (x == y) = false := by
    cases z : (x == y) with
    | false => rfl
    | true => exact absurd (eq_of_beq z) hne
  rw [e]; exact h
theorem notin_tq {b : Bool} {l : Addr} {items : Array Value} (ht : IsTup s.heap l items) (hi : StrsAre items.toList QUIET) (hq : QUIET.any (· == x) = b) (h : Q (.bool (!b)) s) :
    wpAny (model prog w) A (compareOp .NotIn (.str x u) (.ref l)) Q E s := notin_tuple_strs ht hi (by rw [hq]; exact h)
theorem notin_lq {b : Bool} {l : Addr} {vs : List Value} (ht : s.heap.IsList l vs.toArray) (hi : StrsAre vs QUIET) (hq : QUIET.any (· == x) = b) (h : Q (.bool (!b)) s) :
    wpAny (model prog w) A (compareOp .NotIn (.str x u) (.ref l)) Q E s := notin_list_strs ht hi (by rw [hq]; exact h)
end
theorem follow_o {w : World} {mean : ExcName → Option Value} {mg mb : Str → Option Value} {hb : Heap} {s : Shared} {A : Around} {tS ta : Tok} {S : Str} (hS : S ≠ Str.ofString "closed")
   (B : Base (hd.heap_1 w.params) hd.view_1 LOOSE mean mg mb hb) (lo : Lo 1 A) (H : Has hb s []) :
   codeAny (model PR w) A (.call (.ref 741) ⟨[.str S tS, .str (Str.ofString "abort") ta], []⟩) (Rets s [] (fun v nf => (∃ t, v = .str (Str.ofString "closed") t) ∧ nf = [])) s := by
  refine' enter (binds := [(Str.ofString "state", .str S tS), (Str.ofString "event", .str (Str.ofString "abort") ta)]) B H lo ?ho ?hcd ?hbind ?hloc ?h ?hcell ?hco ?hgen ?hk
  walk_at "m_enter"
  k_steps
  all_goals (try dsimp only)
  all_goals (refine' rets_end hRR hg2 (by assumption) (by assumption) (by assumption) ⟨⟨_, rfl⟩, rfl⟩ ?p1; (walk_at "m_ends"))
section
theorem ln_Abn_2 : True := by
 k_with "call ref" => (((k_dflt (show wpAny _ _ (call (Value.ref 741) [_, _]) _ _ _)); (k_dflt (refine' use_call (by assumption) (by assumption) (by assumption) (by assumption) Takes.nil (fun H => follow_o hS B (Lo.mono (by assumption) (by decide)) H) ?_)); (try clear DN); (refine elimT ?_; intro tN hN tkN FN NN DN); (simp only [List.cons_append, List.nil_append] at NN DN); (try k_sweep)))
 k_with "call ref" => (((k_dflt (show wpAny _ _ (call (Value.ref 877) [_, Value.none]) _ _ _)); (k_dflt (first
     | (refine' use_call (by assumption) (by assumption) (by assumption) (by assumption) ?P (fun H => closed_n B (Lo.mono (by assumption) (by decide)) WM (by omega) hkM H) ?_; (case P => walk_at "m_takes"))
     | (refine' use_call (by assumption) (by assumption) (by assumption) (by assumption) ?P (fun H => closed_n B (Lo.mono (by assumption) (by decide)) (TcbIs.intro hT hL hSn hA hR WN) (by omega) hk H) ?_; (case P => (simp only [tcbLed]; walk_at "m_takes"))))); (try clear DN); (refine elim1 ?_; intro nfN WC hN tkN FN NN DN); (replace NN := news_swap NN); (replace DN := nd_swap DN); (simp only [List.append_assoc, List.cons_append, List.nil_append] at NN DN); (try k_sweep)))
 trivial
theorem abort_q {w : World} {mean : ExcName → Option Value} {mg mb : Str → Option Value} {hb : Heap} {s : Shared} {A : Around} {t : Addr} {S : Str} {ev due : Value} {ro : Option Int} {c : Nat} {kvs : List (Int × Int)} {V : Led} {tn : Tok}
   (B : Base (hd.heap_1 w.params) hd.view_1 LOOSE mean mg mb hb) (lo : Lo 3 A) (W : TcbIs w t S ev due ro c kvs V) (hc : c ≤ 50) (hk : ∀ p ∈ kvs, 1 ≤ p.1 ∧ p.1 ≤ 4) (hS : S ≠ Str.ofString "closed") (hq : QUIET.any (· == S) = true) (H : Has hb s V) :
   codeAny (model PR w) A (.call (.ref 891) ⟨[.ref t, .int 7 tn], []⟩) (Rets s V (fun v nf => ∃ l n V', v = .ref l ∧ nf = (l, listOf #[] n) :: V' ∧ TcbIs w t (Str.ofString "closed") ev due ro c [] V')) s := by
  revert H
  refine TcbIs.elim (G := fun V => Has hb s V → codeAny (model PR w) A _ (Rets s V _) s) W ?_
  intro dt odt lim dlim odl loc rem v1 v2 tl tr n1 n2 snd dsnd ods ac dac oda RL WL wh rv hT hL hSn hA hR WN H
  dsimp only [tcbLed] at H ⊢
  refine' enter (binds := [(Str.ofString "tcb", .ref t), (Str.ofString "now", .int 7 tn)]) B H lo ?ho ?hcd ?hbind ?hloc ?h ?hcell ?hco ?hgen ?hk
  walk_at "m_enter"
  k_steps
  all_goals (try dsimp only)
  refine' rets_end hRR hg2 (by assumption) (by assumption) (by assumption) ⟨_, _, _, rfl, rfl, WC⟩ ?p1
  walk_at "m_ends"
theorem ln_Abn_3 : True := by
 k_with "call ref" => (((k_dflt (show wpAny _ _ (call (Value.ref 863) [_, _, _]) _ _ _)); (k_dflt (first
     | (refine' use_call (by assumption) (by assumption) (by assumption) (by assumption) ?P (fun H => make_n B (Lo.mono (by assumption) (by decide)) (TcbIs.intro hT hL hSn hA hR WN) (Or.inr ⟨rfl, rfl, rfl⟩) (z := 0) rfl (fun _ => rfl) (fun h => absurd rfl h) H) ?_; (case P => (simp only [tcbLed]; walk_at "m_takes")))
     | (refine' use_call (by assumption) (by assumption) (by assumption) (by assumption) ?P (fun H => make_s B (Lo.mono (by assumption) (by decide)) (TcbIs.intro hT hL hSn hA hR WN) (by omega) (fl' := 20) rfl (Or.inr ⟨rfl, rfl, rfl⟩) (z := 0) rfl (fun _ => rfl) (fun h => absurd rfl h) H) ?_; (case P => (simp only [tcbLed]; walk_at "m_takes"))))); (try clear DN); (refine made_elim ?_; intro sg dsg odg VM hSg WM hN tkN FN NN DN); (replace NN := news_swap NN); (replace DN := nd_swap DN); (simp only [List.append_assoc, List.cons_append, List.nil_append] at NN DN); (try k_sweep)))
 trivial
theorem abort_n {w : World} {mean : ExcName → Option Value} {mg mb : Str → Option Value} {hb : Heap} {s : Shared} {A : Around} {t : Addr} {S : Str} {ev due : Value} {c : Nat} {kvs : List (Int × Int)} {V : Led} {tn : Tok}
   (B : Base (hd.heap_1 w.params) hd.view_1 LOOSE mean mg mb hb) (lo : Lo 4 A) (W : TcbIs w t S ev due none c kvs V) (hc : c ≤ 50) (hk : ∀ p ∈ kvs, 1 ≤ p.1 ∧ p.1 ≤ 4) (hS : S ≠ Str.ofString "closed") (hq : QUIET.any (· == S) = false) (H : Has hb s V) :
   codeAny (model PR w) A (.call (.ref 891) ⟨[.ref t, .int 7 tn], []⟩) (Rets s V (fun v nf => ∃ l n sg dsg od V', v = .ref l ∧ nf = (l, listOf #[.ref sg] n) :: (sg, instObj 702 dsg) :: (dsg, od) :: V' ∧ SegObj w 9 0 4 #[] #[] od ∧ TcbIs w t (Str.ofString "closed") ev due none c [] V')) s := by
  have hkM := hk
  revert H
  refine TcbIs.elim (G := fun V => Has hb s V → codeAny (model PR w) A _ (Rets s V _) s) W ?_
  intro dt odt lim dlim odl loc rem v1 v2 tl tr n1 n2 snd dsnd ods ac dac oda RL WL wh rv hT hL hSn hA hR WN H
  dsimp only [tcbLed] at H ⊢
  refine' enter (binds := [(Str.ofString "tcb", .ref t), (Str.ofString "now", .int 7 tn)]) B H lo ?ho ?hcd ?hbind ?hloc ?h ?hcell ?hco ?hgen ?hk
  walk_at "m_enter"
  k_steps
  all_goals (try dsimp only)
  refine' rets_end hRR hg2 (by assumption) (by assumption) (by assumption) ⟨_, _, _, _, _, _, rfl, rfl, hSg, WC⟩ ?p1
  walk_at "m_ends"
theorem abort_s {w : World} {mean : ExcName → Option Value} {mg mb : Str → Option Value} {hb : Heap} {s : Shared} {A : Around} {t : Addr} {S : Str} {ev due : Value} {nx : Int} {c : Nat} {kvs : List (Int × Int)} {V : Led} {tn : Tok}
   (B : Base (hd.heap_1 w.params) hd.view_1 LOOSE mean mg mb hb) (lo : Lo 8 A) (W : TcbIs w t S ev due (some nx) c kvs V) (hc : c ≤ 50) (hk : ∀ p ∈ kvs, 1 ≤ p.1 ∧ p.1 ≤ 4) (hS : S ≠ Str.ofString "closed") (hq : QUIET.any (· == S) = false) (H : Has hb s V) :
   codeAny (model PR w) A (.call (.ref 891) ⟨[.ref t, .int 7 tn], []⟩) (Rets s V (fun v nf => ∃ l n sg dsg od V', v = .ref l ∧ nf = (l, listOf #[.ref sg] n) :: (sg, instObj 702 dsg) :: (dsg, od) :: V' ∧ SegObj w 9 nx 20 #[] #[] od ∧ TcbIs w t (Str.ofString "closed") ev .none (some nx) c [] V')) s := by
  have hkM : ∀ p ∈ less kvs 3, 1 ≤ p.1 ∧ p.1 ≤ 4 := fun p hp => hk p (List.mem_filter.mp hp).1
  revert H
  refine TcbIs.elim (G := fun V => Has hb s V → codeAny (model PR w) A _ (Rets s V _) s) W ?_
  intro dt odt lim dlim odl loc rem v1 v2 tl tr n1 n2 snd dsnd ods ac dac oda RL WL wh rv hT hL hSn hA hR WN H
  dsimp only [tcbLed] at H ⊢
  refine' enter (binds := [(Str.ofString "tcb", .ref t), (Str.ofString "now", .int 7 tn)]) B H lo ?ho ?hcd ?hbind ?hloc ?h ?hcell ?hco ?hgen ?hk
  walk_at "m_enter"
  k_steps
  all_goals (try dsimp only)
  refine' rets_end hRR hg2 (by assumption) (by assumption) (by assumption) ⟨_, _, _, _, _, _, rfl, rfl, hSg, WC⟩ ?p1
  walk_at "m_ends"
end
end Mine
namespace Mine
open PySem PySem.W PySem.Spec PySem.Calls PyProof.Rows
section
variable {prog : Program} {w : World} {A : Around} {E : Value → Shared → Prop} {s : Shared} {h₀ : Heap} {L : Addr} {m : Str → Option Value} {news : Led} {Q : Value → Shared → Prop}
theorem ln_Abm_1 : True := by
 k_with_none
 k_with "m_enter" => ((
     case ho => k_is
     case hcd => k_is
     case hbind => first | exact BindsTo.of_eq rfl | exact binds_K (Frag.In.keeps (Base.X (by assumption)) (Has.stays (by assumption))) rfl (by k_is) rfl rfl rfl
     case hloc => exact locs rfl
     case hcell => decide
     case hco => exact rfl
     case hgen => exact rfl
     case hk => exact rfl
     intro RR hRR g L' h₁ A' lo' St hg1 hg2 F N D X T
     (try dsimp only [List.reverse, List.reverseAux, List.length] at *)))
 k_with "m_takes" => (first
     | exact Takes.nil
     | (refine' Takes.cons ?az047 ?bz047; (case az047 => walk_at "m_pull"); (case bz047 => walk_at "m_takes"))
     | (refine' Takes.app ?az047 ?bz047; (case az047 => walk_at "m_pullL"); (case bz047 => walk_at "m_takes"))
     | (refine' Takes.last ?az047; (case az047 => walk_at "m_pullL")))
 k_with "m_pull" => (first
     | exact Pull.head
     | (refine' Pull.tail ?az350; (case az350 => walk_at "m_pull"))
     | (refine' Pull.app ?az350; (case az350 => walk_at "m_pull")))
 k_with "m_pullL" => (first
     | exact PullL.head
     | exact PullL.whole
     | (refine' PullL.tail ?az531; (case az531 => walk_at "m_pullL"))
     | (refine' PullL.app ?az531; (case az531 => walk_at "m_pullL")))
 k_with "m_ends" => ((case p1 => ((try simp only [tcbLed]); (try simp only [whLed, List.append_assoc, List.cons_append, List.nil_append, List.append_nil]); (walk_at "m_takes"))))
 k_with "m_updn" => (first | exact UpdN.head | (refine' UpdN.tail ?az058; (case az058 => walk_at "m_updn")) | (refine' UpdN.app ?az058; (case az058 => walk_at "m_updn")))
 k_with "m_updg" => (first | exact UpdG.head | (refine' UpdG.tail ?az984; (case az984 => walk_at "m_updg")) | (refine' UpdG.app ?az984; (case az984 => walk_at "m_updg")))
 k_with "k_upd" => (k_dflt (refine' upd_of ?Dz233 ?Uz233; (case Dz233 => assumption); (case Uz233 => walk_at "m_updn")))
 k_with "k_updF" => (k_dflt (refine' updF_of ?Dz235 ?Uz235; (case Dz235 => assumption); (case Uz235 => walk_at "m_updg")))
 k_with "k_mem" => (first | with_reducible exact List.mem_cons_self | (with_reducible exact List.mem_append_left _ (by assumption)) | (with_reducible refine' List.mem_cons_of_mem _ ?mmz799; (case mmz799 => k_mem)) | (with_reducible refine' List.mem_append_right _ ?mmz799; (case mmz799 => k_mem)) | with_reducible assumption)
 k_with "k_handed" => (assumption)
 k_with "k_units" => (first | exact Lo.line (by assumption) | exact Lo.line (Lo.in1 (by assumption)))
 k_with "k_room" => (exact Lo.room (by assumption))
 k_with "assign Tuple" => (((with_reducible show wpAny _ _ (assign (Expr.Tuple _ _ _) _ (Value.ref _)) _ _ _); k_dflt (refine' unpackN_ ?F ?N ?T ?k1 ?k2 ?k3 ?_; (case F => k_asm); (case N => k_asm); (case T => (refine News.isTup (by k_asm) (by k_mem))); (case k1 => exact Lo.handled (by assumption)); (case k2 => exact rfl); (case k3 => exact rfl)); intro h' F' N'; (try k_sweep)))
 k_with "FinA" => (((k_dflt (intro D' h' tk' F' N' o1')); (k_dflt (have Dn := nd_off (by assumption) o1')); (try k_sweep)))
 k_with "execs cons" => (((with_reducible show wpAny _ _ (execs (_ :: _) _) _ _ _); (k_dflt (refine execs_flat (s := s) ?_)); intro tkF))
 k_with "assign Tuple" => (((with_reducible show wpAny _ _ (assign (Expr.Tuple _ _ _) _ (Value.ref _)) _ _ _); k_dflt (refine' kun_list ?F ?N ?T ?k1 ?k2 ?k3 ?_; (case F => k_asm); (case N => k_asm); (case T => (refine' isList_arr (by k_asm) ?mm; (case mm => k_mem))); (case k1 => exact Lo.handled (by assumption)); (case k2 => exact rfl); (case k3 => exact rfl)); intro h' F' N'; (try k_sweep)))
 k_with "eval IfExp" => (((k_dflt (refine' due_expr (b := b) ?h0 ?_; (case h0 => (k_steps; (try exact ⟨rfl, rfl⟩))))); intro vD tkD hvD))
 k_with "call ref" => (((k_dflt (show wpAny _ _ (call (Value.ref 1175) [_, _, _, _, _]) _ _ _)); (k_dflt (refine' use_call (by assumption) (by assumption) (by assumption) (by assumption) ?P (fun H => stands_c B (Lo.mono (by assumption) (by decide)) W (by omega) hT.1 hlo hT.2.1 (Same.refl _) (DueV.same hdue (by assumption)) H) ?_; (case P => walk_at "m_takes"))); (try clear DN); (refine elim0 ?_; intro hN tkN FN NN DN); (simp only [List.cons_append, List.nil_append] at NN DN); (try k_sweep)))
 k_with "unpackItems ref" => ((k_dflt (refine' unpackItemsN_ ?k1 ?k2 ?k3 ?k4 ?k5 ?_; (case k1 => k_asm); (case k2 => k_asm); (case k3 => (refine News.isTup (by k_asm) (by k_mem))); (case k4 => first | exact Lo.handled (by assumption) | with_unfolding_all rfl); (case k5 => first | exact Lo.handled (by assumption) | with_unfolding_all rfl)); intro h' F' N'; (try k_sweep)))
 k_with "compareOp Eq str str" => (((with_reducible show wpAny _ _ (compareOp CmpOp.Eq (Value.str S _) _) _ _ _); (k_dflt (refine eq_str_ne hS ?_))))
 k_with "compareOp NotIn str ref" => ((k_dflt (first
     | (refine' notin_tq ?k1 ?k2 ?k3 ?_; (case k1 => exact News.isTup (by k_asm) (by k_mem)); (case k2 => kde_strs); (case k3 => exact hq))
     | (refine' notin_lq ?k1 ?k2 ?k3 ?_; (case k1 => exact News.isList (by k_asm) (by k_mem)); (case k2 => kde_strs); (case k3 => exact hq)))))
 trivial
theorem eq_rows {a b t t' : Addr} {vs us : List Value} {n n' p p' k : Nat} {rest : Led} (lo : Lo (k + 1) A) (N : News h₀ L s.heap news) (D : (adrs news).Nodup) (P : Takes news [(a, listOf #[.ref t] n), (b, listOf #[.ref t'] n'), (t, tupOf vs p), (t', tupOf us p')] rest)
    (h : Sames vs us) (q : Q (.bool true) s) : wpAny (model prog w) A (compareOp .Eq (.ref a) (.ref b)) Q E s := by
  have M := fun z hz => N z (P.mem_iff.mpr (List.mem_append_left _ hz))
  have pa := M (a, listOf #[.ref t] n) (by simp)
  have pb := M (b, listOf #[.ref t'] n') (by simp)
  have pt := M (t, tupOf vs p) (by simp)
  have pt' := M (t', tupOf us p') (by simp)
  have hne : t ≠ t' := by
    have D1 := (List.Perm.nodup_iff (P.map Prod.fst)).mp D
    rw [List.map_append] at D1
    have D2 := (List.nodup_append.mp D1).1
    simp only [List.map_cons, List.map_nil, List.nodup_cons, List.mem_cons, List.not_mem_nil, or_false] at D2
    exact fun e => D2.2.2.1 e
  have := PySem.SeqAt.RcAt.lists (A := A) (e := fun _ => true) ⟨_, pa.1, rfl, _, rfl⟩ ⟨_, pb.1, rfl, _, rfl⟩ rfl lo.line fun j h1 h2 => by
    obtain rfl : j = 0 := by simpa using h1
    exact eq_tupA (A := A.in1) ⟨_, pt.1, rfl, _, rfl⟩ ⟨_, pt'.1, rfl, _, rfl⟩ hne h (Lo.line lo.in1)
  rw [all_true] at this
  exact this prog w E Q q
theorem comp_end1 {s₁ : Shared} {h' : Heap} {tk : Nat} {I C D t ax : Addr} {oI oC oD o : Obj} {all l0 r : Led} {its : Array Value} {n : Nat} {rest : Value → Led → Prop} (off : LCg.Off3 I C D l0) (F : Fr h₀ L h' m) (N : News h₀ L h' all) (Dn : (adrs all).Nodup)
    (P : Takes all ((I, oI) :: (C, oC) :: (D, oD) :: (t, o) :: l0) r) (hm : (ax, listOf its n) ∈ l0) (hr : (adrs ((t, o) :: l0)).Nodup → rest (.ref t) ((t, o) :: l0)) :
    LCg.CompEnd h₀ L m s₁ I oI C oC D oD (LCg.SrcAt h₀ ax its) rest (.ref t) { s₁ with heap := h', toks := tk } := by
  have D1 : (adrs (((I, oI) :: (C, oC) :: (D, oD) :: (t, o) :: l0) ++ r)).Nodup := (List.Perm.nodup_iff (P.map _)).mp Dn
  unfold adrs at D1
  rw [List.map_append] at D1
  have D2 := (List.nodup_append.mp D1).1
  obtain ⟨x1, D3⟩ := List.nodup_cons.mp D2
  obtain ⟨x2, D4⟩ := List.nodup_cons.mp D3
  obtain ⟨x3, D5⟩ := List.nodup_cons.mp D4
  refine LCg.CompEnd.intro F N _ (sub_takes P) ⟨⟨fun e => x1 ?_, fun e => x2 ?_, fun e => x3 ?_⟩, off⟩ (Or.inr ⟨_, List.mem_cons_of_mem _ hm, rfl, _, rfl⟩) (hr D5)
  · have e' : t = I := e
    rw [← e']; simp
  · have e' : t = C := e
    rw [← e']; simp
  · have e' : t = D := e
    rw [← e']; simp
theorem Sames.self {vs : List Value} : Sames vs vs := by
  induction vs with
  | nil => exact .nil
  | cons v vs ih => exact .cons (Same.refl v) ih
theorem rows_same {seq ack fl : Int} {opts pl : Array UInt8} {o o' : Obj} (h : RowObj seq ack fl opts pl o) (h' : RowObj seq ack fl opts pl o') : ∃ vs us p p', o = tupOf vs p ∧ o' = tupOf us p' ∧ Sames vs us := by
  obtain ⟨a0, a1, a2, a3, a4, a5, a6, a7, a8, n, rfl⟩ := h
  obtain ⟨b0, b1, b2, b3, b4, b5, b6, b7, b8, n', rfl⟩ := h'
  exact ⟨_, _, _, _, rfl, rfl, .cons (Same.int _ _ _) (.cons (Same.int _ _ _) (.cons (Same.int _ _ _) (.cons (Same.int _ _ _) (.cons (Same.int _ _ _) (.cons (Same.int _ _ _) (.cons (Same.int _ _ _) (.cons (Same.bytes _ _ _) (.cons (Same.bytes _ _ _) .nil))))))))⟩
theorem eq_rowsO {a b t t' : Addr} {n n' k : Nat} {rest : Led} {seq ack fl : Int} {opts pl : Array UInt8} {o o' : Obj} (lo : Lo (k + 1) A) (N : News h₀ L s.heap news) (D : (adrs news).Nodup) (P : Takes news [(a, listOf #[.ref t] n), (b, listOf #[.ref t'] n'), (t, o), (t', o')] rest)
    (h : RowObj seq ack fl opts pl o) (h' : RowObj seq ack fl opts pl o') (q : Q (.bool true) s) : wpAny (model prog w) A (compareOp .Eq (.ref a) (.ref b)) Q E s := by
  obtain ⟨vs, us, p, p', rfl, rfl, hs⟩ := rows_same h h'
  exact eq_rows lo N D P hs q
theorem ne_rowsO {t t' : Addr} {k : Nat} {seq ack fl : Int} {opts pl : Array UInt8} {o o' : Obj} (lo : Lo k A) (N : News h₀ L s.heap news) (h1 : (t, o) ∈ news) (h2 : (t', o') ∈ news)
    (h : RowObj seq ack fl opts pl o) (h' : RowObj seq ack fl opts pl o') (q : Q (.bool false) s) : wpAny (model prog w) A (compareOp .NotEq (.ref t) (.ref t')) Q E s := by
  obtain ⟨vs, us, p, p', rfl, rfl, hs⟩ := rows_same h h'
  exact ne_T lo N h1 h2 hs q
end
section
variable {prog : Program} {w : World} {A : Around} {s : Shared} {h₀ : Heap} {L : Addr} {m : Str → Option Value} {env : Env}
theorem lc_row {seq ack fl : Int} {opts pl : Array UInt8} {elt : Expr} {x : Str} {scope : Scope} {cl : List (Str × Addr)} {S : Led → Prop} {sg : Addr} {Fin : List Value → Led → Prop} {news : Led}
    (turn : ∀ I oI C oC D m₂ h tk (E' : Value → Shared → Prop), LCg.NsObj oC m₂ → m₂ x = some (.ref sg) → Fr h₀ L h m → News h₀ L h ((I, oI) :: (C, oC) :: (D, LCg.lst []) :: news) → LCg.Off3 I C D news → ((@Ne Nat I C) ∧ (@Ne Nat I D) ∧ (@Ne Nat C D)) →
      wpAny (model prog w) A (eval elt (compEnvC scope cl C env)) (LCg.CompEnd h₀ L m { s with heap := h, toks := tk } I oI C oC D (LCg.lst []) S (fun y l' => ∃ t o, y = .ref t ∧ RowObj seq ack fl opts pl o ∧ (adrs ((t, o) :: news)).Nodup ∧ l' = (t, o) :: news)) E' { s with heap := h, toks := tk })
    (fin : ∀ t o, RowObj seq ack fl opts pl o → (adrs ((t, o) :: news)).Nodup → Fin [.ref t] ((t, o) :: news)) : LCg.CompRest prog w A h₀ L m env elt x scope cl s S (fun i v => (#[.ref sg] : Array Value)[i]? = some v) Fin 1 0 [] news := by
  refine LCg.CompRest.succ ?_
  intro v I oI C oC D m₂ h tk E' hv hC hx F N off ne
  obtain rfl : Value.ref sg = v := Option.some.inj hv
  refine wpAny_mono (turn I oI C oC D m₂ h tk E' hC hx F N off ne) (fun y s₂ hq => ?_) fun _ _ e => e
  obtain ⟨h', tk', l', e, F', N', off', hS, t, o, rfl, hR, hN, rfl⟩ := hq
  exact ⟨h', tk', _, e, F', N', off', hS, LCg.CompRest.zero (fin t o hR hN)⟩
theorem row_end {s₁ : Shared} {h' : Heap} {tk : Nat} {I C D t ax : Addr} {oI oC oD o : Obj} {all l0 r : Led} {its : Array Value} {n : Nat} {seq ack fl : Int} {opts pl : Array UInt8} (off : LCg.Off3 I C D l0) (F : Fr h₀ L h' m) (N : News h₀ L h' all) (Dn : (adrs all).Nodup)
    (P : Takes all ((I, oI) :: (C, oC) :: (D, oD) :: (t, o) :: l0) r) (hm : (ax, listOf its n) ∈ l0) (hR : RowObj seq ack fl opts pl o) :
    LCg.CompEnd h₀ L m s₁ I oI C oC D oD (LCg.SrcAt h₀ ax its) (fun y l' => ∃ t o, y = .ref t ∧ RowObj seq ack fl opts pl o ∧ (adrs ((t, o) :: l0)).Nodup ∧ l' = (t, o) :: l0) (.ref t) { s₁ with heap := h', toks := tk } :=
  comp_end1 off F N Dn P hm fun hN => ⟨t, o, rfl, hR, hN, rfl⟩
end
section
theorem ln_Abm_2 : True := by
 k_with "exec Assign cons ListComp" => ((k_dflt (refine LCg.Assign_ListComp_U (F₀ := by k_asm) (by rfl) (by with_unfolding_all rfl) (by with_unfolding_all rfl) (by decide) (by rfl) (by decide) (by rfl) (by rfl) (by rfl) ?_)))
 k_with "CompSrc" => ((refine stop_of ?_))
 k_with "call ref" => (((k_dflt (show wpAny _ _ (call (Value.ref 1175) [_, _, _, _, _]) _ _ _)); (k_dflt (refine' use_call (by assumption) (by assumption) (by assumption) (by assumption) ?P (fun H => stands_c (tv := []) (kvs := []) B (Lo.mono (by assumption) (by decide)) WC (by omega) (by assumption) (by assumption) Ints2.nil (Same.refl _) ?du H) ?_; (case P => walk_at "m_takes"); (case du => first | exact Same.refl _ | exact DueV.same hdue (by assumption)))); (try clear DN); (refine elim0 ?_; intro hN tkN FN NN DN); (simp only [List.cons_append, List.nil_append] at NN DN); (try k_sweep)))
 k_with "call ref" => (((k_dflt (show wpAny _ _ (call (Value.ref 891) [_, _]) _ _ _)); (k_dflt (refine' use_call (by assumption) (by assumption) (by assumption) (by assumption) ?P (fun H => abort_q B (Lo.mono (by assumption) (by decide)) W (by omega) hk hS hq H) ?_; (case P => walk_at "m_takes"))); (try clear DN); (refine elimQ ?_; intro lF nF VM WC hN tkN FN NN DN); (replace NN := news_swap NN); (replace DN := nd_swap DN); (simp only [List.append_assoc, List.cons_append, List.nil_append] at NN DN); (try k_sweep)))
 k_with "compareOp Eq ref ref" => ((k_dflt (refine' eq_L (by assumption) (by assumption) ?m1z702 ?m2z702 Sames.nil ?_; (case m1z702 => k_mem); (case m2z702 => k_mem))))
 trivial
theorem aborted_q {w : World} {mean : ExcName → Option Value} {mg mb : Str → Option Value} {hb : Heap} {s : Shared} {A : Around} {t l d : Addr} {nl : Nat} {S : Str} {tS : Tok} {pv ev due : Value} {b : Bool} {otd : Obj} {tv : List (Int × Value)} {ro : Option Int} {c : Nat} {kvs kv0 : List (Int × Int)} {V : Led}
   (B : Base (hd.heap_1 w.params) hd.view_1 LOOSE mean mg mb hb) (lo : Lo 4 A) (W : TcbIs w t S ev due ro c kvs V) (hc : c ≤ 50) (hk : ∀ p ∈ kvs, 1 ≤ p.1 ∧ p.1 ≤ 4) (hT : Times 4 w otd tv kv0) (hlo : (d == sysModules) = false) (hdue : DueV b due) (hS : S ≠ Str.ofString "closed") (hq : QUIET.any (· == S) = true)
   (H : Has hb s ((l, listOf #[.str S tS, pv, .ref d, .bool b, ev] nl) :: (d, otd) :: V)) :
   codeAny (model PR w) A (.call (.ref 1180) ⟨[.ref t, .ref l], []⟩) (Rets s ((l, listOf #[.str S tS, pv, .ref d, .bool b, ev] nl) :: (d, otd) :: V) (fun v nf => v = .bool true ∧ nf = [(l, listOf #[.str S tS, pv, .ref d, .bool b, ev] nl), (d, otd)])) s := by
  refine' enter (binds := [(Str.ofString "tcb", .ref t), (Str.ofString "told", .ref l)]) B H lo ?ho ?hcd ?hbind ?hloc ?h ?hcell ?hco ?hgen ?hk
  walk_at "m_enter"
  k_steps
  refine' LCg.CompSrc.ledger (Lo.handled (by assumption)) (by k_asm) (by k_asm) ?m ?sz ?_
  case m => k_mem
  case sz => (rw [sizeLine_eq]; exact Nat.le_of_ble_eq_true rfl)
  intro gH
  refine LCg.CompRest.zero ?_
  k_steps
  all_goals (try dsimp only)
  refine' rets_end hRR hg2 (by assumption) (by assumption) (by assumption) ⟨rfl, rfl⟩ ?p1
  walk_at "m_ends"
end
end Mine
namespace Mine
open PySem PySem.W PySem.Spec PySem.Calls PyProof.Rows
section
section
theorem ln_Abs_1 : True := by
 k_with_none
 k_with "m_enter" => ((
     case ho => k_is
     case hcd => k_is
     case hbind => first | exact BindsTo.of_eq rfl | exact binds_K (Frag.In.keeps (Base.X (by assumption)) (Has.stays (by assumption))) rfl (by k_is) rfl rfl rfl
     case hloc => exact locs rfl
     case hcell => decide
     case hco => exact rfl
     case hgen => exact rfl
     case hk => exact rfl
     intro RR hRR g L' h₁ A' lo' St hg1 hg2 F N D X T
     (try dsimp only [List.reverse, List.reverseAux, List.length] at *)))
 k_with "m_takes" => (first
     | exact Takes.nil
     | (refine' Takes.cons ?az047 ?bz047; (case az047 => walk_at "m_pull"); (case bz047 => walk_at "m_takes"))
     | (refine' Takes.app ?az047 ?bz047; (case az047 => walk_at "m_pullL"); (case bz047 => walk_at "m_takes"))
     | (refine' Takes.last ?az047; (case az047 => walk_at "m_pullL")))
 k_with "m_pull" => (first
     | exact Pull.head
     | (refine' Pull.tail ?az350; (case az350 => walk_at "m_pull"))
     | (refine' Pull.app ?az350; (case az350 => walk_at "m_pull")))
 k_with "m_pullL" => (first
     | exact PullL.head
     | exact PullL.whole
     | (refine' PullL.tail ?az531; (case az531 => walk_at "m_pullL"))
     | (refine' PullL.app ?az531; (case az531 => walk_at "m_pullL")))
 k_with "m_ends" => ((case p1 => ((try simp only [tcbLed]); (try simp only [whLed, List.append_assoc, List.cons_append, List.nil_append, List.append_nil]); (walk_at "m_takes"))))
 k_with "m_updn" => (first | exact UpdN.head | (refine' UpdN.tail ?az058; (case az058 => walk_at "m_updn")) | (refine' UpdN.app ?az058; (case az058 => walk_at "m_updn")))
 k_with "m_updg" => (first | exact UpdG.head | (refine' UpdG.tail ?az984; (case az984 => walk_at "m_updg")) | (refine' UpdG.app ?az984; (case az984 => walk_at "m_updg")))
 k_with "k_upd" => (k_dflt (refine' upd_of ?Dz233 ?Uz233; (case Dz233 => assumption); (case Uz233 => walk_at "m_updn")))
 k_with "k_updF" => (k_dflt (refine' updF_of ?Dz235 ?Uz235; (case Dz235 => assumption); (case Uz235 => walk_at "m_updg")))
 k_with "k_mem" => (first | with_reducible exact List.mem_cons_self | (with_reducible exact List.mem_append_left _ (by assumption)) | (with_reducible refine' List.mem_cons_of_mem _ ?mmz799; (case mmz799 => k_mem)) | (with_reducible refine' List.mem_append_right _ ?mmz799; (case mmz799 => k_mem)) | with_reducible assumption)
 k_with "getMethod ref" => ((k_dflt (refine' method_inst ?k1z510 ?k2z510 ?k3z510 ?k4z510 ?k5z510 ?k6z510 ?k7z510 ?_; (case k1z510 => k_asm); (case k2z510 => k_asm); (case k3z510 => k_inst); (case k4z510 => k_is); (case k5z510 => k_is); (case k6z510 => k_is); (case k7z510 => k_get); k_whole)))
 k_with "k_handed" => (assumption)
 k_with "k_units" => (first | exact Lo.line (by assumption) | exact Lo.line (Lo.in1 (by assumption)))
 k_with "k_room" => (exact Lo.room (by assumption))
 k_with "assign Tuple" => (((with_reducible show wpAny _ _ (assign (Expr.Tuple _ _ _) _ (Value.ref _)) _ _ _); k_dflt (refine' unpackN_ ?F ?N ?T ?k1 ?k2 ?k3 ?_; (case F => k_asm); (case N => k_asm); (case T => (refine News.isTup (by k_asm) (by k_mem))); (case k1 => exact Lo.handled (by assumption)); (case k2 => exact rfl); (case k3 => exact rfl)); intro h' F' N'; (try k_sweep)))
 k_with "FinA" => (((k_dflt (intro D' h' tk' F' N' o1')); (k_dflt (have Dn := nd_off (by assumption) o1')); (try k_sweep)))
 k_with "execs cons" => (((with_reducible show wpAny _ _ (execs (_ :: _) _) _ _ _); (k_dflt (refine execs_flat (s := s) ?_)); intro tkF))
 k_with "assign Tuple" => (((with_reducible show wpAny _ _ (assign (Expr.Tuple _ _ _) _ (Value.ref _)) _ _ _); k_dflt (refine' kun_list ?F ?N ?T ?k1 ?k2 ?k3 ?_; (case F => k_asm); (case N => k_asm); (case T => (refine' isList_arr (by k_asm) ?mm; (case mm => k_mem))); (case k1 => exact Lo.handled (by assumption)); (case k2 => exact rfl); (case k3 => exact rfl)); intro h' F' N'; (try k_sweep)))
 k_with "eval IfExp" => (((k_dflt (refine' due_expr (b := b) ?h0 ?_; (case h0 => (k_steps; (try exact ⟨rfl, rfl⟩))))); intro vD tkD hvD))
 k_with "call ref" => (((k_dflt (show wpAny _ _ (call (Value.ref 1175) [_, _, _, _, _]) _ _ _)); (k_dflt (refine' use_call (by assumption) (by assumption) (by assumption) (by assumption) ?P (fun H => stands_c B (Lo.mono (by assumption) (by decide)) W (by omega) hT.1 hlo hT.2.1 (Same.refl _) (DueV.same hdue (by assumption)) H) ?_; (case P => walk_at "m_takes"))); (try clear DN); (refine elim0 ?_; intro hN tkN FN NN DN); (simp only [List.cons_append, List.nil_append] at NN DN); (try k_sweep)))
 k_with "unpackItems ref" => ((k_dflt (refine' unpackItemsN_ ?k1 ?k2 ?k3 ?k4 ?k5 ?_; (case k1 => k_asm); (case k2 => k_asm); (case k3 => (refine News.isTup (by k_asm) (by k_mem))); (case k4 => first | exact Lo.handled (by assumption) | with_unfolding_all rfl); (case k5 => first | exact Lo.handled (by assumption) | with_unfolding_all rfl)); intro h' F' N'; (try k_sweep)))
 k_with "compareOp Eq str str" => (((with_reducible show wpAny _ _ (compareOp CmpOp.Eq (Value.str S _) _) _ _ _); (k_dflt (refine eq_str_ne hS ?_))))
 k_with "compareOp NotIn str ref" => ((k_dflt (first
     | (refine' notin_tq ?k1 ?k2 ?k3 ?_; (case k1 => exact News.isTup (by k_asm) (by k_mem)); (case k2 => kde_strs); (case k3 => exact hq))
     | (refine' notin_lq ?k1 ?k2 ?k3 ?_; (case k1 => exact News.isList (by k_asm) (by k_mem)); (case k2 => kde_strs); (case k3 => exact hq)))))
 k_with "getMethod ref" => ((k_dflt ((with_reducible refine' seg_row hSg ?rF ?rX ?rN ?rh1 ?rh2 ?_); (case rF => k_asm); (case rX => k_in); (case rN => k_asm); (case rh1 => k_mem); (case rh2 => k_mem))))
 k_with "exec Assign cons ListComp" => ((k_dflt (refine LCg.Assign_ListComp_U (F₀ := by k_asm) (by rfl) (by with_unfolding_all rfl) (by with_unfolding_all rfl) (by decide) (by rfl) (by decide) (by rfl) (by rfl) (by rfl) ?_)))
 k_with "CompSrc" => ((refine stop_of ?_))
 k_with "call ref" => (((k_dflt (show wpAny _ _ (call (Value.ref 1175) [_, _, _, _, _]) _ _ _)); (k_dflt (refine' use_call (by assumption) (by assumption) (by assumption) (by assumption) ?P (fun H => stands_c (tv := []) (kvs := []) B (Lo.mono (by assumption) (by decide)) WC (by omega) (by assumption) (by assumption) Ints2.nil (Same.refl _) ?du H) ?_; (case P => walk_at "m_takes"); (case du => first | exact Same.refl _ | exact DueV.same hdue (by assumption)))); (try clear DN); (refine elim0 ?_; intro hN tkN FN NN DN); (simp only [List.cons_append, List.nil_append] at NN DN); (try k_sweep)))
 k_with "call ref" => (((k_dflt (show wpAny _ _ (call (Value.ref 699) [_]) _ _ _)); (k_dflt (refine' use_call (by assumption) (by assumption) (by assumption) (by assumption) ?P (fun H => row_c B (Lo.mono (by assumption) (by decide)) hSg H) ?_; (case P => walk_at "m_takes"))); (try clear DN); (refine elimV ?_; intro tR oR hRow hN tkN FN NN DN); (simp only [List.cons_append, List.nil_append] at NN DN); (try k_sweep)))
 k_with "CompEnd" => ((k_dflt (refine' row_end off (by assumption) (by assumption) (by assumption) ?P ?hm hRow; (case P => walk_at "m_takes"); (case hm => k_mem))))
 k_with "compareOp Eq ref ref" => ((k_dflt (refine' eq_rowsO (by assumption) (by assumption) (by assumption) ?P hRow hRow2 ?_; (case P => walk_at "m_takes"))))
 k_with "call ref" => (((k_dflt (show wpAny _ _ (call (Value.ref 1170) [_, _, _, _]) _ _ _)); (k_dflt (refine' use_call (by assumption) (by assumption) (by assumption) (by assumption) Takes.nil (fun H => lrow_n (opts := #[]) B (Lo.mono (by assumption) (by decide)) (by decide) (fun h => absurd h (by decide)) (fun _ => rfl) H) ?_)); (try clear DN); (refine elimV ?_; intro tR2 oR2 hRow2 hN tkN FN NN DN); (simp only [List.cons_append, List.nil_append] at NN DN); (try k_sweep)))
 k_with "call ref" => (((k_dflt (show wpAny _ _ (call (Value.ref 891) [_, _]) _ _ _)); (k_dflt (refine' use_call (by assumption) (by assumption) (by assumption) (by assumption) ?P (fun H => abort_n B (Lo.mono (by assumption) (by decide)) W (by omega) hk hS hq H) ?_; (case P => walk_at "m_takes"))); (try clear DN); (refine elimA ?_; intro lF nF sgF dsF odF VM hSg WC hN tkN FN NN DN); (replace NN := news_swap NN); (replace DN := nd_swap DN); (simp only [List.append_assoc, List.cons_append, List.nil_append] at NN DN); (try k_sweep)))
 trivial
theorem aborted_n {w : World} {mean : ExcName → Option Value} {mg mb : Str → Option Value} {hb : Heap} {s : Shared} {A : Around} {t l d : Addr} {nl : Nat} {S : Str} {tS : Tok} {ev due : Value} {b : Bool} {otd : Obj} {tv : List (Int × Value)} {c : Nat} {kvs kv0 : List (Int × Int)} {V : Led}
   (B : Base (hd.heap_1 w.params) hd.view_1 LOOSE mean mg mb hb) (lo : Lo 5 A) (W : TcbIs w t S ev due none c kvs V) (hc : c ≤ 50) (hk : ∀ p ∈ kvs, 1 ≤ p.1 ∧ p.1 ≤ 4) (hT : Times 4 w otd tv kv0) (hlo : (d == sysModules) = false) (hdue : DueV b due) (hS : S ≠ Str.ofString "closed") (hq : QUIET.any (· == S) = false)
   (H : Has hb s ((l, listOf #[.str S tS, .none, .ref d, .bool b, ev] nl) :: (d, otd) :: V)) :
   codeAny (model PR w) A (.call (.ref 1180) ⟨[.ref t, .ref l], []⟩) (Rets s ((l, listOf #[.str S tS, .none, .ref d, .bool b, ev] nl) :: (d, otd) :: V) (fun v nf => v = .bool true ∧ nf = [(l, listOf #[.str S tS, .none, .ref d, .bool b, ev] nl), (d, otd)])) s := by
  refine' enter (binds := [(Str.ofString "tcb", .ref t), (Str.ofString "told", .ref l)]) B H lo ?ho ?hcd ?hbind ?hloc ?h ?hcell ?hco ?hgen ?hk
  walk_at "m_enter"
  k_steps
  refine' LCg.CompSrc.ledger (Lo.handled (by assumption)) (by k_asm) (by k_asm) ?m ?sz ?_
  case m => k_mem
  case sz => (rw [sizeLine_eq]; exact Nat.le_of_ble_eq_true rfl)
  intro gH
  refine' lc_row (seq := 9) (ack := 0) (fl := 4) (opts := #[]) (pl := #[]) ?turn ?fin
  case turn =>
    intro I oI C oC D2 m₂ h tk E' hoC hx F' N' off ne
    have Dn := nd_off3 (by assumption) off ne
    k_steps
  case fin =>
    intro tR oR hRow DR
    k_steps
    all_goals (try dsimp only)
    refine' rets_end hRR hg2 (by assumption) (by assumption) (by assumption) ⟨rfl, rfl⟩ ?p1
    walk_at "m_ends"
end
section
theorem ln_Abs_2 : True := by
 k_with_none
 k_with "m_enter" => ((
     case ho => k_is
     case hcd => k_is
     case hbind => first | exact BindsTo.of_eq rfl | exact binds_K (Frag.In.keeps (Base.X (by assumption)) (Has.stays (by assumption))) rfl (by k_is) rfl rfl rfl
     case hloc => exact locs rfl
     case hcell => decide
     case hco => exact rfl
     case hgen => exact rfl
     case hk => exact rfl
     intro RR hRR g L' h₁ A' lo' St hg1 hg2 F N D X T
     (try dsimp only [List.reverse, List.reverseAux, List.length] at *)))
 k_with "m_takes" => (first
     | exact Takes.nil
     | (refine' Takes.cons ?az047 ?bz047; (case az047 => walk_at "m_pull"); (case bz047 => walk_at "m_takes"))
     | (refine' Takes.app ?az047 ?bz047; (case az047 => walk_at "m_pullL"); (case bz047 => walk_at "m_takes"))
     | (refine' Takes.last ?az047; (case az047 => walk_at "m_pullL")))
 k_with "m_pull" => (first
     | exact Pull.head
     | (refine' Pull.tail ?az350; (case az350 => walk_at "m_pull"))
     | (refine' Pull.app ?az350; (case az350 => walk_at "m_pull")))
 k_with "m_pullL" => (first
     | exact PullL.head
     | exact PullL.whole
     | (refine' PullL.tail ?az531; (case az531 => walk_at "m_pullL"))
     | (refine' PullL.app ?az531; (case az531 => walk_at "m_pullL")))
 k_with "m_ends" => ((case p1 => ((try simp only [tcbLed]); (try simp only [whLed, List.append_assoc, List.cons_append, List.nil_append, List.append_nil]); (walk_at "m_takes"))))
 k_with "m_updn" => (first | exact UpdN.head | (refine' UpdN.tail ?az058; (case az058 => walk_at "m_updn")) | (refine' UpdN.app ?az058; (case az058 => walk_at "m_updn")))
 k_with "m_updg" => (first | exact UpdG.head | (refine' UpdG.tail ?az984; (case az984 => walk_at "m_updg")) | (refine' UpdG.app ?az984; (case az984 => walk_at "m_updg")))
 k_with "k_upd" => (k_dflt (refine' upd_of ?Dz233 ?Uz233; (case Dz233 => assumption); (case Uz233 => walk_at "m_updn")))
 k_with "k_updF" => (k_dflt (refine' updF_of ?Dz235 ?Uz235; (case Dz235 => assumption); (case Uz235 => walk_at "m_updg")))
 k_with "k_mem" => (first | with_reducible exact List.mem_cons_self | (with_reducible exact List.mem_append_left _ (by assumption)) | (with_reducible refine' List.mem_cons_of_mem _ ?mmz799; (case mmz799 => k_mem)) | (with_reducible refine' List.mem_append_right _ ?mmz799; (case mmz799 => k_mem)) | with_reducible assumption)
 k_with "getMethod ref" => ((k_dflt (refine' method_inst ?k1z510 ?k2z510 ?k3z510 ?k4z510 ?k5z510 ?k6z510 ?k7z510 ?_; (case k1z510 => k_asm); (case k2z510 => k_asm); (case k3z510 => k_inst); (case k4z510 => k_is); (case k5z510 => k_is); (case k6z510 => k_is); (case k7z510 => k_get); k_whole)))
 k_with "k_handed" => (assumption)
 k_with "k_units" => (first | exact Lo.line (by assumption) | exact Lo.line (Lo.in1 (by assumption)))
 k_with "k_room" => (exact Lo.room (by assumption))
 k_with "assign Tuple" => (((with_reducible show wpAny _ _ (assign (Expr.Tuple _ _ _) _ (Value.ref _)) _ _ _); k_dflt (refine' unpackN_ ?F ?N ?T ?k1 ?k2 ?k3 ?_; (case F => k_asm); (case N => k_asm); (case T => (refine News.isTup (by k_asm) (by k_mem))); (case k1 => exact Lo.handled (by assumption)); (case k2 => exact rfl); (case k3 => exact rfl)); intro h' F' N'; (try k_sweep)))
 k_with "FinA" => (((k_dflt (intro D' h' tk' F' N' o1')); (k_dflt (have Dn := nd_off (by assumption) o1')); (try k_sweep)))
 k_with "execs cons" => (((with_reducible show wpAny _ _ (execs (_ :: _) _) _ _ _); (k_dflt (refine execs_flat (s := s) ?_)); intro tkF))
 k_with "assign Tuple" => (((with_reducible show wpAny _ _ (assign (Expr.Tuple _ _ _) _ (Value.ref _)) _ _ _); k_dflt (refine' kun_list ?F ?N ?T ?k1 ?k2 ?k3 ?_; (case F => k_asm); (case N => k_asm); (case T => (refine' isList_arr (by k_asm) ?mm; (case mm => k_mem))); (case k1 => exact Lo.handled (by assumption)); (case k2 => exact rfl); (case k3 => exact rfl)); intro h' F' N'; (try k_sweep)))
 k_with "eval IfExp" => (((k_dflt (refine' due_expr (b := b) ?h0 ?_; (case h0 => (k_steps; (try exact ⟨rfl, rfl⟩))))); intro vD tkD hvD))
 k_with "call ref" => (((k_dflt (show wpAny _ _ (call (Value.ref 1175) [_, _, _, _, _]) _ _ _)); (k_dflt (refine' use_call (by assumption) (by assumption) (by assumption) (by assumption) ?P (fun H => stands_c B (Lo.mono (by assumption) (by decide)) W (by omega) hT.1 hlo hT.2.1 (Same.refl _) (DueV.same hdue (by assumption)) H) ?_; (case P => walk_at "m_takes"))); (try clear DN); (refine elim0 ?_; intro hN tkN FN NN DN); (simp only [List.cons_append, List.nil_append] at NN DN); (try k_sweep)))
 k_with "unpackItems ref" => ((k_dflt (refine' unpackItemsN_ ?k1 ?k2 ?k3 ?k4 ?k5 ?_; (case k1 => k_asm); (case k2 => k_asm); (case k3 => (refine News.isTup (by k_asm) (by k_mem))); (case k4 => first | exact Lo.handled (by assumption) | with_unfolding_all rfl); (case k5 => first | exact Lo.handled (by assumption) | with_unfolding_all rfl)); intro h' F' N'; (try k_sweep)))
 k_with "compareOp Eq str str" => (((with_reducible show wpAny _ _ (compareOp CmpOp.Eq (Value.str S _) _) _ _ _); (k_dflt (refine eq_str_ne hS ?_))))
 k_with "compareOp NotIn str ref" => ((k_dflt (first
     | (refine' notin_tq ?k1 ?k2 ?k3 ?_; (case k1 => exact News.isTup (by k_asm) (by k_mem)); (case k2 => kde_strs); (case k3 => exact hq))
     | (refine' notin_lq ?k1 ?k2 ?k3 ?_; (case k1 => exact News.isList (by k_asm) (by k_mem)); (case k2 => kde_strs); (case k3 => exact hq)))))
 k_with "getMethod ref" => ((k_dflt ((with_reducible refine' seg_row hSg ?rF ?rX ?rN ?rh1 ?rh2 ?_); (case rF => k_asm); (case rX => k_in); (case rN => k_asm); (case rh1 => k_mem); (case rh2 => k_mem))))
 k_with "exec Assign cons ListComp" => ((k_dflt (refine LCg.Assign_ListComp_U (F₀ := by k_asm) (by rfl) (by with_unfolding_all rfl) (by with_unfolding_all rfl) (by decide) (by rfl) (by decide) (by rfl) (by rfl) (by rfl) ?_)))
 k_with "CompSrc" => ((refine stop_of ?_))
 k_with "call ref" => (((k_dflt (show wpAny _ _ (call (Value.ref 1175) [_, _, _, _, _]) _ _ _)); (k_dflt (refine' use_call (by assumption) (by assumption) (by assumption) (by assumption) ?P (fun H => stands_c (tv := []) (kvs := []) B (Lo.mono (by assumption) (by decide)) WC (by omega) (by assumption) (by assumption) Ints2.nil (Same.refl _) ?du H) ?_; (case P => walk_at "m_takes"); (case du => first | exact Same.refl _ | exact DueV.same hdue (by assumption)))); (try clear DN); (refine elim0 ?_; intro hN tkN FN NN DN); (simp only [List.cons_append, List.nil_append] at NN DN); (try k_sweep)))
 k_with "call ref" => (((k_dflt (show wpAny _ _ (call (Value.ref 699) [_]) _ _ _)); (k_dflt (refine' use_call (by assumption) (by assumption) (by assumption) (by assumption) ?P (fun H => row_c B (Lo.mono (by assumption) (by decide)) hSg H) ?_; (case P => walk_at "m_takes"))); (try clear DN); (refine elimV ?_; intro tR oR hRow hN tkN FN NN DN); (simp only [List.cons_append, List.nil_append] at NN DN); (try k_sweep)))
 k_with "CompEnd" => ((k_dflt (refine' row_end off (by assumption) (by assumption) (by assumption) ?P ?hm hRow; (case P => walk_at "m_takes"); (case hm => k_mem))))
 k_with "compareOp Eq ref ref" => ((k_dflt (refine' eq_rowsO (by assumption) (by assumption) (by assumption) ?P hRow hRow2 ?_; (case P => walk_at "m_takes"))))
 k_with "zz1" => (skip)
 k_with "call ref" => (((k_dflt (show wpAny _ _ (call (Value.ref 1170) [_, _, _, _]) _ _ _)); (k_dflt (refine' use_call (by assumption) (by assumption) (by assumption) (by assumption) Takes.nil (fun H => lrow_s (opts := #[]) B (Lo.mono (by assumption) (by decide)) (by decide) (fun h => absurd h (by decide)) (fun _ => rfl) H) ?_)); (try clear DN); (refine elimV ?_; intro tR2 oR2 hRow2 hN tkN FN NN DN); (rw [(show (pl + 1) % 256 = nx from by omega), (show (4 : Int) - 4 / 16 % 2 * 16 + 16 = 20 from by decide)] at hRow2); (simp only [List.cons_append, List.nil_append] at NN DN); (try k_sweep)))
 k_with "call ref" => (((k_dflt (show wpAny _ _ (call (Value.ref 891) [_, _]) _ _ _)); (k_dflt (refine' use_call (by assumption) (by assumption) (by assumption) (by assumption) ?P (fun H => abort_s B (Lo.mono (by assumption) (by decide)) W (by omega) hk hS hq H) ?_; (case P => walk_at "m_takes"))); (try clear DN); (refine elimA ?_; intro lF nF sgF dsF odF VM hSg WC hN tkN FN NN DN); (replace NN := news_swap NN); (replace DN := nd_swap DN); (simp only [List.append_assoc, List.cons_append, List.nil_append] at NN DN); (try k_sweep)))
 trivial
theorem aborted_s {w : World} {mean : ExcName → Option Value} {mg mb : Str → Option Value} {hb : Heap} {s : Shared} {A : Around} {t l d : Addr} {nl : Nat} {S : Str} {tS : Tok} {ev due : Value} {b : Bool} {otd : Obj} {tv : List (Int × Value)} {c : Nat} {kvs kv0 : List (Int × Int)} {V : Led} {pl nx : Int} {tq : Tok}
   (B : Base (hd.heap_1 w.params) hd.view_1 LOOSE mean mg mb hb) (lo : Lo 9 A) (W : TcbIs w t S ev due (some nx) c kvs V) (hc : c ≤ 50) (hpl : pl = 255 ∧ nx = 0 ∨ pl = 40 ∧ nx = 41) (hk : ∀ p ∈ kvs, 1 ≤ p.1 ∧ p.1 ≤ 4) (hT : Times 4 w otd tv kv0) (hlo : (d == sysModules) = false) (hdue : DueV b due) (hS : S ≠ Str.ofString "closed") (hq : QUIET.any (· == S) = false)
   (H : Has hb s ((l, listOf #[.str S tS, .int pl tq, .ref d, .bool b, ev] nl) :: (d, otd) :: V)) :
   codeAny (model PR w) A (.call (.ref 1180) ⟨[.ref t, .ref l], []⟩) (Rets s ((l, listOf #[.str S tS, .int pl tq, .ref d, .bool b, ev] nl) :: (d, otd) :: V) (fun v nf => v = .bool true ∧ nf = [(l, listOf #[.str S tS, .int pl tq, .ref d, .bool b, ev] nl), (d, otd)])) s := by
  refine' enter (binds := [(Str.ofString "tcb", .ref t), (Str.ofString "told", .ref l)]) B H lo ?ho ?hcd ?hbind ?hloc ?h ?hcell ?hco ?hgen ?hk
  walk_at "m_enter"
  k_steps
  refine' LCg.CompSrc.ledger (Lo.handled (by assumption)) (by k_asm) (by k_asm) ?m ?sz ?_
  case m => k_mem
  case sz => (rw [sizeLine_eq]; exact Nat.le_of_ble_eq_true rfl)
  intro gH
  refine' lc_row (seq := 9) (ack := nx) (fl := 20) (opts := #[]) (pl := #[]) ?turn ?fin
  case turn =>
    intro I oI C oC D2 m₂ h tk E' hoC hx F' N' off ne
    have Dn := nd_off3 (by assumption) off ne
    k_steps
  case fin =>
    intro tR oR hRow DR
    k_steps
    all_goals (try dsimp only)
    refine' rets_end hRR hg2 (by assumption) (by assumption) (by assumption) ⟨rfl, rfl⟩ ?p1
    walk_at "m_ends"
end
end
end Mine
namespace Mine
open PySem PySem.W PySem.Spec PySem.Calls PyProof.Rows
theorem ln_Dee_1 : True := by
 k_with_none
 k_with "m_takes" => (first
     | exact Takes.nil
     | (refine' Takes.cons ?az047 ?bz047; (case az047 => walk_at "m_pull"); (case bz047 => walk_at "m_takes"))
     | (refine' Takes.app ?az047 ?bz047; (case az047 => walk_at "m_pullL"); (case bz047 => walk_at "m_takes"))
     | (refine' Takes.last ?az047; (case az047 => walk_at "m_pullL")))
 k_with "m_pull" => (first
     | exact Pull.head
     | (refine' Pull.tail ?az350; (case az350 => walk_at "m_pull"))
     | (refine' Pull.app ?az350; (case az350 => walk_at "m_pull")))
 k_with "m_pullL" => (first
     | exact PullL.head
     | exact PullL.whole
     | (refine' PullL.tail ?az531; (case az531 => walk_at "m_pullL"))
     | (refine' PullL.app ?az531; (case az531 => walk_at "m_pullL")))
 k_with "m_ends" => ((case p1 => ((try simp only [tcbLed]); (try simp only [whLed, List.append_assoc, List.cons_append, List.nil_append, List.append_nil]); (walk_at "m_takes"))))
 k_with "m_updn" => (first | exact UpdN.head | (refine' UpdN.tail ?az058; (case az058 => walk_at "m_updn")) | (refine' UpdN.app ?az058; (case az058 => walk_at "m_updn")))
 k_with "m_updg" => (first | exact UpdG.head | (refine' UpdG.tail ?az984; (case az984 => walk_at "m_updg")) | (refine' UpdG.app ?az984; (case az984 => walk_at "m_updg")))
 k_with "k_upd" => (k_dflt (refine' upd_of ?Dz233 ?Uz233; (case Dz233 => assumption); (case Uz233 => walk_at "m_updn")))
 k_with "k_updF" => (k_dflt (refine' updF_of ?Dz235 ?Uz235; (case Dz235 => assumption); (case Uz235 => walk_at "m_updg")))
 k_with "k_mem" => (first | with_reducible exact List.mem_cons_self | (with_reducible exact List.mem_append_left _ (by assumption)) | (with_reducible refine' List.mem_cons_of_mem _ ?mmz799; (case mmz799 => k_mem)) | (with_reducible refine' List.mem_append_right _ ?mmz799; (case mmz799 => k_mem)) | with_reducible assumption)
 k_with "k_handed" => (assumption)
 k_with "k_units" => (first | exact Lo.line (by assumption) | exact Lo.line (Lo.in1 (by assumption)))
 k_with "k_room" => (exact Lo.room (by assumption))
 k_with "assign Tuple" => (((with_reducible show wpAny _ _ (assign (Expr.Tuple _ _ _) _ (Value.ref _)) _ _ _); k_dflt (refine' unpackN_ ?F ?N ?T ?k1 ?k2 ?k3 ?_; (case F => k_asm); (case N => k_asm); (case T => (refine News.isTup (by k_asm) (by k_mem))); (case k1 => exact Lo.handled (by assumption)); (case k2 => exact rfl); (case k3 => exact rfl)); intro h' F' N'; (try k_sweep)))
 k_with "execs cons" => (((with_reducible show wpAny _ _ (execs (_ :: _) _) _ _ _); (k_dflt (refine execs_flat (s := s) ?_)); intro tkF))
 k_with "assign Tuple" => (((with_reducible show wpAny _ _ (assign (Expr.Tuple _ _ _) _ (Value.ref _)) _ _ _); k_dflt (refine' kun_list ?F ?N ?T ?k1 ?k2 ?k3 ?_; (case F => k_asm); (case N => k_asm); (case T => (refine' isList_arr (by k_asm) ?mm; (case mm => k_mem))); (case k1 => exact Lo.handled (by assumption)); (case k2 => exact rfl); (case k3 => exact rfl)); intro h' F' N'; (try k_sweep)))
 k_with "eval IfExp" => (((k_dflt (refine' due_expr (b := b) ?h0 ?_; (case h0 => (k_steps; (try exact ⟨rfl, rfl⟩))))); intro vD tkD hvD))
 k_with "call ref" => (((k_dflt (show wpAny _ _ (call (Value.ref 1175) [_, _, _, _, _]) _ _ _)); (k_dflt (refine' use_call (by assumption) (by assumption) (by assumption) (by assumption) ?P (fun H => stands_c B (Lo.mono (by assumption) (by decide)) W (by omega) hT.1 hlo hT.2.1 (Same.refl _) (DueV.same hdue (by assumption)) H) ?_; (case P => walk_at "m_takes"))); (try clear DN); (refine elim0 ?_; intro hN tkN FN NN DN); (simp only [List.cons_append, List.nil_append] at NN DN); (try k_sweep)))
 k_with "unpackItems ref" => ((k_dflt (refine' unpackItemsN_ ?k1 ?k2 ?k3 ?k4 ?k5 ?_; (case k1 => k_asm); (case k2 => k_asm); (case k3 => (refine News.isTup (by k_asm) (by k_mem))); (case k4 => first | exact Lo.handled (by assumption) | with_unfolding_all rfl); (case k5 => first | exact Lo.handled (by assumption) | with_unfolding_all rfl)); intro h' F' N'; (try k_sweep)))
 k_with "wpP" => (first | (with_reducible refine wpP_execs_step ?_) | ((with_reducible show wpP _ _ (execs [] _) _ _ _); refine wpP_of ?_))
 k_with "RestP" => ((k_dflt (first | show wpP _ _ _ _ _ _ | show RR _ _)))
 k_with "keeperOf" => ((k_dflt (first | refine keep_type ?_ | (refine' keep_fnB ?Xz322 ?ez322 ?_; (case Xz322 => k_in); (case ez322 => exact rfl)) | (refine' keep_fn ?Xz322 ?ez322 ?_; (case Xz322 => k_in); (case ez322 => k_is)) | (refine' keep_cls ?Xz322 ?mz322 ?_; (case Xz322 => k_in); (case mz322 => k_is)))))
 k_with "wpP" => (((with_reducible show wpP _ _ (execs (Stmt.Assign [Expr.Tuple _ _ _] (Expr.Tuple _ _ _) _ :: _) _) _ _ _); (with_reducible refine wpP_execs_own (wpP_Assign_swapped (names := [Str.ofString "tcb", Str.ofString "due"]) (wpP_Tuple2 (wpP_named ?_ ?hez249) ?he2z249) ?hsz249 ?hwz249)); (case hez249 => with_unfolding_all rfl); (case he2z249 => with_unfolding_all rfl); (case hsz249 => with_unfolding_all rfl); (case hwz249 => with_unfolding_all rfl)))
 k_with "wpP" => (((with_reducible show wpP _ _ (call (Value.ref 1156) [_, _, _, _, _]) _ _ _); (k_dflt (refine' use_callP (by assumption) (by assumption) (by assumption) (by assumption) ?P (fun H => made_c B (Lo.mono (by assumption) (by decide)) hpv hT hlo hev H) ?_; (case P => walk_at "m_takes"))); (try clear DN); (refine madeP_elim ?_; intro tT dueT VT hdue W hN tkN FN NN DN); (replace NN := news_swap NN); (replace DN := nd_swap DN); (simp only [List.append_assoc, List.cons_append, List.nil_append] at NN DN); (try k_sweep)))
 k_with "m_enterCP" => ((
     case ho => k_is
     case hcd => k_is
     case hbind => first | exact BindsTo.of_eq rfl | exact binds_K (Frag.In.keeps (Base.X (by assumption)) (Has.stays (by assumption))) rfl (by k_is) rfl rfl rfl
     case hkind => exact rfl
     case hnd => decide +kernel
     case hco => exact rfl
     case hgen => exact rfl
     case hk => exact rfl
     intro RR hRR g L' h₁ A' tkc cells hA' hgE lo' St hg1 hg2 F N D Y X T
     k_cells Y
     (simp only [List.cons_append, List.nil_append] at N D)
     (try dsimp only)))
 k_with "call ref" => (((k_dflt (show wpAny _ _ (call (Value.ref 1135) [_, _]) _ _ _)); (k_dflt (refine' use_call (by assumption) (by assumption) (by assumption) (by assumption) ?P (fun H => take_c B (Lo.mono (by assumption) (by decide)) ?a1 ?a2 ?ht H) ?_; (case P => walk_at "m_takes"); (case a1 => omega); (case a2 => omega); (case ht => decide))); (try clear DN); (refine take_elim ?_; intro d' td' x' tx' y' ty' hd' hx' hy' hN tkN FN NN DN); (simp only [List.cons_append, List.nil_append] at NN DN); (try k_sweep)))
 k_with "call ref" => (((k_dflt (show wpAny _ _ (call (Value.ref 1142) [_, _]) _ _ _)); (k_dflt (refine' use_call (by assumption) (by assumption) (by assumption) (by assumption) ?P (fun H => one_c B (Lo.mono (by assumption) (by decide)) ?a1 ?a2 ?a3 ?a4 H) ?_; (case P => walk_at "m_takes"); (case a1 => omega); (case a2 => omega); (case a3 => exact Nat.le_of_ble_eq_true rfl); (case a4 => exact Nat.le_of_ble_eq_true rfl))); (try clear DN); (refine one_elim ?_; intro vO xO yO txO tyO hvO hxO hyO hN tkN FN NN DN); (simp only [List.cons_append, List.nil_append] at NN DN); (try k_sweep); refine stop_of ?_))
 k_with "exec If" => ((refine wpAny_If ?_))
 k_with "execs cons" => ((with_reducible refine wpAny_execs_cons ?_))
 trivial
theorem other_of {v : Value} {t1 t2 : Tok} {s1 s2 : Str} (h : v ∈ [Value.none, .str s1 t1, .str s2 t2]) : v = .none ∨ ∃ E t, v = .str E t := by
  simp only [List.mem_cons, List.not_mem_nil, or_false] at h
  rcases h with rfl | rfl | rfl
  · exact .inl rfl
  · exact .inr ⟨_, _, rfl⟩
  · exact .inr ⟨_, _, rfl⟩
inductive DeedP (a : Addr) (n : Nat) (x : Int) (lo d : Addr × Obj) (v : Value) (nf : Led) : Prop
  | mk (e0 : v = .bool true) (q : _) (e1 : SrcNew a n x q) (e2 : nf = [q, lo, d]) : DeedP a n x lo d v nf
section
theorem ln_Dee_2 : True := by
 k_with "call ref" => (((k_dflt (show wpAny _ _ (call (Value.ref 877) [_, _]) _ _ _)); (k_dflt (first
     | (refine' use_call (by assumption) (by assumption) (by assumption) (by assumption) ?P (fun H => closed_n B (Lo.mono (by assumption) (by decide)) W (by omega) hk H) ?_; (case P => walk_at "m_takes"))
     | (refine' use_call (by assumption) (by assumption) (by assumption) (by assumption) ?P (fun H => closed_s B (Lo.mono (by assumption) (by decide)) W (by omega) hk H) ?_; (case P => walk_at "m_takes")))); (try clear DN); (refine elim1 ?_; intro nfN WC hN tkN FN NN DN); (replace NN := news_swap NN); (replace DN := nd_swap DN); (simp only [List.append_assoc, List.cons_append, List.nil_append] at NN DN); (try k_sweep)))
 k_with "call ref" => (((k_dflt (show wpAny _ _ (call (Value.ref 1175) [_, _, _, _, _]) _ _ _)); (k_dflt (refine' use_call (by assumption) (by assumption) (by assumption) (by assumption) ?P (fun H => stands_c (tv := []) (kvs := []) B (Lo.mono (by assumption) (by decide)) WC (by omega) (by assumption) (by assumption) Ints2.nil (Same.refl _) ?du H) ?_; (case P => walk_at "m_takes"); (case du => first | exact Same.refl _ | exact DueV.same hdue (by assumption)))); (try clear DN); (refine elim0 ?_; intro hN tkN FN NN DN); (simp only [List.cons_append, List.nil_append] at NN DN); (try k_sweep)))
 trivial
theorem deed0 {w : World} {mean : ExcName → Option Value} {mg mb : Str → Option Value} {hb : Heap} {s : Shared} {A : Around} {a l d : Addr} {n nl : Nat} {x y : Int} {tx ty tw : Tok} {S : Str} {tS : Tok} {pv ev : Value} {b : Bool} {otd : Obj} {tv : List (Int × Value)} {ro : Option Int} {kvs : List (Int × Int)}
   (B : Base (hd.heap_1 w.params) hd.view_1 LOOSE mean mg mb hb) (lo : Lo 9 A) (hx : 0 ≤ x) (hy : 0 ≤ y ∧ y < 2147483647) (hpv : PlaceR pv ro) (hT : Times 4 w otd tv kvs) (hlo : (d == sysModules) = false) (hev : handedIn ev = true)
   (H : Has hb s [(a, srcOf x y tx ty n), (l, listOf #[.str S tS, pv, .ref d, .bool b, ev] nl), (d, otd)]) :
   codeP (model PR w) A (.call (.ref 1185) ⟨[.ref a, .ref l, .int 0 tw], []⟩) (Rets s [(a, srcOf x y tx ty n), (l, listOf #[.str S tS, pv, .ref d, .bool b, ev] nl), (d, otd)] (DeedP a n x (l, listOf #[.str S tS, pv, .ref d, .bool b, ev] nl) (d, otd))) s := by
  have hk : ∀ p ∈ kvs, 1 ≤ p.1 ∧ p.1 ≤ 4 := fun p hp => (hT.2.2.1 p hp).1
  have hkl := hT.2.2.2.1
  refine' enterCP (binds := [(Str.ofString "source", .ref a), (Str.ofString "told", .ref l), (Str.ofString "way", .int 0 tw)]) B H lo ?ho ?hcd ?hbind ?hkind ?hnd ?h ?hco ?hgen ?hk
  walk_at "m_enterCP"
  k_steps
  unfold Stop
  rcases other_of hvO with rfl | ⟨E, tE, rfl⟩
  all_goals k_steps
  all_goals (try dsimp only)
  all_goals (refine' rets_end hRR hg2 (by assumption) (by assumption) (by assumption) ⟨rfl, _, ⟨_, _, _, _, rfl, hxO, hyO⟩, rfl⟩ ?p1; (walk_at "m_ends"))
end
end Mine
namespace Mine
open PySem PySem.W PySem.Spec PySem.Calls PyProof.Rows
theorem ln_Dee1_1 : True := by
 k_with_none
 k_with "m_takes" => (first
     | exact Takes.nil
     | (refine' Takes.cons ?az047 ?bz047; (case az047 => walk_at "m_pull"); (case bz047 => walk_at "m_takes"))
     | (refine' Takes.app ?az047 ?bz047; (case az047 => walk_at "m_pullL"); (case bz047 => walk_at "m_takes"))
     | (refine' Takes.last ?az047; (case az047 => walk_at "m_pullL")))
 k_with "m_pull" => (first
     | exact Pull.head
     | (refine' Pull.tail ?az350; (case az350 => walk_at "m_pull"))
     | (refine' Pull.app ?az350; (case az350 => walk_at "m_pull")))
 k_with "m_pullL" => (first
     | exact PullL.head
     | exact PullL.whole
     | (refine' PullL.tail ?az531; (case az531 => walk_at "m_pullL"))
     | (refine' PullL.app ?az531; (case az531 => walk_at "m_pullL")))
 k_with "m_ends" => ((case p1 => ((try simp only [tcbLed]); (try simp only [whLed, List.append_assoc, List.cons_append, List.nil_append, List.append_nil]); (walk_at "m_takes"))))
 k_with "m_updn" => (first | exact UpdN.head | (refine' UpdN.tail ?az058; (case az058 => walk_at "m_updn")) | (refine' UpdN.app ?az058; (case az058 => walk_at "m_updn")))
 k_with "m_updg" => (first | exact UpdG.head | (refine' UpdG.tail ?az984; (case az984 => walk_at "m_updg")) | (refine' UpdG.app ?az984; (case az984 => walk_at "m_updg")))
 k_with "k_upd" => (k_dflt (refine' upd_of ?Dz233 ?Uz233; (case Dz233 => assumption); (case Uz233 => walk_at "m_updn")))
 k_with "k_updF" => (k_dflt (refine' updF_of ?Dz235 ?Uz235; (case Dz235 => assumption); (case Uz235 => walk_at "m_updg")))
 k_with "k_mem" => (first | with_reducible exact List.mem_cons_self | (with_reducible exact List.mem_append_left _ (by assumption)) | (with_reducible refine' List.mem_cons_of_mem _ ?mmz799; (case mmz799 => k_mem)) | (with_reducible refine' List.mem_append_right _ ?mmz799; (case mmz799 => k_mem)) | with_reducible assumption)
 k_with "k_handed" => (assumption)
 k_with "k_units" => (first | exact Lo.line (by assumption) | exact Lo.line (Lo.in1 (by assumption)))
 k_with "k_room" => (exact Lo.room (by assumption))
 k_with "assign Tuple" => (((with_reducible show wpAny _ _ (assign (Expr.Tuple _ _ _) _ (Value.ref _)) _ _ _); k_dflt (refine' unpackN_ ?F ?N ?T ?k1 ?k2 ?k3 ?_; (case F => k_asm); (case N => k_asm); (case T => (refine News.isTup (by k_asm) (by k_mem))); (case k1 => exact Lo.handled (by assumption)); (case k2 => exact rfl); (case k3 => exact rfl)); intro h' F' N'; (try k_sweep)))
 k_with "subscriptTail Name Constant ref int" => ((k_dflt (first
     | (refine' item_M (by assumption) ?hmz616 ?h0z616 ?hhiz616 ?hxz616 ?_ ?hsz616; (case hmz616 => k_mem); (case h0z616 => decide); (case hhiz616 => decide); (case hxz616 => exact rfl); (case hsz616 => with_unfolding_all rfl))
     | (refine' item_T (by assumption) ?hmz616 ?h0z616 ?hhiz616 ?hxz616 ?_ ?hsz616; (case hmz616 => k_mem); (case h0z616 => decide); (case hhiz616 => decide); (case hxz616 => exact rfl); (case hsz616 => with_unfolding_all rfl)))))
 k_with "m_dictTail" => ((k_dflt (refine' kdt_tail (knd := PySem.intKind _ _) ?Nz296 ?mz296 ?dz296 ?_ ?hsz296; (case Nz296 => k_asm); (case mz296 => k_mem); (case dz296 => assumption); (case hsz296 => with_unfolding_all rfl))))
 k_with "execs cons" => (((with_reducible show wpAny _ _ (execs (_ :: _) _) _ _ _); (k_dflt (refine execs_flat (s := s) ?_)); intro tkF))
 k_with "assign Tuple" => (((with_reducible show wpAny _ _ (assign (Expr.Tuple _ _ _) _ (Value.ref _)) _ _ _); k_dflt (refine' kun_list ?F ?N ?T ?k1 ?k2 ?k3 ?_; (case F => k_asm); (case N => k_asm); (case T => (refine' isList_arr (by k_asm) ?mm; (case mm => k_mem))); (case k1 => exact Lo.handled (by assumption)); (case k2 => exact rfl); (case k3 => exact rfl)); intro h' F' N'; (try k_sweep)))
 k_with "eval IfExp" => (((k_dflt (refine' due_expr (b := b) ?h0 ?_; (case h0 => (k_steps; (try exact ⟨rfl, rfl⟩))))); intro vD tkD hvD))
 k_with "call ref" => (((k_dflt (show wpAny _ _ (call (Value.ref 1175) [_, _, _, _, _]) _ _ _)); (k_dflt (refine' use_call (by assumption) (by assumption) (by assumption) (by assumption) ?P (fun H => stands_c B (Lo.mono (by assumption) (by decide)) W (by omega) hT.1 hlo hT.2.1 (Same.refl _) (DueV.same hdue (by assumption)) H) ?_; (case P => walk_at "m_takes"))); (try clear DN); (refine elim0 ?_; intro hN tkN FN NN DN); (simp only [List.cons_append, List.nil_append] at NN DN); (try k_sweep)))
 k_with "unpackItems ref" => ((k_dflt (refine' unpackItemsN_ ?k1 ?k2 ?k3 ?k4 ?k5 ?_; (case k1 => k_asm); (case k2 => k_asm); (case k3 => (refine News.isTup (by k_asm) (by k_mem))); (case k4 => first | exact Lo.handled (by assumption) | with_unfolding_all rfl); (case k5 => first | exact Lo.handled (by assumption) | with_unfolding_all rfl)); intro h' F' N'; (try k_sweep)))
 k_with "wpP" => (first | (with_reducible refine wpP_execs_step ?_) | ((with_reducible show wpP _ _ (execs [] _) _ _ _); refine wpP_of ?_))
 k_with "RestP" => ((k_dflt (first | show wpP _ _ _ _ _ _ | show RR _ _)))
 k_with "keeperOf" => ((k_dflt (first | refine keep_type ?_ | (refine' keep_fnB ?Xz322 ?ez322 ?_; (case Xz322 => k_in); (case ez322 => exact rfl)) | (refine' keep_fn ?Xz322 ?ez322 ?_; (case Xz322 => k_in); (case ez322 => k_is)) | (refine' keep_cls ?Xz322 ?mz322 ?_; (case Xz322 => k_in); (case mz322 => k_is)))))
 k_with "wpP" => (((with_reducible show wpP _ _ (execs (Stmt.Assign [Expr.Tuple _ _ _] (Expr.Tuple _ _ _) _ :: _) _) _ _ _); (with_reducible refine wpP_execs_own (wpP_Assign_swapped (names := [Str.ofString "tcb", Str.ofString "due"]) (wpP_Tuple2 (wpP_named ?_ ?hez249) ?he2z249) ?hsz249 ?hwz249)); (case hez249 => with_unfolding_all rfl); (case he2z249 => with_unfolding_all rfl); (case hsz249 => with_unfolding_all rfl); (case hwz249 => with_unfolding_all rfl)))
 k_with "wpP" => (((with_reducible show wpP _ _ (call (Value.ref 1156) [_, _, _, _, _]) _ _ _); (k_dflt (refine' use_callP (by assumption) (by assumption) (by assumption) (by assumption) ?P (fun H => made_c B (Lo.mono (by assumption) (by decide)) hpv hT hlo hev H) ?_; (case P => walk_at "m_takes"))); (try clear DN); (refine madeP_elim ?_; intro tT dueT VT hdue W hN tkN FN NN DN); (replace NN := news_swap NN); (replace DN := nd_swap DN); (simp only [List.append_assoc, List.cons_append, List.nil_append] at NN DN); (try k_sweep)))
 k_with "m_enterCP" => ((
     case ho => k_is
     case hcd => k_is
     case hbind => first | exact BindsTo.of_eq rfl | exact binds_K (Frag.In.keeps (Base.X (by assumption)) (Has.stays (by assumption))) rfl (by k_is) rfl rfl rfl
     case hkind => exact rfl
     case hnd => decide +kernel
     case hco => exact rfl
     case hgen => exact rfl
     case hk => exact rfl
     intro RR hRR g L' h₁ A' tkc cells hA' hgE lo' St hg1 hg2 F N D Y X T
     k_cells Y
     (simp only [List.cons_append, List.nil_append] at N D)
     (try dsimp only)))
 k_with "call ref" => (((k_dflt (show wpAny _ _ (call (Value.ref 1135) [_, _]) _ _ _)); (k_dflt (refine' use_call (by assumption) (by assumption) (by assumption) (by assumption) ?P (fun H => take_c B (Lo.mono (by assumption) (by decide)) ?a1 ?a2 ?ht H) ?_; (case P => walk_at "m_takes"); (case a1 => omega); (case a2 => omega); (case ht => decide))); (try clear DN); (refine take_elim ?_; intro d' td' x' tx' y' ty' hd' hx' hy' hN tkN FN NN DN); (simp only [List.cons_append, List.nil_append] at NN DN); (try k_sweep)))
 k_with "call ref" => (((k_dflt (show wpAny _ _ (call (Value.ref 1142) [_, _]) _ _ _)); (k_dflt (refine' use_call (by assumption) (by assumption) (by assumption) (by assumption) ?P (fun H => one_c B (Lo.mono (by assumption) (by decide)) ?a1 ?a2 ?a3 ?a4 H) ?_; (case P => walk_at "m_takes"); (case a1 => omega); (case a2 => omega); (case a3 => exact Nat.le_of_ble_eq_true rfl); (case a4 => exact Nat.le_of_ble_eq_true rfl))); (try clear DN); (refine one_elim ?_; intro vO xO yO txO tyO hvO hxO hyO hN tkN FN NN DN); (simp only [List.cons_append, List.nil_append] at NN DN); (try k_sweep); refine stop_of ?_))
 k_with "exec If" => ((refine wpAny_If ?_))
 k_with "execs cons" => ((with_reducible refine wpAny_execs_cons ?_))
 trivial
theorem three {tv : List (Int × Value)} {kvs : List (Int × Int)} (h : Ints2 tv kvs) : (kvs.map Prod.fst).Pairwise (· < ·) → (∀ p ∈ kvs, 1 ≤ p.1 ∧ p.1 ≤ 4) →
    (valueAt tv 3 = none ∧ kvs.filter (fun p => decide (p.1 = 3)) = []) ∨ ∃ τ t, valueAt tv 3 = some (.int τ t) ∧ kvs.filter (fun p => decide (p.1 = 3)) = [(3, τ)] := by
  induction h with
  | nil => exact fun _ _ => .inl ⟨rfl, rfl⟩
  | @cons k τ t kv kvs h ih =>
    intro hp hr
    rw [List.map_cons, List.pairwise_cons] at hp
    by_cases hk : k = 3
    · subst hk
      refine .inr ⟨τ, t, by simp [valueAt], ?_⟩
      rw [List.filter_cons_of_pos (by simp)]
      congr 1
      rw [List.filter_eq_nil_iff]
      intro p hpm
      have := hp.1 p.1 (List.mem_map_of_mem hpm)
      simp only [decide_eq_true_eq]
      omega
    · have e : valueAt ((k, Value.int τ t) :: kv) 3 = valueAt kv 3 := by simp [valueAt, hk]
      rw [e, List.filter_cons_of_neg (by simpa using hk)]
      exact ih hp.2 fun p hpm => hr p (List.mem_cons_of_mem _ hpm)
theorem less_three {kvs : List (Int × Int)} (hr : ∀ p ∈ kvs, 1 ≤ p.1 ∧ p.1 ≤ 4) : less (less (less kvs 1) 2) 4 = kvs.filter (fun p => decide (p.1 = 3)) := by
  unfold less
  rw [List.filter_filter, List.filter_filter]
  refine List.filter_congr fun p hp => ?_
  have := hr p hp
  by_cases e : p.1 = 3
  · simp [e]
  · by_cases e1 : p.1 = 1
    · simp [e1]
    · by_cases e2 : p.1 = 2
      · simp [e2]
      · have e4 : p.1 = 4 := by omega
        simp [e4]
section
theorem ln_Dee1_2 : True := by
 k_with "call ref" => (((k_dflt (show wpAny _ _ (call (Value.ref 884) [_, _]) _ _ _)); (k_dflt (refine' use_call (by assumption) (by assumption) (by assumption) (by assumption) ?P (fun H => etw_c B (Lo.mono (by assumption) (by decide)) W (by omega) ?hn H) ?_; (case P => walk_at "m_takes"); (case hn => omega))); (try clear DN); (refine elim1 ?_; intro nfN WC hN tkN FN NN DN); (replace NN := news_swap NN); (replace DN := nd_swap DN); (simp only [List.append_assoc, List.cons_append, List.nil_append] at NN DN); (try k_sweep); refine stop_of ?_))
 k_with "subscriptTail Name Constant ref int" => ((walk_at "m_dictTail"))
 k_with "getItem ref int" => ((k_dflt (refine dict_item (knd := PySem.intKind _ _) (by k_asm) (by k_mem) (by k_asm) (intKind_is _ _ _ _) (by assumption) ?_)))
 k_with "compareOp In int ref" => ((k_dflt (first
     | (refine' kda_in (knd := PySem.intKind _ _) ?N ?m hdT hlo (intKind_is _ _ _ _) false ?hb ?_; (case hb => exact congrArg Option.isSome h3); (case N => k_asm); (case m => k_mem))
     | (refine' kda_in (knd := PySem.intKind _ _) ?N ?m hdT hlo (intKind_is _ _ _ _) true ?hb ?_; (case hb => exact congrArg Option.isSome h3); (case N => k_asm); (case m => k_mem)))))
 k_with "call builtin:dict.update" => (((k_dflt (first
     | (refine' upd_one ?F ?N ?U ?d ?D ?P ?de ?lo ?_; (case F => k_asm); (case N => k_asm); (case U => k_updF); (case P => walk_at "m_takes"); (case D => k_asm); (case d => k_asm); (case de => k_asm); (case lo => k_asm); intro h' o' t' F' N' hdi')
     | (refine' upd_none ?F ?N ?U ?d ?D ?P ?de ?lo ?_; (case F => k_asm); (case N => k_asm); (case U => k_updF); (case P => walk_at "m_takes"); (case D => k_asm); (case d => k_asm); (case de => k_asm); (case lo => k_asm); intro h' o' F' N' hdi'))); (try dsimp only at N'); (try k_sweep)))
 k_with "setItem ref int" => ((k_dflt (refine' kda_set (knd := PySem.intKind _ _) ?F ?N ?U ?d (intKind_is _ _ _ _) ?z ?_; (case F => k_asm); (case N => k_asm); (case U => k_updF); (case d => exact hdi'); (case z => (rw [sizeLine_eq]; exact Nat.le_of_ble_eq_true rfl))); intro h' o' F' N' hdi2'; (try dsimp only at N'); (try k_sweep)))
 k_with "call ref" => (((k_dflt (show wpAny _ _ (call (Value.ref 1175) [_, _, _, _, _]) _ _ _)); (k_dflt (refine' use_call (by assumption) (by assumption) (by assumption) (by assumption) ?P (fun H => stands_c B (Lo.mono (by assumption) (by decide)) WC (by omega) hdi2' (by assumption) ?i2 (Same.refl _) ?du H) ?_; (case P => walk_at "m_takes"); (case i2 => (rw [hless]; first | exact Ints2.cons (Ints2.cons Ints2.nil) | exact Ints2.cons Ints2.nil)); (case du => first | exact Same.refl _ | exact DueV.same hdue (by assumption)))); (try clear DN); (refine elim0 ?_; intro hN tkN FN NN DN); (simp only [List.cons_append, List.nil_append] at NN DN); (try k_sweep)))
 trivial
set_option maxHeartbeats 4000000 in
theorem deed1 {w : World} {mean : ExcName → Option Value} {mg mb : Str → Option Value} {hb : Heap} {s : Shared} {A : Around} {a l d : Addr} {n nl : Nat} {x y : Int} {tx ty tw : Tok} {S : Str} {tS : Tok} {pv ev : Value} {b : Bool} {otd : Obj} {tv : List (Int × Value)} {ro : Option Int} {kvs : List (Int × Int)}
   (B : Base (hd.heap_1 w.params) hd.view_1 LOOSE mean mg mb hb) (lo : Lo 9 A) (hx : 0 ≤ x) (hy : 0 ≤ y ∧ y < 2147483647) (hpv : PlaceR pv ro) (hT : Times 4 w otd tv kvs) (hlo : (d == sysModules) = false) (hev : handedIn ev = true)
   (H : Has hb s [(a, srcOf x y tx ty n), (l, listOf #[.str S tS, pv, .ref d, .bool b, ev] nl), (d, otd)]) :
   codeP (model PR w) A (.call (.ref 1185) ⟨[.ref a, .ref l, .int 1 tw], []⟩) (Rets s [(a, srcOf x y tx ty n), (l, listOf #[.str S tS, pv, .ref d, .bool b, ev] nl), (d, otd)] (DeedP a n x (l, listOf #[.str S tS, pv, .ref d, .bool b, ev] nl) (d, otd))) s := by
  have hk : ∀ p ∈ kvs, 1 ≤ p.1 ∧ p.1 ≤ 4 := fun p hp => (hT.2.2.1 p hp).1
  have hkl := hT.2.2.2.1
  have hdT := hT.1
  have h33 := three hT.2.1 hT.2.2.2.2 hk
  rw [← less_three hk] at h33
  refine' enterCP (binds := [(Str.ofString "source", .ref a), (Str.ofString "told", .ref l), (Str.ofString "way", .int 1 tw)]) B H lo ?ho ?hcd ?hbind ?hkind ?hnd ?h ?hco ?hgen ?hk
  walk_at "m_enterCP"
  k_steps
  unfold Stop
  rcases h33 with ⟨h3, hless⟩ | ⟨τ3, t3, h3, hless⟩
  all_goals k_steps
  all_goals (try dsimp only)
  all_goals (refine' rets_end hRR hg2 (by assumption) (by assumption) (by assumption) ⟨rfl, _, ⟨_, _, _, _, rfl, by omega, by omega⟩, rfl⟩ ?p1; (walk_at "m_ends"))
end
end Mine
namespace Mine
open PySem PySem.W PySem.Spec PySem.Calls PyProof.Rows
theorem ln_Dee2_1 : True := by
 k_with_none
 k_with "m_takes" => (first
     | exact Takes.nil
     | (refine' Takes.cons ?az047 ?bz047; (case az047 => walk_at "m_pull"); (case bz047 => walk_at "m_takes"))
     | (refine' Takes.app ?az047 ?bz047; (case az047 => walk_at "m_pullL"); (case bz047 => walk_at "m_takes"))
     | (refine' Takes.last ?az047; (case az047 => walk_at "m_pullL")))
 k_with "m_pull" => (first
     | exact Pull.head
     | (refine' Pull.tail ?az350; (case az350 => walk_at "m_pull"))
     | (refine' Pull.app ?az350; (case az350 => walk_at "m_pull")))
 k_with "m_pullL" => (first
     | exact PullL.head
     | exact PullL.whole
     | (refine' PullL.tail ?az531; (case az531 => walk_at "m_pullL"))
     | (refine' PullL.app ?az531; (case az531 => walk_at "m_pullL")))
 k_with "m_updn" => (first | exact UpdN.head | (refine' UpdN.tail ?az058; (case az058 => walk_at "m_updn")) | (refine' UpdN.app ?az058; (case az058 => walk_at "m_updn")))
 k_with "m_updg" => (first | exact UpdG.head | (refine' UpdG.tail ?az984; (case az984 => walk_at "m_updg")) | (refine' UpdG.app ?az984; (case az984 => walk_at "m_updg")))
 k_with "k_upd" => (k_dflt (refine' upd_of ?Dz233 ?Uz233; (case Dz233 => assumption); (case Uz233 => walk_at "m_updn")))
 k_with "k_updF" => (k_dflt (refine' updF_of ?Dz235 ?Uz235; (case Dz235 => assumption); (case Uz235 => walk_at "m_updg")))
 k_with "k_mem" => (first | with_reducible exact List.mem_cons_self | (with_reducible exact List.mem_append_left _ (by assumption)) | (with_reducible refine' List.mem_cons_of_mem _ ?mmz799; (case mmz799 => k_mem)) | (with_reducible refine' List.mem_append_right _ ?mmz799; (case mmz799 => k_mem)) | with_reducible assumption)
 k_with "k_handed" => (assumption)
 k_with "k_units" => (first | exact Lo.line (by assumption) | exact Lo.line (Lo.in1 (by assumption)))
 k_with "k_room" => (exact Lo.room (by assumption))
 k_with "assign Tuple" => (((with_reducible show wpAny _ _ (assign (Expr.Tuple _ _ _) _ (Value.ref _)) _ _ _); k_dflt (refine' unpackN_ ?F ?N ?T ?k1 ?k2 ?k3 ?_; (case F => k_asm); (case N => k_asm); (case T => (refine News.isTup (by k_asm) (by k_mem))); (case k1 => exact Lo.handled (by assumption)); (case k2 => exact rfl); (case k3 => exact rfl)); intro h' F' N'; (try k_sweep)))
 k_with "execs cons" => (((with_reducible show wpAny _ _ (execs (_ :: _) _) _ _ _); (k_dflt (refine execs_flat (s := s) ?_)); intro tkF))
 k_with "assign Tuple" => (((with_reducible show wpAny _ _ (assign (Expr.Tuple _ _ _) _ (Value.ref _)) _ _ _); k_dflt (refine' kun_list ?F ?N ?T ?k1 ?k2 ?k3 ?_; (case F => k_asm); (case N => k_asm); (case T => (refine' isList_arr (by k_asm) ?mm; (case mm => k_mem))); (case k1 => exact Lo.handled (by assumption)); (case k2 => exact rfl); (case k3 => exact rfl)); intro h' F' N'; (try k_sweep)))
 k_with "eval IfExp" => (((k_dflt (refine' due_expr (b := b) ?h0 ?_; (case h0 => (k_steps; (try exact ⟨rfl, rfl⟩))))); intro vD tkD hvD))
 k_with "call ref" => (((k_dflt (show wpAny _ _ (call (Value.ref 1175) [_, _, _, _, _]) _ _ _)); (k_dflt (refine' use_call (by assumption) (by assumption) (by assumption) (by assumption) ?P (fun H => stands_c B (Lo.mono (by assumption) (by decide)) W (by omega) hT.1 hlo hT.2.1 (Same.refl _) (DueV.same hdue (by assumption)) H) ?_; (case P => walk_at "m_takes"))); (try clear DN); (refine elim0 ?_; intro hN tkN FN NN DN); (simp only [List.cons_append, List.nil_append] at NN DN); (try k_sweep)))
 k_with "unpackItems ref" => ((k_dflt (refine' unpackItemsN_ ?k1 ?k2 ?k3 ?k4 ?k5 ?_; (case k1 => k_asm); (case k2 => k_asm); (case k3 => (refine News.isTup (by k_asm) (by k_mem))); (case k4 => first | exact Lo.handled (by assumption) | with_unfolding_all rfl); (case k5 => first | exact Lo.handled (by assumption) | with_unfolding_all rfl)); intro h' F' N'; (try k_sweep)))
 k_with "wpP" => (first | (with_reducible refine wpP_execs_step ?_) | ((with_reducible show wpP _ _ (execs [] _) _ _ _); refine wpP_of ?_))
 k_with "RestP" => ((k_dflt (first | show wpP _ _ _ _ _ _ | show RR _ _)))
 k_with "keeperOf" => ((k_dflt (first | refine keep_type ?_ | (refine' keep_fnB ?Xz322 ?ez322 ?_; (case Xz322 => k_in); (case ez322 => exact rfl)) | (refine' keep_fn ?Xz322 ?ez322 ?_; (case Xz322 => k_in); (case ez322 => k_is)) | (refine' keep_cls ?Xz322 ?mz322 ?_; (case Xz322 => k_in); (case mz322 => k_is)))))
 k_with "wpP" => (((with_reducible show wpP _ _ (execs (Stmt.Assign [Expr.Tuple _ _ _] (Expr.Tuple _ _ _) _ :: _) _) _ _ _); (with_reducible refine wpP_execs_own (wpP_Assign_swapped (names := [Str.ofString "tcb", Str.ofString "due"]) (wpP_Tuple2 (wpP_named ?_ ?hez249) ?he2z249) ?hsz249 ?hwz249)); (case hez249 => with_unfolding_all rfl); (case he2z249 => with_unfolding_all rfl); (case hsz249 => with_unfolding_all rfl); (case hwz249 => with_unfolding_all rfl)))
 k_with "wpP" => (((with_reducible show wpP _ _ (call (Value.ref 1156) [_, _, _, _, _]) _ _ _); (k_dflt (refine' use_callP (by assumption) (by assumption) (by assumption) (by assumption) ?P (fun H => made_c B (Lo.mono (by assumption) (by decide)) hpv hT hlo hev H) ?_; (case P => walk_at "m_takes"))); (try clear DN); (refine madeP_elim ?_; intro tT dueT VT hdue W hN tkN FN NN DN); (replace NN := news_swap NN); (replace DN := nd_swap DN); (simp only [List.append_assoc, List.cons_append, List.nil_append] at NN DN); (try k_sweep)))
 k_with "m_enterCP" => ((
     case ho => k_is
     case hcd => k_is
     case hbind => first | exact BindsTo.of_eq rfl | exact binds_K (Frag.In.keeps (Base.X (by assumption)) (Has.stays (by assumption))) rfl (by k_is) rfl rfl rfl
     case hkind => exact rfl
     case hnd => decide +kernel
     case hco => exact rfl
     case hgen => exact rfl
     case hk => exact rfl
     intro RR hRR g L' h₁ A' tkc cells hA' hgE lo' St hg1 hg2 F N D Y X T
     k_cells Y
     (simp only [List.cons_append, List.nil_append] at N D)
     (try dsimp only)))
 k_with "call ref" => (((k_dflt (show wpAny _ _ (call (Value.ref 1135) [_, _]) _ _ _)); (k_dflt (refine' use_call (by assumption) (by assumption) (by assumption) (by assumption) ?P (fun H => take_c B (Lo.mono (by assumption) (by decide)) ?a1 ?a2 ?ht H) ?_; (case P => walk_at "m_takes"); (case a1 => omega); (case a2 => omega); (case ht => decide))); (try clear DN); (refine take_elim ?_; intro d' td' x' tx' y' ty' hd' hx' hy' hN tkN FN NN DN); (simp only [List.cons_append, List.nil_append] at NN DN); (try k_sweep)))
 k_with "call ref" => (((k_dflt (show wpAny _ _ (call (Value.ref 1142) [_, _]) _ _ _)); (k_dflt (refine' use_call (by assumption) (by assumption) (by assumption) (by assumption) ?P (fun H => one_c B (Lo.mono (by assumption) (by decide)) ?a1 ?a2 ?a3 ?a4 H) ?_; (case P => walk_at "m_takes"); (case a1 => omega); (case a2 => omega); (case a3 => exact Nat.le_of_ble_eq_true rfl); (case a4 => exact Nat.le_of_ble_eq_true rfl))); (try clear DN); (refine one_elim ?_; intro vO xO yO txO tyO hvO hxO hyO hN tkN FN NN DN); (simp only [List.cons_append, List.nil_append] at NN DN); (try k_sweep); refine stop_of ?_))
 k_with "exec If" => ((refine wpAny_If ?_))
 k_with "execs cons" => ((with_reducible refine wpAny_execs_cons ?_))
 trivial
theorem aborted_c {w : World} {mean : ExcName → Option Value} {mg mb : Str → Option Value} {hb : Heap} {s : Shared} {A : Around} {t l d : Addr} {nl : Nat} {S : Str} {tS : Tok} {pv ev due : Value} {b : Bool} {otd : Obj} {tv : List (Int × Value)} {ro : Option Int} {kvs : List (Int × Int)} {V : Led} {outer : List Env}
   (B : Base (hd.heap_1 w.params) hd.view_1 LOOSE mean mg mb hb) (lo : Lo 9 A) (W : TcbIs w t S ev due ro kvs.length kvs V) (hpv : PlaceR pv ro) (hT : Times 4 w otd tv kvs) (hlo : (d == sysModules) = false) (hdue : DueV b due)
   (K : Below A hb outer s.heap) (hKD : KtsDicts (outer.filterMap (·.frame)) s.heap) (hnf : ∀ q ∈ outer.filterMap (·.frame), q ∉ adrs ((l, listOf #[.str S tS, pv, .ref d, .bool b, ev] nl) :: (d, otd) :: V))
   (H : Has hb s ((l, listOf #[.str S tS, pv, .ref d, .bool b, ev] nl) :: (d, otd) :: V)) :
   codeAny (model PR w) A (.call (.ref 1180) ⟨[.ref t, .ref l], []⟩) (RetsF (outer.filterMap (·.frame)) s ((l, listOf #[.str S tS, pv, .ref d, .bool b, ev] nl) :: (d, otd) :: V) (fun v nf => v = .bool true ∧ nf = [(l, listOf #[.str S tS, pv, .ref d, .bool b, ev] nl), (d, otd)])) s := by
  have hk : ∀ p ∈ kvs, 1 ≤ p.1 ∧ p.1 ≤ 4 := fun p hp => (hT.2.2.1 p hp).1
  have hkl := hT.2.2.2.1
  by_cases hS : S = Str.ofString "closed"
  · subst hS
    exact aborted_x B (Lo.mono lo (by decide)) W (by omega) hT hlo hdue K hKD hnf H
  · refine codeAny_mono ?_ fun r s' h => RetsF.of h
    cases hq : QUIET.any (· == S) with
    | true => exact aborted_q B (Lo.mono lo (by decide)) W (by omega) hk hT hlo hdue hS hq H
    | false =>
      rcases hpv with ⟨rfl, rfl⟩ | ⟨pl, nx, tq, rfl, hpl, rfl⟩
      · exact aborted_n B (Lo.mono lo (by decide)) W (by omega) hk hT hlo hdue hS hq H
      · exact aborted_s B lo W (by omega) hpl hk hT hlo hdue hS hq H
theorem ktsC_mem {name : Str} {scope : Scope} {L a b : Addr} {cd : Value} {outer : List Env} (hm : b ∈ (envOfC name scope L a cd :: outer).filterMap (·.frame)) : b = L ∨ b ∈ outer.filterMap (·.frame) := by
  obtain ⟨env, he, hf⟩ := List.mem_filterMap.mp hm
  rcases List.mem_cons.mp he with rfl | he
  · exact .inl (Option.some.inj hf).symm
  · exact .inr (List.mem_filterMap.mpr ⟨env, he, hf⟩)
theorem nd_takes {led fp r : Led} (D : (adrs led).Nodup) (P : Takes led fp r) : (adrs fp).Nodup := by
  have D1 : (adrs (fp ++ r)).Nodup := (List.Perm.nodup_iff (P.map _)).mp D
  unfold adrs at D1 ⊢
  rw [List.map_append] at D1
  exact (List.nodup_append.mp D1).1
theorem aborted_last {w : World} {mean : ExcName → Option Value} {mg mb : Str → Option Value} {hb g : Heap} {s s₁ : Shared} {A A' : Around} {t l d L a c : Addr} {n nl : Nat} {x y : Int} {tx ty : Tok} {S : Str} {tS : Tok} {pv ev due : Value} {b : Bool} {otd : Obj} {tv : List (Int × Value)} {ro : Option Int} {kvs : List (Int × Int)} {V fp led rest r2 : Led} {outer : List Env}
   {m : Str → Option Value} {name : Str} {scope : Scope} {cd : Value} {Q E : Value → Shared → Prop}
   (B : Base (hd.heap_1 w.params) hd.view_1 LOOSE mean mg mb hb) (lo : Lo 9 A') (W : TcbIs w t S ev due ro kvs.length kvs V) (hpv : PlaceR pv ro) (hT : Times 4 w otd tv kvs) (hlo : (d == sysModules) = false) (hdue : DueV b due) (hx : 0 ≤ x) (hy : 0 ≤ y ∧ y < 2147483647)
   (hA : A' = A.deeper (envOfC name scope L a cd)) (hk : scope.kind = .function) (hs : ∃ h tk, s₁ = { s with heap := h, toks := tk }) (K : Below A hb outer g) (KD : KtsDicts (outer.filterMap (·.frame)) g) (St : hb.StaysIn g)
   (hg2 : ∀ b o, s.heap.get? b = some o → b ∉ adrs fp → g.get? b = some o) (F : Fr g L s₁.heap m) (N : News g L s₁.heap led) (D : (adrs led).Nodup) (P : Takes led ((l, listOf #[.str S tS, pv, .ref d, .bool b, ev] nl) :: (d, otd) :: V) rest)
   (P2 : Takes led [(c, srcOf x y tx ty n), (l, listOf #[.str S tS, pv, .ref d, .bool b, ev] nl), (d, otd)] r2) (hc : (c, srcOf x y tx ty n) ∈ rest)
   (k : ∀ s', RetsF (outer.filterMap (·.frame)) s fp (DeedP c n x (l, listOf #[.str S tS, pv, .ref d, .bool b, ev] nl) (d, otd)) (.ok (.ret (.bool true))) s' → Q (.bool true) s') :
   wpAny (model PR w) A' (call (.ref 1180) [.ref t, .ref l]) Q E s₁ := by
  subst hA
  have mem : ∀ q ∈ ((l, listOf #[.str S tS, pv, .ref d, .bool b, ev] nl) :: (d, otd) :: V) ++ rest, q ∈ led := fun q hq => P.mem_iff.mpr hq
  have new : ∀ q ∈ led, q.1 ∉ outer.filterMap (·.frame) := fun q hq hm => by
    obtain ⟨o, es, k, ho, _⟩ := KD _ hm
    have := (N q hq).2.2
    rw [ho] at this; cases this
  refine wpAny_call (codeAny_mono (aborted_c B lo W hpv hT hlo hdue (below_pushC K F hk) (fun b hb' => ?_) (fun b hb' hm => ?_) (has_of St F N D P)) ?_)
  · rcases ktsC_mem hb' with rfl | z
    · obtain ⟨o, es, k, ho, hd, _⟩ := F.ns
      exact ⟨o, es, k, ho, hd⟩
    · obtain ⟨o, es, k, ho, hd⟩ := KD _ z
      exact ⟨o, es, k, F.keep _ _ ho, hd⟩
  · obtain ⟨q, hq, e⟩ := List.mem_map.mp hm
    have e' : q.1 = b := e
    have hq' := mem q (List.mem_append_left _ hq)
    rcases ktsC_mem hb' with z | z
    · exact (N q hq').2.1 (e'.trans z)
    · exact new q hq' (e' ▸ z)
  · intro r s' h
    obtain ⟨v, nf, h', tk', hr, hs', _, _, _, _, hv, hn⟩ := id h
    subst hr hv
    obtain ⟨h1, tk1, rfl⟩ := hs
    refine k s' (rets_lastF (h' := h1) ⟨tk1, rfl⟩ hg2 F N D P h ?_)
    rintro v nf ⟨rfl, rfl⟩
    refine ⟨_, ⟨rfl, _, ⟨x, y, tx, ty, rfl, ⟨hx, Int.le_refl _⟩, hy⟩, rfl⟩, nd_takes D P2, fun q hq => ⟨?_, new q (P2.mem_iff.mpr (List.mem_append_left _ hq))⟩⟩
    rcases List.mem_cons.mp hq with rfl | hq
    · exact .inr hc
    · exact .inl hq
section
theorem ln_Dee2_2 : True := by
 k_with "call ref" => (((k_dflt (show wpAny _ _ (call (Value.ref 1180) [_, _]) _ _ _)); refine stop_of ?_))
 trivial
theorem deed2 {w : World} {mean : ExcName → Option Value} {mg mb : Str → Option Value} {hb : Heap} {s : Shared} {A : Around} {a l d : Addr} {n nl : Nat} {x y : Int} {tx ty tw : Tok} {S : Str} {tS : Tok} {pv ev : Value} {b : Bool} {otd : Obj} {tv : List (Int × Value)} {ro : Option Int} {kvs : List (Int × Int)} {outer : List Env}
   (B : Base (hd.heap_1 w.params) hd.view_1 LOOSE mean mg mb hb) (lo : Lo 10 A) (hx : 0 ≤ x) (hy : 0 ≤ y ∧ y < 2147483647) (hpv : PlaceR pv ro) (hT : Times 4 w otd tv kvs) (hlo : (d == sysModules) = false) (hev : handedIn ev = true)
   (K : Below A hb outer s.heap) (hKD : KtsDicts (outer.filterMap (·.frame)) s.heap) (hnf : ∀ q ∈ outer.filterMap (·.frame), q ∉ adrs [(a, srcOf x y tx ty n), (l, listOf #[.str S tS, pv, .ref d, .bool b, ev] nl), (d, otd)])
   (H : Has hb s [(a, srcOf x y tx ty n), (l, listOf #[.str S tS, pv, .ref d, .bool b, ev] nl), (d, otd)]) :
   codeP (model PR w) A (.call (.ref 1185) ⟨[.ref a, .ref l, .int 2 tw], []⟩) (RetsF (outer.filterMap (·.frame)) s [(a, srcOf x y tx ty n), (l, listOf #[.str S tS, pv, .ref d, .bool b, ev] nl), (d, otd)] (DeedP a n x (l, listOf #[.str S tS, pv, .ref d, .bool b, ev] nl) (d, otd))) s := by
  replace K := stop_of K
  replace hKD := stop_of hKD
  replace hnf := stop_of hnf
  refine' enterCP (binds := [(Str.ofString "source", .ref a), (Str.ofString "told", .ref l), (Str.ofString "way", .int 2 tw)]) B H lo ?ho ?hcd ?hbind ?hkind ?hnd ?h ?hco ?hgen ?hk
  walk_at "m_enterCP"
  k_steps
  unfold Stop at *
  have Kg : Below A hb outer g := by rw [hgE]; exact below_hide K (hgE ▸ St) hnf
  have Dg : KtsDicts (outer.filterMap (·.frame)) g := by rw [hgE]; exact dicts_hide hKD hnf
  refine' aborted_last (c := a) (x := x) (y := y) B lo' W hpv hT hlo hdue hx hy hA' rfl ⟨_, _, rfl⟩ Kg Dg St hg2 (by assumption) (by assumption) (by assumption) ?P ?P2 ?hc ?k
  case P => walk_at "m_takes"
  case P2 => walk_at "m_takes"
  case hc => k_mem
  case k =>
    intro s' h
    exact hRR _ _ h
end
end Mine
namespace Mine
open PySem PySem.W PySem.Spec PySem.Calls PyProof.Rows
section
variable {w : World} {A : Around} {E : Value → Shared → Prop} {s : Shared} {h₀ : Heap} {L : Addr} {m : Str → Option Value} {news V rest : Led} {Q : Value → Shared → Prop}
theorem ln_Dee3_1 : True := by
 k_with_none
 k_with "m_takes" => (first
     | exact Takes.nil
     | (refine' Takes.cons ?az047 ?bz047; (case az047 => walk_at "m_pull"); (case bz047 => walk_at "m_takes"))
     | (refine' Takes.app ?az047 ?bz047; (case az047 => walk_at "m_pullL"); (case bz047 => walk_at "m_takes"))
     | (refine' Takes.last ?az047; (case az047 => walk_at "m_pullL")))
 k_with "m_pull" => (first
     | exact Pull.head
     | (refine' Pull.tail ?az350; (case az350 => walk_at "m_pull"))
     | (refine' Pull.app ?az350; (case az350 => walk_at "m_pull")))
 k_with "m_pullL" => (first
     | exact PullL.head
     | exact PullL.whole
     | (refine' PullL.tail ?az531; (case az531 => walk_at "m_pullL"))
     | (refine' PullL.app ?az531; (case az531 => walk_at "m_pullL")))
 k_with "m_ends" => ((case p1 => ((try simp only [tcbLed]); (try simp only [whLed, List.append_assoc, List.cons_append, List.nil_append, List.append_nil]); (walk_at "m_takes"))))
 k_with "m_updn" => (first | exact UpdN.head | (refine' UpdN.tail ?az058; (case az058 => walk_at "m_updn")) | (refine' UpdN.app ?az058; (case az058 => walk_at "m_updn")))
 k_with "m_updg" => (first | exact UpdG.head | (refine' UpdG.tail ?az984; (case az984 => walk_at "m_updg")) | (refine' UpdG.app ?az984; (case az984 => walk_at "m_updg")))
 k_with "k_upd" => (k_dflt (refine' upd_of ?Dz233 ?Uz233; (case Dz233 => assumption); (case Uz233 => walk_at "m_updn")))
 k_with "k_updF" => (k_dflt (refine' updF_of ?Dz235 ?Uz235; (case Dz235 => assumption); (case Uz235 => walk_at "m_updg")))
 k_with "k_mem" => (first | with_reducible exact List.mem_cons_self | (with_reducible exact List.mem_append_left _ (by assumption)) | (with_reducible refine' List.mem_cons_of_mem _ ?mmz799; (case mmz799 => k_mem)) | (with_reducible refine' List.mem_append_right _ ?mmz799; (case mmz799 => k_mem)) | with_reducible assumption)
 k_with "getMethod ref" => ((k_dflt (refine' method_inst ?k1z510 ?k2z510 ?k3z510 ?k4z510 ?k5z510 ?k6z510 ?k7z510 ?_; (case k1z510 => k_asm); (case k2z510 => k_asm); (case k3z510 => k_inst); (case k4z510 => k_is); (case k5z510 => k_is); (case k6z510 => k_is); (case k7z510 => k_get); k_whole)))
 k_with "k_handed" => (assumption)
 k_with "k_units" => (first | exact Lo.line (by assumption) | exact Lo.line (Lo.in1 (by assumption)))
 k_with "k_room" => (exact Lo.room (by assumption))
 k_with "assign Tuple" => (((with_reducible show wpAny _ _ (assign (Expr.Tuple _ _ _) _ (Value.ref _)) _ _ _); k_dflt (refine' unpackN_ ?F ?N ?T ?k1 ?k2 ?k3 ?_; (case F => k_asm); (case N => k_asm); (case T => (refine News.isTup (by k_asm) (by k_mem))); (case k1 => exact Lo.handled (by assumption)); (case k2 => exact rfl); (case k3 => exact rfl)); intro h' F' N'; (try k_sweep)))
 k_with "m_dictTail" => ((k_dflt (refine' kdt_tail (knd := PySem.intKind _ _) ?Nz296 ?mz296 ?dz296 ?_ ?hsz296; (case Nz296 => k_asm); (case mz296 => k_mem); (case dz296 => assumption); (case hsz296 => with_unfolding_all rfl))))
 k_with "execs nil" => ((with_reducible refine wpAny_execs_nil ?_))
 k_with "callWith ref" => (first
     | ((with_reducible show wpAny _ _ (callWith _ _ _ (backTo _ (starEach (_ :: _) _)) []) _ _ _); (k_dflt (refine' callWith_K ?k1z512 ?k2z512 ?_; (case k1z512 => k_asm); (case k2z512 => k_is); k_whole)))
     | ((with_reducible show wpAny _ _ (callWith _ _ _ (backTo _ (starEach [] _)) []) _ _ _); (k_dflt (refine' callWith_K0 ?k1z512 ?k2z512 ?_; (case k1z512 => k_in); (case k2z512 => k_is); k_whole))))
 k_with "k_in" => (with_reducible first | assumption | exact Frag.In.keeps (by assumption) (Fr.keep (by assumption)))
 k_with "assign Tuple" => (((with_reducible show wpAny _ _ (assign (Expr.Tuple _ _ _) _ (Value.ref _)) _ _ _); k_dflt (refine' kun_list ?F ?N ?T ?k1 ?k2 ?k3 ?_; (case F => k_asm); (case N => k_asm); (case T => (refine' isList_arr (by k_asm) ?mm; (case mm => k_mem))); (case k1 => exact Lo.handled (by assumption)); (case k2 => exact rfl); (case k3 => exact rfl)); intro h' F' N'; (try k_sweep)))
 k_with "eval IfExp" => (((k_dflt (refine' due_expr (b := b) ?h0 ?_; (case h0 => (k_steps; (try exact ⟨rfl, rfl⟩))))); intro vD tkD hvD))
 k_with "call ref" => (((k_dflt (show wpAny _ _ (call (Value.ref 1175) [_, _, _, _, _]) _ _ _)); (k_dflt (refine' use_call (by assumption) (by assumption) (by assumption) (by assumption) ?P (fun H => stands_c B (Lo.mono (by assumption) (by decide)) W (by omega) hT.1 hlo hT.2.1 (Same.refl _) (DueV.same hdue (by assumption)) H) ?_; (case P => walk_at "m_takes"))); (try clear DN); (refine elim0 ?_; intro hN tkN FN NN DN); (simp only [List.cons_append, List.nil_append] at NN DN); (try k_sweep)))
 k_with "unpackItems ref" => ((k_dflt (refine' unpackItemsN_ ?k1 ?k2 ?k3 ?k4 ?k5 ?_; (case k1 => k_asm); (case k2 => k_asm); (case k3 => (refine News.isTup (by k_asm) (by k_mem))); (case k4 => first | exact Lo.handled (by assumption) | with_unfolding_all rfl); (case k5 => first | exact Lo.handled (by assumption) | with_unfolding_all rfl)); intro h' F' N'; (try k_sweep)))
 k_with "wpP" => (first | (with_reducible refine wpP_execs_step ?_) | ((with_reducible show wpP _ _ (execs [] _) _ _ _); refine wpP_of ?_))
 k_with "RestP" => ((k_dflt (first | show wpP _ _ _ _ _ _ | show RR _ _)))
 k_with "keeperOf" => ((k_dflt (first | refine keep_type ?_ | (refine' keep_fnB ?Xz322 ?ez322 ?_; (case Xz322 => k_in); (case ez322 => exact rfl)) | (refine' keep_fn ?Xz322 ?ez322 ?_; (case Xz322 => k_in); (case ez322 => k_is)) | (refine' keep_cls ?Xz322 ?mz322 ?_; (case Xz322 => k_in); (case mz322 => k_is)))))
 k_with "wpP" => (((with_reducible show wpP _ _ (execs (Stmt.Assign [Expr.Tuple _ _ _] (Expr.Tuple _ _ _) _ :: _) _) _ _ _); (with_reducible refine wpP_execs_own (wpP_Assign_swapped (names := [Str.ofString "tcb", Str.ofString "due"]) (wpP_Tuple2 (wpP_named ?_ ?hez249) ?he2z249) ?hsz249 ?hwz249)); (case hez249 => with_unfolding_all rfl); (case he2z249 => with_unfolding_all rfl); (case hsz249 => with_unfolding_all rfl); (case hwz249 => with_unfolding_all rfl)))
 k_with "wpP" => (((with_reducible show wpP _ _ (call (Value.ref 1156) [_, _, _, _, _]) _ _ _); (k_dflt (refine' use_callP (by assumption) (by assumption) (by assumption) (by assumption) ?P (fun H => made_c B (Lo.mono (by assumption) (by decide)) hpv hT hlo hev H) ?_; (case P => walk_at "m_takes"))); (try clear DN); (refine madeP_elim ?_; intro tT dueT VT hdue W hN tkN FN NN DN); (replace NN := news_swap NN); (replace DN := nd_swap DN); (simp only [List.append_assoc, List.cons_append, List.nil_append] at NN DN); (try k_sweep)))
 k_with "m_enterCP" => ((
     case ho => k_is
     case hcd => k_is
     case hbind => first | exact BindsTo.of_eq rfl | exact binds_K (Frag.In.keeps (Base.X (by assumption)) (Has.stays (by assumption))) rfl (by k_is) rfl rfl rfl
     case hkind => exact rfl
     case hnd => decide +kernel
     case hco => exact rfl
     case hgen => exact rfl
     case hk => exact rfl
     intro RR hRR g L' h₁ A' tkc cells hA' hgE lo' St hg1 hg2 F N D Y X T
     k_cells Y
     (simp only [List.cons_append, List.nil_append] at N D)
     (try dsimp only)))
 k_with "call ref" => (((k_dflt (show wpAny _ _ (call (Value.ref 1135) [_, _]) _ _ _)); (k_dflt (refine' use_call (by assumption) (by assumption) (by assumption) (by assumption) ?P (fun H => take_c B (Lo.mono (by assumption) (by decide)) ?a1 ?a2 ?ht H) ?_; (case P => walk_at "m_takes"); (case a1 => omega); (case a2 => omega); (case ht => decide))); (try clear DN); (refine take_elim ?_; intro d' td' x' tx' y' ty' hd' hx' hy' hN tkN FN NN DN); (simp only [List.cons_append, List.nil_append] at NN DN); (try k_sweep)))
 k_with "call ref" => (((k_dflt (show wpAny _ _ (call (Value.ref 1142) [_, _]) _ _ _)); (k_dflt (refine' use_call (by assumption) (by assumption) (by assumption) (by assumption) ?P (fun H => one_c B (Lo.mono (by assumption) (by decide)) ?a1 ?a2 ?a3 ?a4 H) ?_; (case P => walk_at "m_takes"); (case a1 => omega); (case a2 => omega); (case a3 => exact Nat.le_of_ble_eq_true rfl); (case a4 => exact Nat.le_of_ble_eq_true rfl))); (try clear DN); (refine one_elim ?_; intro vO xO yO txO tyO hvO hxO hyO hN tkN FN NN DN); (simp only [List.cons_append, List.nil_append] at NN DN); (try k_sweep); refine stop_of ?_))
 k_with "exec If" => ((refine wpAny_If ?_))
 trivial
theorem meth_make {pl : Sem Bool} {Q : Value × List Value → Shared → Prop} {t : Addr} {S : Str} {ev due : Value} {ro : Option Int} {c : Nat} {kvs : List (Int × Int)} (W : TcbIs w t S ev due ro c kvs V) (F : Fr h₀ L s.heap m) (X : (hd.heap_1 w.params).In h₀) (N : News h₀ L s.heap news) (P : PullL V news rest)
    (h : Q (.ref 863, [.ref t]) s) : wpAny (model PR w) A (getMethod (.ref t) (Str.ofString "make") pl) Q E s := by
  revert P
  refine TcbIs.elim (G := fun V => PullL V news rest → _) W ?_
  intro dt odt lim dlim odl loc rem v1 v2 tl tr n1 n2 snd dsnd ods ac dac oda RL WL wh rv hT _ _ _ _ _ P
  exact tcb_make hT F X N (pull_all P (List.mem_cons_self ..)) (pull_all P (List.mem_cons_of_mem _ (List.mem_cons_self ..))) h
theorem reps_ints {n : Nat} {t : Tok} : IntsAre (List.replicate n [Value.int 65 t]).flatten (List.replicate n 65) := by
  induction n with
  | zero => exact IntsAre.nil
  | succ n ih => exact IntsAre.cons _ _ ih
theorem mul_reps {l : Addr} {n : Nat} {x : Int} {t u : Tok} (F : Fr h₀ L s.heap m) (N : News h₀ L s.heap news) (D : (adrs news).Nodup) (hm : (l, listOf #[Value.int 65 t] n) ∈ news) (hx : 0 ≤ x ∧ x < 200)
    (h : ∀ D h', Fr h₀ L h' m → News h₀ L h' ((D, listOf (List.replicate x.toNat [Value.int 65 t]).flatten.toArray 0) :: news) → (adrs ((D, listOf (List.replicate x.toNat [Value.int 65 t]).flatten.toArray 0) :: news)).Nodup → Q (.ref D) { s with heap := h' }) :
    wpAny (model PR w) A (binaryOp .Mult (.ref l) (.int x u)) Q E s :=
  KMa.mul (vs := [Value.int 65 t]) F N (News.isList N hm) (by omega) (by omega) (by simp only [List.length_cons, List.length_nil]; omega) rfl fun D' h' F' N' hlt => h D' h' F' N' (nd_new D hlt)
theorem byte_reps {l : Addr} {n k : Nat} {x : Int} {t : Tok} (lo : Lo k A) (F : Fr h₀ L s.heap m) (N : News h₀ L s.heap news) (hm : (l, listOf (List.replicate x.toNat [Value.int 65 t]).flatten.toArray n) ∈ news) (hx : 0 ≤ x ∧ x < 200)
    (h : ∀ h' t' tk, Fr h₀ L h' m → News h₀ L h' news → Q (.bytes (byteArr (List.replicate x.toNat 65)) t') { s with heap := h', toks := tk }) :
    wpAny (model PR w) A (call (.type "bytes") [.ref l]) Q E s :=
  bytes_M lo F N hm reps_ints (by unfold KBa.In; intro y hy; rw [List.eq_of_mem_replicate hy]; decide) (by rw [List.length_replicate]; omega) rfl h
end
theorem Ints2.filter {tv : List (Int × Value)} {kvs : List (Int × Int)} (f : Int → Bool) (h : Ints2 tv kvs) : Ints2 (tv.filter fun p => f p.1) (kvs.filter fun p => f p.1) := by
  induction h with
  | nil => exact .nil
  | @cons k τ t kv kvs h ih =>
    cases e : f k with
    | true => rw [List.filter_cons_of_pos (by simpa using e), List.filter_cons_of_pos (by simpa using e)]; exact .cons ih
    | false => rw [List.filter_cons_of_neg (by simpa using e), List.filter_cons_of_neg (by simpa using e)]; exact ih
theorem keep_n {tv : List (Int × Value)} {kvs : List (Int × Int)} (h : Ints2 tv kvs) : Ints2 (tv.filter (keepB true)) kvs := by
  have e : tv.filter (keepB true) = tv := List.filter_eq_self.mpr (fun p _ => rfl)
  rw [e]; exact h
theorem keep_s {tv : List (Int × Value)} {kvs : List (Int × Int)} (h : Ints2 tv kvs) : Ints2 (tv.filter (keepB false)) (less kvs 3) := h.filter fun k => decide (k ≠ 3)
structure FlagsOk (fl fl' z : Int) (opts : Array UInt8) : Prop where
  hfl : 0 ≤ fl ∧ fl ≤ 100
  hz : Builtin.bitAnd fl 2 = z
  hor : Builtin.bitOr fl 16 = fl'
  hz2 : Builtin.bitAnd fl' 2 = z
  ho0 : z = 0 → opts = #[]
  ho1 : z ≠ 0 → opts = #[2, 4, 0, 4]
  hp1 : fl / 2 % 2 = 1 → opts = #[2, 4, 0, 4]
  hp0 : fl / 2 % 2 ≠ 1 → opts = #[]
  he : fl - fl / 16 % 2 * 16 + 16 = fl'
theorem flags_elim {t0 t1 t2 t3 t4 : Tok} {G : Value → Prop} (k : ∀ fl t fl' z opts, FlagsOk fl fl' z opts → G (.int fl t)) : ∀ v, v ∈ [Value.int 16 t0, .int 2 t1, .int 18 t2, .int 17 t3, .int 0 t4] → G v := by
  intro v h
  simp only [List.mem_cons, List.not_mem_nil, or_false] at h
  rcases h with rfl | rfl | rfl | rfl | rfl
  · exact k 16 _ 16 0 #[] ⟨by decide, by decide, by decide, by decide, fun _ => rfl, fun h => absurd rfl h, fun h => absurd h (by decide), fun _ => rfl, by decide⟩
  · exact k 2 _ 18 2 _ ⟨by decide, by decide, by decide, by decide, fun h => absurd h (by decide), fun _ => rfl, fun _ => rfl, fun h => absurd (by decide) h, by decide⟩
  · exact k 18 _ 18 2 _ ⟨by decide, by decide, by decide, by decide, fun h => absurd h (by decide), fun _ => rfl, fun _ => rfl, fun h => absurd (by decide) h, by decide⟩
  · exact k 17 _ 17 0 #[] ⟨by decide, by decide, by decide, by decide, fun _ => rfl, fun h => absurd rfl h, fun h => absurd h (by decide), fun _ => rfl, by decide⟩
  · exact k 0 _ 16 0 #[] ⟨by decide, by decide, by decide, by decide, fun _ => rfl, fun h => absurd rfl h, fun h => absurd h (by decide), fun _ => rfl, by decide⟩
def dueR (ro : Option Int) (due : Value) : Value := match ro with | none => due | some _ => .none
def kvR (ro : Option Int) (kvs : List (Int × Int)) : List (Int × Int) := match ro with | none => kvs | some _ => less kvs 3
def ackR (ro : Option Int) : Int := match ro with | none => 0 | some x => x
def flR (ro : Option Int) (fl fl' : Int) : Int := match ro with | none => fl | some _ => fl'
theorem keep_r {ro : Option Int} {tv : List (Int × Value)} {kvs : List (Int × Int)} (h : Ints2 tv kvs) : Ints2 (tv.filter (keepB ro.isNone)) (kvR ro kvs) := by
  cases ro with
  | none => exact keep_n h
  | some x => exact keep_s h
theorem due_keep {ro : Option Int} {v : Value} (h : ro.isNone = true) : v = dueR ro v := by
  cases ro with
  | none => rfl
  | some x => cases h
theorem due_drop {ro : Option Int} {v : Value} (h : ro.isNone = false) : Value.none = dueR ro v := by
  cases ro with
  | none => cases h
  | some x => rfl
theorem due_same {ro : Option Int} {b : Bool} {v v' : Value} (h : DueV b v) (h' : DueV b v') : Same (dueR ro v) (dueR ro v') := by
  cases ro with
  | none => exact DueV.same h h'
  | some x => exact Same.refl _
theorem PlaceR.is {pv : Value} {ro : Option Int} (h : PlaceR pv ro) : (pv == .none) = ro.isNone := by
  rcases h with ⟨rfl, rfl⟩ | ⟨p, nx, t, rfl, _, rfl⟩ <;> rfl
theorem is_place {M : Model} {A : Around} {E : Value → Shared → Prop} {s : Shared} {pv : Value} {ro : Option Int} {Q : Value → Shared → Prop} (hp : PlaceR pv ro) (h : Q (.bool ro.isNone) s) : wpAny M A (compareOp .Is pv .none) Q E s := is_none_gen (by rw [hp.is]; exact h)
section
variable {w : World} {mean : ExcName → Option Value} {mg mb : Str → Option Value} {hb : Heap} {s : Shared} {A : Around}
theorem make_r {t : Addr} {S : Str} {ev due : Value} {ro : Option Int} {c : Nat} {fl fl' seq z : Int} {kvs : List (Int × Int)} {V : Led} {opts pl : Array UInt8} {tf ts tp : Tok}
   (B : Base (hd.heap_1 w.params) hd.view_1 LOOSE mean mg mb hb) (lo : Lo 7 A) (W : TcbIs w t S ev due ro c kvs V) (hc : c ≤ 50) (f : FlagsOk fl fl' z opts) (H : Has hb s V) :
   codeAny (model PR w) A (.call (.ref 863) ⟨[.ref t, .int fl tf, .int seq ts, .bytes pl tp], []⟩) (Rets s V (Made w t S ev (dueR ro due) ro c (kvR ro kvs) seq (ackR ro) (flR ro fl fl') opts pl)) s := by
  cases ro with
  | none => exact make_n B (Lo.mono lo (by decide)) W (Or.inl rfl) f.hz f.ho0 f.ho1 H
  | some nx => exact make_s B lo W hc f.hor (Or.inl rfl) f.hz2 f.ho0 f.ho1 H
theorem lrow_r {pv : Value} {ro : Option Int} {fl fl' seq z : Int} {opts pl : Array UInt8} {tf ts tp : Tok}
   (B : Base (hd.heap_1 w.params) hd.view_1 LOOSE mean mg mb hb) (lo : Lo 1 A) (hp : PlaceR pv ro) (f : FlagsOk fl fl' z opts) (H : Has hb s []) :
   codeAny (model PR w) A (.call (.ref 1170) ⟨[pv, .int seq ts, .int fl tf, .bytes pl tp], []⟩) (Rets s [] (fun v nf => ∃ t o, v = .ref t ∧ RowObj seq (ackR ro) (flR ro fl fl') opts pl o ∧ nf = [(t, o)])) s := by
  rcases hp with ⟨rfl, rfl⟩ | ⟨p, nx, tq, rfl, hpl, rfl⟩
  · exact lrow_n B lo f.hfl f.hp1 f.hp0 H
  · have h := lrow_s (place := p) (seq := seq) (tq := tq) (ts := ts) (tf := tf) (tp := tp) (pl := pl) B lo f.hfl f.hp1 f.hp0 H
    rw [f.he, (show (p + 1) % 256 = nx from by omega)] at h
    exact h
end
section
theorem ln_Dee3_2 : True := by
 k_with "getMethod ref" => ((k_dflt (first
     | (refine' meth_make W ?F ?X ?N ?P ?_; (case F => k_asm); (case X => k_in); (case N => k_asm); (case P => walk_at "m_pullL"))
     | (refine' seg_row hSg ?F ?X ?N ?h1 ?h2 ?_; (case F => k_asm); (case X => k_in); (case N => k_asm); (case h1 => k_mem); (case h2 => k_mem)))))
 k_with "binaryOp Mult ref int" => ((k_dflt (refine' mul_reps (by assumption) (by assumption) (by assumption) ?m ?b ?_; (case m => k_mem); (case b => omega)); intro D' h' F' N' Dn; (try k_sweep)))
 k_with "call type:bytes" => ((k_dflt (refine' byte_reps (by assumption) (by assumption) (by assumption) ?m ?b ?_; (case m => k_mem); (case b => omega)); intro h' t' tk' F' N'; (try k_sweep)))
 k_with "call ref" => (((k_dflt (show wpAny _ _ (call (Value.ref 863) [_, _, _, _]) _ _ _)); (k_dflt (refine' use_call (by assumption) (by assumption) (by assumption) (by assumption) ?P (fun H => make_r B (Lo.mono (by assumption) (by decide)) W (by omega) hF H) ?_; (case P => walk_at "m_takes"))); (try clear DN); (refine made_elim ?_; intro sg dsg odg VM hSg WM hN tkN FN NN DN); (replace NN := news_swap NN); (replace DN := nd_swap DN); (simp only [List.append_assoc, List.cons_append, List.nil_append] at NN DN); (try k_sweep)))
 k_with "call ref" => (((k_dflt (show wpAny _ _ (call (Value.ref 699) [_]) _ _ _)); (k_dflt (refine' use_call (by assumption) (by assumption) (by assumption) (by assumption) ?P (fun H => row_c B (Lo.mono (by assumption) (by decide)) hSg H) ?_; (case P => walk_at "m_takes"))); (try clear DN); (refine elimV ?_; intro tR oR hRow hN tkN FN NN DN); (simp only [List.cons_append, List.nil_append] at NN DN); (try k_sweep)))
 k_with "call ref" => (((k_dflt (show wpAny _ _ (call (Value.ref 1170) [_, _, _, _]) _ _ _)); (k_dflt (refine' use_call (by assumption) (by assumption) (by assumption) (by assumption) Takes.nil (fun H => lrow_r B (Lo.mono (by assumption) (by decide)) hpv hF H) ?_)); (try clear DN); (refine elimV ?_; intro tR2 oR2 hRow2 hN tkN FN NN DN); (simp only [List.cons_append, List.nil_append] at NN DN); (try k_sweep)))
 k_with "compareOp NotEq ref ref" => (((k_dflt (refine' ne_rowsO (by assumption) (by assumption) ?m1 ?m2 hRow hRow2 ?_; (case m1 => k_mem); (case m2 => k_mem)))))
 k_with "eval ListComp" => ((refine stop_of ?_))
 k_with "call type:dict" => ((k_dflt (refine' dict_pairs (Lo.handled (by assumption)) ?F ?N T.nolimit ?m hPP (keep_nodup (Ints2.keys_nodup hT.2.1 hT.2.2.2.2)) ?hz ?_; (case F => k_asm); (case N => k_asm); (case m => k_mem); (case hz => exact hkz _)); intro d' h' o' tk' F' N' hlt' hlo2 hdi2; (k_lt hlt'); (try k_sweep)))
 k_with "subscriptTail Name Name ref int" => ((walk_at "m_dictTail"))
 k_with "getItem ref int" => ((k_dflt (refine dict_item (knd := PySem.intKind _ _) (by k_asm) (by k_mem) (by k_asm) (intKind_is _ _ _ _) (by assumption) ?_)))
 k_with "call ref" => (((k_dflt (show wpAny _ _ (call (Value.ref 1175) [_, _, _, _, _]) _ _ _)); (k_dflt (refine' use_call (by assumption) (by assumption) (by assumption) (by assumption) ?P (fun H => stands_c B (Lo.mono (by assumption) (by decide)) WM (by omega) hdi2 hlo2 hI2 (Same.refl _) (due_same hdue hvD) H) ?_; (case P => walk_at "m_takes"))); (try clear DN); (refine elim0 ?_; intro hN tkN FN NN DN); (simp only [List.cons_append, List.nil_append] at NN DN); (try k_sweep)))
 k_with "LcDictT" => ((refine stop_of ?_))
 k_with "CEnd" => ((k_dflt (refine' CEnd.intro (by assumption) (by assumption) (by assumption) ?Pz925 ?rz925; (case Pz925 => walk_at "m_takes"); (case rz925 => first | exact ⟨_, _, _, rfl, rfl⟩ | exact rfl))))
 k_with "And" => ((refine' ⟨?kbz708, ?_⟩; (case kbz708 => first | exact rfl | (simp only [keepB]; simp [*])); (first | rw [if_pos rfl] | rw [if_neg (by decide)] | split)))
 k_with "compareOp Is" => ((k_dflt (refine is_place (by assumption) ?_)))
 k_with "eval IfExp" => (((with_reducible show wpAny _ _ (eval (Expr.IfExp (Expr.Compare _ _ _ _) _ _ _) _) _ _ _); (k_dflt (refine' if_join (fun _ => dueR ro vD) ?oF ?oN ?wh ?wk; (case oF => k_asm); (case oN => k_asm)); (case' wk => (intro tOp hOp tkO F' N'; (try dsimp only); (try k_sweep))))))
 k_with "ValAt" => ((k_dflt (refine' ValAt.mk 0 _ _ ?bE rfl ?bF ?bN; (case bE => first | exact due_keep (by assumption) | exact due_drop (by assumption)); (case bF => k_asm); (case bN => k_asm))))
 trivial
set_option maxHeartbeats 4000000 in
theorem deed3 {w : World} {mean : ExcName → Option Value} {mg mb : Str → Option Value} {hb : Heap} {s : Shared} {A : Around} {a l d : Addr} {n nl : Nat} {x y : Int} {tx ty tw : Tok} {S : Str} {tS : Tok} {pv ev : Value} {b : Bool} {otd : Obj} {tv : List (Int × Value)} {ro : Option Int} {kvs : List (Int × Int)}
   (B : Base (hd.heap_1 w.params) hd.view_1 LOOSE mean mg mb hb) (lo : Lo 9 A) (hx : 0 ≤ x) (hy : 0 ≤ y ∧ y < 2147483647) (hpv : PlaceR pv ro) (hT : Times 4 w otd tv kvs) (hlo : (d == sysModules) = false) (hev : handedIn ev = true)
   (H : Has hb s [(a, srcOf x y tx ty n), (l, listOf #[.str S tS, pv, .ref d, .bool b, ev] nl), (d, otd)]) :
   codeP (model PR w) A (.call (.ref 1185) ⟨[.ref a, .ref l, .int 3 tw], []⟩) (Rets s [(a, srcOf x y tx ty n), (l, listOf #[.str S tS, pv, .ref d, .bool b, ev] nl), (d, otd)] (DeedP a n x (l, listOf #[.str S tS, pv, .ref d, .bool b, ev] nl) (d, otd))) s := by
  have hk : ∀ p ∈ kvs, 1 ≤ p.1 ∧ p.1 ≤ 4 := fun p hp => (hT.2.2.1 p hp).1
  have hkl := hT.2.2.2.1
  have hdT := hT.1
  have hkz : ∀ f : Int × Value → Bool, (tv.filter f).length ≤ 1000 := fun f => Nat.le_trans (List.length_filter_le _ _) (by have := hT.2.1.length; omega)
  refine' enterCP (binds := [(Str.ofString "source", .ref a), (Str.ofString "told", .ref l), (Str.ofString "way", .int 3 tw)]) B H lo ?ho ?hcd ?hbind ?hkind ?hnd ?h ?hco ?hgen ?hk
  walk_at "m_enterCP"
  k_steps
  unfold Stop
  revert hvO
  revert vO
  refine flags_elim ?_
  intro fl tf fl' z opts hF
  k_steps
  unfold Stop
  have hI2 := keep_r (ro := ro) hT.2.1
  refine' lcT_pairs (tv := tv) ro.isNone ?F ?N ?hclos ?hcell ?hkind ?hnames ?hx ?h ?hs
  case F => k_asm
  case N => k_asm
  case hclos => with_unfolding_all rfl
  case hcell => decide
  case hkind => rfl
  case hnames => decide
  case hx => rfl
  case hs => (intro _; rfl)
  case h =>
    k_steps
    unfold Stop
    refine' pairs_src (Lo.handled lo') (by k_asm) (by k_asm) (by assumption) ?hm hdT hlo ?hz ?turn ?done
    case hm => k_mem
    case hz => (have := hT.2.1.length; omega)
    case turn =>
      intro i k y t ys led I oI C oC D2 m₂ h tk hi hoC hx F' N' Dn
      obtain ⟨τ, tτ, rfl, hka⟩ := hT.2.1.at hi
      have hva := valueAt_at (keysNodup_of_isDictOf hdT) hi
      k_steps
    case done =>
      intro D2 ys led h tk hP Dn F' N'
      have hPP := hP.pairs (fun q hq => (N' q (List.mem_cons_of_mem _ (List.mem_append_left _ hq))).1)
      k_steps
      refine' rets_end hRR hg2 FN NN DN ⟨rfl, _, ⟨_, _, _, _, rfl, ?sx, ?sy⟩, rfl⟩ ?p1
      walk_at "m_ends"
      case sx => omega
      case sy => omega
end
end Mine
namespace Mine
open PySem PySem.W PySem.Spec PySem.Calls PyProof.Rows
section
variable {prog : Program} {w : World} {A : Around} {E : Value → Shared → Prop} {s : Shared} {h₀ : Heap} {L : Addr} {m : Str → Option Value} {Q : Value → Shared → Prop}
theorem ln_Pool_1 : True := by
 k_with_none
 k_with "m_enter" => ((
     case ho => k_is
     case hcd => k_is
     case hbind => first | exact BindsTo.of_eq rfl | exact binds_K (Frag.In.keeps (Base.X (by assumption)) (Has.stays (by assumption))) rfl (by k_is) rfl rfl rfl
     case hloc => exact locs rfl
     case hcell => decide
     case hco => exact rfl
     case hgen => exact rfl
     case hk => exact rfl
     intro RR hRR g L' h₁ A' lo' St hg1 hg2 F N D X T
     (try dsimp only [List.reverse, List.reverseAux, List.length] at *)))
 k_with "m_takes" => (first
     | exact Takes.nil
     | (refine' Takes.cons ?az047 ?bz047; (case az047 => walk_at "m_pull"); (case bz047 => walk_at "m_takes"))
     | (refine' Takes.app ?az047 ?bz047; (case az047 => walk_at "m_pullL"); (case bz047 => walk_at "m_takes"))
     | (refine' Takes.last ?az047; (case az047 => walk_at "m_pullL")))
 k_with "m_pull" => (first
     | exact Pull.head
     | (refine' Pull.tail ?az350; (case az350 => walk_at "m_pull"))
     | (refine' Pull.app ?az350; (case az350 => walk_at "m_pull")))
 k_with "m_pullL" => (first
     | exact PullL.head
     | exact PullL.whole
     | (refine' PullL.tail ?az531; (case az531 => walk_at "m_pullL"))
     | (refine' PullL.app ?az531; (case az531 => walk_at "m_pullL")))
 k_with "m_ends" => ((case p1 => ((try simp only [tcbLed]); (try simp only [whLed, List.append_assoc, List.cons_append, List.nil_append, List.append_nil]); (walk_at "m_takes"))))
 k_with "m_updn" => (first | exact UpdN.head | (refine' UpdN.tail ?az058; (case az058 => walk_at "m_updn")) | (refine' UpdN.app ?az058; (case az058 => walk_at "m_updn")))
 k_with "m_updg" => (first | exact UpdG.head | (refine' UpdG.tail ?az984; (case az984 => walk_at "m_updg")) | (refine' UpdG.app ?az984; (case az984 => walk_at "m_updg")))
 k_with "k_upd" => (k_dflt (refine' upd_of ?Dz233 ?Uz233; (case Dz233 => assumption); (case Uz233 => walk_at "m_updn")))
 k_with "k_updF" => (k_dflt (refine' updF_of ?Dz235 ?Uz235; (case Dz235 => assumption); (case Uz235 => walk_at "m_updg")))
 k_with "k_mem" => (first | with_reducible exact List.mem_cons_self | (with_reducible exact List.mem_append_left _ (by assumption)) | (with_reducible refine' List.mem_cons_of_mem _ ?mmz799; (case mmz799 => k_mem)) | (with_reducible refine' List.mem_append_right _ ?mmz799; (case mmz799 => k_mem)) | with_reducible assumption)
 k_with "k_handed" => (assumption)
 k_with "k_units" => (first | exact Lo.line (by assumption) | exact Lo.line (Lo.in1 (by assumption)))
 k_with "k_room" => (exact Lo.room (by assumption))
 k_with "execs cons" => (((with_reducible show wpAny _ _ (execs (_ :: _) _) _ _ _); (k_dflt (refine execs_flat (s := s) ?_)); intro tkF))
 trivial
theorem max2 {k : Nat} {a b : Int} {t u : Tok} {news : Led} (lo : Lo k A) (F : Fr h₀ L s.heap m) (N : News h₀ L s.heap news)
    (h : ∀ M h' t' tk, (M = a ∨ M = b) → a ≤ M → b ≤ M → Fr h₀ L h' m → News h₀ L h' news → Q (.int M t') { s with heap := h', toks := tk }) : wpAny (model prog w) A (call (.builtin "max") [.int a t, .int b u]) Q E s := by
  refine max_two_ints lo.handled fun h' tk hk => ?_
  by_cases c : b > a
  · rw [if_pos c]; exact h b h' u tk (.inr rfl) (by omega) (Int.le_refl _) (F.keeps hk) (N.grown hk)
  · rw [if_neg c]; exact h a h' t tk (.inl rfl) (Int.le_refl _) (by omega) (F.keeps hk) (N.grown hk)
theorem len_B {l : Addr} {vs : List Value} (F : Fr h₀ L s.heap m) (hl : h₀.IsList l vs.toArray) (hz : vs.length < 1000) (h : ∀ t tk, Q (.int vs.length t) { s with toks := tk }) : wpAny (model prog w) A (call (.builtin "len") [.ref l]) Q E s := by
  obtain ⟨o, e, r⟩ := hl
  refine call_len_list ⟨o, F.keep _ _ e, r⟩ ?_ ?_
  · rw [List.size_toArray]; omega
  · rw [List.size_toArray]; exact h _ _
end
section
theorem ln_Pool_2 : True := by
 k_with "binaryOp Mod int int" => ((refine mod_g (by omega) ?_; intro r hr))
 k_with "binaryOp FloorDiv int int" => ((refine fdiv_g (by omega) (by omega) ?_; intro q hq))
 k_with "binaryOp Mult int int" => ((refine mul_g (by omega) ?_))
 k_with "call builtin:len" => (((with_reducible show wpAny _ _ (call (Value.builtin "len") [Value.ref _]) _ _ _); (k_dflt (refine' len_B (by assumption) hl2 hlen ?_)); intro tL tkL))
 k_with "call builtin:max" => (((with_reducible show wpAny _ _ (call (Value.builtin "max") [Value.int _ _, Value.int _ _]) _ _ _); (k_dflt (refine max2 (by assumption) (by assumption) (by assumption) ?_)); intro M h' t' tk' hM0 hM1 hM2 F' N'; (have hM : 0 ≤ M := by omega); clear hM0 hM1 hM2; (try k_sweep)))
 trivial
theorem pool_c {w : World} {mean : ExcName → Option Value} {mg mb : Str → Option Value} {hb : Heap} {s : Shared} {A : Around} {sl : Addr} {vs : List Value} {ns : List Int} {k : Int} {tk : Tok}
   (B : Base (hd.heap_1 w.params) hd.view_1 LOOSE mean mg mb hb) (lo : Lo 1 A) (hl : hb.IsList sl vs.toArray) (hI : IntsAre vs ns) (hlen : vs.length < 1000) (hk : 0 ≤ k ∧ k < 2) (H : Has hb s []) :
   codeAny (model PR w) A (.call (.ref 1128) ⟨[.ref sl, .int k tk], []⟩) (Rets s [] (fun v nf => ∃ a x y tx ty n, v = .ref a ∧ 0 ≤ x ∧ (0 ≤ y ∧ y < 2147483647) ∧ nf = [(a, listOf #[.int x tx, .int y ty] n)])) s := by
  refine' enter (binds := [(Str.ofString "script", .ref sl), (Str.ofString "k", .int k tk)]) B H lo ?ho ?hcd ?hbind ?hloc ?h ?hcell ?hco ?hgen ?hk
  walk_at "m_enter"
  have hl2 : g.IsList sl vs.toArray := by obtain ⟨o, e, r⟩ := hl; exact ⟨o, St _ _ e, r⟩
  k_steps
  all_goals (try dsimp only)
  all_goals (refine' rets_end hRR hg2 (by assumption) (by assumption) (by assumption) ⟨_, _, _, _, _, _, rfl, ?_, ?_, rfl⟩ ?p1; (walk_at "m_ends"))
  all_goals first | omega | (split <;> omega)
theorem pool_elim {P : Value → Led → Prop} (h : ∀ a x y tx ty n, 0 ≤ x → (0 ≤ y ∧ y < 2147483647) → P (.ref a) [(a, listOf #[.int x tx, .int y ty] n)]) :
    ∀ v nf, (∃ a x y tx ty n, v = .ref a ∧ 0 ≤ x ∧ (0 ≤ y ∧ y < 2147483647) ∧ nf = [(a, listOf #[.int x tx, .int y ty] n)]) → P v nf := by
  rintro v nf ⟨a, x, y, tx, ty, n, rfl, h1, h2, rfl⟩
  exact h _ _ _ _ _ _ h1 h2
end
end Mine
namespace Mine
open PySem PySem.W PySem.Spec PySem.Calls PyProof.Rows
theorem deed_c {w : World} {mean : ExcName → Option Value} {mg mb : Str → Option Value} {hb : Heap} {s : Shared} {A : Around} {a l d : Addr} {n nl : Nat} {x y i : Int} {tx ty tw : Tok} {S : Str} {tS : Tok} {pv ev : Value} {b : Bool} {otd : Obj} {tv : List (Int × Value)} {ro : Option Int} {kvs : List (Int × Int)} {outer : List Env}
   (B : Base (hd.heap_1 w.params) hd.view_1 LOOSE mean mg mb hb) (lo : Lo 10 A) (hi : 0 ≤ i ∧ i < 4) (hx : 0 ≤ x) (hy : 0 ≤ y ∧ y < 2147483647) (hpv : PlaceR pv ro) (hT : Times 4 w otd tv kvs) (hlo : (d == sysModules) = false) (hev : handedIn ev = true)
   (K : Below A hb outer s.heap) (hKD : KtsDicts (outer.filterMap (·.frame)) s.heap) (hnf : ∀ q ∈ outer.filterMap (·.frame), q ∉ adrs [(a, srcOf x y tx ty n), (l, listOf #[.str S tS, pv, .ref d, .bool b, ev] nl), (d, otd)])
   (H : Has hb s [(a, srcOf x y tx ty n), (l, listOf #[.str S tS, pv, .ref d, .bool b, ev] nl), (d, otd)]) :
   codeP (model PR w) A (.call (.ref 1185) ⟨[.ref a, .ref l, .int i tw], []⟩) (RetsF (outer.filterMap (·.frame)) s [(a, srcOf x y tx ty n), (l, listOf #[.str S tS, pv, .ref d, .bool b, ev] nl), (d, otd)] (DeedP a n x (l, listOf #[.str S tS, pv, .ref d, .bool b, ev] nl) (d, otd))) s := by
  have h4 : i = 0 ∨ i = 1 ∨ i = 2 ∨ i = 3 := by omega
  rcases h4 with rfl | rfl | rfl | rfl
  · exact codeP_mono (deed0 B (lo.mono (by decide)) hx hy hpv hT hlo hev H) fun r s' h => RetsF.of h
  · exact codeP_mono (deed1 B (lo.mono (by decide)) hx hy hpv hT hlo hev H) fun r s' h => RetsF.of h
  · exact deed2 B lo hx hy hpv hT hlo hev K hKD hnf H
  · exact codeP_mono (deed3 B (lo.mono (by decide)) hx hy hpv hT hlo hev H) fun r s' h => RetsF.of h
/-- a deed, called in the law's own frame -/
theorem deed_use {w : World} {mean : ExcName → Option Value} {mg mb : Str → Option Value} {hb g : Heap} {s : Shared} {A A' : Around} {a l d L f : Addr} {n nl : Nat} {x y i : Int} {tx ty tw : Tok} {S : Str} {tS : Tok} {pv ev : Value} {b : Bool} {otd : Obj} {tv : List (Int × Value)} {ro : Option Int} {kvs : List (Int × Int)}
   {m : Str → Option Value} {news rest : Led} {name : Str} {scope : Scope} {cd : Value} {Q E : Value → Shared → Prop}
   (B : Base (hd.heap_1 w.params) hd.view_1 LOOSE mean mg mb hb) (lo : Lo 10 A') (hi : 0 ≤ i ∧ i < 4) (hx : 0 ≤ x) (hy : 0 ≤ y ∧ y < 2147483647) (hpv : PlaceR pv ro) (hT : Times 4 w otd tv kvs) (hlo : (d == sysModules) = false) (hev : handedIn ev = true)
   (hA : A' = A.deeper (envOfC name scope L f cd)) (hk : scope.kind = .function) (K : Below A hb [] g) (St : hb.StaysIn g)
   (F : Fr g L s.heap m) (N : News g L s.heap news) (D : (adrs news).Nodup) (P : Takes news [(a, srcOf x y tx ty n), (l, listOf #[.str S tS, pv, .ref d, .bool b, ev] nl), (d, otd)] rest)
   (k : ∀ q, SrcNew a n x q → ∀ h' tk', Fr g L h' m → News g L h' (q :: (l, listOf #[.str S tS, pv, .ref d, .bool b, ev] nl) :: (d, otd) :: rest) → (adrs (q :: (l, listOf #[.str S tS, pv, .ref d, .bool b, ev] nl) :: (d, otd) :: rest)).Nodup → Q (.bool true) { s with heap := h', toks := tk' }) :
   wpP (model PR w) A' (call (.ref 1185) [.ref a, .ref l, .int i tw]) Q E s := by
  subst hA
  refine use_callPF (fs := [envOfC name scope L f cd].filterMap (·.frame)) rfl St F N D P (fun H => deed_c B lo hi hx hy hpv hT hlo hev (below_pushC K F hk) (fun q hq => ?_) (fun q hq hm => ?_) H) ?_
  · obtain rfl : q = L := List.mem_singleton.mp hq
    obtain ⟨o, es, k, ho, hd, _⟩ := F.ns
    exact ⟨o, es, k, ho, hd⟩
  · obtain rfl : q = L := List.mem_singleton.mp hq
    obtain ⟨r, hr, e⟩ := List.mem_map.mp hm
    exact (N r (P.mem_iff.mpr (List.mem_append_left _ hr))).2.1 e
  · rintro v nf ⟨rfl, q, hq, rfl⟩ h' tk' F' N' D'
    exact k q hq h' tk' F' N' D'
end Mine
namespace Mine
open PySem PySem.W PySem.Spec PySem.Calls PyProof.Rows
theorem ln_Law_1 : True := by
 k_with_none
 k_with "m_takes" => (first
     | exact Takes.nil
     | (refine' Takes.cons ?az047 ?bz047; (case az047 => walk_at "m_pull"); (case bz047 => walk_at "m_takes"))
     | (refine' Takes.app ?az047 ?bz047; (case az047 => walk_at "m_pullL"); (case bz047 => walk_at "m_takes"))
     | (refine' Takes.last ?az047; (case az047 => walk_at "m_pullL")))
 k_with "m_pull" => (first
     | exact Pull.head
     | (refine' Pull.tail ?az350; (case az350 => walk_at "m_pull"))
     | (refine' Pull.app ?az350; (case az350 => walk_at "m_pull")))
 k_with "m_pullL" => (first
     | exact PullL.head
     | exact PullL.whole
     | (refine' PullL.tail ?az531; (case az531 => walk_at "m_pullL"))
     | (refine' PullL.app ?az531; (case az531 => walk_at "m_pullL")))
 k_with "m_ends" => ((case p1 => ((try simp only [tcbLed]); (try simp only [whLed, List.append_assoc, List.cons_append, List.nil_append, List.append_nil]); (walk_at "m_takes"))))
 k_with "m_updn" => (first | exact UpdN.head | (refine' UpdN.tail ?az058; (case az058 => walk_at "m_updn")) | (refine' UpdN.app ?az058; (case az058 => walk_at "m_updn")))
 k_with "m_updg" => (first | exact UpdG.head | (refine' UpdG.tail ?az984; (case az984 => walk_at "m_updg")) | (refine' UpdG.app ?az984; (case az984 => walk_at "m_updg")))
 k_with "k_upd" => (k_dflt (refine' upd_of ?Dz233 ?Uz233; (case Dz233 => assumption); (case Uz233 => walk_at "m_updn")))
 k_with "k_updF" => (k_dflt (refine' updF_of ?Dz235 ?Uz235; (case Dz235 => assumption); (case Uz235 => walk_at "m_updg")))
 k_with "k_mem" => (first | with_reducible exact List.mem_cons_self | (with_reducible exact List.mem_append_left _ (by assumption)) | (with_reducible refine' List.mem_cons_of_mem _ ?mmz799; (case mmz799 => k_mem)) | (with_reducible refine' List.mem_append_right _ ?mmz799; (case mmz799 => k_mem)) | with_reducible assumption)
 k_with "k_handed" => (assumption)
 k_with "k_units" => (first | exact Lo.line (by assumption) | exact Lo.line (Lo.in1 (by assumption)))
 k_with "k_room" => (exact Lo.room (by assumption))
 k_with "MTurnPost" => ((k_dflt ((show TurnEnd _ _ _ _ _ _); (refine' TurnEnd.intro (by assumption) (by assumption) (by assumption) ?Pz235 ⟨?mz235, ?_⟩; (case Pz235 => walk_at "m_pull"); (case mz235 => k_mem)))))
 k_with "execs nil" => ((with_reducible refine wpAny_execs_nil ?_))
 k_with "callWith ref" => (first
     | ((with_reducible show wpAny _ _ (callWith _ _ _ (backTo _ (starEach (_ :: _) _)) []) _ _ _); (k_dflt (refine' callWith_K ?k1z512 ?k2z512 ?_; (case k1z512 => k_asm); (case k2z512 => k_is); k_whole)))
     | ((with_reducible show wpAny _ _ (callWith _ _ _ (backTo _ (starEach [] _)) []) _ _ _); (k_dflt (refine' callWith_K0 ?k1z512 ?k2z512 ?_; (case k1z512 => k_in); (case k2z512 => k_is); k_whole))))
 k_with "k_in" => (with_reducible first | assumption | exact Frag.In.keeps (by assumption) (Fr.keep (by assumption)))
 k_with "call ref" => (((k_dflt (show wpAny _ _ (call (Value.ref 1175) [_, _, _, _, _]) _ _ _)); (k_dflt (refine' use_call (by assumption) (by assumption) (by assumption) (by assumption) ?P (fun H => stands_c B (Lo.mono (by assumption) (by decide)) W (by omega) hT.1 hlo hT.2.1 (Same.refl _) (DueV.same hdue (by assumption)) H) ?_; (case P => walk_at "m_takes"))); (try clear DN); (refine elim0 ?_; intro hN tkN FN NN DN); (simp only [List.cons_append, List.nil_append] at NN DN); (try k_sweep)))
 k_with "wpP" => (first | (with_reducible refine wpP_execs_step ?_) | ((with_reducible show wpP _ _ (execs [] _) _ _ _); refine wpP_of ?_))
 k_with "RestP" => ((k_dflt (first | show wpP _ _ _ _ _ _ | show RR _ _)))
 k_with "keeperOf" => ((k_dflt (first | refine keep_type ?_ | (refine' keep_fnB ?Xz322 ?ez322 ?_; (case Xz322 => k_in); (case ez322 => exact rfl)) | (refine' keep_fn ?Xz322 ?ez322 ?_; (case Xz322 => k_in); (case ez322 => k_is)) | (refine' keep_cls ?Xz322 ?mz322 ?_; (case Xz322 => k_in); (case mz322 => k_is)))))
 k_with "wpP" => (((with_reducible show wpP _ _ (execs (Stmt.Assign [Expr.Tuple _ _ _] (Expr.Tuple _ _ _) _ :: _) _) _ _ _); (with_reducible refine wpP_execs_own (wpP_Assign_swapped (names := [Str.ofString "tcb", Str.ofString "due"]) (wpP_Tuple2 (wpP_named ?_ ?hez249) ?he2z249) ?hsz249 ?hwz249)); (case hez249 => with_unfolding_all rfl); (case he2z249 => with_unfolding_all rfl); (case hsz249 => with_unfolding_all rfl); (case hwz249 => with_unfolding_all rfl)))
 k_with "wpP" => (((with_reducible show wpP _ _ (call (Value.ref 1156) [_, _, _, _, _]) _ _ _); (k_dflt (refine' use_callP (by assumption) (by assumption) (by assumption) (by assumption) ?P (fun H => made_c B (Lo.mono (by assumption) (by decide)) hpv hT hlo hev H) ?_; (case P => walk_at "m_takes"))); (try clear DN); (refine madeP_elim ?_; intro tT dueT VT hdue W hN tkN FN NN DN); (replace NN := news_swap NN); (replace DN := nd_swap DN); (simp only [List.append_assoc, List.cons_append, List.nil_append] at NN DN); (try k_sweep)))
 k_with "m_enterCP" => ((
     case ho => k_is
     case hcd => k_is
     case hbind => first | exact BindsTo.of_eq rfl | exact binds_K (Frag.In.keeps (Base.X (by assumption)) (Has.stays (by assumption))) rfl (by k_is) rfl rfl rfl
     case hkind => exact rfl
     case hnd => decide +kernel
     case hco => exact rfl
     case hgen => exact rfl
     case hk => exact rfl
     intro RR hRR g L' h₁ A' tkc cells hA' hgE lo' St hg1 hg2 F N D Y X T
     k_cells Y
     (simp only [List.cons_append, List.nil_append] at N D)
     (try dsimp only)))
 k_with "call ref" => (((k_dflt (show wpAny _ _ (call (Value.ref 1135) [_, _]) _ _ _)); (k_dflt (refine' use_call (by assumption) (by assumption) (by assumption) (by assumption) ?P (fun H => take_c B (Lo.mono (by assumption) (by decide)) ?a1 ?a2 ?ht H) ?_; (case P => walk_at "m_takes"); (case a1 => omega); (case a2 => omega); (case ht => decide))); (try clear DN); (refine take_elim ?_; intro d' td' x' tx' y' ty' hd' hx' hy' hN tkN FN NN DN); (simp only [List.cons_append, List.nil_append] at NN DN); (try k_sweep)))
 k_with "call ref" => (((k_dflt (show wpAny _ _ (call (Value.ref 1142) [_, _]) _ _ _)); (k_dflt (refine' use_call (by assumption) (by assumption) (by assumption) (by assumption) ?P (fun H => one_c B (Lo.mono (by assumption) (by decide)) ?a1 ?a2 ?a3 ?a4 H) ?_; (case P => walk_at "m_takes"); (case a1 => omega); (case a2 => omega); (case a3 => exact Nat.le_of_ble_eq_true rfl); (case a4 => exact Nat.le_of_ble_eq_true rfl))); (try clear DN); (refine one_elim ?_; intro vO xO yO txO tyO hvO hxO hyO hN tkN FN NN DN); (simp only [List.cons_append, List.nil_append] at NN DN); (try k_sweep); refine stop_of ?_))
 k_with "exec If" => ((refine wpAny_If ?_))
 trivial
theorem takes_N {g h : Heap} {L : Addr} {led fp rest : Led} (P : Takes led fp rest) (N : News g L h led) : News g L h (fp ++ rest) := fun q hq => N q (P.mem_iff.mpr hq)
theorem reorder {g h : Heap} {L : Addr} {led fp rest : Led} {G : Prop} (P : Takes led fp rest) (N : News g L h led) (D : (adrs led).Nodup) (k : News g L h (fp ++ rest) → (adrs (fp ++ rest)).Nodup → G) : G :=
  k (takes_N P N) ((List.Perm.nodup_iff (P.map _)).mp D)
theorem PlaceV.r {pv : Value} (h : PlaceV pv) : ∃ ro, PlaceR pv ro := by
  rcases h with rfl | ⟨t, rfl⟩ | ⟨t, rfl⟩
  · exact ⟨_, .inl ⟨rfl, rfl⟩⟩
  · exact ⟨_, .inr ⟨_, _, _, rfl, .inl ⟨rfl, rfl⟩, rfl⟩⟩
  · exact ⟨_, .inr ⟨_, _, _, rfl, .inr ⟨rfl, rfl⟩, rfl⟩⟩
theorem ErrV.handed {ev : Value} (h : ErrV ev) : handedIn ev = true := by
  rcases h with rfl | ⟨t, rfl⟩ <;> rfl
inductive LawJ (L sl : Addr) (m : Str → Option Value) (l : Led) : Prop
  | mk (e0 : m (Str.ofString "script") = some (.ref sl)) (oS oT : Obj) (cs ct : Option Value) (junk : Led) (e1 : l = (L + 1 + 1, oT) :: (L + 1, oS) :: junk) (e2 : oS.data = .cell cs) (e3 : oT.data = .cell ct) : LawJ L sl m l
inductive LawK (L sl a : Addr) (n : Nat) (base : Led) (m : Str → Option Value) (l : Led) : Prop
  | mk (e0 : m (Str.ofString "script") = some (.ref sl)) (oS oT : Obj) (ct : Option Value) (x y : Int) (tx ty : Tok) (junk : Led) (e1 : l = (L + 1 + 1, oT) :: (L + 1, oS) :: (a, srcOf x y tx ty n) :: (junk ++ base)) (e2 : oS.data = .cell (some (.ref a))) (e3 : oT.data = .cell ct) (e4 : 0 ≤ x) (e5 : (0 ≤ y ∧ y < 2147483647)) : LawK L sl a n base m l
theorem turn_end {h₀ : Heap} {L : Addr} {s₁ : Shared} {q : Addr × Obj} {J : (Str → Option Value) → Led → Prop} {h' : Heap} {tk : Nat} {m' : Str → Option Value} {all fp rest : Led}
    (F : Fr h₀ L h' m') (N : News h₀ L h' all) (D : (adrs all).Nodup) (P : Takes all (q :: fp) rest) (j : J m' (fp ++ rest)) : TurnEnd h₀ L s₁ q J { s₁ with heap := h', toks := tk } := TurnEnd.intro F N D P j
theorem lawJ_elim {L sl : Addr} {m : Str → Option Value} {l : Led} {G : Led → Prop} (J : LawJ L sl m l) (k : ∀ (oS oT : Obj) (cs ct : Option Value) (junk : Led), m (Str.ofString "script") = some (.ref sl) → oS.data = .cell cs → oT.data = .cell ct → G ((L + 1 + 1, oT) :: (L + 1, oS) :: junk)) : G l := by
  obtain ⟨h, oS, oT, cs, ct, junk, rfl, h1, h2⟩ := J
  exact k _ _ _ _ _ h h1 h2
theorem lawK_elim {L sl a : Addr} {n : Nat} {base : Led} {m : Str → Option Value} {l : Led} {G : Led → Prop} (J : LawK L sl a n base m l) (k : ∀ (oS oT : Obj) (ct : Option Value) (x y : Int) (tx ty : Tok) (junk : Led), m (Str.ofString "script") = some (.ref sl) → oS.data = .cell (some (.ref a)) → oT.data = .cell ct → 0 ≤ x → (0 ≤ y ∧ y < 2147483647) →
    G ((L + 1 + 1, oT) :: (L + 1, oS) :: (a, srcOf x y tx ty n) :: (junk ++ base))) : G l := by
  obtain ⟨h, oS, oT, ct, x, y, tx, ty, junk, rfl, h1, h2, h3, h4⟩ := J
  exact k _ _ _ _ _ _ _ _ h h1 h2 h3 h4
section
variable {prog : Program} {w : World} {A : Around} {s : Shared} {env : Env} {h₀ : Heap} {x : Str} {body : List Stmt} {Q : Flow → Shared → Prop}
theorem rangeP_intro {J : (Str → Option Value) → Led → Prop} {r : Addr} {b₀ : Int} {t₀ u₀ v₀ : Tok} {n : Nat} {m₀ : Str → Option Value} {news : Led} (hh : A.handled = none) (F : Fr h₀ env.locals s.heap m₀) (N : News h₀ env.locals s.heap news) (D : (adrs news).Nodup) (hr : IsRange s.heap r 0 b₀ 1 t₀ u₀ v₀) (hn : b₀ = n) (hb : b₀ < 1000) (hJ : J m₀ news)
    (turn : ∀ (i : Nat) t m₁ l I oI h tk, i < n → J m₁ l → (adrs ((I, oI) :: l)).Nodup → Fr h₀ env.locals h (fun y => if y = x then some (.int (0 + (i : Int)) t) else m₁ y) → News h₀ env.locals h ((I, oI) :: l) →
      wpP (model prog w) A (execs body env) (MTurnPost h₀ env.locals { s with heap := h, toks := tk } (I, oI) J Q) NoE { s with heap := h, toks := tk })
    (done : ∀ m₁ l h tk, J m₁ l → (adrs l).Nodup → Fr h₀ env.locals h m₁ → News h₀ env.locals h l → Q .next { s with heap := h, toks := tk }) : RangeP prog w A h₀ env x body Q J (.ref r) s :=
  ⟨r, 0, b₀, t₀, u₀, v₀, n, m₀, news, rfl, hh, F, N, D, hr, small_one (by decide) (by decide) (by omega) (by omega), by rw [rangeSize_nat]; omega, hJ, turn, done⟩
end
inductive WayW (a : Addr) (n : Nat) (base : Led) (_i : Nat) (ys : List Value) (l : Led) : Prop
  | mk (e0 : ys = []) (x y : Int) (tx ty : Tok) (e1 : l = (a, srcOf x y tx ty n) :: base) (e2 : 0 ≤ x) (e3 : (0 ≤ y ∧ y < 2147483647)) : WayW a n base _i ys l
section
variable {prog : Program} {w : World} {A : Around} {E : Value → Shared → Prop} {s : Shared} {h₀ : Heap} {L : Addr} {m : Str → Option Value} {news : Led} {Q : Value → Shared → Prop} {env : Env}
theorem lc_ways {elt iter c : Expr} {x : Str} {px : Pos} {scope : Scope} {cl : List (Str × Addr)} {pos : Pos} {a : Addr} {n : Nat} {xx yy : Int} {tx ty : Tok} {base : Led} (_F : Fr h₀ L s.heap m) (_N : News h₀ L s.heap ((a, srcOf xx yy tx ty n) :: base))
    (hclos : closureFor scope env = pure cl) (hcell : ∀ y ∈ scope.names, y.2 ≠ .cell) (hkind : scope.kind = .function)
    (hnames : ∀ y ∈ scope.names, y.2 = .local → scope.names.lookup y.1 = some .local) (hx : scope.names.lookup x = some .local)
    (h : wpAny (model prog w) A (eval iter env) (LcRangeP prog w A h₀ L m env elt c x scope cl (WayW a n base) Q) NoE s)
    (hs : ∀ x, foldedSetIterable iter env x = pure x := by intro _; rfl) :
    wpP (model prog w) A (eval (.ListComp elt [⟨.Name x px, iter, [c], 0⟩] scope pos) env) Q NoE s :=
  lcP_range (WayW a n base) (by rintro i ys l ⟨rfl, _⟩; exact Nat.zero_le _) hclos hcell hkind hnames hx h hs
theorem ld_script {M : Model} {pos : Pos} {v : Value} {name : Str} {scope : Scope} {f : Addr} {cd : Value} (F : Fr h₀ L s.heap m) (hx : m (Str.ofString "script") = some v) (h : Q v s)
    (hk : scope.kind = .function) (hl : (envOfC name scope L f cd).kindOf (Str.ofString "script") = some .local) :
    wpAny M A (eval (.Name (Str.ofString "script") pos) (envOfC name scope L f cd)) Q E s := wpAny_Name (wpAny_loadName_local hk hl F.ns hx h) (by decide)
theorem st_cell {M : Model} {x : Str} {c : Addr} {o : Obj} {v₀ : Option Value} {v : Value} {name : Str} {scope : Scope} {f : Addr} {cd : Value} {rest : Led} {Q : Unit → Shared → Prop} (F : Fr h₀ L s.heap m) (N : News h₀ L s.heap news) (D : (adrs news).Nodup)
    (hc : (cellsFrom (L + 1) scope.names []).lookup x = some c) (P : Pull (c, o) news rest) (hd : o.data = .cell v₀)
    (hk : scope.kind = .function) (hl : (envOfC name scope L f cd).kindOf x = some .cell)
    (h : ∀ h' o', Fr h₀ L h' m → News h₀ L h' ((c, o') :: rest) → (adrs ((c, o') :: rest)).Nodup → o'.data = .cell (some v) → Q () { s with heap := h' }) :
    wpAny M A (storeName (envOfC name scope L f cd) x v) Q E s := by
  have D' : (adrs ((c, o) :: rest)).Nodup := (List.Perm.nodup_iff (P.map _)).mp D
  exact stCN (own := []) F (fun q hq => N q (P.mem_iff.mpr hq)) hc hd (fun p hp => (nomatch hp)) (fun p hp e => (List.nodup_cons.mp D').1 (List.mem_map.mpr ⟨p, hp, e⟩)) (fun h' o' F' N' e => h h' o' F' N' D' e) hk hl
theorem lcWays_intro {elt c : Expr} {x : Str} {scope : Scope} {cl : List (Str × Addr)} {a : Addr} {n : Nat} {base : Led} {xx yy : Int} {ux uy : Tok} {r : Addr} {t₀ u₀ v₀ : Tok} (hh : A.handled = none) (F : Fr h₀ L s.heap m) (N : News h₀ L s.heap ((a, srcOf xx yy ux uy n) :: base)) (D : (adrs ((a, srcOf xx yy ux uy n) :: base)).Nodup)
    (hr : IsRange s.heap r 0 4 1 t₀ u₀ v₀) (hx : 0 ≤ xx) (hy : 0 ≤ yy ∧ yy < 2147483647)
    (turn : ∀ (i : Nat) t I oI C oC D m₂ h tk xx yy ux uy, i < 4 → 0 ≤ xx → (0 ≤ yy ∧ yy < 2147483647) → LCg.NsObj oC m₂ → m₂ x = some (.int (0 + (i : Int)) t) → Fr h₀ L h m → News h₀ L h ((I, oI) :: (C, oC) :: (D, LCg.lst []) :: (a, srcOf xx yy ux uy n) :: base) → (adrs ((I, oI) :: (C, oC) :: (D, LCg.lst []) :: (a, srcOf xx yy ux uy n) :: base)).Nodup →
      wpP (model prog w) A (isTrue c (compEnvC scope cl C env) (eval c (compEnvC scope cl C env))) (fun b s₃ => if b = true then wpAny (model prog w) A (eval elt (compEnvC scope cl C env)) (CEnd h₀ L m s I oI C oC D (LCg.lst []) (fun y l' => WayW a n base (i + 1) ([] ++ [y]) l')) NoE s₃
        else CEnd h₀ L m s I oI C oC D (LCg.lst []) (fun _ l' => WayW a n base (i + 1) [] l') .none s₃) NoE { s with heap := h, toks := tk })
    (done : ∀ D h tk xx yy ux uy, 0 ≤ xx → (0 ≤ yy ∧ yy < 2147483647) → (adrs ((D, LCg.lst []) :: (a, srcOf xx yy ux uy n) :: base)).Nodup → Fr h₀ L h m → News h₀ L h ((D, LCg.lst []) :: (a, srcOf xx yy ux uy n) :: base) → Q (.ref D) { s with heap := h, toks := tk }) :
    LcRangeP prog w A h₀ L m env elt c x scope cl (WayW a n base) Q (.ref r) s := by
  refine ⟨r, 0, 4, t₀, u₀, v₀, 4, _, rfl, hh, F, N, D, hr, small_one (by decide) (by decide) (by decide) (by decide), by rw [rangeSize_nat]; rfl, by rw [sizeLine_eq]; decide, ⟨rfl, _, _, _, _, rfl, hx, hy⟩, ?_, ?_⟩
  · rintro i t ys l I oI C oC D m₂ h tk hi ⟨rfl, xx, yy, ux, uy, rfl, h1, h2⟩ hoC hx3 F' N' Dn
    exact turn i t I oI C oC D m₂ h tk xx yy ux uy hi h1 h2 hoC hx3 F' N' Dn
  · rintro D ys l h tk ⟨rfl, xx, yy, ux, uy, rfl, h1, h2⟩ Dn F' N'
    exact done D h tk xx yy ux uy h1 h2 Dn F' N'
theorem min2b {k : Nat} {a b : Int} {t u : Tok} (lo : Lo k A) (F : Fr h₀ L s.heap m) (N : News h₀ L s.heap news)
    (h : ∀ M h' t' tk, M ≤ a → Fr h₀ L h' m → News h₀ L h' news → Q (.int M t') { s with heap := h', toks := tk }) : wpAny (model prog w) A (call (.builtin "min") [.int a t, .int b u]) Q E s := by
  refine min_two_ints lo.handled fun h' tk hk => ?_
  by_cases c : b < a
  · rw [if_pos c]; exact h b h' u tk (by omega) (F.keeps hk) (N.grown hk)
  · rw [if_neg c]; exact h a h' t tk (Int.le_refl _) (F.keeps hk) (N.grown hk)
end
section
theorem ln_Law_2 : True := by
 k_with "call ref" => (((k_dflt (show wpAny _ _ (call (Value.ref 877) [_, _]) _ _ _)); (k_dflt (refine' use_call (by assumption) (by assumption) (by assumption) (by assumption) ?P (fun H => closed_s B (Lo.mono (by assumption) (by decide)) W (by decide) hk H) ?_; (case P => walk_at "m_takes"))); (try clear DN); (refine elim1 ?_; intro nfN WC hN tkN FN NN DN); (replace NN := news_swap NN); (replace DN := nd_swap DN); (simp only [List.append_assoc, List.cons_append, List.nil_append] at NN DN); (try k_sweep)))
 k_with "wpP" => (((with_reducible show wpP _ _ (execs (Stmt.Assign [Expr.Name _ _] (Expr.Call (Expr.Name _ _) (_ :: _ :: _ :: _ :: _) _ _) _ :: _) _) _ _ _); (with_reducible refine wpP_execs_own (wpP_Assign_Name (wpP_named ?_ ?hez328) ?hsz328)); (case hez328 => with_unfolding_all rfl); (case hsz328 => with_unfolding_all rfl)))
 k_with "wpP" => (((with_reducible show wpP _ _ (execs (Stmt.For _ _ _ _ _ :: _) _) _ _ _); refine stop_of ?_))
 k_with "wpP" => (((with_reducible show wpP _ _ (call (Value.ref 1156) [_, _, _, _, _]) _ _ _); refine stop_of ?_))
 k_with "call ref" => (((k_dflt (show wpAny _ _ (call (Value.ref 1175) [_, _, _, _, _]) _ _ _)); (k_dflt (refine' use_call (by assumption) (by assumption) (by assumption) (by assumption) ?P (fun H => stands_c (tv := []) (kvs := []) B (Lo.mono (by assumption) (by decide)) WC (by decide) (by assumption) (by assumption) Ints2.nil (Same.str _ _ _) (DueV.same hdue (due_t rfl)) H) ?_; (case P => walk_at "m_takes"))); (try clear DN); (refine elim0 ?_; intro hN tkN FN NN DN); (simp only [List.cons_append, List.nil_append] at NN DN); (try k_sweep)))
 k_with "RangeP" => ((refine stop_of ?_))
 k_with "LcRangeP" => ((refine stop_of ?_))
 k_with "CEnd" => ((refine stop_of ?_))
 k_with "TurnEnd" => ((refine stop_of ?_))
 k_with "MTurnPost" => ((refine stop_of ?_))
 k_with "call builtin:len" => (((with_reducible show wpAny _ _ (call (Value.builtin "len") [Value.ref _]) _ _ _); (k_dflt (refine' len_B (by assumption) hl2 hlen ?_)); intro tL tkL))
 k_with "call builtin:min" => (((with_reducible show wpAny _ _ (call (Value.builtin "min") [Value.int _ _, Value.int _ _]) _ _ _); (k_dflt (refine min2b (by assumption) (by assumption) (by assumption) ?_)); intro M0 h' t' tk' hM0 F' N'; (try k_sweep)))
 k_with "call builtin:max" => (((with_reducible show wpAny _ _ (call (Value.builtin "max") [Value.int _ _, Value.int _ _]) _ _ _); (k_dflt (refine max2 (by assumption) (by assumption) (by assumption) ?_)); intro M h' t' tk' hM0' hM1' hM2' F' N'; (have hM : 0 ≤ M ∧ M ≤ 2 := by omega); clear hM0' hM1' hM2'; (try k_sweep)))
 k_with "call type:range" => (((k_dflt (refine' range1_rows ?F ?N ?_; (case F => k_asm); (case N => k_asm))); intro h' tk' t1' t2' t3' hR' F' N' hk'; clear hk'; (try k_sweep)))
 k_with "storeName" => ((k_dflt (refine' st_cell ?F ?N ?D ?hc ?P ?hd rfl rfl ?_; (case F => k_asm); (case N => k_asm); (case D => k_asm); (case hc => with_unfolding_all rfl); (case P => walk_at "m_pull"); (case hd => assumption)); intro h' o' F' N' D' hd'; (try k_sweep)))
 k_with "eval Name" => (((with_reducible show wpAny _ _ (eval (Expr.Name (Str.ofString "script") _) _) _ _ _); k_dflt (refine' ld_script ?F ?hv ?_ rfl rfl; (case F => k_asm); (case hv => exact hsc))))
 k_with "call ref" => (((k_dflt (show wpAny _ _ (call (Value.ref 1128) [_, _]) _ _ _)); (k_dflt (refine' use_call (by assumption) (by assumption) (by assumption) (by assumption) Takes.nil (fun H => pool_c B (Lo.mono (by assumption) (by decide)) hl hI hlen ?hk H) ?_; (case hk => constructor <;> omega))); (try clear DN); (refine pool_elim ?_; intro a x y tx ty n hx hy hN tkN FN NN DN); (simp only [List.cons_append, List.nil_append] at NN DN); (try k_sweep)))
 k_with "call ref" => (((k_dflt (show wpAny _ _ (call (Value.ref 1163) [_]) _ _ _)); (k_dflt (refine' use_call (by assumption) (by assumption) (by assumption) (by assumption) ?P (fun H => drawn_c B (Lo.mono (by assumption) (by decide)) hx hy H) ?_; (case P => walk_at "m_takes"))); (try clear DN); (refine drawn_elim ?_; intro l nl S tS pv d otd tv kvs b ev x' y' tx' ty' hS hpv hev hT hlo hx' hy' hN tkN FN NN DN); (simp only [List.cons_append, List.nil_append] at NN DN); (try k_sweep)))
 k_with "wpP" => (((with_reducible show wpP _ _ (execs (Stmt.If (Expr.Compare (Expr.ListComp _ _ _ _) _ _ _) _ _ _ :: _) _) _ _ _); refine stop_of ?_))
 k_with "wpP" => (((with_reducible show wpP _ _ (call (Value.ref 1185) [_, _, _]) _ _ _); refine stop_of ?_))
 k_with "compareOp NotEq ref ref" => ((k_dflt (refine' ne_L (by assumption) (by assumption) ?m1 ?m2 Sames.nil ?_; (case m1 => k_mem); (case m2 => k_mem))))
 trivial
set_option maxHeartbeats 4000000 in
theorem law_c {w : World} {mean : ExcName → Option Value} {mg mb : Str → Option Value} {s : Shared} {sl : Addr} {vs : List Value} {ns : List Int}
   (B : Base (hd.heap_1 w.params) hd.view_1 LOOSE mean mg mb s.heap) (hl : s.heap.IsList sl vs.toArray) (hI : IntsAre vs ns) (hlen : vs.length < 1000) :
   codeP (model PR w) callerA (.call (.ref 1190) ⟨[.ref sl], []⟩) (Rets s [] (fun v nf => v = .bool true ∧ nf = [])) s := by
  have H : Has s.heap s [] := ⟨fun q hq => (nomatch hq), List.nodup_nil, fun _ _ e => e⟩
  have lo : Lo 12 callerA := ⟨rfl, by decide, by decide⟩
  refine' enterCP (binds := [(Str.ofString "script", .ref sl)]) B H lo ?ho ?hcd ?hbind ?hkind ?hnd ?h ?hco ?hgen ?hk
  walk_at "m_enterCP"
  k_steps
  unfold Stop
  have hT : Times 4 w _ _ [(1, 30), (2, 31), (3, 32), (4, 33)] := ⟨‹Obj.IsDictOf _ _ _›, .cons (.cons (.cons (.cons .nil))), by decide, by decide, by decide⟩
  have hk : ∀ p ∈ [((1 : Int), (30 : Int)), (2, 31), (3, 32), (4, 33)], 1 ≤ p.1 ∧ p.1 ≤ 4 := by decide
  refine' use_callP St (by assumption) (by assumption) (by assumption) ?P (fun H => made_c B (Lo.mono lo' (by decide)) (ro := some 41) (Or.inr ⟨40, 41, _, rfl, Or.inr ⟨rfl, rfl⟩, rfl⟩) hT (by assumption) rfl H) ?_
  case P => walk_at "m_takes"
  refine madeP_elim ?_
  intro tT dueT VT hdue W hN tkN FN NN DN
  replace NN := news_swap NN
  replace DN := nd_swap DN
  simp only [List.append_assoc, List.cons_append, List.nil_append] at NN DN
  k_steps
  unfold Stop
  have K0 : Below callerA s.heap [] g := by rw [hgE]; exact below_hide (below_caller s.heap) (hgE ▸ St) (fun b hb => nomatch hb)
  have hl2 : g.IsList sl vs.toArray := by obtain ⟨o, e, r⟩ := hl; exact ⟨o, St _ _ e, r⟩
  clear hT hk W WC hdue hgE hg1
  refine' reorder (fp := [(L' + 1 + 1, _), (L' + 1, _)]) ?PT1 ‹News _ _ _ _› ‹List.Nodup _› ?kk1
  case PT1 => walk_at "m_takes"
  case kk1 =>
  intro NN DN
  simp only [List.cons_append, List.nil_append] at NN DN
  refine wpP_execs_own (wpP_For_range (h₀ := g) (LawJ L' sl) rfl rfl ?_)
  k_steps
  unfold Stop
  refine rangeP_intro (n := M.toNat) (Lo.handled lo') ‹Fr _ _ _ _› ‹News _ _ _ _› ‹List.Nodup _› hR' (by omega) (by omega) ?J ?turn ?done
  case J => exact ⟨rfl, _, _, _, _, _, rfl, by assumption, by assumption⟩
  case done =>
    intro m₁ l h tk hJ Dn F' N'
    k_steps
    refine' rets_end hRR hg2 F' N' Dn ⟨rfl, rfl⟩ ?p1
    walk_at "m_ends"
  case turn =>
    intro i t m₁ l I oI h tk hi hJ
    refine lawJ_elim (G := fun l => (adrs ((I, oI) :: l)).Nodup → Fr g _ h _ → News g _ h ((I, oI) :: l) → wpP _ _ _ _ _ _) hJ ?_
    intro oS oT cs ct junk hsc hcS hcT Dn F' N'
    k_steps
    unfold Stop
    refine' reorder (fp := [(L' + 1 + 1, _), (L' + 1, _), (a, _)]) ?PT2 ‹News _ _ _ _› ‹List.Nodup _› ?kk2
    case PT2 => walk_at "m_takes"
    case kk2 =>
    clear hcS hi
    intro NN DN
    simp only [List.cons_append, List.nil_append] at NN DN
    refine wpP_execs_own (wpP_For_range (h₀ := g) (LawK L' sl a n ((I, oI) :: junk)) rfl rfl ?_)
    k_steps
    unfold Stop
    refine rangeP_intro (n := 3) (Lo.handled lo') ‹Fr _ _ _ _› ‹News _ _ _ _› ‹List.Nodup _› hR' rfl (by decide) ?J ?turn ?done
    case J => exact ⟨hsc, _, _, _, _, _, _, _, [], rfl, by assumption, by assumption, hx, hy⟩
    case done =>
      intro m₂ l2 h tk hJ2
      refine lawK_elim (G := fun l => (adrs l).Nodup → Fr g _ h _ → News g _ h l → _) hJ2 ?_
      intro oS oT ct x y tx ty junk2 hsc2 hcS hcT hx2 hy2 Dn F' N'
      k_steps
      unfold Stop
      show TurnEnd _ _ _ _ _ _
      refine' turn_end (fp := [(L' + 1 + 1, _), (L' + 1, _)]) F' N' Dn ?PT3 ?jj1
      case PT3 => walk_at "m_takes"
      case jj1 => exact ⟨hsc2, _, _, _, _, _, rfl, hcS, hcT⟩
    case turn =>
      clear hx hy
      intro i2 t2 m₂ l2 I2 oI2 h tk hi2 hJ2
      refine lawK_elim (G := fun l => (adrs ((I2, oI2) :: l)).Nodup → Fr g _ h _ → News g _ h ((I2, oI2) :: l) → wpP _ _ _ _ _ _) hJ2 ?_
      intro oS oT ct x y tx ty junk2 hsc2 hcS hcT hx hy Dn F' N'
      k_steps
      unfold Stop
      obtain ⟨ro, hpr⟩ := hpv.r
      have hev2 := hev.handed
      refine' reorder (fp := [(a, _), (l, _), (d, _)]) ?PT4 ‹News _ _ _ _› ‹List.Nodup _› ?kk3
      case PT4 => walk_at "m_takes"
      case kk3 =>
      intro NN DN
      simp only [List.cons_append, List.nil_append] at NN DN
      refine wpP_execs_own (wpP_If (wpP_isTrue_Compare1 ?_ rfl))
      refine' lc_ways ?F NN ?hclos ?hcell ?hkind ?hnames ?hx ?h ?hs
      case F => k_asm
      case hclos => with_unfolding_all rfl
      case hcell => decide
      case hkind => rfl
      case hnames => decide
      case hx => rfl
      case hs => (intro _; rfl)
      case h =>
        k_steps
        unfold Stop
        refine' lcWays_intro (Lo.handled lo') ‹Fr _ _ _ _› ‹News _ _ _ _› ‹List.Nodup _› hR' ?sx ?sy ?turn ?done
        case sx => omega
        case sy => constructor <;> omega
        case turn =>
          intro i3 t3 I3 oI3 C oC D3 m₃ h tk xx yy ux uy hi3 hxx hyy hoC hx3 F' N' Dn
          refine wpP_isTrue_Not (wpP_isTrue_Call (wpP_named ?_ ?he))
          case he => with_unfolding_all rfl
          k_steps
          unfold Stop
          refine' deed_use B (lo'.mono (by decide)) ⟨by omega, by omega⟩ hxx hyy hpr hT ‹(d == sysModules) = false› hev2 hA' rfl K0 St ‹Fr _ _ _ _› ‹News _ _ _ _› ‹List.Nodup _› ?PT5 ?kk4
          case PT5 => walk_at "m_takes"
          case kk4 =>
          rintro q ⟨x5, y5, tx5, ty5, rfl, hx5, hy5⟩ h' tk' F' N' D'
          k_steps
          unfold Stop
          refine' CEnd.intro F' N' D' ?PT6 ⟨rfl, x5, y5, tx5, ty5, ?eq6, by omega, by omega⟩
          case PT6 => walk_at "m_takes"
          case eq6 => rfl
        case done =>
          intro D3 h tk xx yy ux uy hxx hyy Dn F' N'
          k_steps
          unfold Stop
          show TurnEnd _ _ _ _ _ _
          refine' turn_end (fp := [(L' + 1 + 1, _), (L' + 1, _), (a, _)]) ‹Fr _ _ _ _› ‹News _ _ _ _› ‹List.Nodup _› ?PT7 ?jj2
          case PT7 => walk_at "m_takes"
          case jj2 => exact ⟨hsc2, _, _, _, _, _, _, _, _ :: _ :: _ :: _ :: junk2, rfl, hcS, by assumption, by omega, by omega⟩
end
end Mine
namespace Mine
open PySem PySem.W PySem.Spec PySem.Calls PyProof.Rows
set_option maxRecDepth 100000 in
set_option maxHeartbeats 8000000 in
theorem walk : dom hd := by
  unfold dom
  intro w s₀ s₁ mg mb G Y fa o pm cd doc dV kV ho hdd hcd hD hmg hg args vals as hpre hlay hrd hwl hlo
  have KX := Mine.kIn_of Y
  refine Ground.open G ?_
  intro T B D TE TW
  clear B D TE TW hcd hD
  have e1 := mg_of (n := Str.ofString "law") (v := .ref 1190) KX T.g (by k_is)
  have hmg' : mg (Str.ofString "law") = some (.ref fa) := hmg
  rw [e1] at hmg'
  obtain rfl : (1190 : Addr) = fa := by cases hmg'; rfl
  clear hmg' e1 hmg ho hdd
  wrow_args hpre hlay hrd hwl hlo
  have hn := IntsAre.length ‹IntsAre _ _›
  have c := law_c (w := w) ⟨KX, T⟩ ‹Heap.IsList _ _ _› ‹IntsAre _ _› (by omega)
  refine wpP_call (codeP_mono c ?_)
  rintro r s' ⟨v, nf, h', tk', rfl, rfl, keep, foot, nd, rfl, rfl⟩
  refine GoodW.toG ⟨.inl ⟨_, _, _, rfl, ?rs, .bool true, ?po, unshared_nil⟩, fun b o e => keep b o e (fun hm => nomatch hm), rfl, ?ge⟩
  case rs => first | exact fun _ => rfl | (intro cls; rfl)
  case po => first | rfl | with_unfolding_all rfl | exact postW_of rfl (w_res rfl) rfl | exact postW_of rfl (w_eq_bool (w_res rfl) (w_lit ..)) rfl
  case ge => exact hg
end Mine
namespace Mine
theorem top.tw10001883323181062329 : True := trivial
theorem top.tw10005945817407372193 : True := trivial
theorem top.tw10006222313960134694 : True := trivial
theorem top.tw10010203797729834575 : True := trivial
theorem top.tw10017263926548143515 : True := trivial
theorem top.tw1007256952997204316 : True := trivial
theorem top.tw10079171474624433434 : True := trivial
theorem top.tw10090393231696489298 : True := trivial
theorem top.tw10101883924317870271 : True := trivial
theorem top.tw1016984595167383106 : True := trivial
theorem top.tw10180943152330463961 : True := trivial
theorem top.tw10187264123177260123 : True := trivial
theorem top.tw10187724287525710026 : True := trivial
theorem top.tw10194810499950245846 : True := trivial
theorem top.tw10219655510578893393 : True := trivial
theorem top.tw10232109247036878648 : True := trivial
theorem top.tw10233937372900511528 : True := trivial
theorem top.tw10239475785048107997 : True := trivial
theorem top.tw10248073240650190340 : True := trivial
theorem top.tw10252623693936335467 : True := trivial
theorem top.tw10276331973627342096 : True := trivial
theorem top.tw10296497611174029103 : True := trivial
theorem top.tw10317287140990440334 : True := trivial
theorem top.tw10328360990557673835 : True := trivial
theorem top.tw10333212225245001580 : True := trivial
theorem top.tw10341860258655708415 : True := trivial
theorem top.tw10350142207108426684 : True := trivial
theorem top.tw10353446712322349686 : True := trivial
theorem top.tw10359867905803958813 : True := trivial
theorem top.tw10361075674979980167 : True := trivial
theorem top.tw10362775142378211054 : True := trivial
theorem top.tw10367675484739944270 : True := trivial
theorem top.tw10372856604765933493 : True := trivial
theorem top.tw10399464001100048223 : True := trivial
theorem top.tw10404823597219466188 : True := trivial
theorem top.tw1040915598704419856 : True := trivial
theorem top.tw10414433010598505635 : True := trivial
theorem top.tw1043701613660472097 : True := trivial
theorem top.tw10448899703829047738 : True := trivial
theorem top.tw10467260515200827399 : True := trivial
theorem top.tw1047907039808853306 : True := trivial
theorem top.tw10505224238033894595 : True := trivial
theorem top.tw10512489437642701289 : True := trivial
theorem top.tw105208000716104510 : True := trivial
theorem top.tw1054488965285714247 : True := trivial
theorem top.tw10548783162686979305 : True := trivial
theorem top.tw10549977736560136457 : True := trivial
theorem top.tw10558761922227201614 : True := trivial
theorem top.tw10562855833978642645 : True := trivial
theorem top.tw10567129059001840431 : True := trivial
theorem top.tw10574840078274726829 : True := trivial
theorem top.tw10577272966987657301 : True := trivial
theorem top.tw10577396366154187472 : True := trivial
theorem top.tw10579768621468169598 : True := trivial
theorem top.tw10596656941412748465 : True := trivial
theorem top.tw10617020205504526918 : True := trivial
theorem top.tw1062149266746745501 : True := trivial
theorem top.tw10643057118474118344 : True := trivial
theorem top.tw10648311167861321448 : True := trivial
theorem top.tw10657950659306570408 : True := trivial
theorem top.tw1068965626710143233 : True := trivial
theorem top.tw10694878333477680388 : True := trivial
theorem top.tw10731301252107566256 : True := trivial
theorem top.tw10752159689236168654 : True := trivial
theorem top.tw10763682846017881258 : True := trivial
theorem top.tw10768140376307724812 : True := trivial
theorem top.tw10773188271377071773 : True := trivial
theorem top.tw10774637447528242797 : True := trivial
theorem top.tw10783980745131425670 : True := trivial
theorem top.tw10797620697341660853 : True := trivial
theorem top.tw10801874191123338550 : True := trivial
theorem top.tw10816355053677723559 : True := trivial
theorem top.tw10836530967397901330 : True := trivial
theorem top.tw10871174231137468428 : True := trivial
theorem top.tw10885322118463539834 : True := trivial
theorem top.tw1088946173253831356 : True := trivial
theorem top.tw10892192912376451201 : True := trivial
theorem top.tw10915162052029792233 : True := trivial
theorem top.tw10936122117785486979 : True := trivial
theorem top.tw10947151441379659809 : True := trivial
theorem top.tw10956490626425055710 : True := trivial
theorem top.tw10968536479657739408 : True := trivial
theorem top.tw10987319290404115282 : True := trivial
theorem top.tw10989070937934888525 : True := trivial
theorem top.tw10996937224433265937 : True := trivial
theorem top.tw11038064363049568621 : True := trivial
theorem top.tw11045010717311733409 : True := trivial
theorem top.tw11053662475850362967 : True := trivial
theorem top.tw11072019736110318841 : True := trivial
theorem top.tw1108800333578037850 : True := trivial
theorem top.tw11093206078495630212 : True := trivial
theorem top.tw11116745826364501430 : True := trivial
theorem top.tw1112988674713690477 : True := trivial
theorem top.tw11131206648525784891 : True := trivial
theorem top.tw11133537522755846099 : True := trivial
theorem top.tw11133666699803404755 : True := trivial
theorem top.tw11134249225346278790 : True := trivial
theorem top.tw11134705753038901807 : True := trivial
theorem top.tw11141966352661209427 : True := trivial
theorem top.tw11145643937294416527 : True := trivial
theorem top.tw11153979150802330146 : True := trivial
theorem top.tw11159431927160009238 : True := trivial
theorem top.tw1117029662656177491 : True := trivial
theorem top.tw11173010173815179391 : True := trivial
theorem top.tw11189890337720088615 : True := trivial
theorem top.tw11199532085631943738 : True := trivial
theorem top.tw11199710921928265848 : True := trivial
theorem top.tw1123975283337734383 : True := trivial
theorem top.tw11240886729373846589 : True := trivial
theorem top.tw1124271682379634556 : True := trivial
theorem top.tw11263669390164206178 : True := trivial
theorem top.tw11279390925490393535 : True := trivial
theorem top.tw1131157812783598648 : True := trivial
theorem top.tw11334203419191126389 : True := trivial
theorem top.tw11334350811105764591 : True := trivial
theorem top.tw11334415319851112604 : True := trivial
theorem top.tw1137235612907882162 : True := trivial
theorem top.tw11377482038585738817 : True := trivial
theorem top.tw11383000496634168614 : True := trivial
theorem top.tw11384800866962632227 : True := trivial
theorem top.tw11396854449078567652 : True := trivial
theorem top.tw11408453963512735496 : True := trivial
theorem top.tw11423202765487971197 : True := trivial
theorem top.tw1142415686869020238 : True := trivial
theorem top.tw1142465760834251562 : True := trivial
theorem top.tw11430207588045935325 : True := trivial
theorem top.tw11443710868159068359 : True := trivial
theorem top.tw11457754044182789617 : True := trivial
theorem top.tw11459358961799972967 : True := trivial
theorem top.tw11466170419677230873 : True := trivial
theorem top.tw11468358511172941013 : True := trivial
theorem top.tw11470690223818410786 : True := trivial
theorem top.tw114735475811551136 : True := trivial
theorem top.tw1147548669246485465 : True := trivial
theorem top.tw1149218181149386328 : True := trivial
theorem top.tw11503242561204267055 : True := trivial
theorem top.tw11520865232209809239 : True := trivial
theorem top.tw11533307084868028949 : True := trivial
theorem top.tw11542710104232473196 : True := trivial
theorem top.tw11561827921928013385 : True := trivial
theorem top.tw11577829705659331004 : True := trivial
theorem top.tw11582926029173025856 : True := trivial
theorem top.tw11584198869435930015 : True := trivial
theorem top.tw11592465598724292549 : True := trivial
theorem top.tw11593399256984752444 : True := trivial
theorem top.tw11613256710310857696 : True := trivial
theorem top.tw11620634932572840514 : True := trivial
theorem top.tw11635900666195883334 : True := trivial
theorem top.tw11682991924649985610 : True := trivial
theorem top.tw11689902799995417681 : True := trivial
theorem top.tw1169771345039838236 : True := trivial
theorem top.tw11726560247610144283 : True := trivial
theorem top.tw11732849358908057107 : True := trivial
theorem top.tw11735923915801401282 : True := trivial
theorem top.tw11760055953109336660 : True := trivial
theorem top.tw11762496359356365647 : True := trivial
theorem top.tw11765434788231831023 : True := trivial
theorem top.tw11779653239440661071 : True := trivial
theorem top.tw11803689641445798100 : True := trivial
theorem top.tw11828478481110319688 : True := trivial
theorem top.tw11840804652615492782 : True := trivial
theorem top.tw11842451847925006096 : True := trivial
theorem top.tw11845233108574324481 : True := trivial
theorem top.tw11858546649754279707 : True := trivial
theorem top.tw1186331607622873149 : True := trivial
theorem top.tw11873480291556300464 : True := trivial
theorem top.tw11889597043561437815 : True := trivial
theorem top.tw11917448952958348678 : True := trivial
theorem top.tw11922380849998532372 : True := trivial
theorem top.tw1192657577511650299 : True := trivial
theorem top.tw11939397010239605379 : True := trivial
theorem top.tw1195175773429642966 : True := trivial
theorem top.tw11960245374511038805 : True := trivial
theorem top.tw11961350612320602522 : True := trivial
theorem top.tw11982747722937265360 : True := trivial
theorem top.tw11994683656316670133 : True := trivial
theorem top.tw12012865196380796599 : True := trivial
theorem top.tw12031303853943761323 : True := trivial
theorem top.tw12033610942823940228 : True := trivial
theorem top.tw12043218685254973450 : True := trivial
theorem top.tw12079853824583626197 : True := trivial
theorem top.tw12080426169559351053 : True := trivial
theorem top.tw12094960947251128927 : True := trivial
theorem top.tw1209819496270969543 : True := trivial
theorem top.tw12105128591322288922 : True := trivial
theorem top.tw12117888159696746259 : True := trivial
theorem top.tw1212798325632107971 : True := trivial
theorem top.tw12157284967251751451 : True := trivial
theorem top.tw12166907935582030026 : True := trivial
theorem top.tw12182655422080760471 : True := trivial
theorem top.tw12193372218175167114 : True := trivial
theorem top.tw12209182163369298222 : True := trivial
theorem top.tw12218787953657430602 : True := trivial
theorem top.tw12256363837256957063 : True := trivial
theorem top.tw1227046207026093345 : True := trivial
theorem top.tw12287887523310495049 : True := trivial
theorem top.tw12306412976881803317 : True := trivial
theorem top.tw12317137736924338119 : True := trivial
theorem top.tw12318557346453588183 : True := trivial
theorem top.tw12322150652039217950 : True := trivial
theorem top.tw12329864456250741675 : True := trivial
theorem top.tw12340227926317113386 : True := trivial
theorem top.tw12342655685612074800 : True := trivial
theorem top.tw12356875383205683853 : True := trivial
theorem top.tw1236304545764765349 : True := trivial
theorem top.tw12373319542655599580 : True := trivial
theorem top.tw12379415707883124570 : True := trivial
theorem top.tw12385144161495827662 : True := trivial
theorem top.tw12392516345856041104 : True := trivial
theorem top.tw12397598024624889033 : True := trivial
theorem top.tw12415523145999629524 : True := trivial
theorem top.tw12427389293880184781 : True := trivial
theorem top.tw12443789822770055382 : True := trivial
theorem top.tw1245559373397905713 : True := trivial
theorem top.tw12483720753089274532 : True := trivial
theorem top.tw12488038555639769405 : True := trivial
theorem top.tw12502491890553978562 : True := trivial
theorem top.tw12507017104952529904 : True := trivial
theorem top.tw12520176845478516731 : True := trivial
theorem top.tw12521587561680038787 : True := trivial
theorem top.tw12535971307161669396 : True := trivial
theorem top.tw12540527436937284434 : True := trivial
theorem top.tw12543184057631004479 : True := trivial
theorem top.tw12545222027267286695 : True := trivial
theorem top.tw12554540806306477360 : True := trivial
theorem top.tw12559286593441436923 : True := trivial
theorem top.tw1256179869646671321 : True := trivial
theorem top.tw12564220515667953714 : True := trivial
theorem top.tw12573315948526539849 : True := trivial
theorem top.tw12603656398198563500 : True := trivial
theorem top.tw12609604535291364189 : True := trivial
theorem top.tw12610894086807397328 : True := trivial
theorem top.tw12622177474791663080 : True := trivial
theorem top.tw12625694945159114441 : True := trivial
theorem top.tw12638030207367898728 : True := trivial
theorem top.tw12643491718579748851 : True := trivial
theorem top.tw12704153843328093452 : True := trivial
theorem top.tw12718909917080609646 : True := trivial
theorem top.tw12725264436868645240 : True := trivial
theorem top.tw12734148187753135964 : True := trivial
theorem top.tw12751139281825843639 : True := trivial
theorem top.tw12756434147638494346 : True := trivial
theorem top.tw1275901062530889299 : True := trivial
theorem top.tw12762922103008790111 : True := trivial
theorem top.tw12764151676501842404 : True := trivial
theorem top.tw12777601194060584777 : True := trivial
theorem top.tw12777874194979280185 : True := trivial
theorem top.tw12783364522390391256 : True := trivial
theorem top.tw12787338502077490372 : True := trivial
theorem top.tw12819366960792805191 : True := trivial
theorem top.tw12841572728458906558 : True := trivial
theorem top.tw1284575025550258836 : True := trivial
theorem top.tw12865423146811077096 : True := trivial
theorem top.tw12879618353801967718 : True := trivial
theorem top.tw12894197372075662830 : True := trivial
theorem top.tw12896061891902650272 : True := trivial
theorem top.tw12904532413392791838 : True := trivial
theorem top.tw1291508964198565346 : True := trivial
theorem top.tw12931362102233154023 : True := trivial
theorem top.tw1293289543672728842 : True := trivial
theorem top.tw12932905502366258525 : True := trivial
theorem top.tw1294077662247117797 : True := trivial
theorem top.tw12944596839952905832 : True := trivial
theorem top.tw12958502747184954254 : True := trivial
theorem top.tw12958664272152378060 : True := trivial
theorem top.tw12960919825447276754 : True := trivial
theorem top.tw1297684725254868899 : True := trivial
theorem top.tw13001836021917841797 : True := trivial
theorem top.tw13007260833023717011 : True := trivial
theorem top.tw13012589842206080548 : True := trivial
theorem top.tw13029900630750994668 : True := trivial
theorem top.tw1304757597395314617 : True := trivial
theorem top.tw13047834502658803893 : True := trivial
theorem top.tw13068111086705522682 : True := trivial
theorem top.tw13090165191389475591 : True := trivial
theorem top.tw13091174067606910046 : True := trivial
theorem top.tw13120753694373217308 : True := trivial
theorem top.tw1312780250039628139 : True := trivial
theorem top.tw13128134590637569816 : True := trivial
theorem top.tw13134186033006778460 : True := trivial
theorem top.tw13160728816969591200 : True := trivial
theorem top.tw13167462122316868159 : True := trivial
theorem top.tw13177472732611162249 : True := trivial
theorem top.tw13178059906610389163 : True := trivial
theorem top.tw13187519465064655849 : True := trivial
theorem top.tw13188079976727067231 : True := trivial
theorem top.tw13191473780850816973 : True := trivial
theorem top.tw1321871150748368714 : True := trivial
theorem top.tw13223034962123697568 : True := trivial
theorem top.tw13261893007816960818 : True := trivial
theorem top.tw13264354339760550358 : True := trivial
theorem top.tw13272337422414781067 : True := trivial
theorem top.tw13290321428070320777 : True := trivial
theorem top.tw132903981291199154 : True := trivial
theorem top.tw13303987763403120937 : True := trivial
theorem top.tw13305523845174962083 : True := trivial
theorem top.tw13307591127769906961 : True := trivial
theorem top.tw13318506193475082254 : True := trivial
theorem top.tw13326734554550294991 : True := trivial
theorem top.tw13345470168829271861 : True := trivial
theorem top.tw13359135706311490777 : True := trivial
theorem top.tw13364640907079947876 : True := trivial
theorem top.tw13369591340354186047 : True := trivial
theorem top.tw13370185576492129568 : True := trivial
theorem top.tw13385244156195431271 : True := trivial
theorem top.tw13385996262653078937 : True := trivial
theorem top.tw13420762306968818387 : True := trivial
theorem top.tw13422432716488540661 : True := trivial
theorem top.tw13432635357386499347 : True := trivial
theorem top.tw13474863142627684814 : True := trivial
theorem top.tw13478431904813821724 : True := trivial
theorem top.tw13500427573557490136 : True := trivial
theorem top.tw13501252493785611398 : True := trivial
theorem top.tw13525443076416275642 : True := trivial
theorem top.tw13532860479073427719 : True := trivial
theorem top.tw1353657120722975067 : True := trivial
theorem top.tw13546161746385187788 : True := trivial
theorem top.tw13549259019975226677 : True := trivial
theorem top.tw13571448547899197161 : True := trivial
theorem top.tw13576654369662418201 : True := trivial
theorem top.tw13629508380711501469 : True := trivial
theorem top.tw1366310378809935829 : True := trivial
theorem top.tw1368107221856924347 : True := trivial
theorem top.tw13706816188851595723 : True := trivial
theorem top.tw13709580248569299487 : True := trivial
theorem top.tw13710211086531791108 : True := trivial
theorem top.tw13713866747541496747 : True := trivial
theorem top.tw13743916774706631149 : True := trivial
theorem top.tw13759081321499198575 : True := trivial
theorem top.tw13762209637798829341 : True := trivial
theorem top.tw13766597756117473739 : True := trivial
theorem top.tw137813150952109960 : True := trivial
theorem top.tw13799840507378627052 : True := trivial
theorem top.tw13802547742096326172 : True := trivial
theorem top.tw13805588055438515702 : True := trivial
theorem top.tw13820912127525551613 : True := trivial
theorem top.tw13822267516522204269 : True := trivial
theorem top.tw13830271770371739309 : True := trivial
theorem top.tw13844505572957833930 : True := trivial
theorem top.tw13852830345959847167 : True := trivial
theorem top.tw13864677062968915208 : True := trivial
theorem top.tw13889309363888878346 : True := trivial
theorem top.tw13889484949932952446 : True := trivial
theorem top.tw13890846271309207196 : True := trivial
theorem top.tw13896958669275611876 : True := trivial
theorem top.tw13899568491130100285 : True := trivial
theorem top.tw13901205277877782832 : True := trivial
theorem top.tw13902025155065610156 : True := trivial
theorem top.tw13915387964903991752 : True := trivial
theorem top.tw13922054642007902626 : True := trivial
theorem top.tw13928562000808390012 : True := trivial
theorem top.tw1394568958698188020 : True := trivial
theorem top.tw13947007510445982354 : True := trivial
theorem top.tw13968125046926948103 : True := trivial
theorem top.tw13975414291046593716 : True := trivial
theorem top.tw13983857475226248213 : True := trivial
theorem top.tw13985988839938425345 : True := trivial
theorem top.tw13987285891283452908 : True := trivial
theorem top.tw13990698242589431971 : True := trivial
theorem top.tw13994475860397038760 : True := trivial
theorem top.tw1400011881503588481 : True := trivial
theorem top.tw14029182922437419836 : True := trivial
theorem top.tw14041154887136619503 : True := trivial
theorem top.tw14042817526060737062 : True := trivial
theorem top.tw14065501367340364311 : True := trivial
theorem top.tw14082171712413598185 : True := trivial
theorem top.tw14114763150826241340 : True := trivial
theorem top.tw14120148312427719287 : True := trivial
theorem top.tw14142502885225118848 : True := trivial
theorem top.tw14145802354927516647 : True := trivial
theorem top.tw14166325574356235509 : True := trivial
theorem top.tw14168018189251442112 : True := trivial
theorem top.tw14214649769353832295 : True := trivial
theorem top.tw14219799110322211707 : True := trivial
theorem top.tw14235281626263879747 : True := trivial
theorem top.tw14248925298954806443 : True := trivial
theorem top.tw14263998999751124003 : True := trivial
theorem top.tw14277827659066580250 : True := trivial
theorem top.tw14282377253939248939 : True := trivial
theorem top.tw14301671488300290737 : True := trivial
theorem top.tw14308104382005812605 : True := trivial
theorem top.tw14309182039651084788 : True := trivial
theorem top.tw14317375437502057738 : True := trivial
theorem top.tw14319750081657075607 : True := trivial
theorem top.tw14349089067433371257 : True := trivial
theorem top.tw14371913498598963198 : True := trivial
theorem top.tw14372152842798730730 : True := trivial
theorem top.tw14390669486469195807 : True := trivial
theorem top.tw14399976873020721970 : True := trivial
theorem top.tw14402358008270493973 : True := trivial
theorem top.tw14429230371299607918 : True := trivial
theorem top.tw14429954968415203212 : True := trivial
theorem top.tw14450715343900746980 : True := trivial
theorem top.tw14453841093610474573 : True := trivial
theorem top.tw14456272776232333019 : True := trivial
theorem top.tw14459580976405569124 : True := trivial
theorem top.tw14466935161476858967 : True := trivial
theorem top.tw14481524164817573384 : True := trivial
theorem top.tw14502225709538309166 : True := trivial
theorem top.tw14510474431719978317 : True := trivial
theorem top.tw14512255991650004360 : True := trivial
theorem top.tw14526540143163920134 : True := trivial
theorem top.tw14537839394382259888 : True := trivial
theorem top.tw14558130701515357843 : True := trivial
theorem top.tw14562072457839527476 : True := trivial
theorem top.tw14597223018079223185 : True := trivial
theorem top.tw14608685727046917156 : True := trivial
theorem top.tw14615657086365298920 : True := trivial
theorem top.tw14627593546857162170 : True := trivial
theorem top.tw14632489290957082403 : True := trivial
theorem top.tw14645912567700417926 : True := trivial
theorem top.tw14657780768301432306 : True := trivial
theorem top.tw14671331368771545958 : True := trivial
theorem top.tw14677765105775291144 : True := trivial
theorem top.tw146815374380898660 : True := trivial
theorem top.tw14687197162769931945 : True := trivial
theorem top.tw14697636140705633519 : True := trivial
theorem top.tw14705559076539443318 : True := trivial
theorem top.tw14707807475535933493 : True := trivial
theorem top.tw14708653179930882113 : True := trivial
theorem top.tw14709367294833977003 : True := trivial
theorem top.tw14713311804777202560 : True := trivial
theorem top.tw14724332232928298890 : True := trivial
theorem top.tw14747140909534839006 : True := trivial
theorem top.tw14751435942891637570 : True := trivial
theorem top.tw14762295962024373759 : True := trivial
theorem top.tw14771320824794740959 : True := trivial
theorem top.tw14786789198576647004 : True := trivial
theorem top.tw14789260269991461300 : True := trivial
theorem top.tw14796646475526232899 : True := trivial
theorem top.tw14810493832863049995 : True := trivial
theorem top.tw14823308797102314842 : True := trivial
theorem top.tw14826035006057030972 : True := trivial
theorem top.tw1483126911874232274 : True := trivial
theorem top.tw14851680436948445374 : True := trivial
theorem top.tw14861896470697024400 : True := trivial
theorem top.tw1486479319815781832 : True := trivial
theorem top.tw14877882586016980531 : True := trivial
theorem top.tw14885488134526808858 : True := trivial
theorem top.tw14901070454687303710 : True := trivial
theorem top.tw14917401599646851644 : True := trivial
theorem top.tw14920630486856261636 : True := trivial
theorem top.tw1492452104121835379 : True := trivial
theorem top.tw14996135249977892343 : True := trivial
theorem top.tw15008207993883188931 : True := trivial
theorem top.tw15024216053386777475 : True := trivial
theorem top.tw15029563650323070435 : True := trivial
theorem top.tw15058813355848621054 : True := trivial
theorem top.tw15073315481182737699 : True := trivial
theorem top.tw15092371282622821202 : True := trivial
theorem top.tw15095372191486117680 : True := trivial
theorem top.tw15125931889511115149 : True := trivial
theorem top.tw151297168226168136 : True := trivial
theorem top.tw15151295755643613229 : True := trivial
theorem top.tw15159858333777297473 : True := trivial
theorem top.tw1516213087968936877 : True := trivial
theorem top.tw15166127791298437107 : True := trivial
theorem top.tw15169761463676818070 : True := trivial
theorem top.tw15177526630643400193 : True := trivial
theorem top.tw15212760480394562756 : True := trivial
theorem top.tw15213620147059012194 : True := trivial
theorem top.tw15234444972351076034 : True := trivial
theorem top.tw15240379268576122478 : True := trivial
theorem top.tw15242500199121756853 : True := trivial
theorem top.tw15245507539482535896 : True := trivial
theorem top.tw15248220891095644897 : True := trivial
theorem top.tw15248608768918997327 : True := trivial
theorem top.tw15254643099363442306 : True := trivial
theorem top.tw15262977503361262276 : True := trivial
theorem top.tw15271675978053873483 : True := trivial
theorem top.tw15277652076535365695 : True := trivial
theorem top.tw15286249088069653756 : True := trivial
theorem top.tw15299407806266782574 : True := trivial
theorem top.tw15327166235007040176 : True := trivial
theorem top.tw15330153412207162294 : True := trivial
theorem top.tw15349318334595610263 : True := trivial
theorem top.tw15350006587542526571 : True := trivial
theorem top.tw15360274220829721888 : True := trivial
theorem top.tw15361541807878343388 : True := trivial
theorem top.tw15362295582089109014 : True := trivial
theorem top.tw1536312445118062077 : True := trivial
theorem top.tw15383718091736126541 : True := trivial
theorem top.tw15401514717468139301 : True := trivial
theorem top.tw15404454927644166670 : True := trivial
theorem top.tw15431936980592406869 : True := trivial
theorem top.tw15438179002428589006 : True := trivial
theorem top.tw15451780782824253742 : True := trivial
theorem top.tw15491019914900986176 : True := trivial
theorem top.tw15498596964979890660 : True := trivial
theorem top.tw15503665604740900718 : True := trivial
theorem top.tw15506382734810221985 : True := trivial
theorem top.tw15508944514630427714 : True := trivial
theorem top.tw1551491737661789689 : True := trivial
theorem top.tw15516308363225789855 : True := trivial
theorem top.tw15525995667512963556 : True := trivial
theorem top.tw15542300402876303629 : True := trivial
theorem top.tw15542334942015070624 : True := trivial
theorem top.tw15569959144833144457 : True := trivial
theorem top.tw1559226430018442191 : True := trivial
theorem top.tw15638586536077026902 : True := trivial
theorem top.tw15646934709686841381 : True := trivial
theorem top.tw156775121503410738 : True := trivial
theorem top.tw15682138244387914425 : True := trivial
theorem top.tw15690355392615275366 : True := trivial
theorem top.tw15696354942287192291 : True := trivial
theorem top.tw15722756333993289495 : True := trivial
theorem top.tw15735037969156040135 : True := trivial
theorem top.tw15740088241188596515 : True := trivial
theorem top.tw15740948416001004644 : True := trivial
theorem top.tw15743347864482560488 : True := trivial
theorem top.tw15744752440731449612 : True := trivial
theorem top.tw15748125925826647682 : True := trivial
theorem top.tw15755962551988530747 : True := trivial
theorem top.tw15766219058475960075 : True := trivial
theorem top.tw15799541711010589177 : True := trivial
theorem top.tw15817181387143870920 : True := trivial
theorem top.tw15823732540823425666 : True := trivial
theorem top.tw15833254233020807429 : True := trivial
theorem top.tw15836908640704697380 : True := trivial
theorem top.tw1584292188352093569 : True := trivial
theorem top.tw1585457916280141200 : True := trivial
theorem top.tw15860264024139754761 : True := trivial
theorem top.tw15873491276070852124 : True := trivial
theorem top.tw15874363893724204672 : True := trivial
theorem top.tw15877122091014420850 : True := trivial
theorem top.tw15878805988109762761 : True := trivial
theorem top.tw15911569825323301435 : True := trivial
theorem top.tw15918733279669447828 : True := trivial
theorem top.tw1592229195962567352 : True := trivial
theorem top.tw1595350964381101642 : True := trivial
theorem top.tw15966430410579761919 : True := trivial
theorem top.tw15976228082101565994 : True := trivial
theorem top.tw15985680467844229196 : True := trivial
theorem top.tw15985961358823992270 : True := trivial
theorem top.tw15996449679401966620 : True := trivial
theorem top.tw16004416686337608138 : True := trivial
theorem top.tw16007503158450755388 : True := trivial
theorem top.tw1601500998369573665 : True := trivial
theorem top.tw16034636559557993077 : True := trivial
theorem top.tw16044733080236030384 : True := trivial
theorem top.tw16054190913257422852 : True := trivial
theorem top.tw16058212318047004132 : True := trivial
theorem top.tw16068562728529669930 : True := trivial
theorem top.tw16085473023203611486 : True := trivial
theorem top.tw16104615914030681952 : True := trivial
theorem top.tw16120041803238788101 : True := trivial
theorem top.tw16123964013534891561 : True := trivial
theorem top.tw16128028805679967097 : True := trivial
theorem top.tw16149628235652541579 : True := trivial
theorem top.tw16155163154822807229 : True := trivial
theorem top.tw16157251822727197267 : True := trivial
theorem top.tw16166457384891526456 : True := trivial
theorem top.tw1617357707322924660 : True := trivial
theorem top.tw16174758807025615021 : True := trivial
theorem top.tw16196420915677631385 : True := trivial
theorem top.tw16198110750618311827 : True := trivial
theorem top.tw16204670001084760307 : True := trivial
theorem top.tw16240068400928781132 : True := trivial
theorem top.tw16258771989139608452 : True := trivial
theorem top.tw16262243036561855896 : True := trivial
theorem top.tw16264823338695392855 : True := trivial
theorem top.tw16273406610938067001 : True := trivial
theorem top.tw16281582537960229878 : True := trivial
theorem top.tw16307090917165222298 : True := trivial
theorem top.tw16325430554902658873 : True := trivial
theorem top.tw16326585352142918636 : True := trivial
theorem top.tw16342770487823414484 : True := trivial
theorem top.tw16345600495311464638 : True := trivial
theorem top.tw16352630495959832749 : True := trivial
theorem top.tw16352725718246490361 : True := trivial
theorem top.tw16354691339474908690 : True := trivial
theorem top.tw16357309143852133390 : True := trivial
theorem top.tw1638113669730673903 : True := trivial
theorem top.tw16414630628198896168 : True := trivial
theorem top.tw16415559393655328363 : True := trivial
theorem top.tw16420938139371093754 : True := trivial
theorem top.tw16426902794028739630 : True := trivial
theorem top.tw16439428074185983240 : True := trivial
theorem top.tw16441578918305252802 : True := trivial
theorem top.tw16487795177693110071 : True := trivial
theorem top.tw16509065781470453940 : True := trivial
theorem top.tw16526113553464788058 : True := trivial
theorem top.tw16533540343700365917 : True := trivial
theorem top.tw16541100652227675460 : True := trivial
theorem top.tw16542083797698202722 : True := trivial
theorem top.tw16550210197400561554 : True := trivial
theorem top.tw1655259298481077034 : True := trivial
theorem top.tw16580785732701462914 : True := trivial
theorem top.tw16615598289260009181 : True := trivial
theorem top.tw16634809260590126417 : True := trivial
theorem top.tw16656781636731879198 : True := trivial
theorem top.tw16659674399394625376 : True := trivial
theorem top.tw16663450692288620524 : True := trivial
theorem top.tw16663787254893796032 : True := trivial
theorem top.tw16666122058527598403 : True := trivial
theorem top.tw16674975167109581930 : True := trivial
theorem top.tw16689171030330870956 : True := trivial
theorem top.tw1670607248958778201 : True := trivial
theorem top.tw16713831800681072344 : True := trivial
theorem top.tw16719718919923625709 : True := trivial
theorem top.tw16721989186581611170 : True := trivial
theorem top.tw16734371015571099844 : True := trivial
theorem top.tw16736118626332596326 : True := trivial
theorem top.tw16738887294677167769 : True := trivial
theorem top.tw16739174306508632950 : True := trivial
theorem top.tw16752354649701903923 : True := trivial
theorem top.tw16753658254399821694 : True := trivial
theorem top.tw16759092144687519636 : True := trivial
theorem top.tw1676862907878916244 : True := trivial
theorem top.tw16770000883354449096 : True := trivial
theorem top.tw16782997733028217545 : True := trivial
theorem top.tw16793365374058956912 : True := trivial
theorem top.tw16795567611416646642 : True := trivial
theorem top.tw16800595933775061595 : True := trivial
theorem top.tw16821654228018055803 : True := trivial
theorem top.tw16836452506482946331 : True := trivial
theorem top.tw16840627104734473223 : True := trivial
theorem top.tw16843226685827341786 : True := trivial
theorem top.tw16844067456194695469 : True := trivial
theorem top.tw16866024460163772082 : True := trivial
theorem top.tw16869365282274683789 : True := trivial
theorem top.tw16878204669230926818 : True := trivial
theorem top.tw16882738081622503669 : True := trivial
theorem top.tw16885616592811714743 : True := trivial
theorem top.tw16896751376397280635 : True := trivial
theorem top.tw16900427199656544559 : True := trivial
theorem top.tw16919938111736474924 : True := trivial
theorem top.tw1697544655201012999 : True := trivial
theorem top.tw16982378080980825192 : True := trivial
theorem top.tw16994376123345812558 : True := trivial
theorem top.tw17003929029777066486 : True := trivial
theorem top.tw17009415399725018624 : True := trivial
theorem top.tw17022078359063049780 : True := trivial
theorem top.tw17030962893124633753 : True := trivial
theorem top.tw17033825039287860005 : True := trivial
theorem top.tw17043807559483770280 : True := trivial
theorem top.tw17046948494117081484 : True := trivial
theorem top.tw17050326753033342646 : True := trivial
theorem top.tw1706793611546318481 : True := trivial
theorem top.tw17069463140951725850 : True := trivial
theorem top.tw17085176360113175178 : True := trivial
theorem top.tw17089494485692210459 : True := trivial
theorem top.tw17103177528636943170 : True := trivial
theorem top.tw17103585973383926153 : True := trivial
theorem top.tw17104280840954017025 : True := trivial
theorem top.tw17135812771915316397 : True := trivial
theorem top.tw17138679496734019247 : True := trivial
theorem top.tw17157282023139344501 : True := trivial
theorem top.tw17160434163424456010 : True := trivial
theorem top.tw17176029603704830031 : True := trivial
theorem top.tw17176153746220573435 : True := trivial
theorem top.tw17177869089781658578 : True := trivial
theorem top.tw1717825165581474212 : True := trivial
theorem top.tw17198216790686304802 : True := trivial
theorem top.tw17219337458794519322 : True := trivial
theorem top.tw17226846203573267761 : True := trivial
theorem top.tw17240160907184977327 : True := trivial
theorem top.tw17253974145678602553 : True := trivial
theorem top.tw17258124492514966302 : True := trivial
theorem top.tw17286469954988799325 : True := trivial
theorem top.tw17301418000779511131 : True := trivial
theorem top.tw17316021358764173963 : True := trivial
theorem top.tw17319283176316166010 : True := trivial
theorem top.tw1732150942055357024 : True := trivial
theorem top.tw17323899518341599180 : True := trivial
theorem top.tw17336350906216195740 : True := trivial
theorem top.tw17337222044243258637 : True := trivial
theorem top.tw1733831254367769698 : True := trivial
theorem top.tw17342085116792181814 : True := trivial
theorem top.tw17346259052997144950 : True := trivial
theorem top.tw17355269125676882429 : True := trivial
theorem top.tw1736530178072539846 : True := trivial
theorem top.tw17366924284538989914 : True := trivial
theorem top.tw17371467147965452787 : True := trivial
theorem top.tw17391775962083533515 : True := trivial
theorem top.tw17395277212465857529 : True := trivial
theorem top.tw17412589854805754852 : True := trivial
theorem top.tw17420174224997489956 : True := trivial
theorem top.tw17428532607074087071 : True := trivial
theorem top.tw17431308487043992063 : True := trivial
theorem top.tw17434308400759680031 : True := trivial
theorem top.tw17469865338272021226 : True := trivial
theorem top.tw17470836177267949868 : True := trivial
theorem top.tw17474498911051797155 : True := trivial
theorem top.tw17486766287000646611 : True := trivial
theorem top.tw17489137672866753323 : True := trivial
theorem top.tw17492772389151264855 : True := trivial
theorem top.tw17494340499879156831 : True := trivial
theorem top.tw17504273579162756690 : True := trivial
theorem top.tw1752352281038534220 : True := trivial
theorem top.tw17542608870123051758 : True := trivial
theorem top.tw1754339480302792767 : True := trivial
theorem top.tw17545328352263074274 : True := trivial
theorem top.tw17555251805378815213 : True := trivial
theorem top.tw17565814175750979855 : True := trivial
theorem top.tw17566744294597663674 : True := trivial
theorem top.tw17576949682797635024 : True := trivial
theorem top.tw17576975557295073227 : True := trivial
theorem top.tw17586783052614405119 : True := trivial
theorem top.tw1759469698184221871 : True := trivial
theorem top.tw17594962761535629368 : True := trivial
theorem top.tw17595191090738125544 : True := trivial
theorem top.tw17615266703402032888 : True := trivial
theorem top.tw17620759639134147866 : True := trivial
theorem top.tw17676611151829563924 : True := trivial
theorem top.tw17683472795295644477 : True := trivial
theorem top.tw17687602583917657593 : True := trivial
theorem top.tw17709558473723601244 : True := trivial
theorem top.tw17735899436944072409 : True := trivial
theorem top.tw17741875731164886585 : True := trivial
theorem top.tw17774833976778514315 : True := trivial
theorem top.tw17781115878593249900 : True := trivial
theorem top.tw17783859843131274014 : True := trivial
theorem top.tw17785818512168800811 : True := trivial
theorem top.tw17788931634197215145 : True := trivial
theorem top.tw17790942634138044402 : True := trivial
theorem top.tw17794366733547915435 : True := trivial
theorem top.tw17795014544551873601 : True := trivial
theorem top.tw17810072253543177317 : True := trivial
theorem top.tw17828378304095215089 : True := trivial
theorem top.tw17830291351795818772 : True := trivial
theorem top.tw17839435632426287655 : True := trivial
theorem top.tw17861464445857800736 : True := trivial
theorem top.tw17886615442053742456 : True := trivial
theorem top.tw17916939684832112104 : True := trivial
theorem top.tw17921175469725437805 : True := trivial
theorem top.tw17953984050398360512 : True := trivial
theorem top.tw17958866498819703998 : True := trivial
theorem top.tw17964300760807480141 : True := trivial
theorem top.tw17981982808018919739 : True := trivial
theorem top.tw18008055252877512497 : True := trivial
theorem top.tw18016941796951652274 : True := trivial
theorem top.tw18019038629786789233 : True := trivial
theorem top.tw1803303928475200142 : True := trivial
theorem top.tw18034075008235765660 : True := trivial
theorem top.tw1805163160381243805 : True := trivial
theorem top.tw18062624165398249997 : True := trivial
theorem top.tw18063644159110109576 : True := trivial
theorem top.tw18064794426631996164 : True := trivial
theorem top.tw18070880279388434537 : True := trivial
theorem top.tw18085771088847121727 : True := trivial
theorem top.tw18121458448819002052 : True := trivial
theorem top.tw18121752080927795069 : True := trivial
theorem top.tw18134043772397237400 : True := trivial
theorem top.tw18137363274558907533 : True := trivial
theorem top.tw18144237087569449668 : True := trivial
theorem top.tw1814787853859245837 : True := trivial
theorem top.tw18164388396756303480 : True := trivial
theorem top.tw18177719399980262173 : True := trivial
theorem top.tw18185382058313985135 : True := trivial
theorem top.tw18186074749648716422 : True := trivial
theorem top.tw18194552166560175392 : True := trivial
theorem top.tw18200808041648558556 : True := trivial
theorem top.tw18201758440048473509 : True := trivial
theorem top.tw18229784292405043182 : True := trivial
theorem top.tw18236624570336363585 : True := trivial
theorem top.tw18237780215024852062 : True := trivial
theorem top.tw18245740138792012028 : True := trivial
theorem top.tw18266201782428273354 : True := trivial
theorem top.tw18289109515434150305 : True := trivial
theorem top.tw18297691965846887475 : True := trivial
theorem top.tw18326957874037197240 : True := trivial
theorem top.tw18330144715369815205 : True := trivial
theorem top.tw18338267663776618500 : True := trivial
theorem top.tw1833847959688406909 : True := trivial
theorem top.tw18344159896984962366 : True := trivial
theorem top.tw18362437273917381549 : True := trivial
theorem top.tw18367679650794681301 : True := trivial
theorem top.tw18371284783138465269 : True := trivial
theorem top.tw18374746225686918389 : True := trivial
theorem top.tw18386854893347148238 : True := trivial
theorem top.tw18394268562011335289 : True := trivial
theorem top.tw18404935858338921730 : True := trivial
theorem top.tw1841203439943692989 : True := trivial
theorem top.tw18415971267559613563 : True := trivial
theorem top.tw1843344800811705456 : True := trivial
theorem top.tw18444284757076569719 : True := trivial
theorem top.tw1867163669062818997 : True := trivial
theorem top.tw1869187583165140508 : True := trivial
theorem top.tw1880918794155911695 : True := trivial
theorem top.tw1886144042066472794 : True := trivial
theorem top.tw1897025099450329940 : True := trivial
theorem top.tw1924644684860415827 : True := trivial
theorem top.tw1950521091445644615 : True := trivial
theorem top.tw196536941598035525 : True := trivial
theorem top.tw1970226141267450039 : True := trivial
theorem top.tw1971433849790844608 : True := trivial
theorem top.tw1974259917200649262 : True := trivial
theorem top.tw1981915974141516567 : True := trivial
theorem top.tw1988063486488863061 : True := trivial
theorem top.tw1990408344712342385 : True := trivial
theorem top.tw1999819345807860298 : True := trivial
theorem top.tw2007660962349395123 : True := trivial
theorem top.tw2009410202504348048 : True := trivial
theorem top.tw2029088862249889922 : True := trivial
theorem top.tw2047080938173012442 : True := trivial
theorem top.tw2047500489365003465 : True := trivial
theorem top.tw2050295075708095047 : True := trivial
theorem top.tw2063449620868658059 : True := trivial
theorem top.tw2095105360761779985 : True := trivial
theorem top.tw2103985501979894447 : True := trivial
theorem top.tw2104741419117168686 : True := trivial
theorem top.tw2105017259488925948 : True := trivial
theorem top.tw2125386657190883914 : True := trivial
theorem top.tw2126296398998916975 : True := trivial
theorem top.tw2145171640123136144 : True := trivial
theorem top.tw2150993244196320878 : True := trivial
theorem top.tw216529984938456764 : True := trivial
theorem top.tw2165817408578904141 : True := trivial
theorem top.tw2167618695193717045 : True := trivial
theorem top.tw2170277104671012619 : True := trivial
theorem top.tw2175593866937868789 : True := trivial
theorem top.tw219567558967394950 : True := trivial
theorem top.tw2220570432770164149 : True := trivial
theorem top.tw2248615004971204189 : True := trivial
theorem top.tw2267912224990424062 : True := trivial
theorem top.tw2287823674025257028 : True := trivial
theorem top.tw2307138979858485370 : True := trivial
theorem top.tw2312856594315299383 : True := trivial
theorem top.tw231919175587332662 : True := trivial
theorem top.tw2341375176344054394 : True := trivial
theorem top.tw2365566498512967660 : True := trivial
theorem top.tw2369445192022557226 : True := trivial
theorem top.tw2377541652452675900 : True := trivial
theorem top.tw2387695369934537081 : True := trivial
theorem top.tw2394881407643693062 : True := trivial
theorem top.tw2404127567346610951 : True := trivial
theorem top.tw2405475915293451298 : True := trivial
theorem top.tw2411195145006440666 : True := trivial
theorem top.tw2417791160451022400 : True := trivial
theorem top.tw2422214840401454511 : True := trivial
theorem top.tw2424727229257130912 : True := trivial
theorem top.tw2443449257678562572 : True := trivial
theorem top.tw2446451932059125521 : True := trivial
theorem top.tw2446586112883488508 : True := trivial
theorem top.tw2462062305354472974 : True := trivial
theorem top.tw2464713573024523455 : True := trivial
theorem top.tw2479311146797828861 : True := trivial
theorem top.tw2502181453436431679 : True := trivial
theorem top.tw2506305409684761478 : True := trivial
theorem top.tw2511388062720753356 : True := trivial
theorem top.tw2514443458684651071 : True := trivial
theorem top.tw2529601377429677153 : True := trivial
theorem top.tw2531698151371588898 : True := trivial
theorem top.tw2544169868661182894 : True := trivial
theorem top.tw2555065506035805374 : True := trivial
theorem top.tw2564807258711394888 : True := trivial
theorem top.tw2565563351968343141 : True := trivial
theorem top.tw2580922434103091657 : True := trivial
theorem top.tw2581206410525282061 : True := trivial
theorem top.tw2592109501493986082 : True := trivial
theorem top.tw2596539476470345881 : True := trivial
theorem top.tw2601905985415302144 : True := trivial
theorem top.tw2617181576586992344 : True := trivial
theorem top.tw2617719716777270872 : True := trivial
theorem top.tw2619622883677149074 : True := trivial
theorem top.tw2630061898475652689 : True := trivial
theorem top.tw2665807947273092163 : True := trivial
theorem top.tw2670627174450433442 : True := trivial
theorem top.tw2675166985342186458 : True := trivial
theorem top.tw2683898200743741643 : True := trivial
theorem top.tw2685012915969955173 : True := trivial
theorem top.tw2685745773621513544 : True := trivial
theorem top.tw2686433634493928565 : True := trivial
theorem top.tw2700199365505918788 : True := trivial
theorem top.tw2707679213066786127 : True := trivial
theorem top.tw2712389131950775728 : True := trivial
theorem top.tw2722852734226103192 : True := trivial
theorem top.tw2727672472851901052 : True := trivial
theorem top.tw2731995056826638727 : True := trivial
theorem top.tw2732273902793177162 : True := trivial
theorem top.tw2737145857125637188 : True := trivial
theorem top.tw2741389259953327712 : True := trivial
theorem top.tw2742194189697913485 : True := trivial
theorem top.tw2752453847809088016 : True := trivial
theorem top.tw2758071753971750899 : True := trivial
theorem top.tw2770239361232196585 : True := trivial
theorem top.tw2770563814800254177 : True := trivial
theorem top.tw2782073688633401757 : True := trivial
theorem top.tw2788377495573325354 : True := trivial
theorem top.tw2809488002615124206 : True := trivial
theorem top.tw2812155379371279736 : True := trivial
theorem top.tw2822501910515967889 : True := trivial
theorem top.tw283044589724301 : True := trivial
theorem top.tw2835187731363253809 : True := trivial
theorem top.tw2847958352784047137 : True := trivial
theorem top.tw2859833716702649255 : True := trivial
theorem top.tw2867133514656366558 : True := trivial
theorem top.tw2878843996050045342 : True := trivial
theorem top.tw2879243146029554076 : True := trivial
theorem top.tw2896640688883821729 : True := trivial
theorem top.tw2907113945770861938 : True := trivial
theorem top.tw2910609919460849807 : True := trivial
theorem top.tw2920149284261455155 : True := trivial
theorem top.tw2924597203103170677 : True := trivial
theorem top.tw2926424126403749041 : True := trivial
theorem top.tw2965125352208521119 : True := trivial
theorem top.tw2968346561183084112 : True := trivial
theorem top.tw2972514686349903234 : True := trivial
theorem top.tw2975709217455756120 : True := trivial
theorem top.tw2985252069258134486 : True := trivial
theorem top.tw2988451766255067171 : True := trivial
theorem top.tw3002795768020413707 : True := trivial
theorem top.tw302023382947574297 : True := trivial
theorem top.tw3033006917804047512 : True := trivial
theorem top.tw304654302220672320 : True := trivial
theorem top.tw305557533498188196 : True := trivial
theorem top.tw3061314461118691792 : True := trivial
theorem top.tw3087888393795971977 : True := trivial
theorem top.tw3095723055068941187 : True := trivial
theorem top.tw3120133295221510679 : True := trivial
theorem top.tw3140898538269762758 : True := trivial
theorem top.tw3143785405151724282 : True := trivial
theorem top.tw314455870634268127 : True := trivial
theorem top.tw3195522803047326042 : True := trivial
theorem top.tw3195968871104189447 : True := trivial
theorem top.tw3207569582813703071 : True := trivial
theorem top.tw3217022616335106338 : True := trivial
theorem top.tw3242435153667248048 : True := trivial
theorem top.tw3254097082911018636 : True := trivial
theorem top.tw3261557481417251176 : True := trivial
theorem top.tw3265191590900254762 : True := trivial
theorem top.tw32865551896584297 : True := trivial
theorem top.tw3299242776949789610 : True := trivial
theorem top.tw3315250197877816394 : True := trivial
theorem top.tw3331421620988305804 : True := trivial
theorem top.tw3337584539547039419 : True := trivial
theorem top.tw3357215229441099570 : True := trivial
theorem top.tw3378803678994701225 : True := trivial
theorem top.tw3389129807090800087 : True := trivial
theorem top.tw339143206060000330 : True := trivial
theorem top.tw3392894077380570524 : True := trivial
theorem top.tw3418912648064540324 : True := trivial
theorem top.tw3422688185749166683 : True := trivial
theorem top.tw342308947776675178 : True := trivial
theorem top.tw3423177367516475676 : True := trivial
theorem top.tw3453223234828964814 : True := trivial
theorem top.tw3465488137227279516 : True := trivial
theorem top.tw3473093325804163894 : True := trivial
theorem top.tw3474246075231452896 : True := trivial
theorem top.tw3479634599624807885 : True := trivial
theorem top.tw3484022092364678248 : True := trivial
theorem top.tw3486219094355674750 : True := trivial
theorem top.tw350670483859837877 : True := trivial
theorem top.tw3512812017678644602 : True := trivial
theorem top.tw352232786441526191 : True := trivial
theorem top.tw3548060758652744671 : True := trivial
theorem top.tw3561193834555079511 : True := trivial
theorem top.tw3570499242123996262 : True := trivial
theorem top.tw3577143413337915853 : True := trivial
theorem top.tw3581848524822189991 : True := trivial
theorem top.tw3584897518013459382 : True := trivial
theorem top.tw3591793333600012464 : True := trivial
theorem top.tw3603051052118289896 : True := trivial
theorem top.tw3605147657684821369 : True := trivial
theorem top.tw3618190572293784073 : True := trivial
theorem top.tw3644161924160858147 : True := trivial
theorem top.tw3656269831002480980 : True := trivial
theorem top.tw3657543652526465285 : True := trivial
theorem top.tw3663364146628395187 : True := trivial
theorem top.tw3664424711883983056 : True := trivial
theorem top.tw3669314199184481253 : True := trivial
theorem top.tw3695669965767098725 : True := trivial
theorem top.tw3696473221133414273 : True := trivial
theorem top.tw3704924817259034979 : True := trivial
theorem top.tw370947364307004932 : True := trivial
theorem top.tw3712731000106771831 : True := trivial
theorem top.tw3715792687998586317 : True := trivial
theorem top.tw372964977893139469 : True := trivial
theorem top.tw3730354652608582461 : True := trivial
theorem top.tw3739144386018749749 : True := trivial
theorem top.tw3764141193738528704 : True := trivial
theorem top.tw3767615275625035234 : True := trivial
theorem top.tw3776753064480771068 : True := trivial
theorem top.tw378458367893578143 : True := trivial
theorem top.tw3796891538752321733 : True := trivial
theorem top.tw381845443943030031 : True := trivial
theorem top.tw3820434133910038737 : True := trivial
theorem top.tw3831216023754155268 : True := trivial
theorem top.tw3843465024185675410 : True := trivial
theorem top.tw3846862658102513837 : True := trivial
theorem top.tw3848903353894205444 : True := trivial
theorem top.tw3855276242980373810 : True := trivial
theorem top.tw3871027444623705763 : True := trivial
theorem top.tw387204362621204559 : True := trivial
theorem top.tw3874152929960365753 : True := trivial
theorem top.tw3901323768455840569 : True := trivial
theorem top.tw3909029901177050473 : True := trivial
theorem top.tw390997316461189296 : True := trivial
theorem top.tw3919377379767254264 : True := trivial
theorem top.tw3949973439248644570 : True := trivial
theorem top.tw3951254518941146482 : True := trivial
theorem top.tw395507657311394833 : True := trivial
theorem top.tw3969286963782609292 : True := trivial
theorem top.tw3976154599441133093 : True := trivial
theorem top.tw3992022051434115590 : True := trivial
theorem top.tw3995942328266245912 : True := trivial
theorem top.tw4002441696211005659 : True := trivial
theorem top.tw4010397242664982755 : True := trivial
theorem top.tw401921906979044612 : True := trivial
theorem top.tw4023782888421380502 : True := trivial
theorem top.tw4046864289407762814 : True := trivial
theorem top.tw4047667213573674445 : True := trivial
theorem top.tw4052878762203253943 : True := trivial
theorem top.tw405421117753717134 : True := trivial
theorem top.tw4058662728301269685 : True := trivial
theorem top.tw406307069064896382 : True := trivial
theorem top.tw4076138812419527698 : True := trivial
theorem top.tw4078632795009310368 : True := trivial
theorem top.tw4081133612924020251 : True := trivial
theorem top.tw408693308722189009 : True := trivial
theorem top.tw4111001743050654279 : True := trivial
theorem top.tw411662067469150650 : True := trivial
theorem top.tw4131498621145694574 : True := trivial
theorem top.tw4134505453457115739 : True := trivial
theorem top.tw4154345032738424160 : True := trivial
theorem top.tw4158126171336067921 : True := trivial
theorem top.tw4159251561096739476 : True := trivial
theorem top.tw4166218997396506358 : True := trivial
theorem top.tw4177254973167742082 : True := trivial
theorem top.tw419386298079150103 : True := trivial
theorem top.tw4205137553216949640 : True := trivial
theorem top.tw4213018616267185653 : True := trivial
theorem top.tw4231656071295301730 : True := trivial
theorem top.tw4232285709927190386 : True := trivial
theorem top.tw4250876409542091131 : True := trivial
theorem top.tw4250950275838387964 : True := trivial
theorem top.tw4258143625173308034 : True := trivial
theorem top.tw4269943819458244956 : True := trivial
theorem top.tw427269002284569659 : True := trivial
theorem top.tw427420600052151026 : True := trivial
theorem top.tw4282000862649549572 : True := trivial
theorem top.tw4292522238394942308 : True := trivial
theorem top.tw4299629679881509495 : True := trivial
theorem top.tw4325237762282762998 : True := trivial
theorem top.tw4331257952254489624 : True := trivial
theorem top.tw4345882819342510227 : True := trivial
theorem top.tw4383139521930768336 : True := trivial
theorem top.tw439095664309466517 : True := trivial
theorem top.tw4392038535549328194 : True := trivial
theorem top.tw443688265066261825 : True := trivial
theorem top.tw4462018665069346703 : True := trivial
theorem top.tw4468942710605802240 : True := trivial
theorem top.tw4498253355057717688 : True := trivial
theorem top.tw4501217679856968648 : True := trivial
theorem top.tw4526881389914513428 : True := trivial
theorem top.tw453181688931711583 : True := trivial
theorem top.tw4532190169414405891 : True := trivial
theorem top.tw4547018644641229820 : True := trivial
theorem top.tw4547113066930546574 : True := trivial
theorem top.tw4551080515912023512 : True := trivial
theorem top.tw4555866861457887817 : True := trivial
theorem top.tw4566856676736034171 : True := trivial
theorem top.tw4571971715460732019 : True := trivial
theorem top.tw4586369020291528013 : True := trivial
theorem top.tw4597200072644226624 : True := trivial
theorem top.tw4626048006780466326 : True := trivial
theorem top.tw462939625794472801 : True := trivial
theorem top.tw4636308790740814030 : True := trivial
theorem top.tw4655869559712951663 : True := trivial
theorem top.tw4656485037274611717 : True := trivial
theorem top.tw4671429814451907529 : True := trivial
theorem top.tw4691186174975459493 : True := trivial
theorem top.tw4695670854781333657 : True := trivial
theorem top.tw46980244435833615 : True := trivial
theorem top.tw4699463449715708850 : True := trivial
theorem top.tw4705723845826882120 : True := trivial
theorem top.tw47109162367338493 : True := trivial
theorem top.tw4713442408853163898 : True := trivial
theorem top.tw4721632059943922391 : True := trivial
theorem top.tw4730768163679209282 : True := trivial
theorem top.tw4736427724481360342 : True := trivial
theorem top.tw4758991174889311326 : True := trivial
theorem top.tw4764630281523977524 : True := trivial
theorem top.tw4770301895538212512 : True := trivial
theorem top.tw4773702212245658779 : True := trivial
theorem top.tw4778504736273101941 : True := trivial
theorem top.tw4784893810139332661 : True := trivial
theorem top.tw479018264907363369 : True := trivial
theorem top.tw4791253341166991637 : True := trivial
theorem top.tw4796303294375832693 : True := trivial
theorem top.tw4807402645868434406 : True := trivial
theorem top.tw4807692442873511580 : True := trivial
theorem top.tw4827538265410502810 : True := trivial
theorem top.tw4828031223510198475 : True := trivial
theorem top.tw4835499133494076262 : True := trivial
theorem top.tw4840481374290595910 : True := trivial
theorem top.tw485662357110503675 : True := trivial
theorem top.tw4856909995586565122 : True := trivial
theorem top.tw4859757453598101857 : True := trivial
theorem top.tw4870201379501977574 : True := trivial
theorem top.tw4885547446624616799 : True := trivial
theorem top.tw4898356984482387957 : True := trivial
theorem top.tw4916261283513009128 : True := trivial
theorem top.tw492879137614061493 : True := trivial
theorem top.tw4940147422707163885 : True := trivial
theorem top.tw4951766788466123468 : True := trivial
theorem top.tw4977374598719398275 : True := trivial
theorem top.tw5005317128667965579 : True := trivial
theorem top.tw501154541418245514 : True := trivial
theorem top.tw5058314954733539658 : True := trivial
theorem top.tw5071412327939943321 : True := trivial
theorem top.tw5072613934562372735 : True := trivial
theorem top.tw5077617475879078156 : True := trivial
theorem top.tw5078243831526850631 : True := trivial
theorem top.tw5088376156974544275 : True := trivial
theorem top.tw5105846836358774362 : True := trivial
theorem top.tw5118827330378232414 : True := trivial
theorem top.tw5151264090131730833 : True := trivial
theorem top.tw5158987858606641884 : True := trivial
theorem top.tw516228168201391017 : True := trivial
theorem top.tw5163715390036670947 : True := trivial
theorem top.tw517144808224063464 : True := trivial
theorem top.tw5176459694589498394 : True := trivial
theorem top.tw5184313038246851650 : True := trivial
theorem top.tw5184316447030610940 : True := trivial
theorem top.tw5186518429493523239 : True := trivial
theorem top.tw5196900775432865589 : True := trivial
theorem top.tw5225153198818245361 : True := trivial
theorem top.tw5225916559131626549 : True := trivial
theorem top.tw5235370132326077648 : True := trivial
theorem top.tw5240389563564037448 : True := trivial
theorem top.tw5240762971458559404 : True := trivial
theorem top.tw5244899138074338376 : True := trivial
theorem top.tw5245862010334584759 : True := trivial
theorem top.tw5251713544086459897 : True := trivial
theorem top.tw5254037755948148165 : True := trivial
theorem top.tw5278709424875269971 : True := trivial
theorem top.tw5290597957214086601 : True := trivial
theorem top.tw5303079699428457377 : True := trivial
theorem top.tw5311694039014081935 : True := trivial
theorem top.tw53344730913325255 : True := trivial
theorem top.tw5341432206176310031 : True := trivial
theorem top.tw5341934141677670832 : True := trivial
theorem top.tw5349061588398572082 : True := trivial
theorem top.tw5365650347091420665 : True := trivial
theorem top.tw5379463472682653830 : True := trivial
theorem top.tw5380135791562185454 : True := trivial
theorem top.tw5386005190664262872 : True := trivial
theorem top.tw5398424786039705171 : True := trivial
theorem top.tw5421816513050928763 : True := trivial
theorem top.tw5444345374180229054 : True := trivial
theorem top.tw5454907873200149103 : True := trivial
theorem top.tw5472114250418208992 : True := trivial
theorem top.tw5476889619067714990 : True := trivial
theorem top.tw5483185372664623402 : True := trivial
theorem top.tw55027467381167213 : True := trivial
theorem top.tw5507162329139097715 : True := trivial
theorem top.tw5513142621748847562 : True := trivial
theorem top.tw5523086135645875356 : True := trivial
theorem top.tw5535988348211436712 : True := trivial
theorem top.tw5536038536531405202 : True := trivial
theorem top.tw5552270689369575618 : True := trivial
theorem top.tw5568030912866071158 : True := trivial
theorem top.tw5571243529121415630 : True := trivial
theorem top.tw5581607755468803823 : True := trivial
theorem top.tw5596246493660723681 : True := trivial
theorem top.tw5596365628329696591 : True := trivial
theorem top.tw5609151216138764652 : True := trivial
theorem top.tw5647976800219259906 : True := trivial
theorem top.tw5648408011753718230 : True := trivial
theorem top.tw5691087667936548404 : True := trivial
theorem top.tw5692499903750754813 : True := trivial
theorem top.tw5702910450625016506 : True := trivial
theorem top.tw5705847716771211507 : True := trivial
theorem top.tw5728218623943512802 : True := trivial
theorem top.tw575894324575664597 : True := trivial
theorem top.tw5764397981948056254 : True := trivial
theorem top.tw5766051744304087583 : True := trivial
theorem top.tw5771795636922677268 : True := trivial
theorem top.tw5786237608948540331 : True := trivial
theorem top.tw5790966258338625528 : True := trivial
theorem top.tw5804503181746721162 : True := trivial
theorem top.tw5839659824258004927 : True := trivial
theorem top.tw5850499497852442878 : True := trivial
theorem top.tw5860347150701562758 : True := trivial
theorem top.tw5868845118606482295 : True := trivial
theorem top.tw5889316905344633881 : True := trivial
theorem top.tw5915399644114372684 : True := trivial
theorem top.tw5922324665105752571 : True := trivial
theorem top.tw5938664839603501006 : True := trivial
theorem top.tw5938710623178642122 : True := trivial
theorem top.tw594810645892935528 : True := trivial
theorem top.tw5958459099580689026 : True := trivial
theorem top.tw5969682004907312646 : True := trivial
theorem top.tw5969987386201385886 : True := trivial
theorem top.tw5983031951866500094 : True := trivial
theorem top.tw6009737039390750178 : True := trivial
theorem top.tw602653604445443664 : True := trivial
theorem top.tw6042063481754889096 : True := trivial
theorem top.tw6057728870046649322 : True := trivial
theorem top.tw6065713072024180384 : True := trivial
theorem top.tw6075534854705499898 : True := trivial
theorem top.tw6124053682588569230 : True := trivial
theorem top.tw6127594578889010139 : True := trivial
theorem top.tw614279269813649353 : True := trivial
theorem top.tw6176384092110617959 : True := trivial
theorem top.tw6185767955086497853 : True := trivial
theorem top.tw6187478851450931391 : True := trivial
theorem top.tw6189502492464219833 : True := trivial
theorem top.tw6196800358849779857 : True := trivial
theorem top.tw620129878449983639 : True := trivial
theorem top.tw6203543418390704334 : True := trivial
theorem top.tw6211089042160764376 : True := trivial
theorem top.tw6220391956798857122 : True := trivial
theorem top.tw6240723676877644813 : True := trivial
theorem top.tw6259670677727819807 : True := trivial
theorem top.tw6263863080660174929 : True := trivial
theorem top.tw6265675901050258516 : True := trivial
theorem top.tw6265701101103706036 : True := trivial
theorem top.tw626854936526192744 : True := trivial
theorem top.tw6276886402236213621 : True := trivial
theorem top.tw6286779285267259847 : True := trivial
theorem top.tw6287420888163001789 : True := trivial
theorem top.tw6292954644110606532 : True := trivial
theorem top.tw6333448901615975916 : True := trivial
theorem top.tw6345181382737326586 : True := trivial
theorem top.tw6368444912582307175 : True := trivial
theorem top.tw6370870915552960936 : True := trivial
theorem top.tw6381231289166406305 : True := trivial
theorem top.tw6383614241601562808 : True := trivial
theorem top.tw6430265229019958763 : True := trivial
theorem top.tw6431110157172167083 : True := trivial
theorem top.tw6432616177841060128 : True := trivial
theorem top.tw6438537300738474071 : True := trivial
theorem top.tw6448850889433096767 : True := trivial
theorem top.tw6459276657848829223 : True := trivial
theorem top.tw6460121766331871944 : True := trivial
theorem top.tw6468107147075657394 : True := trivial
theorem top.tw6473336682457920079 : True := trivial
theorem top.tw6480638250107114081 : True := trivial
theorem top.tw6487610083215253720 : True := trivial
theorem top.tw6491118196486620199 : True := trivial
theorem top.tw649594095290182367 : True := trivial
theorem top.tw6503730183909636620 : True := trivial
theorem top.tw6505410396798821541 : True := trivial
theorem top.tw6506245621856685454 : True := trivial
theorem top.tw6509661102738689577 : True := trivial
theorem top.tw6520327441239513222 : True := trivial
theorem top.tw6553124395847675662 : True := trivial
theorem top.tw657111498738832265 : True := trivial
theorem top.tw6583040956863952856 : True := trivial
theorem top.tw65929781887070819 : True := trivial
theorem top.tw6594526768476950845 : True := trivial
theorem top.tw6600658504840714314 : True := trivial
theorem top.tw661290744650703789 : True := trivial
theorem top.tw6623532728838073528 : True := trivial
theorem top.tw6624316729101989866 : True := trivial
theorem top.tw6647988282438417870 : True := trivial
theorem top.tw6659320528611288953 : True := trivial
theorem top.tw6662652255960138227 : True := trivial
theorem top.tw6664487174759623829 : True := trivial
theorem top.tw6673648511845087434 : True := trivial
theorem top.tw6674990990233134667 : True := trivial
theorem top.tw668136137496459709 : True := trivial
theorem top.tw6684265986288010511 : True := trivial
theorem top.tw6694047246710070196 : True := trivial
theorem top.tw6699709698940308603 : True := trivial
theorem top.tw672699306608606093 : True := trivial
theorem top.tw6733462575251390621 : True := trivial
theorem top.tw6746510453823603384 : True := trivial
theorem top.tw6749217079512962374 : True := trivial
theorem top.tw6754034310392073148 : True := trivial
theorem top.tw6756851087969907010 : True := trivial
theorem top.tw6756868429301003459 : True := trivial
theorem top.tw6761616313442571491 : True := trivial
theorem top.tw6763507551630497732 : True := trivial
theorem top.tw6786057226368545225 : True := trivial
theorem top.tw679676368844127653 : True := trivial
theorem top.tw6812286434817487243 : True := trivial
theorem top.tw681777741448182936 : True := trivial
theorem top.tw682014064893787789 : True := trivial
theorem top.tw6821124136996835843 : True := trivial
theorem top.tw682540789936518273 : True := trivial
theorem top.tw6829641428016954087 : True := trivial
theorem top.tw6859976401760118174 : True := trivial
theorem top.tw6883741973766446791 : True := trivial
theorem top.tw6885214360128481674 : True := trivial
theorem top.tw6893477703608230032 : True := trivial
theorem top.tw6898770573198911631 : True := trivial
theorem top.tw6900192571869012848 : True := trivial
theorem top.tw6906291655842520137 : True := trivial
theorem top.tw6908635100366463001 : True := trivial
theorem top.tw6912233166142098652 : True := trivial
theorem top.tw6916252892733821390 : True := trivial
theorem top.tw6919701780365589675 : True := trivial
theorem top.tw6930518751129746686 : True := trivial
theorem top.tw6933892841690572062 : True := trivial
theorem top.tw6937078607013753133 : True := trivial
theorem top.tw6942226510957090829 : True := trivial
theorem top.tw6973401727384321114 : True := trivial
theorem top.tw7008692893051332821 : True := trivial
theorem top.tw7033079012710635876 : True := trivial
theorem top.tw7059692629156357883 : True := trivial
theorem top.tw7069076742222632293 : True := trivial
theorem top.tw7078021915948373547 : True := trivial
theorem top.tw7079599612431449588 : True := trivial
theorem top.tw708234853630380328 : True := trivial
theorem top.tw7108139096449030536 : True := trivial
theorem top.tw7128477653932159489 : True := trivial
theorem top.tw7138430578808182737 : True := trivial
theorem top.tw7158002623345892728 : True := trivial
theorem top.tw7160130303325142008 : True := trivial
theorem top.tw7160873610591055699 : True := trivial
theorem top.tw7188692134583612594 : True := trivial
theorem top.tw7191137982244381804 : True := trivial
theorem top.tw7198060816514059695 : True := trivial
theorem top.tw7204998973626084599 : True := trivial
theorem top.tw7211222395507428345 : True := trivial
theorem top.tw7213333562754528385 : True := trivial
theorem top.tw7215319984434753242 : True := trivial
theorem top.tw72247145696351765 : True := trivial
theorem top.tw7230903212357928904 : True := trivial
theorem top.tw7249705126575804556 : True := trivial
theorem top.tw7250933059871147345 : True := trivial
theorem top.tw7251850219453770173 : True := trivial
theorem top.tw7273676953221729872 : True := trivial
theorem top.tw7280543176740627685 : True := trivial
theorem top.tw728428047077509346 : True := trivial
theorem top.tw7297446738713254254 : True := trivial
theorem top.tw7313339093194340965 : True := trivial
theorem top.tw7314081408670574914 : True := trivial
theorem top.tw731822037213393670 : True := trivial
theorem top.tw7325726471975496349 : True := trivial
theorem top.tw7358114872323791358 : True := trivial
theorem top.tw7360070258638436176 : True := trivial
theorem top.tw7381879191629600215 : True := trivial
theorem top.tw7387763944681370771 : True := trivial
theorem top.tw7414872774492366064 : True := trivial
theorem top.tw7429413206186439793 : True := trivial
theorem top.tw7430551824986917830 : True := trivial
theorem top.tw7436774141650363327 : True := trivial
theorem top.tw7438316178485321408 : True := trivial
theorem top.tw7439886461454727182 : True := trivial
theorem top.tw7444641836354208208 : True := trivial
theorem top.tw7458633546980236471 : True := trivial
theorem top.tw7475746777092488413 : True := trivial
theorem top.tw7522852383072776753 : True := trivial
theorem top.tw7527032243904285869 : True := trivial
theorem top.tw7538252964068480738 : True := trivial
theorem top.tw7549577893838418902 : True := trivial
theorem top.tw7557910624720293991 : True := trivial
theorem top.tw7587601194962177611 : True := trivial
theorem top.tw7600245330811189008 : True := trivial
theorem top.tw7615525527098106726 : True := trivial
theorem top.tw76412952228603488 : True := trivial
theorem top.tw7657828476027519975 : True := trivial
theorem top.tw7669972870368051581 : True := trivial
theorem top.tw7671549972530922468 : True := trivial
theorem top.tw7673058066778466091 : True := trivial
theorem top.tw7675417749720738473 : True := trivial
theorem top.tw7681529838311687354 : True := trivial
theorem top.tw7702549930194098719 : True := trivial
theorem top.tw7714757148821155124 : True := trivial
theorem top.tw7715697345341360870 : True := trivial
theorem top.tw7717162694582976202 : True := trivial
theorem top.tw7737320934136571279 : True := trivial
theorem top.tw7740461459972228597 : True := trivial
theorem top.tw7743179893348639699 : True := trivial
theorem top.tw7744093853086628109 : True := trivial
theorem top.tw7750674698935896394 : True := trivial
theorem top.tw775762912060472103 : True := trivial
theorem top.tw7761843605638006849 : True := trivial
theorem top.tw7781603739153083191 : True := trivial
theorem top.tw7799483888651840948 : True := trivial
theorem top.tw7817637940432870852 : True := trivial
theorem top.tw7826773606061359409 : True := trivial
theorem top.tw7830913209206220567 : True := trivial
theorem top.tw7845129631348957993 : True := trivial
theorem top.tw7847352863974893604 : True := trivial
theorem top.tw7847650389618582240 : True := trivial
theorem top.tw7849799639701767664 : True := trivial
theorem top.tw7855079511596107753 : True := trivial
theorem top.tw788273225186049534 : True := trivial
theorem top.tw7883991259331220303 : True := trivial
theorem top.tw7892811243723596987 : True := trivial
theorem top.tw7896245365604500681 : True := trivial
theorem top.tw7908083297732987344 : True := trivial
theorem top.tw7913636548009798097 : True := trivial
theorem top.tw7925146906966333093 : True := trivial
theorem top.tw7926136590108786892 : True := trivial
theorem top.tw795583310449317561 : True := trivial
theorem top.tw7980593446034420393 : True := trivial
theorem top.tw7985608403216412088 : True := trivial
theorem top.tw7990429038631628895 : True := trivial
theorem top.tw8013090884974467112 : True := trivial
theorem top.tw8017866829061265141 : True := trivial
theorem top.tw8025738503920905074 : True := trivial
theorem top.tw8043003576528973991 : True := trivial
theorem top.tw8054331753737935190 : True := trivial
theorem top.tw8069049012094873728 : True := trivial
theorem top.tw8107780213005350392 : True := trivial
theorem top.tw8139039716903228087 : True := trivial
theorem top.tw8140125068956082859 : True := trivial
theorem top.tw8143265674769528471 : True := trivial
theorem top.tw8144448655795402552 : True := trivial
theorem top.tw8148004212497801138 : True := trivial
theorem top.tw8150499350492408157 : True := trivial
theorem top.tw8155677260382574692 : True := trivial
theorem top.tw8163011886388404031 : True := trivial
theorem top.tw8170299122808406783 : True := trivial
theorem top.tw81815255157605957 : True := trivial
theorem top.tw8184561461823581802 : True := trivial
theorem top.tw8204474986945543665 : True := trivial
theorem top.tw8212240652046128837 : True := trivial
theorem top.tw8235891563360409721 : True := trivial
theorem top.tw8237333600419904120 : True := trivial
theorem top.tw8243169916365450940 : True := trivial
theorem top.tw8260818223659903644 : True := trivial
theorem top.tw8265191368974092141 : True := trivial
theorem top.tw8265311939077410998 : True := trivial
theorem top.tw8281120267493503204 : True := trivial
theorem top.tw8292330764949567954 : True := trivial
theorem top.tw8297286125493194097 : True := trivial
theorem top.tw8311017846404947139 : True := trivial
theorem top.tw8321918168302905379 : True := trivial
theorem top.tw8327351992414209593 : True := trivial
theorem top.tw8330300561463054765 : True := trivial
theorem top.tw8336415144858002973 : True := trivial
theorem top.tw83393220934416808 : True := trivial
theorem top.tw8340158742958640245 : True := trivial
theorem top.tw8345894832289464959 : True := trivial
theorem top.tw8347795973495727564 : True := trivial
theorem top.tw8363718466572441477 : True := trivial
theorem top.tw8369368087495890639 : True := trivial
theorem top.tw8372035913837991250 : True := trivial
theorem top.tw8374938949443298174 : True := trivial
theorem top.tw8376602336982375544 : True := trivial
theorem top.tw8388089289598778967 : True := trivial
theorem top.tw8393700709775954928 : True := trivial
theorem top.tw8410488445778877200 : True := trivial
theorem top.tw84136930442132756 : True := trivial
theorem top.tw8417208461021683230 : True := trivial
theorem top.tw8420165910927482534 : True := trivial
theorem top.tw8435561252592420358 : True := trivial
theorem top.tw8443935842833279946 : True := trivial
theorem top.tw8455645898260960030 : True := trivial
theorem top.tw8472579005086612782 : True := trivial
theorem top.tw8485949089215259265 : True := trivial
theorem top.tw8500458220134822360 : True := trivial
theorem top.tw8507776931139520737 : True := trivial
theorem top.tw8523463495250067690 : True := trivial
theorem top.tw8529706226740600733 : True := trivial
theorem top.tw8538268897159353584 : True := trivial
theorem top.tw8541664164027344294 : True := trivial
theorem top.tw8547604310838440241 : True := trivial
theorem top.tw8560541052185303311 : True := trivial
theorem top.tw8566151710794823266 : True := trivial
theorem top.tw859137505422859605 : True := trivial
theorem top.tw8598144960395782539 : True := trivial
theorem top.tw8599977235414819352 : True := trivial
theorem top.tw860223938195835975 : True := trivial
theorem top.tw8622502720953521162 : True := trivial
theorem top.tw8628236747792435071 : True := trivial
theorem top.tw8637452081102412489 : True := trivial
theorem top.tw8640399195822439974 : True := trivial
theorem top.tw8640417174963836015 : True := trivial
theorem top.tw8645369167282567922 : True := trivial
theorem top.tw8657480035899644758 : True := trivial
theorem top.tw8672883130414831044 : True := trivial
theorem top.tw8679839319945467846 : True := trivial
theorem top.tw8687831153774095200 : True := trivial
theorem top.tw8693662901424576113 : True := trivial
theorem top.tw8694864300669457046 : True := trivial
theorem top.tw870079450109401425 : True := trivial
theorem top.tw8716659796364181309 : True := trivial
theorem top.tw8720027088463671890 : True := trivial
theorem top.tw8722410040271553984 : True := trivial
theorem top.tw8729362747519067210 : True := trivial
theorem top.tw8735323631387419056 : True := trivial
theorem top.tw8746584487950033348 : True := trivial
theorem top.tw8746941081350896204 : True := trivial
theorem top.tw877433047237710547 : True := trivial
theorem top.tw8779778587388263019 : True := trivial
theorem top.tw8800459187187324500 : True := trivial
theorem top.tw8810280945414196856 : True := trivial
theorem top.tw8813761850579938390 : True := trivial
theorem top.tw8814567910327776732 : True := trivial
theorem top.tw8817415213059835157 : True := trivial
theorem top.tw8823455108540655025 : True := trivial
theorem top.tw8833944927944761889 : True := trivial
theorem top.tw8874702517807110003 : True := trivial
theorem top.tw887695700811335699 : True := trivial
theorem top.tw8879822979380727411 : True := trivial
theorem top.tw8892184565913893157 : True := trivial
theorem top.tw8903290554218469011 : True := trivial
theorem top.tw8912170899635468890 : True := trivial
theorem top.tw8922926602274725614 : True := trivial
theorem top.tw893595371883084398 : True := trivial
theorem top.tw8967177799050707671 : True := trivial
theorem top.tw8968299171318014206 : True := trivial
theorem top.tw8973803690348224638 : True := trivial
theorem top.tw8975108423156789194 : True := trivial
theorem top.tw8985709366574770022 : True := trivial
theorem top.tw8999917154711486175 : True := trivial
theorem top.tw9016798869158615873 : True := trivial
theorem top.tw9038659593494541401 : True := trivial
theorem top.tw9041457687873607070 : True := trivial
theorem top.tw9059672392935016618 : True := trivial
theorem top.tw9059832203979395877 : True := trivial
theorem top.tw9063741608606530840 : True := trivial
theorem top.tw9068506458530023791 : True := trivial
theorem top.tw9075757514644619006 : True := trivial
theorem top.tw9076350847974150093 : True := trivial
theorem top.tw908825868028484722 : True := trivial
theorem top.tw9104712851299545879 : True := trivial
theorem top.tw9108098604805947806 : True := trivial
theorem top.tw9111341701214203307 : True := trivial
theorem top.tw913810622518204374 : True := trivial
theorem top.tw9149571693438533347 : True := trivial
theorem top.tw9149845881299867608 : True := trivial
theorem top.tw9152664641465651067 : True := trivial
theorem top.tw9165953624949470791 : True := trivial
theorem top.tw9166809390415177425 : True := trivial
theorem top.tw9178861053002065721 : True := trivial
theorem top.tw9190159020981308655 : True := trivial
theorem top.tw9195894827357321740 : True := trivial
theorem top.tw9227057690007400460 : True := trivial
theorem top.tw9227541089923242437 : True := trivial
theorem top.tw9229161468869434483 : True := trivial
theorem top.tw9233335307524088747 : True := trivial
theorem top.tw9233344734837729466 : True := trivial
theorem top.tw9233715247699887402 : True := trivial
theorem top.tw9238823003894178615 : True := trivial
theorem top.tw9250549774821547598 : True := trivial
theorem top.tw9272544492142499777 : True := trivial
theorem top.tw9287724387753133302 : True := trivial
theorem top.tw93012567124736588 : True := trivial
theorem top.tw9305691244287143441 : True := trivial
theorem top.tw9308151640839208011 : True := trivial
theorem top.tw9319964216562750351 : True := trivial
theorem top.tw9326722878772556681 : True := trivial
theorem top.tw9328819404386307858 : True := trivial
theorem top.tw9332579688445097367 : True := trivial
theorem top.tw9335426496214029073 : True := trivial
theorem top.tw9358617607463016204 : True := trivial
theorem top.tw9361663168868926718 : True := trivial
theorem top.tw9366391650621772374 : True := trivial
theorem top.tw9378254376102152143 : True := trivial
theorem top.tw9382581127745807760 : True := trivial
theorem top.tw9407396174263392564 : True := trivial
theorem top.tw9410359166525395380 : True := trivial
theorem top.tw941743491117558340 : True := trivial
theorem top.tw9429129263215473398 : True := trivial
theorem top.tw9442318146202087700 : True := trivial
theorem top.tw9456006794991739263 : True := trivial
theorem top.tw9456044208697098916 : True := trivial
theorem top.tw9486757043174368735 : True := trivial
theorem top.tw9487724021038755048 : True := trivial
theorem top.tw9503340733035011235 : True := trivial
theorem top.tw9511011655687381423 : True := trivial
theorem top.tw9514800995652322822 : True := trivial
theorem top.tw9516688046558066552 : True := trivial
theorem top.tw953821971998124167 : True := trivial
theorem top.tw9539914271453190242 : True := trivial
theorem top.tw956089473029861405 : True := trivial
theorem top.tw956942650209027819 : True := trivial
theorem top.tw9572121911122791463 : True := trivial
theorem top.tw9576743257966636567 : True := trivial
theorem top.tw9589608677651300831 : True := trivial
theorem top.tw9590619109379692515 : True := trivial
theorem top.tw9590735534726013551 : True := trivial
theorem top.tw9614876229902214918 : True := trivial
theorem top.tw9622763587122877835 : True := trivial
theorem top.tw9631074621892390191 : True := trivial
theorem top.tw9635476784945057844 : True := trivial
theorem top.tw965346924571166687 : True := trivial
theorem top.tw9666326922614434849 : True := trivial
theorem top.tw9673933992889287130 : True := trivial
theorem top.tw9682687983338836895 : True := trivial
theorem top.tw9684699057600944294 : True := trivial
theorem top.tw9685713192446186341 : True := trivial
theorem top.tw9694206877528517478 : True := trivial
theorem top.tw9723989250521069032 : True := trivial
theorem top.tw9739860059890490050 : True := trivial
theorem top.tw9743097575036673082 : True := trivial
theorem top.tw9750584392499151704 : True := trivial
theorem top.tw9757572049824486728 : True := trivial
theorem top.tw9759319705405543751 : True := trivial
theorem top.tw9768079942903668216 : True := trivial
theorem top.tw9776112803966576748 : True := trivial
theorem top.tw9777375502002234229 : True := trivial
theorem top.tw9800703332001039478 : True := trivial
theorem top.tw9806617501295524395 : True := trivial
theorem top.tw9811366534603930577 : True := trivial
theorem top.tw9822532417609929294 : True := trivial
theorem top.tw9831455883205970180 : True := trivial
theorem top.tw9833397302626899308 : True := trivial
theorem top.tw9835852885743449411 : True := trivial
theorem top.tw9843447840031818808 : True := trivial
theorem top.tw9843949296442739443 : True := trivial
theorem top.tw984902984118615328 : True := trivial
theorem top.tw9851269098105209369 : True := trivial
theorem top.tw9854310039474760501 : True := trivial
theorem top.tw987869383939708018 : True := trivial
theorem top.tw9908339238214195531 : True := trivial
theorem top.tw9908739903337578654 : True := trivial
theorem top.tw9913501989792142831 : True := trivial
theorem top.tw9919435345466941130 : True := trivial
theorem top.tw9930815651645962114 : True := trivial
theorem top.tw9936536881743500907 : True := trivial
theorem top.tw9951221954081769418 : True := trivial
theorem top.tw9953747333497923681 : True := trivial
theorem top.tw995497684801637723 : True := trivial
theorem top.tw9961057766049560675 : True := trivial
theorem top.tw9962302188120564619 : True := trivial
theorem top.tw9989051494896439582 : True := trivial
theorem top.tw9990226795618131978 : True := trivial
theorem top.tw999761390096101185 : True := trivial
end Mine
section
local macro_rules | `(tactic| refine PySem.W.holds_open $xs*) => `(tactic| refine Mine.head_P $xs*)
local macro_rules | `(tactic| o_head ($f:ident $K:term $A:term $p:term)) => `(tactic| o_head (Mine.hook4 $K $A $p ()))
set_option maxHeartbeats 0
set_option Elab.async true in
theorem Mine.top : PySem.Challenge.rw_pq1201_01.Holds := by
  w_on; o_law; k_head; (case hw => w_witness2)
  exact Mine.walk
end
theorem PySem.Challenge.cw_pq1201_01_holds : PySem.Challenge.rw_pq1201_01.Holds := by
  exact Mine.top
