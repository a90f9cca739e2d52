import PyProof.Rows.All
import Wide.All
import OpenK.AllK
import Wide.FinOn
import PySem.Challenge.RW_sy0065_01
open PySem PySem.W PyProof.Rows
set_option Elab.async false
namespace Mine
set_option maxRecDepth 100000 in
set_option maxHeartbeats 0 in
open_top hd for PySem.Challenge.rw_sy0065_01
open PySem.Calls
section -- Base

noncomputable abbrev PG : Program := PySem.Challenge.rw_sy0065_01.row.prog

/-- everything that h holds stands in h' -/
noncomputable def Keep (h h' : Heap) : Prop := ∀ b o, h.get? b = some o → h'.get? b = some o
theorem Keep.refl (h : Heap) : Keep h h := fun _ _ e => e
theorem Keep.trans {a b c : Heap} (x : Keep a b) (y : Keep b c) : Keep a c := fun _ _ e => y _ _ (x _ _ e)
/-- all but one place -/
noncomputable def KeepBut (d : Addr) (h h' : Heap) : Prop := ∀ b o, b ≠ d → h.get? b = some o → h'.get? b = some o

/-- what every call needs of the heap -/
structure Cx (w : World) (h : Heap) : Prop where
  k : (hd.heap_39 w.params).In h
  t : ∃ p loose mg mb, TopRead p loose mg mb h
theorem Cx.keeps {w : World} {h h' : Heap} (C : Cx w h) (k : Keep h h') : Cx w h' :=
  ⟨C.k.keeps k, let ⟨p, l, mg, mb, T⟩ := C.t; ⟨p, l, mg, mb, T.keeps k⟩⟩

section
variable {prog : Program} {w : World} {A : Around} {E : Value → Shared → Prop} {s : Shared} {Q : Value → Shared → Prop}
  {name qual : Str} {params : Arguments} {body : List Stmt} {scope : Scope} {dV kV doc pm cdv ct oc : Value} {an od : Option Addr} {osl : Array (Option Value)} {f : Addr} {args : List Value} {binds : List (Str × Value)}

/-- a call of a def of the text, entered: nothing of the caller's is turned -/
theorem enter0 {K : Frag} (X : K.In s.heap) (hlim : s.heap.NoLimit)
    (ho : K.lookup f = some ⟨oc, od, .func (fnOf name qual params body scope dV kV doc pm an cdv ct), osl⟩) (hcd : codeIn K cdv qual = true) (hroom : A.depth < recursionLimit)
    (hbind : BindsTo s (fnOf name qual params body scope dV kV doc pm an cdv ct) ⟨args, []⟩ binds) (hloc : ∀ y ∈ binds, scope.names.lookup y.1 = some .local)
    (h : ∀ L h₁, L = s.heap.objs.size → Fr s.heap L h₁ (fun y => binds.reverse.lookup y) → News s.heap L h₁ [] →
      wpAny (model prog w) (A.deeper (envOf qual scope L f cdv)) (execs body (envOf qual scope L f cdv))
        (fun fl s' => Q (match fl with | .ret v => v | _ => .none) s')
        (fun _ _ => False)
        { s with heap := h₁, toks := s.toks + binds.length })
    (hcell : ∀ x ∈ scope.names, x.2 ≠ .cell) (hco : scope.isCoroutine = false) (hgen : scope.isGenerator = false) (hk : scope.kind = .function) :
    wpAny (model prog w) A (call (.ref f) args) Q E s := by
  refine wpAny_call ?_
  refine codeAny_call_def (fd := fnOf name qual params body scope dV kV doc pm an cdv ct) (body := body) (binds := binds) hroom (X _ _ ho) rfl hlim (codeRec_of X hcd) rfl hbind hcell hloc (fun h₁ hns hk₁ => ?_) hco hgen hk
  exact wpAny_mono (h _ h₁ rfl ⟨hns, hk₁, Nat.le_refl _⟩ News.nil) (fun fl s' hl => hl) fun _ _ y => y.elim

theorem hide_get? {h : Heap} {a b : Addr} {o : Obj} (hb : b ≠ a) (e : h.get? b = some o) : (h.hide a).get? b = some o := (Heap.hide_ne h hb).trans e

/-- the same where the call turns one object of the caller's -/
theorem enter1 {K : Frag} {a : Addr} {ob : Obj} (X : K.In (s.heap.hide a)) (hlim : (s.heap.hide a).NoLimit) (ha : s.heap.get? a = some ob)
    (ho : K.lookup f = some ⟨oc, od, .func (fnOf name qual params body scope dV kV doc pm an cdv ct), osl⟩) (hcd : codeIn K cdv qual = true) (hroom : A.depth < recursionLimit)
    (hbind : BindsTo s (fnOf name qual params body scope dV kV doc pm an cdv ct) ⟨args, []⟩ binds) (hloc : ∀ y ∈ binds, scope.names.lookup y.1 = some .local)
    (h : ∀ L h₁, L = s.heap.objs.size → Fr (s.heap.hide a) L h₁ (fun y => binds.reverse.lookup y) → News (s.heap.hide a) L h₁ [(a, ob)] →
      wpAny (model prog w) (A.deeper (envOf qual scope L f cdv)) (execs body (envOf qual scope L f cdv))
        (fun fl s' => Q (match fl with | .ret v => v | _ => .none) s')
        (fun _ _ => False)
        { s with heap := h₁, toks := s.toks + binds.length })
    (hcell : ∀ x ∈ scope.names, x.2 ≠ .cell) (hco : scope.isCoroutine = false) (hgen : scope.isGenerator = false) (hk : scope.kind = .function) :
    wpAny (model prog w) A (call (.ref f) args) Q E s := by
  refine wpAny_call ?_
  have X' : K.In s.heap := fun b o e => Heap.of_hide (X b o e)
  have kp : Keep (s.heap.hide a) s.heap := fun b o e => Heap.of_hide e
  refine codeAny_call_def (fd := fnOf name qual params body scope dV kV doc pm an cdv ct) (body := body) (binds := binds) hroom (X' _ _ ho) rfl (hlim.keeps kp) (codeRec_of X' hcd) rfl hbind hcell hloc (fun h₁ hns hk₁ => ?_) hco hgen hk
  refine wpAny_mono (h _ h₁ rfl ⟨hns, fun b o e => hk₁ b o (Heap.of_hide e), Nat.le_of_eq (Heap.hide_size _ _)⟩ ?_) (fun fl s' hl => hl) fun _ _ y => y.elim
  intro p hp
  rw [List.mem_singleton.mp hp]
  exact ⟨hk₁ _ _ ha, Nat.ne_of_lt (Heap.lt_size ha), Heap.hide_self _ _⟩
end
end
section -- Tr

noncomputable def Sh (z : Shared) (h : Heap) (tk : Nat) : Shared := ⟨h, z.gens, z.drawn, tk, z.os⟩

/-- what a tree's run must show: the value and the heap; the toks are hidden -/
noncomputable def Po {α : Type} (z : Shared) (P : α → Heap → Prop) (a : α) (s' : Shared) : Prop := ∃ h' tk', s' = Sh z h' tk' ∧ P a h'
noncomputable def No (_ : Value) (_ : Shared) : Prop := False

noncomputable def Tr {α : Type} (w : World) (z : Shared) (A : Around) (t : Sem α) (h : Heap) (P : α → Heap → Prop) : Prop :=
  ∀ tk, wpAny (model PG w) A t (Po z P) No (Sh z h tk)

section
variable {α β : Type} {w : World} {z : Shared} {A : Around} {h : Heap}
theorem Tr.mono {t : Sem α} {P P' : α → Heap → Prop} (H : Tr w z A t h P) (hP : ∀ a h', P a h' → P' a h') : Tr w z A t h P' :=
  fun tk => wpAny_mono (H tk) (fun a _ ⟨h', tk', e, k⟩ => ⟨h', tk', e, hP a h' k⟩) fun _ _ e => e
/-- a run, then what comes behind it -/
theorem seqW {M : Model} {t : Sem α} {f : α → Shared → Prop} {P : α → Heap → Prop} {s : Shared} (H : wpAny M A t (Po z P) No s) (hf : ∀ a h' tk', P a h' → f a (Sh z h' tk')) : wpAny M A t f No s :=
  wpAny_mono H (fun _ _ ⟨_, _, e, k⟩ => e ▸ hf _ _ _ k) fun _ _ e => e
theorem Tr.bind {m : Sem α} {f : α → Sem β} {P : β → Heap → Prop} (H : Tr w z A m h fun a h' => Tr w z A (f a) h' P) : Tr w z A (m >>= f) h P :=
  fun tk => wpAny_bind (seqW (H tk) fun _ _ tk' k => k tk')
theorem Tr.pure {a : α} {P : α → Heap → Prop} (H : P a h) : Tr w z A (pure a) h P := fun tk => wpAny_pure ⟨h, tk, rfl, H⟩
/-- a library rule whose end is a heap and any toks -/
theorem Tr.of {t : Sem α} {P : α → Heap → Prop} (H : ∀ tk (Q : α → Shared → Prop), (∀ a h' tk', P a h' → Q a (Sh z h' tk')) → wpAny (model PG w) A t Q No (Sh z h tk)) : Tr w z A t h P :=
  fun tk => H tk _ fun _ h' tk' k => ⟨h', tk', rfl, k⟩
end

section
variable {w : World} {z : Shared} {A : Around} {h : Heap} {env : Env}
theorem x_nil {P : Flow → Heap → Prop} (H : P .next h) : Tr w z A (execs [] env) h P := fun tk => wpAny_execs_nil ⟨h, tk, rfl, H⟩
theorem x_cons {st : Stmt} {rest : List Stmt} {P : Flow → Heap → Prop}
    (H : Tr w z A (exec st env) h fun f h' => match f with | .next => Tr w z A (execs rest env) h' P | f => P f h') : Tr w z A (execs (st :: rest) env) h P :=
  fun tk => wpAny_execs_cons (seqW (H tk) fun f h' tk' k => by
    cases f with
    | next => exact k tk'
    | _ => exact ⟨h', tk', rfl, k⟩)
/-- a statement that goes on -/
theorem x_seq {st : Stmt} {rest : List Stmt} {P : Flow → Heap → Prop}
    (H : Tr w z A (exec st env) h fun f h' => f = .next ∧ Tr w z A (execs rest env) h' P) : Tr w z A (execs (st :: rest) env) h P :=
  x_cons (H.mono fun f h' ⟨e, k⟩ => by subst e; exact k)
theorem x_ret {e : Expr} {pos : Pos} {rest : List Stmt} {P : Flow → Heap → Prop} (H : Tr w z A (eval e env) h fun v h' => P (.ret v) h') : Tr w z A (execs (.Return (some e) pos :: rest) env) h P :=
  x_cons fun tk => wpAny_Return_some (seqW (H tk) fun _ h' tk' k => ⟨h', tk', rfl, k⟩)
theorem x_expr {e : Expr} {pos : Pos} {rest : List Stmt} {P : Flow → Heap → Prop} (H : Tr w z A (eval e env) h fun _ h' => Tr w z A (execs rest env) h' P)
    (hi : interactive env = false := by rfl) (hs : swapsWith e none pos.line env = pure false := by rfl) : Tr w z A (execs (.Expr e pos :: rest) env) h P :=
  x_cons fun tk => wpAny_Expr_any (seqW (H tk) fun _ h' tk' k => ⟨h', tk', rfl, k⟩) hi hs
theorem x_assign {x : Str} {p pos : Pos} {e : Expr} {rest : List Stmt} {P : Flow → Heap → Prop}
    (H : Tr w z A (eval e env) h fun v h' => Tr w z A (storeName env x v) h' fun _ h'' => Tr w z A (execs rest env) h'' P)
    (hs : swapsWith e (some (.Name x p)) pos.line env = pure false := by rfl) : Tr w z A (execs (.Assign [.Name x p] e pos :: rest) env) h P :=
  x_cons fun tk => wpAny_Assign_Name (seqW (H tk) fun v h' tk' k => seqW (k tk') fun _ h'' tk'' k' => ⟨h'', tk'', rfl, k'⟩) hs
theorem x_assignSub {o i : Expr} {p pos : Pos} {e : Expr} {rest : List Stmt} {P : Flow → Heap → Prop}
    (H : Tr w z A (eval e env) h fun v h₁ => Tr w z A (eval o env) h₁ fun ov h₂ => Tr w z A (eval i env) h₂ fun iv h₃ => Tr w z A (setItem ov iv v) h₃ fun _ h₄ => Tr w z A (execs rest env) h₄ P)
    (hs : swapsWith e (some (.Subscript o i p)) pos.line env = pure false := by rfl) : Tr w z A (execs (.Assign [.Subscript o i p] e pos :: rest) env) h P :=
  x_cons fun tk => wpAny_Assign_Subscript (seqW (H tk) fun _ _ tk₁ k₁ => seqW (k₁ tk₁) fun _ _ tk₂ k₂ => seqW (k₂ tk₂) fun _ _ tk₃ k₃ => seqW (k₃ tk₃) fun _ h₄ tk₄ k₄ => ⟨h₄, tk₄, rfl, k₄⟩) hs
theorem x_if {test : Expr} {body orelse : List Stmt} {pos : Pos} {rest : List Stmt} {P : Flow → Heap → Prop}
    (H : Tr w z A (isTrue test env (eval test env)) h fun b h' => (b = true → Tr w z A (execs body env) h' fun f h'' => match f with | .next => Tr w z A (execs rest env) h'' P | f => P f h'') ∧
      (b = false → Tr w z A (execs orelse env) h' fun f h'' => match f with | .next => Tr w z A (execs rest env) h'' P | f => P f h'')) :
    Tr w z A (execs (.If test body orelse pos :: rest) env) h P :=
  x_cons fun tk => wpAny_If (seqW (H tk) fun b h' tk' k => by
    cases b with
    | true => exact k.1 rfl tk'
    | false => exact k.2 rfl tk')

theorem e_int {i : Int} {k : Nat} {pos : Pos} {P : Value → Heap → Prop} (H : ∀ t, P (.int i t) h) : Tr w z A (eval (.Constant (.int i) k pos) env) h P :=
  fun tk => wpAny_Constant_int ⟨h, tk + 1, rfl, H _⟩
theorem e_bool {b : Bool} {k : Nat} {pos : Pos} {P : Value → Heap → Prop} (H : P (.bool b) h) : Tr w z A (eval (.Constant (.bool b) k pos) env) h P :=
  fun tk => Constant_bool ⟨h, tk, rfl, H⟩
theorem e_bin {l r : Expr} {op : Operator} {pos : Pos} {P : Value → Heap → Prop} (H : Tr w z A (eval l env) h fun a h₁ => Tr w z A (eval r env) h₁ fun b h₂ => Tr w z A (binaryOp op a b) h₂ P) : Tr w z A (eval (.BinOp l op r pos) env) h P :=
  fun tk => wpAny_BinOp (seqW (H tk) fun _ _ tk₁ k₁ => seqW (k₁ tk₁) fun _ _ tk₂ k₂ => k₂ tk₂)
theorem e_un {x : Expr} {op : UnaryOp} {pos : Pos} {P : Value → Heap → Prop} (H : Tr w z A (eval x env) h fun a h₁ => Tr w z A (unaryOp op a) h₁ P) : Tr w z A (eval (.UnaryOp op x pos) env) h P :=
  fun tk => UnaryOp_ (seqW (H tk) fun _ _ tk₁ k₁ => k₁ tk₁)
theorem e_cmp {l r : Expr} {op : CmpOp} {pos : Pos} {P : Value → Heap → Prop} (H : Tr w z A (eval l env) h fun a h₁ => Tr w z A (eval r env) h₁ fun b h₂ => Tr w z A (compareOp op a b) h₂ P)
    (hm : behindInMarks op r = false := by with_unfolding_all rfl) : Tr w z A (eval (.Compare l [op] [r] pos) env) h P :=
  fun tk => wpAny_Compare1 (seqW (H tk) fun _ _ tk₁ k₁ => seqW (k₁ tk₁) fun _ _ tk₂ k₂ => k₂ tk₂) hm
theorem t_cmp {l r : Expr} {op : CmpOp} {pos : Pos} {whole : Sem Value} {P : Bool → Heap → Prop} (H : Tr w z A (eval l env) h fun a h₁ => Tr w z A (eval r env) h₁ fun b h₂ => Tr w z A (compareOp op a b) h₂ fun c h₃ => Tr w z A (truthy c) h₃ P)
    (hm : behindInMarks op r = false := by with_unfolding_all rfl) : Tr w z A (isTrue (.Compare l [op] [r] pos) env whole) h P :=
  fun tk => wpAny_isTrue_Compare1 (seqW (H tk) fun _ _ tk₁ k₁ => seqW (k₁ tk₁) fun _ _ tk₂ k₂ => seqW (k₂ tk₂) fun _ _ tk₃ k₃ => k₃ tk₃) hm
theorem t_plain {e : Expr} {whole : Sem Value} {P : Bool → Heap → Prop} (H : Tr w z A whole h fun v h₁ => Tr w z A (truthy v) h₁ P)
    (he : isTrue e env whole = (do let v ← whole; standAt e.pos; holding [v] (truthy v)) := by rfl) : Tr w z A (isTrue e env whole) h P :=
  fun tk => isTrue_plain (seqW (H tk) fun _ _ tk₁ k₁ => k₁ tk₁) he
theorem t_not {x : Expr} {pos : Pos} {whole : Sem Value} {P : Bool → Heap → Prop} (H : Tr w z A (isTrue x env (eval x env)) h fun c h₁ => P (!c) h₁) : Tr w z A (isTrue (.UnaryOp .Not x pos) env whole) h P :=
  fun tk => isTrue_not (seqW (H tk) fun _ h₁ tk₁ k₁ => ⟨h₁, tk₁, rfl, k₁⟩)
theorem t_and_nil {pos : Pos} {whole : Sem Value} {P : Bool → Heap → Prop} (H : P true h) : Tr w z A (isTrue (.BoolOp .And [] pos) env whole) h P := fun tk => isTrue_and_nil ⟨h, tk, rfl, H⟩
theorem t_or_nil {pos : Pos} {whole : Sem Value} {P : Bool → Heap → Prop} (H : P false h) : Tr w z A (isTrue (.BoolOp .Or [] pos) env whole) h P := fun tk => isTrue_or_nil ⟨h, tk, rfl, H⟩
theorem t_and {x : Expr} {rest : List Expr} {pos : Pos} {whole : Sem Value} {P : Bool → Heap → Prop} (H : Tr w z A (isTrue x env (eval x env)) h fun c h₁ => (c = true → Tr w z A (isTrue (.BoolOp .And rest pos) env whole) h₁ P) ∧ (c = false → P false h₁)) :
    Tr w z A (isTrue (.BoolOp .And (x :: rest) pos) env whole) h P :=
  fun tk => isTrue_and (seqW (H tk) fun c h₁ tk₁ k₁ => by
    cases c with
    | true => exact k₁.1 rfl tk₁
    | false => exact ⟨h₁, tk₁, rfl, k₁.2 rfl⟩)
theorem t_or {x : Expr} {rest : List Expr} {pos : Pos} {whole : Sem Value} {P : Bool → Heap → Prop} (H : Tr w z A (isTrue x env (eval x env)) h fun c h₁ => (c = true → P true h₁) ∧ (c = false → Tr w z A (isTrue (.BoolOp .Or rest pos) env whole) h₁ P)) :
    Tr w z A (isTrue (.BoolOp .Or (x :: rest) pos) env whole) h P :=
  fun tk => isTrue_or (seqW (H tk) fun c h₁ tk₁ k₁ => by
    cases c with
    | true => exact ⟨h₁, tk₁, rfl, k₁.1 rfl⟩
    | false => exact k₁.2 rfl tk₁)
theorem e_one {op : BoolOp} {x : Expr} {pos : Pos} {P : Value → Heap → Prop} (H : Tr w z A (eval x env) h P) : Tr w z A (eval (.BoolOp op [x] pos) env) h P := H
theorem e_and {x y : Expr} {rest : List Expr} {pos : Pos} {P : Value → Heap → Prop} (H : Tr w z A (eval x env) h fun v h₁ => Tr w z A (truthy v) h₁ fun c h₂ => (c = true → Tr w z A (eval (.BoolOp .And (y :: rest) pos) env) h₂ P) ∧ (c = false → P v h₂)) :
    Tr w z A (eval (.BoolOp .And (x :: y :: rest) pos) env) h P :=
  fun tk => BoolOp_and (seqW (H tk) fun v h₁ tk₁ k₁ => seqW (k₁ tk₁) fun c h₂ tk₂ k₂ => by
    cases c with
    | true => exact k₂.1 rfl tk₂
    | false => exact ⟨h₂, tk₂, rfl, k₂.2 rfl⟩)
theorem e_ite {test body orelse : Expr} {pos : Pos} {P : Value → Heap → Prop} (H : Tr w z A (isTrue test env (eval test env)) h fun b h₁ => (b = true → Tr w z A (eval body env) h₁ P) ∧ (b = false → Tr w z A (eval orelse env) h₁ P)) :
    Tr w z A (eval (.IfExp test body orelse pos) env) h P :=
  fun tk => IfExp_ (seqW (H tk) fun b h₁ tk₁ k₁ => by
    cases b with
    | true => exact k₁.1 rfl tk₁
    | false => exact k₁.2 rfl tk₁)
theorem e_sub {value slice : Expr} {pos : Pos} {P : Value → Heap → Prop} (H : Tr w z A (eval value env) h fun o h₁ => Tr w z A (eval slice env) h₁ fun i h₂ => Tr w z A (subscriptTail value slice o i) h₂ P) :
    Tr w z A (eval (.Subscript value slice pos) env) h P :=
  fun tk => Subscript_ (seqW (H tk) fun _ _ tk₁ k₁ => seqW (k₁ tk₁) fun _ _ tk₂ k₂ => k₂ tk₂)
theorem e_tuple {elts : List Expr} {k : Nat} {pos : Pos} {P : Value → Heap → Prop} (H : Tr w z A (spliced (backTo pos (starEach elts env))) h fun vs h₁ => Tr w z A (newTuple vs) h₁ P) : Tr w z A (eval (.Tuple elts k pos) env) h P :=
  fun tk => Tuple_ (seqW (H tk) fun _ _ tk₁ k₁ => k₁ tk₁)
theorem e_list {elts : List Expr} {pos : Pos} {P : Value → Heap → Prop} (H : Tr w z A (spliced (backTo pos (starEach elts env))) h fun vs h₁ => Tr w z A (newList vs) h₁ P) : Tr w z A (eval (.List elts pos) env) h P :=
  fun tk => List_ (seqW (H tk) fun _ _ tk₁ k₁ => k₁ tk₁)
theorem a_nil {pos : Pos} {P : List Value → Heap → Prop} (H : P [] h) : Tr w z A (spliced (backTo pos (starEach [] env))) h P := fun tk => args_nil ⟨h, tk, rfl, H⟩
theorem a_cons {e : Expr} {rest : List Expr} {pos : Pos} {P : List Value → Heap → Prop}
    (H : Tr w z A (eval e env) h fun v h₁ => Tr w z A (spliced (backTo pos (starEach rest env))) h₁ fun vs h₂ => P (v :: vs) h₂)
    (he : starEach (e :: rest) env = (false, eval e env) :: starEach rest env := by rfl) : Tr w z A (spliced (backTo pos (starEach (e :: rest) env))) h P :=
  fun tk => args_cons (seqW (H tk) fun _ _ tk₁ k₁ => seqW (k₁ tk₁) fun _ h₂ tk₂ k₂ => ⟨h₂, tk₂, rfl, k₂⟩) he
end
end
section -- Gen
/-- the end is named, so that the steps do not repeat it -/
theorem Tr.gen {α : Type} {w : World} {z : Shared} {A : Around} {t : Sem α} {h : Heap} {P : α → Heap → Prop} (H : ∀ Q : α → Heap → Prop, (∀ a h', P a h' → Q a h') → Tr w z A t h Q) : Tr w z A t h P := H P fun _ _ x => x
end
section -- St

noncomputable abbrev Gh := Addr → Option Obj
/-- one ghost within another -/
noncomputable def Le (Y Z : Gh) : Prop := ∀ b o, Y b = some o → Z b = some o
theorem Le.refl (Y : Gh) : Le Y Y := fun _ _ e => e
theorem Le.trans {X Y Z : Gh} (a : Le X Y) (b : Le Y Z) : Le X Z := fun _ _ e => b _ _ (a _ _ e)
noncomputable def newIn (h h' : Heap) : Gh := fun b => match h.get? b with | some _ => none | none => h'.get? b
noncomputable def uni (Y N : Gh) : Gh := fun b => match N b with | some o => some o | none => Y b
noncomputable def putG (Y : Gh) (a : Addr) (o : Obj) : Gh := fun b => if b = a then some o else Y b
theorem newIn_of {h h' : Heap} {b : Addr} {o : Obj} (e : h'.get? b = some o) (n : h.get? b = none) : newIn h h' b = some o := by unfold newIn; rw [n]; exact e
theorem newIn_get {h h' : Heap} {b : Addr} {o : Obj} (e : newIn h h' b = some o) : h'.get? b = some o ∧ h.get? b = none := by
  unfold newIn at e
  split at e
  · cases e
  · rename_i q; exact ⟨e, q⟩
theorem le_uni_right (Y N : Gh) : Le N (uni Y N) := fun b o e => by unfold uni; rw [e]

/-- an own frame's places -/
noncomputable def IsFr (env : Env) (a : Addr) : Prop := a = env.locals ∨ ∃ x, env.kindOf x = some .cell ∧ env.cells.lookup x = some a

/-- what is fixed of a frame's environment -/
structure Fm (env : Env) : Prop where
  kind : env.scope.kind = .function
  glob : env.globals = mainGlobals
  blt : env.builtins = builtinsNs
  inj : ∀ x y c, env.cells.lookup x = some c → env.cells.lookup y = some c → x = y
  lne : ∀ x c, env.cells.lookup x = some c → c ≠ env.locals

noncomputable def Has (h₀ : Heap) (env : Env) (h : Heap) (m : Str → Option Value) (x : Str) (v : Value) : Prop :=
  (env.kindOf x = some .local ∧ m x = some v) ∨ (env.kindOf x = some .cell ∧ ∃ c, env.cells.lookup x = some c ∧ h.IsCell c (some v)) ∨
  (env.kindOf x = some .free ∧ ∃ c, env.cells.lookup x = some c ∧ h₀.IsCell c (some v))

/-- the state: a base that stays, a ghost of new things that stay, things that may turn, the frame's names -/
structure St (h₀ : Heap) (Y : Gh) (cs : List (Addr × Obj)) (env : Env) (lo : List (Str × Value)) (h : Heap) : Prop where
  fm : Fm env
  base : Keep h₀ h
  yng : ∀ b o, Y b = some o → h.get? b = some o ∧ h₀.get? b = none
  cel : ∀ p ∈ cs, h.get? p.1 = some p.2 ∧ h₀.get? p.1 = none ∧ Y p.1 = none
  nd : cs.Pairwise fun p q => p.1 ≠ q.1
  loc : ∃ m, h.Ns env.locals m ∧ ∀ x v, lo.lookup x = some v → Has h₀ env h m x v
  cll : ∀ x c, env.kindOf x = some .cell → env.cells.lookup x = some c → ∃ v, h.IsCell c v
  own : ∀ a, IsFr env a → (∃ o, h₀.get? a = some o) ∨ (h₀.get? a = none ∧ Y a = none ∧ ∀ p ∈ cs, p.1 ≠ a)
  abv : ∀ a, env.locals ≤ a → h₀.get? a = none

section
variable {h₀ : Heap} {Y : Gh} {cs : List (Addr × Obj)} {env : Env} {lo : List (Str × Value)} {h h' : Heap}

theorem St.frLive (S : St h₀ Y cs env lo h) {a : Addr} (f : IsFr env a) : ∃ o, h.get? a = some o := by
  rcases f with rfl | ⟨x, hk, hc⟩
  · obtain ⟨m, ⟨o, _, _, ho, _⟩, _⟩ := S.loc; exact ⟨o, ho⟩
  · obtain ⟨v, o, ho, _⟩ := S.cll x a hk hc; exact ⟨o, ho⟩
theorem St.ownL (S : St h₀ Y cs env lo h) : h₀.get? env.locals = none ∧ Y env.locals = none ∧ ∀ p ∈ cs, p.1 ≠ env.locals := by
  rcases S.own _ (.inl rfl) with ⟨o, e⟩ | e
  · rw [S.abv _ (Nat.le_refl _)] at e; cases e
  · exact e
theorem St.notFr (S : St h₀ Y cs env lo h) {p : Addr × Obj} (hp : p ∈ cs) : ¬ IsFr env p.1 := fun f => by
  rcases S.own _ f with ⟨o, e⟩ | e
  · rw [(S.cel p hp).2.1] at e; cases e
  · exact e.2.2 p hp rfl
theorem St.le (S : St h₀ Y cs env lo h) : Le Y (newIn h₀ h) := fun _ _ e => newIn_of (S.yng _ _ e).1 (S.yng _ _ e).2
theorem St.get (S : St h₀ Y cs env lo h) {b : Addr} {o : Obj} (e : Y b = some o) : h.get? b = some o := (S.yng b o e).1
theorem St.cell (S : St h₀ Y cs env lo h) {b : Addr} {o : Obj} (e : (b, o) ∈ cs) : h.get? b = some o := (S.cel _ e).1
theorem St.cellNew (S : St h₀ Y cs env lo h) {b : Addr} {o : Obj} (e : (b, o) ∈ cs) : newIn h₀ h b = some o := newIn_of (S.cel _ e).1 (S.cel _ e).2.1

/-- the heap moves on, all but one place that is none of ours -/
theorem St.off {d : Addr} (S : St h₀ Y cs env lo h) (k : KeepBut d h h') (hd : h₀.get? d = none) (hY : Y d = none) (hc : ∀ p ∈ cs, p.1 ≠ d) (hf : ¬ IsFr env d) : St h₀ Y cs env lo h' where
  fm := S.fm
  base := fun b o e => k b o (fun q => by rw [q, hd] at e; cases e) (S.base b o e)
  yng := fun b o e => ⟨k b o (fun q => by rw [q, hY] at e; cases e) (S.yng b o e).1, (S.yng b o e).2⟩
  cel := fun p hp => ⟨k _ _ (hc p hp) (S.cel p hp).1, (S.cel p hp).2⟩
  nd := S.nd
  loc := by
    obtain ⟨m, hn, hm⟩ := S.loc
    refine ⟨m, hn.at' fun o e => k _ _ (fun q => hf (.inl q.symm)) e, fun x v e => ?_⟩
    rcases hm x v e with h1 | ⟨h1, c, h2, o, h3, h4⟩ | h1
    · exact .inl h1
    · exact .inr (.inl ⟨h1, c, h2, o, k _ _ (fun q => hf (.inr ⟨x, h1, q ▸ h2⟩)) h3, h4⟩)
    · exact .inr (.inr h1)
  cll := fun x c h1 h2 => let ⟨v, o, h3, h4⟩ := S.cll x c h1 h2; ⟨v, o, k _ _ (fun q => hf (.inr ⟨x, h1, q ▸ h2⟩)) h3, h4⟩
  own := S.own
  abv := S.abv
theorem St.keep (S : St h₀ Y cs env lo h) (k : Keep h h') : St h₀ Y cs env lo h' where
  fm := S.fm
  base := fun b o e => k b o (S.base b o e)
  yng := fun b o e => ⟨k b o (S.yng b o e).1, (S.yng b o e).2⟩
  cel := fun p hp => ⟨k _ _ (S.cel p hp).1, (S.cel p hp).2⟩
  nd := S.nd
  loc := by
    obtain ⟨m, hn, hm⟩ := S.loc
    refine ⟨m, hn.keeps k, fun x v e => ?_⟩
    rcases hm x v e with h1 | ⟨h1, c, h2, h3⟩ | h1
    · exact .inl h1
    · exact .inr (.inl ⟨h1, c, h2, h3.keeps k⟩)
    · exact .inr (.inr h1)
  cll := fun x c h1 h2 => let ⟨v, h3⟩ := S.cll x c h1 h2; ⟨v, h3.keeps k⟩
  own := S.own
  abv := S.abv
/-- fewer names -/
theorem St.names {lo' : List (Str × Value)} (S : St h₀ Y cs env lo h) (hs : ∀ p ∈ lo', lo.lookup p.1 = some p.2) : St h₀ Y cs env lo' h where
  fm := S.fm
  base := S.base
  yng := S.yng
  cel := S.cel
  nd := S.nd
  loc := by
    obtain ⟨m, hn, hm⟩ := S.loc
    refine ⟨m, hn, fun x v e => hm x v ?_⟩
    have : (x, v) ∈ lo' := by
      clear hs
      induction lo' with
      | nil => cases e
      | cons p r ih =>
        rw [List.lookup_cons] at e
        split at e
        · rename_i q
          have q' : x = p.1 := by simpa using q
          cases e; rw [q']; exact .head _
        · exact .tail _ (ih e)
    exact hs _ this
  cll := S.cll
  own := S.own
  abv := S.abv
/-- fewer cells, or others in order -/
theorem St.cells {cs' : List (Addr × Obj)} (S : St h₀ Y cs env lo h) (hs : ∀ p ∈ cs', p ∈ cs) (nd : cs'.Pairwise fun p q => p.1 ≠ q.1) : St h₀ Y cs' env lo h where
  fm := S.fm
  base := S.base
  yng := S.yng
  cel := fun p hp => S.cel p (hs p hp)
  nd := nd
  loc := S.loc
  cll := S.cll
  own := fun a f => (S.own a f).imp id fun e => ⟨e.1, e.2.1, fun p hp => e.2.2 p (hs p hp)⟩
  abv := S.abv
theorem St.drop {p : Addr × Obj} (S : St h₀ Y (p :: cs) env lo h) : St h₀ Y cs env lo h := S.cells (fun _ hp => .tail _ hp) (List.pairwise_cons.mp S.nd).2
theorem St.swap {p q : Addr × Obj} (S : St h₀ Y (p :: q :: cs) env lo h) : St h₀ Y (q :: p :: cs) env lo h := by
  obtain ⟨h1, h2⟩ := List.pairwise_cons.mp S.nd
  obtain ⟨h3, h4⟩ := List.pairwise_cons.mp h2
  refine S.cells (fun r hr => ?_) (List.pairwise_cons.mpr ⟨fun r hr => ?_, List.pairwise_cons.mpr ⟨fun r hr => h1 r (.tail _ hr), h4⟩⟩)
  · rcases List.mem_cons.mp hr with rfl | hr
    · exact .tail _ (.head _)
    · rcases List.mem_cons.mp hr with rfl | hr
      · exact .head _
      · exact .tail _ (.tail _ hr)
  · rcases List.mem_cons.mp hr with rfl | hr
    · exact (h1 q (.head _)).symm
    · exact h3 r hr
theorem sel_pairwise {α : Type} {R : α → α → Prop} (hs : ∀ x y, R x y → R y x) {l : List α} (h : l.Pairwise R) : ∀ {is : List Nat}, is.Nodup → (is.filterMap fun i => l[i]?).Pairwise R
  | [], _ => .nil
  | i :: is, nd => by
    rw [List.nodup_cons] at nd
    have ih := sel_pairwise hs h nd.2
    rw [List.filterMap_cons]
    split
    · exact ih
    · rename_i x hx
      refine List.pairwise_cons.mpr ⟨fun y hy => ?_, ih⟩
      obtain ⟨j, hj, hy'⟩ := List.mem_filterMap.mp hy
      have hij : i ≠ j := fun e => nd.1 (e ▸ hj)
      obtain ⟨h1, rfl⟩ := List.getElem?_eq_some_iff.mp hx
      obtain ⟨h2, rfl⟩ := List.getElem?_eq_some_iff.mp hy'
      rcases Nat.lt_or_gt_of_ne hij with q | q
      · exact List.pairwise_iff_getElem.mp h _ _ h1 h2 q
      · exact hs _ _ (List.pairwise_iff_getElem.mp h _ _ h2 h1 q)
/-- some of the cells, in an order -/
theorem St.sel (S : St h₀ Y cs env lo h) (is : List Nat) (nd : is.Nodup) : St h₀ Y (is.filterMap fun i => cs[i]?) env lo h :=
  S.cells (fun p hp => by obtain ⟨i, _, e⟩ := List.mem_filterMap.mp hp; exact List.mem_of_getElem? e) (sel_pairwise (fun _ _ => Ne.symm) S.nd nd)
theorem fresh_none {h h' : Heap} {a : Addr} (k : Keep h h') (n : h'.get? a = none) : h.get? a = none := by
  cases q : h.get? a with
  | none => rfl
  | some o => rw [k a o q] at n; cases n

/-- a new thing that may turn -/
theorem St.adopt {a : Addr} {o : Obj} (S : St h₀ Y cs env lo h) (k : Keep h h') (e : newIn h h' a = some o) : St h₀ Y ((a, o) :: cs) env lo h' := by
  obtain ⟨e1, e2⟩ := newIn_get e
  have S' := S.keep k
  have hne : ∀ b o', h.get? b = some o' → b ≠ a := fun b o' q r => by rw [r, e2] at q; cases q
  refine ⟨S'.fm, S'.base, S'.yng, fun p hp => ?_, List.pairwise_cons.mpr ⟨fun p hp => (hne p.1 p.2 (S.cel p hp).1).symm, S.nd⟩, S'.loc, S'.cll, fun b f => (S'.own b f).imp id fun e => ⟨e.1, e.2.1, fun p hp => ?_⟩, S'.abv⟩
  · rcases List.mem_cons.mp hp with rfl | hp
    · refine ⟨e1, fresh_none S.base e2, ?_⟩
      cases q : Y a with
      | none => rfl
      | some o' => rw [(S.yng a o' q).1] at e2; cases e2
    · exact S'.cel p hp
  · rcases List.mem_cons.mp hp with rfl | hp
    · obtain ⟨o', ho'⟩ := S.frLive f
      exact (hne b o' ho').symm
    · exact e.2.2 p hp
theorem push_keep (h : Heap) (o : Obj) : Keep h (h.push o) := fun _ _ e => Heap.get?_push_of_some _ e
theorem get_size (h : Heap) : h.get? h.objs.size = none := by
  cases q : h.get? h.objs.size with
  | none => rfl
  | some o => exact absurd (Heap.lt_size q) (Nat.lt_irrefl _)
theorem push_new (h : Heap) (o : Obj) (hf : o.isFreed = false := by rfl) : newIn h (h.push o) h.objs.size = some o := newIn_of (Heap.get?_push_size _ hf) (get_size h)
theorem St.push {o : Obj} (S : St h₀ Y cs env lo h) (hf : o.isFreed = false := by rfl) : St h₀ Y ((h.objs.size, o) :: cs) env lo (h.push o) := S.adopt (push_keep h o) (push_new h o hf)

theorem lt_of_put {a : Addr} {o : Obj} (hn : Y a = none) : Le Y (putG Y a o) := fun b ob e => by
  unfold putG
  rw [if_neg (fun q => by rw [q, hn] at e; cases e)]; exact e
theorem put_self (Y : Gh) (a : Addr) (o : Obj) : putG Y a o a = some o := by unfold putG; rw [if_pos rfl]
/-- a thing that turns no more -/
theorem St.freeze {a : Addr} {o : Obj} (S : St h₀ Y ((a, o) :: cs) env lo h) : St h₀ (putG Y a o) cs env lo h ∧ Le Y (putG Y a o) := by
  have h0 := S.cel _ (.head _)
  have h1 := (List.pairwise_cons.mp S.nd).1
  refine ⟨⟨S.fm, S.base, fun b ob e => ?_, fun p hp => ⟨(S.cel p (.tail _ hp)).1, (S.cel p (.tail _ hp)).2.1, ?_⟩, (List.pairwise_cons.mp S.nd).2, S.loc, S.cll, fun b f => (S.own b f).imp id fun e => ⟨e.1, ?_, fun p hp => e.2.2 p (.tail _ hp)⟩, S.abv⟩, lt_of_put h0.2.2⟩
  · unfold putG at e
    split at e
    · rename_i q; cases e; rw [q]; exact ⟨h0.1, h0.2.1⟩
    · exact S.yng b ob e
  · unfold putG; rw [if_neg (h1 p hp).symm]; exact (S.cel p (.tail _ hp)).2.2
  · unfold putG; rw [if_neg (e.2.2 _ (.head _)).symm]; exact e.2.1
/-- the first of the things that may turn has turned -/
theorem St.turn {a : Addr} {o o' : Obj} (S : St h₀ Y ((a, o) :: cs) env lo h) (k : KeepBut a h h') (e : h'.get? a = some o') : St h₀ Y ((a, o') :: cs) env lo h' := by
  have h0 := S.cel _ (.head _)
  have h1 := (List.pairwise_cons.mp S.nd).1
  have S' := (S.drop).off k h0.2.1 h0.2.2 (fun p hp => (h1 p hp).symm) (S.notFr (p := (a, o)) (.head _))
  refine ⟨S'.fm, S'.base, S'.yng, fun p hp => ?_, List.pairwise_cons.mpr ⟨h1, S'.nd⟩, S'.loc, S'.cll, fun b f => (S.own b f).imp id fun e => ⟨e.1, e.2.1, fun p hp => ?_⟩, S'.abv⟩
  · rcases List.mem_cons.mp hp with rfl | hp
    · exact ⟨e, h0.2⟩
    · exact S'.cel p hp
  · rcases List.mem_cons.mp hp with rfl | hp
    · exact e.2.2 (a, o) (.head _)
    · exact e.2.2 p (.tail _ hp)
/-- new things that a call has left: they turn no more -/
theorem St.grow (S : St h₀ Y cs env lo h) (k : Keep h h') : St h₀ (uni Y (newIn h h')) cs env lo h' ∧ Le Y (uni Y (newIn h h')) := by
  have S' := S.keep k
  have hno : ∀ b o, h.get? b = some o → newIn h h' b = none := fun b o e => by unfold newIn; rw [e]
  refine ⟨⟨S'.fm, S'.base, fun b o e => ?_, fun p hp => ⟨(S'.cel p hp).1, (S'.cel p hp).2.1, ?_⟩, S.nd, S'.loc, S'.cll, fun b f => (S'.own b f).imp id fun e => ⟨e.1, ?_, e.2.2⟩, S.abv⟩, fun b o e => ?_⟩
  · unfold uni at e
    split at e
    · rename_i o' q
      cases e
      obtain ⟨q1, q2⟩ := newIn_get q
      exact ⟨q1, fresh_none S.base q2⟩
    · exact S'.yng b o e
  · unfold uni; rw [hno _ _ (S.cel p hp).1]; exact (S.cel p hp).2.2
  · obtain ⟨o, ho⟩ := S.frLive f
    unfold uni; rw [hno _ _ ho]; exact e.2.1
  · unfold uni; rw [hno _ _ (S.yng b o e).1]; exact e
end

section
variable {w : World} {z : Shared} {A : Around} {h₀ : Heap} {Y : Gh} {cs : List (Addr × Obj)} {env : Env} {lo : List (Str × Value)} {h : Heap}

theorem e_name {x : Str} {pos : Pos} {v : Value} {P : Value → Heap → Prop} (S : St h₀ Y cs env lo h) (hv : lo.lookup x = some v) (H : P v h) (hd : (x == ("__debug__" : Str)) = false := by decide) (hc : (x == ("__classdict__" : Str)) = false := by decide) :
    Tr w z A (eval (.Name x pos) env) h P := fun tk => by
  obtain ⟨m, hn, hm⟩ := S.loc
  refine wpAny_Name ?_ hd
  rcases hm x v hv with ⟨h1, h2⟩ | ⟨h1, c, h2, h3⟩ | ⟨h1, c, h2, h3⟩
  · exact wpAny_loadName_local S.fm.kind h1 hn h2 ⟨h, tk, rfl, H⟩
  · exact wpAny_loadName_cell S.fm.kind h1 h2 h3 ⟨h, tk, rfl, H⟩
  · exact wpAny_loadName_free S.fm.kind h1 h2 (h3.keeps S.base) ⟨h, tk, rfl, H⟩ hc

theorem s_local {x : Str} {v : Value} {P : Unit → Heap → Prop} (S : St h₀ Y cs env lo h) (hk : env.kindOf x = some .local) (H : ∀ h', St h₀ Y cs env ((x, v) :: lo) h' → P () h') :
    Tr w z A (storeName env x v) h P := fun tk => by
  obtain ⟨m, hn, hm⟩ := S.loc
  refine wpAny_storeName_local hk hn (fun h' hn' hs => ⟨h', tk + 1, rfl, H h' ?_⟩) (by show (env.scope.kind == .class || (env.scope.kind == .module && env.locals != env.globals)) = false; rw [S.fm.kind]; rfl)
  have kb : ∀ b o, b ≠ env.locals → h.get? b = some o → h'.get? b = some o := fun b o q e => (hs.2 b q).trans e
  have hb := S.ownL
  refine ⟨S.fm, fun b o e => kb b o (fun q => by rw [q, hb.1] at e; cases e) (S.base b o e), fun b o e => ⟨kb b o (fun q => by rw [q, hb.2.1] at e; cases e) (S.yng b o e).1, (S.yng b o e).2⟩,
    fun p hp => ⟨kb _ _ (hb.2.2 p hp) (S.cel p hp).1, (S.cel p hp).2⟩, S.nd, ⟨_, hn', fun y u e => ?_⟩, fun y c h1 h2 => ?_, S.own, S.abv⟩
  · rw [List.lookup_cons] at e
    by_cases q : y = x
    · subst q
      simp only [BEq.rfl] at e
      cases e
      exact .inl ⟨hk, if_pos rfl⟩
    · have q' : (y == x) = false := beq_eq_false_iff_ne.mpr q
      rw [q'] at e
      rcases hm y u e with ⟨h1, h2⟩ | ⟨h1, c, h2, o, h3, h4⟩ | h1
      · exact .inl ⟨h1, (if_neg q).trans h2⟩
      · exact .inr (.inl ⟨h1, c, h2, o, kb _ _ (S.fm.lne y c h2) h3, h4⟩)
      · exact .inr (.inr h1)
  · obtain ⟨u, o, h3, h4⟩ := S.cll y c h1 h2
    exact ⟨u, o, kb _ _ (S.fm.lne y c h2) h3, h4⟩
theorem s_cell {x : Str} {v : Value} {c : Addr} {P : Unit → Heap → Prop} (S : St h₀ Y cs env lo h) (hk : env.kindOf x = some .cell) (hc : env.cells.lookup x = some c) (hlt : env.locals < c) (H : ∀ h', St h₀ Y cs env ((x, v) :: lo) h' → P () h') :
    Tr w z A (storeName env x v) h P := fun tk => by
  obtain ⟨m, hn, hm⟩ := S.loc
  obtain ⟨v₀, hv₀⟩ := S.cll x c hk hc
  have fr : IsFr env c := .inr ⟨x, hk, hc⟩
  refine wpAny_storeName_cell S.fm.kind hk hc hv₀ fun h' hv' hs => ⟨h', tk, rfl, H h' ?_⟩
  have kb : ∀ b o, b ≠ c → h.get? b = some o → h'.get? b = some o := fun b o q e => (hs.2 b q).trans e
  have hb : h₀.get? c = none ∧ Y c = none ∧ ∀ p ∈ cs, p.1 ≠ c := by
    rcases S.own _ fr with ⟨o, e⟩ | e
    · rw [S.abv _ (Nat.le_of_lt hlt)] at e; cases e
    · exact e
  refine ⟨S.fm, fun b o e => kb b o (fun q => by rw [q, hb.1] at e; cases e) (S.base b o e), fun b o e => ⟨kb b o (fun q => by rw [q, hb.2.1] at e; cases e) (S.yng b o e).1, (S.yng b o e).2⟩,
    fun p hp => ⟨kb _ _ (hb.2.2 p hp) (S.cel p hp).1, (S.cel p hp).2⟩, S.nd, ⟨m, hn.at' fun o e => kb _ _ (S.fm.lne x c hc).symm e, fun y u e => ?_⟩, fun y c' h1 h2 => ?_, S.own, S.abv⟩
  · rw [List.lookup_cons] at e
    by_cases q : y = x
    · subst q
      simp only [BEq.rfl] at e
      cases e
      exact .inr (.inl ⟨hk, c, hc, hv'⟩)
    · have q' : (y == x) = false := beq_eq_false_iff_ne.mpr q
      rw [q'] at e
      rcases hm y u e with ⟨h1, h2⟩ | ⟨h1, c', h2, o, h3, h4⟩ | h1
      · exact .inl ⟨h1, h2⟩
      · exact .inr (.inl ⟨h1, c', h2, o, kb _ _ (fun r => q (S.fm.inj y x c (r ▸ h2) hc)) h3, h4⟩)
      · exact .inr (.inr h1)
  · by_cases r : c' = c
    · exact ⟨_, r ▸ hv'⟩
    · obtain ⟨u, o, h3, h4⟩ := S.cll y c' h1 h2
      exact ⟨u, o, kb _ _ r h3, h4⟩

/-- a def of the text, or a global -/
theorem e_glob {x : Str} {pos : Pos} {v : Value} {P : Value → Heap → Prop} (S : St h₀ Y cs env lo h) (C : Cx w h₀) (e : nsIn (hd.heap_39 w.params) mainGlobals x = some (some v)) (H : P v h)
    (hx : env.kindOf x = some .globalImplicit := by rfl) (hd : (x == ("__debug__" : Str)) = false := by decide) : Tr w z A (eval (.Name x pos) env) h P := fun tk => by
  obtain ⟨X, p, loose, mg, mb, T⟩ := C
  exact Name_function_global S.fm.kind hx (loadGlobal_global (S.fm.glob ▸ T.g.keeps S.base) (mg_of X T.g e) ⟨h, tk, rfl, H⟩) hd
/-- a name of builtins -/
theorem e_blt {x : Str} {pos : Pos} {v : Value} {P : Value → Heap → Prop} (S : St h₀ Y cs env lo h) (C : Cx w h₀) (e : nsIn (hd.heap_39 w.params) mainGlobals x = some none) (hv : bootBuiltins x = some v) (hn : x ≠ "__name__") (H : P v h)
    (hx : env.kindOf x = some .globalImplicit := by rfl) (hd : (x == ("__debug__" : Str)) = false := by decide) : Tr w z A (eval (.Name x pos) env) h P := fun tk => by
  obtain ⟨X, p, loose, mg, mb, T⟩ := C
  exact Name_function_global S.fm.kind hx (loadGlobal_builtin (S.fm.glob ▸ T.g.keeps S.base) (mg_none_of X T.g e) (S.fm.blt ▸ T.b.keeps S.base) ((T.builtins x hn).trans hv) ⟨h, tk, rfl, H⟩) hd
end

/-- room for calls -/
structure Room (A : Around) (n : Nat) : Prop where
  hnd : A.handled = none
  dep : A.depth + n < recursionLimit
  uni : A.units + 10 * n + 10 < cLine
theorem Room.deeper {A : Around} {n : Nat} {env : Env} (R : Room A (n + 1)) : Room (A.deeper env) n :=
  ⟨R.hnd, by have := R.dep; show A.depth + 1 + n < _; lia, by have := R.uni; show A.units + 3 + 10 * n + 10 < _; lia⟩
theorem Room.in1 {A : Around} {n : Nat} (R : Room A (n + 1)) : Room A.in1 n :=
  ⟨R.hnd, by have := R.dep; show A.depth + n < _; lia, by have := R.uni; show A.units + 1 + 10 * n + 10 < _; lia⟩
theorem Room.less {A : Around} {n k : Nat} (R : Room A n) (hk : k ≤ n) : Room A k :=
  ⟨R.hnd, by have := R.dep; lia, by have := R.uni; lia⟩
end
section -- Enter

theorem mem_of_lookup {α : Type} {x : Str} {v : α} : ∀ {l : List (Str × α)}, l.lookup x = some v → (x, v) ∈ l
  | [], e => by cases e
  | (y, u) :: r, e => by
    rw [List.lookup_cons] at e
    split at e
    · rename_i q
      have q' : x = y := by simpa using q
      cases e; rw [q']; exact .head _
    · exact .tail _ (mem_of_lookup e)

theorem bindL_stay {k : Str → Option NameKind} {x : Str} : ∀ {l : List (Str × Value)} {m : Str → Option Value}, x ∉ l.map (·.1) → bindL k l m x = m x
  | [], _, _ => rfl
  | (n, v) :: r, m, hx => by
    simp only [List.map_cons, List.mem_cons, not_or] at hx
    show bindL k r _ x = m x
    rw [bindL_stay hx.2]
    split
    · exact if_neg hx.1
    · rfl
theorem bindC_stay {k : Str → Option NameKind} {x : Str} : ∀ {l : List (Str × Value)} {m : Str → Option Value}, x ∉ l.map (·.1) → bindC k l m x = m x
  | [], _, _ => rfl
  | (n, v) :: r, m, hx => by
    simp only [List.map_cons, List.mem_cons, not_or] at hx
    show bindC k r _ x = m x
    rw [bindC_stay hx.2]
    split
    · rfl
    · exact if_neg hx.1
theorem bindL_of {k : Str → Option NameKind} {x : Str} {v : Value} (hk : k x = some .local) : ∀ {l : List (Str × Value)} {m : Str → Option Value}, (l.map (·.1)).Nodup → l.lookup x = some v → bindL k l m x = some v
  | [], _, _, e => by cases e
  | (n, u) :: r, m, nd, e => by
    rw [List.map_cons, List.nodup_cons] at nd
    rw [List.lookup_cons] at e
    show bindL k r _ x = some v
    split at e
    · rename_i q
      have q' : x = n := by simpa using q
      subst q'
      cases e
      rw [bindL_stay nd.1, if_pos hk]
      exact if_pos rfl
    · exact bindL_of hk nd.2 e
theorem bindC_of {k : Str → Option NameKind} {x : Str} {v : Value} (hk : k x ≠ some .local) : ∀ {l : List (Str × Value)} {m : Str → Option Value}, (l.map (·.1)).Nodup → l.lookup x = some v → bindC k l m x = some v
  | [], _, _, e => by cases e
  | (n, u) :: r, m, nd, e => by
    rw [List.map_cons, List.nodup_cons] at nd
    rw [List.lookup_cons] at e
    show bindC k r _ x = some v
    split at e
    · rename_i q
      have q' : x = n := by simpa using q
      subst q'
      cases e
      rw [bindC_stay nd.1, if_neg hk]
      exact if_pos rfl
    · exact bindC_of hk nd.2 e

theorem apart_inj {cs : List (Str × Addr)} (ap : cs.Pairwise fun x y => x.2 ≠ y.2) {x y : Str} {c : Addr} (hx : cs.lookup x = some c) (hy : cs.lookup y = some c) : x = y := by
  have h1 := mem_of_lookup hx
  have h2 := mem_of_lookup hy
  clear hx hy
  induction cs with
  | nil => cases h1
  | cons p r ih =>
    obtain ⟨a1, a2⟩ := List.pairwise_cons.mp ap
    rcases List.mem_cons.mp h1 with e1 | h1
    · rcases List.mem_cons.mp h2 with e2 | h2
      · exact (Prod.mk.inj (e1.trans e2.symm)).1
      · exact absurd (by rw [← e1]) (a1 _ h2)
    · rcases List.mem_cons.mp h2 with e2 | h2
      · exact absurd (by rw [← e2]) (a1 _ h1)
      · exact ih a2 h1 h2

section
variable {w : World} {z : Shared} {A : Around} {h g : Heap} {name qual : Str} {params : Arguments} {body : List Stmt} {scope : Scope} {dV kV doc pm cdv ct oc : Value} {an od : Option Addr} {osl : Array (Option Value)} {f : Addr} {args : List Value} {binds : List (Str × Value)} {n : Nat}

/-- a call of a def of the text: what the call may turn is hidden from the base -/
theorem enterG {P : Value → Heap → Prop} {mu : List (Addr × Obj)} (C : Cx w g) (kp : Keep g h) (hmu : ∀ p ∈ mu, h.get? p.1 = some p.2 ∧ g.get? p.1 = none) (hmnd : mu.Pairwise fun p q => p.1 ≠ q.1) (R : Room A n)
    (ho : (hd.heap_39 w.params).lookup f = some ⟨oc, od, .func (fnOf name qual params body scope dV kV doc pm an cdv ct), osl⟩) (hcd : codeIn (hd.heap_39 w.params) cdv qual = true)
    (hbind : bindArgs (fnOf name qual params body scope dV kV doc pm an cdv ct) ⟨args, []⟩ = pure binds)
    (hkind : (binds.all fun y => scope.names.lookup y.1 == some .local || scope.names.lookup y.1 == some .cell) = true) (hbnd : (binds.map (·.1)).Nodup)
    (H : ∀ L h₁, L = h.objs.size → St g (fun _ => none) mu (envOfC qual scope L f cdv) binds h₁ → Keep h h₁ →
      Tr w z (A.deeper (envOfC qual scope L f cdv)) (execs body (envOfC qual scope L f cdv)) h₁ (fun fl h' => P (match fl with | .ret v => v | _ => .none) h'))
    (hco : scope.isCoroutine = false) (hgen : scope.isGenerator = false) (hk : scope.kind = .function) :
    Tr w z A (call (.ref f) args) h P := fun tk => by
  obtain ⟨X, p, loose, mg, mb, T⟩ := C
  have X' := X.keeps kp
  refine wpAny_call ?_
  refine codeAny_call_function (fd := fnOf name qual params body scope dV kV doc pm an cdv ct) (by have := R.dep; lia) (X' _ _ ho) rfl hco hgen rfl (codeRec_of X' hcd) ?_
  rw [hbind]
  refine wpAny_pure ?_
  refine wpAny_newFunctionEnv_cells hk (kindsX hkind _) fun env' he s' x => ?_
  subst he
  refine ⟨(T.nolimit.keeps kp).keeps x.toInCall.keep, codeAny_func ?_⟩
  obtain ⟨h₁, tk₁, rfl, hk₁⟩ := x.done
  have hL : (Sh z h tk).heap.objs.size = h.objs.size := rfl
  have hk₁' : Keep h h₁ := hk₁
  have hno : ∀ a, h.objs.size ≤ a → g.get? a = none := fun a ha => by
    cases q : g.get? a with
    | none => rfl
    | some o => exact absurd (Heap.lt_size (kp a o q)) (Nat.not_lt.mpr ha)
  have hno' : ∀ a, h.objs.size ≤ a → ∀ p ∈ mu, p.1 ≠ a := fun a ha p hp q => absurd (Heap.lt_size (hmu p hp).1) (Nat.not_lt.mpr (q ▸ ha))
  have S : St g (fun _ => none) mu (envOfC qual scope h.objs.size f cdv) binds h₁ := by
    refine ⟨⟨hk, rfl, rfl, fun a b c h1 h2 => apart_inj x.apart h1 h2, fun a c h1 => Nat.ne_of_gt (x.above a c (mem_of_lookup h1))⟩, fun b o e => hk₁' b o (kp b o e), fun b o e => (nomatch e), fun p hp => ⟨hk₁' _ _ (hmu p hp).1, (hmu p hp).2, rfl⟩, hmnd,
      ⟨_, x.toInCall.ns, fun y v e => ?_⟩, fun y c _ h2 => ⟨_, x.cell y c h2⟩, fun a fr => .inr ?_, fun a ha => hno a ha⟩
    · have hmem := mem_of_lookup e
      have hky := List.all_eq_true.mp hkind _ hmem
      rcases Bool.or_eq_true_iff.mp hky with q | q
      · have q' : (envOfC qual scope h.objs.size f cdv).kindOf y = some .local := (by simpa using q : scope.names.lookup y = some .local)
        exact .inl ⟨q', bindL_of q' hbnd e⟩
      · have q' : (envOfC qual scope h.objs.size f cdv).kindOf y = some .cell := (by simpa using q : scope.names.lookup y = some .cell)
        obtain ⟨c, hc⟩ := Option.isSome_iff_exists.mp (cellsFrom_some scope.names (h.objs.size + 1) [] (.inl q') : ((cellsFrom (h.objs.size + 1) scope.names []).lookup y).isSome = true)
        refine .inr (.inl ⟨q', c, hc, ?_⟩)
        have := x.cell y c hc
        rw [bindC_of (fun r => by have r' : (envOfC qual scope h.objs.size f cdv).kindOf y = some .local := r; rw [q'] at r'; cases r') hbnd e] at this
        exact this
    · have ha : h.objs.size ≤ a := by
        rcases fr with rfl | ⟨y, _, hc⟩
        · exact Nat.le_refl _
        · exact Nat.le_of_lt (x.above y a (mem_of_lookup hc))
      exact ⟨hno a ha, rfl, hno' a ha⟩
  refine wpAny_mono (H _ h₁ rfl S hk₁' tk₁) (fun fl s' hl => hl) fun _ _ y => y.elim

theorem enterT {P : Value → Heap → Prop} (C : Cx w h) (R : Room A n)
    (ho : (hd.heap_39 w.params).lookup f = some ⟨oc, od, .func (fnOf name qual params body scope dV kV doc pm an cdv ct), osl⟩) (hcd : codeIn (hd.heap_39 w.params) cdv qual = true)
    (hbind : bindArgs (fnOf name qual params body scope dV kV doc pm an cdv ct) ⟨args, []⟩ = pure binds)
    (hkind : (binds.all fun y => scope.names.lookup y.1 == some .local || scope.names.lookup y.1 == some .cell) = true) (hbnd : (binds.map (·.1)).Nodup)
    (H : ∀ L h₁, L = h.objs.size → St h (fun _ => none) [] (envOfC qual scope L f cdv) binds h₁ →
      Tr w z (A.deeper (envOfC qual scope L f cdv)) (execs body (envOfC qual scope L f cdv)) h₁ (fun fl h' => P (match fl with | .ret v => v | _ => .none) h'))
    (hco : scope.isCoroutine = false) (hgen : scope.isGenerator = false) (hk : scope.kind = .function) :
    Tr w z A (call (.ref f) args) h P :=
  enterG (mu := []) C (Keep.refl h) (fun _ hp => nomatch hp) .nil R ho hcd hbind hkind hbnd (fun L h₁ hL S _ => H L h₁ hL S) hco hgen hk
/-- the same, where the call turns one thing of the caller's -/
theorem enterT1 {P : Value → Heap → Prop} {a : Addr} {ob : Obj} (C : Cx w (h.hide a)) (ha : h.get? a = some ob) (R : Room A n)
    (ho : (hd.heap_39 w.params).lookup f = some ⟨oc, od, .func (fnOf name qual params body scope dV kV doc pm an cdv ct), osl⟩) (hcd : codeIn (hd.heap_39 w.params) cdv qual = true)
    (hbind : bindArgs (fnOf name qual params body scope dV kV doc pm an cdv ct) ⟨args, []⟩ = pure binds)
    (hkind : (binds.all fun y => scope.names.lookup y.1 == some .local || scope.names.lookup y.1 == some .cell) = true) (hbnd : (binds.map (·.1)).Nodup)
    (H : ∀ L h₁, L = h.objs.size → St (h.hide a) (fun _ => none) [(a, ob)] (envOfC qual scope L f cdv) binds h₁ →
      Tr w z (A.deeper (envOfC qual scope L f cdv)) (execs body (envOfC qual scope L f cdv)) h₁ (fun fl h' => P (match fl with | .ret v => v | _ => .none) h'))
    (hco : scope.isCoroutine = false) (hgen : scope.isGenerator = false) (hk : scope.kind = .function) :
    Tr w z A (call (.ref f) args) h P :=
  enterG C (fun b o e => Heap.of_hide e) (fun p hp => by rw [List.mem_singleton.mp hp]; exact ⟨ha, Heap.hide_self _ _⟩) (List.pairwise_singleton _ _) R ho hcd hbind hkind hbnd (fun L h₁ hL S _ => H L h₁ hL S) hco hgen hk
end
end
section -- Ops
set_option maxRecDepth 10000

noncomputable abbrev lst (vs : List Value) (n : Nat) : Obj := listOf vs.toArray n
noncomputable abbrev tup (vs : List Value) (n : Nat) : Obj := { cls := .type "tuple", data := .seq vs.toArray n }
theorem isL {h : Heap} {l : Addr} {vs : List Value} {n : Nat} (e : h.get? l = some (lst vs n)) : h.IsList l vs.toArray := ⟨_, e, rfl, n, rfl⟩
theorem isT {h : Heap} {l : Addr} {vs : List Value} {n : Nat} (e : h.get? l = some (tup vs n)) : h.IsTuple l vs.toArray := ⟨_, e, rfl, n, rfl⟩

theorem seqIdx_of {k : Int} {n : Nat} (h0 : 0 ≤ k) (h1 : k.toNat < n) : seqIndex? k n = some k.toNat := by
  unfold seqIndex?
  rw [if_neg (by lia : ¬ k < 0)]
  show (if (decide (0 ≤ k) && decide (k < n)) = true then some k.toNat else none) = _
  rw [if_pos (by simp; lia)]
section
variable {w : World} {z : Shared} {A : Around} {h : Heap} {a b : Int} {t u x : Tok} {P : Value → Heap → Prop}
theorem o_add (H : ∀ t, P (.int (a + b) t) h) : Tr w z A (binaryOp .Add (.int a t) (.int b u)) h P := fun tk => PyProof.Rows.add_int ⟨h, tk + 1, rfl, H _⟩
theorem o_sub (H : ∀ t, P (.int (a - b) t) h) : Tr w z A (binaryOp .Sub (.int a t) (.int b u)) h P := fun tk => PyProof.Rows.sub_int ⟨h, tk + 1, rfl, H _⟩
theorem o_mul (hm : IntMulOk a b) (H : ∀ t, P (.int (a * b) t) h) : Tr w z A (binaryOp .Mult (.int a t) (.int b u)) h P := fun tk => PyProof.Rows.mul_int ⟨h, tk + 1, rfl, H _⟩ hm
theorem o_mod (hb : 0 < b) (H : ∀ t, P (.int (a % b) t) h) : Tr w z A (binaryOp .Mod (.int a t) (.int b u)) h P := fun tk => by
  refine PyProof.Rows.mod_int' (by lia) ⟨h, tk + 1, rfl, ?_⟩
  rw [Int.fmod_eq_emod_of_nonneg _ (by lia)]; exact H _
theorem o_div (hb : 0 < b) (hb2 : b < 1073741824) (H : ∀ t, P (.int (a / b) t) h) : Tr w z A (binaryOp .FloorDiv (.int a t) (.int b u)) h P := fun tk => by
  refine PyProof.Rows.floordiv_int (by lia) ⟨h, tk + 1, rfl, ?_⟩ (.inl (PyProof.noPylong_small (by lia)))
  rw [Int.fdiv_eq_ediv_of_nonneg _ (by lia)]; exact H _
theorem o_neg (H : ∀ t, P (.int (-a) t) h) : Tr w z A (unaryOp .USub (.int a t)) h P := fun tk => PyProof.Rows.neg_int ⟨h, tk + 1, rfl, H _⟩
theorem o_not {v : Value} (H : Tr w z A (truthy v) h fun c h' => P (.bool (!c)) h') : Tr w z A (unaryOp .Not v) h P := fun tk => PyProof.Rows.not_of (seqW (H tk) fun _ h' tk' k => ⟨h', tk', rfl, k⟩)
theorem c_eq (H : P (.bool (decide (a = b))) h) : Tr w z A (compareOp .Eq (.int a t) (.int b u)) h P := fun tk => PyProof.Rows.eq_int ⟨h, tk, rfl, H⟩
theorem c_ne (H : P (.bool (!decide (a = b))) h) : Tr w z A (compareOp .NotEq (.int a t) (.int b u)) h P := fun tk => PyProof.Rows.ne_int ⟨h, tk, rfl, H⟩
theorem c_lt (H : P (.bool (decide (a < b))) h) : Tr w z A (compareOp .Lt (.int a t) (.int b u)) h P := fun tk => PyProof.Rows.lt_int ⟨h, tk, rfl, H⟩
theorem c_gt (H : P (.bool (decide (b < a))) h) : Tr w z A (compareOp .Gt (.int a t) (.int b u)) h P := fun tk => PyProof.Rows.gt_int ⟨h, tk, rfl, H⟩
theorem c_le (H : P (.bool (decide (a ≤ b))) h) : Tr w z A (compareOp .LtE (.int a t) (.int b u)) h P := fun tk => PyProof.Rows.le_int ⟨h, tk, rfl, H⟩
theorem c_ge (H : P (.bool (decide (b ≤ a))) h) : Tr w z A (compareOp .GtE (.int a t) (.int b u)) h P := fun tk => PyProof.Rows.ge_int ⟨h, tk, rfl, H⟩
theorem t_bool {c : Bool} {P : Bool → Heap → Prop} (H : P c h) : Tr w z A (truthy (.bool c)) h P := fun tk => wpAny_truthy_bool ⟨h, tk, rfl, H⟩
theorem k_intBool {c : Bool} (H : ∀ t, P (.int (if c then 1 else 0) t) h) : Tr w z A (call (.type "int") [.bool c]) h P := fun tk => call_int_bool ⟨h, tk + 1, rfl, H _⟩
theorem k_intInt (H : P (.int a t) h) : Tr w z A (call (.type "int") [.int a t]) h P := fun tk => call_int_int ⟨h, tk, rfl, H⟩
theorem k_max (hh : A.handled = none) (H : ∀ h' t, Keep h h' → P (.int (max a b) t) h') : Tr w z A (call (.builtin "max") [.int a t, .int b u]) h P := fun tk =>
  max_two_ints hh fun h' tk' hk => by
    by_cases c : b > a
    · rw [if_pos c]; exact ⟨h', tk', rfl, by rw [show b = max a b by lia]; exact H _ _ hk⟩
    · rw [if_neg c]; exact ⟨h', tk', rfl, by rw [show a = max a b by lia]; exact H _ _ hk⟩
theorem k_min (hh : A.handled = none) (H : ∀ h' t, Keep h h' → P (.int (min a b) t) h') : Tr w z A (call (.builtin "min") [.int a t, .int b u]) h P := fun tk =>
  min_two_ints hh fun h' tk' hk => by
    by_cases c : b < a
    · rw [if_pos c]; exact ⟨h', tk', rfl, by rw [show b = min a b by lia]; exact H _ _ hk⟩
    · rw [if_neg c]; exact ⟨h', tk', rfl, by rw [show a = min a b by lia]; exact H _ _ hk⟩
theorem k_min3 {c : Int} (hh : A.handled = none) (H : ∀ h' t, Keep h h' → P (.int (min (min a b) c) t) h') : Tr w z A (call (.builtin "min") [.int a t, .int b u, .int c x]) h P := fun tk =>
  min_three_ints hh fun h' tk' hk => by
    by_cases c1 : b < a
    · rw [if_pos c1]
      by_cases c2 : c < b
      · rw [if_pos c2]; exact ⟨h', tk', rfl, by rw [show c = min (min a b) c by lia]; exact H _ _ hk⟩
      · rw [if_neg c2]; exact ⟨h', tk', rfl, by rw [show b = min (min a b) c by lia]; exact H _ _ hk⟩
    · rw [if_neg c1]
      by_cases c2 : c < a
      · rw [if_pos c2]; exact ⟨h', tk', rfl, by rw [show c = min (min a b) c by lia]; exact H _ _ hk⟩
      · rw [if_neg c2]; exact ⟨h', tk', rfl, by rw [show a = min (min a b) c by lia]; exact H _ _ hk⟩

theorem k_len {l : Addr} {vs : List Value} {n : Nat} (e : h.get? l = some (lst vs n)) (hsz : vs.length ≤ sizeLine) (H : ∀ t, P (.int (vs.length : Int) t) h) : Tr w z A (call (.builtin "len") [.ref l]) h P := fun tk =>
  call_len_list (isL e) (by rw [List.size_toArray]; rw [sizeLine_eq] at hsz; lia) ⟨h, _, rfl, by rw [List.size_toArray]; exact H _⟩
theorem i_list {value slice : PySem.Expr} {l : Addr} {vs : List Value} {n : Nat} {k : Int} {v : Value} (e : h.get? l = some (lst vs n)) (h0 : 0 ≤ k) (hx : vs[k.toNat]? = some v) (hsz : vs.length ≤ sizeLine) (H : P v h)
    (hs : subscripted slice false (.ref l) (.int k u) = operate [.ref l, .int k u] (getItem (.ref l) (.int k u)) := by with_unfolding_all rfl) :
    Tr w z A (subscriptTail value slice (.ref l) (.int k u)) h P := fun tk => by
  have hlt := (List.getElem?_eq_some_iff.mp hx).1
  rw [sizeLine_eq] at hsz
  exact tail_any (isL (h := (Sh z h tk).heap) e).typeIs slot_list_getitem.lookup (wpAny_getItem_list (isL e) h0 (by lia) (by simpa using hx) ⟨h, tk, rfl, H⟩) hs
theorem i_tup {value slice : PySem.Expr} {l : Addr} {vs : List Value} {n : Nat} {k : Int} {v : Value} (e : h.get? l = some (tup vs n)) (h0 : 0 ≤ k) (h1 : k < 100) (hx : vs[k.toNat]? = some v) (H : P v h)
    (hs : subscripted slice false (.ref l) (.int k u) = operate [.ref l, .int k u] (getItem (.ref l) (.int k u)) := by with_unfolding_all rfl) :
    Tr w z A (subscriptTail value slice (.ref l) (.int k u)) h P := fun tk => by
  have hlt := (List.getElem?_eq_some_iff.mp hx).1
  refine item_tupleT (j := k.toNat) (isT (h := (Sh z h tk).heap) e) (by lia) (by lia) ?_ hx ⟨h, tk, rfl, H⟩ hs
  exact seqIdx_of h0 (by lia)
end

section
variable {w : World} {z : Shared} {A : Around} {h : Heap} {env : Env} {P : Value → Heap → Prop} {pos : Pos}
/-- a call by a name -/
theorem e_call {func : PySem.Expr} {args : List PySem.Expr} (H : Tr w z A (eval func env) h fun f h₁ => Tr w z A (callWith pos f [] (backTo pos (starEach args env)) []) h₁ P)
    (he : eval (.Call func args [] pos) env = (do callWith pos (← eval func env) [] (backTo pos (starEach args env)) (backToKw pos (keywordEach [] env))) := by rfl) :
    Tr w z A (eval (.Call func args [] pos) env) h P := fun tk => Call_ (seqW (H tk) fun _ _ tk₁ k₁ => k₁ tk₁) he
theorem w_type {T : String} {e : PySem.Expr} {rest : List PySem.Expr} (H : Tr w z A (spliced (backTo pos (starEach (e :: rest) env))) h fun vs h₁ => Tr w z A (call (.type T) vs) h₁ P)
    (he : starEach (e :: rest) env = (false, eval e env) :: starEach rest env := by rfl) (hplain : (backTo pos (starEach rest env)).any (·.1) = false := by rfl) :
    Tr w z A (callWith pos (.type T) [] (backTo pos (starEach (e :: rest) env)) []) h P := fun tk => Pv.callWith_type1 (seqW (H tk) fun _ _ tk₁ k₁ => k₁ tk₁) he hplain
theorem w_blt {id : String} {e : PySem.Expr} {rest : List PySem.Expr} (H : Tr w z A (spliced (backTo pos (starEach (e :: rest) env))) h fun vs h₁ => Tr w z A (call (.builtin id) vs) h₁ P)
    (he : starEach (e :: rest) env = (false, eval e env) :: starEach rest env := by rfl) (hplain : (backTo pos (starEach rest env)).any (·.1) = false := by rfl) :
    Tr w z A (callWith pos (.builtin id) [] (backTo pos (starEach (e :: rest) env)) []) h P := fun tk => PyProof.Rows.callWith_builtin1 (seqW (H tk) fun _ _ tk₁ k₁ => k₁ tk₁) he hplain
theorem w_fun {f : Addr} {e : PySem.Expr} {rest : List PySem.Expr} {o : Obj} {fd : FuncData} (hk : (hd.heap_39 w.params).lookup f = some o) (hdat : o.data = .func fd)
    (H : Tr w z A (spliced (backTo pos (starEach (e :: rest) env))) h fun vs h₁ => (hd.heap_39 w.params).In h₁ ∧ Tr w z A (call (.ref f) vs) h₁ P)
    (he : starEach (e :: rest) env = (false, eval e env) :: starEach rest env := by rfl) :
    Tr w z A (callWith pos (.ref f) [] (backTo pos (starEach (e :: rest) env)) []) h P := fun tk => callWith_def hdat (seqW (H tk) fun _ _ tk₁ k₁ => ⟨k₁.1 _ _ hk, k₁.2 tk₁⟩) he
/-- a list's method -/
theorem e_lmeth {o e : PySem.Expr} {rest : List PySem.Expr} {name : Str} {id : String} {apos : Pos} {pl : Sem Bool} (slot : Slot "list" name id) (hty : typeOf (.builtin id) = Pure.pure (.type "method_descriptor"))
    (H : Tr w z A (eval o env) h fun ov h₁ => ∃ l vs n, ov = .ref l ∧ h₁.get? l = some (lst vs n) ∧ Tr w z A (spliced (backTo pos (starEach (e :: rest) env))) h₁ fun as h₂ => Tr w z A (call (.builtin id) (.ref l :: as)) h₂ P)
    (he : eval (.Call (.Attribute o name apos) (e :: rest) [] pos) env = (do
      let ov ← eval o env
      standAt apos.atName
      let (f, first) ← holding [ov] (getMethod ov name pl)
      callWith pos f first (backTo pos (starEach (e :: rest) env)) []) := by rfl)
    (hs : starEach (e :: rest) env = (false, eval e env) :: starEach rest env := by rfl) (hplain : (backTo pos (starEach rest env)).any (·.1) = false := by rfl) :
    Tr w z A (eval (.Call (.Attribute o name apos) (e :: rest) [] pos) env) h P := fun tk =>
  MethodCall_ (seqW (H tk) fun ov h₁ tk₁ k₁ => by
    obtain ⟨l, vs, n, rfl, hl, k₂⟩ := k₁
    exact getMethod_list_of slot hty (isL hl) ⟨_, hl, rfl⟩ (PyProof.Rows.callWith_method1 (seqW (k₂ tk₁) fun _ _ tk₃ k₃ => k₃ tk₃) hs hplain)) he
end
end
section -- Ops2
set_option maxRecDepth 10000

section
variable {w : World} {z : Shared} {A : Around} {h₀ : Heap} {Y : Gh} {cs : List (Addr × Obj)} {env : Env} {lo : List (Str × Value)} {h : Heap}

theorem n_list {vs : List Value} {P : Value → Heap → Prop} (S : St h₀ Y cs env lo h) (hsz : vs.length ≤ sizeLine) (H : ∀ a h', St h₀ Y ((a, lst vs 0) :: cs) env lo h' → Keep h h' → newIn h h' a = some (lst vs 0) → P (.ref a) h') : Tr w z A (newList vs) h P := fun tk =>
  wpAny_newObj_type ⟨_, tk, rfl, H _ _ S.push (push_keep _ _) (push_new _ _)⟩ (by show vs.toArray.size ≤ sizeLine; rw [List.size_toArray]; exact hsz)
theorem n_tuple {vs : List Value} {P : Value → Heap → Prop} (S : St h₀ Y cs env lo h) (hsz : vs.length ≤ sizeLine) (H : ∀ a h', St h₀ Y ((a, tup vs 0) :: cs) env lo h' → Keep h h' → newIn h h' a = some (tup vs 0) → P (.ref a) h') : Tr w z A (newTuple vs) h P := fun tk =>
  wpAny_newObj_type ⟨_, tk, rfl, H _ _ S.push (push_keep _ _) (push_new _ _)⟩ (by show vs.toArray.size ≤ sizeLine; rw [List.size_toArray]; exact hsz)

theorem sameBut_kb {a : Addr} {h h' : Heap} (hs : Heap.SameBut a h h') : KeepBut a h h' := fun b _ n e => (hs.2 b n).trans e
theorem upd_kb (h : Heap) (a : Addr) (f : Obj → Obj) : KeepBut a h (h.update a f) := sameBut_kb (Heap.SameBut.update ..)

theorem m_append {l : Addr} {vs : List Value} {n : Nat} {x : Value} {P : Value → Heap → Prop} (S : St h₀ Y ((l, lst vs n) :: cs) env lo h) (hsz : vs.length ≤ sizeLine)
    (H : ∀ h', St h₀ Y ((l, lst (vs ++ [x]) (n + 1)) :: cs) env lo h' → P .none h') : Tr w z A (call (.builtin "list.append") [.ref l, x]) h P := fun tk =>
  append_at (S.cell (.head _)) (fun h' hs e => ⟨h', tk, rfl, H _ (S.turn (sameBut_kb hs) (by rw [e]; show some _ = some _; congr 3; simp))⟩) (by rw [List.size_toArray]; exact hsz)
theorem mapSeq_lst {f : Array Value → Array Value} {vs ws : List Value} {n : Nat} (e : f vs.toArray = ws.toArray) : Obj.mapSeq f (lst vs n) = lst ws (if ws.length = vs.length then n else n + 1) := by
  show (⟨.type "list", none, .seq (f vs.toArray) (if (f vs.toArray).size == vs.toArray.size then n else n + 1), #[]⟩ : Obj) = _
  generalize f vs.toArray = ys at e ⊢
  subst e
  simp
/-- an append to a thing that stands anywhere among the cells -/
theorem m_insert {l : Addr} {vs : List Value} {n : Nat} {k : Int} {u : Tok} {x : Value} {P : Value → Heap → Prop} (S : St h₀ Y ((l, lst vs n) :: cs) env lo h) (hsz : vs.length ≤ sizeLine) (h0 : 0 ≤ k) (h1 : k ≤ vs.length)
    (H : ∀ h', St h₀ Y ((l, lst (vs.take k.toNat ++ x :: vs.drop k.toNat) (n + 1)) :: cs) env lo h' → P .none h') : Tr w z A (call (.builtin "list.insert") [.ref l, .int k u, x]) h P := fun tk => by
  have ho : (Sh z h tk).heap.get? l = some (lst vs n) := S.cell (.head _)
  have hsz' := hsz
  rw [sizeLine_eq] at hsz'
  refine call_meets PySem.F.slot_list_insert ⟨_, ho, rfl⟩ PySem.F.entry_list_insert (PySem.F.args_list_insert_3 _ _ _)
    (PySem.AutoSeq1.list_insert_list_int_val_1 l _ n k u x (by simp [Builtin.List.listFitsIndex]; lia) (by rw [List.size_toArray]; exact hsz)) ⟨ho, ?_⟩
  refine ⟨_, tk, rfl, H _ (S.turn (upd_kb _ _ _) ?_)⟩
  rw [Heap.get?_update_self _ ho (by rfl)]
  rw [mapSeq_lst (ws := vs.take k.toNat ++ x :: vs.drop k.toNat), if_neg (by rw [List.length_append, List.length_cons, List.length_take, List.length_drop]; lia)]
  have hm : (if k < 0 then (k + (vs.toArray.size : Int)).toNat else min k.toNat vs.toArray.size) = k.toNat := by rw [if_neg (by lia), List.size_toArray]; lia
  show (vs.toArray.extract 0 (if k < 0 then (k + (vs.toArray.size : Int)).toNat else min k.toNat vs.toArray.size)).push x ++ vs.toArray.extract (if k < 0 then (k + (vs.toArray.size : Int)).toNat else min k.toNat vs.toArray.size) = _
  rw [hm]
  exact W.kl_ins_eq vs k.toNat x
theorem m_pop {l : Addr} {vs : List Value} {n : Nat} {k : Int} {u : Tok} {x : Value} {P : Value → Heap → Prop} (S : St h₀ Y ((l, lst vs n) :: cs) env lo h) (hsz : vs.length ≤ sizeLine) (h0 : 0 ≤ k) (hx : vs[k.toNat]? = some x)
    (H : ∀ h', St h₀ Y ((l, lst (vs.eraseIdx k.toNat) (n + 1)) :: cs) env lo h' → P x h') : Tr w z A (call (.builtin "list.pop") [.ref l, .int k u]) h P := fun tk => by
  have ho : (Sh z h tk).heap.get? l = some (lst vs n) := S.cell (.head _)
  have hlt := (List.getElem?_eq_some_iff.mp hx).1
  have hsz' := hsz
  rw [sizeLine_eq] at hsz'
  refine call_meets PySem.F.slot_list_pop ⟨_, ho, rfl⟩ PySem.F.entry_list_pop (PySem.F.args_list_pop_2 _ _)
    (PySem.MeetsSeq.list_pop_at l _ n k u k.toNat x (by simp [Builtin.List.listFitsIndex]; lia) (by rw [List.size_toArray]; exact seqIdx_of h0 hlt) (by simpa using hx) (by rw [List.size_toArray]; exact hsz)) ⟨ho, ?_⟩
  refine ⟨_, tk, rfl, H _ (S.turn (upd_kb _ _ _) ?_)⟩
  rw [Heap.get?_update_self _ ho (by rfl)]
  rw [mapSeq_lst (ws := vs.eraseIdx k.toNat) (by simp), if_neg (by rw [List.length_eraseIdx_of_lt hlt]; lia)]
theorem s_item {l : Addr} {vs : List Value} {n : Nat} {k : Int} {u : Tok} {x : Value} {P : Unit → Heap → Prop} (S : St h₀ Y ((l, lst vs n) :: cs) env lo h) (hsz : vs.length ≤ sizeLine) (h0 : 0 ≤ k) (h1 : k < vs.length)
    (H : ∀ h', St h₀ Y ((l, lst (vs.set k.toNat x) n) :: cs) env lo h' → P () h') : Tr w z A (setItem (.ref l) (.int k u) x) h P := fun tk => by
  have ho : (Sh z h tk).heap.get? l = some (lst vs n) := S.cell (.head _)
  rw [sizeLine_eq] at hsz
  refine ki_setAt ho h0 (by lia) (by rw [List.size_toArray]; exact h1) ⟨_, tk, rfl, H _ (S.turn (upd_kb _ _ _) ?_)⟩
  rw [Heap.get?_update_self _ ho (by rfl)]
  rw [mapSeq_lst (ws := vs.set k.toNat x) (by apply Array.toList_inj.mp; simp), if_pos (by simp)]
theorem o_addL {l b : Addr} {vs ws : List Value} {n n2 : Nat} {P : Value → Heap → Prop} (S : St h₀ Y cs env lo h) (e1 : h.get? l = some (lst vs n)) (e2 : h.get? b = some (lst ws n2)) (hsz : vs.length + ws.length ≤ sizeLine)
    (H : ∀ a h', St h₀ Y ((a, lst (vs ++ ws) 0) :: cs) env lo h' → Keep h h' → newIn h h' a = some (lst (vs ++ ws) 0) → P (.ref a) h') : Tr w z A (binaryOp .Add (.ref l) (.ref b)) h P := fun tk => by
  have e : vs.toArray ++ ws.toArray = (vs ++ ws).toArray := by simp
  refine concat_meets ⟨_, e1, rfl⟩ ⟨_, e2, rfl⟩ noFill_list_add seq_list_add PySem.F.slot_list_add PySem.F.entry_list_add (PySem.F.args_list_add_2 _ _) (list_addW l b vs.toArray ws.toArray n n2 none none #[] #[] (by simpa using hsz)) ⟨e1, e2, ?_⟩
  rw [e]
  exact ⟨_, tk, rfl, H _ _ S.push (push_keep _ _) (push_new _ _)⟩
theorem k_listL {l : Addr} {vs : List Value} {n : Nat} {P : Value → Heap → Prop} (S : St h₀ Y cs env lo h) (e : h.get? l = some (lst vs n)) (hsz : vs.length ≤ sizeLine)
    (H : ∀ a c h', St h₀ Y ((a, lst vs c) :: cs) env lo h' → P (.ref a) h') : Tr w z A (call (.type "list") [.ref l]) h P := fun tk =>
  call_list_seq (hsz := by rw [List.size_toArray]; exact hsz) l (.inl rfl) e rfl rfl fun h' c' hk hD => ⟨h', tk, rfl, H _ c' _ (S.adopt (o := lst vs c') hk (newIn_of hD (get_size _)))⟩

/-- two names at once, from a tuple display: the stores come swapped -/
theorem x_assign2 {elts : List PySem.Expr} {k : Nat} {tpos pos : Pos} {value : PySem.Expr} {rest : List Stmt} {P : Flow → Heap → Prop} (x y : Str) (hh : A.handled = none)
    (H : Tr w z A (eval value env) h fun v h₁ => ∃ T a b n, v = .ref T ∧ h₁.get? T = some (tup [a, b] n) ∧ ∀ h₂, Keep h₁ h₂ → Tr w z A (storeName env y b) h₂ fun _ h₃ => Tr w z A (storeName env x a) h₃ fun _ h₄ => Tr w z A (execs rest env) h₄ P)
    (hs : swapsWithSole [.Tuple elts k tpos] value pos.line env = pure false := by rfl) (hw : swappedStores [.Tuple elts k tpos] value env = pure (some [x, y]) := by rfl) :
    Tr w z A (execs (.Assign [.Tuple elts k tpos] value pos :: rest) env) h P :=
  x_cons fun tk => Assign_Tuple_swapped (seqW (H tk) fun v h₁ tk₁ k₁ => by
    obtain ⟨T, a, b, n, rfl, hT, k₂⟩ := k₁
    refine wpAny_unpackItems_tuple (items := #[a, b]) hh (isT hT) fun h₂ hx => ?_
    have kp : Keep h₁ h₂ := fun c o e => hx c o (fun q => by have := Heap.lt_size e; rw [q] at this; exact Nat.lt_irrefl _ this) e
    refine wpAny_assignInOrder_more (wpAny_bindName (seqW (k₂ h₂ kp tk₁) fun _ h₃ tk₃ k₃ => ?_))
    exact wpAny_assignInOrder_more (wpAny_bindName (seqW (k₃ tk₃) fun _ h₄ tk₄ k₄ => wpAny_assignInOrder_none ⟨h₄, tk₄, rfl, k₄⟩))) hs hw
/-- names at once -/
theorem x_assignT {elts : List PySem.Expr} {k : Nat} {tpos pos : Pos} {value : PySem.Expr} {rest : List Stmt} {P : Flow → Heap → Prop}
    (H : Tr w z A (eval value env) h fun v h₁ => Tr w z A (assign (.Tuple elts k tpos) env v) h₁ fun _ h₂ => Tr w z A (execs rest env) h₂ P)
    (hs : swapsWithSole [.Tuple elts k tpos] value pos.line env = pure false := by rfl) (hw : swappedStores [.Tuple elts k tpos] value env = pure none := by rfl) :
    Tr w z A (execs (.Assign [.Tuple elts k tpos] value pos :: rest) env) h P :=
  x_cons fun tk => Assign_Tuple (seqW (H tk) fun v h₁ tk₁ k₁ => seqW (k₁ tk₁) fun _ h₂ tk₂ k₂ => ⟨h₂, tk₂, rfl, k₂⟩) hs hw
theorem a_tup2 {x y : Str} {p q tpos : Pos} {k n : Nat} {T : Addr} {a b : Value} {P : Unit → Heap → Prop} (hh : A.handled = none) (hT : h.get? T = some (tup [a, b] n))
    (H : ∀ h₂, Keep h h₂ → Tr w z A (storeName env x a) h₂ fun _ h₃ => Tr w z A (storeName env y b) h₃ P) : Tr w z A (assign (.Tuple [.Name x p, .Name y q] k tpos) env (.ref T)) h P := fun tk => by
  refine wpAny_assign_Tuple (items := #[a, b]) hh (isT hT) rfl rfl fun h₂ hx => ?_
  have kp : Keep h h₂ := fun c o e => hx c o (fun q => by have := Heap.lt_size (h := h) e; rw [q] at this; exact Nat.lt_irrefl _ this) e
  refine wpAny_assignInOrder_more (wpAny_assign_Name (seqW (H h₂ kp tk) fun _ h₃ tk₃ k₃ => ?_))
  exact wpAny_assignInOrder_more (wpAny_assign_Name (seqW (k₃ tk₃) fun _ h₄ tk₄ k₄ => wpAny_assignInOrder_none ⟨h₄, tk₄, rfl, k₄⟩))
theorem a_tup3 {x y v : Str} {p q r tpos : Pos} {k n : Nat} {T : Addr} {a b c : Value} {P : Unit → Heap → Prop} (hh : A.handled = none) (hT : h.get? T = some (tup [a, b, c] n))
    (H : ∀ h₂, Keep h h₂ → Tr w z A (storeName env x a) h₂ fun _ h₃ => Tr w z A (storeName env y b) h₃ fun _ h₄ => Tr w z A (storeName env v c) h₄ P) : Tr w z A (assign (.Tuple [.Name x p, .Name y q, .Name v r] k tpos) env (.ref T)) h P := fun tk => by
  refine wpAny_assign_Tuple (items := #[a, b, c]) hh (isT hT) rfl rfl fun h₂ hx => ?_
  have kp : Keep h h₂ := fun c o e => hx c o (fun q => by have := Heap.lt_size (h := h) e; rw [q] at this; exact Nat.lt_irrefl _ this) e
  refine wpAny_assignInOrder_more (wpAny_assign_Name (seqW (H h₂ kp tk) fun _ h₃ tk₃ k₃ => ?_))
  refine wpAny_assignInOrder_more (wpAny_assign_Name (seqW (k₃ tk₃) fun _ h₄ tk₄ k₄ => ?_))
  exact wpAny_assignInOrder_more (wpAny_assign_Name (seqW (k₄ tk₄) fun _ h₅ tk₅ k₅ => wpAny_assignInOrder_none ⟨h₅, tk₅, rfl, k₅⟩))

/-- a range -/
noncomputable abbrev rng (a b c : Int) (t u v : Tok) : Obj := { cls := .type "range", dict := none, data := .fields #[.int a t, .int b u, .int c v], slots := #[] }
theorem k_range1 {b : Int} {u : Tok} {P : Value → Heap → Prop} (S : St h₀ Y cs env lo h) (H : ∀ a h' t v, St h₀ Y ((a, rng 0 b 1 t u v) :: cs) env lo h' → P (.ref a) h') : Tr w z A (call (.type "range") [.int b u]) h P := fun tk =>
  call_range_1 ⟨_, _, rfl, H _ _ _ _ S.push⟩
theorem k_range2 {a b : Int} {t u : Tok} {P : Value → Heap → Prop} (S : St h₀ Y cs env lo h) (H : ∀ l h' v, St h₀ Y ((l, rng a b 1 t u v) :: cs) env lo h' → P (.ref l) h') : Tr w z A (call (.type "range") [.int a t, .int b u]) h P := fun tk =>
  call_range_2 ⟨_, _, rfl, H _ _ _ S.push⟩
theorem k_range3 {a b c : Int} {t u v : Tok} {P : Value → Heap → Prop} (S : St h₀ Y cs env lo h) (hc : c ≠ 0) (hc2 : c.natAbs < 1073741824) (H : ∀ l h', St h₀ Y ((l, rng a b c t u v) :: cs) env lo h' → P (.ref l) h') : Tr w z A (call (.type "range") [.int a t, .int b u, .int c v]) h P := fun tk =>
  call_range_3 hc ⟨_, _, rfl, H _ _ S.push⟩ (.inl (PyProof.noPylong_small hc2))
theorem k_listR {l : Addr} {b : Int} {t u v : Tok} {P : Value → Heap → Prop} (hh : A.handled = none) (S : St h₀ Y cs env lo h) (e : h.get? l = some (rng 0 b 1 t u v)) (h0 : 0 ≤ b) (hsz : b ≤ 16777216)
    (H : ∀ a h' vs c, IntsAre vs ((List.range b.toNat).map fun (i : Nat) => (i : Int)) → St h₀ Y ((a, lst vs c) :: cs) env lo h' → P (.ref a) h') : Tr w z A (call (.type "list") [.ref l]) h P := fun tk => by
  have hn : Builtin.Range.rangeSize 0 b 1 = (b.toNat : Int) := by unfold Builtin.Range.rangeSize; simp; lia
  refine call_list_range hh (show IsRange (Sh z h tk).heap l 0 b 1 t u v from e) (small_one (by lia) (by lia) (by lia) (by lia)) hn (by lia) fun h' tk' acc c hk hD hacc => ?_
  refine ⟨h', tk', rfl, H _ h' acc.toList c ?_ (S.adopt hk (newIn_of (by rw [hD]) (get_size _)))⟩
  obtain ⟨h1, h2⟩ := hacc
  have key : ∀ (n : Nat) (l : List Value) (k : Nat), l.length = n → (∀ (j : Nat) v, l[j]? = some v → ∃ t, v = Value.int ((k : Int) + (j : Int)) t) → IntsAre l ((List.range' k n).map fun (i : Nat) => (i : Int)) := by
    intro n
    induction n with
    | zero => intro l k hl _; rw [List.eq_nil_of_length_eq_zero hl]; exact .nil
    | succ n ih =>
      intro l k hl hv
      cases l with
      | nil => simp at hl
      | cons v r =>
        obtain ⟨t', rfl⟩ := hv 0 v rfl
        rw [List.range'_succ, List.map_cons]
        have e0 : ((k : Int) + ((0 : Nat) : Int)) = (k : Int) := by lia
        rw [e0]
        refine .cons _ _ (ih r (k + 1) (by simpa using hl) fun j v' hj => ?_)
        obtain ⟨t'', rfl⟩ := hv (j + 1) v' (by simpa using hj)
        exact ⟨t'', by congr 1; lia⟩
  rw [List.range_eq_range']
  refine key _ _ 0 (by simpa using h1) fun j v hj => ?_
  obtain ⟨t', e'⟩ := h2 j v (by simpa using hj)
  exact ⟨t', by rw [e']; congr 1; lia⟩
end
end
section -- Loop
set_option maxRecDepth 10000

section
variable {w : World} {z : Shared} {A : Around} {h₀ : Heap} {Y : Gh} {cs : List (Addr × Obj)} {env : Env} {lo : List (Str × Value)} {h : Heap}

/-- where a loop's turn has ended -/
noncomputable def TurnEnd (P : Flow → Heap → Prop) (N : Heap → Prop) (f : Flow) (h' : Heap) : Prop := match f with
  | .ret v => P (.ret v) h'
  | .brk => P .next h'
  | _ => N h'

noncomputable def LoopR (z : Shared) (P : Flow → Heap → Prop) (r : Result) (s' : Shared) : Prop := match r with
  | .ok f => Po z P f s'
  | .error _ => False

theorem loop_code {tgt : PySem.Expr} {body : List Stmt} {I : Addr} {fp : List Addr} {n : Nat} {V : Nat → Value → Prop} {Q : Nat → Heap → Prop} {P : Flow → Heap → Prop} {oI₀ : Obj}
    (W : Walks PG w A I fp [I] n V Q) (hob : ∀ i h, Q i h → ∃ o, h.get? I = some o) (hfp : ∀ b ∈ fp, b ≠ I → (∃ o, h₀.get? b = some o) ∨ ∃ o, Y b = some o)
    (hown : ∀ i v h' tk, V i v → Q (i + 1) h' → wpAny (model PG w) A (letOwnedTupleGo tgt (.ref I) v) (fun _ s' => s' = Sh z h' tk) No (Sh z h' tk))
    (J : Nat → Gh → List (Addr × Obj) → List (Str × Value) → Prop) (S : St h₀ Y ((I, oI₀) :: cs) env lo h) (hQ : Q 0 h) (hJ : J 0 Y cs lo)
    (turn : ∀ i v Y' cs' lo' h' oI, i < n → V i v → Le Y Y' → J i Y' cs' lo' → St h₀ Y' ((I, oI) :: cs') env lo' h' →
      Tr w z A (assign tgt env v) h' fun _ h₁ => Tr w z A (execs body env) h₁ (TurnEnd P fun h₂ => ∃ Y₂ cs₂ lo₂, St h₀ Y₂ ((I, oI) :: cs₂) env lo₂ h₂ ∧ Le Y' Y₂ ∧ J (i + 1) Y₂ cs₂ lo₂))
    (done : ∀ Y' cs' lo' h', Le Y Y' → J n Y' cs' lo' → St h₀ Y' cs' env lo' h' → P .next h') (tk : Nat) :
    codeAny (model PG w) A (.forLoop tgt (.ref I) body [] env) (LoopR z P) (Sh z h tk) := by
  refine codeAny_forLoop_any
    (fun k s' => ∃ i Y' cs' lo' h' tk' oI, s' = Sh z h' tk' ∧ Q i h' ∧ St h₀ Y' ((I, oI) :: cs') env lo' h' ∧ Le Y Y' ∧ J i Y' cs' lo' ∧ i ≤ n ∧ k = n + 1 - i) ?_ (n + 1)
    ⟨0, Y, cs, lo, h, tk, oI₀, rfl, hQ, S, Le.refl Y, hJ, Nat.zero_le _, rfl⟩
  rintro k s' ⟨i, Y', cs', lo', h', tk', oI, rfl, hQi, S', hle, hJi, hi, rfl⟩
  by_cases hlt : i < n
  · refine W.item i _ _ _ hlt hQi fun v h₁ tk₁ hV hQ₁ hk₁ => ?_
    obtain ⟨o₁, ho₁⟩ := hob _ _ hQ₁
    have kb : KeepBut I h' h₁ := fun b o hb e => hk₁ b o (fun q => hb (List.mem_singleton.mp q)) e
    have S₁ := S'.turn kb ho₁
    refine wpAny_mono (hown i v h₁ tk₁ hV hQ₁) (fun _ s₂ e => ?_) fun _ _ x => x.elim
    subst e
    refine wpAny_mono (turn i v Y' cs' lo' h₁ o₁ hlt hV hle hJi S₁ tk₁) (fun _ s₂ x => ?_) fun _ _ x => x.elim
    obtain ⟨h₂, tk₂, rfl, k₂⟩ := x
    refine wpAny_mono (k₂ tk₂) (fun f s₃ x => ?_) fun _ _ x => x.elim
    obtain ⟨h₃, tk₃, rfl, k₃⟩ := x
    have fin : (∃ Y₂ cs₂ lo₂, St h₀ Y₂ ((I, o₁) :: cs₂) env lo₂ h₃ ∧ Le Y' Y₂ ∧ J (i + 1) Y₂ cs₂ lo₂) →
        ∃ m, m < n + 1 - i ∧ ∃ i' Y' cs' lo' h' tk' oI, Sh z h₃ tk₃ = Sh z h' tk' ∧ Q i' h' ∧ St h₀ Y' ((I, oI) :: cs') env lo' h' ∧ Le Y Y' ∧ J i' Y' cs' lo' ∧ i' ≤ n ∧ m = n + 1 - i' := by
      rintro ⟨Y₂, cs₂, lo₂, S₂, hle₂, hJ₂⟩
      refine ⟨n + 1 - (i + 1), by lia, i + 1, Y₂, cs₂, lo₂, h₃, tk₃, o₁, rfl, ?_, S₂, hle.trans hle₂, hJ₂, hlt, rfl⟩
      refine W.frame _ _ _ hQ₁ fun b hb o e => ?_
      by_cases hbI : b = I
      · subst hbI
        rw [ho₁] at e
        cases e
        exact S₂.cell (.head _)
      · rcases hfp b hb hbI with ⟨o', h1⟩ | ⟨o', h1⟩
        · have h2 := S₁.base b o' h1
          rw [h2] at e
          rw [← Option.some.inj e]
          exact S₂.base b o' h1
        · have h2 := S₁.get (hle b o' h1)
          rw [h2] at e
          rw [← Option.some.inj e]
          exact S₂.get (hle₂ b o' (hle b o' h1))
    cases f with
    | ret v => exact ⟨h₃, tk₃, rfl, k₃⟩
    | brk => exact ⟨h₃, tk₃, rfl, k₃⟩
    | next => exact fin k₃
    | cont => exact fin k₃
  · have hin : i = n := by lia
    subst hin
    refine W.done _ _ _ hQi fun h₁ tk₁ hk₁ => wpAny_execs_nil ⟨h₁, tk₁, rfl, done Y' cs' lo' h₁ hle hJi ?_⟩
    have kb : KeepBut I h' h₁ := fun b o hb e => hk₁ b o (fun q => hb (List.mem_singleton.mp q)) e
    have c := S'.cel _ (.head _)
    exact S'.drop.off kb c.2.1 c.2.2 (fun p hp => ((List.pairwise_cons.mp S'.nd).1 p hp).symm) (S'.notFr (p := (I, oI)) (.head _))

/-- a loop over a value -/
noncomputable def ForIn (w : World) (z : Shared) (A : Around) (env : Env) (tgt : PySem.Expr) (body : List Stmt) (P : Flow → Heap → Prop) (xv : Value) (h : Heap) : Prop :=
  ∀ tk, wpAny (model PG w) A (pyIter xv) (fun it s₂ => codeAny (model PG w) A (.forLoop tgt it body [] env) (LoopR z P) s₂) No (Sh z h tk)

theorem x_for {tgt iter : PySem.Expr} {body : List Stmt} {pos : Pos} {rest : List Stmt} {P : Flow → Heap → Prop}
    (H : Tr w z A (eval iter env) h (ForIn w z A env tgt body fun f h' => match f with | .next => Tr w z A (execs rest env) h' P | f => P f h'))
    (hs : ∀ x, foldedSetIterable iter env x = pure x := by intro _; rfl) : Tr w z A (execs (.For tgt iter body [] pos :: rest) env) h P :=
  x_cons fun tk => wpAny_For (seqW (H tk) fun xv h₁ tk₁ k₁ => wpAny_mono (k₁ tk₁) (fun it s₂ k₂ => codeAny_mono k₂ fun r s' y => by
    cases r with
    | ok f => exact y
    | error e => exact y.elim) fun _ _ e => e) hs

theorem a_name {x : Str} {p : Pos} {v : Value} {P : Unit → Heap → Prop} (H : Tr w z A (storeName env x v) h P) : Tr w z A (assign (.Name x p) env v) h P := fun tk => wpAny_assign_Name (H tk)
theorem in_range {x : Str} {px : Pos} {body : List Stmt} {r : Addr} {a b c : Int} {t u v : Tok} {n : Nat} {P : Flow → Heap → Prop} (hh : A.handled = none) (S : St h₀ Y cs env lo h) (hr : h.get? r = some (rng a b c t u v))
    (hsmall : Builtin.Range.small a b c = true) (hn : Builtin.Range.rangeSize a b c = (n : Int))
    (J : Nat → Gh → List (Addr × Obj) → List (Str × Value) → Prop) (hJ : J 0 Y cs lo)
    (turn : ∀ i t Y' cs' lo' h' I oI, i < n → Le Y Y' → J i Y' cs' lo' → St h₀ Y' ((I, oI) :: cs') env lo' h' →
      Tr w z A (storeName env x (.int (a + i * c) t)) h' fun _ h₁ => Tr w z A (execs body env) h₁ (TurnEnd P fun h₂ => ∃ Y₂ cs₂ lo₂, St h₀ Y₂ ((I, oI) :: cs₂) env lo₂ h₂ ∧ Le Y' Y₂ ∧ J (i + 1) Y₂ cs₂ lo₂))
    (done : ∀ Y' cs' lo' h', Le Y Y' → J n Y' cs' lo' → St h₀ Y' cs' env lo' h' → P .next h') : ForIn w z A env (.Name x px) body P (.ref r) h := fun tk => by
  refine wpAny_pyIter_range (s := Sh z h tk) hr hsmall ?_
  refine loop_code (W := Walks.range hh h.objs.size a c n) (fun i h' e => ⟨_, e⟩) (fun b hb hne => absurd (List.mem_singleton.mp hb) hne) (fun i v h' tk' _ _ => (show wpAny (model PG w) A (Pure.pure ()) (fun _ s' => s' = Sh z h' tk') No (Sh z h' tk') from wpAny_pure (a := ()) rfl)) J S.push ?_ hJ ?_ done _
  · show IsRangeIter _ _ _ _ _
    rw [← hn]
    simpa using Heap.get?_push_size h (o := { cls := .type "range_iterator", data := .fields #[rawInt a, rawInt (Builtin.Range.rangeSize a b c), rawInt c] }) rfl
  · rintro i v Y' cs' lo' h' oI hi ⟨t', rfl⟩ hle hJ' S'
    exact a_name (turn i t' Y' cs' lo' h' _ oI hi hle hJ' S')
theorem in_list {tgt : PySem.Expr} {body : List Stmt} {l : Addr} {vs : List Value} {nn : Nat} {P : Flow → Heap → Prop} (hh : A.handled = none) (S : St h₀ Y cs env lo h) (hl : h₀.get? l = some (lst vs nn) ∨ Y l = some (lst vs nn))
    (htgt : (∃ x p, tgt = .Name x p) ∨ (∃ es k p, tgt = .Tuple es k p) ∧ ∀ v ∈ vs, ∃ T, v = .ref T)
    (J : Nat → Gh → List (Addr × Obj) → List (Str × Value) → Prop) (hJ : J 0 Y cs lo)
    (turn : ∀ i v Y' cs' lo' h' I oI, vs[i]? = some v → Le Y Y' → J i Y' cs' lo' → St h₀ Y' ((I, oI) :: cs') env lo' h' →
      Tr w z A (assign tgt env v) h' fun _ h₁ => Tr w z A (execs body env) h₁ (TurnEnd P fun h₂ => ∃ Y₂ cs₂ lo₂, St h₀ Y₂ ((I, oI) :: cs₂) env lo₂ h₂ ∧ Le Y' Y₂ ∧ J (i + 1) Y₂ cs₂ lo₂))
    (done : ∀ Y' cs' lo' h', Le Y Y' → J vs.length Y' cs' lo' → St h₀ Y' cs' env lo' h' → P .next h') : ForIn w z A env tgt body P (.ref l) h := fun tk => by
  have hgl : h.get? l = some (lst vs nn) := hl.elim (S.base _ _) S.get
  refine wpAny_pyIter_list (s := Sh z h tk) (isL hgl) ?_
  have hne : l ≠ h.objs.size := fun q => by have := Heap.lt_size hgl; rw [q] at this; exact Nat.lt_irrefl _ this
  have W := Walks.list (prog := PG) (w := w) hh h.objs.size l hne vs.toArray
  rw [List.size_toArray] at W
  refine loop_code (W := W) (fun i h' e => let ⟨o, ho, _⟩ := e.1; ⟨o, ho⟩) (fun b hb hne => ?_) (fun i v h' tk' hV hQ => ?_) J S.push ⟨⟨_, Heap.get?_push_size _ rfl, rfl, rfl⟩, isL (push_keep _ _ _ _ hgl)⟩ hJ ?_ done _
  · simp only [List.mem_cons, List.not_mem_nil, or_false] at hb
    rcases hb with rfl | rfl
    · exact absurd rfl hne
    · exact hl.elim (fun e => .inl ⟨_, e⟩) fun e => .inr ⟨_, e⟩
  · rcases htgt with ⟨x, p, rfl⟩ | ⟨⟨es, k, p, rfl⟩, hT⟩
    · exact (show wpAny (model PG w) A (Pure.pure ()) (fun _ s' => s' = Sh z h' tk') No (Sh z h' tk') from wpAny_pure (a := ()) rfl)
    · have hv : vs[i]? = some v := by simpa using hV
      obtain ⟨T, rfl⟩ := hT v (List.mem_of_getElem? hv)
      exact wpAny_letOwnedTupleGo_listiter hQ.1 rfl
  · rintro i v Y' cs' lo' h' oI hi hV hle hJ' S'
    exact turn i v Y' cs' lo' h' _ oI (by simpa using hV) hle hJ' S'

/-- a while -/
theorem x_while {test : PySem.Expr} {body : List Stmt} {pos : Pos} {rest : List Stmt} {P : Flow → Heap → Prop}
    (J : Nat → Gh → List (Addr × Obj) → List (Str × Value) → Prop) (n : Nat) (S : St h₀ Y cs env lo h) (hJ : J n Y cs lo)
    (turn : ∀ k Y' cs' lo' h', Le Y Y' → J k Y' cs' lo' → St h₀ Y' cs' env lo' h' →
      Tr w z A (isTrue test env (eval test env)) h' fun b h₁ => (b = true → Tr w z A (execs body env) h₁ (TurnEnd (fun f h' => match f with | .next => Tr w z A (execs rest env) h' P | f => P f h') fun h₂ => ∃ m, m < k ∧ ∃ Y₂ cs₂ lo₂, St h₀ Y₂ cs₂ env lo₂ h₂ ∧ Le Y' Y₂ ∧ J m Y₂ cs₂ lo₂)) ∧
        (b = false → Tr w z A (execs rest env) h₁ P)) : Tr w z A (execs (.While test body [] pos :: rest) env) h P := by
  refine x_cons fun tk => wpAny_While (codeAny_mono (R := LoopR z fun f h' => match f with | .next => Tr w z A (execs rest env) h' P | f => P f h') ?_ fun r s' y => by
    cases r with
    | ok f => exact y
    | error e => exact y.elim)
  refine codeAny_whileLoop (fun k s' => ∃ Y' cs' lo' h' tk', s' = Sh z h' tk' ∧ St h₀ Y' cs' env lo' h' ∧ Le Y Y' ∧ J k Y' cs' lo') ?_ n ⟨Y, cs, lo, h, tk, rfl, S, Le.refl Y, hJ⟩
  rintro k s' ⟨Y', cs', lo', h', tk', rfl, S', hle, hJ'⟩
  refine wpAny_mono (turn k Y' cs' lo' h' hle hJ' S' tk') (fun b s₁ x => ?_) fun _ _ x => x.elim
  obtain ⟨h₁, tk₁, rfl, k₁⟩ := x
  cases b with
  | false => exact wpAny_execs_nil ⟨h₁, tk₁, rfl, k₁.2 rfl⟩
  | true =>
    refine wpAny_mono (k₁.1 rfl tk₁) (fun f s₂ x => ?_) fun _ _ x => x.elim
    obtain ⟨h₂, tk₂, rfl, k₂⟩ := x
    have fin : (∃ m, m < k ∧ ∃ Y₂ cs₂ lo₂, St h₀ Y₂ cs₂ env lo₂ h₂ ∧ Le Y' Y₂ ∧ J m Y₂ cs₂ lo₂) → ∃ m, m < k ∧ ∃ Y' cs' lo' h' tk', Sh z h₂ tk₂ = Sh z h' tk' ∧ St h₀ Y' cs' env lo' h' ∧ Le Y Y' ∧ J m Y' cs' lo' := by
      rintro ⟨m, hm, Y₂, cs₂, lo₂, S₂, hle₂, hJ₂⟩
      exact ⟨m, hm, Y₂, cs₂, lo₂, h₂, tk₂, rfl, S₂, hle.trans hle₂, hJ₂⟩
    cases f with
    | ret v => exact ⟨h₂, tk₂, rfl, k₂⟩
    | brk => exact ⟨h₂, tk₂, rfl, k₂⟩
    | next => exact fin k₂
    | cont => exact fin k₂
end
end
section -- F0
set_option maxRecDepth 100000
theorem fill : Mine.hd.heap_39 = Mine.hd.heap_39 ∧ PySem.Challenge.rw_sy0065_01 = PySem.Challenge.rw_sy0065_01 := by
  k_fill
  exact ⟨rfl, rfl⟩
theorem ex_of {K : Frag} {f : Addr} {o : Obj} {fd : FuncData} (h : K.lookup f = some o) (hd : o.data = .func fd) : ∃ o fd, K.lookup f = some o ∧ o.data = .func fd := ⟨o, fd, h, hd⟩
section
variable (w : World)
theorem nm_is_due : nsIn (hd.heap_39 w.params) mainGlobals (Str.ofString "is_due") = some (some (.ref 21)) := by k_is
theorem f_21 : ∃ o fd, (hd.heap_39 w.params).lookup 21 = some o ∧ o.data = .func fd := by
  refine' ex_of ?a ?b
  case a => k_is
  case b => rfl
theorem nm_cheapest : nsIn (hd.heap_39 w.params) mainGlobals (Str.ofString "cheapest") = some (some (.ref 28)) := by k_is
theorem f_28 : ∃ o fd, (hd.heap_39 w.params).lookup 28 = some o ∧ o.data = .func fd := by
  refine' ex_of ?a ?b
  case a => k_is
  case b => rfl
theorem nm_cheapest_behind : nsIn (hd.heap_39 w.params) mainGlobals (Str.ofString "cheapest_behind") = some (some (.ref 33)) := by k_is
theorem f_33 : ∃ o fd, (hd.heap_39 w.params).lookup 33 = some o ∧ o.data = .func fd := by
  refine' ex_of ?a ?b
  case a => k_is
  case b => rfl
theorem nm_cheapest_pairs : nsIn (hd.heap_39 w.params) mainGlobals (Str.ofString "cheapest_pairs") = some (some (.ref 40)) := by k_is
theorem f_40 : ∃ o fd, (hd.heap_39 w.params).lookup 40 = some o ∧ o.data = .func fd := by
  refine' ex_of ?a ?b
  case a => k_is
  case b => rfl
theorem nm_fitting_ahead : nsIn (hd.heap_39 w.params) mainGlobals (Str.ofString "fitting_ahead") = some (some (.ref 47)) := by k_is
theorem f_47 : ∃ o fd, (hd.heap_39 w.params).lookup 47 = some o ∧ o.data = .func fd := by
  refine' ex_of ?a ?b
  case a => k_is
  case b => rfl
theorem nm_fitting_behind : nsIn (hd.heap_39 w.params) mainGlobals (Str.ofString "fitting_behind") = some (some (.ref 54)) := by k_is
theorem f_54 : ∃ o fd, (hd.heap_39 w.params).lookup 54 = some o ∧ o.data = .func fd := by
  refine' ex_of ?a ?b
  case a => k_is
  case b => rfl
theorem nm_in_turn : nsIn (hd.heap_39 w.params) mainGlobals (Str.ofString "in_turn") = some (some (.ref 61)) := by k_is
theorem f_61 : ∃ o fd, (hd.heap_39 w.params).lookup 61 = some o ∧ o.data = .func fd := by
  refine' ex_of ?a ?b
  case a => k_is
  case b => rfl
theorem nm_homes_of : nsIn (hd.heap_39 w.params) mainGlobals (Str.ofString "homes_of") = some (some (.ref 66)) := by k_is
theorem f_66 : ∃ o fd, (hd.heap_39 w.params).lookup 66 = some o ∧ o.data = .func fd := by
  refine' ex_of ?a ?b
  case a => k_is
  case b => rfl
theorem nm_law_abacus : nsIn (hd.heap_39 w.params) mainGlobals (Str.ofString "_law_abacus") = some (some (.ref 73)) := by k_is
theorem f_73 : ∃ o fd, (hd.heap_39 w.params).lookup 73 = some o ∧ o.data = .func fd := by
  refine' ex_of ?a ?b
  case a => k_is
  case b => rfl
theorem nm_law_bead : nsIn (hd.heap_39 w.params) mainGlobals (Str.ofString "_law_bead") = some (some (.ref 80)) := by k_is
theorem f_80 : ∃ o fd, (hd.heap_39 w.params).lookup 80 = some o ∧ o.data = .func fd := by
  refine' ex_of ?a ?b
  case a => k_is
  case b => rfl
theorem nm_law_spoilt : nsIn (hd.heap_39 w.params) mainGlobals (Str.ofString "_law_spoilt") = some (some (.ref 87)) := by k_is
theorem f_87 : ∃ o fd, (hd.heap_39 w.params).lookup 87 = some o ∧ o.data = .func fd := by
  refine' ex_of ?a ?b
  case a => k_is
  case b => rfl
theorem nm_law_joined : nsIn (hd.heap_39 w.params) mainGlobals (Str.ofString "_law_joined") = some (some (.ref 92)) := by k_is
theorem f_92 : ∃ o fd, (hd.heap_39 w.params).lookup 92 = some o ∧ o.data = .func fd := by
  refine' ex_of ?a ?b
  case a => k_is
  case b => rfl
theorem nm_law_due : nsIn (hd.heap_39 w.params) mainGlobals (Str.ofString "_law_due") = some (some (.ref 97)) := by k_is
theorem f_97 : ∃ o fd, (hd.heap_39 w.params).lookup 97 = some o ∧ o.data = .func fd := by
  refine' ex_of ?a ?b
  case a => k_is
  case b => rfl
theorem nm_law_whole : nsIn (hd.heap_39 w.params) mainGlobals (Str.ofString "_law_whole") = some (some (.ref 102)) := by k_is
theorem f_102 : ∃ o fd, (hd.heap_39 w.params).lookup 102 = some o ∧ o.data = .func fd := by
  refine' ex_of ?a ?b
  case a => k_is
  case b => rfl
theorem nm_law_long_right : nsIn (hd.heap_39 w.params) mainGlobals (Str.ofString "_law_long_right") = some (some (.ref 107)) := by k_is
theorem f_107 : ∃ o fd, (hd.heap_39 w.params).lookup 107 = some o ∧ o.data = .func fd := by
  refine' ex_of ?a ?b
  case a => k_is
  case b => rfl
theorem nm_LOOK : nsIn (hd.heap_39 w.params) mainGlobals (Str.ofString "LOOK") = some (some (.int 8 189)) := by k_is
theorem nm_MOST : nsIn (hd.heap_39 w.params) mainGlobals (Str.ofString "MOST_PAIRS") = some (some (.int 250000 191)) := by k_is
theorem nm_len : nsIn (hd.heap_39 w.params) mainGlobals (Str.ofString "len") = some none := by k_is
theorem b_len : bootBuiltins (Str.ofString "len") = some (.builtin "len") := by boot_by_name
theorem nm_range : nsIn (hd.heap_39 w.params) mainGlobals (Str.ofString "range") = some none := by k_is
theorem b_range : bootBuiltins (Str.ofString "range") = some (.type "range") := by boot_by_name
theorem nm_int : nsIn (hd.heap_39 w.params) mainGlobals (Str.ofString "int") = some none := by k_is
theorem b_int : bootBuiltins (Str.ofString "int") = some (.type "int") := by boot_by_name
theorem nm_list : nsIn (hd.heap_39 w.params) mainGlobals (Str.ofString "list") = some none := by k_is
theorem b_list : bootBuiltins (Str.ofString "list") = some (.type "list") := by boot_by_name
theorem nm_dict : nsIn (hd.heap_39 w.params) mainGlobals (Str.ofString "dict") = some none := by k_is
theorem b_dict : bootBuiltins (Str.ofString "dict") = some (.type "dict") := by boot_by_name
theorem nm_min : nsIn (hd.heap_39 w.params) mainGlobals (Str.ofString "min") = some none := by k_is
theorem b_min : bootBuiltins (Str.ofString "min") = some (.builtin "min") := by boot_by_name
theorem nm_max : nsIn (hd.heap_39 w.params) mainGlobals (Str.ofString "max") = some none := by k_is
theorem b_max : bootBuiltins (Str.ofString "max") = some (.builtin "max") := by boot_by_name
end
theorem sz {n : Nat} (h : Nat.ble n 16777216 = true) : n ≤ sizeLine := by
  rw [sizeLine_eq]
  exact Nat.le_of_ble_eq_true h
section
variable {w : World} {z : Shared} {A : Around} {h : Heap} {env : Env} {P : Value → Heap → Prop} {pos : Pos}
theorem w_fun1 {f : Addr} {e : PySem.Expr} {rest : List PySem.Expr} (hk : ∃ o fd, (hd.heap_39 w.params).lookup f = some o ∧ o.data = .func fd) {h₀ : Heap} (C : Cx w h₀)
    (H : Tr w z A (spliced (backTo pos (starEach (e :: rest) env))) h fun vs h₁ => (∃ Y cs lo, St h₀ Y cs env lo h₁) ∧ Tr w z A (call (.ref f) vs) h₁ P)
    (he : starEach (e :: rest) env = (false, eval e env) :: starEach rest env := by rfl) :
    Tr w z A (callWith pos (.ref f) [] (backTo pos (starEach (e :: rest) env)) []) h P := by
  obtain ⟨o, fd, h1, h2⟩ := hk
  exact w_fun h1 h2 (H.mono fun vs h₁ k => ⟨let ⟨_, _, _, S⟩ := k.1; (C.keeps S.base).k, k.2⟩) he
end
end
section -- Comp
set_option maxRecDepth 10000

/-- a comprehension's own environment -/
noncomputable def cenvOf (scope : Scope) (cl : List (Str × Addr)) (env : Env) (C : Addr) : Env :=
  { scope := relabel scope env, locals := C, globals := env.globals, cells := cellsFrom (C + 1) scope.names cl, qual := env.qual, func := none, code := env.code, frame := env.frame, builtins := env.builtins }

theorem cf_get {x : Str} {c : Addr} : ∀ (names : List (Str × NameKind)) (n : Nat) (acc : List (Str × Addr)), (cellsFrom n names acc).lookup x = some c → n ≤ c ∨ acc.lookup x = some c
  | [], _, _, e => .inr e
  | (y, k) :: r, n, acc, e => by
    unfold cellsFrom at e
    split at e
    · rcases cf_get r _ _ e with h | h
      · exact .inl (by lia)
      · rw [List.lookup_cons] at h
        split at h
        · cases h; exact .inl (Nat.le_refl _)
        · exact .inr h
    · exact cf_get r _ _ e
theorem cf_inj : ∀ (names : List (Str × NameKind)) (n : Nat) (acc : List (Str × Addr)), (∀ x c, acc.lookup x = some c → c < n) → (∀ x y c, acc.lookup x = some c → acc.lookup y = some c → x = y) →
    ∀ x y c, (cellsFrom n names acc).lookup x = some c → (cellsFrom n names acc).lookup y = some c → x = y
  | [], _, _, _, hi => hi
  | (u, k) :: r, n, acc, hb, hi => by
    unfold cellsFrom
    split
    · refine cf_inj r (n + 1) _ (fun x c e => ?_) fun x y c e1 e2 => ?_
      · rw [List.lookup_cons] at e
        split at e
        · cases e; exact Nat.lt_succ_self _
        · exact Nat.lt_succ_of_lt (hb x c e)
      · rw [List.lookup_cons] at e1 e2
        split at e1
        · rename_i q1
          split at e2
          · rename_i q2; rw [eq_of_beq q1, eq_of_beq q2]
          · cases e1; exact absurd (hb _ _ e2) (Nat.lt_irrefl _)
        · split at e2
          · cases e2; exact absurd (hb _ _ e1) (Nat.lt_irrefl _)
          · exact hi x y c e1 e2
    · exact cf_inj r n acc hb hi
theorem cf_cell {x : Str} {c : Addr} : ∀ (names : List (Str × NameKind)) (h : Heap) (acc : List (Str × Addr)), (cellsFrom h.objs.size names acc).lookup x = some c → acc.lookup x = some c ∨ ∃ v, (pushCells h names).IsCell c v
  | [], _, _, e => .inl e
  | (y, k) :: r, h, acc, e => by
    unfold cellsFrom at e
    unfold pushCells
    split at e
    · rename_i hk
      rw [if_pos hk]
      have := cf_cell r (h.push { cls := .type "cell", data := .cell none }) ((y, h.objs.size) :: acc) (by rw [Heap.size_push]; exact e)
      rcases this with h1 | h1
      · rw [List.lookup_cons] at h1
        split at h1
        · cases h1
          exact .inr ⟨none, _, pushCells_keeps r _ _ _ (Heap.get?_push_size _ rfl), rfl⟩
        · exact .inl h1
      · exact .inr h1
    · rename_i hk
      rw [if_neg hk]
      exact cf_cell r h acc e

section
variable {w : World} {z : Shared} {A : Around} {h₀ g : Heap} {Y : Gh} {cs mu : List (Addr × Obj)} {env : Env} {lo lc : List (Str × Value)} {h : Heap}

theorem newEnvComp {M : Model} {E : Value → Shared → Prop} {s : Shared} {scope : Scope} {cl : List (Str × Addr)} {Q : Env → Shared → Prop}
    (hQ : Q { scope := scope, locals := s.heap.objs.size, globals := env.globals, cells := cellsFrom (s.heap.objs.size + 1) scope.names cl, qual := env.qual, func := none, code := env.code, frame := env.frame, builtins := env.builtins }
      { s with heap := pushCells (s.heap.push { cls := .type "dict", data := .dict #[] }) scope.names }) :
    wpAny M A (newFunctionEnv scope env.globals cl [] env.qual none .none (some env)) Q E s := by
  simp only [newFunctionEnv, Option.isSome_some, if_true]
  refine wpAny_bind (wpAny_alloc ?_)
  refine wpAny_bind (wpAny_layCells _ (fun name kind cells => by cases hkc : kind == NameKind.cell <;> simp [hkc]) _ _ _ _ ?_)
  rw [show ({ s with heap := s.heap.push { cls := .type "dict", data := .dict #[] } } : Shared).heap.objs.size = s.heap.objs.size + 1 from Heap.size_push ..]
  rw [List.forIn_nil]
  exact wpAny_bind (wpAny_pure (wpAny_pure hQ))

/-- a state without a frame -/
structure Fz (g : Heap) (Y : Gh) (cs : List (Addr × Obj)) (h : Heap) : Prop where
  base : Keep g h
  yng : ∀ b o, Y b = some o → h.get? b = some o ∧ g.get? b = none
  cel : ∀ p ∈ cs, h.get? p.1 = some p.2 ∧ g.get? p.1 = none ∧ Y p.1 = none
  nd : cs.Pairwise fun p q => p.1 ≠ q.1
theorem St.fz (S : St g Y cs env lo h) : Fz g Y cs h := ⟨S.base, S.yng, S.cel, S.nd⟩
theorem St.fzBut {h' : Heap} (S : St g Y cs env lo h) (hs : Heap.SameBut env.locals h h') : Fz g Y cs h' := by
  have k := sameBut_kb hs
  have hb := S.ownL
  exact ⟨fun b o e => k b o (fun q => by rw [q, hb.1] at e; cases e) (S.base b o e), fun b o e => ⟨k b o (fun q => by rw [q, hb.2.1] at e; cases e) (S.yng b o e).1, (S.yng b o e).2⟩,
    fun p hp => ⟨k _ _ (hb.2.2 p hp) (S.cel p hp).1, (S.cel p hp).2⟩, S.nd⟩
theorem Fz.le (F : Fz g Y cs h) : Le Y (newIn g h) := fun _ _ e => newIn_of (F.yng _ _ e).1 (F.yng _ _ e).2
theorem Fz.new (F : Fz g Y cs h) {b : Addr} {o : Obj} (e : (b, o) ∈ cs) : newIn g h b = some o := newIn_of (F.cel _ e).1 (F.cel _ e).2.1

/-- what is hidden from the base of a comprehension: the things of ours that it may turn -/
structure Hid (g h : Heap) (mu : List (Addr × Obj)) : Prop where
  keep : Keep g h
  none : ∀ p ∈ mu, g.get? p.1 = none
  rest : ∀ b o, h.get? b = some o → (∀ p ∈ mu, p.1 ≠ b) → g.get? b = some o
theorem Hid.nil (h : Heap) : Hid h h [] := ⟨Keep.refl h, fun _ hp => (nomatch hp), fun _ _ e _ => e⟩
theorem Hid.one {h : Heap} {a : Addr} {o : Obj} : Hid (h.hide a) h [(a, o)] :=
  ⟨fun _ _ e => Heap.of_hide e, fun p hp => by rw [List.mem_singleton.mp hp]; exact Heap.hide_self _ _, fun b ob e hn => hide_get? (fun q => hn _ (.head _) q.symm) e⟩

theorem ns_empty (h : Heap) : (h.push { cls := .type "dict", data := .dict #[] }).Ns h.objs.size fun _ => none := Heap.Ns.new ..

theorem comp_enter {scope : Scope} {cl : List (Str × Addr)} {I D : Addr} {oI : Obj} {h₂ h₃ : Heap} (S : St h₀ Y cs env lo h) (hh : Hid g h mu) (hmu : ∀ p ∈ mu, p ∈ cs) (hmnd : mu.Pairwise fun p q => p.1 ≠ q.1)
    (kI : Keep h h₂) (eI : newIn h h₂ I = some oI) (e3 : h₃ = h₂.push (lst [] 0)) (eD : D = h₂.objs.size)
    (hcl : ∀ p ∈ cl, env.cells.lookup p.1 = some p.2 ∧ env.kindOf p.1 = some .cell) (hkind : scope.kind = .function)
    (hlc : ∀ C, ∀ p ∈ lc, lo.lookup p.1 = some p.2 ∧ env.kindOf p.1 = some .cell ∧ (cenvOf scope cl env C).kindOf p.1 = some .cell ∧ (cenvOf scope cl env C).cells.lookup p.1 = env.cells.lookup p.1) :
    St g (fun _ => none) ((I, oI) :: (D, lst [] 0) :: mu) (cenvOf scope cl env h₃.objs.size) lc (pushCells (h₃.push { cls := .type "dict", data := .dict #[] }) scope.names) := by
  obtain ⟨eI1, eI2⟩ := newIn_get eI
  have kD : Keep h₂ h₃ := e3 ▸ push_keep _ _
  have k3 : Keep h h₃ := kI.trans kD
  have k4 : Keep h₃ (pushCells (h₃.push { cls := .type "dict", data := .dict #[] }) scope.names) := fun b o e => pushCells_keeps _ _ _ _ (Heap.get?_push_of_some _ e)
  have k5 := k3.trans k4
  have kg := hh.keep.trans k5
  have hD3 : h₃.get? D = some (lst [] 0) := by rw [e3, eD]; exact Heap.get?_push_size _ rfl
  have hDn : h₂.get? D = none := by rw [eD]; exact get_size _
  have hno : ∀ a, h₃.objs.size ≤ a → h₃.get? a = none := fun a ha => by
    cases q : h₃.get? a with
    | none => rfl
    | some o => exact absurd (Heap.lt_size q) (Nat.not_lt.mpr ha)
  have hgn : ∀ a, h₃.objs.size ≤ a → g.get? a = none := fun a ha => fresh_none (hh.keep.trans k3) (hno a ha)
  have hcl' : ∀ x c, cl.lookup x = some c → env.cells.lookup x = some c ∧ env.kindOf x = some .cell := fun x c e => hcl (x, c) (mem_of_lookup e)
  have hlt : ∀ x c, cl.lookup x = some c → c < h₃.objs.size := fun x c e => by
    obtain ⟨e1, e2⟩ := hcl' x c e
    obtain ⟨v, o, h1, _⟩ := S.cll x c e2 e1
    exact Heap.lt_size (k3 _ _ h1)
  have hmne : ∀ p ∈ mu, ∀ a, h.get? a = none → p.1 ≠ a := fun p hp a ha q => by
    have := (S.cel p (hmu p hp)).1
    rw [q, ha] at this; cases this
  have hDh : h.get? D = none := fresh_none kI hDn
  have hID : I ≠ D := fun q => by rw [q, hDn] at eI1; cases eI1
  refine ⟨⟨hkind, S.fm.glob, S.fm.blt, ?_, ?_⟩, kg, fun b o e => (nomatch e), ?_, ?_, ⟨_, (ns_empty h₃).keeps fun b o e => pushCells_keeps _ _ _ _ e, fun x v e => ?_⟩, fun x c hk hc => ?_, fun a fr => ?_, fun a ha => hgn a ha⟩
  · exact cf_inj _ _ _ (fun x c e => Nat.lt_succ_of_lt (hlt x c e)) fun x y c e1 e2 => S.fm.inj x y c (hcl' x c e1).1 (hcl' y c e2).1
  · intro x c e q
    have q' : c = h₃.objs.size := q
    subst q'
    rcases cf_get _ _ _ e with h1 | h1
    · exact absurd h1 (Nat.not_succ_le_self _)
    · exact absurd (hlt x _ h1) (Nat.lt_irrefl _)
  · intro p hp
    rcases List.mem_cons.mp hp with rfl | hp
    · exact ⟨k4 _ _ (kD _ _ eI1), fresh_none hh.keep eI2, rfl⟩
    · rcases List.mem_cons.mp hp with rfl | hp
      · exact ⟨k4 _ _ hD3, fresh_none hh.keep hDh, rfl⟩
      · exact ⟨k5 _ _ (S.cel p (hmu p hp)).1, hh.none p hp, rfl⟩
  · refine List.pairwise_cons.mpr ⟨fun p hp => ?_, List.pairwise_cons.mpr ⟨fun p hp => (hmne p hp D hDh).symm, hmnd⟩⟩
    rcases List.mem_cons.mp hp with rfl | hp
    · exact hID
    · exact (hmne p hp I eI2).symm
  · have hmem := mem_of_lookup e
    obtain ⟨h1, h2, h3, h4⟩ := hlc h₃.objs.size _ hmem
    obtain ⟨m, hn, hm⟩ := S.loc
    rcases hm x v h1 with ⟨q, _⟩ | ⟨_, c, hc, hv⟩ | ⟨q, _⟩
    · rw [h2] at q; cases q
    · exact .inr (.inl ⟨h3, c, h4.trans hc, hv.keeps k5⟩)
    · rw [h2] at q; cases q
  · rw [show (cenvOf scope cl env h₃.objs.size).cells = cellsFrom (h₃.push { cls := .type "dict", data := .dict #[] }).objs.size scope.names cl by rw [Heap.size_push]; rfl] at hc
    rcases cf_cell _ _ _ hc with h1 | h1
    · obtain ⟨e1, e2⟩ := hcl' x c h1
      obtain ⟨v, hv⟩ := S.cll x c e2 e1
      exact ⟨v, hv.keeps k5⟩
    · exact h1
  · have big : ∀ a, h₃.objs.size ≤ a → g.get? a = none ∧ (none : Option Obj) = none ∧ ∀ p ∈ (I, oI) :: (D, lst [] 0) :: mu, p.1 ≠ a := fun a ha => ⟨hgn a ha, rfl, fun p hp q => by
      have : h₃.get? p.1 = none := hno _ (q ▸ ha)
      rcases List.mem_cons.mp hp with rfl | hp
      · rw [kD _ _ eI1] at this; cases this
      · rcases List.mem_cons.mp hp with rfl | hp
        · rw [hD3] at this; cases this
        · rw [k3 _ _ (S.cel p (hmu p hp)).1] at this; cases this⟩
    rcases fr with rfl | ⟨x, hk, hc⟩
    · exact .inr (big _ (Nat.le_refl _))
    · rcases cf_get _ _ _ hc with h1 | h1
      · exact .inr (big _ (by lia))
      · obtain ⟨e1, e2⟩ := hcl' x a h1
        obtain ⟨v, o, h2, _⟩ := S.cll x a e2 e1
        exact .inl ⟨o, hh.rest a o h2 fun p hp q => S.notFr (hmu p hp) (q ▸ .inr ⟨x, e2, e1⟩)⟩

noncomputable def testsOf (ifs : List PySem.Expr) (env : Env) : Sem Bool := forIn ifs true fun c r => if r = true then do let ok ← isTrue c env (eval c env); pure (ForInStep.yield ok) else pure (ForInStep.yield r)
theorem ts_nil {env : Env} {P : Bool → Heap → Prop} (H : P true h) : Tr w z A (testsOf [] env) h P := fun tk => by
  unfold testsOf; rw [List.forIn_nil]; exact wpAny_pure ⟨h, tk, rfl, H⟩
theorem ts_one {env : Env} {c : PySem.Expr} {P : Bool → Heap → Prop} (H : Tr w z A (isTrue c env (eval c env)) h P) : Tr w z A (testsOf [c] env) h P := fun tk => by
  unfold testsOf
  rw [List.forIn_cons, if_pos rfl]
  refine wpAny_bind (wpAny_bind (seqW (H tk) fun ok h' tk' k => wpAny_pure ?_))
  show wpAny _ _ (forIn ([] : List PySem.Expr) ok _) _ _ _
  rw [List.forIn_nil]
  exact wpAny_pure ⟨h', tk', rfl, k⟩

theorem comp_code {elt iter : PySem.Expr} {x : Str} {px pos : Pos} {ifs : List PySem.Expr} {scope : Scope} {cenv : Env} {I D : Addr} {fp : List Addr} {n : Nat} {V : Nat → Value → Prop} {Q : Nat → Heap → Prop} {R : Result → Shared → Prop} {oI₀ : Obj}
    (W : Walks PG w A I fp [I] n V Q) (hob : ∀ i h, Q i h → ∃ o, h.get? I = some o) (hfp : ∀ b ∈ fp, b ≠ I → ∃ o, g.get? b = some o) (hsz : n ≤ sizeLine)
    (J : Nat → Gh → List (Addr × Obj) → List Value → Prop) (S : St g Y ((I, oI₀) :: (D, lst [] 0) :: cs) cenv lc h) (hQ : Q 0 h) (hJ : J 0 Y cs [])
    (turn : ∀ i v Y' cs' vs c h' oI, i < n → V i v → Le Y Y' → J i Y' cs' vs → St g Y' ((I, oI) :: (D, lst vs c) :: cs') cenv lc h' →
      Tr w z A (storeName cenv x v) h' fun _ h₁ => Tr w z A (testsOf ifs cenv) h₁ fun ok h₂ =>
        (ok = true → Tr w z A (eval elt cenv) h₂ fun u h₃ => ∃ Y₂ cs₂ lo₂, St g Y₂ ((I, oI) :: (D, lst vs c) :: cs₂) cenv lo₂ h₃ ∧ (∀ p ∈ lc, lo₂.lookup p.1 = some p.2) ∧ Le Y' Y₂ ∧ J (i + 1) Y₂ cs₂ (vs ++ [u])) ∧
        (ok = false → ∃ Y₂ cs₂ lo₂, St g Y₂ ((I, oI) :: (D, lst vs c) :: cs₂) cenv lo₂ h₂ ∧ (∀ p ∈ lc, lo₂.lookup p.1 = some p.2) ∧ Le Y' Y₂ ∧ J (i + 1) Y₂ cs₂ vs))
    (done : ∀ Y' cs' vs c h' tk', Le Y Y' → J n Y' cs' vs → St g Y' ((D, lst vs c) :: cs') cenv lc h' → R (.ok .next) (Sh z h' tk')) (tk : Nat) :
    codeAny (model PG w) A (.compLoop (.ListComp elt [⟨.Name x px, iter, ifs, 0⟩] scope pos) 0 (.ref I) (.ref D) cenv) R (Sh z h tk) := by
  refine codeAny_compLoop_tests
    (fun k s' => ∃ i Y' cs' vs c h' tk' oI, s' = Sh z h' tk' ∧ Q i h' ∧ St g Y' ((I, oI) :: (D, lst vs c) :: cs') cenv lc h' ∧ Le Y Y' ∧ J i Y' cs' vs ∧ vs.length ≤ i ∧ i ≤ n ∧ k = n + 1 - i) ?_ (n + 1)
    ⟨0, Y, cs, [], 0, h, tk, oI₀, rfl, hQ, S, Le.refl Y, hJ, Nat.le_refl _, Nat.zero_le _, rfl⟩
  rintro k s' ⟨i, Y', cs', vs, c, h', tk', oI, rfl, hQi, S', hle, hJi, hvs, hi, rfl⟩
  by_cases hlt : i < n
  · refine W.item i _ _ _ hlt hQi fun v h₁ tk₁ hV hQ₁ hk₁ => ?_
    obtain ⟨o₁, ho₁⟩ := hob _ _ hQ₁
    have kb : KeepBut I h' h₁ := fun b o hb e => hk₁ b o (fun q => hb (List.mem_singleton.mp q)) e
    have S₁ := S'.turn kb ho₁
    have back : ∀ {Y₂ cs₂ lo₂ us c₂ h₃ tk₃}, St g Y₂ ((I, o₁) :: (D, lst us c₂) :: cs₂) cenv lo₂ h₃ → (∀ p ∈ lc, lo₂.lookup p.1 = some p.2) → Le Y' Y₂ → J (i + 1) Y₂ cs₂ us → us.length ≤ i + 1 →
        ∃ m, m < n + 1 - i ∧ ∃ i' Y' cs' vs c h' tk' oI, Sh z h₃ tk₃ = Sh z h' tk' ∧ Q i' h' ∧ St g Y' ((I, oI) :: (D, lst vs c) :: cs') cenv lc h' ∧ Le Y Y' ∧ J i' Y' cs' vs ∧ vs.length ≤ i' ∧ i' ≤ n ∧ m = n + 1 - i' := by
      intro Y₂ cs₂ lo₂ us c₂ h₃ tk₃ S₂ hn₂ hle₂ hJ₂ hu
      refine ⟨n + 1 - (i + 1), by lia, i + 1, Y₂, cs₂, us, c₂, h₃, tk₃, o₁, rfl, ?_, S₂.names hn₂, hle.trans hle₂, hJ₂, hu, hlt, rfl⟩
      refine W.frame _ _ _ hQ₁ fun b hb o e => ?_
      by_cases hbI : b = I
      · subst hbI
        rw [ho₁] at e
        cases e
        exact S₂.cell (.head _)
      · obtain ⟨o', h1⟩ := hfp b hb hbI
        have h2 := S₁.base b o' h1
        rw [h2] at e
        rw [← Option.some.inj e]
        exact S₂.base b o' h1
    refine wpAny_assign_Name (wpAny_mono (turn i v Y' cs' vs c h₁ o₁ hlt hV hle hJi S₁ tk₁) (fun _ s₂ y => ?_) fun _ _ y => y.elim)
    obtain ⟨h₂, tk₂, rfl, k₂⟩ := y
    refine wpAny_mono (k₂ tk₂) (fun ok s₃ y => ?_) fun _ _ y => y.elim
    obtain ⟨h₃, tk₃, rfl, k₃⟩ := y
    cases ok with
    | false =>
      obtain ⟨Y₂, cs₂, lo₂, S₂, hn₂, hle₂, hJ₂⟩ := k₃.2 rfl
      exact back S₂ hn₂ hle₂ hJ₂ (by lia)
    | true =>
      refine wpAny_mono (k₃.1 rfl tk₃) (fun u s₄ y => ?_) fun _ _ y => y.elim
      obtain ⟨h₄, tk₄, rfl, Y₂, cs₂, lo₂, S₂, hn₂, hle₂, hJ₂⟩ := y
      rw [sizeLine_eq] at hsz
      refine wpAny_mono (m_append (z := z) (P := fun _ h₅ => St g Y₂ ((D, lst (vs ++ [u]) (c + 1)) :: (I, o₁) :: cs₂) cenv lo₂ h₅) S₂.swap (by rw [sizeLine_eq]; lia) (fun h₅ S₅ => S₅) tk₄) (fun _ s₅ y => ?_) fun _ _ y => y.elim
      obtain ⟨h₅, tk₅, rfl, S₅⟩ := y
      exact back S₅.swap hn₂ hle₂ hJ₂ (by simp; lia)
  · have hin : i = n := by lia
    subst hin
    refine W.done _ _ _ hQi fun h₁ tk₁ hk₁ => ?_
    have kb : KeepBut I h' h₁ := fun b o hb e => hk₁ b o (fun q => hb (List.mem_singleton.mp q)) e
    have c' := S'.cel _ (.head _)
    exact done Y' cs' vs c h₁ tk₁ hle hJi (S'.drop.off kb c'.2.1 c'.2.2 (fun p hp => ((List.pairwise_cons.mp S'.nd).1 p hp).symm) fun f => S'.notFr (.head _) f)

/-- a comprehension over a value -/
noncomputable def CompIn (w : World) (z : Shared) (A : Around) (env : Env) (elt iter : PySem.Expr) (x : Str) (px : Pos) (ifs : List PySem.Expr) (scope : Scope) (pos : Pos) (cl : List (Str × Addr)) (use : Option (Value → Sem Unit)) (P : Value → Heap → Prop) (xv : Value) (h : Heap) : Prop :=
  ∀ tk, wpAny (model PG w) A (pyIter xv) (fun it s₂ => wpAny (model PG w) A (newList []) (fun acc s₃ => wpAny (model PG w) A (newFunctionEnv scope env.globals cl [] env.qual none .none (some env)) (fun cenv s₄ =>
    codeAny (model PG w) A (.compStart (.ListComp elt [⟨.Name x px, iter, ifs, 0⟩] scope pos) 0 it acc { cenv with scope := relabel scope env })
      (compPost (model PG w) A No use (Po z P) acc cenv.locals) s₄) No s₃) No s₂) No (Sh z h tk)

theorem e_comp {elt iter : PySem.Expr} {x : Str} {px pos : Pos} {ifs : List PySem.Expr} {scope : Scope} {cl : List (Str × Addr)} {P : Value → Heap → Prop} (hclos : closureFor scope env = pure cl) (hkind : scope.kind = .function)
    (hnames : ∀ y ∈ scope.names, y.2 = .local → scope.names.lookup y.1 = some .local) (H : Tr w z A (eval iter env) h (CompIn w z A env elt iter x px ifs scope pos cl none P))
    (hs : ∀ x, foldedSetIterable iter env x = pure x := by intro _; rfl) : Tr w z A (eval (.ListComp elt [⟨.Name x px, iter, ifs, 0⟩] scope pos) env) h P := fun tk => by
  show wpAny _ A (comprehension (.ListComp elt [⟨.Name x px, iter, ifs, 0⟩] scope pos) scope env _ (newList []) false (eval iter env) none) _ _ _
  exact wpAny_comprehension_free rfl hs hclos hkind hnames (seqW (H tk) fun xv h₁ tk₁ k₁ => k₁ tk₁)
theorem x_assignComp {elt iter : PySem.Expr} {x y : Str} {px py pos spos : Pos} {ifs : List PySem.Expr} {scope : Scope} {cl : List (Str × Addr)} {rest : List Stmt} {P : Flow → Heap → Prop} (hclos : closureFor scope env = pure cl) (hkind : scope.kind = .function)
    (hnames : ∀ y ∈ scope.names, y.2 = .local → scope.names.lookup y.1 = some .local) (hsw : swapsWith (.ListComp elt [⟨.Name x px, iter, ifs, 0⟩] scope pos) (some (.Name y py)) spos.line env = pure true)
    (H : Tr w z A (eval iter env) h (CompIn w z A env elt iter x px ifs scope pos cl (some (assign (.Name y py) env)) fun _ h' => Tr w z A (execs rest env) h' P))
    (hs : ∀ x, foldedSetIterable iter env x = pure x := by intro _; rfl) : Tr w z A (execs (.Assign [.Name y py] (.ListComp elt [⟨.Name x px, iter, ifs, 0⟩] scope pos) spos :: rest) env) h P := x_cons fun tk => by
  rw [exec_Assign_Name_used _ _ _ _ hsw]
  refine wpAny_bind (wpAny_standAt (wpAny_bind ?_))
  show wpAny _ A (do let _ ← comprehension (.ListComp elt [⟨.Name x px, iter, ifs, 0⟩] scope pos) scope env _ (newList []) false (eval iter env) (some (assign (.Name y py) env))) _ _ _
  refine wpAny_bind (wpAny_mono (wpAny_comprehension_free (use := some (assign (.Name y py) env)) (Q := Po z fun _ h' => Tr w z A (execs rest env) h' P) rfl hs hclos hkind hnames (seqW (H tk) fun xv h₁ tk₁ k₁ => k₁ tk₁)) (fun _ s' hq => ?_) fun _ _ e => e)
  obtain ⟨h', tk', rfl, k⟩ := hq
  exact wpAny_pure (wpAny_pure ⟨h', tk', rfl, k⟩)

/-- a state and what a call or a comprehension has left -/
theorem St.join {Y' : Gh} {cs' : List (Addr × Obj)} {h' : Heap} (S : St h₀ Y cs env lo h) (F : Fz h Y' cs' h') : St h₀ (uni Y Y') (cs' ++ cs) env lo h' ∧ Le Y (uni Y Y') ∧ Le Y' (uni Y Y') := by
  have S' := S.keep F.base
  have hno : ∀ b o, h.get? b = some o → Y' b = none := fun b o e => by
    cases q : Y' b with
    | none => rfl
    | some o' => rw [(F.yng b o' q).2] at e; cases e
  have hle : Le Y (uni Y Y') := fun b o e => by unfold uni; rw [hno _ _ (S.yng b o e).1]; exact e
  have hold : ∀ p ∈ cs', ∀ b o, h.get? b = some o → p.1 ≠ b := fun p hp b o e q => by rw [← q, (F.cel p hp).2.1] at e; cases e
  refine ⟨⟨S'.fm, S'.base, fun b o e => ?_, fun p hp => ?_, List.pairwise_append.mpr ⟨F.nd, S.nd, fun p hp q hq => hold p hp _ _ (S.cel q hq).1⟩, S'.loc, S'.cll, fun b f => (S'.own b f).imp id fun e => ⟨e.1, ?_, fun p hp => ?_⟩, S.abv⟩, hle, le_uni_right _ _⟩
  · unfold uni at e
    split at e
    · rename_i o' q
      cases e
      obtain ⟨q1, q2⟩ := F.yng _ _ q
      exact ⟨q1, fresh_none S.base q2⟩
    · exact S'.yng b o e
  · rcases List.mem_append.mp hp with hp | hp
    · obtain ⟨c1, c2, c3⟩ := F.cel p hp
      refine ⟨c1, fresh_none S.base c2, ?_⟩
      unfold uni; rw [c3]
      cases q : Y p.1 with
      | none => rfl
      | some o' => rw [(S.yng _ o' q).1] at c2; cases c2
    · refine ⟨(S'.cel p hp).1, (S'.cel p hp).2.1, ?_⟩
      unfold uni; rw [hno _ _ (S.cel p hp).1]; exact (S.cel p hp).2.2
  · obtain ⟨o, ho⟩ := S.frLive f
    unfold uni; rw [hno _ _ ho]; exact e.2.1
  · rcases List.mem_append.mp hp with hp | hp
    · obtain ⟨o, ho⟩ := S.frLive f
      exact hold p hp b o ho
    · exact e.2.2 p hp

theorem comp_main {elt iter : PySem.Expr} {x : Str} {px pos : Pos} {ifs : List PySem.Expr} {scope : Scope} {cl : List (Str × Addr)} {use : Option (Value → Sem Unit)} {P : Value → Heap → Prop} {I : Addr} {oI : Obj} {fp : List Addr} {n : Nat} {V : Nat → Value → Prop} {Q : Nat → Heap → Prop} {h₂ : Heap}
    (S : St h₀ Y cs env lo h) (hh : Hid g h mu) (hmu : ∀ p ∈ mu, p ∈ cs) (hmnd : mu.Pairwise fun p q => p.1 ≠ q.1) (kI : Keep h h₂) (eI : newIn h h₂ I = some oI)
    (hcl : ∀ p ∈ cl, env.cells.lookup p.1 = some p.2 ∧ env.kindOf p.1 = some .cell) (hkind : scope.kind = .function)
    (hlc : ∀ C, ∀ p ∈ lc, lo.lookup p.1 = some p.2 ∧ env.kindOf p.1 = some .cell ∧ (cenvOf scope cl env C).kindOf p.1 = some .cell ∧ (cenvOf scope cl env C).cells.lookup p.1 = env.cells.lookup p.1)
    (W : Walks PG w A I fp [I] n V Q) (hob : ∀ i h, Q i h → ∃ o, h.get? I = some o) (hfp : ∀ b ∈ fp, b ≠ I → ∃ o, g.get? b = some o) (hsz : n ≤ sizeLine) (hQ : Q 0 h₂)
    (J : Nat → Gh → List (Addr × Obj) → List Value → Prop) (hJ : J 0 (fun _ => none) mu [])
    (turn : ∀ i v Y' cs' vs c C D h' oI, i < n → V i v → J i Y' cs' vs → St g Y' ((I, oI) :: (D, lst vs c) :: cs') (cenvOf scope cl env C) lc h' →
      Tr w z A (storeName (cenvOf scope cl env C) x v) h' fun _ h₁ => Tr w z A (testsOf ifs (cenvOf scope cl env C)) h₁ fun ok h₂ =>
        (ok = true → Tr w z A (eval elt (cenvOf scope cl env C)) h₂ fun u h₃ => ∃ Y₂ cs₂ lo₂, St g Y₂ ((I, oI) :: (D, lst vs c) :: cs₂) (cenvOf scope cl env C) lo₂ h₃ ∧ (∀ p ∈ lc, lo₂.lookup p.1 = some p.2) ∧ Le Y' Y₂ ∧ J (i + 1) Y₂ cs₂ (vs ++ [u])) ∧
        (ok = false → ∃ Y₂ cs₂ lo₂, St g Y₂ ((I, oI) :: (D, lst vs c) :: cs₂) (cenvOf scope cl env C) lo₂ h₂ ∧ (∀ p ∈ lc, lo₂.lookup p.1 = some p.2) ∧ Le Y' Y₂ ∧ J (i + 1) Y₂ cs₂ vs))
    (done : ∀ Y' cs' vs D c C lo' h' tk', J n Y' cs' vs → St g Y' ((D, lst vs c) :: cs') (cenvOf scope cl env C) lo' h' → compPost (model PG w) A No use (Po z P) (.ref D) C (.ok .next) (Sh z h' tk')) (tk : Nat) :
    wpAny (model PG w) A (newList []) (fun acc s₃ => wpAny (model PG w) A (newFunctionEnv scope env.globals cl [] env.qual none .none (some env)) (fun cenv s₄ =>
      codeAny (model PG w) A (.compStart (.ListComp elt [⟨.Name x px, iter, ifs, 0⟩] scope pos) 0 (.ref I) acc { cenv with scope := relabel scope env })
        (compPost (model PG w) A No use (Po z P) acc cenv.locals) s₄) No s₃) No (Sh z h₂ tk) := by
  refine wpAny_newObj_type (newEnvComp ?_)
  have S₄ := comp_enter (lc := lc) S hh hmu hmnd kI eI rfl rfl hcl hkind hlc
  have eI' := (newIn_get eI).1
  have k4 : Keep h₂ (pushCells ((h₂.push (lst [] 0)).push { cls := .type "dict", data := .dict #[] }) scope.names) := fun b o e => pushCells_keeps _ _ _ _ (Heap.get?_push_of_some _ (Heap.get?_push_of_some _ e))
  have hQ' : Q 0 (pushCells ((h₂.push (lst [] 0)).push { cls := .type "dict", data := .dict #[] }) scope.names) := W.frame _ _ _ hQ fun b _ o e => k4 b o e
  have loop : codeAny (model PG w) A (.compLoop (.ListComp elt [⟨.Name x px, iter, ifs, 0⟩] scope pos) 0 (.ref I) (.ref h₂.objs.size) (cenvOf scope cl env (h₂.push (lst [] 0)).objs.size))
      (compPost (model PG w) A No use (Po z P) (.ref h₂.objs.size) (h₂.push (lst [] 0)).objs.size) (Sh z (pushCells ((h₂.push (lst [] 0)).push { cls := .type "dict", data := .dict #[] }) scope.names) tk) :=
    comp_code W hob hfp hsz J S₄ hQ' hJ (fun i v Y' cs' vs c h' oI hi hV _ hJ' S' => turn i v Y' cs' vs c _ _ h' oI hi hV hJ' S') (fun Y' cs' vs c h' tk' _ hJ' S' => done Y' cs' vs _ c _ _ h' tk' hJ' S') tk
  exact codeAny_compStart_list loop (W.self 0 _ _ _ hQ' loop)
end
end
section -- Comp2
set_option maxRecDepth 10000

section
variable {w : World} {z : Shared} {A : Around} {h₀ g : Heap} {Y : Gh} {cs mu : List (Addr × Obj)} {env : Env} {lo lc : List (Str × Value)} {h : Heap}

/-- the end of a comprehension that hands its list on -/
theorem done_none {scope : Scope} {cl : List (Str × Addr)} {P : Value → Heap → Prop} {Y' : Gh} {cs' : List (Addr × Obj)} {vs : List Value} {D C : Addr} {c : Nat} {lo' : List (Str × Value)} {h' : Heap} {tk' : Nat}
    (S' : St g Y' ((D, lst vs c) :: cs') (cenvOf scope cl env C) lo' h') (H : ∀ h', Fz g Y' ((D, lst vs c) :: cs') h' → P (.ref D) h') : compPost (model PG w) A No none (Po z P) (.ref D) C (.ok .next) (Sh z h' tk') := by
  obtain ⟨m, hn, _⟩ := S'.loc
  exact ⟨m, hn, fun h'' hs => ⟨h'', tk', rfl, H h'' (S'.fzBut hs)⟩⟩
/-- the end of a comprehension whose list is stored at once -/
theorem done_use {scope : Scope} {cl : List (Str × Addr)} {y : Str} {py : Pos} {P : Value → Heap → Prop} {Y' : Gh} {cs' : List (Addr × Obj)} {vs : List Value} {D C : Addr} {c : Nat} {lo' : List (Str × Value)} {h' : Heap} {tk' : Nat}
    (S : St h₀ Y cs env lo h) (hy : env.kindOf y = some .local) (S' : St h Y' ((D, lst vs c) :: cs') (cenvOf scope cl env C) lo' h')
    (H : ∀ h'', St h₀ (uni Y Y') (((D, lst vs c) :: cs') ++ cs) env ((y, .ref D) :: lo) h'' → P .none h'') : compPost (model PG w) A No (some (assign (.Name y py) env)) (Po z P) (.ref D) C (.ok .next) (Sh z h' tk') := by
  obtain ⟨m, hn, _⟩ := S'.loc
  obtain ⟨oC, es, ep, hoC, r⟩ := id hn
  have hb := S'.ownL
  have F : Fz h Y' ((C, oC) :: (D, lst vs c) :: cs') h' := ⟨S'.base, S'.yng, fun p hp => (List.mem_cons.mp hp).elim (fun e => by subst e; exact ⟨hoC, hb.1, hb.2.1⟩) (S'.cel p), List.pairwise_cons.mpr ⟨fun p hp => (hb.2.2 p hp).symm, S'.nd⟩⟩
  obtain ⟨S₁, _, _⟩ := S.join F
  show wpAny _ _ (assign (.Name y py) env (.ref D)) _ _ _
  refine wpAny_assign_Name (wpAny_mono (s_local (w := w) (z := z) (A := A) (P := fun _ h₂ => St h₀ (uni Y Y') ((C, oC) :: ((D, lst vs c) :: cs' ++ cs)) env ((y, .ref D) :: lo) h₂) S₁ hy (fun h₂ S₂ => S₂) tk') (fun _ s₂ x => ?_) fun _ _ x => x.elim)
  obtain ⟨h₂, tk₂, rfl, S₂⟩ := x
  have hC₂ : h₂.get? C = some oC := S₂.cell (.head _)
  refine ⟨m, ⟨oC, es, ep, hC₂, r⟩, fun h₃ hs => ⟨h₃, tk₂, rfl, H h₃ ?_⟩⟩
  have c' := S₂.cel _ (.head _)
  exact S₂.drop.off (sameBut_kb hs) c'.2.1 c'.2.2 (fun p hp => ((List.pairwise_cons.mp S₂.nd).1 p hp).symm) fun f => S₂.notFr (.head _) f

theorem in_crange {elt iter : PySem.Expr} {x : Str} {px pos : Pos} {ifs : List PySem.Expr} {scope : Scope} {cl : List (Str × Addr)} {use : Option (Value → Sem Unit)} {P : Value → Heap → Prop} {r : Addr} {b : Int} {t u v : Tok}
    (hA : A.handled = none) (S : St h₀ Y cs env lo h) (hr : h.get? r = some (rng 0 b 1 t u v)) (h0 : 0 ≤ b) (h1 : b ≤ 1000000) (hh : Hid g h mu) (hmu : ∀ p ∈ mu, p ∈ cs) (hmnd : mu.Pairwise fun p q => p.1 ≠ q.1)
    (hcl : ∀ p ∈ cl, env.cells.lookup p.1 = some p.2 ∧ env.kindOf p.1 = some .cell) (hkind : scope.kind = .function)
    (hlc : ∀ C, ∀ p ∈ lc, lo.lookup p.1 = some p.2 ∧ env.kindOf p.1 = some .cell ∧ (cenvOf scope cl env C).kindOf p.1 = some .cell ∧ (cenvOf scope cl env C).cells.lookup p.1 = env.cells.lookup p.1)
    (J : Nat → Gh → List (Addr × Obj) → List Value → Prop) (hJ : J 0 (fun _ => none) mu [])
    (turn : ∀ (i : Nat) t Y' cs' vs c C D h' I oI, (i : Int) < b → J i Y' cs' vs → St g Y' ((I, oI) :: (D, lst vs c) :: cs') (cenvOf scope cl env C) lc h' →
      Tr w z A (storeName (cenvOf scope cl env C) x (.int i t)) h' fun _ h₁ => Tr w z A (testsOf ifs (cenvOf scope cl env C)) h₁ fun ok h₂ =>
        (ok = true → Tr w z A (eval elt (cenvOf scope cl env C)) h₂ fun u h₃ => ∃ Y₂ cs₂ lo₂, St g Y₂ ((I, oI) :: (D, lst vs c) :: cs₂) (cenvOf scope cl env C) lo₂ h₃ ∧ (∀ p ∈ lc, lo₂.lookup p.1 = some p.2) ∧ Le Y' Y₂ ∧ J (i + 1) Y₂ cs₂ (vs ++ [u])) ∧
        (ok = false → ∃ Y₂ cs₂ lo₂, St g Y₂ ((I, oI) :: (D, lst vs c) :: cs₂) (cenvOf scope cl env C) lo₂ h₂ ∧ (∀ p ∈ lc, lo₂.lookup p.1 = some p.2) ∧ Le Y' Y₂ ∧ J (i + 1) Y₂ cs₂ vs))
    (done : ∀ Y' cs' vs D c C lo' h' tk', J b.toNat Y' cs' vs → St g Y' ((D, lst vs c) :: cs') (cenvOf scope cl env C) lo' h' → compPost (model PG w) A No use (Po z P) (.ref D) C (.ok .next) (Sh z h' tk')) :
    CompIn w z A env elt iter x px ifs scope pos cl use P (.ref r) h := fun tk => by
  have hsz : Builtin.Range.rangeSize 0 b 1 = (b.toNat : Int) := by unfold Builtin.Range.rangeSize; simp; lia
  refine wpAny_pyIter_range (s := Sh z h tk) hr (small_one (by lia) (by lia) (by lia) (by lia)) ?_
  refine comp_main (W := Walks.range hA h.objs.size 0 1 b.toNat) S hh hmu hmnd (push_keep _ _) (push_new _ _) hcl hkind hlc (fun i h' e => ⟨_, e⟩) (fun b hb hne => absurd (List.mem_singleton.mp hb) hne) (by rw [sizeLine_eq]; lia) ?_ J hJ ?_ done _
  · show IsRangeIter _ _ _ _ _
    rw [← hsz]
    simpa using Heap.get?_push_size h (o := { cls := .type "range_iterator", data := .fields #[rawInt 0, rawInt (Builtin.Range.rangeSize 0 b 1), rawInt 1] }) rfl
  · rintro i v Y' cs' vs c C D h' oI hi ⟨t', rfl⟩ hJ' S'
    rw [show (0 + (i : Int) * 1) = (i : Int) by lia]
    exact turn i t' Y' cs' vs c C D h' _ oI (by lia) hJ' S'
theorem in_clist {elt iter : PySem.Expr} {x : Str} {px pos : Pos} {ifs : List PySem.Expr} {scope : Scope} {cl : List (Str × Addr)} {use : Option (Value → Sem Unit)} {P : Value → Heap → Prop} {l : Addr} {us : List Value} {nn : Nat}
    (hA : A.handled = none) (S : St h₀ Y cs env lo h) (hl : h.get? l = some (lst us nn)) (hsz : us.length ≤ sizeLine)
    (hcl : ∀ p ∈ cl, env.cells.lookup p.1 = some p.2 ∧ env.kindOf p.1 = some .cell) (hkind : scope.kind = .function)
    (hlc : ∀ C, ∀ p ∈ lc, lo.lookup p.1 = some p.2 ∧ env.kindOf p.1 = some .cell ∧ (cenvOf scope cl env C).kindOf p.1 = some .cell ∧ (cenvOf scope cl env C).cells.lookup p.1 = env.cells.lookup p.1)
    (J : Nat → Gh → List (Addr × Obj) → List Value → Prop) (hJ : J 0 (fun _ => none) [] [])
    (turn : ∀ (i : Nat) v Y' cs' vs c C D h' I oI, us[i]? = some v → J i Y' cs' vs → St h Y' ((I, oI) :: (D, lst vs c) :: cs') (cenvOf scope cl env C) lc h' →
      Tr w z A (storeName (cenvOf scope cl env C) x v) h' fun _ h₁ => Tr w z A (testsOf ifs (cenvOf scope cl env C)) h₁ fun ok h₂ =>
        (ok = true → Tr w z A (eval elt (cenvOf scope cl env C)) h₂ fun u h₃ => ∃ Y₂ cs₂ lo₂, St h Y₂ ((I, oI) :: (D, lst vs c) :: cs₂) (cenvOf scope cl env C) lo₂ h₃ ∧ (∀ p ∈ lc, lo₂.lookup p.1 = some p.2) ∧ Le Y' Y₂ ∧ J (i + 1) Y₂ cs₂ (vs ++ [u])) ∧
        (ok = false → ∃ Y₂ cs₂ lo₂, St h Y₂ ((I, oI) :: (D, lst vs c) :: cs₂) (cenvOf scope cl env C) lo₂ h₂ ∧ (∀ p ∈ lc, lo₂.lookup p.1 = some p.2) ∧ Le Y' Y₂ ∧ J (i + 1) Y₂ cs₂ vs))
    (done : ∀ Y' cs' vs D c C lo' h' tk', J us.length Y' cs' vs → St h Y' ((D, lst vs c) :: cs') (cenvOf scope cl env C) lo' h' → compPost (model PG w) A No use (Po z P) (.ref D) C (.ok .next) (Sh z h' tk')) :
    CompIn w z A env elt iter x px ifs scope pos cl use P (.ref l) h := fun tk => by
  refine wpAny_pyIter_list (s := Sh z h tk) (isL hl) ?_
  have hne : l ≠ h.objs.size := fun q => by have := Heap.lt_size hl; rw [q] at this; exact Nat.lt_irrefl _ this
  have W := Walks.list (prog := PG) (w := w) hA h.objs.size l hne us.toArray
  rw [List.size_toArray] at W
  refine comp_main (W := W) (mu := []) S (Hid.nil h) (fun _ hp => nomatch hp) .nil (push_keep _ _) (push_new _ _) hcl hkind hlc (fun i h' e => let ⟨o, ho, _⟩ := e.1; ⟨o, ho⟩) (fun b hb hne => ?_) hsz ⟨⟨_, Heap.get?_push_size _ rfl, rfl, rfl⟩, isL (push_keep _ _ _ _ hl)⟩ J hJ ?_ done _
  · simp only [List.mem_cons, List.not_mem_nil, or_false] at hb
    rcases hb with rfl | rfl
    · exact absurd rfl hne
    · exact ⟨_, hl⟩
  · rintro i v Y' cs' vs c C D h' oI hi hV hJ' S'
    exact turn i v Y' cs' vs c C D h' _ oI (by simpa using hV) hJ' S'
end
end
section -- Pre
set_option maxRecDepth 10000
/-! plain functions and how the heap bears their answers -/
noncomputable def due (n i : Int) : Bool := decide (n = (i - 1) % 8)
noncomputable def b2i (b : Bool) : Int := if b then 1 else 0

/-- the cheapest way of the first i pieces beside the first j intervals -/
noncomputable def Fw (ns : Nat → Int) (first : Int) : Nat → Nat → Int
  | 0, j => (j : Int)
  | i + 1, 0 => (i : Int) + 1
  | i + 1, j + 1 => min (min (Fw ns first i j + b2i (!due (ns i) (first + j))) (Fw ns first i (j + 1) + 1)) (Fw ns first (i + 1) j + 1)
termination_by i j => (i, j)

noncomputable def rowOf (f : Nat → Int) (m : Nat) : List Int := (List.range m).map f
theorem rowOf_length (f : Nat → Int) (m : Nat) : (rowOf f m).length = m := by simp [rowOf]
theorem rowOf_get {f : Nat → Int} {m j : Nat} (h : j < m) : (rowOf f m)[j]? = some (f j) := by simp [rowOf, h]
theorem rowOf_succ (f : Nat → Int) (m : Nat) : rowOf f (m + 1) = rowOf f m ++ [f m] := by simp [rowOf, List.range_succ]

/-- the row i of the table -/
noncomputable def FwT (ns : List Int) (first : Int) (m : Nat) (i : Nat) : List Int := rowOf (Fw (fun i => ns.getD i 0) first i) (m + 1)
theorem FwT_zero (ns : List Int) (first : Int) (m : Nat) : FwT ns first m 0 = (List.range (m + 1)).map fun (i : Nat) => (i : Int) := by
  unfold FwT rowOf
  refine List.map_congr_left fun j _ => ?_
  rw [Fw]
/-- the cheapest way of the last k pieces (of n) beside the last l intervals (of m) -/
noncomputable def Bk (ns : Nat → Int) (first : Int) (n m : Nat) : Nat → Nat → Int
  | 0, l => (l : Int)
  | k + 1, 0 => (k : Int) + 1
  | k + 1, l + 1 => min (min (Bk ns first n m k l + b2i (!due (ns (n - 1 - k)) (first + ((m : Int) - 1 - l)))) (Bk ns first n m k (l + 1) + 1)) (Bk ns first n m (k + 1) l + 1)
termination_by k l => (k, l)
noncomputable def BwR (ns : List Int) (first : Int) (m k : Nat) : List Int := (rowOf (Bk (fun i => ns.getD i 0) first ns.length m k) (m + 1)).reverse
theorem rev_get {f : Nat → Int} {m j : Nat} (h : j ≤ m) : (rowOf f (m + 1)).reverse[j]? = some (f (m - j)) := by
  rw [List.getElem?_reverse (by rw [rowOf_length]; lia), rowOf_length, rowOf_get (by lia)]
  rw [show m + 1 - 1 - j = m - j by lia]
theorem BwR_length (ns : List Int) (first : Int) (m k : Nat) : (BwR ns first m k).length = m + 1 := by unfold BwR; rw [List.length_reverse, rowOf_length]
theorem BwR_get (ns : List Int) (first : Int) {m j : Nat} (k : Nat) (h : j ≤ m) : (BwR ns first m k)[j]? = some (Bk (fun i => ns.getD i 0) first ns.length m k (m - j)) := rev_get h
theorem BwR_zero (ns : List Int) (first : Int) (m : Nat) : BwR ns first m 0 = (List.range (m + 1)).map fun (j : Nat) => (m : Int) - (j : Int) := by
  refine List.ext_getElem? fun j => ?_
  by_cases h : j ≤ m
  · rw [BwR_get _ _ _ h, Bk, List.getElem?_map, List.getElem?_range (by lia)]
    show some ((m - j : Nat) : Int) = some ((m : Int) - (j : Int))
    congr 1
    lia
  · rw [List.getElem?_eq_none (by rw [BwR_length]; lia), List.getElem?_eq_none (by simp; lia)]
theorem ints_at {vs : List Value} {ns : List Int} (hi : IntsAre vs ns) {j : Nat} {x : Int} (e : ns[j]? = some x) : ∃ t, vs[j]? = some (.int x t) := by
  obtain ⟨t, h⟩ := hi.get j x e
  exact ⟨t, h⟩
theorem ints_app {vs ws : List Value} {ns ms : List Int} (hi : IntsAre vs ns) (hj : IntsAre ws ms) : IntsAre (vs ++ ws) (ns ++ ms) := hi.append hj

/-- a list of ints that stays -/
noncomputable def RowIs (Y : Gh) (v : Value) (xs : List Int) : Prop := ∃ r us n, v = .ref r ∧ Y r = some (lst us n) ∧ IntsAre us xs
theorem RowIs.mono {Y Z : Gh} {v : Value} {xs : List Int} (h : RowIs Y v xs) (l : Le Y Z) : RowIs Z v xs := let ⟨r, us, n, a, b, c⟩ := h; ⟨r, us, n, a, l _ _ b, c⟩
noncomputable def TabIs (Y : Gh) (vs : List Value) (T : Nat → List Int) (k : Nat) : Prop := vs.length = k ∧ ∀ i, i < k → ∃ v, vs[i]? = some v ∧ RowIs Y v (T i)
theorem TabIs.mono {Y Z : Gh} {vs : List Value} {T : Nat → List Int} {k : Nat} (h : TabIs Y vs T k) (l : Le Y Z) : TabIs Z vs T k :=
  ⟨h.1, fun i hi => let ⟨v, a, b⟩ := h.2 i hi; ⟨v, a, b.mono l⟩⟩
theorem TabIs.snoc {Y : Gh} {vs : List Value} {T : Nat → List Int} {k : Nat} {v : Value} (h : TabIs Y vs T k) (hv : RowIs Y v (T k)) : TabIs Y (vs ++ [v]) T (k + 1) := by
  refine ⟨by simp [h.1], fun i hi => ?_⟩
  by_cases e : i = k
  · subst e; exact ⟨v, by rw [List.getElem?_append_right (by rw [h.1]; exact Nat.le_refl _), h.1]; simp, hv⟩
  · obtain ⟨u, a, b⟩ := h.2 i (by lia)
    exact ⟨u, by rw [List.getElem?_append_left (by rw [h.1]; lia)]; exact a, b⟩

theorem TabIs.cons {Y : Gh} {vs : List Value} {T T' : Nat → List Int} {k : Nat} {v : Value} (h : TabIs Y vs T k) (hv : RowIs Y v (T' 0)) (hT : ∀ i, i < k → T' (i + 1) = T i) : TabIs Y (v :: vs) T' (k + 1) := by
  refine ⟨by simp [h.1], fun i hi => ?_⟩
  cases i with
  | zero => exact ⟨v, rfl, hv⟩
  | succ i =>
    obtain ⟨u, a, b⟩ := h.2 i (by lia)
    exact ⟨u, by simpa using a, by rw [hT i (by lia)]; exact b⟩
theorem TabIs.congr {Y : Gh} {vs : List Value} {T T' : Nat → List Int} {k k' : Nat} (h : TabIs Y vs T k) (hk : k = k') (hT : ∀ i, i < k → T i = T' i) : TabIs Y vs T' k' := by
  subst hk
  exact ⟨h.1, fun i hi => let ⟨v, a, b⟩ := h.2 i hi; ⟨v, a, hT i hi ▸ b⟩⟩
theorem nm_nil {lo : List (Str × Value)} : ∀ p ∈ ([] : List (Str × Value)), lo.lookup p.1 = some p.2 := fun _ hp => nomatch hp
theorem nm_cons {lo r : List (Str × Value)} {x : Str} {v : Value} (h : lo.lookup x = some v) (hr : ∀ p ∈ r, lo.lookup p.1 = some p.2) : ∀ p ∈ (x, v) :: r, lo.lookup p.1 = some p.2 := fun p hp => by
  rcases List.mem_cons.mp hp with rfl | hp
  · exact h
  · exact hr p hp
theorem rsize1 {b : Int} (h : 0 ≤ b) : Builtin.Range.rangeSize 0 b 1 = (b.toNat : Int) := by unfold Builtin.Range.rangeSize; simp; lia
theorem rsize2 {a b : Int} (h : a ≤ b) : Builtin.Range.rangeSize a b 1 = ((b - a).toNat : Int) := by unfold Builtin.Range.rangeSize; simp; lia
theorem rsize3 {a b : Int} : Builtin.Range.rangeSize a b (-1) = ((a - b).toNat : Int) := by unfold Builtin.Range.rangeSize; simp; lia
section
variable {w : World} {z : Shared} {A : Around} {h₀ : Heap} {Y : Gh} {cs : List (Addr × Obj)} {env : Env} {lo : List (Str × Value)} {h : Heap}
theorem for1 {x : Str} {px : Pos} {body : List Stmt} {r : Addr} {b : Int} {t u v : Tok} {P : Flow → Heap → Prop} (hh : A.handled = none) (S : St h₀ Y cs env lo h) (hr : h.get? r = some (rng 0 b 1 t u v)) (h0 : 0 ≤ b) (h1 : b ≤ 1000000)
    (J : Nat → Gh → List (Addr × Obj) → List (Str × Value) → Prop) (hJ : J 0 Y cs lo)
    (turn : ∀ (i : Nat) t Y' cs' lo' h' I oI, (i : Int) < b → Le Y Y' → J i Y' cs' lo' → St h₀ Y' ((I, oI) :: cs') env lo' h' →
      Tr w z A (storeName env x (.int i t)) h' fun _ h₁ => Tr w z A (execs body env) h₁ (TurnEnd P fun h₂ => ∃ Y₂ cs₂ lo₂, St h₀ Y₂ ((I, oI) :: cs₂) env lo₂ h₂ ∧ Le Y' Y₂ ∧ J (i + 1) Y₂ cs₂ lo₂))
    (done : ∀ Y' cs' lo' h', Le Y Y' → J b.toNat Y' cs' lo' → St h₀ Y' cs' env lo' h' → P .next h') : ForIn w z A env (.Name x px) body P (.ref r) h :=
  in_range hh S hr (small_one (by lia) (by lia) (by lia) (by lia)) (rsize1 h0) J hJ (fun i t Y' cs' lo' h' I oI hi hle hJ' S' => by
    rw [show (0 + (i : Int) * 1) = (i : Int) by lia]
    exact turn i t Y' cs' lo' h' I oI (by lia) hle hJ' S') done
theorem for2 {x : Str} {px : Pos} {body : List Stmt} {r : Addr} {a b : Int} {t u v : Tok} {P : Flow → Heap → Prop} (hh : A.handled = none) (S : St h₀ Y cs env lo h) (hr : h.get? r = some (rng a b 1 t u v)) (ha : -1000000 ≤ a) (h0 : a ≤ b) (h1 : b ≤ 1000000)
    (J : Nat → Gh → List (Addr × Obj) → List (Str × Value) → Prop) (hJ : J 0 Y cs lo)
    (turn : ∀ (i : Nat) t Y' cs' lo' h' I oI, a + (i : Int) < b → Le Y Y' → J i Y' cs' lo' → St h₀ Y' ((I, oI) :: cs') env lo' h' →
      Tr w z A (storeName env x (.int (a + i) t)) h' fun _ h₁ => Tr w z A (execs body env) h₁ (TurnEnd P fun h₂ => ∃ Y₂ cs₂ lo₂, St h₀ Y₂ ((I, oI) :: cs₂) env lo₂ h₂ ∧ Le Y' Y₂ ∧ J (i + 1) Y₂ cs₂ lo₂))
    (done : ∀ Y' cs' lo' h', Le Y Y' → J (b - a).toNat Y' cs' lo' → St h₀ Y' cs' env lo' h' → P .next h') : ForIn w z A env (.Name x px) body P (.ref r) h :=
  in_range hh S hr (small_one (by lia) (by lia) (by lia) (by lia)) (rsize2 h0) J hJ (fun i t Y' cs' lo' h' I oI hi hle hJ' S' => by
    rw [show (a + (i : Int) * 1) = a + (i : Int) by lia]
    exact turn i t Y' cs' lo' h' I oI (by lia) hle hJ' S') done
theorem small_down {a b : Int} (ha : -1000000 ≤ a) (ha' : a ≤ 1000000) (hb : -1000000 ≤ b) (hb' : b ≤ 1000000) : Builtin.Range.small a b (-1) = true := by
  unfold Builtin.Range.small Builtin.Range.rangeFitsLong
  rw [rsize3]
  simp
  lia
theorem forD {x : Str} {px : Pos} {body : List Stmt} {r : Addr} {a b : Int} {t u v : Tok} {P : Flow → Heap → Prop} (hh : A.handled = none) (S : St h₀ Y cs env lo h) (hr : h.get? r = some (rng a b (-1) t u v)) (ha : -1000000 ≤ a) (ha' : a ≤ 1000000) (hb : -1000000 ≤ b) (h1 : b ≤ 1000000)
    (J : Nat → Gh → List (Addr × Obj) → List (Str × Value) → Prop) (hJ : J 0 Y cs lo)
    (turn : ∀ (i : Nat) t Y' cs' lo' h' I oI, b < a - (i : Int) → Le Y Y' → J i Y' cs' lo' → St h₀ Y' ((I, oI) :: cs') env lo' h' →
      Tr w z A (storeName env x (.int (a - i) t)) h' fun _ h₁ => Tr w z A (execs body env) h₁ (TurnEnd P fun h₂ => ∃ Y₂ cs₂ lo₂, St h₀ Y₂ ((I, oI) :: cs₂) env lo₂ h₂ ∧ Le Y' Y₂ ∧ J (i + 1) Y₂ cs₂ lo₂))
    (done : ∀ Y' cs' lo' h', Le Y Y' → J (a - b).toNat Y' cs' lo' → St h₀ Y' cs' env lo' h' → P .next h') : ForIn w z A env (.Name x px) body P (.ref r) h :=
  in_range hh S hr (small_down ha ha' hb h1) rsize3 J hJ (fun i t Y' cs' lo' h' I oI hi hle hJ' S' => by
    rw [show (a + (i : Int) * (-1)) = a - (i : Int) by lia]
    exact turn i t Y' cs' lo' h' I oI (by lia) hle hJ' S') done
end
theorem szle {n k : Nat} (h : n ≤ k) (hk : k ≤ 16777216) : n ≤ sizeLine := by rw [sizeLine_eq]; lia
end
section -- Pre2
set_option maxRecDepth 10000
/-- a list of pairs of ints that stays -/
noncomputable def PairsIs (Y : Gh) (vs : List Value) (ps : List (Int × Int)) : Prop := vs.length = ps.length ∧ ∀ (i : Nat) (p : Int × Int), ps[i]? = some p → ∃ (T : Addr) (t u : Tok) (n : Nat), vs[i]? = some (.ref T) ∧ Y T = some (tup [.int p.1 t, .int p.2 u] n)
theorem PairsIs.mono {Y Z : Gh} {vs : List Value} {ps : List (Int × Int)} (h : PairsIs Y vs ps) (l : Le Y Z) : PairsIs Z vs ps :=
  ⟨h.1, fun i p e => let ⟨T, t, u, n, a, b⟩ := h.2 i p e; ⟨T, t, u, n, a, l _ _ b⟩⟩
theorem PairsIs.nil (Y : Gh) : PairsIs Y [] [] := ⟨rfl, fun i p e => by simp at e⟩
theorem PairsIs.snoc {Y : Gh} {vs : List Value} {ps : List (Int × Int)} {T : Addr} {x y : Int} {t u : Tok} {n : Nat} (h : PairsIs Y vs ps) (e : Y T = some (tup [.int x t, .int y u] n)) : PairsIs Y (vs ++ [.ref T]) (ps ++ [(x, y)]) := by
  refine ⟨by simp [h.1], fun i p hp => ?_⟩
  by_cases hi : i < ps.length
  · rw [List.getElem?_append_left hi] at hp
    obtain ⟨T', t', u', n', a, b⟩ := h.2 i p hp
    exact ⟨T', t', u', n', by rw [List.getElem?_append_left (by rw [h.1]; exact hi)]; exact a, b⟩
  · rw [List.getElem?_append_right (by lia)] at hp
    have hi' : i = ps.length := by
      have := (List.getElem?_eq_some_iff.mp hp).1
      simp at this; lia
    subst hi'
    simp at hp
    subst hp
    exact ⟨T, t, u, n, by rw [← h.1]; simp, e⟩
/-- the piece i beside the interval j stands in a cheapest way -/
noncomputable def hit (ns : List Int) (first : Int) (m i j : Nat) : Bool := decide (Fw (fun i => ns.getD i 0) first i j + b2i (!due (ns.getD i 0) (first + j)) + Bk (fun i => ns.getD i 0) first ns.length m (ns.length - (i + 1)) (m - (j + 1)) = Bk (fun i => ns.getD i 0) first ns.length m ns.length m)
/-- the pairs found for one piece -/
noncomputable def pairsAt (ns : List Int) (first : Int) (m i k : Nat) : List (Int × Int) := (List.range k).filterMap fun j => if hit ns first m i j then some ((i : Int), first + (j : Int)) else none
theorem pairsAt_t {ns : List Int} {first : Int} {m i j : Nat} (h : hit ns first m i j = true) : pairsAt ns first m i (j + 1) = pairsAt ns first m i j ++ [((i : Int), first + (j : Int))] := by
  simp [pairsAt, List.range_succ, h]
theorem pairsAt_f {ns : List Int} {first : Int} {m i j : Nat} (h : hit ns first m i j = false) : pairsAt ns first m i (j + 1) = pairsAt ns first m i j := by
  simp [pairsAt, List.range_succ, h]
noncomputable def pairsF (ns : List Int) (first : Int) (m k : Nat) : List (Int × Int) := (List.range k).flatMap fun i => pairsAt ns first m i m
theorem pairsF_succ (ns : List Int) (first : Int) (m k : Nat) : pairsF ns first m (k + 1) = pairsF ns first m k ++ pairsAt ns first m k m := by simp [pairsF, List.range_succ]
theorem pairsAt_len (ns : List Int) (first : Int) (m i k : Nat) : (pairsAt ns first m i k).length ≤ k := by
  unfold pairsAt
  exact Nat.le_trans (List.length_filterMap_le _ _) (by simp)
theorem pairsF_len (ns : List Int) (first : Int) (m k : Nat) : (pairsF ns first m k).length ≤ k * m := by
  induction k with
  | zero => simp [pairsF]
  | succ k ih => rw [pairsF_succ, List.length_append, Nat.succ_mul]; exact Nat.add_le_add ih (pairsAt_len ..)
end
section -- Pre3
set_option maxRecDepth 10000
/-- the numbers that stand at place i -/
noncomputable def grp (L : List (Int × Int)) (i : Int) : List Int := L.filterMap fun p => if p.2 = i then some p.1 else none
theorem grp_snoc (L : List (Int × Int)) (v i j : Int) : grp (L ++ [(v, i)]) j = if i = j then grp L j ++ [v] else grp L j := by
  unfold grp
  rw [List.filterMap_append]
  by_cases e : i = j
  · simp [e]
  · simp [e]
theorem grp_len (L : List (Int × Int)) (i : Int) : (grp L i).length ≤ L.length := List.length_filterMap_le _ _
section
variable {w : World} {z : Shared} {A : Around} {h₀ : Heap} {Y : Gh} {cs : List (Addr × Obj)} {env : Env} {lo : List (Str × Value)} {h : Heap}
theorem St.perm {cs' : List (Addr × Obj)} (S : St h₀ Y cs env lo h) (p : cs.Perm cs') : St h₀ Y cs' env lo h :=
  S.cells (fun _ hq => p.mem_iff.mpr hq) ((p.pairwise_iff fun a => a.symm).mp S.nd)
theorem m_appendAt {i : Nat} {l : Addr} {vs : List Value} {n : Nat} {x : Value} {P : Value → Heap → Prop} (S : St h₀ Y cs env lo h) (hi : cs[i]? = some (l, lst vs n)) (hsz : vs.length ≤ sizeLine)
    (H : ∀ h', St h₀ Y (cs.set i (l, lst (vs ++ [x]) (n + 1))) env lo h' → P .none h') : Tr w z A (call (.builtin "list.append") [.ref l, x]) h P := by
  obtain ⟨hlt, hg⟩ := List.getElem?_eq_some_iff.mp hi
  have p1 : ∀ q : Addr × Obj, (cs.set i q).Perm (q :: cs.eraseIdx i) := fun q => by
    rw [List.set_eq_take_append_cons_drop, if_pos hlt, List.eraseIdx_eq_take_drop_succ]
    exact List.perm_middle
  have p0 : cs.Perm ((l, lst vs n) :: cs.eraseIdx i) := by
    have := p1 (l, lst vs n)
    rwa [← hg, List.set_getElem_self, hg] at this
  exact m_append (S.perm p0) hsz fun h' S' => H h' (S'.perm (p1 _).symm)

/-- the homes: a list of lists, the inner ones still turning -/
noncomputable def HC (count : Nat) (ds : List Value) (hc : List (Addr × Obj)) (L : List (Int × Int)) : Prop :=
  ds.length = count ∧ ∀ i, i < count → ∃ D vs n, ds[i]? = some (.ref D) ∧ hc[i]? = some (D, lst vs n) ∧ IntsAre vs (grp L i)
theorem HC.put {count : Nat} {ds : List Value} {hc : List (Addr × Obj)} {L : List (Int × Int)} {i : Nat} {D : Addr} {vs : List Value} {n : Nat} {v : Int} {t : Tok} (H : HC count ds hc L) (hi : i < count) (hd : ds[i]? = some (.ref D)) (hv : IntsAre vs (grp L i)) :
    HC count ds (hc.set i (D, lst (vs ++ [.int v t]) n)) (L ++ [(v, (i : Int))]) := by
  refine ⟨H.1, fun j hj => ?_⟩
  obtain ⟨D', us, m, h1, h2, h3⟩ := H.2 j hj
  rw [grp_snoc]
  by_cases e : i = j
  · subst e
    have hlt := (List.getElem?_eq_some_iff.mp h2).1
    exact ⟨D, _, n, hd, by rw [List.getElem?_set_self hlt], by rw [if_pos rfl]; exact hv.append (.cons _ _ .nil)⟩
  · exact ⟨D', us, m, h1, by rw [List.getElem?_set_ne e]; exact h2, by rw [if_neg (by lia)]; exact h3⟩
theorem HC.tab {count : Nat} {ds : List Value} {hc : List (Addr × Obj)} {L : List (Int × Int)} {Z : Gh} (H : HC count ds hc L) (hz : ∀ p ∈ hc, Z p.1 = some p.2) : TabIs Z ds (fun i => grp L i) count :=
  ⟨H.1, fun i hi => let ⟨D, vs, n, h1, h2, h3⟩ := H.2 i hi; ⟨_, h1, D, vs, n, rfl, hz _ (List.mem_of_getElem? h2), h3⟩⟩

theorem HC.pick {count : Nat} {ds : List Value} {hc : List (Addr × Obj)} {L : List (Int × Int)} (H : HC count ds hc L) {i : Nat} (hi : i < count) : ∃ D vs n, ds[i]? = some (.ref D) ∧ (D, lst vs n) ∈ hc :=
  let ⟨D, vs, n, h1, h2, _⟩ := H.2 i hi
  ⟨D, vs, n, h1, List.mem_of_getElem? h2⟩
theorem m_appH {pre hc : List (Addr × Obj)} {count : Nat} {ds : List Value} {L : List (Int × Int)} {i : Nat} {D : Addr} {v : Int} {t : Tok} {P : Value → Heap → Prop} (S : St h₀ Y (pre ++ hc) env lo h) (hH : HC count ds hc L) (hi : i < count) (hd : ds[i]? = some (.ref D)) (hL : L.length ≤ 20000)
    (H : ∀ h' hc', HC count ds hc' (L ++ [(v, (i : Int))]) → St h₀ Y (pre ++ hc') env lo h' → P .none h') : Tr w z A (call (.builtin "list.append") [.ref D, .int v t]) h P := by
  obtain ⟨D', vs, n, h1, h2, h3⟩ := hH.2 i hi
  rw [hd] at h1
  cases h1
  refine m_appendAt (i := pre.length + i) S (by rw [List.getElem?_append_right (by lia), show pre.length + i - pre.length = i by lia]; exact h2) (szle (k := 20000) (by rw [h3.length]; exact Nat.le_trans (grp_len _ _) hL) (by decide)) fun h' S' => ?_
  rw [List.set_append_right _ _ (by lia), show pre.length + i - pre.length = i by lia] at S'
  exact H h' _ (hH.put hi hd h3) S'
theorem e_slice {value lower upper : PySem.Expr} {p pos : Pos} {P : Value → Heap → Prop}
    (H : Tr w z A (eval value env) h fun o h₁ => Tr w z A (eval lower env) h₁ fun vl h₂ => Tr w z A (eval upper env) h₂ fun vu h₃ =>
      ∃ l vs n x y t u, o = .ref l ∧ vl = .int x t ∧ vu = .int y u ∧ h₃.get? l = some (lst vs n) ∧ vs.length ≤ sizeLine ∧ ∃ h₀ Y cs lo, St h₀ Y cs env lo h₃ ∧
        ∀ a h₄, St h₀ Y ((a, lst (slicePick vs.toArray (some x) (some y) none).toList 0) :: cs) env lo h₄ → P (.ref a) h₄)
    (ht : ∀ o r, letTemporaryGo value o r = pure () := by intro _ _; rfl) : Tr w z A (eval (.Subscript value (.Slice (some lower) (some upper) none p) pos) env) h P := fun tk => by
  refine wpAny_Subscript_list_slice (seqW (H tk) fun o h₁ tk₁ k₁ => ?_) ht
  rw [evalPart_some]
  refine seqW (k₁ tk₁) fun vl h₂ tk₂ k₂ => ?_
  rw [evalPart_some]
  refine seqW (k₂ tk₂) fun vu h₃ tk₃ k₃ => ?_
  obtain ⟨l, vs, n, x, y, t, u, rfl, rfl, rfl, e, hsz, g, Y, cs, lo, S, k⟩ := k₃
  refine ⟨l, vs.toArray, _, _, rfl, isL e, by rw [List.size_toArray]; exact hsz, .int _ _, .int _ _, ?_⟩
  have S1 := S.push (o := { cls := .type "slice", data := .fields #[.int x t, .int y u, .none] })
  have S2 := S1.push (o := lst (slicePick vs.toArray (some x) (some y) none).toList 0)
  have S3 := S2.swap.drop
  refine ⟨_, tk₃, rfl, ?_⟩
  have := k _ _ S3
  rw [Heap.size_push] at this
  exact this
end
/-- the appends of the homes -/
noncomputable def homesL (ns : List Int) (count ah be : Nat) : List (Int × Int) :=
  [(0, 0)] ++ (List.range ah).map (fun (i : Nat) => ((i : Int) + 1, (i : Int) + 1)) ++
  (pairsF ((ns.drop (ah + 1)).take (ns.length - be - (ah + 1))) ((ah : Int) + 1) (count - 1 - ah - be) (ns.length - be - (ah + 1))).map (fun p => ((ah : Int) + 1 + p.1, p.2)) ++
  (List.range be).map (fun (s : Nat) => ((ns.length : Int) - ((be : Int) - s), (count : Int) - ((be : Int) - s)))
theorem pairsF_mem {ns : List Int} {first : Int} {m k : Nat} {p : Int × Int} (h : p ∈ pairsF ns first m k) : ∃ i j : Nat, i < k ∧ j < m ∧ p = ((i : Int), first + (j : Int)) ∧ hit ns first m i j = true := by
  obtain ⟨i, hi, h1⟩ := List.mem_flatMap.mp h
  obtain ⟨j, hj, h2⟩ := List.mem_filterMap.mp h1
  split at h2
  · rename_i hh
    cases h2
    exact ⟨i, j, List.mem_range.mp hi, List.mem_range.mp hj, rfl, hh⟩
  · cases h2
end
section -- M1
/-! the plain law: ways through the table -/
noncomputable abbrev cst (ns : Nat → Int) (first : Int) (i j : Nat) : Int := b2i (!due (ns i) (first + j))
inductive Pt (ns : Nat → Int) (first : Int) (a b : Nat) : Nat → Nat → Int → Prop
  | nil : Pt ns first a b a b 0
  | dg {k l : Nat} {x : Int} (p : Pt ns first a b k l x) : Pt ns first a b (k + 1) (l + 1) (x + cst ns first k l)
  | up {k l : Nat} {x : Int} (p : Pt ns first a b k l x) : Pt ns first a b (k + 1) l (x + 1)
  | lf {k l : Nat} {x : Int} (p : Pt ns first a b k l x) : Pt ns first a b k (l + 1) (x + 1)
theorem b2i_or (b : Bool) : b2i b = 0 ∨ b2i b = 1 := by cases b <;> simp [b2i]
theorem b2i_t (b : Bool) : b2i b = 1 ↔ b = true := by cases b <;> simp [b2i]
theorem b2i_z (b : Bool) : b2i b = 0 ↔ b = false := by cases b <;> simp [b2i]
section
variable {ns : Nat → Int} {first : Int} {a b k l p q : Nat} {x y : Int}
theorem cst_or (i j : Nat) : cst ns first i j = 0 ∨ cst ns first i j = 1 := b2i_or _
theorem cst_z {i j : Nat} : cst ns first i j = 0 ↔ ns i = (first + j - 1) % 8 := by
  unfold cst; rw [b2i_z]; simp [due]
theorem Pt.app (h : Pt ns first a b k l x) (g : Pt ns first k l p q y) : Pt ns first a b p q (x + y) := by
  induction g with
  | nil => simpa using h
  | dg _ ih => rw [← Int.add_assoc]; exact ih.dg
  | up _ ih => rw [← Int.add_assoc]; exact ih.up
  | lf _ ih => rw [← Int.add_assoc]; exact ih.lf
theorem Pt.le (h : Pt ns first a b k l x) : a ≤ k ∧ b ≤ l := by
  induction h with
  | nil => exact ⟨Nat.le_refl _, Nat.le_refl _⟩
  | dg _ ih => lia
  | up _ ih => lia
  | lf _ ih => lia
/-- a way costs at least what it leans -/
theorem Pt.lean (h : Pt ns first a b k l x) : 0 ≤ x ∧ (k : Int) - a - (l - b) ≤ x ∧ (l : Int) - b - (k - a) ≤ x := by
  induction h with
  | nil => lia
  | @dg k l x _ ih => have := cst_or (ns := ns) (first := first) k l; lia
  | up _ ih => lia
  | lf _ ih => lia
theorem Fw_step : Fw ns first (k + 1) (l + 1) = min (min (Fw ns first k l + cst ns first k l) (Fw ns first k (l + 1) + 1)) (Fw ns first (k + 1) l + 1) := by rw [Fw]
theorem Fw_dg : Fw ns first (k + 1) (l + 1) ≤ Fw ns first k l + cst ns first k l := by rw [Fw_step]; lia
theorem Fw_0l : Fw ns first 0 l = l := by rw [Fw]
theorem Fw_k0 : Fw ns first k 0 = k := by
  cases k with
  | zero => rw [Fw]
  | succ k => rw [Fw]; lia
theorem Fw_up : Fw ns first (k + 1) l ≤ Fw ns first k l + 1 := by
  cases l with
  | zero => rw [Fw_k0, Fw_k0]; lia
  | succ l => rw [Fw_step]; lia
theorem Fw_lf : Fw ns first k (l + 1) ≤ Fw ns first k l + 1 := by
  cases k with
  | zero => rw [Fw_0l, Fw_0l]; lia
  | succ k => rw [Fw_step]; lia
theorem Fw_least (h : Pt ns first 0 0 k l x) : Fw ns first k l ≤ x := by
  induction h with
  | nil => rw [Fw_k0]; lia
  | dg _ ih => have := Fw_dg (ns := ns) (first := first) (k := by assumption) (l := by assumption); exact Int.le_trans Fw_dg (by lia)
  | up _ ih => exact Int.le_trans Fw_up (by lia)
  | lf _ ih => exact Int.le_trans Fw_lf (by lia)
theorem Fw_path : ∀ k l, Pt ns first 0 0 k l (Fw ns first k l)
  | 0, 0 => by rw [Fw_k0]; exact .nil
  | 0, l + 1 => by
    have := (Fw_path 0 l).lf
    rw [Fw_0l] at this ⊢; push_cast; exact this
  | k + 1, 0 => by
    have := (Fw_path k 0).up
    rw [Fw_k0] at this ⊢; push_cast; exact this
  | k + 1, l + 1 => by
    have h1 := (Fw_path k l).dg
    have h2 := (Fw_path k (l + 1)).up
    have h3 := (Fw_path (k + 1) l).lf
    rw [Fw_step]
    rcases Int.le_total (Fw ns first k l + cst ns first k l) (Fw ns first k (l + 1) + 1) with e | e
    · rw [Int.min_eq_left e]
      rcases Int.le_total (Fw ns first k l + cst ns first k l) (Fw ns first (k + 1) l + 1) with e2 | e2
      · rw [Int.min_eq_left e2]; exact h1
      · rw [Int.min_eq_right e2]; exact h3
    · rw [Int.min_eq_right e]
      rcases Int.le_total (Fw ns first k (l + 1) + 1) (Fw ns first (k + 1) l + 1) with e2 | e2
      · rw [Int.min_eq_left e2]; exact h2
      · rw [Int.min_eq_right e2]; exact h3
variable {n m : Nat}
theorem Bk_0l : Bk ns first n m 0 l = l := by rw [Bk]
theorem Bk_k0 : Bk ns first n m k 0 = k := by
  cases k with
  | zero => rw [Bk]
  | succ k => rw [Bk]; lia
theorem Bk_step (hk : k < n) (hl : l < m) : Bk ns first n m (n - k) (m - l) = min (min (Bk ns first n m (n - (k + 1)) (m - (l + 1)) + cst ns first k l) (Bk ns first n m (n - (k + 1)) (m - l) + 1)) (Bk ns first n m (n - k) (m - (l + 1)) + 1) := by
  rw [show n - k = n - (k + 1) + 1 by lia, show m - l = m - (l + 1) + 1 by lia, Bk, show n - 1 - (n - (k + 1)) = k by lia, show (m : Int) - 1 - ((m - (l + 1) : Nat) : Int) = (l : Int) by lia]
theorem Bk_up (hk : k < n) (hl : l ≤ m) : Bk ns first n m (n - k) (m - l) ≤ Bk ns first n m (n - (k + 1)) (m - l) + 1 := by
  by_cases e : l = m
  · subst e; rw [Nat.sub_self, Bk_k0, Bk_k0]; lia
  · rw [Bk_step hk (by lia)]; lia
theorem Bk_lf (hk : k ≤ n) (hl : l < m) : Bk ns first n m (n - k) (m - l) ≤ Bk ns first n m (n - k) (m - (l + 1)) + 1 := by
  by_cases e : k = n
  · subst e; rw [Nat.sub_self, Bk_0l, Bk_0l]; lia
  · rw [Bk_step (by lia) hl]; lia
theorem Bk_before (h : Pt ns first a b k l x) (hk : k ≤ n) (hl : l ≤ m) : Bk ns first n m (n - a) (m - b) ≤ x + Bk ns first n m (n - k) (m - l) := by
  induction h with
  | nil => lia
  | @dg k l x _ ih =>
    have h1 := ih (by lia) (by lia)
    have h2 := Bk_step (ns := ns) (first := first) (n := n) (m := m) (k := k) (l := l) (by lia) (by lia)
    lia
  | @up k l x _ ih =>
    have h1 := ih (by lia) (by lia)
    have h2 := Bk_up (ns := ns) (first := first) (n := n) (m := m) (k := k) (l := l) (by lia) (by lia)
    lia
  | @lf k l x _ ih =>
    have h1 := ih (by lia) (by lia)
    have h2 := Bk_lf (ns := ns) (first := first) (n := n) (m := m) (k := k) (l := l) (by lia) (by lia)
    lia
theorem Bk_least (h : Pt ns first a b n m x) : Bk ns first n m (n - a) (m - b) ≤ x := by
  have := Bk_before h (Nat.le_refl n) (Nat.le_refl m)
  rw [Nat.sub_self, Nat.sub_self, Bk_0l] at this
  lia
theorem Pt.dg1 : Pt ns first k l (k + 1) (l + 1) (cst ns first k l) := by simpa using (Pt.nil (ns := ns) (first := first) (a := k) (b := l)).dg
theorem Pt.up1 : Pt ns first k l (k + 1) l 1 := by simpa using (Pt.nil (ns := ns) (first := first) (a := k) (b := l)).up
theorem Pt.lf1 : Pt ns first k l k (l + 1) 1 := by simpa using (Pt.nil (ns := ns) (first := first) (a := k) (b := l)).lf
theorem min3 {P : Int → Prop} {u v x : Int} (h1 : P u) (h2 : P v) (h3 : P x) : P (min (min u v) x) := by
  rcases Int.le_total u v with e | e
  · rw [Int.min_eq_left e]
    rcases Int.le_total u x with e2 | e2
    · rw [Int.min_eq_left e2]; exact h1
    · rw [Int.min_eq_right e2]; exact h3
  · rw [Int.min_eq_right e]
    rcases Int.le_total v x with e2 | e2
    · rw [Int.min_eq_left e2]; exact h2
    · rw [Int.min_eq_right e2]; exact h3
theorem Bk_path : ∀ s k l, n - k + (m - l) ≤ s → k ≤ n → l ≤ m → Pt ns first k l n m (Bk ns first n m (n - k) (m - l)) := by
  intro s
  induction s with
  | zero =>
    intro k l e hk hl
    rw [show k = n by lia, show l = m by lia, Nat.sub_self, Nat.sub_self, Bk_0l]; exact .nil
  | succ s ih =>
    intro k l e hk hl
    by_cases hkn : k = n
    · subst hkn
      by_cases hlm : l = m
      · subst hlm; rw [Nat.sub_self, Nat.sub_self, Bk_0l]; exact .nil
      have h := (Pt.lf1 (ns := ns) (first := first)).app (ih k (l + 1) (by lia) hk (by lia))
      rw [Nat.sub_self, Bk_0l] at h ⊢
      rw [show ((m - l : Nat) : Int) = 1 + ((m - (l + 1) : Nat) : Int) by lia]; exact h
    · have h2 := (Pt.up1 (ns := ns) (first := first)).app (ih (k + 1) l (by lia) (by lia) hl)
      by_cases hlm : l = m
      · subst hlm
        rw [Nat.sub_self, Bk_k0] at h2 ⊢
        rw [show ((n - k : Nat) : Int) = 1 + ((n - (k + 1) : Nat) : Int) by lia]; exact h2
      · have h3 := (Pt.lf1 (ns := ns) (first := first)).app (ih k (l + 1) (by lia) hk (by lia))
        have h1 := (Pt.dg1 (ns := ns) (first := first)).app (ih (k + 1) (l + 1) (by lia) (by lia) (by lia))
        rw [Bk_step (by lia) (by lia)]
        exact min3 (P := Pt ns first k l n m) (by rw [Int.add_comm]; exact h1) (by rw [Int.add_comm]; exact h2) (by rw [Int.add_comm]; exact h3)
theorem Bk_Fw : Bk ns first n m n m = Fw ns first n m := by
  have h1 := Fw_least (Bk_path (ns := ns) (first := first) (n := n) (m := m) _ 0 0 (Nat.le_refl _) (by lia) (by lia))
  have h2 := Bk_least (Fw_path (ns := ns) (first := first) n m)
  simp only [Nat.sub_zero] at h1 h2
  lia
/-- some cheapest way to (k, l) sets piece i beside interval j -/
noncomputable def Best (ns : Nat → Int) (first : Int) (k l i j : Nat) : Prop := ∃ x y, Pt ns first 0 0 i j x ∧ Pt ns first (i + 1) (j + 1) k l y ∧ x + cst ns first i j + y = Fw ns first k l
end
theorem hit_iff {ns : List Int} {first : Int} {m i j : Nat} (hi : i < ns.length) (hj : j < m) : hit ns first m i j = true ↔ Best (fun i => ns.getD i 0) first ns.length m i j := by
  unfold hit
  rw [decide_eq_true_iff, Bk_Fw]
  constructor
  · intro h
    exact ⟨_, _, Fw_path i j, Bk_path _ (i + 1) (j + 1) (Nat.le_refl _) (by lia) (by lia), h⟩
  · rintro ⟨x, y, h1, h2, h3⟩
    have g1 := Fw_least h1
    have g2 := Bk_least h2
    have g3 := Fw_least (((Fw_path (ns := fun i => ns.getD i 0) (first := first) i j).dg).app (Bk_path (n := ns.length) (m := m) _ (i + 1) (j + 1) (Nat.le_refl _) (by lia) (by lia)))
    show Fw (fun i => ns.getD i 0) first i j + cst (fun i => ns.getD i 0) first i j + _ = _
    lia

/-- the law's own table of pairs, as a set -/
noncomputable def Us (ns : Nat → Int) (first : Int) : Nat → Nat → Int → Int → Prop
  | 0, 0 => fun p q => p = 0 ∧ q = 0
  | 0, l + 1 => Us ns first 0 l
  | k + 1, 0 => Us ns first k 0
  | k + 1, l + 1 => fun p q =>
    (Fw ns first k l + cst ns first k l = Fw ns first (k + 1) (l + 1) ∧ (Us ns first k l p q ∨ p = (k : Int) + 1 ∧ q = (l : Int) + 1)) ∨
    (Fw ns first k (l + 1) + 1 = Fw ns first (k + 1) (l + 1) ∧ Us ns first k (l + 1) p q) ∨
    (Fw ns first (k + 1) l + 1 = Fw ns first (k + 1) (l + 1) ∧ Us ns first (k + 1) l p q)
termination_by k l => (k, l)
theorem Us_00 {ns : Nat → Int} {first : Int} {p q : Int} : Us ns first 0 0 p q ↔ p = 0 ∧ q = 0 := by rw [Us]
theorem Us_0l {ns : Nat → Int} {first : Int} {l : Nat} {p q : Int} : Us ns first 0 (l + 1) p q ↔ Us ns first 0 l p q := by rw [Us]
theorem Us_k0 {ns : Nat → Int} {first : Int} {k : Nat} {p q : Int} : Us ns first (k + 1) 0 p q ↔ Us ns first k 0 p q := by rw [Us]
theorem Us_kl {ns : Nat → Int} {first : Int} {k l : Nat} {p q : Int} : Us ns first (k + 1) (l + 1) p q ↔ (Fw ns first k l + cst ns first k l = Fw ns first (k + 1) (l + 1) ∧ (Us ns first k l p q ∨ p = (k : Int) + 1 ∧ q = (l : Int) + 1)) ∨
    (Fw ns first k (l + 1) + 1 = Fw ns first (k + 1) (l + 1) ∧ Us ns first k (l + 1) p q) ∨
    (Fw ns first (k + 1) l + 1 = Fw ns first (k + 1) (l + 1) ∧ Us ns first (k + 1) l p q) := by rw [Us]
theorem Fw_cases (ns : Nat → Int) (first : Int) (k l : Nat) : Fw ns first k l + cst ns first k l = Fw ns first (k + 1) (l + 1) ∨ Fw ns first k (l + 1) + 1 = Fw ns first (k + 1) (l + 1) ∨ Fw ns first (k + 1) l + 1 = Fw ns first (k + 1) (l + 1) := by
  rw [Fw_step]; lia
theorem Us_zero (ns : Nat → Int) (first : Int) : ∀ k l, Us ns first k l 0 0
  | 0, 0 => Us_00.mpr ⟨rfl, rfl⟩
  | 0, l + 1 => Us_0l.mpr (Us_zero ns first 0 l)
  | k + 1, 0 => Us_k0.mpr (Us_zero ns first k 0)
  | k + 1, l + 1 => Us_kl.mpr (by
    rcases Fw_cases ns first k l with e | e | e
    · exact .inl ⟨e, .inl (Us_zero ns first k l)⟩
    · exact .inr (.inl ⟨e, Us_zero ns first k (l + 1)⟩)
    · exact .inr (.inr ⟨e, Us_zero ns first (k + 1) l⟩))
theorem Us_pos {ns : Nat → Int} {first : Int} {p q : Int} : ∀ k l, Us ns first k l p q → (p = 0 ∧ q = 0) ∨ ∃ i j : Nat, p = (i : Int) + 1 ∧ q = (j : Int) + 1
  | 0, 0, h => .inl (Us_00.mp h)
  | 0, l + 1, h => Us_pos 0 l (Us_0l.mp h)
  | k + 1, 0, h => Us_pos k 0 (Us_k0.mp h)
  | k + 1, l + 1, h => by
    rcases Us_kl.mp h with ⟨_, h | h⟩ | ⟨_, h⟩ | ⟨_, h⟩
    · exact Us_pos k l h
    · exact .inr ⟨k, l, h⟩
    · exact Us_pos k (l + 1) h
    · exact Us_pos (k + 1) l h
theorem Us_best {ns : Nat → Int} {first : Int} {i j : Nat} : ∀ k l, Us ns first k l ((i : Int) + 1) ((j : Int) + 1) ↔ Best ns first k l i j
  | 0, 0 => ⟨fun h => absurd (Us_00.mp h).1 (by lia), fun ⟨_, _, _, h, _⟩ => absurd h.le.1 (by lia)⟩
  | 0, l + 1 => ⟨fun h => by
      obtain ⟨_, _, _, h, _⟩ := (Us_best 0 l).mp (Us_0l.mp h)
      exact absurd h.le.1 (by lia), fun ⟨_, _, _, h, _⟩ => absurd h.le.1 (by lia)⟩
  | k + 1, 0 => ⟨fun h => by
      obtain ⟨_, _, _, h, _⟩ := (Us_best k 0).mp (Us_k0.mp h)
      exact absurd h.le.2 (by lia), fun ⟨_, _, _, h, _⟩ => absurd h.le.2 (by lia)⟩
  | k + 1, l + 1 => by
    constructor
    · intro h
      rcases Us_kl.mp h with ⟨e, h | h⟩ | ⟨e, h⟩ | ⟨e, h⟩
      · obtain ⟨x, y, h1, h2, h3⟩ := (Us_best k l).mp h
        exact ⟨x, _, h1, h2.dg, by lia⟩
      · obtain ⟨rfl, rfl⟩ : i = k ∧ j = l := by lia
        exact ⟨_, _, Fw_path i j, .nil, by lia⟩
      · obtain ⟨x, y, h1, h2, h3⟩ := (Us_best k (l + 1)).mp h
        exact ⟨x, _, h1, h2.up, by lia⟩
      · obtain ⟨x, y, h1, h2, h3⟩ := (Us_best (k + 1) l).mp h
        exact ⟨x, _, h1, h2.lf, by lia⟩
    · rintro ⟨x, y, h1, h2, h3⟩
      have a1 := Fw_dg (ns := ns) (first := first) (k := k) (l := l)
      have a2 := Fw_up (ns := ns) (first := first) (k := k) (l := l + 1)
      have a3 := Fw_lf (ns := ns) (first := first) (k := k + 1) (l := l)
      refine Us_kl.mpr ?_
      cases h2 with
      | nil =>
        have := Fw_least h1
        exact .inl ⟨by lia, .inr ⟨rfl, rfl⟩⟩
      | @dg _ _ y' h2 =>
        have := Fw_least (h1.dg.app h2)
        exact .inl ⟨by lia, .inl ((Us_best k l).mpr ⟨x, y', h1, h2, by lia⟩)⟩
      | @up _ _ y' h2 =>
        have := Fw_least (h1.dg.app h2)
        exact .inr (.inl ⟨by lia, (Us_best k (l + 1)).mpr ⟨x, y', h1, h2, by lia⟩⟩)
      | @lf _ _ y' h2 =>
        have := Fw_least (h1.dg.app h2)
        exact .inr (.inr ⟨by lia, (Us_best (k + 1) l).mpr ⟨x, y', h1, h2, by lia⟩⟩)
termination_by k l => (k, l)
end
section -- M2
theorem mem_grp {L : List (Int × Int)} {v i : Int} : v ∈ grp L i ↔ (v, i) ∈ L := by
  unfold grp
  rw [List.mem_filterMap]
  constructor
  · rintro ⟨⟨a, b⟩, h, e⟩
    split at e
    · rename_i q; cases e; simp only at q; subst q; exact h
    · cases e
  · intro h; exact ⟨_, h, by simp⟩
section
variable {ns : Nat → Int} {first : Int}
theorem Fw_ge {N M : Nat} : 0 ≤ Fw ns first N M ∧ (N : Int) - M ≤ Fw ns first N M ∧ (M : Int) - N ≤ Fw ns first N M := by
  have := (Fw_path (ns := ns) (first := first) N M).lean
  lia
theorem diag0 {a b : Nat} : ∀ d, (∀ t, t < d → cst ns first (a + t) (b + t) = 0) → Pt ns first a b (a + d) (b + d) 0
  | 0, _ => .nil
  | d + 1, h => by
    have := (diag0 d fun t ht => h t (by lia)).dg
    rw [h d (by lia)] at this
    exact this
theorem diag1 {a b k l : Nat} (hk : a ≤ k) (hl : l + a = b + k) (h : ∀ t, a + t < k → cst ns first (a + t) (b + t) = 0) : Pt ns first a b k l 0 := by
  obtain ⟨d, rfl⟩ : ∃ d, k = a + d := ⟨k - a, by lia⟩
  obtain rfl : l = b + d := by lia
  exact diag0 d fun t ht => h t (by lia)
theorem zero_diag {a b k l : Nat} {x : Int} (h : Pt ns first a b k l x) : x = 0 → k + b = l + a ∧ ∀ t, a + t < k → cst ns first (a + t) (b + t) = 0 := by
  induction h with
  | nil => intro _; exact ⟨by lia, fun t ht => by lia⟩
  | @dg k l x p ih =>
    intro e
    have h1 := p.lean
    have h2 := cst_or (ns := ns) (first := first) k l
    obtain ⟨i1, i2⟩ := ih (by lia)
    have h3 := p.le
    refine ⟨by lia, fun t ht => ?_⟩
    by_cases q : a + t = k
    · rw [q, show b + t = l by lia]; lia
    · exact i2 t (by lia)
  | up p _ => intro e; have := p.lean; lia
  | lf p _ => intro e; have := p.lean; lia

/-- one piece is gone: at a -/
theorem best_pop {N a : Nat} (ha : a ≤ N) (h1 : ∀ i, i < a → ns i = (first + i - 1) % 8) (h2 : ∀ i, a ≤ i → i < N → ns i = (first + i) % 8) (i j : Nat) (hi : i < N) (hj : j < N + 1) :
    Best ns first N (N + 1) i j ↔ (i < a ∧ j = i) ∨ (a ≤ i ∧ j = i + 1) := by
  have c1 : ∀ i, i < a → cst ns first i i = 0 := fun i hi => cst_z.mpr (h1 i hi)
  have c2 : ∀ i, a ≤ i → i < N → cst ns first i (i + 1) = 0 := fun i hi hn => cst_z.mpr (by rw [h2 i hi hn]; push_cast; congr 1; lia)
  have pre : ∀ s k, s ≤ k → k ≤ a → Pt ns first s s k k 0 := fun s k hs hk => diag1 hs (by lia) fun t ht => c1 _ (by lia)
  have post : ∀ s k, a ≤ s → s ≤ k → k ≤ N → Pt ns first s (s + 1) k (k + 1) 0 := fun s k hs hk hn => diag1 hk (by lia) fun t ht => by
    rw [show s + 1 + t = s + t + 1 by lia]; exact c2 _ (by lia) (by lia)
  have full : ∀ s k, s ≤ a → a ≤ k → k ≤ N → Pt ns first s s k (k + 1) 1 := fun s k hs hk hn => by
    have := ((pre s a hs (Nat.le_refl _)).lf).app (post a k (Nat.le_refl _) hk hn)
    simpa using this
  have hT : Fw ns first N (N + 1) = 1 := by
    have g1 := Fw_least (full 0 N (Nat.zero_le _) ha (Nat.le_refl _))
    have g2 := Fw_ge (ns := ns) (first := first) (N := N) (M := N + 1)
    push_cast at g2
    lia
  constructor
  · rintro ⟨x, y, p, q, e⟩
    have l1 := p.lean
    have l2 := q.lean
    have l3 := cst_or (ns := ns) (first := first) i j
    rw [hT] at e
    push_cast at l1 l2
    have hij : j = i ∨ j = i + 1 := by lia
    rcases hij with rfl | rfl
    · refine .inl ⟨?_, rfl⟩
      have hc : cst ns first j j = 0 := by lia
      have := cst_z.mp hc
      apply Decidable.byContradiction
      intro hn
      have h3 := h2 j (by lia) hi
      lia
    · refine .inr ⟨?_, rfl⟩
      have hc : cst ns first i (i + 1) = 0 := by push_cast at l1; lia
      have := cst_z.mp hc
      push_cast at this
      apply Decidable.byContradiction
      intro hn
      have h3 := h1 i (by lia)
      lia
  · rintro (⟨h, rfl⟩ | ⟨h, rfl⟩)
    · exact ⟨0, 1, pre 0 j (Nat.zero_le _) (by lia), full (j + 1) N (by lia) ha (Nat.le_refl _), by rw [c1 j h, hT]; rfl⟩
    · exact ⟨1, 0, full 0 i (Nat.zero_le _) h (by lia), post (i + 1) N (by lia) (by lia) (Nat.le_refl _), by rw [c2 i h hi, hT]; rfl⟩
/-- one piece too many: at a -/
theorem best_ins {M a : Nat} (ha : a ≤ M) (h1 : ∀ i, i < a → ns i = (first + i - 1) % 8) (h2 : ∀ i, a < i → i < M + 1 → ns i = (first + i - 2) % 8) (i j : Nat) (hi : i < M + 1) (hj : j < M) :
    (Best ns first (M + 1) M i j → (i < a ∧ j = i) ∨ (a < i ∧ i = j + 1) ∨ i = a) ∧ ((i < a ∧ j = i) ∨ (a < i ∧ i = j + 1) → Best ns first (M + 1) M i j) := by
  have c1 : ∀ i, i < a → cst ns first i i = 0 := fun i hi => cst_z.mpr (h1 i hi)
  have c2 : ∀ i, a < i + 1 → i + 1 < M + 1 → cst ns first (i + 1) i = 0 := fun i hi hn => cst_z.mpr (by rw [h2 _ hi hn]; push_cast; congr 1; lia)
  have pre : ∀ s k, s ≤ k → k ≤ a → Pt ns first s s k k 0 := fun s k hs hk => diag1 hs (by lia) fun t ht => c1 _ (by lia)
  have post : ∀ s k, a ≤ s → s ≤ k → k ≤ M → Pt ns first (s + 1) s (k + 1) k 0 := fun s k hs hk hn => diag1 (by lia) (by lia) fun t ht => by
    rw [show s + 1 + t = s + t + 1 by lia]; exact c2 _ (by lia) (by lia)
  have full : ∀ s k, s ≤ a → a ≤ k → k ≤ M → Pt ns first s s (k + 1) k 1 := fun s k hs hk hn => by
    have := ((pre s a hs (Nat.le_refl _)).up).app (post a k (Nat.le_refl _) hk hn)
    simpa using this
  have hT : Fw ns first (M + 1) M = 1 := by
    have g1 := Fw_least (full 0 M (Nat.zero_le _) ha (Nat.le_refl _))
    have g2 := Fw_ge (ns := ns) (first := first) (N := M + 1) (M := M)
    push_cast at g2
    lia
  constructor
  · rintro ⟨x, y, p, q, e⟩
    have l1 := p.lean
    have l2 := q.lean
    have l3 := cst_or (ns := ns) (first := first) i j
    rw [hT] at e
    push_cast at l1 l2
    have hij : j = i ∨ i = j + 1 := by lia
    by_cases hia : i = a
    · exact .inr (.inr hia)
    rcases hij with rfl | rfl
    · refine .inl ⟨?_, rfl⟩
      have hc : cst ns first j j = 0 := by lia
      have := cst_z.mp hc
      apply Decidable.byContradiction
      intro hn
      have h3 := h2 j (by lia) hi
      lia
    · refine .inr (.inl ⟨?_, rfl⟩)
      have hc : cst ns first (j + 1) j = 0 := by push_cast at l1; lia
      have := cst_z.mp hc
      apply Decidable.byContradiction
      intro hn
      have h3 := h1 (j + 1) (by lia)
      push_cast at h3
      lia
  · rintro (⟨h, rfl⟩ | ⟨h, rfl⟩)
    · exact ⟨0, 1, pre 0 j (Nat.zero_le _) (by lia), full (j + 1) M (by lia) ha (Nat.le_refl _), by rw [c1 j h, hT]; rfl⟩
    · exact ⟨1, 0, full 0 j (Nat.zero_le _) (by lia) (by lia), post (j + 1) M (by lia) (by lia) (Nat.le_refl _), by rw [c2 j h hi, hT]; rfl⟩
/-- one piece turned: at a -/
theorem best_set {N a : Nat} (h1 : ∀ i, i < N → i ≠ a → ns i = (first + i - 1) % 8) (i j : Nat) (hi : i < N) (hj : j < N) : Best ns first N N i j ↔ j = i := by
  have c1 : ∀ i, i < N → i ≠ a → cst ns first i i = 0 := fun i hi hn => cst_z.mpr (h1 i hi hn)
  have pre : ∀ s k, s ≤ k → k ≤ N → (a < s ∨ k ≤ a ∨ cst ns first a a = 0) → Pt ns first s s k k 0 := fun s k hs hk hor => diag1 hs (by lia) fun t ht => by
    by_cases e : s + t = a
    · rw [e]; lia
    · exact c1 _ (by lia) e
  by_cases hz : N ≤ a ∨ cst ns first a a = 0
  · have hz' : ∀ s k, s ≤ k → k ≤ N → Pt ns first s s k k 0 := fun s k hs hk => pre s k hs hk (by lia)
    have hT : Fw ns first N N = 0 := by
      have g1 := Fw_least (hz' 0 N (Nat.zero_le _) (Nat.le_refl _))
      have g2 := Fw_ge (ns := ns) (first := first) (N := N) (M := N)
      lia
    constructor
    · rintro ⟨x, y, p, q, e⟩
      have l1 := p.lean
      have l2 := q.lean
      have l3 := cst_or (ns := ns) (first := first) i j
      push_cast at l1 l2
      lia
    · rintro rfl
      refine ⟨0, 0, hz' 0 j (Nat.zero_le _) (by lia), hz' (j + 1) N (by lia) (Nat.le_refl _), ?_⟩
      have : cst ns first j j = 0 := by
        by_cases e : j = a
        · rw [e]; lia
        · exact c1 j hi e
      lia
  · have haN : a < N := by lia
    have hca : cst ns first a a = 1 := by have := cst_or (ns := ns) (first := first) a a; lia
    have full : ∀ s k, s ≤ a → a < k → k ≤ N → Pt ns first s s k k 1 := fun s k hs hk hn => by
      have := ((pre s a hs (by lia) (by lia)).dg).app (pre (a + 1) k hk hn (by lia))
      rw [hca] at this
      simpa using this
    have hT : Fw ns first N N = 1 := by
      have g1 := Fw_least (full 0 N (Nat.zero_le _) haN (Nat.le_refl _))
      have g2 := Fw_ge (ns := ns) (first := first) (N := N) (M := N)
      have g3 : Fw ns first N N ≠ 0 := fun e => by
        have := (zero_diag (Fw_path (ns := ns) (first := first) N N) e).2 a (by lia)
        simp only [Nat.zero_add] at this
        lia
      lia
    constructor
    · rintro ⟨x, y, p, q, e⟩
      have l1 := p.lean
      have l2 := q.lean
      have l3 := cst_or (ns := ns) (first := first) i j
      push_cast at l1 l2
      lia
    · rintro rfl
      rcases Nat.lt_trichotomy j a with h | h | h
      · exact ⟨0, 1, pre 0 j (Nat.zero_le _) (by lia) (by lia), full (j + 1) N (by lia) haN (Nat.le_refl _), by rw [c1 j hi (by lia), hT]; rfl⟩
      · subst h
        exact ⟨0, 0, pre 0 j (Nat.zero_le _) (by lia) (by lia), pre (j + 1) N (by lia) (Nat.le_refl _) (by lia), by rw [hca, hT]; rfl⟩
      · exact ⟨1, 0, full 0 j (Nat.zero_le _) h (by lia), pre (j + 1) N (by lia) (Nat.le_refl _) (by lia), by rw [c1 j hi (by lia), hT]; rfl⟩
end
end
section -- DictH
set_option maxRecDepth 10000
/-! dicts with tuples as keys: what the library has for plain keys only -/
section
variable {K : Type} [DecidableEq K]
noncomputable def mergedH (xs more : List (K × Addr × Value)) : List (K × Addr × Value) := more.foldl (fun acc x => storedH acc x.1 x.2.1 x.2.2) xs
theorem mergedH_succ {xs more : List (K × Addr × Value)} {i : Nat} {x : K × Addr × Value} (h : more[i]? = some x) : mergedH xs (more.take (i + 1)) = storedH (mergedH xs (more.take i)) x.1 x.2.1 x.2.2 := by
  simp [mergedH, List.take_add_one, h, List.foldl_append]
theorem putAt_fst (k : K) (v : Value) (x : K × Addr × Value) : (putAt k v x).1 = x.1 := by unfold putAt; split <;> simp_all
theorem atKey_iff (xs : List (K × Addr × Value)) (k : K) : (atKey xs k).isSome = true ↔ k ∈ xs.map (·.1) := by
  unfold atKey
  rw [Option.isSome_map]
  constructor
  · intro h
    obtain ⟨x, hx⟩ := Option.isSome_iff_exists.mp h
    have h1 := List.mem_of_find?_eq_some hx
    have h2 := List.find?_some hx
    exact List.mem_map.mpr ⟨x, h1, of_decide_eq_true h2⟩
  · intro h
    obtain ⟨x, hx, e⟩ := List.mem_map.mp h
    exact List.find?_isSome.mpr ⟨x, hx, decide_eq_true e⟩
theorem storedH_keys (xs : List (K × Addr × Value)) (k : K) (a : Addr) (v : Value) (j : K) : j ∈ (storedH xs k a v).map (·.1) ↔ j ∈ xs.map (·.1) ∨ j = k := by
  unfold storedH
  split
  · rename_i h
    have hk := (atKey_iff xs k).mp h
    rw [keys_map_putAt]
    exact ⟨.inl, fun q => q.elim id fun e => e ▸ hk⟩
  · simp
theorem mergedH_keys (more xs : List (K × Addr × Value)) (j : K) : j ∈ (mergedH xs more).map (·.1) ↔ j ∈ xs.map (·.1) ∨ j ∈ more.map (·.1) := by
  induction more generalizing xs with
  | nil => simp [mergedH]
  | cons x r ih =>
    show j ∈ (mergedH (storedH xs x.1 x.2.1 x.2.2) r).map (·.1) ↔ _
    rw [ih, storedH_keys, List.map_cons, List.mem_cons]
    constructor
    · rintro ((h | h) | h)
      · exact .inl h
      · exact .inr (.inl h)
      · exact .inr (.inr h)
    · rintro (h | h | h)
      · exact .inl (.inl h)
      · exact .inl (.inr h)
      · exact .inr h
theorem storedH_mem {xs : List (K × Addr × Value)} {k : K} {a : Addr} {v : Value} {x : K × Addr × Value} (h : x ∈ storedH xs k a v) : (∃ u, (x.1, x.2.1, u) ∈ xs) ∨ x.1 = k ∧ x.2.1 = a := by
  unfold storedH at h
  split at h
  · obtain ⟨y, hy, rfl⟩ := List.mem_map.mp h
    refine .inl ⟨y.2.2, ?_⟩
    rw [putAt_fst]
    have : (putAt k v y).2.1 = y.2.1 := by unfold putAt; split <;> rfl
    rw [this]; exact hy
  · rcases List.mem_append.mp h with h | h
    · exact .inl ⟨x.2.2, h⟩
    · rw [List.mem_singleton.mp h]; exact .inr ⟨rfl, rfl⟩
theorem mergedH_mem : ∀ {more xs : List (K × Addr × Value)} {x : K × Addr × Value}, x ∈ mergedH xs more → (∃ u, (x.1, x.2.1, u) ∈ xs) ∨ ∃ u, (x.1, x.2.1, u) ∈ more
  | [], _, x, h => .inl ⟨x.2.2, h⟩
  | y :: r, xs, x, h => by
    rcases mergedH_mem (more := r) (xs := storedH xs y.1 y.2.1 y.2.2) h with ⟨u, h⟩ | ⟨u, h⟩
    · rcases storedH_mem h with ⟨u', h⟩ | ⟨h1, h2⟩
      · exact .inl ⟨u', h⟩
      · exact .inr ⟨y.2.2, by simp only at h1 h2; rw [h1, h2]; exact .head _⟩
    · exact .inr ⟨u, .tail _ h⟩
theorem storedH_len (xs : List (K × Addr × Value)) (k : K) (a : Addr) (v : Value) : (storedH xs k a v).length ≤ xs.length + 1 := by
  unfold storedH; split <;> simp
theorem mergedH_len : ∀ (more xs : List (K × Addr × Value)), (mergedH xs more).length ≤ xs.length + more.length
  | [], xs => by simp [mergedH]
  | y :: r, xs => by
    have h1 := mergedH_len r (storedH xs y.1 y.2.1 y.2.2)
    have h2 := storedH_len xs y.1 y.2.1 y.2.2
    show (mergedH (storedH xs y.1 y.2.1 y.2.2) r).length ≤ _
    rw [List.length_cons]; lia
theorem only_len {p : K × Addr × Value → Bool} {k : K} : ∀ {xs : List (K × Addr × Value)}, (xs.map (·.1)).Nodup → (∀ y ∈ xs, p y = true → y.1 = k) → (xs.filter p).length ≤ 1
  | [], _, _ => by simp
  | x :: r, hn, hp => by
    rw [List.map_cons, List.nodup_cons] at hn
    have ih := only_len (xs := r) hn.2 fun y hy => hp y (.tail _ hy)
    rw [List.filter_cons]
    split
    · rename_i hx
      have : r.filter p = [] := by
        rw [List.filter_eq_nil_iff]
        intro y hy hpy
        exact hn.1 (List.mem_map.mpr ⟨y, hy, (hp y (.tail _ hy) hpy).trans (hp x (.head _) hx).symm⟩)
      rw [this]; simp
    · exact ih
theorem nodup_box {α : Type} [DecidableEq α] : ∀ {xs L : List α}, xs.Nodup → (∀ x ∈ xs, x ∈ L) → xs.length ≤ L.length
  | [], _, _, _ => Nat.zero_le _
  | x :: r, L, hn, hs => by
    rw [List.nodup_cons] at hn
    have hx := hs x (.head _)
    have := nodup_box (xs := r) (L := L.erase x) hn.2 fun y hy => (List.mem_erase_of_ne (fun e : y = x => hn.1 (by rw [← e]; exact hy))).mpr (hs y (.tail _ hy))
    rw [List.length_erase_of_mem hx] at this
    have : 0 < L.length := List.length_pos_of_mem hx
    rw [List.length_cons]; lia
end
section
variable {prog : Program} {w : World} {K : Type} [DecidableEq K] {knd : HeapKind prog w K} {A : Around} {E : Value → Shared → Prop} {s : Shared}
theorem setHashedH {d a : Addr} {xs : List (K × Addr × Value)} {k : K} {v : Value} {Q : Unit → Shared → Prop} (hu : knd.room A) (hkey : knd.is s.heap k a) (hm : s.heap.DictOfH knd d xs)
    (hQ : ∀ h', h'.DictOfH knd d (storedH xs k a v) → Heap.SameBut d s.heap h' → Q () { s with heap := h' }) (hsz : xs.length ≤ sizeLine) :
    wpAny (model prog w) A (dictSetHashed d (.ref a) (knd.hash k) v) Q E s := by
  obtain ⟨o, es, ep, ho, hc, hd, he, his, hn⟩ := hm
  have hes : es.size ≤ sizeLine := by rw [size_of_entries he]; exact hsz
  unfold dictSetHashed
  refine wpAny_holding ?_
  refine wpAny_bind (wpAny_dictFind_heap hu hkey ho hd he his hn (fun hno => ?_) fun j p hj => ?_)
  · have hnone := atKey_none_of_get hno
    have hst : storedH xs k a v = xs ++ [(k, a, v)] := storedH_new hnone a v
    refine wpAny_bind (wpAny_rule (wpAny_updateDictKeys (hz := hes) ho hd (hQ _ ⟨_, _, ep + 1, Heap.get?_update_self _ ho (Obj.isFreed_of_dict (Obj.data_mapDictKeys hd _)), hc.mapDictKeys _, Obj.data_mapDictKeys hd _, ?_, fun x hx => ?_, ?_⟩ (Heap.SameBut.update ..))))
    · rw [hst]; simp [he, entryOfKey]
    · rw [hst] at hx
      rcases List.mem_append.mp hx with hx | hx
      · exact knd.keeps (his x hx) ho hd (Heap.SameBut.update ..)
      · rw [List.mem_singleton.mp hx]; exact knd.keeps hkey ho hd (Heap.SameBut.update ..)
    · have hnm := not_mem_keys_of_get hno
      rw [hst, List.map_append, List.nodup_append]
      exact ⟨hn, by simp, fun y hy y' hy' e => hnm (by rw [List.map_cons, List.map_nil, List.mem_singleton] at hy'; have hy' : y' = k := hy'; rw [← hy', ← e]; exact hy)⟩
  · have hst : storedH xs k a v = xs.map (putAt k v) := storedH_old (atKey_of_get hn hj) a v
    refine wpAny_bind (wpAny_rule (wpAny_bind (wpAny_updateDict ho hd (wpAny_point (hQ _ ⟨_, _, ep, Heap.get?_update_self _ ho (Obj.isFreed_of_dict (Obj.data_mapDict hd _)), hc.mapDict _, Obj.data_mapDict hd _, ?_, fun x hx => ?_, ?_⟩ (Heap.SameBut.update ..))))))
    · rw [hst, ← modify_map_putAt (entryOfKey knd) (fun e : DictEntry => { e with val := v }) k v (fun _ _ => rfl) hn hj, ← he]
      obtain ⟨l⟩ := es
      simp
    · rw [hst] at hx
      obtain ⟨y, hy, rfl⟩ := List.mem_map.mp hx
      have hy' := knd.keeps (his y hy) ho hd (Heap.SameBut.update (h := s.heap) (a := d) (f := Obj.mapDict (·.modify j fun e => { e with val := v })))
      unfold putAt
      split <;> exact hy'
    · rw [hst, keys_map_putAt]; exact hn
end
/-- tuples of ints as keys -/
noncomputable abbrev TK (w : World) : HeapKind PG w (List Int) := tupleKind (intKind PG w)
section
variable {w : World} {A : Around} {E : Value → Shared → Prop} {s : Shared}
theorem tk_type {ks : List Int} {a : Addr} (h : (TK w).is s.heap ks a) : s.TypeIs (.ref a) "tuple" := IsTupleKey.typeIs h
noncomputable def Apart (w : World) (xs : List (List Int × Addr × Value)) : Prop := ∀ x ∈ xs, ∀ y ∈ xs, (TK w).hash x.1 = (TK w).hash y.1 → x.1 = y.1
theorem entriesH {id : String} {d : Addr} {o : Obj} {es : Array DictEntry} {ep : Nat} {xs : List (List Int × Addr × Value)} {Q : Array DictEntry → Shared → Prop} (ho : s.heap.get? d = some o) (hd : o.data = .dict es ep)
    (he : es.toList = xs.map (entryOfKey (TK w))) (his : ∀ x ∈ xs, (TK w).is s.heap x.1 x.2.1) (hn : (xs.map (·.1)).Nodup) (hap : Apart w xs) (h : Q es s) : wpAny (model PG w) A (Builtin.Dict.entriesForEmpty id d) Q E s := by
  unfold Builtin.Dict.entriesForEmpty
  refine wpAny_bind (wpAny_dictEntries ho hd ?_)
  refine wpAny_bind ?_
  rw [← Array.forIn_toList]
  refine wpAny_forIn_list _ (fun rest _ s' => s' = s ∧ ∀ e ∈ rest, ∃ x ∈ xs, e = entryOfKey (TK w) x) _ ?_ ?_ _ _ ⟨rfl, fun e hin => ?_⟩
  · rintro e rest r s' ⟨rfl, hr⟩
    obtain ⟨x, hx, rfl⟩ := hr e (.head _)
    refine wpAny_bind (show wpAny _ _ (Builtin.Dict.quietEq (.ref x.2.1)) _ _ _ from ?_)
    unfold Builtin.Dict.quietEq
    refine wpAny_bind (wpAny_specialOf (tk_type (his x hx)) F.slot_tuple_eq.lookup (wpAny_pure ?_))
    have hlen : (es.filter fun f => f.hash == (entryOfKey (TK w) x).hash).size ≤ 1 := by
      rw [← Array.length_toList, Array.toList_filter, he, List.filter_map, List.length_map]
      refine only_len (k := x.1) hn fun y hy hh => ?_
      exact hap y hy x hx (by simpa [entryOfKey] using hh)
    rw [if_pos (show (!(some (Value.builtin "tuple.__eq__") == some (Value.builtin "object.__eq__"))) = true by decide), if_neg (by lia)]
    exact wpAny_pure ⟨rfl, fun e' he' => hr e' (.tail _ he')⟩
  · rintro r s' ⟨rfl, _⟩
    exact wpAny_pure h
  · rw [he] at hin
    obtain ⟨x, hx, rfl⟩ := List.mem_map.mp hin
    exact ⟨x, hx, rfl⟩
/-- the keys of two dicts in one -/
noncomputable def Both (xs more ys : List (List Int × Addr × Value)) : Prop := (∀ k, k ∈ ys.map (·.1) ↔ k ∈ xs.map (·.1) ∨ k ∈ more.map (·.1)) ∧ ∀ x ∈ ys, (∃ u, (x.1, x.2.1, u) ∈ xs) ∨ ∃ u, (x.1, x.2.1, u) ∈ more
theorem Both.merged (xs more : List (List Int × Addr × Value)) : Both xs more (mergedH xs more) := ⟨mergedH_keys more xs, fun _ h => mergedH_mem h⟩
theorem Both.empty (more : List (List Int × Addr × Value)) : Both [] more more := ⟨fun k => by simp, fun x h => .inr ⟨x.2.2, h⟩⟩
theorem mergeH {nm : String} {d o : Addr} {xs more : List (List Int × Addr × Value)} {Q : Unit → Shared → Prop} (hu : A.units < cLine) (hdo : d ≠ o) (hoS : (o == sysModules) = false)
    (hd : s.heap.DictOfH (TK w) d xs) (ho : s.heap.DictOfH (TK w) o more) (hne : more ≠ []) (hap : Apart w more)
    (hQ : ∀ h' ys, Both xs more ys → h'.DictOfH (TK w) d ys → Heap.SameBut d s.heap h' → Q () { s with heap := h' }) (hsz : xs.length + more.length ≤ sizeLine) :
    wpAny (model PG w) A (Builtin.Dict.mergeDict nm d o) Q E s := by
  obtain ⟨od, esd, epd, hod, hcd, hdd, hed, hisd, hnd⟩ := id hd
  obtain ⟨oo, eso, epo, hoo, hco, hdo', heo, hiso, hno⟩ := id ho
  have hsd := size_of_entries hed
  have hso := size_of_entries heo
  unfold Builtin.Dict.mergeDict
  rw [if_neg (by simpa using hdo)]
  unfold Builtin.Dict.showsAll
  rw [if_neg (by rw [hoS]; exact Bool.false_ne_true)]
  refine wpAny_bind (wpAny_pure ?_)
  refine wpAny_bind (wpAny_dictEntries hoo hdo' ?_)
  have hfew : (decide (eso.size ≤ 8) && eso.all fun e => (keyPart e.key).isSome) = false := by
    rw [Bool.and_eq_false_iff]
    refine .inr ?_
    rw [← Array.all_toList, heo]
    cases more with
    | nil => exact absurd rfl hne
    | cons x r => rfl
  dsimp only
  rw [hfew]
  rw [if_pos (by rfl)]
  refine wpAny_bind (wpAny_dictEntries hod hdd ?_)
  by_cases hemp : esd.isEmpty = true
  · rw [if_pos hemp]
    have hx0 : xs = [] := List.length_eq_zero_iff.mp (by rw [← hsd]; exact Array.size_eq_zero_iff.mpr (Array.isEmpty_iff.mp hemp))
    refine wpAny_bind (entriesH hoo hdo' heo hiso hno hap ?_)
    have hz : eso.size ≤ sizeLine + 1 := by lia
    rw [if_pos (by
      cases q : eso.isEmpty with
      | false => rfl
      | true =>
        have := Array.size_eq_zero_iff.mpr (Array.isEmpty_iff.mp q)
        exact absurd (List.length_eq_zero_iff.mp (by lia)) hne)]
    refine wpAny_bind (wpAny_updateDictKeysTo hod hdd (wpAny_pure (hQ _ more (hx0 ▸ Both.empty more) ⟨_, eso, epd + 1, Heap.get?_update_self _ hod (Obj.isFreed_of_dict (Obj.data_mapDictKeys hdd _)), hcd.mapDictKeys _, Obj.data_mapDictKeys hdd _, heo, fun x hx => ?_, hno⟩ (Heap.SameBut.update ..))) hz)
    exact (TK w).keeps (hiso x hx) hod hdd (Heap.SameBut.update ..)
  · rw [if_neg hemp]
    refine wpAny_bind (wpAny_dictEpoch hoo hdo' ?_)
    refine wpAny_bind (wpAny_dictEntries hoo hdo' ?_)
    refine wpAny_bind ?_
    rw [Std.Legacy.Range.forIn_eq_forIn_range']
    simp only [Std.Legacy.Range.size, Nat.sub_zero, Nat.add_sub_cancel, Nat.div_one]
    refine wpAny_forIn_list _ (fun rest _ s' => ∃ h' i, s' = { s with heap := h' } ∧ rest = List.range' i (eso.size - i) ∧ i ≤ eso.size ∧ h'.DictOfH (TK w) d (mergedH xs (more.take i)) ∧ Heap.SameBut d s.heap h') _ ?_ ?_ _ _
      ⟨s.heap, 0, rfl, by simp, Nat.zero_le _, by simpa [mergedH] using hd, Heap.SameBut.refl _ _⟩
    · rintro x rest b s' ⟨h', i, rfl, hr, hi, hd', hs'⟩
      have hlt : i < eso.size := by
        rcases Nat.lt_or_ge i eso.size with h | h
        · exact h
        · rw [Nat.sub_eq_zero_of_le h] at hr; simp at hr
      rw [show eso.size - i = (eso.size - (i + 1)) + 1 by lia, List.range'_succ] at hr
      injection hr with h1 h2
      subst h1
      have hoo' : h'.get? o = some oo := (hs'.2 o (Ne.symm hdo)).trans hoo
      refine wpAny_bind (wpAny_dictEntries hoo' hdo' ?_)
      have hmx : more[x]? = some (more[x]'(by lia)) := List.getElem?_eq_getElem _
      generalize more[x]'(by lia) = y at hmx
      rw [entry_at heo x, hmx]
      show wpAny _ _ (holding [Value.ref y.2.1, y.2.2] (dictSetHashed d (.ref y.2.1) ((TK w).hash y.1) y.2.2) >>= _) _ _ _
      have hl : (mergedH xs (more.take x)).length ≤ sizeLine := by
        have := mergedH_len (more.take x) xs
        rw [List.length_take] at this
        lia
      have hky : (TK w).is h' y.1 y.2.1 := (TK w).keeps (hiso y (List.mem_of_getElem? hmx)) hod hdd hs'
      refine wpAny_bind (wpAny_holding (setHashedH (s := { s with heap := h' }) hu hky hd' (fun h'' hd'' hs'' => ?_) hl))
      have hoo'' : h''.get? o = some oo := (hs''.2 o (Ne.symm hdo)).trans hoo'
      refine wpAny_bind (wpAny_dictEpoch hoo'' hdo' ?_)
      rw [if_neg (by simp)]
      exact wpAny_pure ⟨h'', x + 1, rfl, h2, hlt, by rw [mergedH_succ hmx]; exact hd'', hs'.trans hs''⟩
    · rintro b s' ⟨h', i, rfl, hr, hi, hd', hs'⟩
      have hin : i = eso.size := by
        rcases Nat.lt_or_ge i eso.size with h | h
        · rw [show eso.size - i = (eso.size - (i + 1)) + 1 by lia, List.range'_succ] at hr; exact nomatch hr
        · lia
      rw [hin, hso, List.take_length] at hd'
      exact wpAny_pure (hQ h' _ (Both.merged xs more) hd' hs')
/-- dict(o) -/
theorem callDictH {o : Addr} {more : List (List Int × Addr × Value)} {Q : Value → Shared → Prop} (hu : A.units + 2 < cLine) (hoS : (o == sysModules) = false) (ho : s.heap.DictOfH (TK w) o more) (hne : more ≠ []) (hap : Apart w more) (hsz : more.length ≤ sizeLine)
    (h : ∀ h' ys, Both [] more ys → h'.DictOfH (TK w) s.heap.objs.size ys → Heap.SameBut s.heap.objs.size (s.heap.push { cls := .type "dict", data := .dict #[] }) h' → Q (.ref s.heap.objs.size) { s with heap := h' }) :
    wpAny (model PG w) A (call (.type "dict") [.ref o]) Q E s := by
  refine callType_codes (Q₁ := fun obj s₁ => obj = .ref s.heap.objs.size ∧ s₁ = { s with heap := s.heap.push { cls := .type "dict", data := .dict #[] } }) F.kt_called_dict (F.kt_typeCall_dict_1 _) F.entry_dict_init (kt_code_dict_new _ ⟨rfl, rfl⟩) ?_
  rintro obj s₁ ⟨rfl, rfl⟩
  have hnew : (s.heap.push { cls := .type "dict", data := .dict #[] }).DictOfH (TK w) s.heap.objs.size [] := Heap.DictOfH.new s.heap
  obtain ⟨oo, eso, epo, hoo, hco, hdo', heo, hiso, hno⟩ := id ho
  have hdo : s.heap.objs.size ≠ o := fun e => absurd (Heap.lt_size hoo) (by rw [e]; exact Nat.lt_irrefl _)
  have ho' : (s.heap.push { cls := .type "dict", data := .dict #[] }).DictOfH (TK w) o more := ⟨oo, eso, epo, Heap.get?_push_of_some _ hoo, hco, hdo', heo, fun x hx => by
    obtain ⟨ot, items, n, e1, e2, e3, e4⟩ := hiso x hx
    exact ⟨ot, items, n, Heap.get?_push_of_some _ e1, e2, e3, e4⟩, hno⟩
  refine ⟨hnew.typeIs, F.args_dict_init_2 _ _, ?_⟩
  unfold Builtin.«dict.__init__»
  refine wpAny_bind ?_
  unfold Builtin.Dict.selfAndRest
  refine wpAny_bind (wpAny_notOrdered_dict hnew.typeIs ?_)
  show wpAny _ _ (pure (s.heap.objs.size, [Value.ref o])) _ _ _
  refine wpAny_pure ?_
  show wpAny _ _ (Builtin.Dict.updateFrom "dict.__init__" s.heap.objs.size (.ref o) [] .none) _ _ _
  unfold Builtin.Dict.updateFrom
  refine wpAny_bind (wpAny_typeOf ho'.typeIs ?_)
  rw [if_neg (by decide)]
  refine wpAny_bind ?_
  unfold Builtin.Dict.merge
  refine wpAny_bind ?_
  unfold Builtin.Dict.readDirectly
  refine wpAny_bind (wpAny_isInstance ho'.typeIs isSubtype_dict_dict ?_)
  simp only [Bool.not_true, Bool.false_eq_true, if_false]
  refine wpAny_bind (wpAny_specialOf ho'.typeIs F.slot_dict_iter.lookup (wpAny_pure ?_))
  simp only [beq_self_eq_true, if_true]
  refine wpAny_bind (wpAny_pure ?_)
  refine mergeH (by show A.units + 1 + 1 < cLine; lia) hdo hoS hnew ho' hne hap (fun h' ys hb hd' hs' => ?_) (by simpa using hsz)
  show wpAny _ _ (Builtin.Dict.addKeywords s.heap.objs.size [] >>= _) _ _ _
  exact wpAny_bind (wpAny_pure (wpAny_pure ⟨rfl, h h' ys hb hd' hs'⟩))
/-- d.update(o) -/
theorem updateH {d o : Addr} {xs more : List (List Int × Addr × Value)} {Q : Value → Shared → Prop} (hu : A.units + 1 < cLine) (hdo : d ≠ o) (hoS : (o == sysModules) = false)
    (hd : s.heap.DictOfH (TK w) d xs) (ho : s.heap.DictOfH (TK w) o more) (hne : more ≠ []) (hap : Apart w more)
    (hQ : ∀ h' ys, Both xs more ys → h'.DictOfH (TK w) d ys → Heap.SameBut d s.heap h' → Q .none { s with heap := h' }) (hsz : xs.length + more.length ≤ sizeLine) :
    wpAny (model PG w) A (call (.builtin "dict.update") [.ref d, .ref o]) Q E s := by
  refine wpAny_call_entry F.slot_dict_update hd.typeIs F.entry_dict_update ?_ (F.args_dict_update_2 _ _)
  unfold Builtin.«dict.update»
  refine wpAny_bind ?_
  unfold Builtin.Dict.selfAndRest
  refine wpAny_bind (wpAny_notOrdered_dict hd.typeIs ?_)
  show wpAny _ _ (pure (d, [Value.ref o])) _ _ s
  refine wpAny_pure ?_
  show wpAny _ _ (Builtin.Dict.updateFrom "dict.update" d (.ref o) [] .none) _ _ s
  unfold Builtin.Dict.updateFrom
  refine wpAny_bind (wpAny_typeOf ho.typeIs ?_)
  rw [if_neg (by decide)]
  refine wpAny_bind ?_
  unfold Builtin.Dict.merge
  refine wpAny_bind ?_
  unfold Builtin.Dict.readDirectly
  refine wpAny_bind (wpAny_isInstance ho.typeIs isSubtype_dict_dict ?_)
  simp only [Bool.not_true, Bool.false_eq_true, if_false]
  refine wpAny_bind (wpAny_specialOf ho.typeIs F.slot_dict_iter.lookup (wpAny_pure ?_))
  simp only [beq_self_eq_true, if_true]
  refine wpAny_bind (wpAny_pure ?_)
  refine mergeH hu hdo hoS hd ho hne hap (fun h' ys hb hd' hs' => ?_) hsz
  show wpAny _ _ (Builtin.Dict.addKeywords d [] >>= _) _ _ _
  exact wpAny_bind (wpAny_pure (wpAny_pure ⟨.none, rfl, hQ h' ys hb hd' hs'⟩))
end
end
section -- DictS
set_option maxRecDepth 100000
/-- the box that all keys lie in -/
noncomputable def Box (k : List Int) : Prop := ∃ p q : Nat, p < 14 ∧ q < 10 ∧ k = [(p : Int), (q : Int)]
noncomputable def hsh (i : Nat) : Int := reduceHash (Builtin.Tuple.tupleHashOf [hashInt ((i / 10 : Nat) : Int), hashInt ((i % 10 : Nat) : Int)])
theorem hsh_nd : ((List.range 140).map hsh).Nodup := by decide +kernel
theorem hsh_inj {i j : Nat} (hi : i < 140) (hj : j < 140) (e : hsh i = hsh j) : i = j := by
  have h1 : ((List.range 140).map hsh)[i]? = some (hsh i) := by simp [hi]
  have h2 : ((List.range 140).map hsh)[j]? = some (hsh j) := by simp [hj]
  exact (List.getElem?_inj (by simpa using hi) hsh_nd).mp (h1.trans (by rw [e, h2]))
noncomputable def boxL : List (List Int) := (List.range 140).map fun i => [((i / 10 : Nat) : Int), ((i % 10 : Nat) : Int)]
theorem Box.mem {k : List Int} (b : Box k) : k ∈ boxL := by
  obtain ⟨p, q, hp, hq, rfl⟩ := b
  refine List.mem_map.mpr ⟨10 * p + q, by simp; lia, ?_⟩
  rw [show (10 * p + q) / 10 = p by lia, show (10 * p + q) % 10 = q by lia]
theorem apart_box {w : World} {xs : List (List Int × Addr × Value)} (h : ∀ x ∈ xs, Box x.1) : Apart w xs := by
  intro x hx y hy e
  obtain ⟨p, q, hp, hq, e1⟩ := h x hx
  obtain ⟨p', q', hp', hq', e2⟩ := h y hy
  rw [e1, e2] at e ⊢
  have he : hsh (10 * p + q) = hsh (10 * p' + q') := by
    unfold hsh
    rw [show (10 * p + q) / 10 = p by lia, show (10 * p + q) % 10 = q by lia, show (10 * p' + q') / 10 = p' by lia, show (10 * p' + q') % 10 = q' by lia]
    exact e
  have := hsh_inj (by lia) (by lia) he
  rw [show p = p' by lia, show q = q' by lia]

/-- a key of two ints -/
noncomputable def KeyIn (Y : Gh) (k : List Int) (a : Addr) : Prop := ∃ p q t u n, k = [p, q] ∧ Y a = some (tup [.int p t, .int q u] n)
theorem KeyIn.mono {Y Z : Gh} {k : List Int} {a : Addr} (h : KeyIn Y k a) (l : Le Y Z) : KeyIn Z k a := let ⟨p, q, t, u, n, e1, e2⟩ := h; ⟨p, q, t, u, n, e1, l _ _ e2⟩
theorem KeyIn.is {w : World} {Y : Gh} {h : Heap} {k : List Int} {a : Addr} (x : KeyIn Y k a) (l : Le Y h.get?) : (TK w).is h k a := by
  obtain ⟨p, q, t, u, n, rfl, e⟩ := x
  exact ⟨_, _, n, l _ _ e, rfl, rfl, .cons (by simp [intKind, Value.isInt]) (.cons (by simp [intKind, Value.isInt]) .nil)⟩
/-- a dict with such keys, as an object -/
structure IsD (w : World) (Y : Gh) (o : Obj) (xs : List (List Int × Addr × Value)) : Prop where
  ex : o.ExactDict
  es : ∃ es ep, o.data = .dict es ep ∧ es.toList = xs.map (entryOfKey (TK w))
  keys : ∀ x ∈ xs, KeyIn Y x.1 x.2.1
  nd : (xs.map (·.1)).Nodup
theorem IsD.mono {w : World} {Y Z : Gh} {o : Obj} {xs : List (List Int × Addr × Value)} (h : IsD w Y o xs) (l : Le Y Z) : IsD w Z o xs := ⟨h.ex, h.es, fun x hx => (h.keys x hx).mono l, h.nd⟩
theorem IsD.of {w : World} {Y : Gh} {o : Obj} {xs : List (List Int × Addr × Value)} {h : Heap} {d : Addr} (D : IsD w Y o xs) (l : Le Y h.get?) (e : h.get? d = some o) : h.DictOfH (TK w) d xs :=
  let ⟨es, ep, e1, e2⟩ := D.es
  ⟨o, es, ep, e, D.ex, e1, e2, fun x hx => (D.keys x hx).is l, D.nd⟩
theorem IsD.from {w : World} {Y : Gh} {xs : List (List Int × Addr × Value)} {h : Heap} {d : Addr} (D : h.DictOfH (TK w) d xs) (k : ∀ x ∈ xs, KeyIn Y x.1 x.2.1) : ∃ o, h.get? d = some o ∧ IsD w Y o xs :=
  let ⟨o, es, ep, e, e1, e2, e3, _, e5⟩ := D
  ⟨o, e, e1, ⟨es, ep, e2, e3⟩, k, e5⟩
theorem IsD.len {w : World} {Y : Gh} {o : Obj} {xs : List (List Int × Addr × Value)} (D : IsD w Y o xs) (b : ∀ x ∈ xs, Box x.1) : xs.length ≤ 140 := by
  have := nodup_box (L := boxL) D.nd fun k hk => by obtain ⟨x, hx, rfl⟩ := List.mem_map.mp hk; exact (b x hx).mem
  rw [List.length_map] at this
  exact Nat.le_trans this (by unfold boxL; simp)
noncomputable abbrev D0 : Obj := { cls := .type "dict", data := .dict #[] }
theorem IsD.new (w : World) (Y : Gh) : IsD w Y D0 [] := ⟨⟨rfl, rfl, rfl⟩, ⟨#[], 0, rfl, rfl⟩, fun _ h => (nomatch h), List.nodup_nil⟩

section
variable {w : World} {z : Shared} {A : Around} {h₀ : Heap} {Y Z : Gh} {cs : List (Addr × Obj)} {env : Env} {lo : List (Str × Value)} {h : Heap}
theorem St.leG (S : St h₀ Y cs env lo h) : Le Y h.get? := fun _ _ e => S.get e
theorem notMod (C : Cx w h) : (h.objs.size == sysModules) = false := by
  obtain ⟨o, fd, e, _⟩ := f_21 w
  have := Heap.lt_size (C.k _ _ e)
  have h2 : h.objs.size ≠ sysModules := fun q => by rw [q] at this; exact absurd this (by decide)
  simpa using h2
theorem i_dict {value slice : PySem.Expr} {d a : Addr} {o : Obj} {xs : List (List Int × Addr × Value)} {k : List Int} {p : Addr × Value} {P : Value → Heap → Prop} (hu : A.units + 2 < cLine) (hd : h.get? d = some o) (hD : IsD w Z o xs) (hZ : Le Z h.get?) (hk : KeyIn Z k a) (hp : atKey xs k = some p) (H : P p.2 h)
    (hs : subscripted slice false (.ref d) (.ref a) = operate [.ref d, .ref a] (getItem (.ref d) (.ref a)) := by with_unfolding_all rfl) : Tr w z A (subscriptTail value slice (.ref d) (.ref a)) h P := fun tk =>
  tail_any (hD.of (h := (Sh z h tk).heap) hZ hd).typeIs slot_dict_getitem.lookup (wpAny_getItem_heap (knd := TK w) (by show A.units + 1 < cLine; lia) (hk.is hZ) (hD.of hZ hd) hp ⟨h, _, rfl, H⟩) hs
theorem c_dict {d a : Addr} {o : Obj} {xs : List (List Int × Addr × Value)} {k : List Int} {P : Value → Heap → Prop} (hu : A.units + 2 < cLine) (hm : (d == sysModules) = false) (hd : h.get? d = some o) (hD : IsD w Z o xs) (hZ : Le Z h.get?) (hk : KeyIn Z k a) (H : P (.bool (atKey xs k).isSome) h) :
    Tr w z A (compareOp .In (.ref a) (.ref d)) h P := fun tk =>
  wpAny_in_heap (knd := TK w) (s := Sh z h tk) (by show A.units + 1 < cLine; lia) (hk.is hZ) hm (hD.of hZ hd) ⟨h, _, rfl, H⟩
theorem s_dict {d a : Addr} {o : Obj} {xs : List (List Int × Addr × Value)} {k : List Int} {v : Value} {P : Unit → Heap → Prop} (S : St h₀ Y ((d, o) :: cs) env lo h) (hu : A.units + 2 < cLine) (hD : IsD w Z o xs) (hZ : Le Z h.get?) (hk : KeyIn Z k a) (hsz : xs.length ≤ 1000)
    (H : ∀ h' o', IsD w Z o' (storedH xs k a v) → St h₀ Y ((d, o') :: cs) env lo h' → P () h') : Tr w z A (setItem (.ref d) (.ref a) v) h P := fun tk =>
  wpAny_setItem_heap (knd := TK w) (s := Sh z h tk) (by show A.units + 1 < cLine; lia) (hk.is hZ) (hD.of hZ (S.cell (.head _))) (fun h' hd' hs' => by
    obtain ⟨o', e, D'⟩ := IsD.from (Y := Z) hd' fun x hx => by
      rcases storedH_mem hx with ⟨u, hx⟩ | ⟨e1, e2⟩
      · exact hD.keys (x.1, x.2.1, u) hx
      · rw [e1, e2]; exact hk
    exact ⟨h', _, rfl, H h' o' D' (S.turn (sameBut_kb hs') e)⟩) (szle hsz (by decide))
theorem k_dictOf {d : Addr} {o : Obj} {xs : List (List Int × Addr × Value)} {P : Value → Heap → Prop} (S : St h₀ Y cs env lo h) (C : Cx w h) (hu : A.units + 3 < cLine) (hm : (d == sysModules) = false) (hd : h.get? d = some o) (hD : IsD w Z o xs) (hZ : Le Z h.get?) (hne : xs ≠ []) (hb : ∀ x ∈ xs, Box x.1)
    (H : ∀ a h' o' ys, (∀ k, k ∈ ys.map (·.1) ↔ k ∈ xs.map (·.1)) → IsD w Z o' ys → (a == sysModules) = false → St h₀ Y ((a, o') :: cs) env lo h' → P (.ref a) h') : Tr w z A (call (.type "dict") [.ref d]) h P := fun tk =>
  callDictH (s := Sh z h tk) (by lia) hm (hD.of hZ hd) hne (apart_box hb) (szle (hD.len hb) (by decide)) fun h' ys hB hd' hs' => by
    obtain ⟨o', e, D'⟩ := IsD.from (Y := Z) hd' fun x hx => by
      rcases hB.2 x hx with ⟨u, hx⟩ | ⟨u, hx⟩
      · exact nomatch hx
      · exact hD.keys (x.1, x.2.1, u) hx
    exact ⟨h', tk, rfl, H _ h' o' ys (fun k => by rw [hB.1]; simp) D' (notMod C) ((S.push (o := D0)).turn (sameBut_kb hs') e)⟩
theorem m_update {d a : Addr} {o oa : Obj} {xs ys : List (List Int × Addr × Value)} {P : Value → Heap → Prop} (S : St h₀ Y ((d, o) :: cs) env lo h) (hu : A.units + 2 < cLine) (hm : (a == sysModules) = false) (hda : d ≠ a) (hD : IsD w Z o xs) (ha : h.get? a = some oa) (hE : IsD w Z oa ys) (hZ : Le Z h.get?) (hne : ys ≠ []) (hb : ∀ x ∈ xs, Box x.1) (hc : ∀ x ∈ ys, Box x.1)
    (H : ∀ h' o' us, (∀ k, k ∈ us.map (·.1) ↔ k ∈ xs.map (·.1) ∨ k ∈ ys.map (·.1)) → IsD w Z o' us → St h₀ Y ((d, o') :: cs) env lo h' → P .none h') : Tr w z A (call (.builtin "dict.update") [.ref d, .ref a]) h P := fun tk => by
  have l1 := hD.len hb
  have l2 := hE.len hc
  refine updateH (s := Sh z h tk) (by lia) hda hm (hD.of hZ (S.cell (.head _))) (hE.of hZ ha) hne (apart_box hc) (fun h' us hB hd' hs' => ?_) (by rw [sizeLine_eq]; lia)
  obtain ⟨o', e, D'⟩ := IsD.from (Y := Z) hd' fun x hx => by
    rcases hB.2 x hx with ⟨u, hx⟩ | ⟨u, hx⟩
    · exact hD.keys (x.1, x.2.1, u) hx
    · exact hE.keys (x.1, x.2.1, u) hx
  exact ⟨h', tk, rfl, H h' o' us hB.1 D' (S.turn (sameBut_kb hs') e)⟩
theorem e_dict0 {pos : Pos} {P : Value → Heap → Prop} (S : St h₀ Y cs env lo h) (H : ∀ d h', St h₀ Y ((d, D0) :: cs) env lo h' → d = h.objs.size → P (.ref d) h') : Tr w z A (eval (.Dict [] [] pos) env) h P := fun tk =>
  wpAny_Dict_empty ⟨_, tk, rfl, H _ _ S.push rfl⟩
theorem e_dict1 {ke ve : PySem.Expr} {pos : Pos} {P : Value → Heap → Prop} (hu : A.units < cLine)
    (H : Tr w z A (eval ke env) (h.push D0) fun kv h₁ => Tr w z A (eval ve env) h₁ fun vv h₂ => ∃ h₀ Y cs lo a k, kv = .ref a ∧ St h₀ Y ((h.objs.size, D0) :: cs) env lo h₂ ∧ KeyIn Y k a ∧
      ∀ h' o', IsD w Y o' [(k, a, vv)] → St h₀ Y ((h.objs.size, o') :: cs) env lo h' → P (.ref h.objs.size) h') : Tr w z A (eval (.Dict [some ke] [ve] pos) env) h P := fun tk => by
  rw [arm_eval_Dict]
  rw [show (evalEachOpt [some ke] env).zip ((evalEach [ve] env).map fun v => do let x ← v; standAt pos; pure x) = [(eval ke env, (do let x ← eval ve env; standAt pos; pure x : Sem Value))].map fun p => (some p.1, p.2) from rfl]
  rw [dictDisplay_pairs _ (by simp) (by simp)]
  refine wpAny_bind (wpAny_standAt (wpAny_bind ?_))
  unfold subDict
  refine wpAny_bind (wpAny_alloc ?_)
  refine wpAny_bind (wpAny_holding ?_)
  rw [if_pos (by simp)]
  refine wpAny_bind (evalPairs_cons (seqW (H tk) fun kv h₁ tk₁ k₁ => wpAny_bind (seqW (k₁ tk₁) fun vv h₂ tk₂ k₂ => wpAny_bind (wpAny_standAt (wpAny_pure (evalPairs_nil ?_))))))
  obtain ⟨g, Y, cs, lo, a, k, rfl, S, hk, fin⟩ := k₂
  refine wpAny_holding ?_
  refine wpAny_bind ?_
  rw [List.forIn_cons]
  have hD0 : h₂.DictOfH (TK w) h.objs.size [] := (IsD.new w Y).of S.leG (S.cell (.head _))
  refine wpAny_bind (wpAny_bind (wpAny_dictSet_heap (knd := TK w) (s := Sh z h₂ tk₂) hu (hk.is S.leG) hD0 (fun h' hd' hs' => ?_) (by simp)))
  refine wpAny_pure ?_
  show wpAny _ _ (forIn ([] : List (Value × Value)) _ _) _ _ _
  rw [List.forIn_nil]
  refine wpAny_pure (wpAny_pure (wpAny_pure (wpAny_pure ?_)))
  obtain ⟨o', e, D'⟩ := IsD.from (Y := Y) hd' fun x hx => by
    rcases storedH_mem hx with ⟨u, hx⟩ | ⟨e1, e2⟩
    · exact nomatch hx
    · rw [e1, e2]; exact hk
  exact ⟨h', _, rfl, fin h' o' D' (S.turn (sameBut_kb hs') e)⟩
/-- a dict's update by name -/
theorem e_dupd {o e : PySem.Expr} {apos pos : Pos} {pl : Sem Bool} {P : Value → Heap → Prop}
    (H : Tr w z A (eval o env) h fun ov h₁ => ∃ d ob, ov = .ref d ∧ h₁.get? d = some ob ∧ ob.ExactDict ∧ Tr w z A (spliced (backTo pos (starEach [e] env))) h₁ fun as h₂ => Tr w z A (call (.builtin "dict.update") (.ref d :: as)) h₂ P)
    (he : eval (.Call (.Attribute o "update" apos) [e] [] pos) env = (do
      let ov ← eval o env
      standAt apos.atName
      let (f, first) ← holding [ov] (getMethod ov "update" pl)
      callWith pos f first (backTo pos (starEach [e] env)) []) := by rfl)
    (hs : starEach [e] env = (false, eval e env) :: starEach [] env := by rfl) (hplain : (backTo pos (starEach [] env)).any (·.1) = false := by rfl) :
    Tr w z A (eval (.Call (.Attribute o "update" apos) [e] [] pos) env) h P := fun tk =>
  MethodCall_ (seqW (H tk) fun ov h₁ tk₁ k₁ => by
    obtain ⟨d, ob, rfl, hd, hx, k₂⟩ := k₁
    exact getMethod_builtin (T := "dict") ⟨ob, hd, hx.1⟩ PySem.F.plainAttrs_dict PySem.F.slot_dict_update PySem.F.type_dict_update (fun a e => by cases e; exact ⟨ob, hd, hx.2.1⟩) (PyProof.Rows.callWith_method1 (seqW (k₂ tk₁) fun _ _ tk₃ k₃ => k₃ tk₃) hs hplain)) he
end
end
section -- Pre4
set_option maxRecDepth 100000
section
variable {K : Type} [DecidableEq K]
theorem atKey_self (xs : List (K × Addr × Value)) (k : K) (a : Addr) (v : Value) : ∃ b, atKey (storedH xs k a v) k = some (b, v) := by
  unfold storedH
  split
  · rename_i h
    unfold atKey at h ⊢
    rw [Option.isSome_map] at h
    induction xs with
    | nil => simp at h
    | cons x r ih =>
      rw [List.map_cons, List.find?_cons]
      by_cases e : x.1 = k
      · rw [putAt_fst, decide_eq_true e]
        exact ⟨x.2.1, by simp [putAt, e]⟩
      · rw [putAt_fst, decide_eq_false e]
        rw [List.find?_cons, decide_eq_false e] at h
        exact ih h
  · rename_i h
    refine ⟨a, ?_⟩
    unfold atKey at h ⊢
    rw [Option.isSome_map, Bool.not_eq_true, Option.isSome_eq_false_iff, Option.isNone_iff_eq_none] at h
    rw [List.find?_append, h]
    simp
theorem atKey_other (xs : List (K × Addr × Value)) {k j : K} (a : Addr) (v : Value) (hj : j ≠ k) : atKey (storedH xs k a v) j = atKey xs j := by
  unfold storedH
  split
  · rename_i h0
    clear h0
    unfold atKey
    induction xs with
    | nil => rfl
    | cons x r ih =>
      rw [List.map_cons, List.find?_cons, List.find?_cons]
      rw [putAt_fst]
      by_cases e : x.1 = j
      · rw [decide_eq_true e]
        have : x.1 ≠ k := fun q => hj (e ▸ q)
        simp [putAt, this]
      · rw [decide_eq_false e]; exact ih
  · unfold atKey
    rw [List.find?_append]
    cases xs.find? fun x => decide (x.1 = j) with
    | some y => rfl
    | none => simp [Ne.symm hj]
end
section
variable {w : World} {z : Shared} {A : Around} {h₀ : Heap} {Y Z : Gh} {cs : List (Addr × Obj)} {env : Env} {lo : List (Str × Value)} {h : Heap}
/-- an if whose arms meet -/
theorem x_ifJ {test : PySem.Expr} {body orelse : List Stmt} {pos : Pos} {rest : List Stmt} {P : Flow → Heap → Prop} (M : Env → Heap → Prop)
    (H : ∀ Q : Flow → Heap → Prop, (∀ h', M env h' → Q .next h') → Tr w z A (isTrue test env (eval test env)) h fun b h' => (b = true → Tr w z A (execs body env) h' Q) ∧ (b = false → Tr w z A (execs orelse env) h' Q))
    (K : ∀ h', M env h' → Tr w z A (execs rest env) h' P) : Tr w z A (execs (.If test body orelse pos :: rest) env) h P :=
  x_if ((H (fun f h' => f = .next ∧ M env h') fun h' m => ⟨rfl, m⟩).mono fun b h' x => ⟨fun e => (x.1 e).mono fun f h'' ⟨e1, m⟩ => by subst e1; exact K _ m, fun e => (x.2 e).mono fun f h'' ⟨e1, m⟩ => by subst e1; exact K _ m⟩)
theorem c_neE {a b : Addr} {vs : List Value} {n m : Nat} {P : Value → Heap → Prop} (hu : A.units < cLine) (e1 : h.get? a = some (lst vs n)) (e2 : h.get? b = some (lst [] m)) (H : P (.bool (!vs.isEmpty)) h) :
    Tr w z A (compareOp .NotEq (.ref a) (.ref b)) h P := fun tk => by
  cases vs with
  | nil => exact SeqAt.RcNeAt.lists (s := Sh z h tk) (e := fun _ => true) (isL e1) (isL e2) rfl hu (fun j h1 _ => by simp at h1) PG w _ _ ⟨h, tk, rfl, H⟩
  | cons v r => exact SeqAt.RcNeAt.lists_lengths (s := Sh z h tk) (isL e1) (isL e2) (by simp) hu PG w _ _ ⟨h, tk, rfl, H⟩
theorem i_table {value slice : PySem.Expr} {d a : Addr} {o : Obj} {xs : List (List Int × Addr × Value)} {p q : Int} {t u : Tok} {n : Nat} {r : Addr × Value} {P : Value → Heap → Prop} (S : St h₀ Y cs env lo h) (hu : A.units + 2 < cLine) (hd : h.get? d = some o) (hD : IsD w Y o xs) (hk : h.get? a = some (tup [.int p t, .int q u] n)) (hp : atKey xs [p, q] = some r) (H : P r.2 h)
    (hs : subscripted slice false (.ref d) (.ref a) = operate [.ref d, .ref a] (getItem (.ref d) (.ref a)) := by with_unfolding_all rfl) : Tr w z A (subscriptTail value slice (.ref d) (.ref a)) h P :=
  i_dict hu hd (hD.mono S.leG) (fun _ _ e => e) ⟨p, q, t, u, n, rfl, hk⟩ hp H hs
theorem St.frz {a : Addr} {o : Obj} (S : St h₀ Y ((a, o) :: cs) env lo h) : ∃ Y', St h₀ Y' cs env lo h ∧ Le Y Y' ∧ Y' a = some o :=
  ⟨_, S.freeze.1, S.freeze.2, put_self ..⟩
end
end
section -- Pre5
set_option maxRecDepth 100000
section
variable {w : World} {z : Shared} {A : Around} {h : Heap} {P : Value → Heap → Prop}
theorem c_notIn {l : Addr} {vs : List Value} {ns : List Int} {n : Nat} {k : Int} {t : Tok} (e : h.get? l = some (lst vs n)) (hi : IntsAre vs ns) (H : P (.bool (!(ns.any (· == k)))) h) :
    Tr w z A (compareOp .NotIn (.int k t) (.ref l)) h P := fun tk => notin_list_ints (s := Sh z h tk) (isL e) hi ⟨h, tk, rfl, H⟩
theorem all_true (n : Nat) : ((List.range n).all fun _ => true) = true := by simp
theorem eqAt_ints {s : Shared} {D E : Addr} {us vs : List Value} {ns : List Int} {c d : Nat} (hu : A.units < cLine) (e1 : s.heap.get? D = some (lst us c)) (e2 : s.heap.get? E = some (lst vs d)) (h1 : IntsAre us ns) (h2 : IntsAre vs ns) :
    SeqAt.EqAt A s (.ref D) (.ref E) true := by
  by_cases hd : D = E
  · subst hd; exact SeqAt.EqAt.same _
  refine SeqAt.EqAt.of_refs hd ?_
  have l1 := h1.length
  have l2 := h2.length
  have key := SeqAt.RcAt.lists (A := A) (s := s) (e := fun _ => true) (isL e1) (isL e2) (by simp [l1, l2]) hu (fun j a b => by
    have hj : j < ns.length := by rw [← l1]; simpa using a
    obtain ⟨t, q1⟩ := ints_at h1 (List.getElem?_eq_getElem hj)
    obtain ⟨u, q2⟩ := ints_at h2 (List.getElem?_eq_getElem hj)
    have q1 := (List.getElem?_eq_some_iff.mp q1).2
    have q2 := (List.getElem?_eq_some_iff.mp q2).2
    have := SeqAt.EqAt.int_int (A := A.in1) (s := s) ns[j] t ns[j] u
    rw [beq_self_eq_true] at this
    simpa only [List.getElem_toArray, q1, q2] using this)
  rw [all_true] at key
  exact key
theorem tabs_at {s : Shared} {ds es : List Value} {k : Nat} {T : Nat → List Int} (hu : A.units < cLine) (h1 : TabIs s.heap.get? ds T k) (h2 : TabIs s.heap.get? es T k) (j : Nat) (a : j < ds.toArray.size) (b : j < es.toArray.size) :
    SeqAt.EqAt A s ds.toArray[j] es.toArray[j] true := by
  have hj : j < k := by rw [← h1.1]; simpa using a
  obtain ⟨v, q1, r1, us, c, rfl, p1, i1⟩ := h1.2 j hj
  obtain ⟨v, q2, r2, vs, d, rfl, p2, i2⟩ := h2.2 j hj
  have q1 := (List.getElem?_eq_some_iff.mp q1).2
  have q2 := (List.getElem?_eq_some_iff.mp q2).2
  have := eqAt_ints (A := A) hu p1 p2 i1 i2
  simpa only [List.getElem_toArray, q1, q2] using this
theorem c_tabsE {a b : Addr} {ds es : List Value} {c d k : Nat} {T : Nat → List Int} (hu : A.units + 1 < cLine) (e1 : h.get? a = some (lst ds c)) (e2 : h.get? b = some (lst es d)) (h1 : TabIs h.get? ds T k) (h2 : TabIs h.get? es T k) (H : P (.bool true) h) :
    Tr w z A (compareOp .Eq (.ref a) (.ref b)) h P := fun tk => by
  have key := SeqAt.RcAt.lists (A := A) (s := Sh z h tk) (e := fun _ => true) (isL e1) (isL e2) (by simp [h1.1, h2.1]) (by lia) (tabs_at (A := A.in1) (s := Sh z h tk) hu h1 h2)
  rw [all_true] at key
  exact key PG w _ _ ⟨h, tk, rfl, H⟩
theorem c_tabsN {a b : Addr} {ds es : List Value} {c d k : Nat} {T : Nat → List Int} (hu : A.units + 1 < cLine) (e1 : h.get? a = some (lst ds c)) (e2 : h.get? b = some (lst es d)) (h1 : TabIs h.get? ds T k) (h2 : TabIs h.get? es T k) (H : P (.bool false) h) :
    Tr w z A (compareOp .NotEq (.ref a) (.ref b)) h P := fun tk => by
  have key := SeqAt.RcNeAt.lists (A := A) (s := Sh z h tk) (e := fun _ => true) (isL e1) (isL e2) (by simp [h1.1, h2.1]) (by lia) (tabs_at (A := A.in1) (s := Sh z h tk) hu h1 h2)
  rw [all_true] at key
  exact key PG w _ _ ⟨h, tk, rfl, H⟩
end
end
section -- F1
set_option maxRecDepth 100000
section
variable {w : World} {z : Shared} {A : Around} {h : Heap} {P : Value → Heap → Prop}
theorem is_due_spec {n i : Int} {t u : Tok} {k : Nat} (C : Cx w h) (R : Room A k)
    (H : ∀ h', Keep h h' → P (.bool (decide (n = (i - 1) % 8))) h') : Tr w z A (call (.ref 21) [.int n t, .int i u]) h P := by
  refine' enterT (binds := [(Str.ofString "number", .int n t), (Str.ofString "index", .int i u)]) C R ?ho ?hcd ?hb ?hk ?hn ?_ ?c1 ?c2 ?c3
  case ho => k_is
  case hcd => k_is
  case hb => rfl
  case hk => rfl
  case hn => (simp only [List.map_cons, List.map_nil]; decide)
  case c1 => rfl
  case c2 => rfl
  case c3 => rfl
  intro L h₁ hL S
  refine x_ret ?_
  refine e_cmp ?_
  refine e_name (by assumption) rfl ?_
  refine e_bin ?_
  refine e_bin ?_
  refine e_name (by assumption) rfl ?_
  refine e_int fun _ => ?_
  refine o_sub fun _ => ?_
  refine e_int fun _ => ?_
  refine o_mod (by first | decide | lia) fun _ => ?_
  refine c_eq ?_
  exact H _ S.base

theorem back1 {h h' : Heap} {Y : Gh} {a : Addr} {o : Obj} {cs : List (Addr × Obj)} {env : Env} {lo : List (Str × Value)} (S : St (h.hide a) Y ((a, o) :: cs) env lo h') : KeepBut a h h' ∧ h'.get? a = some o :=
  ⟨fun b o hb e => S.base b o (hide_get? hb e), S.cell (.head _)⟩
/-- one draw -/
noncomputable def bead (x y m : Int) : Int × Int × Int := if x > 0 then (x % m, x / m, y) else ((y * 257 + 4021) % 65449 / 6 % m, x, (y * 257 + 4021) % 65449)
theorem bead_spec {x y m : Int} {t u v : Tok} {a : Addr} {n k : Nat} (C : Cx w (h.hide a)) (ha : h.get? a = some (lst [.int x t, .int y u] n)) (R : Room A k) (hy : 0 ≤ y) (hy2 : y < 100000) (hm : 0 < m) (hm2 : m < 1000)
    (H : ∀ h' r x' y' t' u' v' n', KeepBut a h h' → h'.get? a = some (lst [.int x' t', .int y' u'] n') → bead x y m = (r, x', y') → P (.int r v') h') :
    Tr w z A (call (.ref 80) [.ref a, .int m v]) h P := by
  refine' enterT1 (binds := [(Str.ofString "abacus", .ref a), (Str.ofString "many", .int m v)]) C ha R ?ho ?hcd ?hb ?hk ?hn ?_ ?c1 ?c2 ?c3
  case ho => k_is
  case hcd => k_is
  case hb => rfl
  case hk => rfl
  case hn => (simp only [List.map_cons, List.map_nil]; decide)
  case c1 => rfl
  case c2 => rfl
  case c3 => rfl
  intro L h₁ hL S
  refine x_if ?_
  refine t_cmp ?_
  refine e_sub ?_
  refine e_name (by assumption) rfl ?_
  refine e_int fun _ => ?_
  refine i_list (S.cell (.head _)) (by decide) rfl (sz rfl) ?_
  refine e_int fun _ => ?_
  refine c_gt ?_
  refine t_bool ?_
  refine ⟨fun hx => ?_, fun hx => ?_⟩
  · have hx' : 0 < x := of_decide_eq_true hx
    refine x_assign ?_
    refine e_bin ?_
    refine e_sub ?_
    refine e_name (by assumption) rfl ?_
    refine e_int fun _ => ?_
    refine i_list (S.cell (.head _)) (by decide) rfl (sz rfl) ?_
    refine e_name (by assumption) rfl ?_
    refine o_mod (by first | decide | lia) fun _ => ?_
    refine s_local (by assumption) rfl fun _ _ => ?_
    refine x_assignSub ?_
    refine e_bin ?_
    refine e_sub ?_
    refine e_name (by assumption) rfl ?_
    refine e_int fun _ => ?_
    rename St _ _ _ _ _ _ => S
    refine i_list (S.cell (.head _)) (by decide) rfl (sz rfl) ?_
    refine e_name (by assumption) rfl ?_
    refine o_div hm (by lia) fun _ => ?_
    refine e_name (by assumption) rfl ?_
    refine e_int fun _ => ?_
    refine s_item S (sz rfl) (by decide) (by simp) fun h₃ S => ?_
    refine x_ret ?_
    refine e_name (by assumption) rfl ?_
    obtain ⟨k1, k2⟩ := back1 S
    exact H _ _ _ _ _ _ _ _ k1 k2 (by unfold bead; rw [if_pos hx'])
  · have hx' : ¬ 0 < x := of_decide_eq_false hx
    refine x_nil ?_
    refine x_assignSub ?_
    refine e_bin ?_
    refine e_bin ?_
    refine e_bin ?_
    refine e_sub ?_
    refine e_name (by assumption) rfl ?_
    refine e_int fun _ => ?_
    refine i_list (S.cell (.head _)) (by decide) rfl (sz rfl) ?_
    refine e_int fun _ => ?_
    refine o_mul (by mul_fits) fun _ => ?_
    refine e_int fun _ => ?_
    refine o_add fun _ => ?_
    refine e_int fun _ => ?_
    refine o_mod (by first | decide | lia) fun _ => ?_
    refine e_name (by assumption) rfl ?_
    refine e_int fun _ => ?_
    refine s_item S (sz rfl) (by decide) (by simp) fun h₃ S => ?_
    refine x_ret ?_
    refine e_bin ?_
    refine e_bin ?_
    refine e_sub ?_
    refine e_name (by assumption) rfl ?_
    refine e_int fun _ => ?_
    refine i_list (S.cell (.head _)) (by decide) rfl (sz rfl) ?_
    refine e_int fun _ => ?_
    refine o_div (by decide) (by decide) fun _ => ?_
    refine e_name (by assumption) rfl ?_
    refine o_mod (by first | decide | lia) fun _ => ?_
    obtain ⟨k1, k2⟩ := back1 S
    exact H _ _ _ _ _ _ _ _ k1 k2 (by unfold bead; rw [if_neg hx'])
end
end
section -- F2
set_option maxRecDepth 100000
section
variable {w : World} {z : Shared} {A : Around} {h : Heap} {P : Value → Heap → Prop}
set_option maxHeartbeats 2000000 in
theorem cheapest_spec {a : Addr} {vs : List Value} {ns : List Int} {n k : Nat} {first many : Int} {t u : Tok} (C : Cx w h) (R : Room A (k + 2)) (ha : h.get? a = some (lst vs n)) (hi : IntsAre vs ns) (hlen : ns.length ≤ 1000) (hm : 0 ≤ many) (hm2 : many ≤ 1000)
    (H : ∀ h' r rs c, Keep h h' → newIn h h' r = some (lst rs c) → TabIs (newIn h h') rs (FwT ns first many.toNat) (ns.length + 1) → P (.ref r) h') :
    Tr w z A (call (.ref 28) [.ref a, .int first t, .int many u]) h P := by
  refine' enterT (binds := [(Str.ofString "numbers", .ref a), (Str.ofString "first", .int first t), (Str.ofString "many", .int many u)]) C R ?ho ?hcd ?hb ?hk ?hn ?_ ?c1 ?c2 ?c3
  case ho => k_is
  case hcd => k_is
  case hb => rfl
  case hk => rfl
  case hn => (simp only [List.map_cons, List.map_nil]; decide)
  case c1 => rfl
  case c2 => rfl
  case c3 => rfl
  intro L h₁ hL S
  have hvl : vs.length = ns.length := hi.length
  refine x_assign ?_
  refine e_list ?_
  refine a_cons ?_
  refine e_call ?_
  refine e_blt (by assumption) (by assumption) (nm_list _) b_list (by decide) ?_
  refine w_type ?_
  refine a_cons ?_
  refine e_call ?_
  refine e_blt (by assumption) (by assumption) (nm_range _) b_range (by decide) ?_
  refine w_type ?_
  refine a_cons ?_
  refine e_bin ?_
  refine e_name (by assumption) rfl ?_
  refine e_int fun _ => ?_
  refine o_add fun _ => ?_
  refine a_nil ?_
  refine k_range1 S fun r1 h₂ t1 u1 S => ?_
  refine a_nil ?_
  refine k_listR R.hnd S (S.cell (.head _)) (by lia) (by lia) fun l1 h₃ us1 c1 hus1 S => ?_
  refine a_nil ?_
  refine n_list S (sz rfl) fun tbl h₄ S _ _ => ?_
  refine s_local (by assumption) rfl fun _ _ => ?_
  refine x_for ?_
  refine e_call ?_
  refine e_blt (by assumption) (by assumption) (nm_range _) b_range (by decide) ?_
  refine w_type ?_
  refine a_cons ?_
  refine e_call ?_
  refine e_blt (by assumption) (by assumption) (nm_len _) b_len (by decide) ?_
  refine w_blt ?_
  refine a_cons ?_
  refine e_name (by assumption) rfl ?_
  refine a_nil ?_
  rename St _ _ _ _ _ _ => S
  refine k_len (S.base _ _ ha) (szle hlen (by decide) |> fun x => hvl ▸ x) fun t2 => ?_
  refine a_nil ?_
  refine k_range1 S fun r2 h₅ t3 u3 S => ?_
  have S0 := S
  have S := (S.sel [2, 1] (by decide) : St h _ [(l1, lst us1 c1), (tbl, lst [Value.ref l1] 0)] _ _ _)
  obtain ⟨S, hY⟩ := S.freeze
  have hm1 : (many + 1).toNat = many.toNat + 1 := by lia
  rw [hm1, ← FwT_zero ns first] at hus1
  have hT0 : TabIs (putG (fun _ => none) l1 (lst us1 c1)) [Value.ref l1] (FwT ns first many.toNat) 1 :=
    ⟨rfl, fun i hi => ⟨_, by rw [show i = 0 by lia]; rfl, ⟨l1, us1, c1, rfl, put_self .., by rw [show i = 0 by lia]; exact hus1⟩⟩⟩
  refine for1 R.hnd S (S0.cell (.head _)) (by lia) (by lia) (fun i Y cs lo => ∃ rs c, cs = [(tbl, lst rs c)] ∧ lo = [(Str.ofString "table", .ref tbl), (Str.ofString "numbers", .ref a), (Str.ofString "first", .int first t), (Str.ofString "many", .int many u)] ∧
    TabIs Y rs (FwT ns first many.toNat) (i + 1)) ?hJ ?turn ?done
  case hJ => exact ⟨_, _, rfl, rfl, hT0⟩
  case done =>
    rintro Y' cs' lo' h' hle ⟨rs, c, rfl, rfl, hT⟩ S
    refine x_ret ?_
    refine e_name (by assumption) rfl ?_
    exact H h' tbl rs c S.base (S.cellNew (.head _)) (by rw [← hvl]; exact hT.mono S.le)
  case turn =>
    rintro i t4 Y' cs' lo' h' I oI hi' hle ⟨rs, c, rfl, rfl, hT⟩ S
    refine s_local (by assumption) rfl fun _ _ => ?_
    refine Tr.gen fun Q1 hQ1 => ?_
    refine x_assign2 (Str.ofString "above") (Str.ofString "row") R.hnd ?_
    rename St _ _ _ _ _ _ => S
    obtain ⟨av, hav, ra, uas, na, rfl, hYa, hia⟩ := hT.2 i (by lia)
    have hrl := hT.1
    refine e_tuple ?_
    refine a_cons ?_
    refine e_sub ?_
    refine e_name (by assumption) rfl ?_
    refine e_name (by assumption) rfl ?_
    refine i_list (S.cell (.tail _ (.head _))) (by lia) (by simpa using hav) (szle (k := 2000) (by lia) (by decide)) ?_
    refine a_cons ?_
    refine e_list ?_
    refine a_cons ?_
    refine e_bin ?_
    refine e_name (by assumption) rfl ?_
    refine e_int fun _ => ?_
    refine o_add fun _ => ?_
    refine a_nil ?_
    refine n_list S (sz rfl) fun row h₆ S _ _ => ?_
    refine a_nil ?_
    refine n_tuple S (sz rfl) fun tt h₇ S _ _ => ?_
    refine ⟨tt, _, _, _, rfl, S.cell (.head _), fun h₈ k8 => ?_⟩
    have S := S.keep k8
    refine s_local (by assumption) rfl fun _ _ => ?_
    refine s_local (by assumption) rfl fun _ _ => ?_
    refine x_for ?_
    refine e_call ?_
    refine e_blt (by assumption) (by assumption) (nm_range _) b_range (by decide) ?_
    refine w_type ?_
    refine a_cons ?_
    refine e_name (by assumption) rfl ?_
    refine a_nil ?_
    rename St _ _ _ _ _ _ => S
    refine k_range1 S fun r3 h₉ t5 u5 S => ?_
    have S0 := S
    have S := (S.sel [2, 3, 4] (by decide) : St h Y' [(row, _), (I, oI), (tbl, lst rs c)] _ _ _)
    refine for1 R.hnd S (S0.cell (.head _)) (by lia) (by lia) (fun j Y cs lo => ∃ us c', Y = Y' ∧ cs = [(row, lst us c'), (I, oI), (tbl, lst rs c)] ∧
      lo = [(Str.ofString "above", .ref ra), (Str.ofString "row", .ref row), (Str.ofString "at", .int i t4), (Str.ofString "table", .ref tbl), (Str.ofString "numbers", .ref a), (Str.ofString "first", .int first t), (Str.ofString "many", .int many u)] ∧
      IntsAre us (rowOf (Fw (fun i => ns.getD i 0) first (i + 1)) (j + 1))) ?hJ ?turn ?done
    case hJ =>
      refine ⟨_, _, rfl, rfl, rfl, ?_⟩
      rw [show rowOf (Fw (fun i => ns.getD i 0) first (i + 1)) (0 + 1) = [(i : Int) + 1] by simp [rowOf, Fw]]
      exact .cons _ _ .nil
    case done =>
      rintro Y₂ cs₂ lo₂ h₁₀ hle₂ ⟨us, c', rfl, rfl, rfl, hus⟩ S
      obtain ⟨S, hY2⟩ := S.freeze
      have S := (S.sel [1, 0] (by decide) : St h _ [(tbl, lst rs c), (I, oI)] _ _ _)
      refine x_expr ?_
      refine e_lmeth PySem.F.slot_list_append rfl ?_
      refine e_name (by assumption) rfl ?_
      refine ⟨_, _, _, rfl, S.cell (.head _), ?_⟩
      refine a_cons ?_
      refine e_name (by assumption) rfl ?_
      refine a_nil ?_
      refine m_append S (szle (k := 2000) (by lia) (by decide)) fun h₁₁ S => ?_
      refine x_nil ?_
      refine hQ1 _ _ ⟨_, [(tbl, _)], _, S.swap.names (nm_cons rfl (nm_cons rfl (nm_cons rfl (nm_cons rfl nm_nil)))), hY2, _, _, rfl, rfl, (hT.mono hY2).snoc ⟨row, us, c', rfl, put_self .., hus⟩⟩
    case turn =>
      rintro j t6 Y₂ cs₂ lo₂ h₁₀ I₂ oI₂ hj hle₂ ⟨us, c', rfl, rfl, rfl, hus⟩ S
      have hul : us.length = j + 1 := by rw [hus.length, rowOf_length]
      have hal : uas.length = many.toNat + 1 := by rw [hia.length]; exact rowOf_length _ _
      obtain ⟨ta, hta⟩ := ints_at hia (rowOf_get (f := Fw (fun i => ns.getD i 0) first i) (show j < many.toNat + 1 by lia))
      obtain ⟨tb, htb⟩ := ints_at hia (rowOf_get (f := Fw (fun i => ns.getD i 0) first i) (show j + 1 < many.toNat + 1 by lia))
      obtain ⟨tc, htc⟩ := ints_at hus (rowOf_get (show j < j + 1 by lia))
      obtain ⟨td, htd⟩ := ints_at hi (show ns[i]? = some (ns.getD i 0) by rw [List.getD_eq_getElem?_getD, List.getElem?_eq_getElem (by lia)]; rfl)
      refine s_local (by assumption) rfl fun _ _ => ?_
      refine Tr.gen fun Q2 hQ2 => ?_
      refine x_assign ?_
      refine e_bin ?_
      refine e_sub ?_
      refine e_name (by assumption) rfl ?_
      refine e_name (by assumption) rfl ?_
      rename St _ _ _ _ _ _ => S
      refine i_list (S.get hYa) (by lia) hta (szle (k := 2000) (by lia) (by decide)) ?_
      refine e_call ?_
      refine e_blt (by assumption) (by assumption) (nm_int _) b_int (by decide) ?_
      refine w_type ?_
      refine a_cons ?_
      refine e_un ?_
      refine e_call ?_
      refine e_glob (by assumption) (by assumption) (nm_is_due _) ?_
      refine w_fun1 (f_21 _) (by assumption) ?_
      refine a_cons ?_
      refine e_sub ?_
      refine e_name (by assumption) rfl ?_
      refine e_name (by assumption) rfl ?_
      refine i_list (S.base _ _ ha) (by lia) htd (szle (k := 2000) (by lia) (by decide)) ?_
      refine a_cons ?_
      refine e_bin ?_
      refine e_name (by assumption) rfl ?_
      refine e_name (by assumption) rfl ?_
      refine o_add fun _ => ?_
      refine a_nil ?_
      refine ⟨⟨_, _, _, S⟩, is_due_spec (C.keeps S.base) R.deeper fun h₁₁ k11 => ?_⟩
      have S := S.keep k11
      refine o_not ?_
      refine t_bool ?_
      refine a_nil ?_
      refine k_intBool fun _ => ?_
      refine o_add fun _ => ?_
      refine s_local (by assumption) rfl fun _ _ => ?_
      refine x_expr ?_
      refine e_lmeth PySem.F.slot_list_append rfl ?_
      refine e_name (by assumption) rfl ?_
      rename St _ _ _ _ _ _ => S
      refine ⟨_, _, _, rfl, S.cell (.tail _ (.head _)), ?_⟩
      refine a_cons ?_
      refine e_call ?_
      refine e_blt (by assumption) (by assumption) (nm_min _) b_min (by decide) ?_
      refine w_blt ?_
      refine a_cons ?_
      refine e_name (by assumption) rfl ?_
      refine a_cons ?_
      refine e_bin ?_
      refine e_sub ?_
      refine e_name (by assumption) rfl ?_
      refine e_bin ?_
      refine e_name (by assumption) rfl ?_
      refine e_int fun _ => ?_
      refine o_add fun _ => ?_
      refine i_list (S.get hYa) (by lia) (by rw [show ((j : Int) + 1).toNat = j + 1 by lia]; exact htb) (szle (k := 2000) (by lia) (by decide)) ?_
      refine e_int fun _ => ?_
      refine o_add fun _ => ?_
      refine a_cons ?_
      refine e_bin ?_
      refine e_sub ?_
      refine e_name (by assumption) rfl ?_
      refine e_name (by assumption) rfl ?_
      refine i_list (S.cell (.tail _ (.head _))) (by lia) htc (szle (k := 2000) (by lia) (by decide)) ?_
      refine e_int fun _ => ?_
      refine o_add fun _ => ?_
      refine a_nil ?_
      refine k_min3 R.hnd fun h₁₂ t7 k12 => ?_
      have S := ((S.keep k12).sel [1, 0, 2, 3] (by decide) : St h _ [(row, lst us c'), (I₂, oI₂), (I, oI), (tbl, lst rs c)] _ _ _)
      refine a_nil ?_
      refine m_append S (szle (k := 2000) (by lia) (by decide)) fun h₁₃ S => ?_
      refine x_nil ?_
      refine hQ2 _ _ ⟨_, [(row, _), (I, oI), (tbl, lst rs c)], _, S.swap.names (nm_cons rfl (nm_cons rfl (nm_cons rfl (nm_cons rfl (nm_cons rfl (nm_cons rfl (nm_cons rfl nm_nil))))))), Le.refl _, _, _, rfl, rfl, rfl, ?_⟩
      rw [rowOf_succ]
      refine ints_app hus ?_
      rw [show Fw (fun i => ns.getD i 0) first (i + 1) (j + 1) = min (min (Fw (fun i => ns.getD i 0) first i j + b2i (!due (ns.getD i 0) (first + j))) (Fw (fun i => ns.getD i 0) first i (j + 1) + 1)) (Fw (fun i => ns.getD i 0) first (i + 1) j + 1) by rw [Fw]]
      exact .cons _ _ .nil
end
end
section -- F3
set_option maxRecDepth 100000
section
variable {w : World} {z : Shared} {A : Around} {h : Heap} {P : Value → Heap → Prop}
set_option maxHeartbeats 2000000 in
theorem cheapest_behind_spec {a : Addr} {vs : List Value} {ns : List Int} {n k : Nat} {first many : Int} {t u : Tok} (C : Cx w h) (R : Room A (k + 2)) (ha : h.get? a = some (lst vs n)) (hi : IntsAre vs ns) (hlen : ns.length ≤ 1000) (hm : 0 ≤ many) (hm2 : many ≤ 1000)
    (H : ∀ h' r rs c, Keep h h' → newIn h h' r = some (lst rs c) → TabIs (newIn h h') rs (fun i => BwR ns first many.toNat (ns.length - i)) (ns.length + 1) → P (.ref r) h') :
    Tr w z A (call (.ref 33) [.ref a, .int first t, .int many u]) h P := by
  refine' enterT (binds := [(Str.ofString "numbers", .ref a), (Str.ofString "first", .int first t), (Str.ofString "many", .int many u)]) C R ?ho ?hcd ?hb ?hk ?hn ?_ ?c1 ?c2 ?c3
  case ho => k_is
  case hcd => k_is
  case hb => rfl
  case hk => rfl
  case hn => (simp only [List.map_cons, List.map_nil]; decide)
  case c1 => rfl
  case c2 => rfl
  case c3 => rfl
  intro L h₁ hL S
  have hvl : vs.length = ns.length := hi.length
  refine x_assign ?_
  refine e_list ?_
  refine a_cons ?_
  refine e_comp (cl := [(Str.ofString "many", L + 1)]) rfl rfl (by decide) ?_
  refine e_call ?_
  refine e_blt (by assumption) (by assumption) (nm_range _) b_range (by decide) ?_
  refine w_type ?_
  refine a_cons ?_
  refine e_bin ?_
  refine e_name (by assumption) rfl ?_
  refine e_int fun _ => ?_
  refine o_add fun _ => ?_
  refine a_nil ?_
  refine k_range1 S fun r1 h₂ t1 u1 S => ?_
  refine in_crange (lc := [(Str.ofString "many", .int many u)]) R.hnd S (S.cell (.head _)) (by lia) (by lia) (Hid.nil _) (fun _ hp => nomatch hp) .nil ?hcl rfl ?hlc
    (fun i Y cs vs => cs = [] ∧ IntsAre vs ((List.range i).map fun (j : Nat) => many - (j : Int))) ⟨rfl, .nil⟩ ?turn ?done
  case hcl => intro p hp; rw [List.mem_singleton.mp hp]; exact ⟨rfl, rfl⟩
  case hlc => intro C p hp; rw [List.mem_singleton.mp hp]; exact ⟨rfl, rfl, rfl, rfl⟩
  case turn =>
    rintro i t2 Y' cs' us c Cc D h₃ I oI hi' ⟨rfl, hus⟩ S
    refine s_local (by assumption) rfl fun _ _ => ?_
    refine ts_nil ⟨fun _ => ?_, fun e => nomatch e⟩
    refine e_bin ?_
    refine e_name (by assumption) rfl ?_
    refine e_name (by assumption) rfl ?_
    refine o_sub fun _ => ?_
    rename St _ _ _ _ _ _ => S
    refine ⟨_, _, _, S, nm_cons rfl nm_nil, Le.refl _, rfl, ?_⟩
    rw [List.range_succ, List.map_append]
    exact ints_app hus (.cons _ _ .nil)
  case done =>
    rintro Y' cs' us D c Cc lo' h₃ tk' ⟨rfl, hus⟩ S'
    refine done_none S' fun h₄ F => ?_
    obtain ⟨S, hY1, hY2⟩ := S.join F
    have hm1 : (many + 1).toNat = many.toNat + 1 := by lia
    have hmm : (many.toNat : Int) = many := by lia
    have hus : IntsAre us (BwR ns first many.toNat 0) := by rw [BwR_zero, hmm, ← hm1]; exact hus
    have S := (S.sel [0] (by decide) : St h _ [(D, lst us c)] _ _ _)
    obtain ⟨S, hY⟩ := S.freeze
    refine a_nil ?_
    refine n_list S (sz rfl) fun tbl h₅ S _ _ => ?_
    refine s_local (by assumption) rfl fun _ _ => ?_
    refine x_for ?_
    refine e_call ?_
    refine e_blt (by assumption) (by assumption) (nm_range _) b_range (by decide) ?_
    refine w_type ?_
    refine a_cons ?_
    refine e_bin ?_
    refine e_call ?_
    refine e_blt (by assumption) (by assumption) (nm_len _) b_len (by decide) ?_
    refine w_blt ?_
    refine a_cons ?_
    refine e_name (by assumption) rfl ?_
    refine a_nil ?_
    rename St _ _ _ _ _ _ => S
    refine k_len (S.base _ _ ha) (szle hlen (by decide) |> fun x => hvl ▸ x) fun t2 => ?_
    refine e_int fun _ => ?_
    refine o_sub fun _ => ?_
    refine a_cons ?_
    refine e_un ?_
    refine e_int fun _ => ?_
    refine o_neg fun _ => ?_
    refine a_cons ?_
    refine e_un ?_
    refine e_int fun _ => ?_
    refine o_neg fun _ => ?_
    refine a_nil ?_
    refine k_range3 S (by decide) (by decide) fun r2 h₆ S => ?_
    have S0 := S
    have S := (S.sel [1] (by decide) : St h _ [(tbl, _)] _ _ _)
    refine forD R.hnd S (S0.cell (.head _)) (by lia) (by lia) (by lia) (by lia) (fun i Y cs lo => ∃ rs c, cs = [(tbl, lst rs c)] ∧ lo = [(Str.ofString "table", .ref tbl), (Str.ofString "numbers", .ref a), (Str.ofString "first", .int first t), (Str.ofString "many", .int many u)] ∧
      TabIs Y rs (fun q => BwR ns first many.toNat (i - q)) (i + 1)) ?hJ ?turn2 ?done2
    case hJ => exact ⟨_, _, rfl, rfl, rfl, fun q hq => ⟨_, by rw [show q = 0 by lia]; rfl, ⟨D, us, c, rfl, put_self .., by simpa using hus⟩⟩⟩
    case done2 =>
      rintro Y' cs' lo' h' hle ⟨rs, c, rfl, rfl, hT⟩ S
      refine x_ret ?_
      refine e_name (by assumption) rfl ?_
      exact H h' tbl rs c S.base (S.cellNew (.head _)) (by rw [show ((vs.length : Int) - 1 - -1).toNat = ns.length by lia] at hT; exact hT.mono S.le)
    case turn2 =>
      rintro i t4 Y' cs' lo' h' I oI hi' hle ⟨rs, c, rfl, rfl, hT⟩ S
      refine s_local (by assumption) rfl fun _ _ => ?_
      refine Tr.gen fun Q1 hQ1 => ?_
      refine x_assign2 (Str.ofString "below") (Str.ofString "row") R.hnd ?_
      rename St _ _ _ _ _ _ => S
      obtain ⟨av, hav, ra, uas, na, rfl, hYa, hia⟩ := hT.2 0 (by lia)
      have hrl := hT.1
      refine e_tuple ?_
      refine a_cons ?_
      refine e_sub ?_
      refine e_name (by assumption) rfl ?_
      refine e_int fun _ => ?_
      refine i_list (S.cell (.tail _ (.head _))) (by lia) hav (szle (k := 2000) (by lia) (by decide)) ?_
      refine a_cons ?_
      refine e_list ?_
      refine a_cons ?_
      refine e_bin ?_
      refine e_call ?_
      refine e_blt (by assumption) (by assumption) (nm_len _) b_len (by decide) ?_
      refine w_blt ?_
      refine a_cons ?_
      refine e_name (by assumption) rfl ?_
      refine a_nil ?_
      refine k_len (S.base _ _ ha) (szle hlen (by decide) |> fun x => hvl ▸ x) fun t2 => ?_
      refine e_name (by assumption) rfl ?_
      refine o_sub fun _ => ?_
      refine a_nil ?_
      refine n_list S (sz rfl) fun row h₆ S _ _ => ?_
      refine a_nil ?_
      refine n_tuple S (sz rfl) fun tt h₇ S _ _ => ?_
      refine ⟨tt, _, _, _, rfl, S.cell (.head _), fun h₈ k8 => ?_⟩
      have S := S.keep k8
      refine s_local (by assumption) rfl fun _ _ => ?_
      refine s_local (by assumption) rfl fun _ _ => ?_
      refine x_for ?_
      refine e_call ?_
      refine e_blt (by assumption) (by assumption) (nm_range _) b_range (by decide) ?_
      refine w_type ?_
      refine a_cons ?_
      refine e_bin ?_
      refine e_name (by assumption) rfl ?_
      refine e_int fun _ => ?_
      refine o_sub fun _ => ?_
      refine a_cons ?_
      refine e_un ?_
      refine e_int fun _ => ?_
      refine o_neg fun _ => ?_
      refine a_cons ?_
      refine e_un ?_
      refine e_int fun _ => ?_
      refine o_neg fun _ => ?_
      refine a_nil ?_
      rename St _ _ _ _ _ _ => S
      refine k_range3 S (by decide) (by decide) fun r3 h₉ S => ?_
      have S0 := S
      have S := (S.sel [2, 3, 4] (by decide) : St h Y' [(row, _), (I, oI), (tbl, lst rs c)] _ _ _)
      refine forD R.hnd S (S0.cell (.head _)) (by lia) (by lia) (by lia) (by lia) (fun j Y cs lo => ∃ us c', Y = Y' ∧ cs = [(row, lst us c'), (I, oI), (tbl, lst rs c)] ∧
        lo = [(Str.ofString "below", .ref ra), (Str.ofString "row", .ref row), (Str.ofString "at", .int ((vs.length : Int) - 1 - i) t4), (Str.ofString "table", .ref tbl), (Str.ofString "numbers", .ref a), (Str.ofString "first", .int first t), (Str.ofString "many", .int many u)] ∧
        IntsAre us (rowOf (Bk (fun i => ns.getD i 0) first ns.length many.toNat (i + 1)) (j + 1)).reverse) ?hJ ?turn3 ?done3
      case hJ =>
        refine ⟨_, _, rfl, rfl, rfl, ?_⟩
        rw [show (rowOf (Bk (fun i => ns.getD i 0) first ns.length many.toNat (i + 1)) (0 + 1)).reverse = [(vs.length : Int) - ((vs.length : Int) - 1 - (i : Int))] by simp [rowOf, Bk]; lia]
        exact .cons _ _ .nil
      case done3 =>
        rintro Y₂ cs₂ lo₂ h₁₀ hle₂ ⟨us, c', rfl, rfl, rfl, hus⟩ S
        obtain ⟨S, hY2⟩ := S.freeze
        have S := (S.sel [1, 0] (by decide) : St h _ [(tbl, lst rs c), (I, oI)] _ _ _)
        refine x_expr ?_
        refine e_lmeth PySem.F.slot_list_insert rfl ?_
        refine e_name (by assumption) rfl ?_
        refine ⟨_, _, _, rfl, S.cell (.head _), ?_⟩
        refine a_cons ?_
        refine e_int fun _ => ?_
        refine a_cons ?_
        refine e_name (by assumption) rfl ?_
        refine a_nil ?_
        refine m_insert S (szle (k := 2000) (by lia) (by decide)) (by decide) (by lia) fun h₁₁ S => ?_
        refine x_nil ?_
        refine hQ1 _ _ ⟨_, [(tbl, _)], _, S.swap.names (nm_cons rfl (nm_cons rfl (nm_cons rfl (nm_cons rfl nm_nil)))), hY2, _, _, rfl, rfl, ?_⟩
        rw [show ((many - 1 - -1).toNat) = many.toNat by lia] at hus
        exact (hT.mono hY2).cons ⟨row, us, c', rfl, put_self .., hus⟩ fun q hq => by rw [show i + 1 - (q + 1) = i - q by lia]
      case turn3 =>
        rintro j t6 Y₂ cs₂ lo₂ h₁₀ I₂ oI₂ hj hle₂ ⟨us, c', rfl, rfl, rfl, hus⟩ S
        have hul : us.length = j + 1 := by rw [hus.length, List.length_reverse, rowOf_length]
        have hal : uas.length = many.toNat + 1 := by rw [hia.length]; exact BwR_length _ _ _ _
        obtain ⟨ta, hta⟩ := ints_at hia (BwR_get ns first _ (show many.toNat - j ≤ many.toNat by lia))
        obtain ⟨tb, htb⟩ := ints_at hia (BwR_get ns first _ (show many.toNat - 1 - j ≤ many.toNat by lia))
        obtain ⟨tc, htc⟩ := ints_at hus (rev_get (show 0 ≤ j by lia))
        obtain ⟨td, htd⟩ := ints_at hi (show ns[ns.length - 1 - i]? = some (ns.getD (ns.length - 1 - i) 0) by rw [List.getD_eq_getElem?_getD, List.getElem?_eq_getElem (by lia)]; rfl)
        refine s_local (by assumption) rfl fun _ _ => ?_
        refine Tr.gen fun Q2 hQ2 => ?_
        refine x_assign ?_
        refine e_bin ?_
        refine e_sub ?_
        refine e_name (by assumption) rfl ?_
        refine e_bin ?_
        refine e_name (by assumption) rfl ?_
        refine e_int fun _ => ?_
        refine o_add fun _ => ?_
        rename St _ _ _ _ _ _ => S
        refine i_list (S.get hYa) (by lia) (by rw [show (many - 1 - (j : Int) + 1).toNat = many.toNat - j by lia]; exact hta) (szle (k := 2000) (by lia) (by decide)) ?_
        refine e_call ?_
        refine e_blt (by assumption) (by assumption) (nm_int _) b_int (by decide) ?_
        refine w_type ?_
        refine a_cons ?_
        refine e_un ?_
        refine e_call ?_
        refine e_glob (by assumption) (by assumption) (nm_is_due _) ?_
        refine w_fun1 (f_21 _) (by assumption) ?_
        refine a_cons ?_
        refine e_sub ?_
        refine e_name (by assumption) rfl ?_
        refine e_name (by assumption) rfl ?_
        refine i_list (S.base _ _ ha) (by lia) (by rw [show ((vs.length : Int) - 1 - (i : Int)).toNat = ns.length - 1 - i by lia]; exact htd) (szle (k := 2000) (by lia) (by decide)) ?_
        refine a_cons ?_
        refine e_bin ?_
        refine e_name (by assumption) rfl ?_
        refine e_name (by assumption) rfl ?_
        refine o_add fun _ => ?_
        refine a_nil ?_
        refine ⟨⟨_, _, _, S⟩, is_due_spec (C.keeps S.base) R.deeper fun h₁₁ k11 => ?_⟩
        have S := S.keep k11
        refine o_not ?_
        refine t_bool ?_
        refine a_nil ?_
        refine k_intBool fun _ => ?_
        refine o_add fun _ => ?_
        refine s_local (by assumption) rfl fun _ _ => ?_
        refine x_expr ?_
        refine e_lmeth PySem.F.slot_list_insert rfl ?_
        refine e_name (by assumption) rfl ?_
        rename St _ _ _ _ _ _ => S
        refine ⟨_, _, _, rfl, S.cell (.tail _ (.head _)), ?_⟩
        refine a_cons ?_
        refine e_int fun _ => ?_
        refine a_cons ?_
        refine e_call ?_
        refine e_blt (by assumption) (by assumption) (nm_min _) b_min (by decide) ?_
        refine w_blt ?_
        refine a_cons ?_
        refine e_name (by assumption) rfl ?_
        refine a_cons ?_
        refine e_bin ?_
        refine e_sub ?_
        refine e_name (by assumption) rfl ?_
        refine e_name (by assumption) rfl ?_
        refine i_list (S.get hYa) (by lia) (by rw [show (many - 1 - (j : Int)).toNat = many.toNat - 1 - j by lia]; exact htb) (szle (k := 2000) (by lia) (by decide)) ?_
        refine e_int fun _ => ?_
        refine o_add fun _ => ?_
        refine a_cons ?_
        refine e_bin ?_
        refine e_sub ?_
        refine e_name (by assumption) rfl ?_
        refine e_int fun _ => ?_
        refine i_list (S.cell (.tail _ (.head _))) (by lia) htc (szle (k := 2000) (by lia) (by decide)) ?_
        refine e_int fun _ => ?_
        refine o_add fun _ => ?_
        refine a_nil ?_
        refine k_min3 R.hnd fun h₁₂ t7 k12 => ?_
        have S := ((S.keep k12).sel [1, 0, 2, 3] (by decide) : St h _ [(row, lst us c'), (I₂, oI₂), (I, oI), (tbl, lst rs c)] _ _ _)
        refine a_nil ?_
        refine m_insert S (szle (k := 2000) (by lia) (by decide)) (by decide) (by lia) fun h₁₃ S => ?_
        refine x_nil ?_
        refine hQ2 _ _ ⟨_, [(row, _), (I, oI), (tbl, lst rs c)], _, S.swap.names (nm_cons rfl (nm_cons rfl (nm_cons rfl (nm_cons rfl (nm_cons rfl (nm_cons rfl (nm_cons rfl nm_nil))))))), Le.refl _, _, _, rfl, rfl, rfl, ?_⟩
        rw [rowOf_succ, List.reverse_append]
        rw [show Bk (fun i => ns.getD i 0) first ns.length many.toNat (i + 1) (j + 1) = min (min (Bk (fun i => ns.getD i 0) first ns.length many.toNat i j + b2i (!due (ns.getD (ns.length - 1 - i) 0) (first + ((many.toNat : Int) - 1 - j)))) (Bk (fun i => ns.getD i 0) first ns.length many.toNat i (j + 1) + 1)) (Bk (fun i => ns.getD i 0) first ns.length many.toNat (i + 1) j + 1) by rw [Bk]]
        rw [show many.toNat - (many.toNat - j) = j by lia, show many.toNat - (many.toNat - 1 - j) = j + 1 by lia, hmm]
        exact .cons _ _ hus
end
end
section -- F4
set_option maxRecDepth 100000
section
variable {w : World} {z : Shared} {A : Around} {h : Heap} {P : Value → Heap → Prop}
set_option maxHeartbeats 2000000 in
theorem cheapest_pairs_spec {a : Addr} {vs : List Value} {ns : List Int} {n k : Nat} {first many : Int} {t u : Tok} (C : Cx w h) (R : Room A (k + 3)) (ha : h.get? a = some (lst vs n)) (hi : IntsAre vs ns) (hlen : ns.length ≤ 1000) (hm : 0 ≤ many) (hm2 : many ≤ 1000)
    (H : ∀ h' r rs c, Keep h h' → newIn h h' r = some (lst rs c) → PairsIs (newIn h h') rs (pairsF ns first many.toNat ns.length) → P (.ref r) h') :
    Tr w z A (call (.ref 40) [.ref a, .int first t, .int many u]) h P := by
  refine' enterT (binds := [(Str.ofString "numbers", .ref a), (Str.ofString "first", .int first t), (Str.ofString "many", .int many u)]) C R ?ho ?hcd ?hb ?hk ?hn ?_ ?c1 ?c2 ?c3
  case ho => k_is
  case hcd => k_is
  case hb => rfl
  case hk => rfl
  case hn => (simp only [List.map_cons, List.map_nil]; decide)
  case c1 => rfl
  case c2 => rfl
  case c3 => rfl
  intro L h₁ hL S
  have hvl : vs.length = ns.length := hi.length
  refine x_assign2 (Str.ofString "ahead") (Str.ofString "behind") R.hnd ?_
  refine e_tuple ?_
  refine a_cons ?_
  refine e_call ?_
  refine e_glob (by assumption) (by assumption) (nm_cheapest _) ?_
  refine w_fun1 (f_28 _) (by assumption) ?_
  refine a_cons ?_
  refine e_name (by assumption) rfl ?_
  refine a_cons ?_
  refine e_name (by assumption) rfl ?_
  refine a_cons ?_
  refine e_name (by assumption) rfl ?_
  refine a_nil ?_
  refine ⟨⟨_, _, _, S⟩, cheapest_spec (k := k) (C.keeps S.base) R.deeper (S.base _ _ ha) hi hlen hm hm2 fun h₂ r1 rs1 c1 k1 e1 T1 => ?_⟩
  obtain ⟨S, hY1⟩ := S.grow k1
  have e1 := le_uni_right (fun _ => none) _ _ _ e1
  have T1 := T1.mono (le_uni_right (fun _ => none) _)
  refine a_cons ?_
  refine e_call ?_
  refine e_glob (by assumption) (by assumption) (nm_cheapest_behind _) ?_
  refine w_fun1 (f_33 _) (by assumption) ?_
  refine a_cons ?_
  refine e_name (by assumption) rfl ?_
  refine a_cons ?_
  refine e_name (by assumption) rfl ?_
  refine a_cons ?_
  refine e_name (by assumption) rfl ?_
  refine a_nil ?_
  refine ⟨⟨_, _, _, S⟩, cheapest_behind_spec (k := k) (C.keeps S.base) R.deeper (S.base _ _ ha) hi hlen hm hm2 fun h₃ r2 rs2 c2 k2 e2 T2 => ?_⟩
  obtain ⟨S, hY2⟩ := S.grow k2
  have e1 := hY2 _ _ e1
  have T1 := T1.mono hY2
  have e2 := le_uni_right (uni (fun _ => none) (newIn h₁ h₂)) _ _ _ e2
  have T2 := T2.mono (le_uni_right (uni (fun _ => none) (newIn h₁ h₂)) _)
  generalize uni (uni (fun _ => none) (newIn h₁ h₂)) (newIn h₂ h₃) = Y at *
  refine a_nil ?_
  refine n_tuple S (sz rfl) fun tt h₇ S _ _ => ?_
  refine ⟨tt, _, _, _, rfl, S.cell (.head _), fun h₈ k8 => ?_⟩
  have S := S.keep k8
  refine s_local (by assumption) rfl fun _ _ => ?_
  refine s_local (by assumption) rfl fun _ _ => ?_
  refine x_assign ?_
  refine e_list ?_
  refine a_nil ?_
  rename St _ _ _ _ _ _ => S
  refine n_list S (sz rfl) fun fnd h₉ S _ _ => ?_
  refine s_local (by assumption) rfl fun _ _ => ?_
  refine x_for ?_
  refine e_call ?_
  refine e_blt (by assumption) (by assumption) (nm_range _) b_range (by decide) ?_
  refine w_type ?_
  refine a_cons ?_
  refine e_call ?_
  refine e_blt (by assumption) (by assumption) (nm_len _) b_len (by decide) ?_
  refine w_blt ?_
  refine a_cons ?_
  refine e_name (by assumption) rfl ?_
  refine a_nil ?_
  rename St _ _ _ _ _ _ => S
  refine k_len (S.base _ _ ha) (szle hlen (by decide) |> fun x => hvl ▸ x) fun t2 => ?_
  refine a_nil ?_
  refine k_range1 S fun r3 h₁₀ t5 u5 S => ?_
  have S0 := S
  have S := (S.sel [1] (by decide) : St h Y [(fnd, lst [] 0)] _ _ _)
  have hb1 : rs1.length = ns.length + 1 := T1.1
  have hb2 : rs2.length = ns.length + 1 := T2.1
  refine for1 R.hnd S (S0.cell (.head _)) (by lia) (by lia) (fun i Y' cs lo => ∃ us c, Le Y Y' ∧ cs = [(fnd, lst us c)] ∧ lo = [(Str.ofString "found", .ref fnd), (Str.ofString "ahead", .ref r1), (Str.ofString "behind", .ref r2), (Str.ofString "numbers", .ref a), (Str.ofString "first", .int first t), (Str.ofString "many", .int many u)] ∧
    PairsIs Y' us (pairsF ns first many.toNat i)) ?hJ ?turn ?done
  case hJ => exact ⟨_, _, Le.refl _, rfl, rfl, PairsIs.nil _⟩
  case done =>
    rintro Y' cs' lo' h' hle ⟨us, c, hYY, rfl, rfl, hP⟩ S
    refine x_ret ?_
    refine e_name (by assumption) rfl ?_
    exact H h' fnd us c S.base (S.cellNew (.head _)) (by rw [show ((vs.length : Int).toNat) = ns.length by lia] at hP; exact hP.mono S.le)
  case turn =>
    rintro i t4 Y' cs' lo' h' I oI hi' hle ⟨us, c, hYY, rfl, rfl, hP⟩ S
    refine s_local (by assumption) rfl fun _ _ => ?_
    refine Tr.gen fun Q1 hQ1 => ?_
    refine x_for ?_
    refine e_call ?_
    refine e_blt (by assumption) (by assumption) (nm_range _) b_range (by decide) ?_
    refine w_type ?_
    refine a_cons ?_
    refine e_name (by assumption) rfl ?_
    refine a_nil ?_
    rename St _ _ _ _ _ _ => S
    refine k_range1 S fun r4 h₁₁ t6 u6 S => ?_
    have S0 := S
    have S := (S.sel [2, 1] (by decide) : St h Y' [(fnd, lst us c), (I, oI)] _ _ _)
    refine for1 R.hnd S (S0.cell (.head _)) (by lia) (by lia) (fun j Y'' cs lo => ∃ us c, Le Y' Y'' ∧ cs = [(fnd, lst us c), (I, oI)] ∧
      lo = [(Str.ofString "at", .int i t4), (Str.ofString "found", .ref fnd), (Str.ofString "ahead", .ref r1), (Str.ofString "behind", .ref r2), (Str.ofString "numbers", .ref a), (Str.ofString "first", .int first t), (Str.ofString "many", .int many u)] ∧
      PairsIs Y'' us (pairsF ns first many.toNat i ++ pairsAt ns first many.toNat i j)) ?hJ ?turn2 ?done2
    case hJ => exact ⟨_, _, Le.refl _, rfl, rfl, by simpa [pairsAt] using hP⟩
    case done2 =>
      rintro Y₂ cs₂ lo₂ h₁₂ _ ⟨us, c, hY2, rfl, rfl, hP⟩ S
      refine x_nil ?_
      refine hQ1 _ _ ⟨_, [(fnd, lst us c)], _, S.swap.names (nm_cons rfl (nm_cons rfl (nm_cons rfl (nm_cons rfl (nm_cons rfl (nm_cons rfl nm_nil)))))), hY2, us, c, hYY.trans hY2, rfl, rfl, ?_⟩
      rw [pairsF_succ]; exact hP
    case turn2 =>
      rintro j t7 Y₂ cs₂ lo₂ h₁₂ I₂ oI₂ hj _ ⟨us, c, hY2, rfl, rfl, hP⟩ S
      have hul : us.length ≤ i * many.toNat + j := by
        rw [hP.1, List.length_append]; exact Nat.add_le_add (pairsF_len ..) (pairsAt_len ..)
      have hul2 : us.length ≤ 2000000 := by
        have : i * many.toNat ≤ 1000 * 1000 := Nat.mul_le_mul (by lia) (by lia)
        lia
      have hYl := hYY.trans hY2
      obtain ⟨td, htd⟩ := ints_at hi (show ns[i]? = some (ns.getD i 0) by rw [List.getD_eq_getElem?_getD, List.getElem?_eq_getElem (by lia)]; rfl)
      obtain ⟨v1, hv1, a1, us1, n1, rfl, hy1, hi1⟩ := T1.2 i (by lia)
      obtain ⟨v2, hv2, a2, us2, n2, rfl, hy2, hi2⟩ := T2.2 (i + 1) (by lia)
      obtain ⟨v3, hv3, a3, us3, n3, rfl, hy3, hi3⟩ := T2.2 0 (by lia)
      obtain ⟨ta, hta⟩ := ints_at hi1 (rowOf_get (f := Fw (fun i => ns.getD i 0) first i) (show j < many.toNat + 1 by lia))
      obtain ⟨tb, htb⟩ := ints_at hi2 (BwR_get ns first _ (show j + 1 ≤ many.toNat by lia))
      obtain ⟨tc, htc⟩ := ints_at hi3 (BwR_get ns first _ (show 0 ≤ many.toNat by lia))
      have hl1 : us1.length = many.toNat + 1 := by rw [hi1.length]; exact rowOf_length _ _
      have hl2 : us2.length = many.toNat + 1 := by rw [hi2.length]; exact BwR_length _ _ _ _
      have hl3 : us3.length = many.toNat + 1 := by rw [hi3.length]; exact BwR_length _ _ _ _
      refine s_local (by assumption) rfl fun _ _ => ?_
      refine Tr.gen fun Q2 hQ2 => ?_
      refine x_assign ?_
      refine e_call ?_
      refine e_blt (by assumption) (by assumption) (nm_int _) b_int (by decide) ?_
      refine w_type ?_
      refine a_cons ?_
      refine e_un ?_
      refine e_call ?_
      refine e_glob (by assumption) (by assumption) (nm_is_due _) ?_
      refine w_fun1 (f_21 _) (by assumption) ?_
      refine a_cons ?_
      refine e_sub ?_
      refine e_name (by assumption) rfl ?_
      refine e_name (by assumption) rfl ?_
      rename St _ _ _ _ _ _ => S
      refine i_list (S.base _ _ ha) (by lia) htd (szle (k := 2000) (by lia) (by decide)) ?_
      refine a_cons ?_
      refine e_bin ?_
      refine e_name (by assumption) rfl ?_
      refine e_name (by assumption) rfl ?_
      refine o_add fun _ => ?_
      refine a_nil ?_
      refine ⟨⟨_, _, _, S⟩, is_due_spec (C.keeps S.base) R.deeper fun h₁₁ k11 => ?_⟩
      have S := S.keep k11
      refine o_not ?_
      refine t_bool ?_
      refine a_nil ?_
      refine k_intBool fun _ => ?_
      refine s_local (by assumption) rfl fun _ _ => ?_
      rename St _ _ _ _ _ _ => S
      refine x_if ?_
      refine t_cmp ?_
      refine e_bin ?_
      refine e_bin ?_
      refine e_sub ?_
      refine e_sub ?_
      refine e_name (by assumption) rfl ?_
      refine e_name (by assumption) rfl ?_
      refine i_list (S.get (hYl _ _ e1)) (by lia) hv1 (szle (k := 2000) (by lia) (by decide)) ?_
      refine e_name (by assumption) rfl ?_
      refine i_list (S.get (hYl _ _ hy1)) (by lia) hta (szle (k := 2000) (by lia) (by decide)) ?_
      refine e_name (by assumption) rfl ?_
      refine o_add fun _ => ?_
      refine e_sub ?_
      refine e_sub ?_
      refine e_name (by assumption) rfl ?_
      refine e_bin ?_
      refine e_name (by assumption) rfl ?_
      refine e_int fun _ => ?_
      refine o_add fun _ => ?_
      refine i_list (S.get (hYl _ _ e2)) (by lia) (by rw [show ((i : Int) + 1).toNat = i + 1 by lia]; exact hv2) (szle (k := 2000) (by lia) (by decide)) ?_
      refine e_bin ?_
      refine e_name (by assumption) rfl ?_
      refine e_int fun _ => ?_
      refine o_add fun _ => ?_
      refine i_list (S.get (hYl _ _ hy2)) (by lia) (by rw [show ((j : Int) + 1).toNat = j + 1 by lia]; exact htb) (szle (k := 2000) (by lia) (by decide)) ?_
      refine o_add fun _ => ?_
      refine e_sub ?_
      refine e_sub ?_
      refine e_name (by assumption) rfl ?_
      refine e_int fun _ => ?_
      refine i_list (S.get (hYl _ _ e2)) (by decide) hv3 (szle (k := 2000) (by lia) (by decide)) ?_
      refine e_int fun _ => ?_
      refine i_list (S.get (hYl _ _ hy3)) (by decide) htc (szle (k := 2000) (by lia) (by decide)) ?_
      refine c_eq ?_
      refine t_bool ?_
      refine ⟨fun hx => ?_, fun hx => ?_⟩
      · have hx' : hit ns first many.toNat i j = true := hx
        refine x_expr ?_
        refine e_lmeth PySem.F.slot_list_append rfl ?_
        refine e_name (by assumption) rfl ?_
        refine ⟨_, _, _, rfl, S.cell (.tail _ (.head _)), ?_⟩
        refine a_cons ?_
        refine e_tuple ?_
        refine a_cons ?_
        refine e_name (by assumption) rfl ?_
        refine a_cons ?_
        refine e_bin ?_
        refine e_name (by assumption) rfl ?_
        refine e_name (by assumption) rfl ?_
        refine o_add fun _ => ?_
        refine a_nil ?_
        refine n_tuple S (sz rfl) fun tt h₁₃ S _ _ => ?_
        obtain ⟨S, hY3⟩ := S.freeze
        have S := S.swap
        refine a_nil ?_
        refine m_append S (szle hul2 (by decide)) fun h₁₄ S => ?_
        refine x_nil ?_
        refine x_nil ?_
        refine hQ2 _ _ ⟨_, [(fnd, _), (I, oI)], _, S.swap.names (nm_cons rfl (nm_cons rfl (nm_cons rfl (nm_cons rfl (nm_cons rfl (nm_cons rfl (nm_cons rfl nm_nil))))))), hY3, _, _, hY2.trans hY3, rfl, rfl, ?_⟩
        rw [pairsAt_t hx', ← List.append_assoc]
        exact (hP.mono hY3).snoc (put_self ..)
      · have hx' : hit ns first many.toNat i j = false := hx
        refine x_nil ?_
        refine x_nil ?_
        refine hQ2 _ _ ⟨_, [(fnd, _), (I, oI)], _, S.names (nm_cons rfl (nm_cons rfl (nm_cons rfl (nm_cons rfl (nm_cons rfl (nm_cons rfl (nm_cons rfl nm_nil))))))), Le.refl _, _, _, hY2, rfl, rfl, ?_⟩
        rw [pairsAt_f hx']
        exact hP
end
end
section -- F5
set_option maxRecDepth 100000
noncomputable def FitA (ns : List Int) (lim r : Nat) : Prop := (∀ q, q < r → due (ns.getD (q + 1) 0) ((q : Int) + 1) = true) ∧ r + 1 ≤ lim ∧ (r + 1 < lim → due (ns.getD (r + 1) 0) ((r : Int) + 1) = false)
noncomputable def FitB (ns : List Int) (count most r : Nat) : Prop := (∀ q, q < r → due (ns.getD (ns.length - 1 - q) 0) ((count : Int) - 1 - q) = true) ∧ r ≤ most ∧ (r < most → due (ns.getD (ns.length - 1 - r) 0) ((count : Int) - 1 - r) = false)
theorem getD_some {ns : List Int} {i : Nat} (h : i < ns.length) : ns[i]? = some (ns.getD i 0) := by
  rw [List.getD_eq_getElem?_getD, List.getElem?_eq_getElem h]; rfl
section
variable {w : World} {z : Shared} {A : Around} {h : Heap} {P : Value → Heap → Prop}
set_option maxHeartbeats 2000000 in
theorem fitting_ahead_spec {a : Addr} {vs : List Value} {ns : List Int} {n k count : Nat} {t : Tok} (C : Cx w h) (R : Room A (k + 2)) (ha : h.get? a = some (lst vs n)) (hi : IntsAre vs ns) (hlen : ns.length ≤ 1000) (hl1 : 1 ≤ ns.length) (hc1 : 1 ≤ count) (hc2 : count ≤ 1000)
    (H : ∀ h' (r : Nat) t', Keep h h' → FitA ns (min ns.length count) r → P (.int r t') h') :
    Tr w z A (call (.ref 47) [.ref a, .int count t]) h P := by
  refine' enterT (binds := [(Str.ofString "numbers", .ref a), (Str.ofString "count", .int count t)]) C R ?ho ?hcd ?hb ?hk ?hn ?_ ?c1 ?c2 ?c3
  case ho => k_is
  case hcd => k_is
  case hb => rfl
  case hk => rfl
  case hn => (simp only [List.map_cons, List.map_nil]; decide)
  case c1 => rfl
  case c2 => rfl
  case c3 => rfl
  intro L h₁ hL S
  have hvl : vs.length = ns.length := hi.length
  refine x_assign ?_
  refine e_int fun _ => ?_
  refine s_local (by assumption) rfl fun _ _ => ?_
  rename St _ _ _ _ _ _ => S

  refine x_while (fun k Y cs lo => ∃ (m : Nat) (t' : Tok), cs = [] ∧ lo = [(Str.ofString "many", .int m t'), (Str.ofString "numbers", .ref a), (Str.ofString "count", .int count t)] ∧ m + k = min ns.length count ∧ 1 ≤ k ∧
    ∀ q, q < m → due (ns.getD (q + 1) 0) ((q : Int) + 1) = true) (min ns.length count) S ⟨0, _, rfl, rfl, by lia, by lia, fun q hq => absurd hq (Nat.not_lt_zero _)⟩ ?_
  rintro k' Y' cs' lo' h' hle ⟨m, t', rfl, rfl, hmk, hk1, hall⟩ S
  refine t_and ?_
  refine t_cmp ?_
  refine e_bin ?_
  refine e_name (by assumption) rfl ?_
  refine e_int fun _ => ?_
  refine o_add fun _ => ?_
  refine e_call ?_
  refine e_blt (by assumption) (by assumption) (nm_min _) b_min (by decide) ?_
  refine w_blt ?_
  refine a_cons ?_
  refine e_call ?_
  refine e_blt (by assumption) (by assumption) (nm_len _) b_len (by decide) ?_
  refine w_blt ?_
  refine a_cons ?_
  refine e_name (by assumption) rfl ?_
  refine a_nil ?_
  refine k_len (S.base _ _ ha) (szle hlen (by decide) |> fun x => hvl ▸ x) fun t2 => ?_
  refine a_cons ?_
  refine e_name (by assumption) rfl ?_
  refine a_nil ?_
  refine k_min R.hnd fun h₂ t3 k2 => ?_
  have S := S.keep k2
  refine c_lt ?_
  refine t_bool ?_
  refine ⟨fun hx => ?_, fun hx => ⟨fun e => (nomatch e), fun _ => ?_⟩⟩
  · have hx' := of_decide_eq_true hx
    obtain ⟨td, htd⟩ := ints_at hi (getD_some (ns := ns) (i := m + 1) (by lia))
    refine t_and ?_
    refine t_plain ?_
    refine e_call ?_
    refine e_glob (by assumption) (by assumption) (nm_is_due _) ?_
    refine w_fun1 (f_21 _) (by assumption) ?_
    refine a_cons ?_
    refine e_sub ?_
    refine e_name (by assumption) rfl ?_
    refine e_bin ?_
    refine e_name (by assumption) rfl ?_
    refine e_int fun _ => ?_
    refine o_add fun _ => ?_
    refine i_list (S.base _ _ ha) (by lia) (by rw [show ((m : Int) + 1).toNat = m + 1 by lia]; exact htd) (szle (k := 2000) (by lia) (by decide)) ?_
    refine a_cons ?_
    refine e_bin ?_
    refine e_name (by assumption) rfl ?_
    refine e_int fun _ => ?_
    refine o_add fun _ => ?_
    refine a_nil ?_
    refine ⟨⟨_, _, _, S⟩, is_due_spec (C.keeps S.base) R.deeper fun h₃ k3 => ?_⟩
    have S := S.keep k3
    refine t_bool ?_
    refine ⟨fun hd => ?_, fun hd => ⟨fun e => (nomatch e), fun _ => ?_⟩⟩
    rotate_left
    · refine x_ret ?_
      refine e_name (by assumption) rfl ?_
      exact H _ m t' S.base ⟨hall, by lia, fun _ => hd⟩
    refine t_and_nil ?_
    refine ⟨fun _ => ?_, fun e => nomatch e⟩
    refine x_assign ?_
    refine e_bin ?_
    refine e_name (by assumption) rfl ?_
    refine e_int fun _ => ?_
    refine o_add fun _ => ?_
    refine s_local (by assumption) rfl fun _ _ => ?_
    refine x_nil ?_
    rename St _ _ _ _ _ _ => S
    refine ⟨k' - 1, by lia, Y', [], _, S.names (nm_cons rfl (nm_cons rfl (nm_cons rfl nm_nil))), Le.refl _, m + 1, _, rfl, rfl, by lia, by lia, fun q hq => ?_⟩
    by_cases e : q = m
    · subst e; exact hd
    · exact hall q (by lia)
  · have hx' := of_decide_eq_false hx
    refine x_ret ?_
    refine e_name (by assumption) rfl ?_
    exact H _ m t' S.base ⟨hall, by lia, fun hlt => by lia⟩

set_option maxHeartbeats 2000000 in
theorem fitting_behind_spec {a : Addr} {vs : List Value} {ns : List Int} {n k count most : Nat} {t u : Tok} (C : Cx w h) (R : Room A (k + 2)) (ha : h.get? a = some (lst vs n)) (hi : IntsAre vs ns) (hlen : ns.length ≤ 1000) (hm : most + 1 ≤ ns.length)
    (H : ∀ h' (r : Nat) t', Keep h h' → FitB ns count most r → P (.int r t') h') :
    Tr w z A (call (.ref 54) [.ref a, .int count t, .int most u]) h P := by
  refine' enterT (binds := [(Str.ofString "numbers", .ref a), (Str.ofString "count", .int count t), (Str.ofString "most", .int most u)]) C R ?ho ?hcd ?hb ?hk ?hn ?_ ?c1 ?c2 ?c3
  case ho => k_is
  case hcd => k_is
  case hb => rfl
  case hk => rfl
  case hn => (simp only [List.map_cons, List.map_nil]; decide)
  case c1 => rfl
  case c2 => rfl
  case c3 => rfl
  intro L h₁ hL S
  have hvl : vs.length = ns.length := hi.length
  refine x_assign ?_
  refine e_int fun _ => ?_
  refine s_local (by assumption) rfl fun _ _ => ?_
  rename St _ _ _ _ _ _ => S
  refine x_while (fun k Y cs lo => ∃ (m : Nat) (t' : Tok), cs = [] ∧ lo = [(Str.ofString "many", .int m t'), (Str.ofString "numbers", .ref a), (Str.ofString "count", .int count t), (Str.ofString "most", .int most u)] ∧ m + k = most ∧
    ∀ q, q < m → due (ns.getD (ns.length - 1 - q) 0) ((count : Int) - 1 - q) = true) most S ⟨0, _, rfl, rfl, by lia, fun q hq => absurd hq (Nat.not_lt_zero _)⟩ ?_
  rintro k' Y' cs' lo' h' hle ⟨m, t', rfl, rfl, hmk, hall⟩ S
  refine t_and ?_
  refine t_cmp ?_
  refine e_name (by assumption) rfl ?_
  refine e_name (by assumption) rfl ?_
  refine c_lt ?_
  refine t_bool ?_
  refine ⟨fun hx => ?_, fun hx => ⟨fun e => (nomatch e), fun _ => ?_⟩⟩
  · have hx' := of_decide_eq_true hx
    obtain ⟨td, htd⟩ := ints_at hi (getD_some (ns := ns) (i := ns.length - 1 - m) (by lia))
    refine t_and ?_
    refine t_plain ?_
    refine e_call ?_
    refine e_glob (by assumption) (by assumption) (nm_is_due _) ?_
    refine w_fun1 (f_21 _) (by assumption) ?_
    refine a_cons ?_
    refine e_sub ?_
    refine e_name (by assumption) rfl ?_
    refine e_bin ?_
    refine e_bin ?_
    refine e_call ?_
    refine e_blt (by assumption) (by assumption) (nm_len _) b_len (by decide) ?_
    refine w_blt ?_
    refine a_cons ?_
    refine e_name (by assumption) rfl ?_
    refine a_nil ?_
    refine k_len (S.base _ _ ha) (szle hlen (by decide) |> fun x => hvl ▸ x) fun t2 => ?_
    refine e_int fun _ => ?_
    refine o_sub fun _ => ?_
    refine e_name (by assumption) rfl ?_
    refine o_sub fun _ => ?_
    refine i_list (S.base _ _ ha) (by lia) (by rw [show ((vs.length : Int) - 1 - (m : Int)).toNat = ns.length - 1 - m by lia]; exact htd) (szle (k := 2000) (by lia) (by decide)) ?_
    refine a_cons ?_
    refine e_bin ?_
    refine e_bin ?_
    refine e_name (by assumption) rfl ?_
    refine e_int fun _ => ?_
    refine o_sub fun _ => ?_
    refine e_name (by assumption) rfl ?_
    refine o_sub fun _ => ?_
    refine a_nil ?_
    refine ⟨⟨_, _, _, S⟩, is_due_spec (C.keeps S.base) R.deeper fun h₃ k3 => ?_⟩
    have S := S.keep k3
    refine t_bool ?_
    refine ⟨fun hd => ?_, fun hd => ⟨fun e => (nomatch e), fun _ => ?_⟩⟩
    rotate_left
    · refine x_ret ?_
      refine e_name (by assumption) rfl ?_
      exact H _ m t' S.base ⟨hall, by lia, fun _ => hd⟩
    refine t_and_nil ?_
    refine ⟨fun _ => ?_, fun e => nomatch e⟩
    refine x_assign ?_
    refine e_bin ?_
    refine e_name (by assumption) rfl ?_
    refine e_int fun _ => ?_
    refine o_add fun _ => ?_
    refine s_local (by assumption) rfl fun _ _ => ?_
    refine x_nil ?_
    rename St _ _ _ _ _ _ => S
    refine ⟨k' - 1, by lia, Y', [], _, S.names (nm_cons rfl (nm_cons rfl (nm_cons rfl (nm_cons rfl nm_nil)))), Le.refl _, m + 1, _, rfl, rfl, by lia, fun q hq => ?_⟩
    by_cases e : q = m
    · subst e; exact hd
    · exact hall q (by lia)
  · have hx' := of_decide_eq_false hx
    refine x_ret ?_
    refine e_name (by assumption) rfl ?_
    exact H _ m t' S.base ⟨hall, by lia, fun hlt => by lia⟩
end
end
section -- F6
set_option maxRecDepth 100000
section
variable {w : World} {z : Shared} {A : Around} {h : Heap} {P : Value → Heap → Prop}
set_option maxHeartbeats 4000000 in
theorem homes_of_spec {a : Addr} {vs : List Value} {ns : List Int} {n k count : Nat} {t : Tok} (C : Cx w h) (R : Room A (k + 4)) (ha : h.get? a = some (lst vs n)) (hi : IntsAre vs ns) (hlen : ns.length ≤ 100) (hl1 : 1 ≤ ns.length) (hc1 : 1 ≤ count) (hc2 : count ≤ 100)
    (H : ∀ h' r ds c r1 r2, Keep h h' → newIn h h' r = some (lst ds c) → FitA ns (min ns.length count) r1 → FitB ns count (min ns.length count - 1 - (r1 - 8)) r2 → TabIs (newIn h h') ds (fun i => grp (homesL ns count (r1 - 8) (r2 - 8)) i) count → P (.ref r) h') :
    Tr w z A (call (.ref 66) [.ref a, .int count t]) h P := by
  refine' enterT (binds := [(Str.ofString "numbers", .ref a), (Str.ofString "count", .int count t)]) C R ?ho ?hcd ?hb ?hk ?hn ?_ ?c1 ?c2 ?c3
  case ho => k_is
  case hcd => k_is
  case hb => rfl
  case hk => rfl
  case hn => (simp only [List.map_cons, List.map_nil]; decide)
  case c1 => rfl
  case c2 => rfl
  case c3 => rfl
  intro L h₁ hL S
  have hvl : vs.length = ns.length := hi.length
  refine x_assignComp (cl := []) rfl rfl (by decide) rfl ?_
  refine e_call ?_
  refine e_blt (by assumption) (by assumption) (nm_range _) b_range (by decide) ?_
  refine w_type ?_
  refine a_cons ?_
  refine e_name (by assumption) rfl ?_
  refine a_nil ?_
  refine k_range1 S fun r1 h₂ t1 u1 S => ?_
  have hr1 := S.cell (.head _)
  have S := (S.sel [] (by decide) : St h _ [] _ _ _)
  refine in_crange (lc := []) R.hnd S hr1 (by lia) (by lia) (Hid.nil _) (fun _ hp => nomatch hp) .nil ?hcl rfl ?hlc
    (fun i Y cs vs => Y = (fun _ => none) ∧ cs.length = i ∧ vs.length = i ∧ ∀ j, j < i → ∃ D, vs[j]? = some (.ref D) ∧ cs[j]? = some (D, lst [] 0)) ⟨rfl, rfl, rfl, fun j hj => absurd hj (Nat.not_lt_zero _)⟩ ?turn ?done
  case hcl => intro p hp; exact nomatch hp
  case hlc => intro C p hp; exact nomatch hp
  case turn =>
    rintro i t2 Y' cs' us c Cc D h₃ I oI hi' ⟨rfl, hcs, hus, hall⟩ S
    refine s_local (by assumption) rfl fun _ _ => ?_
    refine ts_nil ⟨fun _ => ?_, fun e => nomatch e⟩
    refine e_list ?_
    refine a_nil ?_
    rename St _ _ _ _ _ _ => S
    refine n_list S (sz rfl) fun na h₅ S _ _ => ?_
    have S := S.perm (List.perm_append_comm (l₁ := [(na, lst [] 0)]) (l₂ := (I, oI) :: (D, lst us c) :: cs'))
    refine ⟨_, cs' ++ [(na, lst [] 0)], _, S, nm_nil, Le.refl _, rfl, by simp [hcs], by simp [hus], fun j hj => ?_⟩
    by_cases e : j = i
    · subst e
      exact ⟨na, by rw [List.getElem?_append_right (by lia), hus]; simp, by rw [List.getElem?_append_right (by lia), hcs]; simp⟩
    · obtain ⟨D', e1, e2⟩ := hall j (by lia)
      exact ⟨D', by rw [List.getElem?_append_left (by lia)]; exact e1, by rw [List.getElem?_append_left (by lia)]; exact e2⟩
  rintro Y' hc ds hm c Cc lo' h₃ tk' ⟨rfl, hcs, hus, hall⟩ S'
  refine done_use S rfl S' fun h₄ S => ?_
  simp only [List.filterMap_nil, List.append_nil] at S
  have hH : HC count ds hc [] := ⟨by lia, fun i hi => let ⟨D, e1, e2⟩ := hall i (by lia); ⟨D, [], 0, e1, e2, .nil⟩⟩
  clear hall
  obtain ⟨S, hY0⟩ := S.freeze
  generalize hYe : putG (uni (fun _ => none) fun _ => none) hm (lst ds c) = Y at S hY0
  have hYm : Y hm = some (lst ds c) := by rw [← hYe]; exact put_self ..
  clear hYe
  have hdl : ds.length = count := hH.1
  obtain ⟨D0, vs0, n0, e1, e2⟩ := hH.pick (show 0 < count by lia)
  refine x_expr ?_
  refine e_lmeth PySem.F.slot_list_append rfl ?_
  refine e_sub ?_
  refine e_name (by assumption) rfl ?_
  refine e_int fun _ => ?_
  rename St _ _ _ _ _ _ => S
  refine i_list (S.get hYm) (by decide) e1 (szle (k := 2000) (by lia) (by decide)) ?_
  refine ⟨_, _, _, rfl, S.cell e2, ?_⟩
  refine a_cons ?_
  refine e_int fun _ => ?_
  refine a_nil ?_
  refine m_appH (pre := []) (i := 0) S hH (by lia) e1 (by decide) fun h₅ hc hH S => ?_
  clear e1 e2 hcs
  refine x_assign ?_
  refine e_call ?_
  refine e_blt (by assumption) (by assumption) (nm_max _) b_max (by decide) ?_
  refine w_blt ?_
  refine a_cons ?_
  refine e_int fun _ => ?_
  refine a_cons ?_
  refine e_bin ?_
  refine e_call ?_
  refine e_glob (by assumption) (by assumption) (nm_fitting_ahead _) ?_
  refine w_fun1 (f_47 _) (by assumption) ?_
  refine a_cons ?_
  refine e_name (by assumption) rfl ?_
  refine a_cons ?_
  refine e_name (by assumption) rfl ?_
  refine a_nil ?_
  refine ⟨⟨_, _, _, S⟩, fitting_ahead_spec (k := k + 1) (C.keeps S.base) R.deeper (S.base _ _ ha) hi (by lia) (by lia) (by lia) (by lia) fun h₆ q1 t6 k6 hA => ?_⟩
  have S := S.keep k6
  refine e_glob (by assumption) (by assumption) (nm_LOOK _) ?_
  refine o_sub fun _ => ?_
  refine a_nil ?_
  rename St _ _ _ _ _ _ => S
  refine k_max R.hnd fun h₇ t7 k7 => ?_
  have S := S.keep k7
  rw [show max (0 : Int) ((q1 : Int) - 8) = ((q1 - 8 : Nat) : Int) by lia]
  have hA2 : q1 - 8 + 1 ≤ min ns.length count := Nat.le_trans (Nat.add_le_add_right (Nat.sub_le _ _) 1) hA.2.1
  have H := fun q2 h' r ds c b1 b2 => H h' r ds c q1 q2 b1 b2 hA
  clear hA
  generalize q1 - 8 = ah at *
  refine s_local (by assumption) rfl fun _ _ => ?_
  refine x_assign ?_
  refine e_bin ?_
  refine e_bin ?_
  refine e_call ?_
  refine e_blt (by assumption) (by assumption) (nm_min _) b_min (by decide) ?_
  refine w_blt ?_
  refine a_cons ?_
  refine e_call ?_
  refine e_blt (by assumption) (by assumption) (nm_len _) b_len (by decide) ?_
  refine w_blt ?_
  refine a_cons ?_
  refine e_name (by assumption) rfl ?_
  refine a_nil ?_
  rename St _ _ _ _ _ _ => S
  refine k_len (S.base _ _ ha) (szle (k := 2000) (by lia) (by decide)) fun t8 => ?_
  refine a_cons ?_
  refine e_name (by assumption) rfl ?_
  refine a_nil ?_
  refine k_min R.hnd fun h₈ t9 k8 => ?_
  have S := S.keep k8
  refine e_int fun _ => ?_
  refine o_sub fun _ => ?_
  refine e_name (by assumption) rfl ?_
  refine o_sub fun _ => ?_
  refine s_local (by assumption) rfl fun _ _ => ?_
  refine x_assign ?_
  refine e_call ?_
  refine e_blt (by assumption) (by assumption) (nm_max _) b_max (by decide) ?_
  refine w_blt ?_
  refine a_cons ?_
  refine e_int fun _ => ?_
  refine a_cons ?_
  refine e_bin ?_
  refine e_call ?_
  refine e_glob (by assumption) (by assumption) (nm_fitting_behind _) ?_
  refine w_fun1 (f_54 _) (by assumption) ?_
  refine a_cons ?_
  refine e_name (by assumption) rfl ?_
  refine a_cons ?_
  refine e_name (by assumption) rfl ?_
  refine a_cons ?_
  refine e_name (by assumption) rfl ?_
  refine a_nil ?_
  rename St _ _ _ _ _ _ => S
  rw [show min (vs.length : Int) (count : Int) - 1 - (ah : Int) = ((min ns.length count - 1 - ah : Nat) : Int) by lia] at S ⊢
  have hm1 : min ns.length count - 1 - ah + ah + 1 ≤ ns.length := by lia
  have hm2 : min ns.length count - 1 - ah + ah + 1 ≤ count := by lia
  clear hA2
  generalize min ns.length count - 1 - ah = most at *
  refine ⟨⟨_, _, _, S⟩, fitting_behind_spec (k := k + 1) (C.keeps S.base) R.deeper (S.base _ _ ha) hi (by lia) (by lia) fun h₉ q2 t10 k9 hB => ?_⟩
  have S := S.keep k9
  refine e_glob (by assumption) (by assumption) (nm_LOOK _) ?_
  refine o_sub fun _ => ?_
  refine a_nil ?_
  rename St _ _ _ _ _ _ => S
  refine k_max R.hnd fun h₁₀ t11 k10 => ?_
  have S := S.keep k10
  rw [show max (0 : Int) ((q2 : Int) - 8) = ((q2 - 8 : Nat) : Int) by lia]
  have hB2 : q2 - 8 ≤ most := Nat.le_trans (Nat.sub_le _ _) hB.2.1
  have H := fun h' r ds c b1 b2 => H q2 h' r ds c b1 b2 hB
  clear hB
  generalize q2 - 8 = be at *
  have hb1 : be + ah + 1 ≤ ns.length := by lia
  have hb2 : be + ah + 1 ≤ count := by lia
  clear hB2 hm1 hm2
  refine s_local (by assumption) rfl fun _ _ => ?_
  refine x_for ?_
  refine e_call ?_
  refine e_blt (by assumption) (by assumption) (nm_range _) b_range (by decide) ?_
  refine w_type ?_
  refine a_cons ?_
  refine e_int fun _ => ?_
  refine a_cons ?_
  refine e_bin ?_
  refine e_name (by assumption) rfl ?_
  refine e_int fun _ => ?_
  refine o_add fun _ => ?_
  refine a_nil ?_
  rename St _ _ _ _ _ _ => S
  refine k_range2 S fun r3 h₁₁ v3 S => ?_
  have hr3 := S.cell (.head _)
  have S := S.drop
  have S := (S.names (nm_cons rfl (nm_cons rfl (nm_cons rfl (nm_cons rfl (nm_cons rfl nm_nil))))) : St h Y hc _ [(Str.ofString "behind", .int be t11), (Str.ofString "ahead", .int ah t7), (Str.ofString "homes", .ref hm), (Str.ofString "numbers", .ref a), (Str.ofString "count", .int count t)] _)
  refine for2 R.hnd S hr3 (by lia) (by lia) (by lia) (fun i Y' cs lo => Le Y Y' ∧ lo = [(Str.ofString "behind", .int be t11), (Str.ofString "ahead", .int ah t7), (Str.ofString "homes", .ref hm), (Str.ofString "numbers", .ref a), (Str.ofString "count", .int count t)] ∧
    HC count ds cs ([(0, 0)] ++ (List.range i).map (fun (i : Nat) => ((i : Int) + 1, (i : Int) + 1)))) ⟨Le.refl _, rfl, by simpa using hH⟩ ?turn1 ?done1
  case turn1 =>
    rintro i t12 Y' hc lo' h' I oI hi' hle ⟨hYY, rfl, hH⟩ S
    obtain ⟨D1, us1, m1, e1, e2⟩ := hH.pick (i := i + 1) (by lia)
    refine s_local (by assumption) rfl fun _ _ => ?_
    refine Tr.gen fun Q hQ => ?_
    refine x_expr ?_
    refine e_lmeth PySem.F.slot_list_append rfl ?_
    refine e_sub ?_
    refine e_name (by assumption) rfl ?_
    refine e_name (by assumption) rfl ?_
    rename St _ _ _ _ _ _ => S
    refine i_list (S.get (hYY _ _ hYm)) (by lia) (by rw [show (1 + (i : Int)).toNat = i + 1 by lia]; exact e1) (szle (k := 2000) (by lia) (by decide)) ?_
    refine ⟨_, _, _, rfl, S.cell (.tail _ e2), ?_⟩
    refine a_cons ?_
    refine e_name (by assumption) rfl ?_
    refine a_nil ?_
    refine m_appH (pre := [(I, oI)]) (i := i + 1) S hH (by lia) e1 (by simp; lia) fun h₁₂ hc' hH S => ?_
    refine x_nil ?_
    refine hQ _ _ ⟨_, hc', _, S.names (nm_cons rfl (nm_cons rfl (nm_cons rfl (nm_cons rfl (nm_cons rfl nm_nil))))), Le.refl _, hYY, rfl, ?_⟩
    rw [List.range_succ, List.map_append, ← List.append_assoc]
    rw [show (1 + (i : Int)) = (i : Int) + 1 by lia] at hH
    exact hH
  rintro Y1 hc lo' h' _ ⟨hYY, rfl, hH⟩ S
  rw [show ((ah : Int) + 1 - 1).toNat = ah by lia] at hH
  have hYm := hYY _ _ hYm
  generalize hLd : [(0, 0)] ++ (List.range ah).map (fun (i : Nat) => ((i : Int) + 1, (i : Int) + 1)) = L1 at hH
  have hL1 : L1.length = 1 + ah := by rw [← hLd]; simp; lia
  refine x_assign2 (Str.ofString "inner") (Str.ofString "many") R.hnd ?_
  refine e_tuple (a_cons (e_slice ?_))
  refine e_name (by assumption) rfl ?_
  refine e_bin ?_
  refine e_name (by assumption) rfl ?_
  refine e_int fun _ => ?_
  refine o_add fun _ => ?_
  refine e_bin ?_
  refine e_call ?_
  refine e_blt (by assumption) (by assumption) (nm_len _) b_len (by decide) ?_
  refine w_blt ?_
  refine a_cons ?_
  refine e_name (by assumption) rfl ?_
  refine a_nil ?_
  rename St _ _ _ _ _ _ => S
  refine k_len (S.base _ _ ha) (szle (k := 2000) (by lia) (by decide)) fun t13 => ?_
  refine e_name (by assumption) rfl ?_
  refine o_sub fun _ => ?_
  refine ⟨a, vs, n, _, _, _, _, rfl, rfl, rfl, S.base _ _ ha, szle (k := 2000) (by lia) (by decide), _, _, _, _, S, fun ia h₁₃ S => ?_⟩
  have hin := kmk_run hi (show (0 : Int) ≤ (ah : Int) + 1 by lia) (show (0 : Int) ≤ (vs.length : Int) - be by lia)
  rw [show ((ah : Int) + 1).toNat = ah + 1 by lia, show min ((vs.length : Int) - (be : Int)).toNat ns.length - (ah + 1) = ns.length - be - (ah + 1) by lia] at hin
  generalize (slicePick vs.toArray (some ((ah : Int) + 1)) (some ((vs.length : Int) - be)) none).toList = iv at S hin
  generalize hinn : (ns.drop (ah + 1)).take (ns.length - be - (ah + 1)) = inner at hin
  have hinl : inner.length = ns.length - be - (ah + 1) := by rw [← hinn, List.length_take, List.length_drop]; lia
  have hivl : iv.length = inner.length := hin.length
  refine a_cons ?_
  refine e_bin ?_
  refine e_bin ?_
  refine e_bin ?_
  refine e_name (by assumption) rfl ?_
  refine e_int fun _ => ?_
  refine o_sub fun _ => ?_
  refine e_name (by assumption) rfl ?_
  refine o_sub fun _ => ?_
  refine e_name (by assumption) rfl ?_
  refine o_sub fun _ => ?_
  refine a_nil ?_
  rename St _ _ _ _ _ _ => S
  refine n_tuple S (sz rfl) fun tt h₁₄ S _ _ => ?_
  refine ⟨tt, _, _, _, rfl, S.cell (.head _), fun h₁₅ k15 => ?_⟩
  have S := S.drop
  obtain ⟨S, hY2⟩ := S.freeze
  have S := S.keep k15
  have hYi : putG Y1 ia (lst iv 0) ia = some (lst iv 0) := put_self ..
  have hYm := hY2 _ _ hYm
  generalize putG Y1 ia (lst iv 0) = Y2 at *
  rw [show (count : Int) - 1 - (ah : Int) - (be : Int) = ((count - 1 - ah - be : Nat) : Int) by lia]
  have hmy : count = count - 1 - ah - be + 1 + ah + be := by lia
  generalize hmany : count - 1 - ah - be = many at *
  have H : ∀ (h' : Heap) (r : Addr) (ds : List Value) (c : Nat), Keep h h' → newIn h h' r = some (lst ds c) → TabIs (newIn h h') ds (fun i => grp (L1 ++ (pairsF inner ((ah : Int) + 1) many inner.length).map (fun p => ((ah : Int) + 1 + p.1, p.2)) ++
      (List.range be).map (fun (s : Nat) => ((ns.length : Int) - ((be : Int) - s), (count : Int) - ((be : Int) - s)))) i) count → P (.ref r) h' := by
    intro h' r ds c b1 b2 b3
    refine H h' r ds c b1 b2 ?_
    unfold homesL
    rw [hLd, hinn, hmany, ← hinl]
    exact b3
  have hinl : ns.length = inner.length + be + (ah + 1) := by lia
  clear hmany
  refine s_local (by assumption) rfl fun _ _ => ?_
  refine s_local (by assumption) rfl fun _ _ => ?_
  refine x_assign ?_
  refine e_ite ?_
  refine t_cmp ?_
  refine e_bin ?_
  refine e_call ?_
  refine e_blt (by assumption) (by assumption) (nm_len _) b_len (by decide) ?_
  refine w_blt ?_
  refine a_cons ?_
  refine e_name (by assumption) rfl ?_
  refine a_nil ?_
  rename St _ _ _ _ _ _ => S
  refine k_len (S.get hYi) (szle (k := 2000) (by lia) (by decide)) fun t16 => ?_
  refine e_name (by assumption) rfl ?_
  refine o_mul (.of_left (intBits_le_64 (by lia) (by lia))) fun t17 => ?_
  refine e_glob (by assumption) (by assumption) (nm_MOST _) ?_
  refine c_le ?_
  refine t_bool ?_
  have hmul : iv.length * many ≤ 100 * 100 := Nat.mul_le_mul (by lia) (by lia)
  refine ⟨fun _ => ?_, fun hx => absurd (of_decide_eq_false hx) (by push_cast at hmul ⊢; lia)⟩
  refine e_glob (by assumption) (by assumption) (nm_cheapest_pairs _) ?_
  refine s_local (by assumption) rfl fun _ _ => ?_
  refine x_for ?_
  refine e_call ?_
  refine e_name (by assumption) rfl ?_
  refine w_fun1 (f_40 _) (by assumption) ?_
  refine a_cons ?_
  refine e_name (by assumption) rfl ?_
  refine a_cons ?_
  refine e_bin ?_
  refine e_name (by assumption) rfl ?_
  refine e_int fun _ => ?_
  refine o_add fun _ => ?_
  refine a_cons ?_
  refine e_name (by assumption) rfl ?_
  refine a_nil ?_
  rename St _ _ _ _ _ _ => S
  refine ⟨⟨_, _, _, S⟩, cheapest_pairs_spec (k := k) (C.keeps S.base) R.deeper (S.get hYi) hin (by lia) (by lia) (by lia) fun h₁₆ pr ps c3 k16 eP hP => ?_⟩
  obtain ⟨S, hY3⟩ := S.grow k16
  have eP := le_uni_right Y2 _ _ _ eP
  have hP := hP.mono (le_uni_right Y2 _)
  have hYm := hY3 _ _ hYm
  generalize uni Y2 (newIn _ h₁₆) = Y3 at *
  rw [show (many : Int).toNat = many by lia] at hP
  have S := (S.names (nm_cons rfl (nm_cons rfl (nm_cons rfl (nm_cons rfl (nm_cons rfl nm_nil))))) : St h Y3 hc _ [(Str.ofString "behind", .int be t11), (Str.ofString "ahead", .int ah t7), (Str.ofString "homes", .ref hm), (Str.ofString "numbers", .ref a), (Str.ofString "count", .int count t)] _)
  have hPL : (pairsF inner ((ah : Int) + 1) many inner.length).length ≤ 100 * 100 := Nat.le_trans (pairsF_len ..) (Nat.mul_le_mul (by lia) (by lia))
  have hPM : ∀ p ∈ pairsF inner ((ah : Int) + 1) many inner.length, ∃ i j : Nat, j < many ∧ p = ((i : Int), (ah : Int) + 1 + (j : Int)) := fun p hp => let ⟨i, j, _, h2, h3, _⟩ := pairsF_mem hp; ⟨i, j, h2, h3⟩
  generalize pairsF inner ((ah : Int) + 1) many inner.length = P2 at *
  refine in_list R.hnd S (.inr eP) (.inr ⟨⟨_, _, _, rfl⟩, fun v hv => ?hrefs⟩) (fun i Y' cs lo => Le Y3 Y' ∧ lo = [(Str.ofString "behind", .int be t11), (Str.ofString "ahead", .int ah t7), (Str.ofString "homes", .ref hm), (Str.ofString "numbers", .ref a), (Str.ofString "count", .int count t)] ∧
    HC count ds cs (L1 ++ (P2.take i).map (fun p => ((ah : Int) + 1 + p.1, p.2)))) ⟨Le.refl _, rfl, by simpa using hH⟩ ?turn2 ?done2
  case hrefs =>
    obtain ⟨i, hlt, he⟩ := List.getElem_of_mem hv
    have hl := hP.1
    obtain ⟨T, _, _, _, e1, _⟩ := hP.2 i (P2[i]'(by lia)) (List.getElem?_eq_getElem (by lia))
    rw [List.getElem?_eq_getElem hlt, he] at e1
    exact ⟨T, Option.some.inj e1⟩
  case turn2 =>
    rintro i v Y' hc lo' h' I oI hv _ ⟨hYY, rfl, hH⟩ S
    have hil : i < P2.length := by rw [← hP.1]; exact (List.getElem?_eq_some_iff.mp hv).1
    have hpi : P2[i]? = some P2[i] := List.getElem?_eq_getElem hil
    obtain ⟨T, tx, ty, nT, f1, f2⟩ := hP.2 i _ hpi
    rw [hv] at f1
    cases f1
    obtain ⟨i', j', hj', hpe⟩ := hPM _ (List.getElem_mem hil)
    generalize P2[i] = pp at hpi f2 hpe
    subst hpe
    obtain ⟨D1, us1, m1, e1, e2⟩ := hH.pick (i := ah + 1 + j') (by lia)
    refine a_tup2 R.hnd (S.get (hYY _ _ f2)) fun h₂ k2 => ?_
    have S := S.keep k2
    refine s_local (by assumption) rfl fun _ _ => ?_
    refine s_local (by assumption) rfl fun _ _ => ?_
    refine Tr.gen fun Q hQ => ?_
    refine x_expr ?_
    refine e_lmeth PySem.F.slot_list_append rfl ?_
    refine e_sub ?_
    refine e_name (by assumption) rfl ?_
    refine e_name (by assumption) rfl ?_
    rename St _ _ _ _ _ _ => S
    refine i_list (S.get (hYY _ _ hYm)) (by lia) (by rw [show ((ah : Int) + 1 + (j' : Int)).toNat = ah + 1 + j' by lia]; exact e1) (szle (k := 2000) (by lia) (by decide)) ?_
    refine ⟨_, _, _, rfl, S.cell (.tail _ e2), ?_⟩
    refine a_cons ?_
    refine e_bin ?_
    refine e_bin ?_
    refine e_name (by assumption) rfl ?_
    refine e_int fun _ => ?_
    refine o_add fun _ => ?_
    refine e_name (by assumption) rfl ?_
    refine o_add fun _ => ?_
    refine a_nil ?_
    refine m_appH (pre := [(I, oI)]) (i := ah + 1 + j') S hH (by lia) e1 (by rw [List.length_append, List.length_map, List.length_take]; lia) fun h₁₂ hc' hH S => ?_
    refine x_nil ?_
    refine hQ _ _ ⟨_, hc', _, S.names (nm_cons rfl (nm_cons rfl (nm_cons rfl (nm_cons rfl (nm_cons rfl nm_nil))))), Le.refl _, hYY, rfl, ?_⟩
    rw [List.take_succ, hpi, List.map_append, ← List.append_assoc]
    rw [show ((ah + 1 + j' : Nat) : Int) = (ah : Int) + 1 + (j' : Int) by lia] at hH
    exact hH
  rintro Y4 hc lo' h' _ ⟨hYY, rfl, hH⟩ S
  rw [hP.1, List.take_length] at hH
  have hYm := hYY _ _ hYm
  refine x_for ?_
  refine e_call ?_
  refine e_blt (by assumption) (by assumption) (nm_range _) b_range (by decide) ?_
  refine w_type ?_
  refine a_cons ?_
  refine e_name (by assumption) rfl ?_
  refine a_cons ?_
  refine e_int fun _ => ?_
  refine a_cons ?_
  refine e_un ?_
  refine e_int fun _ => ?_
  refine o_neg fun _ => ?_
  refine a_nil ?_
  rename St _ _ _ _ _ _ => S
  refine k_range3 S (by decide) (by decide) fun r5 h₂₀ S => ?_
  have hr5 := S.cell (.head _)
  have S := S.drop
  generalize hLL : L1 ++ P2.map (fun p => ((ah : Int) + 1 + p.1, p.2)) = L2 at *
  have hL2 : L2.length ≤ 10500 := by rw [← hLL, List.length_append, List.length_map]; lia
  refine forD R.hnd S hr5 (by lia) (by lia) (by lia) (by lia) (fun i Y' cs lo => Le Y4 Y' ∧ lo = [(Str.ofString "behind", .int be t11), (Str.ofString "ahead", .int ah t7), (Str.ofString "homes", .ref hm), (Str.ofString "numbers", .ref a), (Str.ofString "count", .int count t)] ∧
    HC count ds cs (L2 ++ (List.range i).map (fun (s : Nat) => ((ns.length : Int) - ((be : Int) - s), (count : Int) - ((be : Int) - s))))) ⟨Le.refl _, rfl, by simpa using hH⟩ ?turn3 ?done3
  case turn3 =>
    rintro i t12 Y' hc lo' h' I oI hi' hle ⟨hYY, rfl, hH⟩ S
    obtain ⟨D1, us1, m1, e1, e2⟩ := hH.pick (i := many + 1 + ah + i) (by lia)
    refine s_local (by assumption) rfl fun _ _ => ?_
    refine Tr.gen fun Q hQ => ?_
    refine x_expr ?_
    refine e_lmeth PySem.F.slot_list_append rfl ?_
    refine e_sub ?_
    refine e_name (by assumption) rfl ?_
    refine e_bin ?_
    refine e_name (by assumption) rfl ?_
    refine e_name (by assumption) rfl ?_
    refine o_sub fun _ => ?_
    rename St _ _ _ _ _ _ => S
    refine i_list (S.get (hYY _ _ hYm)) (by lia) (by rw [show ((count : Int) - ((be : Int) - (i : Int))).toNat = many + 1 + ah + i by lia]; exact e1) (szle (k := 2000) (by lia) (by decide)) ?_
    refine ⟨_, _, _, rfl, S.cell (.tail _ e2), ?_⟩
    refine a_cons ?_
    refine e_bin ?_
    refine e_call ?_
    refine e_blt (by assumption) (by assumption) (nm_len _) b_len (by decide) ?_
    refine w_blt ?_
    refine a_cons ?_
    refine e_name (by assumption) rfl ?_
    refine a_nil ?_
    refine k_len (S.base _ _ ha) (szle (k := 2000) (by lia) (by decide)) fun t14 => ?_
    refine e_name (by assumption) rfl ?_
    refine o_sub fun _ => ?_
    refine a_nil ?_
    refine m_appH (pre := [(I, oI)]) (i := many + 1 + ah + i) S hH (by lia) e1 (by rw [List.length_append, List.length_map, List.length_range]; lia) fun h₁₂ hc' hH S => ?_
    refine x_nil ?_
    refine hQ _ _ ⟨_, hc', _, S.names (nm_cons rfl (nm_cons rfl (nm_cons rfl (nm_cons rfl (nm_cons rfl nm_nil))))), Le.refl _, hYY, rfl, ?_⟩
    rw [List.range_succ, List.map_append, ← List.append_assoc]
    rw [show ((many + 1 + ah + i : Nat) : Int) = (count : Int) - ((be : Int) - (i : Int)) by lia, hvl] at hH
    exact hH
  rintro Y5 hc lo' h' _ ⟨hYY, rfl, hH⟩ S
  rw [show ((be : Int) - 0).toNat = be by lia] at hH
  refine x_ret ?_
  refine e_name (by assumption) rfl ?_
  exact H h' hm ds c S.base (S.le _ _ (hYY _ _ hYm)) (hH.tab fun p hp => S.cellNew hp)
end
end
section -- F7
set_option maxRecDepth 100000
/-- a way of the law: its cost and its pairs -/
noncomputable def Way (w : World) (Y : Gh) (v : Value) (c : Int) (U : List Int → Prop) : Prop :=
  ∃ T t pd n o xs, v = .ref T ∧ Y T = some (tup [.int c t, .ref pd] n) ∧ Y pd = some o ∧ IsD w Y o xs ∧ xs ≠ [] ∧ (∀ x ∈ xs, Box x.1) ∧ (pd == sysModules) = false ∧ ∀ k, k ∈ xs.map (·.1) ↔ U k
theorem Way.mono {w : World} {Y Z : Gh} {v : Value} {c : Int} {U : List Int → Prop} (h : Way w Y v c U) (l : Le Y Z) : Way w Z v c U :=
  let ⟨T, t, pd, n, o, xs, a, b, c, d, e⟩ := h
  ⟨T, t, pd, n, o, xs, a, l _ _ b, l _ _ c, d.mono l, e⟩
noncomputable def WaysAre (w : World) (Y : Gh) (vs : List Value) (cu : List (Int × (List Int → Prop))) : Prop := vs.length = cu.length ∧ ∀ (i : Nat) x, cu[i]? = some x → ∃ v, vs[i]? = some v ∧ Way w Y v x.1 x.2
theorem WaysAre.mono {w : World} {Y Z : Gh} {vs : List Value} {cu : List (Int × (List Int → Prop))} (h : WaysAre w Y vs cu) (l : Le Y Z) : WaysAre w Z vs cu := ⟨h.1, fun i x e => let ⟨v, a, b⟩ := h.2 i x e; ⟨v, a, b.mono l⟩⟩
theorem WaysAre.nil (w : World) (Y : Gh) : WaysAre w Y [] [] := ⟨rfl, fun i x e => by simp at e⟩
theorem WaysAre.snoc {w : World} {Y : Gh} {vs : List Value} {cu : List (Int × (List Int → Prop))} {v : Value} {c : Int} {U : List Int → Prop} (h : WaysAre w Y vs cu) (x : Way w Y v c U) : WaysAre w Y (vs ++ [v]) (cu ++ [(c, U)]) := by
  refine ⟨by simp [h.1], fun i y e => ?_⟩
  by_cases hi : i < cu.length
  · rw [List.getElem?_append_left hi] at e
    obtain ⟨u, a, b⟩ := h.2 i y e
    exact ⟨u, by rw [List.getElem?_append_left (by rw [h.1]; exact hi)]; exact a, b⟩
  · rw [List.getElem?_append_right (by lia)] at e
    have hi' : i = cu.length := by
      have := (List.getElem?_eq_some_iff.mp e).1
      simp at this; lia
    subst hi'
    simp at e
    subst e
    exact ⟨v, by rw [← h.1]; simp, x⟩
theorem le_uni_new {h h' : Heap} {Z : Gh} (l : Le Z h.get?) : Le Z (uni Z (newIn h h')) := fun b o e => by
  unfold uni newIn
  rw [l b o e]; exact e
section
variable {w : World} {z : Shared} {A : Around} {h : Heap} {P : Value → Heap → Prop}
theorem k_minL {l : Addr} {vs : List Value} {ns : List Int} {n : Nat} (hh : A.handled = none) (e : h.get? l = some (lst vs n)) (hi : IntsAre vs ns) (hne : 0 < ns.length)
    (H : ∀ h' M t, Keep h h' → M ∈ ns → (∀ a, a ∈ ns → M ≤ a) → P (.int M t) h') : Tr w z A (call (.builtin "min") [.ref l]) h P := fun tk => by
  have hl : (Sh z h tk).heap.IsList l vs.toArray := isL e
  obtain ⟨xs, ex⟩ := hi.allInts.items
  have hns : ns = xs.toList.map (·.1) := by rw [← hi.numsOf, ← nums_intItems, ← ex]
  have hlen : ns.length = xs.size := by rw [hns, List.length_map, Array.length_toList]
  rw [ex] at hl
  refine min_intList hh hl (by lia) fun v h' tk' hv hk => ?_
  obtain ⟨t, rfl⟩ := intItems_at hv
  obtain ⟨h1, h2⟩ := argBest_lt (numAt xs) (xs.size - 1)
  refine ⟨h', tk', rfl, H h' _ t hk ?_ fun a ha => ?_⟩
  · rw [hns, numAt_eq]; exact getD_mem (by rw [List.length_map, Array.length_toList]; lia)
  · rw [hns] at ha
    obtain ⟨j, hj, rfl⟩ := mem_getD ha
    rw [List.length_map, Array.length_toList] at hj
    rw [← numAt_eq]; exact h2 j (by lia)

set_option maxHeartbeats 2000000 in
theorem law_joined_spec {a : Addr} {vs : List Value} {cu : List (Int × (List Int → Prop))} {n k : Nat} {Z : Gh} (C : Cx w h) (R : Room A (k + 1)) (ha : h.get? a = some (lst vs n)) (hZ : Le Z h.get?) (hw : WaysAre w Z vs cu) (hne : cu ≠ []) (hlen : cu.length ≤ 10)
    (H : ∀ h' r c U, Keep h h' → (∃ x ∈ cu, x.1 = c) → (∀ x ∈ cu, c ≤ x.1) → (∀ q, U q ↔ ∃ x ∈ cu, x.1 = c ∧ x.2 q) → Way w (uni Z (newIn h h')) (.ref r) c U → P (.ref r) h') :
    Tr w z A (call (.ref 92) [.ref a]) h P := by
  refine' enterT (binds := [(Str.ofString "ways", .ref a)]) C R ?ho ?hcd ?hb ?hk ?hn ?_ ?c1 ?c2 ?c3
  case ho => k_is
  case hcd => k_is
  case hb => rfl
  case hk => rfl
  case hn => (simp only [List.map_cons, List.map_nil]; decide)
  case c1 => rfl
  case c2 => rfl
  case c3 => rfl
  intro L h₁ hL S
  have hvl := hw.1
  have hu : ∀ env : Env, (A.deeper env).units + 3 < cLine := fun env => by have := R.uni; show A.units + 3 + 3 < _; lia
  refine x_assign ?_
  refine e_call ?_
  refine e_blt (by assumption) (by assumption) (nm_min _) b_min (by decide) ?_
  refine w_blt ?_
  refine a_cons ?_
  refine e_comp (cl := []) rfl rfl (by decide) ?_
  refine e_name (by assumption) rfl ?_
  refine in_clist (lc := []) R.hnd S (S.base _ _ ha) (szle (k := 100) (by lia) (by decide)) ?hcl rfl ?hlc
    (fun i Y cs us => Y = (fun _ => none) ∧ cs = [] ∧ IntsAre us ((cu.map (·.1)).take i)) ⟨rfl, rfl, .nil⟩ ?turn ?done
  case hcl => intro p hp; exact nomatch hp
  case hlc => intro C p hp; exact nomatch hp
  case turn =>
    rintro i v Y' cs' us c Cc D h₂ I oI hv ⟨rfl, rfl, hus⟩ S2
    have hil : i < cu.length := by rw [← hvl]; exact (List.getElem?_eq_some_iff.mp hv).1
    obtain ⟨v', hv', T, t, pd, m, o, xs, rfl, hT, _⟩ := hw.2 i _ (List.getElem?_eq_getElem hil)
    rw [hv] at hv'
    cases hv'
    refine s_local (by assumption) rfl fun _ _ => ?_
    refine ts_nil ⟨fun _ => ?_, fun e => nomatch e⟩
    rename St _ _ _ _ _ _ => S2
    refine e_sub ?_
    refine e_name (by assumption) rfl ?_
    refine e_int fun _ => ?_
    refine i_tup (S2.base _ _ (S.base _ _ (hZ _ _ hT))) (by decide) (by decide) rfl ?_
    refine ⟨_, _, _, S2, nm_nil, Le.refl _, rfl, rfl, ?_⟩
    rw [List.take_add_one, List.getElem?_map, List.getElem?_eq_getElem hil]
    exact ints_app hus (.cons _ _ .nil)
  rintro Y' cs' us D c Cc lo' h₂ tk' ⟨rfl, rfl, hus⟩ S'
  refine done_none S' fun h₃ F => ?_
  obtain ⟨S, hY1, hY2⟩ := S.join F
  rw [hvl, List.take_of_length_le (by simp)] at hus
  have hc0 : 0 < cu.length := List.length_pos_iff.mpr hne
  refine a_nil ?_
  rename St _ _ _ _ _ _ => S
  refine k_minL R.hnd (S.cell (.head _)) hus (by simpa using hc0) fun h₄ M t k4 hM hmin => ?_
  have S := (S.keep k4).drop
  refine s_local (by assumption) rfl fun _ _ => ?_
  refine x_assign ?_
  rename St _ _ _ _ _ _ => S
  have hnm := notMod (C.keeps S.base)
  refine e_dict0 S fun pd h₅ S hpe => ?_
  rw [← hpe] at hnm
  clear hpe
  refine s_local (by assumption) rfl fun _ _ => ?_
  refine x_for ?_
  refine e_name (by assumption) rfl ?_
  rename St _ _ _ _ _ _ => S
  have S := (S.names (nm_cons rfl (nm_cons rfl nm_nil)) : St h _ [(pd, D0)] _ [(Str.ofString "pairs", .ref pd), (Str.ofString "cost", .int M t)] _)
  refine in_list R.hnd S (.inl ha) (.inl ⟨_, _, rfl⟩) (fun i Y' cs lo => ∃ o us, cs = [(pd, o)] ∧ lo = [(Str.ofString "pairs", .ref pd), (Str.ofString "cost", .int M t)] ∧ IsD w Z o us ∧ (∀ x ∈ us, Box x.1) ∧ (∀ q, q ∈ us.map (·.1) ↔ ∃ x ∈ cu.take i, x.1 = M ∧ x.2 q))
    ⟨D0, [], rfl, rfl, IsD.new w Z, fun _ hx => (nomatch hx), fun q => by simp⟩ ?turn2 ?done2
  case turn2 =>
    rintro i v Y' cs' lo' h' I oI hv hle ⟨o, us, rfl, rfl, hD, hB, hK⟩ S
    have hil : i < cu.length := by rw [← hvl]; exact (List.getElem?_eq_some_iff.mp hv).1
    have hci := List.getElem?_eq_getElem hil
    obtain ⟨v', hv', T, tt, pd', m, o', xs, rfl, hT, hpd, hE, hxne, hEB, hmod, hU⟩ := hw.2 i _ hci
    rw [hv] at hv'
    cases hv'
    have htk : ∀ q, (∃ x ∈ cu.take (i + 1), x.1 = M ∧ x.2 q) ↔ (∃ x ∈ cu.take i, x.1 = M ∧ x.2 q) ∨ cu[i].1 = M ∧ cu[i].2 q := fun q => by
      rw [List.take_add_one, hci]
      simp only [Option.toList_some, List.mem_append, List.mem_singleton]
      constructor
      · rintro ⟨x, hx | rfl, hq⟩
        · exact .inl ⟨x, hx, hq⟩
        · exact .inr hq
      · rintro (⟨x, hx, hq⟩ | hq)
        · exact ⟨x, .inl hx, hq⟩
        · exact ⟨_, .inr rfl, hq⟩
    refine a_name ?_
    refine s_local (by assumption) rfl fun _ _ => ?_
    refine Tr.gen fun Q hQ => ?_
    rename St _ _ _ _ _ _ => S
    refine x_if ?_
    refine t_cmp ?_
    refine e_sub ?_
    refine e_name (by assumption) rfl ?_
    refine e_int fun _ => ?_
    refine i_tup (S.base _ _ (hZ _ _ hT)) (by decide) (by decide) rfl ?_
    refine e_name (by assumption) rfl ?_
    refine c_eq ?_
    refine t_bool ?_
    refine ⟨fun hx => ?_, fun hx => ?_⟩
    · have hx' := of_decide_eq_true hx
      refine x_expr (e_dupd ?_)
      refine e_name (by assumption) rfl ?_
      refine ⟨pd, o, rfl, S.cell (.tail _ (.head _)), hD.ex, ?_⟩
      refine a_cons ?_
      refine e_sub ?_
      refine e_name (by assumption) rfl ?_
      refine e_int fun _ => ?_
      refine i_tup (S.base _ _ (hZ _ _ hT)) (by decide) (by decide) rfl ?_
      refine a_nil ?_
      have hpd1 := S.base _ _ (hZ _ _ hpd)
      have hda : pd ≠ pd' := fun e => by
        have h1 := (S.cel (pd, o) (.tail _ (.head _))).2.1
        rw [e, hZ _ _ hpd] at h1; cases h1
      refine m_update S.swap (by have := hu (envOfC (Str.ofString "_law_joined") default 0 0 .none); exact Nat.lt_of_succ_lt this) hmod hda hD hpd1 hE (fun _ _ e => S.base _ _ (hZ _ _ e)) hxne hB hEB fun h'' o'' us'' hks hD'' S => ?_
      refine x_nil ?_
      refine x_nil ?_
      have hB'' : ∀ x ∈ us'', Box x.1 := fun x hx => by
        rcases (hks x.1).mp (List.mem_map.mpr ⟨x, hx, rfl⟩) with h1 | h1
        · obtain ⟨y, hy, e⟩ := List.mem_map.mp h1; rw [← e]; exact hB y hy
        · obtain ⟨y, hy, e⟩ := List.mem_map.mp h1; rw [← e]; exact hEB y hy
      refine hQ _ _ ⟨_, [(pd, o'')], _, S.swap.names (nm_cons rfl (nm_cons rfl nm_nil)), Le.refl _, o'', us'', rfl, rfl, hD'', hB'', fun q => ?_⟩
      rw [hks, hK, hU, htk]
      exact ⟨fun q => q.imp id fun q => ⟨hx', q⟩, fun q => q.imp id fun q => q.2⟩
    · have hx' := of_decide_eq_false hx
      refine x_nil ?_
      refine x_nil ?_
      refine hQ _ _ ⟨_, [(pd, o)], _, S.names (nm_cons rfl (nm_cons rfl nm_nil)), Le.refl _, o, us, rfl, rfl, hD, hB, fun q => ?_⟩
      rw [hK, htk]
      exact ⟨.inl, fun q => q.elim id fun q => absurd q.1 hx'⟩
  rintro Y' cs' lo' h' hle ⟨o, us, rfl, rfl, hD, hB, hK⟩ S
  rw [hvl, List.take_length] at hK
  obtain ⟨x0, hx0, e0⟩ := List.mem_map.mp hM
  have hune : us ≠ [] := fun e => by
    obtain ⟨i, hi, hx⟩ := List.getElem_of_mem hx0
    obtain ⟨_, _, _, _, _, _, _, xs, _, _, _, _, hxne, _, _, hU⟩ := hw.2 i _ (List.getElem?_eq_getElem hi)
    rw [hx] at hU
    obtain ⟨y, hy⟩ := List.exists_mem_of_ne_nil _ hxne
    have h1 := (hK y.1).mpr ⟨x0, hx0, e0, (hU y.1).mp (List.mem_map.mpr ⟨y, hy, rfl⟩)⟩
    rw [e] at h1
    exact nomatch h1
  refine x_ret ?_
  refine e_tuple ?_
  refine a_cons ?_
  refine e_name (by assumption) rfl ?_
  refine a_cons ?_
  refine e_name (by assumption) rfl ?_
  refine a_nil ?_
  rename St _ _ _ _ _ _ => S
  refine n_tuple S (sz rfl) fun r h₆ S _ _ => ?_
  refine H h₆ r M (fun q => q ∈ us.map (·.1)) S.base ⟨x0, hx0, e0⟩ (fun x hx => hmin _ (List.mem_map.mpr ⟨x, hx, rfl⟩)) hK ?_
  exact ⟨r, _, pd, _, o, us, rfl, le_uni_right _ _ _ _ (S.cellNew (.head _)), le_uni_right _ _ _ _ (S.cellNew (.tail _ (.head _))), hD.mono (le_uni_new hZ), hune, hB, hnm, fun q => Iff.rfl⟩
end
end
section -- F8
set_option maxRecDepth 100000
/-- the pairs of the table, as keys -/
noncomputable def UK (ns : Nat → Int) (i j : Nat) (k : List Int) : Prop := ∃ p q, k = [p, q] ∧ Us ns 1 i j p q
/-- the numbers behind the first -/
noncomputable def tailF (ns : List Int) (i : Nat) : Int := ns.getD (i + 1) 0
noncomputable def waysOf (ns : Nat → Int) (i j : Nat) : List (Int × (List Int → Prop)) :=
  (if 0 < i ∧ 0 < j then [(Fw ns 1 (i - 1) (j - 1) + cst ns 1 (i - 1) (j - 1), fun k => UK ns (i - 1) (j - 1) k ∨ k = [(i : Int), (j : Int)])] else []) ++
  (if 0 < i then [(Fw ns 1 (i - 1) j + 1, UK ns (i - 1) j)] else []) ++ (if 0 < j then [(Fw ns 1 i (j - 1) + 1, UK ns i (j - 1))] else [])
theorem waysOf_step {ns : Nat → Int} {i j : Nat} {c : Int} {U : List Int → Prop} (hne : waysOf ns i j ≠ []) (h1 : ∃ x ∈ waysOf ns i j, x.1 = c) (h2 : ∀ x ∈ waysOf ns i j, c ≤ x.1) (h3 : ∀ q, U q ↔ ∃ x ∈ waysOf ns i j, x.1 = c ∧ x.2 q) :
    c = Fw ns 1 i j ∧ ∀ q, U q ↔ UK ns i j q := by
  cases i with
  | zero =>
    cases j with
    | zero => exact absurd (by simp [waysOf]) hne
    | succ j =>
      have e : waysOf ns 0 (j + 1) = [(Fw ns 1 0 j + 1, UK ns 0 j)] := by simp [waysOf]
      rw [e] at h1 h2 h3
      simp only [List.mem_singleton, exists_eq_left] at h1 h3
      refine ⟨by rw [← h1, Fw_0l, Fw_0l]; push_cast; rfl, fun q => ?_⟩
      rw [h3]
      constructor
      · rintro ⟨_, p, q, rfl, h⟩; exact ⟨p, q, rfl, Us_0l.mpr h⟩
      · rintro ⟨p, q, rfl, h⟩; exact ⟨h1, p, q, rfl, Us_0l.mp h⟩
  | succ i =>
    cases j with
    | zero =>
      have e : waysOf ns (i + 1) 0 = [(Fw ns 1 i 0 + 1, UK ns i 0)] := by simp [waysOf]
      rw [e] at h1 h2 h3
      simp only [List.mem_singleton, exists_eq_left] at h1 h3
      refine ⟨by rw [← h1, Fw_k0, Fw_k0]; push_cast; rfl, fun q => ?_⟩
      rw [h3]
      constructor
      · rintro ⟨_, p, q, rfl, h⟩; exact ⟨p, q, rfl, Us_k0.mpr h⟩
      · rintro ⟨p, q, rfl, h⟩; exact ⟨h1, p, q, rfl, Us_k0.mp h⟩
    | succ j =>
      have e : waysOf ns (i + 1) (j + 1) = [(Fw ns 1 i j + cst ns 1 i j, fun k => UK ns i j k ∨ k = [((i + 1 : Nat) : Int), ((j + 1 : Nat) : Int)]), (Fw ns 1 i (j + 1) + 1, UK ns i (j + 1)), (Fw ns 1 (i + 1) j + 1, UK ns (i + 1) j)] := by simp [waysOf]
      rw [e] at h1 h2 h3
      have hf := Fw_step (ns := ns) (first := 1) (k := i) (l := j)
      simp only [List.mem_cons, List.not_mem_nil, or_false, forall_eq_or_imp, forall_eq, exists_eq_or_imp, exists_eq_left] at h1 h2 h3
      have hc : c = Fw ns 1 (i + 1) (j + 1) := by lia
      refine ⟨hc, fun q => ?_⟩
      rw [h3, hc]
      constructor
      · rintro (⟨e, ⟨p, q, rfl, h⟩ | rfl⟩ | ⟨e, p, q, rfl, h⟩ | ⟨e, p, q, rfl, h⟩)
        · exact ⟨p, q, rfl, Us_kl.mpr (.inl ⟨e, .inl h⟩)⟩
        · exact ⟨_, _, rfl, Us_kl.mpr (.inl ⟨e, .inr ⟨by push_cast; rfl, by push_cast; rfl⟩⟩)⟩
        · exact ⟨p, q, rfl, Us_kl.mpr (.inr (.inl ⟨e, h⟩))⟩
        · exact ⟨p, q, rfl, Us_kl.mpr (.inr (.inr ⟨e, h⟩))⟩
      · rintro ⟨p, q, rfl, h⟩
        rcases Us_kl.mp h with ⟨e, h | ⟨rfl, rfl⟩⟩ | ⟨e, h⟩ | ⟨e, h⟩
        · exact .inl ⟨e, .inl ⟨p, q, rfl, h⟩⟩
        · exact .inl ⟨e, .inr (by push_cast; rfl)⟩
        · exact .inr (.inl ⟨e, p, q, rfl, h⟩)
        · exact .inr (.inr ⟨e, p, q, rfl, h⟩)
theorem Way.congr {w : World} {Y : Gh} {v : Value} {c c' : Int} {U V : List Int → Prop} (h : Way w Y v c U) (e : c = c') (hU : ∀ q, U q ↔ V q) : Way w Y v c' V := by
  obtain ⟨T, t, pd, n, o, xs, a1, a2, a3, a4, a5, a6, a7, a8⟩ := h
  subst e
  exact ⟨T, t, pd, n, o, xs, a1, a2, a3, a4, a5, a6, a7, fun k => (a8 k).trans (hU k)⟩
theorem waysOf_len (ns : Nat → Int) (i j : Nat) : (waysOf ns i j).length ≤ 3 := by
  unfold waysOf
  rw [List.length_append, List.length_append]
  split <;> split <;> split <;> simp
theorem waysOf_nil {ns : Nat → Int} {i j : Nat} (h : waysOf ns i j = []) : i = 0 ∧ j = 0 := by
  unfold waysOf at h
  rw [List.append_eq_nil_iff, List.append_eq_nil_iff] at h
  constructor
  · by_cases e : 0 < i
    · have := h.1.2; rw [if_pos e] at this; exact nomatch this
    · lia
  · by_cases e : 0 < j
    · have := h.2; rw [if_pos e] at this; exact nomatch this
    · lia
/-- what the law's table holds -/
structure TabD (w : World) (Y : Gh) (o : Obj) (ns : Nat → Int) (m : Nat) (done : Nat → Nat → Prop) : Prop where
  ex : ∃ xs, IsD w Y o xs ∧ xs.length ≤ m ∧ ∀ i j : Nat, done i j → ∃ b v, atKey xs [(i : Int) + 1, (j : Int) + 1] = some (b, v) ∧ Way w Y v (Fw ns 1 i j) (UK ns i j)
theorem TabD.mono {w : World} {Y Z : Gh} {o : Obj} {ns : Nat → Int} {m m' : Nat} {done done' : Nat → Nat → Prop} (T : TabD w Y o ns m done) (l : Le Y Z) (hm : m ≤ m') (hd : ∀ i j, done' i j → done i j) : TabD w Z o ns m' done' :=
  let ⟨xs, a, b, c⟩ := T.ex
  ⟨xs, a.mono l, Nat.le_trans b hm, fun i j h => let ⟨b, v, e, x⟩ := c i j (hd i j h); ⟨b, v, e, x.mono l⟩⟩
open Classical in
/-- a row of the law's answer -/
noncomputable def dueRow (ns : Nat → Int) (n m k j : Nat) : List Int := ((List.range k).filter fun (p : Nat) => decide (Us ns 1 n m (p : Int) (j : Int))).map fun (p : Nat) => (p : Int)
theorem dueRow_t {ns : Nat → Int} {n m k j : Nat} (h : Us ns 1 n m (k : Int) (j : Int)) : dueRow ns n m (k + 1) j = dueRow ns n m k j ++ [(k : Int)] := by
  unfold dueRow
  rw [List.range_succ, List.filter_append, List.map_append]
  simp [h]
theorem dueRow_f {ns : Nat → Int} {n m k j : Nat} (h : ¬ Us ns 1 n m (k : Int) (j : Int)) : dueRow ns n m (k + 1) j = dueRow ns n m k j := by
  unfold dueRow
  rw [List.range_succ, List.filter_append, List.map_append]
  simp [h]
section
variable {w : World} {z : Shared} {A : Around} {h : Heap} {P : Value → Heap → Prop}
set_option maxHeartbeats 4000000 in
theorem law_due_spec {a : Addr} {vs : List Value} {ns : List Int} {n k count : Nat} {t : Tok} (C : Cx w h) (R : Room A (k + 2)) (ha : h.get? a = some (lst vs n)) (hi : IntsAre vs ns) (hl1 : 1 ≤ ns.length) (hlen : ns.length ≤ 13) (hc1 : 1 ≤ count) (hc2 : count ≤ 9)
    (hr : ∀ i, i + 1 < ns.length → 0 ≤ tailF ns i ∧ tailF ns i < 8)
    (H : ∀ h' r ds c, Keep h h' → newIn h h' r = some (lst ds c) → TabIs (newIn h h') ds (dueRow (tailF ns) (ns.length - 1) (count - 1) ns.length) count → P (.ref r) h') :
    Tr w z A (call (.ref 97) [.ref a, .int count t]) h P := by
  refine' enterT (binds := [(Str.ofString "numbers", .ref a), (Str.ofString "count", .int count t)]) C R ?ho ?hcd ?hb ?hk ?hn ?_ ?c1 ?c2 ?c3
  case ho => k_is
  case hcd => k_is
  case hb => rfl
  case hk => rfl
  case hn => (simp only [List.map_cons, List.map_nil]; decide)
  case c1 => rfl
  case c2 => rfl
  case c3 => rfl
  intro L h₁ hL S
  have hvl : vs.length = ns.length := hi.length
  have hu3 : ∀ env : Env, (A.deeper env).units + 3 < cLine := fun env => by have := R.uni; show A.units + 3 + 3 < _; lia
  have hu2 : ∀ env : Env, (A.deeper env).units + 2 < cLine := fun env => by have := R.uni; show A.units + 3 + 2 < _; lia
  have hu : ∀ env : Env, (A.deeper env).units < cLine := fun env => by have := R.uni; show A.units + 3 < _; lia
  refine x_assign ?_
  refine e_dict1 ?_ ?_
  · with_reducible exact hu _
  have hmod1 := notMod (C.keeps S.base)
  have S := S.push (o := D0)
  generalize htb : h₁.objs.size = tb at hmod1 S
  refine e_tuple ?_
  refine a_cons ?_
  refine e_int fun _ => ?_
  refine a_cons ?_
  refine e_int fun _ => ?_
  refine a_nil ?_
  refine n_tuple S (sz rfl) fun k1 h₂ S _ _ => ?_
  refine e_tuple ?_
  refine a_cons ?_
  refine e_int fun _ => ?_
  refine a_cons ?_
  rename St _ _ _ _ _ _ => S
  refine e_dict1 ?_ ?_
  · with_reducible exact hu _
  have hmod2 := notMod (C.keeps S.base)
  have S := S.push (o := D0)
  generalize hpd : h₂.objs.size = pd at hmod2 S
  refine e_tuple ?_
  refine a_cons ?_
  refine e_int fun _ => ?_
  refine a_cons ?_
  refine e_int fun _ => ?_
  refine a_nil ?_
  refine n_tuple S (sz rfl) fun k2 h₃ S _ _ => ?_
  refine e_bool ?_
  obtain ⟨Y1, S, hY1, hk2⟩ := S.frz
  refine ⟨_, _, _, _, k2, [0, 0], rfl, S, ⟨_, _, _, _, _, rfl, hk2⟩, fun h₄ o2 hD2 S => ?_⟩
  obtain ⟨Y2, S, hY2, hpdY⟩ := S.frz
  refine a_nil ?_
  rename St _ _ _ _ _ _ => S
  refine n_tuple S (sz rfl) fun t1 h₅ S _ _ => ?_
  obtain ⟨Y3, S, hY3, ht1⟩ := S.frz
  obtain ⟨Y4, S, hY4, hk1⟩ := S.frz
  have hW : Way w Y4 (.ref t1) (Fw (tailF ns) 1 0 0) (UK (tailF ns) 0 0) := by
    rw [show Fw (tailF ns) 1 0 0 = 0 by rw [Fw_k0]; rfl]
    refine ⟨t1, _, pd, _, o2, _, rfl, hY4 _ _ ht1, hY4 _ _ (hY3 _ _ hpdY), ((hD2.mono hY2).mono hY3).mono hY4, by simp, ?_, hmod2, fun k => ?_⟩
    · intro x hx; rw [List.mem_singleton.mp hx]; exact ⟨0, 0, by decide, by decide, rfl⟩
    · simp only [List.map_cons, List.map_nil, List.mem_singleton]
      constructor
      · rintro rfl; exact ⟨0, 0, rfl, Us_00.mpr ⟨rfl, rfl⟩⟩
      · rintro ⟨p, q, rfl, h⟩; obtain ⟨rfl, rfl⟩ := Us_00.mp h; rfl
  refine ⟨_, _, _, _, k1, [1, 1], rfl, S, ⟨_, _, _, _, _, rfl, hk1⟩, fun h₆ oT hDT S => ?_⟩
  have hT : TabD w Y4 oT (tailF ns) 1 (fun p q => p = 0 ∧ q = 0) := ⟨⟨_, hDT, by simp, fun i j hij => by
    obtain ⟨rfl, rfl⟩ := hij
    exact ⟨k1, .ref t1, by simp [atKey], hW⟩⟩⟩
  clear hDT hW hk1 ht1 hY4 hY3 hpdY hD2 hY2 hk2 hY1
  refine s_local (by assumption) rfl fun _ _ => ?_
  refine x_for ?_
  refine e_call ?_
  refine e_blt (by assumption) (by assumption) (nm_range _) b_range (by decide) ?_
  refine w_type ?_
  refine a_cons ?_
  refine e_int fun _ => ?_
  refine a_cons ?_
  refine e_bin ?_
  refine e_call ?_
  refine e_blt (by assumption) (by assumption) (nm_len _) b_len (by decide) ?_
  refine w_blt ?_
  refine a_cons ?_
  refine e_name (by assumption) rfl ?_
  refine a_nil ?_
  rename St _ _ _ _ _ _ => S
  refine k_len (S.base _ _ ha) (szle (k := 2000) (by lia) (by decide)) fun t2 => ?_
  refine e_int fun _ => ?_
  refine o_add fun _ => ?_
  refine a_nil ?_
  refine k_range2 S fun r1 h₇ v1 S => ?_
  have hr1 := S.cell (.head _)
  have S := (S.drop.names (nm_cons rfl (nm_cons rfl (nm_cons rfl nm_nil))) : St h Y4 [(tb, oT)] _ [(Str.ofString "table", .ref tb), (Str.ofString "numbers", .ref a), (Str.ofString "count", .int count t)] _)
  refine for2 R.hnd S hr1 (by lia) (by lia) (by lia) (fun i Y' cs lo => Le Y4 Y' ∧ ∃ oT, cs = [(tb, oT)] ∧ lo = [(Str.ofString "table", .ref tb), (Str.ofString "numbers", .ref a), (Str.ofString "count", .int count t)] ∧
    TabD w Y' oT (tailF ns) (1 + i * count) (fun p q => (p = 0 ∧ q = 0) ∨ (p < i ∧ q < count))) ⟨Le.refl _, oT, rfl, rfl, hT.mono (Le.refl _) (by lia) (fun i j e => e.elim id fun e => absurd e.1 (Nat.not_lt_zero _))⟩ ?turn1 ?done1
  case turn1 =>
    rintro i t3 Y' cs' lo' h' I oI hi' hle ⟨hYY, oT, rfl, rfl, hT⟩ S
    refine s_local (by assumption) rfl fun _ _ => ?_
    refine x_for ?_
    refine e_call ?_
    refine e_blt (by assumption) (by assumption) (nm_range _) b_range (by decide) ?_
    refine w_type ?_
    refine a_cons ?_
    refine e_int fun _ => ?_
    refine a_cons ?_
    refine e_bin ?_
    refine e_name (by assumption) rfl ?_
    refine e_int fun _ => ?_
    refine o_add fun _ => ?_
    refine a_nil ?_
    rename St _ _ _ _ _ _ => S
    refine k_range2 S fun r2 h₈ v2 S => ?_
    have hr2 := S.cell (.head _)
    have S := S.drop.swap
    refine for2 R.hnd S hr2 (by lia) (by lia) (by lia) (fun j Y'' cs lo => Le Y' Y'' ∧ ∃ oT, cs = [(tb, oT), (I, oI)] ∧ lo = [(Str.ofString "at", .int (1 + (i : Int)) t3), (Str.ofString "table", .ref tb), (Str.ofString "numbers", .ref a), (Str.ofString "count", .int count t)] ∧
      TabD w Y'' oT (tailF ns) (1 + i * count + j) (fun p q => (p = 0 ∧ q = 0) ∨ (p < i ∧ q < count) ∨ (p = i ∧ q < j))) ⟨Le.refl _, oT, rfl, rfl, hT.mono (Le.refl _) (by lia) (fun p q e => by lia)⟩ ?turn2 ?done2
    case done2 =>
      rintro Y₂ cs₂ lo₂ h₁₂ hle2 ⟨hY2, oT, rfl, rfl, hT⟩ S
      refine x_nil ?_
      refine ⟨_, [(tb, oT)], _, S.swap.names (nm_cons rfl (nm_cons rfl (nm_cons rfl nm_nil))), hY2, hYY.trans hY2, oT, rfl, rfl, hT.mono (Le.refl _) ?_ ?_⟩
      · rw [Nat.add_mul]; lia
      · intro p q e; lia
    case turn2 =>
      rintro j t4 Y2 cs2 lo2 h₈ I2 oI2 hj' hle2 ⟨hYY2, oT, rfl, rfl, hT⟩ S
      obtain ⟨xs, hD, hxl, hall⟩ := hT.ex
      have hlenx : xs.length ≤ 1000 := by
        have : i * count ≤ 13 * 9 := Nat.mul_le_mul (by lia) (by lia)
        lia
      refine s_local (by assumption) rfl fun _ _ => ?_
      refine Tr.gen fun Q hQ2 => ?_
      refine x_assign ?_
      refine e_list ?_
      refine a_nil ?_
      rename St _ _ _ _ _ _ => S
      refine n_list S (sz rfl) fun wl h₉ S _ _ => ?_
      refine s_local (by assumption) rfl fun _ _ => ?_
      rename St _ _ _ _ _ _ => S
      have S := (S.names (nm_cons rfl (nm_cons rfl (nm_cons rfl (nm_cons rfl (nm_cons rfl (nm_cons rfl nm_nil)))))) : St h Y2 [(wl, lst [] 0), (I2, oI2), (tb, oT), (I, oI)] _
        [(Str.ofString "ways", .ref wl), (Str.ofString "index", .int (1 + (j : Int)) t4), (Str.ofString "at", .int (1 + (i : Int)) t3), (Str.ofString "table", .ref tb), (Str.ofString "numbers", .ref a), (Str.ofString "count", .int count t)] _)
      generalize hLO : [(Str.ofString "ways", Value.ref wl), (Str.ofString "index", .int (1 + (j : Int)) t4), (Str.ofString "at", .int (1 + (i : Int)) t3), (Str.ofString "table", .ref tb), (Str.ofString "numbers", .ref a), (Str.ofString "count", .int count t)] = LO at S
      refine x_ifJ (fun env h' => ∃ Y3 vs1 n1, Le Y2 Y3 ∧ St h Y3 [(wl, lst vs1 n1), (I2, oI2), (tb, oT), (I, oI)] env LO h' ∧ WaysAre w Y3 vs1
        (if 0 < i ∧ 0 < j then [(Fw (tailF ns) 1 (i - 1) (j - 1) + cst (tailF ns) 1 (i - 1) (j - 1), fun k => UK (tailF ns) (i - 1) (j - 1) k ∨ k = [(i : Int), (j : Int)])] else [])) ?if1 ?rest1
      case if1 =>
        intro Q hQ
        subst hLO
        refine t_and ?_
        refine t_cmp ?_
        refine e_name (by assumption) rfl ?_
        refine e_int fun _ => ?_
        refine c_gt ?_
        refine t_bool ?_
        refine ⟨fun hx => ?_, fun hx => ⟨fun e => (nomatch e), fun _ => ?_⟩⟩
        rotate_left
        · have hx' := of_decide_eq_false hx
          refine x_nil ?_
          exact hQ _ ⟨Y2, [], 0, Le.refl _, S, by rw [if_neg (by lia)]; exact WaysAre.nil _ _⟩
        have hx1 := of_decide_eq_true hx
        refine t_and ?_
        refine t_cmp ?_
        refine e_name (by assumption) rfl ?_
        refine e_int fun _ => ?_
        refine c_gt ?_
        refine t_bool ?_
        refine ⟨fun hx => ?_, fun hx => ⟨fun e => (nomatch e), fun _ => ?_⟩⟩
        rotate_left
        · have hx' := of_decide_eq_false hx
          refine x_nil ?_
          exact hQ _ ⟨Y2, [], 0, Le.refl _, S, by rw [if_neg (by lia)]; exact WaysAre.nil _ _⟩
        have hx2 := of_decide_eq_true hx
        refine t_and_nil ?_
        refine ⟨fun _ => ?_, fun e => nomatch e⟩
        obtain ⟨b0, v0, hat, T0, tc, pd0, n0, o0, ys, rfl, hT0, hpd0, hE, hyne, hyB, hmod, hU⟩ := hall (i - 1) (j - 1) (by lia)
        refine x_assignT ?_
        refine e_sub ?_
        refine e_name (by assumption) rfl ?_
        refine e_tuple ?_
        refine a_cons ?_
        refine e_bin ?_
        refine e_name (by assumption) rfl ?_
        refine e_int fun _ => ?_
        refine o_sub fun _ => ?_
        refine a_cons ?_
        refine e_bin ?_
        refine e_name (by assumption) rfl ?_
        refine e_int fun _ => ?_
        refine o_sub fun _ => ?_
        refine a_nil ?_
        rename St _ _ _ _ _ _ => S
        refine n_tuple S (sz rfl) fun kt h₁₀ S _ _ => ?_
        refine i_table S ?hu0 (S.cell (.tail _ (.tail _ (.tail _ (.head _))))) hD (S.cell (.head _)) (by rw [show (1 + (i : Int) - 1) = ((i - 1 : Nat) : Int) + 1 by lia, show (1 + (j : Int) - 1) = ((j - 1 : Nat) : Int) + 1 by lia]; exact hat) ?_
        case hu0 => with_reducible exact hu2 _
        refine a_tup2 R.hnd (S.get hT0) fun h₁₁ k11 => ?_
        have S := S.drop.keep k11
        refine s_local (by assumption) rfl fun _ _ => ?_
        rename St _ _ _ _ _ _ => S
        refine s_cell (c := L + 2) S rfl rfl (by show L < L + 2; lia) fun h₁₂ S => ?_
        refine x_assign ?_
        refine e_call ?_
        refine e_blt (by assumption) (by assumption) (nm_dict _) b_dict (by decide) ?_
        refine w_type ?_
        refine a_cons ?_
        refine e_name (by assumption) rfl ?_
        refine a_nil ?_
        refine k_dictOf S (C.keeps S.base) ?hu0 hmod (S.get hpd0) hE S.leG hyne hyB fun bd h₁₂ oB ys2 hks hD2 hmB S => ?_
        case hu0 => with_reducible exact hu3 _
        have hyB2 : ∀ x ∈ ys2, Box x.1 := fun x hx => by
          obtain ⟨y, hy, e⟩ := List.mem_map.mp ((hks x.1).mp (List.mem_map.mpr ⟨x, hx, rfl⟩))
          rw [← e]; exact hyB y hy
        refine s_local (by assumption) rfl fun _ _ => ?_
        refine x_assignSub ?_
        refine e_bool ?_
        refine e_name (by assumption) rfl ?_
        refine e_tuple ?_
        refine a_cons ?_
        refine e_bin ?_
        refine e_name (by assumption) rfl ?_
        refine e_int fun _ => ?_
        refine o_sub fun _ => ?_
        refine a_cons ?_
        refine e_bin ?_
        refine e_name (by assumption) rfl ?_
        refine e_int fun _ => ?_
        refine o_sub fun _ => ?_
        refine a_nil ?_
        rename St _ _ _ _ _ _ => S
        refine n_tuple S (sz rfl) fun kt2 h₁₃ S _ _ => ?_
        obtain ⟨Y3, S, hY3, hkt⟩ := S.frz
        refine s_dict S ?hu0 (hD2.mono hY3) S.leG ⟨_, _, _, _, _, rfl, hkt⟩ (Nat.le_trans (hD2.len hyB2) (by decide)) fun h₁₄ oB' hDB S => ?_
        case hu0 => with_reducible exact hu2 _
        rw [show (1 + (i : Int) - 1) = (i : Int) by lia, show (1 + (j : Int) - 1) = (j : Int) by lia] at hDB
        refine x_expr ?_
        refine e_lmeth PySem.F.slot_list_append rfl ?_
        refine e_name (by assumption) rfl ?_
        rename St _ _ _ _ _ _ => S
        refine ⟨_, _, _, rfl, S.cell (.tail _ (.head _)), ?_⟩
        refine a_cons ?_
        refine e_tuple ?_
        refine a_cons ?_
        refine e_bin ?_
        refine e_name (by assumption) rfl ?_
        refine e_call ?_
        refine e_blt (by assumption) (by assumption) (nm_int _) b_int (by decide) ?_
        refine w_type ?_
        refine a_cons ?_
        refine e_cmp ?_
        refine e_bin ?_
        refine e_bin ?_
        refine e_bin ?_
        refine e_sub ?_
        refine e_name (by assumption) rfl ?_
        refine e_bin ?_
        refine e_name (by assumption) rfl ?_
        refine e_int fun _ => ?_
        refine o_sub fun _ => ?_
        obtain ⟨td, htd⟩ := ints_at hi (getD_some (ns := ns) (i := i) (by lia))
        refine i_list (S.base _ _ ha) (by lia) (by rw [show (1 + (i : Int) - 1).toNat = i by lia]; exact htd) (szle (k := 2000) (by lia) (by decide)) ?_
        refine e_name (by assumption) rfl ?_
        refine o_sub fun _ => ?_
        refine e_int fun _ => ?_
        refine o_add fun _ => ?_
        refine e_int fun _ => ?_
        refine o_mod (by first | decide | lia) fun _ => ?_
        refine e_int fun _ => ?_
        refine c_ne ?_
        refine a_nil ?_
        refine k_intBool fun _ => ?_
        refine o_add fun _ => ?_
        refine a_cons ?_
        refine e_name (by assumption) rfl ?_
        refine a_nil ?_
        rename St _ _ _ _ _ _ => S
        have hcst : (if (!decide ((ns.getD i 0 - (1 + (j : Int)) + 2) % 8 = 0)) = true then (1 : Int) else 0) = cst (tailF ns) 1 (i - 1) (j - 1) := by
          have hri := hr (i - 1) (by lia)
          have e1 : tailF ns (i - 1) = ns.getD i 0 := by unfold tailF; rw [show i - 1 + 1 = i by lia]
          unfold cst due b2i
          rw [e1] at hri ⊢
          rw [show (1 : Int) + ((j - 1 : Nat) : Int) = (j : Int) by lia]
          by_cases e : ns.getD i 0 = ((j : Int) - 1) % 8
          · rw [decide_eq_true e, decide_eq_true (by lia)]
          · rw [decide_eq_false e, decide_eq_false (by lia)]
        rw [hcst]
        refine n_tuple S (sz rfl) fun wt h₁₅ S _ _ => ?_
        obtain ⟨Y4, S, hY4, hwt⟩ := S.frz
        obtain ⟨Y5, S, hY5, hbd⟩ := S.frz
        refine a_nil ?_
        refine m_append S (sz rfl) fun h₁₆ S => ?_
        refine x_nil ?_
        refine hQ _ ⟨Y5, _, _, (hY3.trans hY4).trans hY5, S.names (nm_cons rfl (nm_cons rfl (nm_cons rfl (nm_cons rfl (nm_cons rfl (nm_cons rfl nm_nil)))))), ?_⟩
        rw [if_pos (by lia)]
        refine (WaysAre.nil _ _).snoc ⟨wt, _, bd, _, oB', _, rfl, hY5 _ _ hwt, hbd, (hDB.mono hY4).mono hY5, ?_, ?_, hmB, ?_⟩
        · intro e
          have := (storedH_keys ys2 [(i : Int), (j : Int)] kt2 (.bool true) [(i : Int), (j : Int)]).mpr (.inr rfl)
          rw [e] at this
          exact nomatch this
        · intro x hx
          rcases (storedH_keys ys2 [(i : Int), (j : Int)] kt2 (.bool true) x.1).mp (List.mem_map.mpr ⟨x, hx, rfl⟩) with h1 | h1
          · obtain ⟨y, hy, e⟩ := List.mem_map.mp h1
            rw [← e]; exact hyB2 y hy
          · exact ⟨i, j, by lia, by lia, h1⟩
        · intro k
          rw [storedH_keys, hks, hU]
      case rest1 =>
      rintro h₁₀ ⟨Y3, vs1, n1, hY3, S, hw⟩
      have hw1 : vs1.length ≤ 1 := by rw [hw.1]; split <;> simp
      refine x_ifJ (fun env h' => ∃ Y4 vs2 n2, Le Y3 Y4 ∧ St h Y4 [(wl, lst vs2 n2), (I2, oI2), (tb, oT), (I, oI)] env LO h' ∧ WaysAre w Y4 vs2
        ((if 0 < i ∧ 0 < j then [(Fw (tailF ns) 1 (i - 1) (j - 1) + cst (tailF ns) 1 (i - 1) (j - 1), fun k => UK (tailF ns) (i - 1) (j - 1) k ∨ k = [(i : Int), (j : Int)])] else []) ++
          (if 0 < i then [(Fw (tailF ns) 1 (i - 1) j + 1, UK (tailF ns) (i - 1) j)] else []))) ?if2 ?rest2
      case if2 =>
        intro Q hQ
        subst hLO
        refine t_cmp ?_
        refine e_name (by assumption) rfl ?_
        refine e_int fun _ => ?_
        refine c_gt ?_
        refine t_bool ?_
        refine ⟨fun hx => ?_, fun hx => ?_⟩
        rotate_left
        · have hx' := of_decide_eq_false hx
          refine x_nil ?_
          exact hQ _ ⟨Y3, _, _, Le.refl _, S, by rw [if_neg (show ¬ 0 < i by lia), List.append_nil]; exact hw⟩
        have hx1 := of_decide_eq_true hx
        obtain ⟨b0, v0, hat, T0, tc, pd0, n0, o0, ys, rfl, hT0, hpd0, hE, hyne, hyB, hmod, hU⟩ := hall (i - 1) j (by lia)
        have hat' : atKey xs [1 + (i : Int) - 1, 1 + (j : Int)] = some (b0, .ref T0) := by rw [show (1 + (i : Int) - 1) = ((i - 1 : Nat) : Int) + 1 by lia, show (1 + (j : Int)) = (j : Int) + 1 by lia]; exact hat
        refine x_expr ?_
        refine e_lmeth PySem.F.slot_list_append rfl ?_
        refine e_name (by assumption) rfl ?_
        rename St _ _ _ _ _ _ => S
        refine ⟨_, _, _, rfl, S.cell (.head _), ?_⟩
        refine a_cons ?_
        refine e_tuple ?_
        refine a_cons ?_
        refine e_bin ?_
        refine e_sub ?_
        refine e_sub ?_
        refine e_name (by assumption) rfl ?_
        refine e_tuple ?_
        refine a_cons ?_
        refine e_bin ?_
        refine e_name (by assumption) rfl ?_
        refine e_int fun _ => ?_
        refine o_sub fun _ => ?_
        refine a_cons ?_
        refine e_name (by assumption) rfl ?_
        refine a_nil ?_
        refine n_tuple S (sz rfl) fun kt h₁₀ S _ _ => ?_
        refine i_table S ?hu0 (S.cell (.tail _ (.tail _ (.tail _ (.head _))))) (hD.mono hY3) (S.cell (.head _)) hat' ?_
        case hu0 => with_reducible exact hu2 _
        refine e_int fun _ => ?_
        refine i_tup (S.get (hY3 _ _ hT0)) (by decide) (by decide) rfl ?_
        refine e_int fun _ => ?_
        refine o_add fun _ => ?_
        refine a_cons ?_
        refine e_sub ?_
        refine e_sub ?_
        refine e_name (by assumption) rfl ?_
        refine e_tuple ?_
        refine a_cons ?_
        refine e_bin ?_
        refine e_name (by assumption) rfl ?_
        refine e_int fun _ => ?_
        refine o_sub fun _ => ?_
        refine a_cons ?_
        refine e_name (by assumption) rfl ?_
        refine a_nil ?_
        refine n_tuple S.drop (sz rfl) fun kt2 h₁₁ S _ _ => ?_
        refine i_table S ?hu0 (S.cell (.tail _ (.tail _ (.tail _ (.head _))))) (hD.mono hY3) (S.cell (.head _)) hat' ?_
        case hu0 => with_reducible exact hu2 _
        refine e_int fun _ => ?_
        refine i_tup (S.get (hY3 _ _ hT0)) (by decide) (by decide) rfl ?_
        refine a_nil ?_
        refine n_tuple S.drop (sz rfl) fun wt h₁₂ S _ _ => ?_
        obtain ⟨Y4, S, hY4, hwt⟩ := S.frz
        refine a_nil ?_
        refine m_append S (szle (k := 2000) (by lia) (by decide)) fun h₁₃ S => ?_
        refine x_nil ?_
        refine hQ _ ⟨Y4, _, _, hY4, S, ?_⟩
        rw [if_pos (show 0 < i by lia)]
        exact (hw.mono hY4).snoc ⟨wt, _, pd0, _, o0, ys, rfl, hwt, hY4 _ _ (hY3 _ _ hpd0), (hE.mono hY3).mono hY4, hyne, hyB, hmod, hU⟩
      case rest2 =>
      rintro h₁₁ ⟨Y4, vs2, n2, hY4, S, hw⟩
      have hw1 : vs2.length ≤ 2 := by rw [hw.1, List.length_append]; split <;> split <;> simp
      have hD4 := (hD.mono hY3).mono hY4
      refine x_ifJ (fun env h' => ∃ Y5 vs3 n3, Le Y4 Y5 ∧ St h Y5 [(wl, lst vs3 n3), (I2, oI2), (tb, oT), (I, oI)] env LO h' ∧ WaysAre w Y5 vs3 (waysOf (tailF ns) i j)) ?if3 ?rest3
      case if3 =>
        intro Q hQ
        subst hLO
        refine t_cmp ?_
        refine e_name (by assumption) rfl ?_
        refine e_int fun _ => ?_
        refine c_gt ?_
        refine t_bool ?_
        refine ⟨fun hx => ?_, fun hx => ?_⟩
        rotate_left
        · have hx' := of_decide_eq_false hx
          refine x_nil ?_
          exact hQ _ ⟨Y4, _, _, Le.refl _, S, by unfold waysOf; rw [if_neg (show ¬ 0 < j by lia), List.append_nil]; exact hw⟩
        have hx1 := of_decide_eq_true hx
        obtain ⟨b0, v0, hat, T0, tc, pd0, n0, o0, ys, rfl, hT0, hpd0, hE, hyne, hyB, hmod, hU⟩ := hall i (j - 1) (by lia)
        have hat' : atKey xs [1 + (i : Int), 1 + (j : Int) - 1] = some (b0, .ref T0) := by rw [show (1 + (j : Int) - 1) = ((j - 1 : Nat) : Int) + 1 by lia, show (1 + (i : Int)) = (i : Int) + 1 by lia]; exact hat
        have hT0 := hY4 _ _ (hY3 _ _ hT0)
        refine x_expr ?_
        refine e_lmeth PySem.F.slot_list_append rfl ?_
        refine e_name (by assumption) rfl ?_
        rename St _ _ _ _ _ _ => S
        refine ⟨_, _, _, rfl, S.cell (.head _), ?_⟩
        refine a_cons ?_
        refine e_tuple ?_
        refine a_cons ?_
        refine e_bin ?_
        refine e_sub ?_
        refine e_sub ?_
        refine e_name (by assumption) rfl ?_
        refine e_tuple ?_
        refine a_cons ?_
        refine e_name (by assumption) rfl ?_
        refine a_cons ?_
        refine e_bin ?_
        refine e_name (by assumption) rfl ?_
        refine e_int fun _ => ?_
        refine o_sub fun _ => ?_
        refine a_nil ?_
        refine n_tuple S (sz rfl) fun kt h₁₀ S _ _ => ?_
        refine i_table S ?hu0 (S.cell (.tail _ (.tail _ (.tail _ (.head _))))) hD4 (S.cell (.head _)) hat' ?_
        case hu0 => with_reducible exact hu2 _
        refine e_int fun _ => ?_
        refine i_tup (S.get hT0) (by decide) (by decide) rfl ?_
        refine e_int fun _ => ?_
        refine o_add fun _ => ?_
        refine a_cons ?_
        refine e_sub ?_
        refine e_sub ?_
        refine e_name (by assumption) rfl ?_
        refine e_tuple ?_
        refine a_cons ?_
        refine e_name (by assumption) rfl ?_
        refine a_cons ?_
        refine e_bin ?_
        refine e_name (by assumption) rfl ?_
        refine e_int fun _ => ?_
        refine o_sub fun _ => ?_
        refine a_nil ?_
        refine n_tuple S.drop (sz rfl) fun kt2 h₁₁ S _ _ => ?_
        refine i_table S ?hu0 (S.cell (.tail _ (.tail _ (.tail _ (.head _))))) hD4 (S.cell (.head _)) hat' ?_
        case hu0 => with_reducible exact hu2 _
        refine e_int fun _ => ?_
        refine i_tup (S.get hT0) (by decide) (by decide) rfl ?_
        refine a_nil ?_
        refine n_tuple S.drop (sz rfl) fun wt h₁₂ S _ _ => ?_
        obtain ⟨Y5, S, hY5, hwt⟩ := S.frz
        refine a_nil ?_
        refine m_append S (szle (k := 2000) (by lia) (by decide)) fun h₁₃ S => ?_
        refine x_nil ?_
        refine hQ _ ⟨Y5, _, _, hY5, S, ?_⟩
        unfold waysOf
        rw [if_pos (show 0 < j by lia)]
        exact (hw.mono hY5).snoc ⟨wt, _, pd0, _, o0, ys, rfl, hwt, hY5 _ _ (hY4 _ _ (hY3 _ _ hpd0)), ((hE.mono hY3).mono hY4).mono hY5, hyne, hyB, hmod, hU⟩
      case rest3 =>
      rintro h₁₂ ⟨Y5, vs3, n3, hY5, S, hw⟩
      have hD5 := hD4.mono hY5
      have hl5 := ((hY3.trans hY4).trans hY5)
      refine x_ifJ (fun env h' => ∃ Y6 oT', Le Y5 Y6 ∧ St h Y6 [(I2, oI2), (tb, oT'), (I, oI)] env LO h' ∧ TabD w Y6 oT' (tailF ns) (1 + i * count + (j + 1)) (fun p q => (p = 0 ∧ q = 0) ∨ (p < i ∧ q < count) ∨ (p = i ∧ q < j + 1))) ?if4 ?rest4
      case if4 =>
        intro Q hQ
        subst hLO
        refine t_cmp ?_
        refine e_name (by assumption) rfl ?_
        refine e_list ?_
        refine a_nil ?_
        refine n_list S (sz rfl) fun el h₁₃ S _ _ => ?_
        refine c_neE ?hu0 (S.cell (.tail _ (.head _))) (S.cell (.head _)) ?_
        case hu0 => with_reducible exact hu _
        refine t_bool ?_
        refine ⟨fun hx => ?_, fun hx => ?_⟩
        rotate_left
        · have hv0 : vs3 = [] := by simpa using hx
          have hij := waysOf_nil (List.length_eq_zero_iff.mp (by rw [← hw.1, hv0]; rfl))
          refine x_nil ?_
          refine hQ _ ⟨Y5, oT, Le.refl _, S.drop.drop, hT.mono hl5 (by lia) ?_⟩
          intro p q e; lia
        have hv0 : vs3 ≠ [] := by simpa using hx
        have hwne : waysOf (tailF ns) i j ≠ [] := fun e => hv0 (List.length_eq_zero_iff.mp (by rw [hw.1, e]; rfl))
        refine x_assignSub ?_
        refine e_call ?_
        refine e_glob (by assumption) (by assumption) (nm_law_joined _) ?_
        refine w_fun1 (f_92 _) (by assumption) ?_
        refine a_cons ?_
        refine e_name (by assumption) rfl ?_
        refine a_nil ?_
        refine ⟨⟨_, _, _, S⟩, law_joined_spec (k := k) (Z := Y5) (C.keeps S.base) R.deeper (S.cell (.tail _ (.head _))) S.leG hw hwne (Nat.le_trans (waysOf_len ..) (by decide)) fun h₁₄ r c U k14 hc1' hmin hU hWy => ?_⟩
        obtain ⟨S, hY6⟩ := S.grow k14
        obtain ⟨hce, hUe⟩ := waysOf_step hwne hc1' hmin hU
        have hWy := hWy.congr hce hUe
        generalize uni Y5 (newIn _ h₁₄) = Y6 at *
        refine e_name (by assumption) rfl ?_
        refine e_tuple ?_
        refine a_cons ?_
        refine e_name (by assumption) rfl ?_
        refine a_cons ?_
        refine e_name (by assumption) rfl ?_
        refine a_nil ?_
        rename St _ _ _ _ _ _ => S
        refine n_tuple S (sz rfl) fun kt h₁₅ S _ _ => ?_
        obtain ⟨Y7, S, hY7, hkt⟩ := S.frz
        have S := (S.sel [3, 2, 4] (by decide) : St h Y7 [(tb, oT), (I2, oI2), (I, oI)] _ _ _)
        refine s_dict S ?hu0 ((hD5.mono hY6).mono hY7) S.leG ⟨_, _, _, _, _, rfl, hkt⟩ hlenx fun h₁₆ oT' hDT S => ?_
        case hu0 => with_reducible exact hu2 _
        refine x_nil ?_
        refine hQ _ ⟨Y7, oT', hY6.trans hY7, S.swap, ⟨⟨_, hDT, ?_, fun p q hpq => ?_⟩⟩⟩
        · have := storedH_len xs [1 + (i : Int), 1 + (j : Int)] kt (.ref r); lia
        · by_cases e : p = i ∧ q = j
          · obtain ⟨rfl, rfl⟩ := e
            obtain ⟨b, hb⟩ := atKey_self xs [1 + (p : Int), 1 + (q : Int)] kt (.ref r)
            refine ⟨b, _, ?_, hWy.mono hY7⟩
            rw [show (p : Int) + 1 = 1 + (p : Int) by lia, show (q : Int) + 1 = 1 + (q : Int) by lia]
            exact hb
          · obtain ⟨b, v, hb, hv⟩ := hall p q (by lia)
            refine ⟨b, v, ?_, ((hv.mono hl5).mono hY6).mono hY7⟩
            rw [atKey_other]
            · exact hb
            · intro q'
              injection q' with q1 q2
              injection q2 with q2
              lia
      case rest4 =>
      rintro h₁₃ ⟨Y6, oT', hY6, S, hT'⟩
      subst hLO
      refine x_nil ?_
      exact hQ2 _ _ ⟨Y6, [(tb, oT'), (I, oI)], _, S.names (nm_cons rfl (nm_cons rfl (nm_cons rfl (nm_cons rfl nm_nil)))), hl5.trans hY6, hYY2.trans (hl5.trans hY6), oT', rfl, rfl, hT'⟩
  case done1 =>
    rintro Y' cs' lo' h' hle ⟨hYY, oT, rfl, rfl, hT⟩ S
    obtain ⟨xs, hD, hxl, hall⟩ := hT.ex
    obtain ⟨b0, v0, hat, T0, tc, pd0, n0, o0, ys, rfl, hT0, hpd0, hE, hyne, hyB, hmod, hU⟩ := hall (ns.length - 1) (count - 1) (by lia)
    refine x_assign ?_
    refine e_sub ?_
    refine e_sub ?_
    refine e_name (by assumption) rfl ?_
    refine e_tuple ?_
    refine a_cons ?_
    refine e_call ?_
    refine e_blt (by assumption) (by assumption) (nm_len _) b_len (by decide) ?_
    refine w_blt ?_
    refine a_cons ?_
    refine e_name (by assumption) rfl ?_
    refine a_nil ?_
    rename St _ _ _ _ _ _ => S
    refine k_len (S.base _ _ ha) (szle (k := 2000) (by lia) (by decide)) fun t5 => ?_
    refine a_cons ?_
    refine e_name (by assumption) rfl ?_
    refine a_nil ?_
    refine n_tuple S (sz rfl) fun kt h₉ S _ _ => ?_
    refine i_table S ?hu0 (S.cell (.tail _ (.head _))) hD (S.cell (.head _)) (by rw [show (vs.length : Int) = ((ns.length - 1 : Nat) : Int) + 1 by lia, show (count : Int) = ((count - 1 : Nat) : Int) + 1 by lia]; exact hat) ?_
    case hu0 => with_reducible exact hu2 _
    refine e_int fun _ => ?_
    refine i_tup (S.get hT0) (by decide) (by decide) rfl ?_
    have S := S.drop
    refine s_cell (c := L + 2) S rfl rfl (by show L < L + 2; lia) fun h₁₀ S => ?_
    refine x_ret ?_
    refine e_comp (cl := [(Str.ofString "pairs", L + 2), (Str.ofString "numbers", L + 1)]) rfl rfl (by decide) ?_
    refine e_call ?_
    refine e_blt (by assumption) (by assumption) (nm_range _) b_range (by decide) ?_
    refine w_type ?_
    refine a_cons ?_
    refine e_name (by assumption) rfl ?_
    refine a_nil ?_
    rename St _ _ _ _ _ _ => S
    refine k_range1 S fun r1 g t1 u1 S => ?_
    have hag := S.base _ _ ha
    have Cg : Cx w g := C.keeps S.base
    have hEg : IsD w g.get? o0 ys := hE.mono S.leG
    have hpg := S.get hpd0
    refine in_crange (lc := [(Str.ofString "numbers", .ref a), (Str.ofString "pairs", .ref pd0)]) R.hnd S (S.cell (.head _)) (by lia) (by lia) (Hid.nil _) (fun _ hp => nomatch hp) .nil ?hcl rfl ?hlc
      (fun j Y cs us => cs = [] ∧ TabIs Y us (dueRow (tailF ns) (ns.length - 1) (count - 1) ns.length) j) ⟨rfl, rfl, fun i hi => absurd hi (Nat.not_lt_zero _)⟩ ?turn3 ?done3
    case hcl =>
      intro p hp
      rcases List.mem_cons.mp hp with rfl | hp
      · exact ⟨rfl, rfl⟩
      · rw [List.mem_singleton.mp hp]; exact ⟨rfl, rfl⟩
    case hlc =>
      intro C p hp
      rcases List.mem_cons.mp hp with rfl | hp
      · exact ⟨rfl, rfl, rfl, rfl⟩
      · rw [List.mem_singleton.mp hp]; exact ⟨rfl, rfl, rfl, rfl⟩
    case done3 =>
      rintro Y1 cs' us D c Cc lo' h₃ tk' ⟨rfl, hus⟩ S'
      refine done_none S' fun h₄ F => ?_
      obtain ⟨S, hY1, hY2⟩ := S.join F
      refine H h₄ D us c S.base (S.cellNew (.head _)) ?_
      exact (hus.congr (by lia) fun i hi => rfl).mono (fun b o e => S.le _ _ (hY2 _ _ e))
    case turn3 =>
      rintro j t2 Y1 cs' us c Cc D h₁₁ I oI hj ⟨rfl, hus⟩ S
      refine s_cell (c := Cc + 1) S rfl rfl (Nat.lt_succ_self _) fun h₁₂ S => ?_
      refine ts_nil ⟨fun _ => ?_, fun e => nomatch e⟩
      refine e_comp (cl := [(Str.ofString "pairs", L + 2), (Str.ofString "index", Cc + 1)]) rfl rfl (by decide) ?_
      refine e_call ?_
      refine e_blt (by assumption) (by assumption) (nm_range _) b_range (by decide) ?_
      refine w_type ?_
      refine a_cons ?_
      refine e_call ?_
      refine e_blt (by assumption) (by assumption) (nm_len _) b_len (by decide) ?_
      refine w_blt ?_
      refine a_cons ?_
      refine e_name (by assumption) rfl ?_
      refine a_nil ?_
      rename St _ _ _ _ _ _ => S
      refine k_len (S.base _ _ hag) (szle (k := 2000) (by lia) (by decide)) fun t6 => ?_
      refine a_nil ?_
      rename St _ _ _ _ _ _ => S
      refine k_range1 S fun r2 g2 t7 u7 S => ?_
      have kg2 := S.base
      refine in_crange (lc := [(Str.ofString "index", .int (j : Int) t2), (Str.ofString "pairs", .ref pd0)]) R.hnd S (S.cell (.head _)) (by lia) (by lia) (Hid.nil _) (fun _ hp => nomatch hp) .nil ?hcl2 rfl ?hlc2
        (fun i Y cs us => cs = [] ∧ IntsAre us (dueRow (tailF ns) (ns.length - 1) (count - 1) i j)) ⟨rfl, .nil⟩ ?turn4 ?done4
      case hcl2 =>
        intro p hp
        rcases List.mem_cons.mp hp with rfl | hp
        · exact ⟨rfl, rfl⟩
        · rw [List.mem_singleton.mp hp]; exact ⟨rfl, rfl⟩
      case hlc2 =>
        intro C p hp
        rcases List.mem_cons.mp hp with rfl | hp
        · exact ⟨rfl, rfl, rfl, rfl⟩
        · rw [List.mem_singleton.mp hp]; exact ⟨rfl, rfl, rfl, rfl⟩
      case turn4 =>
        rintro i t8 Y4 cs' us2 c2 Cc2 D2 h₁₃ I2 oI2 hi2 ⟨rfl, hus2⟩ S
        refine s_local (by assumption) rfl fun _ _ => ?_
        refine Tr.gen fun Q hQ => ?_
        refine ts_one ?_
        refine t_cmp ?_
        refine e_tuple ?_
        refine a_cons ?_
        refine e_name (by assumption) rfl ?_
        refine a_cons ?_
        refine e_name (by assumption) rfl ?_
        refine a_nil ?_
        rename St _ _ _ _ _ _ => S
        refine n_tuple S (sz rfl) fun kt2 h₁₄ S _ _ => ?_
        refine e_name (by assumption) rfl ?_
        refine c_dict ?hu0 hmod (S.base _ _ (kg2 _ _ hpg)) (hEg.mono (fun _ _ e => S.base _ _ (kg2 _ _ e))) (fun _ _ e => e) ⟨_, _, _, _, _, rfl, S.cell (.head _)⟩ ?_
        case hu0 => with_reducible exact hu2 _
        have hiff : (atKey ys [(i : Int), (j : Int)]).isSome = true ↔ Us (tailF ns) 1 (ns.length - 1) (count - 1) (i : Int) (j : Int) := by
          rw [atKey_iff, hU]
          constructor
          · rintro ⟨p, q, e, h⟩
            injection e with e1 e2
            injection e2 with e2
            subst e1 e2; exact h
          · intro h; exact ⟨_, _, rfl, h⟩
        refine t_bool ?_
        refine hQ _ _ ⟨fun hx => ?_, fun hx => ?_⟩
        · refine e_name (by assumption) rfl ?_
          refine ⟨_, _, _, S.drop, nm_cons rfl (nm_cons rfl nm_nil), Le.refl _, rfl, ?_⟩
          rw [dueRow_t (hiff.mp hx)]
          exact ints_app hus2 (.cons _ _ .nil)
        · refine ⟨_, _, _, S.drop, nm_cons rfl (nm_cons rfl nm_nil), Le.refl _, rfl, ?_⟩
          rw [dueRow_f (fun hq => by rw [hiff.mpr hq] at hx; cases hx)]
          exact hus2
      case done4 =>
        rintro Y4 cs' us2 D2 c2 Cc2 lo' h₁₃ tk' ⟨rfl, hus2⟩ S'
        refine done_none S' fun h₁₄ F => ?_
        obtain ⟨S, hY1, hY2⟩ := S.join F
        have S := (S.sel [0, 2, 3] (by decide) : St g _ [(D2, lst us2 c2), (I, oI), (D, lst us c)] _ _ _)
        obtain ⟨Y5, S, hY5, hD2⟩ := S.frz
        refine ⟨Y5, [], _, S, nm_cons rfl (nm_cons rfl nm_nil), hY1.trans hY5, rfl, ?_⟩
        refine ((hus.mono hY1).mono hY5).snoc ⟨D2, us2, c2, rfl, hD2, ?_⟩
        rw [show ((vs.length : Int)).toNat = ns.length by lia] at hus2
        exact hus2
end
end
section -- F9
set_option maxRecDepth 100000
noncomputable def wholeL (c : Nat) : List Int := -1 :: (List.range (c - 1)).map fun (p : Nat) => (p : Int) % 8
section
variable {w : World} {z : Shared} {A : Around} {h : Heap} {P : Value → Heap → Prop}
theorem law_whole_spec {c k : Nat} {t : Tok} (C : Cx w h) (R : Room A (k + 1)) (hc1 : 1 ≤ c) (hc2 : c ≤ 100)
    (H : ∀ h' r vs, Keep h h' → newIn h h' r = some (lst vs 0) → IntsAre vs (wholeL c) → P (.ref r) h') :
    Tr w z A (call (.ref 102) [.int c t]) h P := by
  refine' enterT (binds := [(Str.ofString "count", .int c t)]) C R ?ho ?hcd ?hb ?hk ?hn ?_ ?c1 ?c2 ?c3
  case ho => k_is
  case hcd => k_is
  case hb => rfl
  case hk => rfl
  case hn => (simp only [List.map_cons, List.map_nil]; decide)
  case c1 => rfl
  case c2 => rfl
  case c3 => rfl
  intro L h₁ hL S
  refine x_ret ?_
  refine e_bin ?_
  refine e_list ?_
  refine a_cons ?_
  refine e_un ?_
  refine e_int fun _ => ?_
  refine o_neg fun _ => ?_
  refine a_nil ?_
  refine n_list S (sz rfl) fun l1 h₂ S _ _ => ?_
  refine e_comp (cl := []) rfl rfl (by decide) ?_
  refine e_call ?_
  refine e_blt (by assumption) (by assumption) (nm_range _) b_range (by decide) ?_
  refine w_type ?_
  refine a_cons ?_
  refine e_bin ?_
  refine e_name (by assumption) rfl ?_
  refine e_int fun _ => ?_
  refine o_sub fun _ => ?_
  refine a_nil ?_
  refine k_range1 S fun r1 h₃ t1 u1 S => ?_
  refine in_crange (lc := []) R.hnd S (S.cell (.head _)) (by lia) (by lia) (Hid.nil _) (fun _ hp => nomatch hp) .nil ?hcl rfl ?hlc
    (fun i Y cs us => cs = [] ∧ IntsAre us ((List.range i).map fun (p : Nat) => (p : Int) % 8)) ⟨rfl, .nil⟩ ?turn ?done
  case hcl => intro p hp; exact nomatch hp
  case hlc => intro C p hp; exact nomatch hp
  case turn =>
    rintro i t2 Y' cs' us c Cc D h₃ I oI hi' ⟨rfl, hus⟩ S
    refine s_local (by assumption) rfl fun _ _ => ?_
    refine ts_nil ⟨fun _ => ?_, fun e => nomatch e⟩
    refine e_bin ?_
    refine e_name (by assumption) rfl ?_
    refine e_int fun _ => ?_
    refine o_mod (by first | decide | lia) fun _ => ?_
    rename St _ _ _ _ _ _ => S
    refine ⟨_, _, _, S, nm_nil, Le.refl _, rfl, ?_⟩
    rw [List.range_succ, List.map_append]
    exact ints_app hus (.cons _ _ .nil)
  case done =>
    rintro Y' cs' us D c' Cc lo' h₃ tk' ⟨rfl, hus⟩ S'
    refine done_none S' fun h₄ F => ?_
    obtain ⟨S, hY1, hY2⟩ := S.join F
    have hul : us.length = c - 1 := by rw [hus.length, List.length_map, List.length_range]; lia
    refine o_addL S (S.cell (.tail _ (.tail _ (.head _)))) (S.cell (.head _)) (by rw [hul, sizeLine_eq, List.length_singleton]; lia) fun l2 h₅ S _ _ => ?_
    refine H h₅ l2 _ S.base (S.cellNew (.head _)) ?_
    rw [show ((c : Int) - 1).toNat = c - 1 by lia] at hus
    exact .cons _ _ hus
theorem e_iteJ {env : Env} {test body orelse : PySem.Expr} {pos : Pos} {P : Value → Heap → Prop} (M : Env → Value → Heap → Prop)
    (H : Tr w z A (isTrue test env (eval test env)) h fun b h₁ => (b = true → Tr w z A (eval body env) h₁ (M env)) ∧ (b = false → Tr w z A (eval orelse env) h₁ (M env))) (K : ∀ v h', M env v h' → P v h') :
    Tr w z A (eval (.IfExp test body orelse pos) env) h P :=
  e_ite (H.mono fun b h' x => ⟨fun e => (x.1 e).mono fun v h'' m => K v h'' m, fun e => (x.2 e).mono fun v h'' m => K v h'' m⟩)
theorem o_pow {a b : Int} {t u : Tok} (hn : 0 ≤ b) (hn2 : b ≤ 1000000) (ha : a.natAbs < 2 ^ 64) (H : ∀ t, P (.int (a ^ b.toNat) t) h) : Tr w z A (binaryOp .Pow (.int a t) (.int b u)) h P := fun tk =>
  pow_int_small hn hn2 ha ⟨h, tk + 1, rfl, H _⟩
theorem k_lenI {l : Addr} {vs : List Value} (e : h.IsList l vs.toArray) (hsz : (vs.length : Int) < 2 ^ 63) (H : ∀ t, P (.int (vs.length : Int) t) h) : Tr w z A (call (.builtin "len") [.ref l]) h P := fun tk =>
  call_len_list (s := Sh z h tk) e (by rw [List.size_toArray]; exact hsz) ⟨h, _, rfl, by rw [List.size_toArray]; exact H _⟩
theorem i_list0 {value slice : PySem.Expr} {l : Addr} {v : Value} {vs : List Value} {u : Tok} (e : h.IsList l (v :: vs).toArray) (H : P v h)
    (hs : subscripted slice false (.ref l) (.int 0 u) = operate [.ref l, .int 0 u] (getItem (.ref l) (.int 0 u)) := by with_unfolding_all rfl) :
    Tr w z A (subscriptTail value slice (.ref l) (.int 0 u)) h P := fun tk =>
  tail_any (Heap.IsList.typeIs (s := Sh z h tk) e) slot_list_getitem.lookup (wpAny_getItem_list (s := Sh z h tk) e (by decide) (by decide) (by simp) ⟨h, tk, rfl, H⟩) hs
theorem keepsL {h h' : Heap} {a : Addr} {xs : Array Value} (k : Keep h h') (e : h.IsList a xs) : h'.IsList a xs := let ⟨o, e1, e2⟩ := e; ⟨o, k _ _ e1, e2⟩
set_option maxHeartbeats 2000000 in
theorem law_abacus_spec {a : Addr} {vs : List Value} {ns : List Int} {k : Nat} (C : Cx w h) (R : Room A (k + 1)) (ha : h.IsList a vs.toArray) (hi : IntsAre vs ns) (hsz : (vs.length : Int) < 2 ^ 63)
    (H : ∀ h' r x y t u, Keep h h' → newIn h h' r = some (lst [.int x t, .int y u] 0) → 0 ≤ y → y < 100000 → P (.ref r) h') :
    Tr w z A (call (.ref 73) [.ref a]) h P := by
  refine' enterT (binds := [(Str.ofString "script", .ref a)]) C R ?ho ?hcd ?hb ?hk ?hn ?_ ?c1 ?c2 ?c3
  case ho => k_is
  case hcd => k_is
  case hb => rfl
  case hk => rfl
  case hn => (simp only [List.map_cons, List.map_nil]; decide)
  case c1 => rfl
  case c2 => rfl
  case c3 => rfl
  intro L h₁ hL S
  refine x_assign (e_iteJ (fun env v h' => ∃ x t, v = .int x t ∧ St h (fun _ => none) [] env [(Str.ofString "script", .ref a)] h') ?i1 ?k1)
  case i1 =>
    refine t_cmp ?_
    refine e_call ?_
    refine e_blt (by assumption) (by assumption) (nm_len _) b_len (by decide) ?_
    refine w_blt ?_
    refine a_cons ?_
    refine e_name (by assumption) rfl ?_
    refine a_nil ?_
    refine k_lenI (keepsL S.base ha) hsz fun t1 => ?_
    refine e_int fun _ => ?_
    refine c_gt ?_
    refine t_bool ?_
    refine ⟨fun hx => ?_, fun hx => ?_⟩
    · have hx' := of_decide_eq_true hx
      cases hi with
      | nil => simp at hx'
      | cons x t hr =>
        refine e_call ?_
        refine e_blt (by assumption) (by assumption) (nm_int _) b_int (by decide) ?_
        refine w_type ?_
        refine a_cons ?_
        refine e_sub ?_
        refine e_name (by assumption) rfl ?_
        refine e_int fun _ => ?_
        refine i_list0 (keepsL S.base ha) ?_
        refine a_nil ?_
        refine k_intInt ?_
        exact ⟨_, _, rfl, S⟩
    · refine e_int fun _ => ?_
      exact ⟨_, _, rfl, S⟩
  rintro _ h₂ ⟨x, tx, rfl, S⟩
  refine s_local (by assumption) rfl fun _ _ => ?_
  rename St _ _ _ _ _ _ => S
  refine x_assign (e_iteJ (fun env v h' => ∃ x t, v = .int x t ∧ St h (fun _ => none) [] env [] h') ?i2 ?k2)
  case i2 =>
    refine t_cmp ?_
    refine e_name (by assumption) rfl ?_
    refine e_int fun _ => ?_
    refine c_ge ?_
    refine t_bool ?_
    refine ⟨fun hx => ?_, fun hx => ?_⟩
    · refine e_name (by assumption) rfl ?_
      exact ⟨_, _, rfl, S.names nm_nil⟩
    · refine e_bin ?_
      refine e_un ?_
      refine e_int fun _ => ?_
      refine o_neg fun _ => ?_
      refine e_name (by assumption) rfl ?_
      refine o_sub fun _ => ?_
      exact ⟨_, _, rfl, S.names nm_nil⟩
  rintro _ h₃ ⟨y, ty, rfl, S⟩
  refine s_local (by assumption) rfl fun _ _ => ?_
  rename St _ _ _ _ _ _ => S
  refine x_ret (e_list (a_cons (e_iteJ (fun env v h' => ∃ x t, v = .int x t ∧ St h (fun _ => none) [] env [(Str.ofString "rods", .int y ty)] h') ?i3 ?k3)))
  case i3 =>
    refine t_cmp ?_
    refine e_name (by assumption) rfl ?_
    refine e_bin ?_
    refine e_int fun _ => ?_
    refine e_int fun _ => ?_
    refine o_pow (by decide) (by decide) (by decide) fun t3 => ?_
    refine c_ge ?_
    refine t_bool ?_
    refine ⟨fun hx => ?_, fun hx => ?_⟩
    · refine e_name (by assumption) rfl ?_
      exact ⟨_, _, rfl, S⟩
    · refine e_int fun _ => ?_
      exact ⟨_, _, rfl, S⟩
  rintro _ h₄ ⟨x2, tx2, rfl, S⟩
  refine a_cons ?_
  refine e_bin ?_
  refine e_bin ?_
  refine e_bin ?_
  refine e_bin ?_
  refine e_name (by assumption) rfl ?_
  refine e_int fun _ => ?_
  refine o_mod (by first | decide | lia) fun _ => ?_
  refine e_int fun _ => ?_
  refine o_mul (.of_right (intBits_le_64 (by decide) (by decide))) fun t4 => ?_
  refine e_int fun _ => ?_
  refine o_mod (by first | decide | lia) fun _ => ?_
  refine e_int fun _ => ?_
  refine o_add fun _ => ?_
  refine a_nil ?_
  refine n_list S (sz rfl) fun r h₅ S k5 hn => ?_
  exact H h₅ r _ _ _ _ S.base (S.cellNew (.head _)) (by lia) (by lia)
end
end
section -- F10
set_option maxRecDepth 100000
noncomputable def Ab (o : Obj) : Prop := ∃ x t y u n, o = lst [.int x t, .int y u] n ∧ 0 ≤ y ∧ y < 100000
theorem bead_range {x y m : Int} (hy : 0 ≤ y) (hm : 0 < m) : 0 ≤ (bead x y m).1 ∧ (bead x y m).1 < m ∧ 0 ≤ (bead x y m).2.2 ∧ ((bead x y m).2.2 = y ∨ (bead x y m).2.2 < 65449) := by
  unfold bead
  split
  · exact ⟨Int.emod_nonneg _ (by lia), Int.emod_lt_of_pos _ hm, hy, .inl rfl⟩
  · refine ⟨Int.emod_nonneg _ (by lia), Int.emod_lt_of_pos _ hm, ?_, .inr ?_⟩
    · exact Int.emod_nonneg _ (by decide)
    · exact Int.emod_lt_of_pos _ (by decide)
theorem hideKeep {g h : Heap} {a : Addr} (k : Keep g h) (e : g.get? a = none) : Keep g (h.hide a) := fun b o q => hide_get? (fun r => by rw [r, e] at q; cases q) (k b o q)
section
variable {w : World} {z : Shared} {A : Around} {h₀ : Heap} {Y : Gh} {cs : List (Addr × Obj)} {env : Env} {lo : List (Str × Value)} {h : Heap}
theorem k_bead {a : Addr} {o : Obj} {m : Int} {v : Tok} {k : Nat} {P : Value → Heap → Prop} (S : St h₀ Y ((a, o) :: cs) env lo h) (C : Cx w h₀) (R : Room A k) (ho : Ab o) (hm : 0 < m) (hm2 : m < 1000)
    (H : ∀ h' o' r v', Ab o' → St h₀ Y ((a, o') :: cs) env lo h' → 0 ≤ r → r < m → P (.int r v') h') : Tr w z A (call (.ref 80) [.ref a, .int m v]) h P := by
  obtain ⟨x, t, y, u, n, rfl, hy, hy2⟩ := ho
  have hn := (S.cel _ (.head _)).2.1
  refine bead_spec (k := k) (C.keeps (hideKeep S.base hn)) (S.cell (.head _)) R hy hy2 hm hm2 fun h' r x' y' t' u' v' n' kb e hb => ?_
  have hr := bead_range (x := x) (y := y) (m := m) hy hm
  rw [hb] at hr
  simp only at hr
  exact H h' _ r v' ⟨x', t', y', u', n', rfl, hr.2.2.1, by lia⟩ (S.turn kb e) hr.1 hr.2.1
theorem St.turnNew {a r : Addr} {o o' ob : Obj} {h' : Heap} (S : St h₀ Y ((a, o) :: cs) env lo h) (k : KeepBut a h h') (e : h'.get? a = some o') (hn : newIn h h' r = some ob) : St h₀ Y ((r, ob) :: (a, o') :: cs) env lo h' := by
  obtain ⟨e1, e2⟩ := newIn_get hn
  have S' := S.turn k e
  have hne : ∀ b o', h.get? b = some o' → b ≠ r := fun b o' q c => by rw [c, e2] at q; cases q
  refine ⟨S'.fm, S'.base, S'.yng, fun p hp => ?_, List.pairwise_cons.mpr ⟨fun p hp => ?_, S'.nd⟩, S'.loc, S'.cll, fun b f => (S'.own b f).imp id fun e => ⟨e.1, e.2.1, fun p hp => ?_⟩, S'.abv⟩
  · rcases List.mem_cons.mp hp with rfl | hp
    · refine ⟨e1, fresh_none S.base e2, ?_⟩
      cases q : Y r with
      | none => rfl
      | some o' => rw [(S.yng r o' q).1] at e2; cases e2
    · exact S'.cel p hp
  · rcases List.mem_cons.mp hp with rfl | hp
    · exact (hne _ _ (S.cell (.head _))).symm
    · exact (hne p.1 p.2 (S.cell (.tail _ hp))).symm
  · rcases List.mem_cons.mp hp with rfl | hp
    · obtain ⟨o', ho'⟩ := S.frLive f
      exact (hne b o' ho').symm
    · exact e.2.2 p hp
end
noncomputable def SpOk (ms : List Int) : Prop := ∃ rest, ms = -1 :: rest ∧ ∀ v ∈ rest, 0 ≤ v ∧ v < 8
theorem SpOk.ins {ms : List Int} (h : SpOk ms) {k : Nat} {x : Int} (hk : 1 ≤ k) (hx : 0 ≤ x) (hx2 : x < 8) : SpOk (ms.take k ++ x :: ms.drop k) := by
  obtain ⟨rest, rfl, hr⟩ := h
  obtain ⟨j, rfl⟩ : ∃ j, k = j + 1 := ⟨k - 1, by lia⟩
  refine ⟨rest.take j ++ x :: rest.drop j, by simp, fun v hv => ?_⟩
  rcases List.mem_append.mp hv with hv | hv
  · exact hr v (List.mem_of_mem_take hv)
  · rcases List.mem_cons.mp hv with rfl | hv
    · exact ⟨hx, hx2⟩
    · exact hr v (List.mem_of_mem_drop hv)
theorem SpOk.del {ms : List Int} (h : SpOk ms) {k : Nat} (hk : 1 ≤ k) : SpOk (ms.eraseIdx k) := by
  obtain ⟨rest, rfl, hr⟩ := h
  obtain ⟨j, rfl⟩ : ∃ j, k = j + 1 := ⟨k - 1, by lia⟩
  exact ⟨rest.eraseIdx j, by simp, fun v hv => hr v (List.mem_of_mem_eraseIdx hv)⟩
theorem SpOk.put {ms : List Int} (h : SpOk ms) {k : Nat} {x : Int} (hk : 1 ≤ k) (hx : 0 ≤ x) (hx2 : x < 8) : SpOk (ms.set k x) := by
  obtain ⟨rest, rfl, hr⟩ := h
  obtain ⟨j, rfl⟩ : ∃ j, k = j + 1 := ⟨k - 1, by lia⟩
  exact ⟨rest.set j x, by simp, fun v hv => (List.mem_or_eq_of_mem_set hv).elim (hr v) fun e => e ▸ ⟨hx, hx2⟩⟩
theorem ints_del {vs : List Value} {ns : List Int} (hi : IntsAre vs ns) (k : Nat) : IntsAre (vs.eraseIdx k) (ns.eraseIdx k) := by
  rw [List.eraseIdx_eq_take_drop_succ, List.eraseIdx_eq_take_drop_succ]
  exact ints_app (hi.take _) (hi.drop _)
theorem ints_ins {vs : List Value} {ns : List Int} (hi : IntsAre vs ns) (k : Nat) (x : Int) (t : Tok) : IntsAre (vs.take k ++ .int x t :: vs.drop k) (ns.take k ++ x :: ns.drop k) :=
  ints_app (hi.take _) (.cons _ _ (hi.drop _))
theorem ints_set {vs : List Value} {ns : List Int} (hi : IntsAre vs ns) {k : Nat} (hk : k < ns.length) (x : Int) (t : Tok) : IntsAre (vs.set k (.int x t)) (ns.set k x) := by
  rw [List.set_eq_take_append_cons_drop, List.set_eq_take_append_cons_drop, if_pos hk, if_pos (by rw [hi.length]; exact hk)]
  exact ints_app (hi.take _) (.cons _ _ (hi.drop _))
section
variable {w : World} {z : Shared} {A : Around} {h : Heap} {P : Value → Heap → Prop}
set_option maxHeartbeats 4000000 in
theorem law_spoilt_spec {a b : Addr} {o : Obj} {vs : List Value} {ns : List Int} {n k many : Nat} {t : Tok} (C : Cx w (h.hide a)) (R : Room A (k + 2)) (ha : h.get? a = some o) (ho : Ab o) (hb : (h.hide a).get? b = some (lst vs n)) (hi : IntsAre vs ns) (hs : SpOk ns) (hlen : ns.length ≤ 20) (hm : many ≤ 10)
    (H : ∀ h' r o' us ms c, KeepBut a h h' → h'.get? a = some o' → Ab o' → newIn h h' r = some (lst us c) → IntsAre us ms → SpOk ms → ms.length ≤ ns.length + many → P (.ref r) h') :
    Tr w z A (call (.ref 87) [.ref a, .ref b, .int many t]) h P := by
  refine' enterT1 (binds := [(Str.ofString "abacus", .ref a), (Str.ofString "numbers", .ref b), (Str.ofString "many", .int many t)]) C ha R ?ho ?hcd ?hb ?hk ?hn ?_ ?c1 ?c2 ?c3
  case ho => k_is
  case hcd => k_is
  case hb => rfl
  case hk => rfl
  case hn => (simp only [List.map_cons, List.map_nil]; decide)
  case c1 => rfl
  case c2 => rfl
  case c3 => rfl
  intro L h₁ hL S
  refine x_assign ?_
  refine e_call ?_
  refine e_blt (by assumption) (by assumption) (nm_list _) b_list (by decide) ?_
  refine w_type ?_
  refine a_cons ?_
  refine e_name (by assumption) rfl ?_
  refine a_nil ?_
  refine k_listL S (S.base _ _ hb) (szle (k := 2000) (by rw [hi.length]; lia) (by decide)) fun nl c0 h₂ S => ?_
  refine s_local (by assumption) rfl fun _ _ => ?_
  refine x_for ?_
  refine e_call ?_
  refine e_blt (by assumption) (by assumption) (nm_range _) b_range (by decide) ?_
  refine w_type ?_
  refine a_cons ?_
  refine e_name (by assumption) rfl ?_
  refine a_nil ?_
  rename St _ _ _ _ _ _ => S
  refine k_range1 S fun r1 h₃ t1 u1 S => ?_
  have hr1 := S.cell (.head _)
  have S := (S.drop.names (nm_cons rfl (nm_cons rfl nm_nil)) : St (h.hide a) _ [(nl, lst vs c0), (a, o)] _ [(Str.ofString "numbers", .ref nl), (Str.ofString "abacus", .ref a)] _)
  refine for1 R.hnd S hr1 (by lia) (by lia) (fun i Y' cs lo => ∃ us ms c o', cs = [(nl, lst us c), (a, o')] ∧ lo = [(Str.ofString "numbers", .ref nl), (Str.ofString "abacus", .ref a)] ∧ Ab o' ∧ IntsAre us ms ∧ SpOk ms ∧ ms.length ≤ ns.length + i)
    ⟨vs, ns, c0, o, rfl, rfl, ho, hi, hs, by lia⟩ ?turn ?done
  case done =>
    rintro Y' cs' lo' h' hle ⟨us, ms, c, o', rfl, rfl, ho', hi', hs', hl'⟩ S
    refine x_ret ?_
    refine e_name (by assumption) rfl ?_
    obtain ⟨e1, e2⟩ := newIn_get (S.cellNew (.head _))
    have hna : nl ≠ a := (List.pairwise_cons.mp S.nd).1 _ (.head _)
    refine H h' nl o' us ms c (fun q oq hq e => S.base _ _ (hide_get? hq e)) (S.cell (.tail _ (.head _))) ho' (newIn_of e1 ?_) hi' hs' (by lia)
    cases q : h.get? nl with
    | none => rfl
    | some oq => rw [hide_get? hna q] at e2; cases e2
  case turn =>
    rintro i t2 Y' cs' lo' h' I oI hi2 hle ⟨us, ms, c, o', rfl, rfl, ho', hi', hs', hl'⟩ S
    have hul : us.length = ms.length := hi'.length
    have hm0 : 1 ≤ ms.length := by obtain ⟨r, rfl, _⟩ := hs'; simp
    refine s_local (by assumption) rfl fun _ _ => ?_
    refine Tr.gen fun Q1 hQ1 => ?_
    rename St _ _ _ _ _ _ => S
    refine x_assign2 (Str.ofString "way") (Str.ofString "at") R.hnd ?_
    have S := S.perm (List.perm_append_comm (l₁ := [(I, oI), (nl, lst us c)]) (l₂ := [(a, o')]))
    refine e_tuple ?_
    refine a_cons ?_
    refine e_call ?_
    refine e_glob (by assumption) (by assumption) (nm_law_bead _) ?_
    refine w_fun1 (f_80 _) (by assumption) ?_
    refine a_cons ?_
    refine e_name (by assumption) rfl ?_
    refine a_cons ?_
    refine e_int fun _ => ?_
    refine a_nil ?_
    refine ⟨⟨_, _, _, S⟩, k_bead S C R.deeper ho' (by decide) (by decide) fun h₄ o1 way tw ho1 S hw0 hw1 => ?_⟩
    refine a_cons ?_
    refine e_bin ?_
    refine e_int fun _ => ?_
    refine e_call ?_
    refine e_glob (by assumption) (by assumption) (nm_law_bead _) ?_
    refine w_fun1 (f_80 _) (by assumption) ?_
    refine a_cons ?_
    refine e_name (by assumption) rfl ?_
    refine a_cons ?_
    refine e_call ?_
    refine e_blt (by assumption) (by assumption) (nm_len _) b_len (by decide) ?_
    refine w_blt ?_
    refine a_cons ?_
    refine e_name (by assumption) rfl ?_
    refine a_nil ?_
    refine k_len (S.cell (.tail _ (.tail _ (.head _)))) (szle (k := 2000) (by lia) (by decide)) fun t3 => ?_
    refine a_nil ?_
    refine ⟨⟨_, _, _, S⟩, k_bead S C R.deeper ho1 (by lia) (by lia) fun h₅ o2 rr tr ho2 S hr0 hr1 => ?_⟩
    refine o_add fun _ => ?_
    refine a_nil ?_
    refine n_tuple S (sz rfl) fun tt h₆ S _ _ => ?_
    refine ⟨tt, _, _, _, rfl, S.cell (.head _), fun h₇ k7 => ?_⟩
    have S := S.drop.keep k7
    refine s_local (by assumption) rfl fun _ _ => ?_
    refine s_local (by assumption) rfl fun _ _ => ?_
    rename St _ _ _ _ _ _ => S
    refine x_if ?_
    refine t_cmp ?_
    refine e_name (by assumption) rfl ?_
    refine e_int fun _ => ?_
    refine c_eq ?_
    refine t_bool ?_
    refine ⟨fun hx => ?_, fun hx => ?_⟩
    · refine x_expr ?_
      refine e_lmeth PySem.F.slot_list_insert rfl ?_
      refine e_name (by assumption) rfl ?_
      refine ⟨_, _, _, rfl, S.cell (.tail _ (.tail _ (.head _))), ?_⟩
      refine a_cons ?_
      refine e_name (by assumption) rfl ?_
      refine a_cons ?_
      refine e_call ?_
      refine e_glob (by assumption) (by assumption) (nm_law_bead _) ?_
      refine w_fun1 (f_80 _) (by assumption) ?_
      refine a_cons ?_
      refine e_name (by assumption) rfl ?_
      refine a_cons ?_
      refine e_int fun _ => ?_
      refine a_nil ?_
      refine ⟨⟨_, _, _, S⟩, k_bead S C R.deeper ho2 (by decide) (by decide) fun h₈ o3 x tx ho3 S hx0 hx1 => ?_⟩
      have S := (S.sel [2, 0, 1] (by decide) : St (h.hide a) Y' [(nl, lst us c), (a, o3), (I, oI)] _ _ _)
      refine a_nil ?_
      refine m_insert S (szle (k := 2000) (by lia) (by decide)) (by lia) (by lia) fun h₉ S => ?_
      refine x_nil ?_
      refine x_nil ?_
      refine hQ1 _ _ ⟨_, [(nl, _), (a, o3)], _, (S.sel [2, 0, 1] (by decide)).names (nm_cons rfl (nm_cons rfl nm_nil)), Le.refl _, _, _, _, o3, rfl, rfl, ho3, ints_ins hi' _ _ _, hs'.ins (by lia) hx0 hx1, ?_⟩
      rw [List.length_append, List.length_cons, List.length_take, List.length_drop]; lia
    refine x_if ?_
    refine t_and ?_
    refine t_cmp ?_
    refine e_name (by assumption) rfl ?_
    refine e_call ?_
    refine e_blt (by assumption) (by assumption) (nm_len _) b_len (by decide) ?_
    refine w_blt ?_
    refine a_cons ?_
    refine e_name (by assumption) rfl ?_
    refine a_nil ?_
    refine k_len (S.cell (.tail _ (.tail _ (.head _)))) (szle (k := 2000) (by lia) (by decide)) fun t4 => ?_
    refine c_lt ?_
    refine t_bool ?_
    refine ⟨fun hx2 => ?_, fun hx2 => ⟨fun e => (nomatch e), fun _ => ?_⟩⟩
    · have hlt := of_decide_eq_true hx2
      have hat : (1 + rr).toNat < us.length := by lia
      refine t_and ?_
      refine t_cmp ?_
      refine e_name (by assumption) rfl ?_
      refine e_int fun _ => ?_
      refine c_eq ?_
      refine t_bool ?_
      refine ⟨fun hx3 => ?_, fun hx3 => ⟨fun e => (nomatch e), fun _ => ?_⟩⟩
      · refine t_and_nil ?_
        refine ⟨fun _ => ?_, fun e => nomatch e⟩
        refine x_expr ?_
        refine e_lmeth PySem.F.slot_list_pop rfl ?_
        refine e_name (by assumption) rfl ?_
        refine ⟨_, _, _, rfl, S.cell (.tail _ (.tail _ (.head _))), ?_⟩
        refine a_cons ?_
        refine e_name (by assumption) rfl ?_
        refine a_nil ?_
        rename St _ _ _ _ _ _ => S
        have S := (S.sel [2, 0, 1] (by decide) : St (h.hide a) Y' [(nl, lst us c), (a, o2), (I, oI)] _ _ _)
        refine m_pop S (szle (k := 2000) (by lia) (by decide)) (by lia) (List.getElem?_eq_getElem hat) fun h₉ S => ?_
        refine x_nil ?_
        refine x_nil ?_
        refine x_nil ?_
        refine hQ1 _ _ ⟨_, [(nl, _), (a, o2)], _, (S.sel [2, 0, 1] (by decide)).names (nm_cons rfl (nm_cons rfl nm_nil)), Le.refl _, _, _, _, o2, rfl, rfl, ho2, ints_del hi' _, hs'.del (by lia), ?_⟩
        rw [List.length_eraseIdx]; split <;> lia
      · refine x_if ?_
        refine t_cmp ?_
        refine e_name (by assumption) rfl ?_
        refine e_call ?_
        refine e_blt (by assumption) (by assumption) (nm_len _) b_len (by decide) ?_
        refine w_blt ?_
        refine a_cons ?_
        refine e_name (by assumption) rfl ?_
        refine a_nil ?_
        refine k_len (S.cell (.tail _ (.tail _ (.head _)))) (szle (k := 2000) (by lia) (by decide)) fun t5 => ?_
        refine c_lt ?_
        refine t_bool ?_
        refine ⟨fun _ => ?_, fun hx4 => absurd hlt (of_decide_eq_false hx4)⟩
        refine x_assignSub ?_
        refine e_call ?_
        refine e_glob (by assumption) (by assumption) (nm_law_bead _) ?_
        refine w_fun1 (f_80 _) (by assumption) ?_
        refine a_cons ?_
        refine e_name (by assumption) rfl ?_
        refine a_cons ?_
        refine e_int fun _ => ?_
        refine a_nil ?_
        refine ⟨⟨_, _, _, S⟩, k_bead S C R.deeper ho2 (by decide) (by decide) fun h₈ o3 x tx ho3 S hx0 hx1 => ?_⟩
        have S := (S.sel [2, 0, 1] (by decide) : St (h.hide a) Y' [(nl, lst us c), (a, o3), (I, oI)] _ _ _)
        refine e_name (by assumption) rfl ?_
        refine e_name (by assumption) rfl ?_
        refine s_item S (szle (k := 2000) (by lia) (by decide)) (by lia) (by lia) fun h₉ S => ?_
        refine x_nil ?_
        refine x_nil ?_
        refine x_nil ?_
        refine x_nil ?_
        refine hQ1 _ _ ⟨_, [(nl, _), (a, o3)], _, (S.sel [2, 0, 1] (by decide)).names (nm_cons rfl (nm_cons rfl nm_nil)), Le.refl _, _, _, _, o3, rfl, rfl, ho3, ints_set hi' (by lia) _ _, hs'.put (by lia) hx0 hx1, ?_⟩
        rw [List.length_set]; lia
    · refine x_if ?_
      refine t_cmp ?_
      refine e_name (by assumption) rfl ?_
      refine e_call ?_
      refine e_blt (by assumption) (by assumption) (nm_len _) b_len (by decide) ?_
      refine w_blt ?_
      refine a_cons ?_
      refine e_name (by assumption) rfl ?_
      refine a_nil ?_
      refine k_len (S.cell (.tail _ (.tail _ (.head _)))) (szle (k := 2000) (by lia) (by decide)) fun t5 => ?_
      refine c_lt ?_
      refine t_bool ?_
      refine ⟨fun hx4 => absurd (of_decide_eq_true hx4) (of_decide_eq_false hx2), fun hx4 => ?_⟩
      refine x_nil ?_
      refine x_nil ?_
      refine x_nil ?_
      refine x_nil ?_
      refine hQ1 _ _ ⟨_, [(nl, lst us c), (a, o2)], _, (S.sel [1, 2, 0] (by decide)).names (nm_cons rfl (nm_cons rfl nm_nil)), Le.refl _, _, _, _, o2, rfl, rfl, ho2, hi', hs', by lia⟩
end
end
section -- M3
theorem pairsF_mem' {ns : List Int} {first : Int} {m k i j : Nat} (hi : i < k) (hj : j < m) (hh : hit ns first m i j = true) : ((i : Int), first + (j : Int)) ∈ pairsF ns first m k :=
  List.mem_flatMap.mpr ⟨i, List.mem_range.mpr hi, List.mem_filterMap.mpr ⟨j, List.mem_range.mpr hj, by rw [if_pos hh]⟩⟩
theorem homesL_mem {ns : List Int} {count ah be : Nat} {v q : Int} : (v, q) ∈ homesL ns count ah be ↔ (v = 0 ∧ q = 0) ∨ (∃ s : Nat, s < ah ∧ v = s + 1 ∧ q = s + 1) ∨
    (∃ i j : Nat, i < ns.length - be - (ah + 1) ∧ j < count - 1 - ah - be ∧ hit ((ns.drop (ah + 1)).take (ns.length - be - (ah + 1))) ((ah : Int) + 1) (count - 1 - ah - be) i j = true ∧ v = (ah : Int) + 1 + i ∧ q = (ah : Int) + 1 + j) ∨
    (∃ s : Nat, s < be ∧ v = (ns.length : Int) - ((be : Int) - s) ∧ q = (count : Int) - ((be : Int) - s)) := by
  unfold homesL
  rw [List.mem_append, List.mem_append, List.mem_append, List.mem_singleton, List.mem_map, List.mem_map, List.mem_map]
  constructor
  · rintro (((h | ⟨s, hs, h⟩) | ⟨p, hp, h⟩) | ⟨s, hs, h⟩)
    · cases h; exact .inl ⟨rfl, rfl⟩
    · cases h; exact .inr (.inl ⟨s, List.mem_range.mp hs, rfl, rfl⟩)
    · obtain ⟨i, j, hi, hj, rfl, hh⟩ := pairsF_mem hp
      cases h; exact .inr (.inr (.inl ⟨i, j, hi, hj, hh, rfl, rfl⟩))
    · cases h; exact .inr (.inr (.inr ⟨s, List.mem_range.mp hs, rfl, rfl⟩))
  · rintro (⟨rfl, rfl⟩ | ⟨s, hs, rfl, rfl⟩ | ⟨i, j, hi, hj, hh, rfl, rfl⟩ | ⟨s, hs, rfl, rfl⟩)
    · exact .inl (.inl (.inl rfl))
    · exact .inl (.inl (.inr ⟨s, List.mem_range.mpr hs, rfl⟩))
    · exact .inl (.inr ⟨_, pairsF_mem' hi hj hh, rfl⟩)
    · exact .inr ⟨s, List.mem_range.mpr hs, rfl⟩
theorem inner_get {ns : List Int} {a n i : Nat} (hi : i < n) : ((ns.drop a).take n).getD i 0 = ns.getD (a + i) 0 := by
  rw [List.getD_eq_getElem?_getD, List.getD_eq_getElem?_getD, List.getElem?_take, if_pos hi, List.getElem?_drop]
theorem inner_len {ns : List Int} {a n : Nat} (h : a + n ≤ ns.length) : ((ns.drop a).take n).length = n := by
  rw [List.length_take, List.length_drop]; lia
theorem due_iff {n i : Int} : due n i = true ↔ n = (i - 1) % 8 := by unfold due; exact decide_eq_true_iff
/-- the law's word on the long case -/
noncomputable def LongOk (G : Int → List Int) (count : Nat) (own : Nat → Int) (gone : Nat → Prop) (extra : Int → Prop) : Prop :=
  ∀ q : Nat, q < count → (gone q → G q = []) ∧ (¬ gone q → own q ∈ G q) ∧ ∀ v ∈ G q, v = own q ∨ extra v

/-- the three ways at once: what the inner pairs must be -/
theorem long_core {ns : List Int} {count ah be N M : Nat} {own : Nat → Int} {gone : Nat → Prop} {extra : Int → Prop} (hn : ns.length = N + be + (ah + 1)) (hc : count = M + 1 + ah + be)
    (k1 : ∀ i j, i < N → j < M → hit ((ns.drop (ah + 1)).take N) ((ah : Int) + 1) M i j = true → (own (ah + 1 + j) = (ah : Int) + 1 + i ∨ extra ((ah : Int) + 1 + i)) ∧ ¬ gone (ah + 1 + j))
    (k2 : ∀ j, j < M → ¬ gone (ah + 1 + j) → ∃ i, i < N ∧ hit ((ns.drop (ah + 1)).take N) ((ah : Int) + 1) M i j = true ∧ own (ah + 1 + j) = (ah : Int) + 1 + i)
    (k4 : ∀ q, q ≤ ah → own q = q ∧ ¬ gone q) (k5 : ∀ s, s < be → own (M + 1 + ah + s) = (N : Int) + ah + 1 + s ∧ ¬ gone (M + 1 + ah + s)) : LongOk (fun q => grp (homesL ns count ah be) q) count own gone extra := by
  have e1 : ns.length - be - (ah + 1) = N := by lia
  have e2 : count - 1 - ah - be = M := by lia
  intro q hq
  have mem : ∀ v : Int, v ∈ grp (homesL ns count ah be) (q : Int) ↔ _ := fun v => mem_grp.trans homesL_mem
  rw [e1, e2] at mem
  clear e1 e2
  by_cases hqa : q ≤ ah
  · obtain ⟨ho, hg⟩ := k4 q hqa
    refine ⟨fun g => absurd g hg, fun _ => (mem _).mpr ?_, fun v hv => .inl ?_⟩
    · rw [ho]
      by_cases e0 : q = 0
      · subst e0; exact .inl ⟨rfl, rfl⟩
      · obtain ⟨s, rfl⟩ : ∃ s, q = s + 1 := ⟨q - 1, by lia⟩
        exact .inr (.inl ⟨s, hqa, rfl, rfl⟩)
    · rw [ho]
      rcases (mem v).mp hv with ⟨a, b⟩ | ⟨s, hs, a, b⟩ | ⟨i, j, hi, hj, _, a, b⟩ | ⟨s, hs, a, b⟩
      · rw [a, b]
      · rw [a, b]
      · lia
      · lia
  by_cases hqm : q < ah + 1 + M
  · obtain ⟨j, rfl⟩ : ∃ j, q = ah + 1 + j := ⟨q - (ah + 1), by lia⟩
    have hj : j < M := Nat.lt_of_add_lt_add_left hqm
    refine ⟨fun g => List.eq_nil_iff_forall_not_mem.mpr fun v hv => ?_, fun g => (mem _).mpr ?_, fun v hv => ?_⟩
    · rcases (mem v).mp hv with ⟨a, b⟩ | ⟨s, hs, a, b⟩ | ⟨i, j', hi, hj', hh, a, b⟩ | ⟨s, hs, a, b⟩
      · lia
      · lia
      · obtain rfl : j' = j := by lia
        exact (k1 _ _ hi hj' hh).2 g
      · lia
    · obtain ⟨i, hi, hh, ho⟩ := k2 j hj g
      exact .inr (.inr (.inl ⟨i, j, hi, hj, hh, ho, by push_cast; rfl⟩))
    · rcases (mem v).mp hv with ⟨a, b⟩ | ⟨s, hs, a, b⟩ | ⟨i, j', hi, hj', hh, a, b⟩ | ⟨s, hs, a, b⟩
      · lia
      · lia
      · obtain rfl : j' = j := by lia
        rw [a]
        exact (k1 _ _ hi hj' hh).1.imp Eq.symm id
      · lia
  · obtain ⟨s, rfl⟩ : ∃ s, q = M + 1 + ah + s := ⟨q - (M + 1 + ah), by lia⟩
    have hs : s < be := by lia
    obtain ⟨ho, hg⟩ := k5 s hs
    refine ⟨fun g => absurd g hg, fun _ => (mem _).mpr (.inr (.inr (.inr ⟨s, hs, ?_, ?_⟩))), fun v hv => .inl ?_⟩
    · rw [ho, hn]; push_cast; lia
    · rw [hc]; push_cast; lia
    · rw [ho]
      rcases (mem v).mp hv with ⟨a, b⟩ | ⟨s, hs, a, b⟩ | ⟨i, j', hi, hj', hh, a, b⟩ | ⟨s, hs, a, b⟩
      · lia
      · lia
      · lia
      · rw [a, hn]; rw [hc] at b; push_cast at b ⊢; lia
theorem mod_step {x : Int} (h : x % 8 = (x - 1) % 8) : False := by lia
theorem long_pop {ns : List Int} {count at' r1 r2 : Nat} (hc : 12 ≤ count) (ha1 : 1 ≤ at') (ha2 : at' < count) (hlen : ns.length = count - 1) (h0 : ns.getD 0 0 = -1) (h1 : ∀ p, 1 ≤ p → p < at' → ns.getD p 0 = ((p : Int) - 1) % 8)
    (h2 : ∀ p, at' ≤ p → p < count - 1 → ns.getD p 0 = (p : Int) % 8) (hA : FitA ns (min ns.length count) r1) (hB : FitB ns count (min ns.length count - 1 - (r1 - 8)) r2) :
    LongOk (fun q => grp (homesL ns count (r1 - 8) (r2 - 8)) q) count (fun q => if q < at' then (q : Int) else (q : Int) - 1) (fun q => q = at') (fun _ => False) := by
  obtain ⟨c, rfl⟩ : ∃ c, count = c + 1 := ⟨count - 1, by lia⟩
  rw [Nat.add_sub_cancel] at hlen h2
  obtain ⟨b, rfl⟩ : ∃ b, at' = b + 1 := ⟨at' - 1, by lia⟩
  have hA1 := hA.1
  have hA2 : r1 + 1 ≤ c := hlen ▸ Nat.le_trans hA.2.1 (Nat.min_le_left _ _)
  have hB1 := hB.1
  have hB2 : r2 + 1 ≤ c := by
    have h3 := hB.2.1
    have h4 := Nat.min_le_left ns.length (c + 1)
    rw [hlen] at h3 h4
    lia
  clear hA hB hc
  have hr1 : r1 ≤ b := by
    apply Decidable.byContradiction
    intro hn
    have h3 := due_iff.mp (hA1 b (by lia))
    rw [h2 (b + 1) (Nat.le_refl _) (by lia)] at h3
    push_cast at h3
    exact mod_step (x := (b : Int) + 1) h3
  have hr2 : r2 + b + 1 ≤ c := by
    apply Decidable.byContradiction
    intro hn
    obtain ⟨d, hd⟩ : ∃ d, c = d + b + 1 := ⟨c - b - 1, by lia⟩
    have h3 := due_iff.mp (hB1 d (by lia))
    rw [show ns.length - 1 - d = b by lia] at h3
    rcases Nat.eq_zero_or_pos b with e | e
    · rw [e, h0] at h3; lia
    · rw [h1 b e (Nat.lt_succ_self _)] at h3
      rw [hd] at h3
      push_cast at h3
      exact mod_step (x := (b : Int)) (by rw [h3]; congr 1; lia)
  have hah : r1 - 8 ≤ b := by lia
  have hbe : r2 - 8 + b + 1 ≤ c := by lia
  clear hr1 hr2 hA1 hA2 hB1 hB2
  generalize r1 - 8 = ah at *
  generalize r2 - 8 = be at *
  obtain ⟨a, rfl⟩ : ∃ a, b = ah + a := ⟨b - ah, by lia⟩
  obtain ⟨N, rfl⟩ : ∃ N, c = N + be + (ah + 1) := ⟨c - be - (ah + 1), by lia⟩
  have haN : a ≤ N := by lia
  clear hah hbe ha1 ha2
  have hil := inner_len (ns := ns) (a := ah + 1) (n := N) (by lia)
  have key : ∀ i j, i < N → j < N + 1 → (hit ((ns.drop (ah + 1)).take N) ((ah : Int) + 1) (N + 1) i j = true ↔ (i < a ∧ j = i) ∨ (a ≤ i ∧ j = i + 1)) := by
    intro i j hi hj
    rw [hit_iff (by rw [hil]; exact hi) hj, hil]
    refine best_pop haN (fun t ht => ?_) (fun t ht ht2 => ?_) i j hi hj
    · rw [inner_get (by lia), h1 _ (by lia) (by lia)]; congr 1; try (push_cast; lia)
    · rw [inner_get ht2, h2 _ (by lia) (by lia)]; congr 1; try (push_cast; lia)
  clear h0 h1 h2 hil
  refine long_core (N := N) (M := N + 1) hlen (by lia) (fun i j hi hj hh => ?_) (fun j hj hg => ?_) (fun q hq => ?_) (fun s hs => ?_)
  · have := (key i j hi hj).mp hh
    clear hh key
    refine ⟨.inl ?_, by lia⟩
    split <;> (push_cast; lia)
  · by_cases e : j < a
    · refine ⟨j, by lia, (key _ _ (by lia) hj).mpr (.inl ⟨e, rfl⟩), ?_⟩
      rw [if_pos (by lia)]; push_cast; lia
    · obtain ⟨i, rfl⟩ : ∃ i, j = i + 1 := ⟨j - 1, by lia⟩
      refine ⟨i, by lia, (key _ _ (by lia) hj).mpr (.inr ⟨by lia, rfl⟩), ?_⟩
      rw [if_neg (by lia)]; push_cast; lia
  · exact ⟨if_pos (by lia), by lia⟩
  · refine ⟨?_, by lia⟩
    rw [if_neg (by lia)]; push_cast; lia
theorem long_ins {ns : List Int} {count at' r1 r2 : Nat} (hc : 12 ≤ count) (ha1 : 1 ≤ at') (ha2 : at' < count) (hlen : ns.length = count + 1) (h0 : ns.getD 0 0 = -1) (h1 : ∀ p, 1 ≤ p → p < at' → ns.getD p 0 = ((p : Int) - 1) % 8)
    (h2 : ∀ p, at' < p → p < count + 1 → ns.getD p 0 = ((p : Int) - 2) % 8) (hA : FitA ns (min ns.length count) r1) (hB : FitB ns count (min ns.length count - 1 - (r1 - 8)) r2) :
    LongOk (fun q => grp (homesL ns count (r1 - 8) (r2 - 8)) q) count (fun q => if q < at' then (q : Int) else (q : Int) + 1) (fun _ => False) (fun v => v = at') := by
  obtain ⟨b, rfl⟩ : ∃ b, at' = b + 1 := ⟨at' - 1, by lia⟩
  have hA1 := hA.1
  have hA2 : r1 + 1 ≤ count := Nat.le_trans hA.2.1 (Nat.min_le_right _ _)
  have hB1 := hB.1
  have hB2 : r2 + (r1 - 8) + 1 ≤ count := by
    have h3 := hB.2.1
    rw [hlen, Nat.min_eq_right (Nat.le_succ _)] at h3
    lia
  clear hA hB hc
  have hr1 : r1 ≤ b + 1 := by
    apply Decidable.byContradiction
    intro hn
    have h3 := due_iff.mp (hA1 (b + 1) (by lia))
    rw [h2 (b + 1 + 1) (by lia) (by lia)] at h3
    push_cast at h3
    exact mod_step (x := (b : Int) + 1) (by rw [show (b : Int) + 1 - 1 = (b : Int) + 1 + 1 - 2 by lia, h3]; congr 1; lia)
  have hr2 : r2 + b ≤ count := by
    apply Decidable.byContradiction
    intro hn
    obtain ⟨d, hd⟩ : ∃ d, count = d + b := ⟨count - b, by lia⟩
    have h3 := due_iff.mp (hB1 d (by lia))
    rw [show ns.length - 1 - d = b by lia] at h3
    rcases Nat.eq_zero_or_pos b with e | e
    · rw [e, h0] at h3; lia
    · rw [h1 b e (Nat.lt_succ_self _), hd] at h3
      push_cast at h3
      exact mod_step (x := (b : Int) - 1) (by rw [h3]; congr 1; lia)
  have hah : r1 - 8 ≤ b := by lia
  have hbe : r2 - 8 + b + 2 ≤ count := by lia
  have hab : r2 - 8 + (r1 - 8) + 1 ≤ count := by lia
  clear hr1 hr2 hA1 hA2 hB1 hB2
  generalize r1 - 8 = ah at *
  generalize r2 - 8 = be at *
  obtain ⟨a, rfl⟩ : ∃ a, b = ah + a := ⟨b - ah, by lia⟩
  obtain ⟨M, rfl⟩ : ∃ M, count = M + 1 + ah + be := ⟨count - be - ah - 1, by lia⟩
  have haM : a ≤ M := by lia
  clear hah hbe hab ha1 ha2
  have hil := inner_len (ns := ns) (a := ah + 1) (n := M + 1) (by lia)
  have key : ∀ i j, i < M + 1 → j < M → (hit ((ns.drop (ah + 1)).take (M + 1)) ((ah : Int) + 1) M i j = true → (i < a ∧ j = i) ∨ (a < i ∧ i = j + 1) ∨ i = a) ∧
      ((i < a ∧ j = i) ∨ (a < i ∧ i = j + 1) → hit ((ns.drop (ah + 1)).take (M + 1)) ((ah : Int) + 1) M i j = true) := by
    intro i j hi hj
    rw [hit_iff (by rw [hil]; exact hi) hj, hil]
    refine best_ins haM (fun t ht => ?_) (fun t ht ht2 => ?_) i j hi hj
    · rw [inner_get (by lia), h1 _ (by lia) (by lia)]; congr 1; try (push_cast; lia)
    · rw [inner_get ht2, h2 _ (by lia) (by lia)]; congr 1; try (push_cast; lia)
  clear h0 h1 h2 hil
  refine long_core (N := M + 1) (M := M) (by lia) rfl (fun i j hi hj hh => ?_) (fun j hj hg => ?_) (fun q hq => ?_) (fun s hs => ?_)
  · have := (key i j hi hj).1 hh
    clear hh key
    refine ⟨?_, id⟩
    by_cases e : i = a
    · right; push_cast; lia
    · left; split <;> (push_cast; lia)
  · by_cases e : j < a
    · refine ⟨j, by lia, (key _ _ (by lia) hj).2 (.inl ⟨e, rfl⟩), ?_⟩
      rw [if_pos (by lia)]; push_cast; lia
    · refine ⟨j + 1, by lia, (key _ _ (by lia) hj).2 (.inr ⟨by lia, rfl⟩), ?_⟩
      rw [if_neg (by lia)]; push_cast; lia
  · exact ⟨if_pos (by lia), id⟩
  · refine ⟨?_, id⟩
    rw [if_neg (by lia)]; push_cast; lia
theorem long_set {ns : List Int} {count at' r1 r2 : Nat} (hc : 12 ≤ count) (hlen : ns.length = count) (h1 : ∀ p, 1 ≤ p → p < count → p ≠ at' → ns.getD p 0 = ((p : Int) - 1) % 8)
    (hA : FitA ns (min ns.length count) r1) (hB : FitB ns count (min ns.length count - 1 - (r1 - 8)) r2) :
    LongOk (fun q => grp (homesL ns count (r1 - 8) (r2 - 8)) q) count (fun q => (q : Int)) (fun _ => False) (fun _ => False) := by
  have hab : r2 - 8 + (r1 - 8) + 1 ≤ count := by
    have h3 := hB.2.1
    have h4 := hA.2.1
    rw [hlen, Nat.min_self] at h3 h4
    lia
  clear hA hB hc
  generalize r1 - 8 = ah at *
  generalize r2 - 8 = be at *
  obtain ⟨N, rfl⟩ : ∃ N, count = N + 1 + ah + be := ⟨count - be - ah - 1, by lia⟩
  clear hab
  have hil := inner_len (ns := ns) (a := ah + 1) (n := N) (by lia)
  have key : ∀ i j, i < N → j < N → (hit ((ns.drop (ah + 1)).take N) ((ah : Int) + 1) N i j = true ↔ j = i) := by
    intro i j hi hj
    rw [hit_iff (by rw [hil]; exact hi) hj, hil]
    by_cases hle : ah + 1 ≤ at'
    · obtain ⟨a, rfl⟩ : ∃ a, at' = ah + 1 + a := ⟨at' - (ah + 1), by lia⟩
      refine best_set (a := a) (fun t ht hne => ?_) i j hi hj
      rw [inner_get ht, h1 _ (by lia) (by lia) (by lia)]; congr 1; try (push_cast; lia)
    · refine best_set (a := N) (fun t ht hne => ?_) i j hi hj
      rw [inner_get ht, h1 _ (by lia) (by lia) (by lia)]; congr 1; try (push_cast; lia)
  clear h1 hil
  refine long_core (N := N) (M := N) (by lia) rfl (fun i j hi hj hh => ?_) (fun j hj hg => ?_) (fun q hq => ⟨rfl, id⟩) (fun s hs => ⟨?_, id⟩)
  · obtain rfl := (key i j hi hj).mp hh
    exact ⟨.inl (by push_cast; rfl), id⟩
  · exact ⟨j, hj, (key _ _ hj hj).mpr rfl, by push_cast; rfl⟩
  · push_cast; lia
end
section -- M4
theorem grp_app (L K : List (Int × Int)) (j : Int) : grp (L ++ K) j = grp L j ++ grp K j := by unfold grp; exact List.filterMap_append
theorem grp_at {ns : List Int} {m i : Nat} (j : Nat) : ∀ k, grp ((pairsAt ns 1 m i k).map fun p => (1 + p.1, p.2)) (j : Int) = if 1 ≤ j ∧ j ≤ k ∧ hit ns 1 m i (j - 1) = true then [1 + (i : Int)] else []
  | 0 => by rw [if_neg (by lia)]; simp [pairsAt, grp]
  | k + 1 => by
    by_cases h : hit ns 1 m i k = true
    · rw [pairsAt_t h, List.map_append, grp_app, grp_at j k]
      by_cases e : j = k + 1
      · subst e
        rw [if_neg (by lia), if_pos ⟨by lia, by lia, by simpa using h⟩]
        show (List.filterMap (fun p : Int × Int => if p.2 = ((k + 1 : Nat) : Int) then some p.1 else none) [(1 + (i : Int), 1 + (k : Int))]) = _
        rw [List.filterMap_cons, if_pos (show (1 + (k : Int)) = ((k + 1 : Nat) : Int) by lia)]
        rfl
      · have : grp (List.map (fun p : Int × Int => (1 + p.1, p.2)) [((i : Int), 1 + (k : Int))]) (j : Int) = [] := by
          show (List.filterMap (fun p : Int × Int => if p.2 = (j : Int) then some p.1 else none) [(1 + (i : Int), 1 + (k : Int))]) = _
          rw [List.filterMap_cons, if_neg (show ¬ (1 + (k : Int)) = (j : Int) by lia)]
          rfl
        rw [this, List.append_nil]
        by_cases c : 1 ≤ j ∧ j ≤ k ∧ hit ns 1 m i (j - 1) = true
        · rw [if_pos c, if_pos ⟨c.1, by lia, c.2.2⟩]
        · rw [if_neg c, if_neg (fun c' => c ⟨c'.1, by lia, c'.2.2⟩)]
    · have h' : hit ns 1 m i k = false := by simpa using h
      rw [pairsAt_f h', grp_at j k]
      by_cases c : 1 ≤ j ∧ j ≤ k ∧ hit ns 1 m i (j - 1) = true
      · rw [if_pos c, if_pos ⟨c.1, by lia, c.2.2⟩]
      · rw [if_neg c, if_neg (fun c' => ?_)]
        by_cases e : j = k + 1
        · subst e
          exact h (by simpa using c'.2.2)
        · exact c ⟨c'.1, by lia, c'.2.2⟩
theorem Us_row0 {ns : Nat → Int} {n m j : Nat} : Us ns 1 n m 0 (j : Int) ↔ j = 0 := by
  constructor
  · intro h
    rcases Us_pos n m h with ⟨_, e⟩ | ⟨i, _, e, _⟩
    · lia
    · lia
  · rintro rfl; exact Us_zero ns 1 n m
theorem short_eq {ns : List Int} {count j : Nat} (hn : 1 ≤ ns.length) (hj : j < count) : grp (homesL ns count 0 0) (j : Int) = dueRow (tailF ns) (ns.length - 1) (count - 1) ns.length j := by
  have key : ∀ k, k + 1 ≤ ns.length → grp ([(0, 0)] ++ (pairsF (ns.drop 1) 1 (count - 1) k).map fun p => (1 + p.1, p.2)) (j : Int) = dueRow (tailF ns) (ns.length - 1) (count - 1) (k + 1) j := by
    intro k
    induction k with
    | zero =>
      intro _
      by_cases e : j = 0
      · have := dueRow_t (ns := tailF ns) (n := ns.length - 1) (m := count - 1) (k := 0) (j := j) (Us_row0.mpr e)
        rw [this]
        subst e
        simp [grp, dueRow, pairsF]
      · have := dueRow_f (ns := tailF ns) (n := ns.length - 1) (m := count - 1) (k := 0) (j := j) (fun h => e (Us_row0.mp h))
        rw [this]
        simp [grp, dueRow, pairsF]
        lia
    | succ k ih =>
      intro hk
      have hfun : (fun i => (ns.drop 1).getD i 0) = tailF ns := by
        funext i
        unfold tailF
        rw [List.getD_eq_getElem?_getD, List.getD_eq_getElem?_getD, List.getElem?_drop, Nat.add_comm]
      have hlen : (ns.drop 1).length = ns.length - 1 := by rw [List.length_drop]
      rw [pairsF_succ, List.map_append, ← List.append_assoc, grp_app, ih (by lia), grp_at]
      have hiff : (1 ≤ j ∧ j ≤ count - 1 ∧ hit (ns.drop 1) 1 (count - 1) k (j - 1) = true) ↔ Us (tailF ns) 1 (ns.length - 1) (count - 1) ((k + 1 : Nat) : Int) (j : Int) := by
        by_cases e : j = 0
        · subst e
          constructor
          · intro h; lia
          · intro h
            rcases Us_pos _ _ h with ⟨e, _⟩ | ⟨_, _, _, e⟩
            · lia
            · lia
        · have hu := Us_best (ns := tailF ns) (first := 1) (i := k) (j := j - 1) (ns.length - 1) (count - 1)
          have hh := hit_iff (ns := ns.drop 1) (first := 1) (m := count - 1) (i := k) (j := j - 1) (by lia) (by lia)
          rw [hfun, hlen] at hh
          rw [show ((k + 1 : Nat) : Int) = (k : Int) + 1 by lia, show (j : Int) = ((j - 1 : Nat) : Int) + 1 by lia, hu, ← hh]
          exact ⟨fun h => h.2.2, fun h => ⟨by lia, by lia, h⟩⟩
      by_cases c : 1 ≤ j ∧ j ≤ count - 1 ∧ hit (ns.drop 1) 1 (count - 1) k (j - 1) = true
      · rw [if_pos c, dueRow_t (hiff.mp c)]
        congr 2
        lia
      · rw [if_neg c, dueRow_f (fun h => c (hiff.mpr h)), List.append_nil]
  have hk := key (ns.length - 1) (by lia)
  rw [show ns.length - 1 + 1 = ns.length by lia] at hk
  rw [← hk]
  congr 1
  unfold homesL
  simp only [List.range_zero, List.map_nil, List.append_nil, Nat.zero_add, Nat.sub_zero]
  rw [List.take_of_length_le (by rw [List.length_drop]; exact Nat.le_refl _)]
  rfl
end
section -- M5
theorem whole_len {c : Nat} (h : 1 ≤ c) : (wholeL c).length = c := by unfold wholeL; rw [List.length_cons, List.length_map, List.length_range]; lia
theorem whole_0 (c : Nat) : (wholeL c).getD 0 0 = -1 := rfl
theorem whole_get {c p : Nat} (h1 : 1 ≤ p) (h2 : p < c) : (wholeL c).getD p 0 = ((p : Int) - 1) % 8 := by
  obtain ⟨q, rfl⟩ : ∃ q, p = q + 1 := ⟨p - 1, by lia⟩
  unfold wholeL
  rw [List.getD_cons_succ, List.getD_eq_getElem?_getD, List.getElem?_map, List.getElem?_range (by lia)]
  show (q : Int) % 8 = _
  congr 1
  lia
/-- the law's word on a long scan, spoilt in one place -/
noncomputable def LongX (ns : List Int) (count : Nat) (own : Nat → Int) (way at' : Int) : Prop := ∀ r1 r2, FitA ns (min ns.length count) r1 → FitB ns count (min ns.length count - 1 - (r1 - 8)) r2 →
  LongOk (fun q => grp (homesL ns count (r1 - 8) (r2 - 8)) q) count own (fun q => way = 0 ∧ (q : Int) = at') (fun v => way = 1 ∧ v = at')
theorem LongOk.congr {G : Int → List Int} {c : Nat} {own : Nat → Int} {gone gone' : Nat → Prop} {extra extra' : Int → Prop} (h : LongOk G c own gone extra) (h1 : ∀ q, gone' q ↔ gone q) (h2 : ∀ v, extra v ↔ extra' v) : LongOk G c own gone' extra' := fun q hq =>
  ⟨fun g => (h q hq).1 ((h1 q).mp g), fun g => (h q hq).2.1 fun g' => g ((h1 q).mpr g'), fun v hv => ((h q hq).2.2 v hv).imp id (h2 v).mp⟩
theorem longx_pop {c a : Nat} (hc : 12 ≤ c) (ha1 : 1 ≤ a) (ha2 : a < c) : LongX ((wholeL c).eraseIdx a) c (fun q => if q < a then (q : Int) else (q : Int) - 1) 0 (a : Int) := fun r1 r2 hA hB => by
  have hw := whole_len (c := c) (by lia)
  have hg : ∀ p, ((wholeL c).eraseIdx a).getD p 0 = if p < a then (wholeL c).getD p 0 else (wholeL c).getD (p + 1) 0 := fun p => by
    rw [List.getD_eq_getElem?_getD, List.getElem?_eraseIdx]; split <;> rw [List.getD_eq_getElem?_getD]
  refine (long_pop hc ha1 ha2 (by rw [List.length_eraseIdx, if_pos (by lia)]; lia) ?_ (fun p h1 h2 => ?_) (fun p h1 h2 => ?_) hA hB).congr (fun q => ?_) fun v => ?_
  · rw [hg, if_pos (by lia)]; exact whole_0 c
  · rw [hg, if_pos h2]; exact whole_get h1 (by lia)
  · rw [hg, if_neg (by lia), whole_get (by lia) (by lia)]; congr 1; lia
  · constructor
    · rintro ⟨_, e⟩; lia
    · rintro rfl; exact ⟨rfl, rfl⟩
  · constructor
    · exact False.elim
    · rintro ⟨e, _⟩; lia
theorem longx_ins {c a : Nat} {x : Int} (hc : 12 ≤ c) (ha1 : 1 ≤ a) (ha2 : a < c) : LongX ((wholeL c).take a ++ x :: (wholeL c).drop a) c (fun q => if q < a then (q : Int) else (q : Int) + 1) 1 (a : Int) := fun r1 r2 hA hB => by
  have hw := whole_len (c := c) (by lia)
  have ht : ((wholeL c).take a).length = a := by rw [List.length_take]; lia
  have hg1 : ∀ p, p < a → ((wholeL c).take a ++ x :: (wholeL c).drop a).getD p 0 = (wholeL c).getD p 0 := fun p hp => by
    rw [List.getD_eq_getElem?_getD, List.getElem?_append_left (by lia), List.getElem?_take, if_pos hp, List.getD_eq_getElem?_getD]
  have hg2 : ∀ p, a < p → ((wholeL c).take a ++ x :: (wholeL c).drop a).getD p 0 = (wholeL c).getD (p - 1) 0 := fun p hp => by
    rw [List.getD_eq_getElem?_getD, List.getElem?_append_right (by lia), ht, show p - a = (p - a - 1) + 1 by lia, List.getElem?_cons_succ, List.getElem?_drop, List.getD_eq_getElem?_getD]
    congr 2; lia
  refine (long_ins hc ha1 ha2 (by rw [List.length_append, List.length_cons, List.length_drop]; lia) ?_ (fun p h1 h2 => ?_) (fun p h1 h2 => ?_) hA hB).congr (fun q => ?_) fun v => ?_
  · rw [hg1 0 (by lia)]; exact whole_0 c
  · rw [hg1 p h2]; exact whole_get h1 (by lia)
  · rw [hg2 p h1, whole_get (by lia) (by lia)]; congr 1; lia
  · constructor
    · rintro ⟨e, _⟩; lia
    · exact False.elim
  · constructor
    · exact fun e => ⟨rfl, e⟩
    · exact fun e => e.2
theorem longx_set {c a : Nat} {x way : Int} (hc : 12 ≤ c) (h0 : way ≠ 0) (h1 : way ≠ 1) : LongX ((wholeL c).set a x) c (fun q => (q : Int)) way (a : Int) := fun r1 r2 hA hB => by
  have hw := whole_len (c := c) (by lia)
  refine (long_set (at' := a) hc (by rw [List.length_set]; exact hw) (fun p h1 h2 h3 => ?_) hA hB).congr (fun q => ⟨fun e => h0 e.1, False.elim⟩) fun v => ⟨False.elim, fun e => h1 e.1⟩
  rw [List.getD_eq_getElem?_getD, List.getElem?_set_ne (fun e => h3 e.symm), ← List.getD_eq_getElem?_getD]
  exact whole_get h1 h2
theorem wholeX_len_del {c a : Nat} (h1 : 1 ≤ c) (h2 : a < c) : ((wholeL c).eraseIdx a).length = c - 1 := by
  have hw := whole_len h1
  rw [List.length_eraseIdx, if_pos (by lia)]; lia
theorem wholeX_len_ins {c a : Nat} {x : Int} (h1 : 1 ≤ c) (h2 : a < c) : ((wholeL c).take a ++ x :: (wholeL c).drop a).length = c + 1 := by
  have hw := whole_len h1
  rw [List.length_append, List.length_cons, List.length_take, List.length_drop]; lia
end
section -- F11
set_option maxRecDepth 100000
theorem ints_mem {vs : List Value} {ns : List Int} (hi : IntsAre vs ns) {j : Nat} {v : Value} (e : vs[j]? = some v) : ∃ x t, v = .int x t ∧ x ∈ ns := by
  have hj : j < ns.length := by rw [← hi.length]; exact (List.getElem?_eq_some_iff.mp e).1
  obtain ⟨t, q⟩ := ints_at hi (List.getElem?_eq_getElem hj)
  rw [e] at q
  cases q
  exact ⟨_, t, rfl, List.getElem_mem hj⟩
section
variable {w : World} {z : Shared} {A : Around} {env : Env} {h : Heap}
theorem x_assignM {x : Str} {p pos : Pos} {e : PySem.Expr} {rest : List Stmt} {P : Flow → Heap → Prop} (M : Env → Value → Heap → Prop)
    (H : Tr w z A (eval e env) h (M env)) (K : ∀ v h', M env v h' → Tr w z A (storeName env x v) h' fun _ h'' => Tr w z A (execs rest env) h'' P)
    (hs : swapsWith e (some (.Name x p)) pos.line env = pure false := by rfl) : Tr w z A (execs (.Assign [.Name x p] e pos :: rest) env) h P := x_assign (H.mono K) hs
/-- an if whose test is false -/
theorem x_ifF {test : PySem.Expr} {body : List Stmt} {pos : Pos} {rest : List Stmt} {P : Flow → Heap → Prop} (M : Env → Heap → Prop)
    (H : ∀ Q : Bool → Heap → Prop, (∀ h', M env h' → Q false h') → Tr w z A (isTrue test env (eval test env)) h Q) (K : ∀ h', M env h' → Tr w z A (execs rest env) h' P) : Tr w z A (execs (.If test body [] pos :: rest) env) h P :=
  x_ifJ M (fun Q hQ => (H (fun b h' => b = false ∧ M env h') fun h' m => ⟨rfl, m⟩).mono fun b h' m => ⟨fun q => absurd (m.1.symm.trans q) (by decide), fun _ => x_nil (hQ _ m.2)⟩) K
end
section
variable {w : World} {z : Shared} {A : Around} {h : Heap} {P : Value → Heap → Prop}
set_option maxHeartbeats 4000000 in
theorem law_long_spec {a : Addr} {o : Obj} {k : Nat} (C : Cx w (h.hide a)) (R : Room A (k + 5)) (ha : h.get? a = some o) (ho : Ab o)
    (H : ∀ h', KeepBut a h h' → P (.bool true) h') :
    Tr w z A (call (.ref 107) [.ref a]) h P := by
  refine' enterT1 (binds := [(Str.ofString "abacus", .ref a)]) C ha R ?ho ?hcd ?hb ?hk ?hn ?_ ?c1 ?c2 ?c3
  case ho => k_is
  case hcd => k_is
  case hb => rfl
  case hk => rfl
  case hn => (simp only [List.map_cons, List.map_nil]; decide)
  case c1 => rfl
  case c2 => rfl
  case c3 => rfl
  intro L h₁ hL S
  have hu : ∀ env : Env, (A.deeper env).units < cLine := fun env => by have := R.uni; show A.units + 3 < _; lia
  refine x_assign ?_
  refine e_bin ?_
  refine e_int fun _ => ?_
  refine e_call ?_
  refine e_glob (by assumption) (by assumption) (nm_law_bead _) ?_
  refine w_fun1 (f_80 _) (by assumption) ?_
  refine a_cons ?_
  refine e_name (by assumption) rfl ?_
  refine a_cons ?_
  refine e_int fun _ => ?_
  refine a_nil ?_
  refine ⟨⟨_, _, _, S⟩, k_bead S C R.deeper ho (by decide) (by decide) fun h₂ o1 cc tc ho1 S hc0 hc1 => ?_⟩
  refine o_add fun _ => ?_
  refine s_local (by assumption) rfl fun _ _ => ?_
  rename St _ _ _ _ _ _ => S
  obtain ⟨c, hc⟩ : ∃ c : Nat, 12 + cc = (c : Int) := ⟨(12 + cc).toNat, by lia⟩
  rw [hc] at S
  have hc12 : 12 ≤ c := by lia
  have hc40 : c ≤ 40 := by lia
  clear hc hc0 hc1
  refine x_assignT ?_
  refine e_tuple ?_
  refine a_cons ?_
  refine e_call ?_
  refine e_glob (by assumption) (by assumption) (nm_law_whole _) ?_
  refine w_fun1 (f_102 _) (by assumption) ?_
  refine a_cons ?_
  refine e_name (by assumption) rfl ?_
  refine a_nil ?_
  refine ⟨⟨_, _, _, S⟩, law_whole_spec (k := k) (C.keeps S.base) (R.deeper.less (by lia)) (by lia) (by lia) fun h₃ nl vs k3 e3 hi => ?_⟩
  have S := (S.adopt k3 e3).swap
  refine a_cons ?_
  refine e_call ?_
  refine e_glob (by assumption) (by assumption) (nm_law_bead _) ?_
  refine w_fun1 (f_80 _) (by assumption) ?_
  refine a_cons ?_
  refine e_name (by assumption) rfl ?_
  refine a_cons ?_
  refine e_int fun _ => ?_
  refine a_nil ?_
  refine ⟨⟨_, _, _, S⟩, k_bead S C R.deeper ho1 (by decide) (by decide) fun h₄ o2 way tw ho2 S hw0 hw1 => ?_⟩
  refine a_cons ?_
  refine e_bin ?_
  refine e_int fun _ => ?_
  refine e_call ?_
  refine e_glob (by assumption) (by assumption) (nm_law_bead _) ?_
  refine w_fun1 (f_80 _) (by assumption) ?_
  refine a_cons ?_
  refine e_name (by assumption) rfl ?_
  refine a_cons ?_
  refine e_bin ?_
  refine e_name (by assumption) rfl ?_
  refine e_int fun _ => ?_
  refine o_sub fun _ => ?_
  refine a_nil ?_
  refine ⟨⟨_, _, _, S⟩, k_bead S C R.deeper ho2 (by lia) (by lia) fun h₅ o3 rr tr ho3 S hr0 hr1 => ?_⟩
  refine o_add fun _ => ?_
  refine a_nil ?_
  refine n_tuple S (sz rfl) fun tt h₆ S _ _ => ?_
  obtain ⟨p, hp⟩ : ∃ p : Nat, 1 + rr = (p : Int) := ⟨(1 + rr).toNat, by lia⟩
  rw [hp] at S
  have hp1 : 1 ≤ p := by lia
  have hp2 : p < c := by lia
  clear hp hr0 hr1
  refine a_tup3 R.hnd (S.cell (.head _)) fun h₇ k7 => ?_
  have S := S.drop.keep k7
  refine s_local (by assumption) rfl fun _ _ => ?_
  rename St _ _ _ _ _ _ => S
  refine s_cell (c := L + 1) S rfl rfl (by show L < L + 1; lia) fun h₈ S => ?_
  refine s_cell (c := L + 2) S rfl rfl (by show L < L + 2; lia) fun h₉ S => ?_
  refine x_assign ?_
  refine e_call ?_
  refine e_blt (by assumption) (by assumption) (nm_list _) b_list (by decide) ?_
  refine w_type ?_
  refine a_cons ?_
  refine e_call ?_
  refine e_blt (by assumption) (by assumption) (nm_range _) b_range (by decide) ?_
  refine w_type ?_
  refine a_cons ?_
  refine e_name (by assumption) rfl ?_
  refine a_nil ?_
  rename St _ _ _ _ _ _ => S
  refine k_range1 S fun r1 h₁₀ t1 u1 S => ?_
  refine a_nil ?_
  refine k_listR R.hnd S (S.cell (.head _)) (by lia) (by lia) fun ol h₁₁ us cu hus S => ?_
  rw [show ((c : Int)).toNat = c by lia] at hus
  have S := (S.sel [0, 2, 3] (by decide) : St (h.hide a) _ [(ol, lst us cu), (a, o3), (nl, lst vs 0)] _ _ _)
  refine s_cell (c := L + 3) S rfl rfl (by show L < L + 3; lia) fun h₁₂ S => ?_
  obtain ⟨ta, tb, td, S⟩ : ∃ ta tb td, St (h.hide a) (fun _ => none) [(ol, lst us cu), (a, o3), (nl, lst vs 0)] (envOfC _ _ _ _ _) [(Str.ofString "own", .ref ol), (Str.ofString "at", .int (p : Int) ta), (Str.ofString "way", .int way tb), (Str.ofString "numbers", .ref nl), (Str.ofString "count", .int (c : Int) td), (Str.ofString "abacus", .ref a)] h₁₂ :=
    ⟨_, _, _, S.names (nm_cons rfl (nm_cons rfl (nm_cons rfl (nm_cons rfl (nm_cons rfl (nm_cons rfl nm_nil))))))⟩
  refine x_ifJ (fun env h' => ∃ Y ns vs nn ol us cu o' own t1 t2 t3, St (h.hide a) Y [(nl, lst vs nn), (ol, lst us cu), (a, o')] env [(Str.ofString "own", .ref ol), (Str.ofString "at", .int (p : Int) t1), (Str.ofString "way", .int way t2), (Str.ofString "numbers", .ref nl), (Str.ofString "count", .int (c : Int) t3), (Str.ofString "abacus", .ref a)] h' ∧
    IntsAre vs ns ∧ 1 ≤ ns.length ∧ ns.length ≤ 41 ∧ IntsAre us ((List.range c).map own) ∧ LongX ns c own way (p : Int)) ?ways ?rest
  case ways =>
    intro Q hQ
    have hwl := whole_len (c := c) (by lia)
    have hvl : vs.length = c := by rw [hi.length, hwl]
    refine t_cmp ?_
    refine e_name (by assumption) rfl ?_
    refine e_int fun _ => ?_
    refine c_eq ?_
    refine t_bool ?_
    refine ⟨fun hx => ?_, fun hx => ?_⟩
    · have hx0 := of_decide_eq_true hx
      have hat : p < vs.length := by lia
      refine x_expr ?_
      refine e_lmeth PySem.F.slot_list_pop rfl ?_
      refine e_name (by assumption) rfl ?_
      refine ⟨_, _, _, rfl, S.cell (.tail _ (.tail _ (.head _))), ?_⟩
      refine a_cons ?_
      refine e_name (by assumption) rfl ?_
      refine a_nil ?_
      rename St _ _ _ _ _ _ => S
      have S := (S.sel [2, 1] (by decide) : St (h.hide a) _ [(nl, lst vs 0), (a, o3)] _ _ _)
      refine m_pop S (szle (k := 2000) (by lia) (by decide)) (by lia) (List.getElem?_eq_getElem hat) fun h₁₃ S => ?_
      refine x_assign ?_
      refine e_comp (cl := [(Str.ofString "at", L + 2)]) rfl rfl (by decide) ?_
      refine e_call ?_
      refine e_blt (by assumption) (by assumption) (nm_range _) b_range (by decide) ?_
      refine w_type ?_
      refine a_cons ?_
      refine e_name (by assumption) rfl ?_
      refine a_nil ?_
      refine k_range1 S fun r1 g t1 u1 S => ?_
      refine in_crange (lc := [(Str.ofString "at", .int (p : Int) ta)]) R.hnd S (S.cell (.head _)) (by lia) (by lia) (Hid.nil _) (fun _ hp => nomatch hp) .nil ?hcl rfl ?hlc
        (fun i Y cs us => cs = [] ∧ IntsAre us ((List.range i).map fun q => if q < p then (q : Int) else (q : Int) - 1)) ⟨rfl, .nil⟩ ?turn ?done
      case hcl => intro q hq; rw [List.mem_singleton.mp hq]; exact ⟨rfl, rfl⟩
      case hlc => intro C q hq; rw [List.mem_singleton.mp hq]; exact ⟨rfl, rfl, rfl, rfl⟩
      case turn =>
        rintro i t2 Y' cs' us c2 Cc D h₃ I oI hi' ⟨rfl, hus⟩ S
        refine s_local (by assumption) rfl fun _ _ => ?_
        refine ts_nil ⟨fun _ => ?_, fun e => nomatch e⟩
        refine e_ite ?_
        refine t_cmp ?_
        refine e_name (by assumption) rfl ?_
        refine e_name (by assumption) rfl ?_
        refine c_lt ?_
        refine t_bool ?_
        rename St _ _ _ _ _ _ => S
        refine ⟨fun hy => ?_, fun hy => ?_⟩
        · have hy := of_decide_eq_true hy
          refine e_name (by assumption) rfl ?_
          refine ⟨_, _, _, S, nm_cons rfl nm_nil, Le.refl _, rfl, ?_⟩
          rw [List.range_succ, List.map_append]
          refine ints_app hus ?_
          rw [List.map_singleton, if_pos (by lia)]
          exact .cons _ _ .nil
        · have hy := of_decide_eq_false hy
          refine e_bin ?_
          refine e_name (by assumption) rfl ?_
          refine e_int fun _ => ?_
          refine o_sub fun _ => ?_
          refine ⟨_, _, _, S, nm_cons rfl nm_nil, Le.refl _, rfl, ?_⟩
          rw [List.range_succ, List.map_append]
          refine ints_app hus ?_
          rw [List.map_singleton, if_neg (by lia)]
          exact .cons _ _ .nil
      case done =>
        rintro Y' cs' us2 D c' Cc lo' h₃ tk' ⟨rfl, hus2⟩ S'
        refine done_none S' fun h₁₄ F => ?_
        obtain ⟨S, hY1, hY2⟩ := S.join F
        have S := (S.sel [2, 0, 3] (by decide) : St (h.hide a) _ [(nl, lst _ _), (D, lst us2 c'), (a, o3)] _ _ _)
        refine s_cell (c := L + 3) S rfl rfl (by show L < L + 3; lia) fun h₁₅ S => ?_
        refine x_nil ?_
        rw [show ((c : Int)).toNat = c by lia] at hus2
        refine hQ _ ⟨_, _, _, _, D, us2, c', o3, _, _, _, _, S.names (nm_cons rfl (nm_cons rfl (nm_cons rfl (nm_cons rfl (nm_cons rfl (nm_cons rfl nm_nil)))))), ints_del hi _, ?_, ?_, hus2, ?_⟩
        · rw [Int.toNat_natCast, wholeX_len_del (by lia) hp2]; lia
        · rw [Int.toNat_natCast, wholeX_len_del (by lia) hp2]; lia
        · rw [Int.toNat_natCast, hx0]; exact longx_pop hc12 hp1 hp2
    have hx0 := of_decide_eq_false hx
    refine x_if ?_
    refine t_cmp ?_
    refine e_name (by assumption) rfl ?_
    refine e_int fun _ => ?_
    refine c_eq ?_
    refine t_bool ?_
    refine ⟨fun hx1 => ?_, fun hx1 => ?_⟩
    · have hx1 := of_decide_eq_true hx1
      refine x_expr ?_
      refine e_lmeth PySem.F.slot_list_insert rfl ?_
      refine e_name (by assumption) rfl ?_
      refine ⟨_, _, _, rfl, S.cell (.tail _ (.tail _ (.head _))), ?_⟩
      refine a_cons ?_
      refine e_name (by assumption) rfl ?_
      refine a_cons ?_
      refine e_call ?_
      refine e_glob (by assumption) (by assumption) (nm_law_bead _) ?_
      refine w_fun1 (f_80 _) (by assumption) ?_
      refine a_cons ?_
      refine e_name (by assumption) rfl ?_
      refine a_cons ?_
      refine e_int fun _ => ?_
      refine a_nil ?_
      have S := S.sel [1, 2, 0] (by decide)
      refine ⟨⟨_, _, _, S⟩, k_bead S C R.deeper ho3 (by decide) (by decide) fun h₁₃ o4 x tx ho4 S hv0 hv1 => ?_⟩
      have S := (S.sel [1, 0] (by decide) : St (h.hide a) _ [(nl, lst vs 0), (a, o4)] _ _ _)
      refine a_nil ?_
      refine m_insert S (szle (k := 2000) (by lia) (by decide)) (by lia) (by lia) fun h₁₄ S => ?_
      refine x_assign ?_
      refine e_comp (cl := [(Str.ofString "at", L + 2)]) rfl rfl (by decide) ?_
      refine e_call ?_
      refine e_blt (by assumption) (by assumption) (nm_range _) b_range (by decide) ?_
      refine w_type ?_
      refine a_cons ?_
      refine e_name (by assumption) rfl ?_
      refine a_nil ?_
      refine k_range1 S fun r1 g t1 u1 S => ?_
      refine in_crange (lc := [(Str.ofString "at", .int (p : Int) ta)]) R.hnd S (S.cell (.head _)) (by lia) (by lia) (Hid.nil _) (fun _ hp => nomatch hp) .nil ?hcl rfl ?hlc
        (fun i Y cs us => cs = [] ∧ IntsAre us ((List.range i).map fun q => if q < p then (q : Int) else (q : Int) + 1)) ⟨rfl, .nil⟩ ?turn ?done
      case hcl => intro q hq; rw [List.mem_singleton.mp hq]; exact ⟨rfl, rfl⟩
      case hlc => intro C q hq; rw [List.mem_singleton.mp hq]; exact ⟨rfl, rfl, rfl, rfl⟩
      case turn =>
        rintro i t2 Y' cs' us c2 Cc D h₃ I oI hi' ⟨rfl, hus⟩ S
        refine s_local (by assumption) rfl fun _ _ => ?_
        refine ts_nil ⟨fun _ => ?_, fun e => nomatch e⟩
        refine e_ite ?_
        refine t_cmp ?_
        refine e_name (by assumption) rfl ?_
        refine e_name (by assumption) rfl ?_
        refine c_lt ?_
        refine t_bool ?_
        rename St _ _ _ _ _ _ => S
        refine ⟨fun hy => ?_, fun hy => ?_⟩
        · have hy := of_decide_eq_true hy
          refine e_name (by assumption) rfl ?_
          refine ⟨_, _, _, S, nm_cons rfl nm_nil, Le.refl _, rfl, ?_⟩
          rw [List.range_succ, List.map_append]
          refine ints_app hus ?_
          rw [List.map_singleton, if_pos (by lia)]
          exact .cons _ _ .nil
        · have hy := of_decide_eq_false hy
          refine e_bin ?_
          refine e_name (by assumption) rfl ?_
          refine e_int fun _ => ?_
          refine o_add fun _ => ?_
          refine ⟨_, _, _, S, nm_cons rfl nm_nil, Le.refl _, rfl, ?_⟩
          rw [List.range_succ, List.map_append]
          refine ints_app hus ?_
          rw [List.map_singleton, if_neg (by lia)]
          exact .cons _ _ .nil
      case done =>
        rintro Y' cs' us2 D c' Cc lo' h₃ tk' ⟨rfl, hus2⟩ S'
        refine done_none S' fun h₁₄ F => ?_
        obtain ⟨S, hY1, hY2⟩ := S.join F
        have S := (S.sel [2, 0, 3] (by decide) : St (h.hide a) _ [(nl, lst _ _), (D, lst us2 c'), (a, o4)] _ _ _)
        refine s_cell (c := L + 3) S rfl rfl (by show L < L + 3; lia) fun h₁₅ S => ?_
        refine x_nil ?_
        refine x_nil ?_
        rw [show ((c : Int)).toNat = c by lia] at hus2
        refine hQ _ ⟨_, _, _, _, D, us2, c', o4, _, _, _, _, S.names (nm_cons rfl (nm_cons rfl (nm_cons rfl (nm_cons rfl (nm_cons rfl (nm_cons rfl nm_nil)))))), ints_ins hi _ _ _, ?_, ?_, hus2, ?_⟩
        · rw [Int.toNat_natCast, wholeX_len_ins (by lia) hp2]; lia
        · rw [Int.toNat_natCast, wholeX_len_ins (by lia) hp2]; lia
        · rw [Int.toNat_natCast, hx1]; exact longx_ins hc12 hp1 hp2
    have hx1 := of_decide_eq_false hx1
    refine x_assignSub ?_
    refine e_call ?_
    refine e_glob (by assumption) (by assumption) (nm_law_bead _) ?_
    refine w_fun1 (f_80 _) (by assumption) ?_
    refine a_cons ?_
    refine e_name (by assumption) rfl ?_
    refine a_cons ?_
    refine e_int fun _ => ?_
    refine a_nil ?_
    have S := S.sel [1, 2, 0] (by decide)
    refine ⟨⟨_, _, _, S⟩, k_bead S C R.deeper ho3 (by decide) (by decide) fun h₁₃ o4 x tx ho4 S hx2 hx3 => ?_⟩
    have S := (S.sel [1, 2, 0] (by decide) : St (h.hide a) _ [(nl, lst vs 0), (ol, lst us cu), (a, o4)] _ _ _)
    refine e_name (by assumption) rfl ?_
    refine e_name (by assumption) rfl ?_
    refine s_item S (szle (k := 2000) (by lia) (by decide)) (by lia) (by lia) fun h₁₄ S => ?_
    refine x_nil ?_
    refine x_nil ?_
    refine hQ _ ⟨_, _, _, _, ol, us, cu, o4, _, _, _, _, S, ints_set hi (by rw [Int.toNat_natCast]; lia) _ _, ?_, ?_, hus, ?_⟩
    · rw [Int.toNat_natCast, List.length_set]; lia
    · rw [Int.toNat_natCast, List.length_set]; lia
    · rw [Int.toNat_natCast]; exact longx_set hc12 hx0 hx1
  clear S hus hi
  rintro h₂₀ ⟨Y, ns, vs, nn, ol, us, cu, o', own, t1, t2, t3, S, hi, hl1, hl2, hus, hLong⟩
  obtain ⟨Y1, S, hY1, hnl⟩ := S.frz
  obtain ⟨Y2, S, hY2, hol⟩ := S.frz
  refine x_assign ?_
  refine e_call ?_
  refine e_glob (by assumption) (by assumption) (nm_homes_of _) ?_
  refine w_fun1 (f_66 _) (by assumption) ?_
  refine a_cons ?_
  refine e_name (by assumption) rfl ?_
  refine a_cons ?_
  refine e_name (by assumption) rfl ?_
  refine a_nil ?_
  refine ⟨⟨_, _, _, S⟩, homes_of_spec (k := k) (C.keeps S.base) R.deeper (S.get (hY2 _ _ hnl)) hi (by lia) (by lia) (by lia) (by lia) fun h₂₁ hm ds ch q1 q2 k21 e21 hA hB hT => ?_⟩
  obtain ⟨S, hY3⟩ := S.grow k21
  have e21 := le_uni_right Y2 _ _ _ e21
  have hT := hT.mono (le_uni_right Y2 _)
  have hol := hY3 _ _ hol
  generalize uni Y2 (newIn _ h₂₁) = Y3 at *
  have hOk := hLong q1 q2 hA hB
  obtain ⟨G, hG⟩ : ∃ G : Int → List Int, G = fun q => grp (homesL ns c (q1 - 8) (q2 - 8)) q := ⟨_, rfl⟩
  have hT : TabIs Y3 ds (fun i => G (i : Int)) c := by rw [hG]; exact hT
  have hOk : LongOk G c own (fun q => way = 0 ∧ (q : Int) = (p : Int)) (fun v => way = 1 ∧ v = (p : Int)) := by rw [hG]; exact hOk
  have hGl : ∀ i : Nat, i < c → (G i).length ≤ 20000 := fun i hi => by
    rw [hG]
    refine Nat.le_trans (grp_len ..) ?_
    unfold homesL
    rw [List.length_append, List.length_append, List.length_append, List.length_map, List.length_map, List.length_map, List.length_range, List.length_range]
    have hA2 := hA.2.1
    have hB2 := hB.2.1
    have hp := Nat.le_trans (pairsF_len ((ns.drop (q1 - 8 + 1)).take (ns.length - (q2 - 8) - (q1 - 8 + 1))) (((q1 - 8 : Nat) : Int) + 1) (c - 1 - (q1 - 8) - (q2 - 8)) (ns.length - (q2 - 8) - (q1 - 8 + 1))) (Nat.mul_le_mul (show _ ≤ 41 by lia) (show _ ≤ 40 by lia))
    rw [List.length_singleton]
    lia
  clear hG hLong
  refine s_local (by assumption) rfl fun _ _ => ?_
  refine x_for ?_
  refine e_call ?_
  refine e_blt (by assumption) (by assumption) (nm_range _) b_range (by decide) ?_
  refine w_type ?_
  refine a_cons ?_
  refine e_name (by assumption) rfl ?_
  refine a_nil ?_
  rename St _ _ _ _ _ _ => S
  refine k_range1 S fun r2 h₂₂ t4 u4 S => ?_
  have hr2 := S.cell (.head _)
  generalize hLO : [(Str.ofString "homes", Value.ref hm), (Str.ofString "own", .ref ol), (Str.ofString "at", .int (p : Int) t1), (Str.ofString "way", .int way t2)] = LO
  have S := (S.drop.names (by rw [← hLO]; exact nm_cons rfl (nm_cons rfl (nm_cons rfl (nm_cons rfl nm_nil)))) : St (h.hide a) Y3 [(a, o')] _ LO _)
  refine for1 R.hnd S hr2 (by lia) (by lia) (fun i Y' cs lo => cs = [(a, o')] ∧ lo = LO ∧ Le Y3 Y') ⟨rfl, rfl, Le.refl _⟩ ?turn ?done
  case done =>
    rintro Y' cs' lo' h' hle ⟨rfl, hlo, _⟩ S
    rw [hlo] at S
    refine x_ret ?_
    refine e_bool ?_
    exact H h' (fun q oq hq e => S.base _ _ (hide_get? hq e))
  case turn =>
    rintro i t5 Y' cs' lo' h' I oI hi2 hle ⟨rfl, hlo, hYY⟩ S
    rw [hlo] at S
    clear hlo
    have hic : i < c := by lia
    have hul : us.length = c := by rw [hus.length, List.length_map, List.length_range]
    obtain ⟨_, hv1, r, rs, rn, rfl, er, hir⟩ := hT.2 i hic
    have hir : IntsAre rs (G (i : Int)) := hir
    have hrl : rs.length ≤ 20000 := by rw [hir.length]; exact hGl i hic
    obtain ⟨tw, how⟩ := ints_at hus (j := i) (x := own i) (by rw [List.getElem?_map, List.getElem?_range hic]; rfl)
    refine s_cell (c := L + 4) S rfl rfl (by show L < L + 4; lia) fun h₂₃ S => ?_
    refine Tr.gen fun QQ hQQ => ?_
    refine x_assignM (fun env v h' => v = .bool (decide (way = 0 ∧ (i : Int) = (p : Int))) ∧ St (h.hide a) Y' [(I, oI), (a, o')] env ((Str.ofString "index", .int (i : Int) t5) :: LO) h') ?gone ?next
    case gone =>
      subst hLO
      refine e_and ?_
      refine e_cmp ?_
      refine e_name (by assumption) rfl ?_
      refine e_int fun _ => ?_
      refine c_eq ?_
      refine t_bool ?_
      refine ⟨fun hx => ?_, fun hx => ?_⟩
      · have hx := of_decide_eq_true hx
        refine e_one ?_
        refine e_cmp ?_
        refine e_name (by assumption) rfl ?_
        refine e_name (by assumption) rfl ?_
        refine c_eq ?_
        exact ⟨by simp [hx], S⟩
      · have hx := of_decide_eq_false hx
        exact ⟨by simp [hx], S⟩
    rintro _ h₂₄ ⟨rfl, S⟩
    refine s_local (by assumption) rfl fun _ _ => ?_
    rename St _ _ _ _ _ _ => S
    refine x_ifF (fun env h' => St (h.hide a) Y' [(I, oI), (a, o')] env ((Str.ofString "is_gone", .bool (decide (way = 0 ∧ (i : Int) = (p : Int)))) :: (Str.ofString "index", .int (i : Int) t5) :: LO) h') ?t1 ?k1
    case t1 =>
      intro Q hQ
      subst hLO
      by_cases hg : way = 0 ∧ (i : Int) = (p : Int)
      · have hE := (hOk i hic).1 hg
        rw [hE] at hir
        have hrs : rs = [] := List.length_eq_zero_iff.mp hir.length
        refine t_or ?_
        refine t_and ?_
        refine t_plain ?_
        refine e_name (by assumption) rfl ?_
        refine t_bool ?_
        refine ⟨fun _ => ?_, fun e => absurd hg (of_decide_eq_false e)⟩
        refine t_and ?_
        refine t_cmp ?_
        refine e_sub ?_
        refine e_name (by assumption) rfl ?_
        refine e_name (by assumption) rfl ?_
        refine i_list (S.get (hYY _ _ e21)) (by lia) (by rw [Int.toNat_natCast]; exact hv1) (szle (k := 2000) (by rw [hT.1]; lia) (by decide)) ?_
        refine e_list ?_
        refine a_nil ?_
        refine n_list S (sz rfl) fun el h₂₅ S _ _ => ?_
        refine c_neE ?hu0 (S.get (hYY _ _ er)) (S.cell (.head _)) ?_
        case hu0 => with_reducible exact hu _
        refine t_bool ?_
        refine ⟨fun e => by rw [hrs] at e; exact absurd e (by decide), fun _ => ?_⟩
        refine ⟨fun e => (nomatch e), fun _ => ?_⟩
        refine t_or ?_
        refine t_and ?_
        refine t_not ?_
        refine t_plain ?_
        refine e_name (by assumption) rfl ?_
        refine t_bool ?_
        refine ⟨fun e => absurd e (by simp [hg]), fun _ => ?_⟩
        refine ⟨fun e => (nomatch e), fun _ => ?_⟩
        refine t_or_nil ?_
        exact hQ _ S.drop
      · have hO := (hOk i hic).2.1 hg
        refine t_or ?_
        refine t_and ?_
        refine t_plain ?_
        refine e_name (by assumption) rfl ?_
        refine t_bool ?_
        refine ⟨fun e => absurd (of_decide_eq_true e) hg, fun _ => ?_⟩
        refine ⟨fun e => (nomatch e), fun _ => ?_⟩
        refine t_or ?_
        refine t_and ?_
        refine t_not ?_
        refine t_plain ?_
        refine e_name (by assumption) rfl ?_
        refine t_bool ?_
        refine ⟨fun _ => ?_, fun e => absurd e (by simp [hg])⟩
        refine t_and ?_
        refine t_cmp ?_
        refine e_sub ?_
        refine e_name (by assumption) rfl ?_
        refine e_name (by assumption) rfl ?_
        refine i_list (S.get (hYY _ _ hol)) (by lia) (by rw [Int.toNat_natCast]; exact how) (szle (k := 2000) (by lia) (by decide)) ?_
        refine e_sub ?_
        refine e_name (by assumption) rfl ?_
        refine e_name (by assumption) rfl ?_
        refine i_list (S.get (hYY _ _ e21)) (by lia) (by rw [Int.toNat_natCast]; exact hv1) (szle (k := 2000) (by rw [hT.1]; lia) (by decide)) ?_
        refine c_notIn (S.get (hYY _ _ er)) hir ?_
        have hany : ((G i).any (· == own i)) = true := List.any_eq_true.mpr ⟨_, hO, beq_self_eq_true _⟩
        rw [hany]
        refine t_bool ?_
        refine ⟨fun e => (nomatch e), fun _ => ?_⟩
        refine ⟨fun e => (nomatch e), fun _ => ?_⟩
        refine t_or_nil ?_
        exact hQ _ S
    case k1 =>
      intro h₂₆ S
      refine x_ifF (fun env h' => ∃ Y5, Le Y' Y5 ∧ St (h.hide a) Y5 [(I, oI), (a, o')] env LO h') ?t2 ?k2
      case k2 =>
        rintro h₂₇ ⟨Y5, hY5, S⟩
        refine x_nil ?_
        exact hQQ _ _ ⟨_, _, _, S, hY5, rfl, rfl, hYY.trans hY5⟩
      intro Q hQ
      subst hLO
      refine t_cmp ?_
      refine e_comp (cl := [(Str.ofString "way", L + 1), (Str.ofString "own", L + 3), (Str.ofString "index", L + 4), (Str.ofString "at", L + 2)]) rfl rfl (by decide) ?_
      refine e_sub ?_
      refine e_name (by assumption) rfl ?_
      refine e_name (by assumption) rfl ?_
      refine i_list (S.get (hYY _ _ e21)) (by lia) (by rw [Int.toNat_natCast]; exact hv1) (szle (k := 2000) (by rw [hT.1]; lia) (by decide)) ?_
      have hrow := S.get (hYY _ _ er)
      have hown := S.get (hYY _ _ hol)
      refine in_clist (lc := [(Str.ofString "way", .int way t2), (Str.ofString "own", .ref ol), (Str.ofString "index", .int (i : Int) t5), (Str.ofString "at", .int (p : Int) t1)]) R.hnd S hrow (szle (k := 20000) hrl (by decide)) ?hcl rfl ?hlc
        (fun i Y cs us => cs = [] ∧ us = []) ⟨rfl, rfl⟩ ?turn2 ?done2
      case hcl =>
        intro q hq
        simp only [List.mem_cons, List.not_mem_nil, or_false] at hq
        rcases hq with rfl | rfl | rfl | rfl <;> exact ⟨rfl, rfl⟩
      case hlc =>
        intro C q hq
        simp only [List.mem_cons, List.not_mem_nil, or_false] at hq
        rcases hq with rfl | rfl | rfl | rfl <;> exact ⟨rfl, rfl, rfl, rfl⟩
      case turn2 =>
        rintro j v Y4 cs' us4 c4 Cc D h₃ I2 oI2 hv ⟨rfl, rfl⟩ S
        obtain ⟨x, tx, rfl, hxm⟩ := ints_mem hir hv
        have hx := (hOk i hic).2.2 x hxm
        refine s_local (by assumption) rfl fun _ _ => ?_
        refine Tr.gen fun Q hQ => ?_
        refine ts_one ?_
        refine t_and ?_
        refine t_cmp ?_
        refine e_name (by assumption) rfl ?_
        refine e_sub ?_
        refine e_name (by assumption) rfl ?_
        refine e_name (by assumption) rfl ?_
        rename St _ _ _ _ _ _ => S
        refine i_list (S.base _ _ hown) (by lia) (by rw [Int.toNat_natCast]; exact how) (szle (k := 2000) (by lia) (by decide)) ?_
        refine c_ne ?_
        refine t_bool ?_
        by_cases hx0 : x = own i
        · refine ⟨fun e => absurd e (by simp [hx0]), fun _ => ?_⟩
          refine hQ _ _ ⟨fun e => (nomatch e), fun _ => ?_⟩
          exact ⟨_, _, _, S, nm_cons rfl (nm_cons rfl (nm_cons rfl (nm_cons rfl nm_nil))), Le.refl _, rfl, rfl⟩
        · obtain ⟨hx1, hx2⟩ := hx.resolve_left hx0
          refine ⟨fun _ => ?_, fun e => absurd e (by simp [hx0])⟩
          refine t_and ?_
          refine t_or ?_
          refine t_cmp ?_
          refine e_name (by assumption) rfl ?_
          refine e_int fun _ => ?_
          refine c_ne ?_
          refine t_bool ?_
          refine ⟨fun e => absurd e (by simp [hx1]), fun _ => ?_⟩
          refine t_or ?_
          refine t_cmp ?_
          refine e_name (by assumption) rfl ?_
          refine e_name (by assumption) rfl ?_
          refine c_ne ?_
          refine t_bool ?_
          refine ⟨fun e => absurd e (by simp [hx2]), fun _ => ?_⟩
          refine t_or_nil ?_
          refine ⟨fun e => (nomatch e), fun _ => ?_⟩
          refine hQ _ _ ⟨fun e => (nomatch e), fun _ => ?_⟩
          exact ⟨_, _, _, S, nm_cons rfl (nm_cons rfl (nm_cons rfl (nm_cons rfl nm_nil))), Le.refl _, rfl, rfl⟩
      case done2 =>
        rintro Y1 cs' us4 D c4 Cc lo' h₃ tk' ⟨rfl, rfl⟩ S'
        refine done_none S' fun h₄ F => ?_
        obtain ⟨S, hY1, hY2⟩ := S.join F
        refine e_list ?_
        refine a_nil ?_
        refine n_list S (sz rfl) fun el h₂₈ S _ _ => ?_
        refine c_neE ?hu0 (S.cell (.tail _ (.head _))) (S.cell (.head _)) ?_
        case hu0 => with_reducible exact hu _
        refine t_bool ?_
        exact hQ _ ⟨_, hY1, S.sel [2, 3] (by decide) |>.names (nm_cons rfl (nm_cons rfl (nm_cons rfl (nm_cons rfl nm_nil))))⟩
end
end
section -- F12
set_option maxRecDepth 100000
theorem cells_at {cm : Str → Option Value} {h h₁ : Heap} {L : Addr} {x : Str} {c : Addr} : ∀ {l : List (Str × Addr)} {ns : List (Addr × Obj)}, CellsAre cm l ns → News h L h₁ ns → l.lookup x = some c → ∃ v, h₁.IsCell c v
  | _, _, .nil, _, e => nomatch e
  | (y, d) :: r, _, .cons q X, N, e => by
    rw [List.lookup_cons] at e
    split at e
    · cases e; exact ⟨_, _, (N _ (.head _)).1, q⟩
    · exact cells_at X (fun p hp => N p (.tail _ hp)) e
/-- the law's own frame, as its caller has laid it -/
theorem st_top {h h₁ : Heap} {qual : Str} {scope : Scope} {fa : Addr} {cdv : Value} {binds : List (Str × Value)} {news : List (Addr × Obj)} {cm : Str → Option Value} (hk : scope.kind = .function)
    (F : Fr h h.objs.size h₁ (bindL (envOfC qual scope h.objs.size fa cdv).kindOf binds fun _ => none)) (N : News h h.objs.size h₁ news) (X : CellsAre cm (cellsFrom (h.objs.size + 1) scope.names []) news)
    (hloc : ∀ p ∈ binds, (envOfC qual scope h.objs.size fa cdv).kindOf p.1 = some .local) (hbnd : (binds.map (·.1)).Nodup) : St h (fun _ => none) [] (envOfC qual scope h.objs.size fa cdv) binds h₁ := by
  have hno : ∀ a, h.objs.size ≤ a → h.get? a = none := fun a ha => by
    cases q : h.get? a with
    | none => rfl
    | some o => exact absurd (Heap.lt_size q) (Nat.not_lt.mpr ha)
  have hge : ∀ y c, (cellsFrom (h.objs.size + 1) scope.names []).lookup y = some c → h.objs.size + 1 ≤ c := fun y c e => (cf_get _ _ _ e).elim id fun q => nomatch q
  refine ⟨⟨hk, rfl, rfl, fun a b c h1 h2 => cf_inj _ _ [] (fun _ _ q => nomatch q) (fun _ _ _ q => nomatch q) _ _ _ h1 h2, fun a c h1 => ?_⟩, F.keep, fun b o e => (nomatch e), fun p hp => (nomatch hp), .nil,
    ⟨_, F.ns, fun y v e => .inl ⟨hloc _ (mem_of_lookup e), bindL_of (hloc _ (mem_of_lookup e)) hbnd e⟩⟩, fun y c _ h2 => cells_at X N h2, fun a fr => .inr ⟨hno a ?_, rfl, fun p hp => nomatch hp⟩, hno⟩
  · exact Nat.ne_of_gt (hge a c h1)
  · rcases fr with rfl | ⟨y, _, hc⟩
    · exact Nat.le_refl _
    · have := hge y a hc; lia
theorem sp_tail {ms : List Int} (h : SpOk ms) (i : Nat) (hi : i + 1 < ms.length) : 0 ≤ tailF ms i ∧ tailF ms i < 8 := by
  obtain ⟨rest, rfl, hr⟩ := h
  have hl : i < rest.length := by simpa using hi
  unfold tailF
  rw [List.getD_cons_succ, List.getD_eq_getElem?_getD, List.getElem?_eq_getElem hl]
  exact hr _ (List.getElem_mem hl)
theorem sp_len {ms : List Int} (h : SpOk ms) : 1 ≤ ms.length := by obtain ⟨rest, rfl, _⟩ := h; simp
theorem sp_whole {c : Nat} : SpOk (wholeL c) := ⟨_, rfl, fun v hv => by
  obtain ⟨p, _, rfl⟩ := List.mem_map.mp hv
  lia⟩
section
variable {w : World} {z : Shared} {A : Around} {h₀ : Heap} {Y : Gh} {cs : List (Addr × Obj)} {env : Env} {lo : List (Str × Value)} {h : Heap}
/-- what a comprehension over a hidden base has left -/
theorem St.joinH {a D : Addr} {o o' oD : Obj} {Y' : Gh} {h' : Heap} (S : St h₀ Y ((a, o) :: cs) env lo h) (F : Fz (h.hide a) Y' [(D, oD), (a, o')] h') : St h₀ Y ((D, oD) :: (a, o') :: cs) env lo h' := by
  have hne : D ≠ a := (List.pairwise_cons.mp F.nd).1 _ (.head _)
  have e1 := (F.cel _ (.head _))
  refine S.turnNew (fun q oq hq e => F.base _ _ (hide_get? hq e)) (F.cel _ (.tail _ (.head _))).1 (newIn_of e1.1 ?_)
  cases q : h.get? D with
  | none => rfl
  | some oq => have := e1.2.1; rw [hide_get? hne q] at this; cases this
theorem St.grown {h' : Heap} (S : St h₀ Y cs env lo h) (k : Keep h h') : ∃ Y', St h₀ Y' cs env lo h' ∧ Le Y Y' ∧ Le (newIn h h') Y' := ⟨_, (S.grow k).1, (S.grow k).2, le_uni_right _ _⟩
/-- the tables of the short case are the law's -/
theorem short_tab {Z : Gh} {ds : List Value} {ns : List Int} {c r1 r2 : Nat} (hn : 1 ≤ ns.length) (hc : c ≤ 9) (hA : FitA ns (min ns.length c) r1) (hB : FitB ns c (min ns.length c - 1 - (r1 - 8)) r2)
    (hT : TabIs Z ds (fun i => grp (homesL ns c (r1 - 8) (r2 - 8)) i) c) : TabIs Z ds (dueRow (tailF ns) (ns.length - 1) (c - 1) ns.length) c := by
  have h1 := hA.2.1
  have h2 := hB.2.1
  rw [show r1 - 8 = 0 by lia, show r2 - 8 = 0 by lia] at hT
  exact hT.congr rfl fun i hi => short_eq hn hi
end
theorem top_go {w : World} {A : Around} {s₁ : Shared} {t : Sem Flow} {h₁ : Heap} {tk : Nat} {Q : Flow → Shared → Prop} {E : Value → Shared → Prop} (H : Tr w s₁ A t h₁ fun f h' => f = .ret (.bool true) ∧ Keep s₁.heap h')
    (K : ∀ h' tk', Keep s₁.heap h' → Q (.ret (.bool true)) (Sh s₁ h' tk')) : wpAny (model PG w) A t Q E { heap := h₁, gens := s₁.gens, drawn := s₁.drawn, toks := tk, os := s₁.os } :=
  wpAny_mono (H tk) (fun f s' ⟨h', tk', e, e2, kp⟩ => by rw [e, e2]; exact K h' tk' kp) fun _ _ e => e.elim
theorem top_base {w : World} {A : Around} {s₁ : Shared} {body : List Stmt} {h₁ : Heap} {q : Str} {sc : Scope} {fa : Addr} {cd : Value} {lo : List (Str × Value)} {a : Addr} {xs : Array Value} (S : St s₁.heap (fun _ => none) [] (envOfC q sc s₁.heap.objs.size fa cd) lo h₁) (C : Cx w s₁.heap) (ha : s₁.heap.IsList a xs)
    (H : ∀ hb L, St hb (fun _ => none) [] (envOfC q sc L fa cd) lo h₁ → Cx w hb → hb.IsList a xs → Tr w s₁ (A.deeper (envOfC q sc L fa cd)) (execs body (envOfC q sc L fa cd)) h₁ fun f h' => f = .ret (.bool true) ∧ Keep hb h') :
    Tr w s₁ (A.deeper (envOfC q sc s₁.heap.objs.size fa cd)) (execs body (envOfC q sc s₁.heap.objs.size fa cd)) h₁ fun f h' => f = .ret (.bool true) ∧ Keep s₁.heap h' := H _ _ S C ha
set_option maxHeartbeats 8000000 in
theorem cw0 : PySem.Challenge.rw_sy0065_01.Holds := by
  refine Mine.hd ?_
  k_go0
  rename Fr _ _ _ _ => F
  rename News _ _ _ _ => N0
  rename CellsAre _ _ _ => X0
  rename Frag.In _ _ => KX
  rename Top _ _ _ _ _ _ => T
  rename Heap.IsList _ _ _ => ha
  rename IntsAre _ _ => hi
  rename ¬ _ => hcond
  have S := st_top (binds := [(Str.ofString "script", .ref _)]) rfl F N0 X0 (fun p hp => by rw [List.mem_singleton.mp hp]; rfl) (by simp only [List.map_cons, List.map_nil]; decide)
  have C : Cx _ _ := ⟨KX, _, _, _, _, topRead_of T⟩
  have R : Room callerA (0 + 7) := ⟨rfl, by decide, by decide⟩
  have hsz := hi.length
  refine top_go ?walk ?post
  case post =>
    intro h' tk' kp
    refine ⟨.inl ⟨.bool true, .bool true, [], rfl, raisesW_false ?_, .bool true, ?_, unshared_nil⟩, kp, rfl, by assumption⟩
    · wrow_none_raised
    · wrow_post
  dsimp only
  refine top_base S C ha ?_
  clear S C ha
  intro hb L S C ha
  have hu1 : ∀ env : Env, (callerA.deeper env).units + 1 < cLine := fun env => by show 4 + 3 + 1 < _; decide
  have hu : ∀ env : Env, (callerA.deeper env).units < cLine := fun env => by show 4 + 3 < _; decide
  have R6 : ∀ env : Env, Room (callerA.deeper env) 6 := fun env => R.deeper
  refine x_assign ?_
  refine e_call ?_
  refine e_glob (by assumption) (by assumption) (nm_law_abacus _) ?_
  refine w_fun1 (f_73 _) (by assumption) ?_
  refine a_cons ?_
  refine e_name (by assumption) rfl ?_
  refine a_nil ?_
  rename St _ _ _ _ _ _ => S
  refine ⟨⟨_, _, _, S⟩, law_abacus_spec (k := 5) (C.keeps S.base) (R6 _) (keepsL S.base ha) hi (by lia) fun h₂ ab x y t u k2 e2 hy0 hy1 => ?_⟩
  have S := S.adopt k2 e2
  have hAb : Ab (lst [.int x t, .int y u] 0) := ⟨x, t, y, u, 0, rfl, hy0, hy1⟩
  generalize lst [.int x t, .int y u] 0 = o0 at S hAb
  clear k2 e2
  refine s_cell (c := L + 1) S rfl rfl (Nat.lt_succ_self _) fun h₂ S => ?_
  refine x_assign ?_
  refine e_bin ?_
  refine e_int fun _ => ?_
  refine e_call ?_
  refine e_glob (by assumption) (by assumption) (nm_law_bead _) ?_
  refine w_fun1 (f_80 _) (by assumption) ?_
  refine a_cons ?_
  refine e_name (by assumption) rfl ?_
  refine a_cons ?_
  refine e_int fun _ => ?_
  refine a_nil ?_
  refine ⟨⟨_, _, _, S⟩, k_bead S C (R6 _) hAb (by decide) (by decide) fun h₃ o1 cc tc hAb S hc0 hc1 => ?_⟩
  refine o_add fun _ => ?_
  refine s_local (by assumption) rfl fun _ _ => ?_
  refine x_assign ?_
  refine e_call ?_
  refine e_glob (by assumption) (by assumption) (nm_law_spoilt _) ?_
  refine w_fun1 (f_87 _) (by assumption) ?_
  refine a_cons ?_
  refine e_name (by assumption) rfl ?_
  refine a_cons ?_
  refine e_call ?_
  refine e_glob (by assumption) (by assumption) (nm_law_whole _) ?_
  refine w_fun1 (f_102 _) (by assumption) ?_
  refine a_cons ?_
  refine e_name (by assumption) rfl ?_
  refine a_nil ?_
  rename St _ _ _ _ _ _ => S
  obtain ⟨c, hc⟩ : ∃ c : Nat, 1 + cc = (c : Int) := ⟨(1 + cc).toNat, by lia⟩
  rw [hc] at S ⊢
  have hc1 : 1 ≤ c := by lia
  have hc9 : c ≤ 9 := by lia
  refine ⟨⟨_, _, _, S⟩, law_whole_spec (k := 5) (C.keeps S.base) (R6 _) (by lia) (by lia) fun h₃ wl vs k3 e3 hiw => ?_⟩
  have S := (S.adopt k3 e3).swap
  clear k3 e3
  refine a_cons ?_
  refine e_call ?_
  refine e_glob (by assumption) (by assumption) (nm_law_bead _) ?_
  refine w_fun1 (f_80 _) (by assumption) ?_
  refine a_cons ?_
  refine e_name (by assumption) rfl ?_
  refine a_cons ?_
  refine e_int fun _ => ?_
  refine a_nil ?_
  refine ⟨⟨_, _, _, S⟩, k_bead S C (R6 _) hAb (by decide) (by decide) fun h₄ o2 mm tm hAb S hm0 hm1 => ?_⟩
  obtain ⟨m, hm⟩ : ∃ m : Nat, mm = (m : Int) := ⟨mm.toNat, by lia⟩
  subst hm
  refine a_nil ?_
  have hne : wl ≠ ab := fun q => (List.pairwise_cons.mp S.nd).1 _ (.head _) q.symm
  have hab := (S.cel _ (.head _)).2.1
  refine ⟨⟨_, _, _, S⟩, law_spoilt_spec (k := 4) (C.keeps (hideKeep S.base hab)) (R6 _) (S.cell (.head _)) hAb (hide_get? hne (S.cell (.tail _ (.head _)))) hiw sp_whole (by rw [whole_len hc1]; lia) (by lia) fun h₅ nl o3 us ms cn kb ea hAb en hiu hsp hml => ?_⟩
  rw [whole_len hc1] at hml
  have hml1 := sp_len hsp
  have S := S.turnNew kb ea en
  have S := S.sel [0, 1] (by decide)
  clear kb ea en
  refine s_local (by assumption) rfl fun _ _ => ?_
  rename St _ _ _ _ _ _ => S
  have hul : us.length = ms.length := hiu.length
  refine x_ifF (fun env h' => ∃ Y, St hb Y [(nl, lst us cn), (ab, o3)] env [(Str.ofString "abacus", .ref ab)] h') ?if1 ?rest1
  case if1 =>
    intro Q hQ
    refine t_cmp ?_
    refine e_call ?_
    refine e_glob (by assumption) (by assumption) (nm_homes_of _) ?_
    refine w_fun1 (f_66 _) (by assumption) ?_
    refine a_cons ?_
    refine e_name (by assumption) rfl ?_
    refine a_cons ?_
    refine e_name (by assumption) rfl ?_
    refine a_nil ?_
    refine ⟨⟨_, _, _, S⟩, homes_of_spec (k := 2) (C.keeps S.base) (R6 _) (S.cell (.head _)) hiu (by lia) hml1 hc1 (by lia) fun h₆ r1 ds c1 q1 q2 k6 e6 hA hB hT => ?_⟩
    obtain ⟨Y1, S, hY1, hn1⟩ := S.grown k6
    have e6 := hn1 _ _ e6
    have hT := short_tab hml1 hc9 hA hB (hT.mono hn1)
    refine e_call ?_
    refine e_glob (by assumption) (by assumption) (nm_law_due _) ?_
    refine w_fun1 (f_97 _) (by assumption) ?_
    refine a_cons ?_
    refine e_name (by assumption) rfl ?_
    refine a_cons ?_
    refine e_name (by assumption) rfl ?_
    refine a_nil ?_
    refine ⟨⟨_, _, _, S⟩, law_due_spec (k := 4) (C.keeps S.base) (R6 _) (S.cell (.head _)) hiu hml1 (by lia) hc1 hc9 (sp_tail hsp) fun h₇ r2 es c2 k7 e7 hT2 => ?_⟩
    obtain ⟨Y2, S, hY2, hn2⟩ := S.grown k7
    have e7 := hn2 _ _ e7
    have hT2 := hT2.mono hn2
    have e6 := hY2 _ _ e6
    have hT := hT.mono hY2
    refine c_tabsN ?hu0 (S.get e6) (S.get e7) (hT.mono S.leG) (hT2.mono S.leG) ?_
    case hu0 => with_reducible exact hu1 _
    refine t_bool ?_
    exact hQ _ ⟨_, S.names (nm_cons rfl nm_nil)⟩
  case rest1 =>
  rintro h₈ ⟨Y, S⟩
  clear hiu hsp hml hml1 hul hc1 hc9 hm0 hm1
  have S := S.drop
  refine x_assign2 (Str.ofString "some") (Str.ofString "few") R.hnd ?_
  refine e_tuple ?_
  refine a_cons ?_
  refine e_bin ?_
  refine e_list ?_
  refine a_cons ?_
  refine e_un ?_
  refine e_int fun _ => ?_
  refine o_neg fun _ => ?_
  refine a_nil ?_
  refine n_list S (sz rfl) fun l1 h₉ S _ _ => ?_
  refine e_comp (cl := [(Str.ofString "abacus", L + 1)]) rfl rfl (by decide) ?_
  have S := S.swap
  refine e_call ?_
  refine e_blt (by assumption) (by assumption) (nm_range _) b_range (by decide) ?_
  refine w_type ?_
  refine a_cons ?_
  refine e_call ?_
  refine e_glob (by assumption) (by assumption) (nm_law_bead _) ?_
  refine w_fun1 (f_80 _) (by assumption) ?_
  refine a_cons ?_
  refine e_name (by assumption) rfl ?_
  refine a_cons ?_
  refine e_int fun _ => ?_
  refine a_nil ?_
  refine ⟨⟨_, _, _, S⟩, k_bead S C (R6 _) hAb (by decide) (by decide) fun h₁₀ o4 nn tn hAb S hn0 hn1 => ?_⟩
  refine a_nil ?_
  refine k_range1 S fun rr h₁₁ t1 u1 S => ?_
  have hab := (S.cel _ (.tail _ (.head _))).2.1
  have Cg : Cx _ _ := C.keeps (hideKeep S.base hab)
  refine in_crange (g := h₁₁.hide ab) (mu := [(ab, o4)]) (lc := [(Str.ofString "abacus", .ref ab)]) R.hnd S (S.cell (.head _)) (by lia) (by lia) Hid.one (fun p hp => by rw [List.mem_singleton.mp hp]; exact .tail _ (.head _)) (List.pairwise_singleton _ _) ?hcl rfl ?hlc
    (fun i Y cs us => ∃ o' ns, cs = [(ab, o')] ∧ Ab o' ∧ IntsAre us ns ∧ ns.length = i ∧ ∀ v ∈ ns, 0 ≤ v ∧ v < 8) ⟨o4, [], rfl, hAb, .nil, rfl, fun _ h => nomatch h⟩ ?turn ?done
  case hcl => intro q hq; rw [List.mem_singleton.mp hq]; exact ⟨rfl, rfl⟩
  case hlc => intro C q hq; rw [List.mem_singleton.mp hq]; exact ⟨rfl, rfl, rfl, rfl⟩
  case turn =>
    rintro i t2 Y' cs' us c Cc D h₁₂ I oI hi' ⟨o', ns, rfl, hAb, hus, hnl, hnr⟩ S
    refine s_local (by assumption) rfl fun _ _ => ?_
    refine ts_nil ⟨fun _ => ?_, fun e => nomatch e⟩
    rename St _ _ _ _ _ _ => S
    have S := (S.sel [2, 0, 1] (by decide) : St (h₁₁.hide ab) Y' [(ab, o'), (I, oI), (D, lst us c)] _ _ _)
    refine e_call ?_
    refine e_glob (by assumption) (by assumption) (nm_law_bead _) ?_
    refine w_fun1 (f_80 _) (by assumption) ?_
    refine a_cons ?_
    refine e_name (by assumption) rfl ?_
    refine a_cons ?_
    refine e_int fun _ => ?_
    refine a_nil ?_
    refine ⟨⟨_, _, _, S⟩, k_bead S Cg (R6 _) hAb (by decide) (by decide) fun h₁₃ o5 x tx hAb S hx0 hx1 => ?_⟩
    refine ⟨Y', [(ab, o5)], _, S.sel [1, 2, 0] (by decide), nm_cons rfl nm_nil, Le.refl _, o5, ns ++ [x], rfl, hAb, ints_app hus (.cons _ _ .nil), by rw [List.length_append, hnl]; rfl, fun v hv => ?_⟩
    rcases List.mem_append.mp hv with hv | hv
    · exact hnr v hv
    · rw [List.mem_singleton.mp hv]; exact ⟨hx0, hx1⟩
  case done =>
    rintro Y' cs' us D c' Cc lo' h₁₂ tk' ⟨o', ns, rfl, hAb, hus, hnl, hnr⟩ S'
    refine done_none S' fun h₁₄ F => ?_
    have S := (S.sel [1, 2] (by decide) : St hb _ [(ab, o4), (l1, lst _ 0)] _ _ _)
    have S := S.joinH F
    clear S' F Cg
    have hvl : us.length = nn.toNat := by rw [hus.length, hnl]
    refine o_addL S (S.cell (.tail _ (.tail _ (.head _)))) (S.cell (.head _)) (by rw [hvl, sizeLine_eq, List.length_singleton]; lia) fun l2 h₁₅ S _ _ => ?_
    have S := (S.sel [2, 0] (by decide) : St hb _ [(ab, o'), (l2, lst _ 0)] _ _ _)
    refine a_cons ?_
    refine e_bin ?_
    refine e_int fun _ => ?_
    refine e_call ?_
    refine e_glob (by assumption) (by assumption) (nm_law_bead _) ?_
    refine w_fun1 (f_80 _) (by assumption) ?_
    refine a_cons ?_
    refine e_name (by assumption) rfl ?_
    refine a_cons ?_
    refine e_int fun _ => ?_
    refine a_nil ?_
    refine ⟨⟨_, _, _, S⟩, k_bead S C (R6 _) hAb (by decide) (by decide) fun h₁₆ o5 ff tf hAb S hf0 hf1 => ?_⟩
    refine o_add fun _ => ?_
    refine a_nil ?_
    refine n_tuple S (sz rfl) fun tt h₁₇ S _ _ => ?_
    obtain ⟨f, hf⟩ : ∃ f : Nat, 1 + ff = (f : Int) := ⟨(1 + ff).toNat, by lia⟩
    rw [hf] at S
    refine ⟨tt, _, _, _, rfl, S.cell (.head _), fun h₁₈ k18 => ?_⟩
    have S := S.drop.keep k18
    refine s_local (by assumption) rfl fun _ _ => ?_
    refine s_local (by assumption) rfl fun _ _ => ?_
    refine x_ret ?_
    refine e_and ?_
    refine e_cmp ?_
    refine e_call ?_
    refine e_glob (by assumption) (by assumption) (nm_homes_of _) ?_
    refine w_fun1 (f_66 _) (by assumption) ?_
    refine a_cons ?_
    refine e_name (by assumption) rfl ?_
    refine a_cons ?_
    refine e_name (by assumption) rfl ?_
    refine a_nil ?_
    rename St _ _ _ _ _ _ => S
    have hsp : SpOk (-1 :: ns) := ⟨ns, rfl, hnr⟩
    have hsl : (-1 :: ns).length ≤ 6 := by rw [List.length_cons, hnl]; lia
    have hf1 : 1 ≤ f := by lia
    have hf9 : f ≤ 9 := by lia
    have S := S.swap
    have hiv : ∀ t, IntsAre ([Value.int (-1) t] ++ us) (-1 :: ns) := fun t => .cons _ _ hus
    have S := S.sel [0, 1] (by decide)
    refine ⟨⟨_, _, _, S⟩, homes_of_spec (k := 2) (C.keeps S.base) (R6 _) (S.cell (.head _)) (hiv _) (by lia) (sp_len hsp) hf1 (by lia) fun h₂₀ r1 ds c1 q1 q2 k6 e6 hA hB hT => ?_⟩
    obtain ⟨Y1, S, hY1, hn1⟩ := S.grown k6
    have e6 := hn1 _ _ e6
    have hT := short_tab (sp_len hsp) hf9 hA hB (hT.mono hn1)
    refine e_call ?_
    refine e_glob (by assumption) (by assumption) (nm_law_due _) ?_
    refine w_fun1 (f_97 _) (by assumption) ?_
    refine a_cons ?_
    refine e_name (by assumption) rfl ?_
    refine a_cons ?_
    refine e_name (by assumption) rfl ?_
    refine a_nil ?_
    refine ⟨⟨_, _, _, S⟩, law_due_spec (k := 4) (C.keeps S.base) (R6 _) (S.cell (.head _)) (hiv _) (sp_len hsp) (by lia) hf1 hf9 (sp_tail hsp) fun h₂₁ r2 es c2 k7 e7 hT2 => ?_⟩
    obtain ⟨Y2, S, hY2, hn2⟩ := S.grown k7
    have e7 := hn2 _ _ e7
    have hT2 := hT2.mono hn2
    have e6 := hY2 _ _ e6
    have hT := hT.mono hY2
    refine c_tabsE ?hu0 (S.get e6) (S.get e7) (hT.mono S.leG) (hT2.mono S.leG) ?_
    case hu0 => with_reducible exact hu1 _
    refine t_bool ?_
    refine ⟨fun _ => ?_, fun e => nomatch e⟩
    have hab := (S.cel _ (.tail _ (.head _))).2.1
    refine e_one ?_
    refine e_call ?_
    refine e_glob (by assumption) (by assumption) (nm_law_long_right _) ?_
    refine w_fun1 (f_107 _) (by assumption) ?_
    refine a_cons ?_
    refine e_name (by assumption) rfl ?_
    refine a_nil ?_
    refine ⟨⟨_, _, _, S⟩, law_long_spec (k := 1) (C.keeps (hideKeep S.base hab)) (R6 _) (S.cell (.tail _ (.head _))) hAb fun h' kb => ?_⟩
    exact ⟨rfl, fun b o e => kb b o (fun q => by rw [q, hab] at e; cases e) (S.base b o e)⟩
end
end Mine
theorem PySem.Challenge.cw_sy0065_01_holds : PySem.Challenge.rw_sy0065_01.Holds := by
  exact Mine.cw0
