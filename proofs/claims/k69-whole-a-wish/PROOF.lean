import PyProof.Rows.All
import Wide.All
import OpenK.AllK
import Wide.FinOn
import HandS.Base
import HandS.Call
import HandS.Comp
import HandS.Deep
import HandS.Defaults
import HandS.DictComp
import HandS.EndTab
import HandS.Ends
import HandS.Evl
import HandS.Finally
import HandS.Head0
import HandS.Head1
import HandS.Head2
import HandS.HeadEnd
import HandS.HeadHook1
import HandS.HeadHook2
import HandS.HeadHook3
import HandS.HeadHook4
import HandS.HeadWalk
import HandS.IsInst
import HandS.Iter
import HandS.Lambda
import HandS.List
import HandS.MakeKwOnly
import HandS.More
import HandS.Nested
import HandS.RaiseMore
import HandS.SetFor
import HandS.Slots
import HandS.SortKw
import HandS.Style
import HandS.Text
import HandS.TupAny
import HandS.TupMul
import HandS.Words
import HandS.WordsDict
import HandS.WordsExc
import HandS.Zip
import KE.DataCmp
import KE.DataEq
import KE.DataMinKey
import KE.GoesEnum
import KE.KDictCopyH
import KE.KDictKeyed
import KE.KDictList
import KE.KEqDict
import KE.KNestM
import KE.KStateDown
import KE.KUnpackStar
import KE.LtData
import KE.SortCalls
import KE.SortKeyHeap
import KE.SortKeyed
import KE.SortLaws
import OpenK.KOps
import PySem.Challenge.RW_findquestion_k69_whole_a_wish_parts_the
set_option Elab.async false
set_option linter.all false
set_option maxRecDepth 100000
set_option maxHeartbeats 0
/-! FqT: the text by places. -/
namespace Fq
open PySem PySem.Spec PyProof.Rows L2
def top (i : Nat) : Stmt := PySem.Challenge.pw_findquestion_k69_whole_a_wish_parts_the.main.body.getD i (.Pass ⟨0, 0, 0, 0⟩)
abbrev s_is_whole : Stmt := top 30
abbrev s_is_word : Stmt := top 31
abbrev s_is_value : Stmt := top 33
abbrev s_is_row : Stmt := top 34
abbrev s_value_key : Stmt := top 35
abbrev s_row_key : Stmt := top 36
abbrev s_value_less : Stmt := top 37
abbrev s_row_less : Stmt := top 38
abbrev s_risen : Stmt := top 39
abbrev s_values_risen : Stmt := top 40
abbrev s_are_risen : Stmt := top 41
abbrev s_are_rows : Stmt := top 43
abbrev s_is_table : Stmt := top 44
abbrev s_values_in : Stmt := top 45
abbrev s_is_book : Stmt := top 46
abbrev s_heads : Stmt := top 47
abbrev s_are_books : Stmt := top 48
abbrev s_check_number : Stmt := top 49
abbrev s_table_at : Stmt := top 50
abbrev s_wish_key : Stmt := top 56
abbrev s_fits_answer : Stmt := top 57
abbrev s_candidates : Stmt := top 59
abbrev s_counts_over : Stmt := top 60
abbrev s_table_of_asks : Stmt := top 61
abbrev s_worse_side : Stmt := top 62
abbrev s_next_ask : Stmt := top 63
abbrev s_named_of : Stmt := top 65
abbrev s_deeds_of : Stmt := top 66
abbrev s_Field_init : Stmt := inClass (top 67) 0
abbrev s_Field_len : Stmt := inClass (top 67) 2
abbrev s_names_of : Stmt := top 68
abbrev s_table_columns : Stmt := top 69
abbrev s_rows_of : Stmt := top 70
abbrev s_picked_rows : Stmt := top 72
abbrev s_done_on_one : Stmt := top 76
abbrev s_done_on : Stmt := top 77
abbrev s_is_column : Stmt := top 81
abbrev s_are_picked : Stmt := top 82
abbrev s_is_named : Stmt := top 83
abbrev s_columns_by_one : Stmt := top 84
abbrev s_looked : Stmt := top 88
abbrev s_is_question : Stmt := top 89
abbrev s_check_question : Stmt := top 90
abbrev s_columns_of : Stmt := top 91
abbrev s_parts_of : Stmt := top 92
abbrev s_size_of : Stmt := top 93
abbrev s_given_text : Stmt := top 94
abbrev s_text_of : Stmt := top 95
abbrev s_rank : Stmt := top 96
abbrev s_rows_told : Stmt := top 99
abbrev s_answer : Stmt := top 100
abbrev s_picks : Stmt := top 102
abbrev s_moves_by_word : Stmt := top 103
abbrev s_moves_on_one : Stmt := top 104
abbrev s_lot_of : Stmt := top 107
abbrev s_lots_by_one : Stmt := top 108
abbrev s_key_of : Stmt := top 110
abbrev s_made_lots : Stmt := top 112
abbrev s_lot_rank : Stmt := top 113
abbrev s_further : Stmt := top 114
abbrev s_reach : Stmt := top 115
abbrev s_check_size : Stmt := top 117
abbrev s_stands_at : Stmt := top 118
abbrev s_with_wish : Stmt := top 119
abbrev s_without_wish : Stmt := top 120
abbrev s_State_init : Stmt := inClass (top 121) 0
abbrev s_check_place : Stmt := top 123
abbrev s_wishes_behind : Stmt := top 124
abbrev s_behind : Stmt := top 125
abbrev s_Seeker_init : Stmt := inClass (top 126) 0
abbrev s_Seeker_note : Stmt := inClass (top 126) 1
abbrev s_Seeker_step : Stmt := inClass (top 126) 2
abbrev s_Seeker_deed : Stmt := inClass (top 126) 3
abbrev s_Seeker_wish : Stmt := inClass (top 126) 4
abbrev s_Seeker_shun : Stmt := inClass (top 126) 5
abbrev s_Seeker_forget : Stmt := inClass (top 126) 6
abbrev s_Seeker_standing : Stmt := inClass (top 126) 16
abbrev s_Seeker_reached : Stmt := inClass (top 126) 17
abbrev s_Seeker_fitting : Stmt := inClass (top 126) 18
abbrev s_Seeker_least : Stmt := inClass (top 126) 19
abbrev s_Seeker_ask : Stmt := inClass (top 126) 20
abbrev s_law_take : Stmt := top 128
abbrev s_law_word : Stmt := top 129
abbrev s_law_pool : Stmt := top 130
abbrev s_law_sorted : Stmt := top 131
abbrev s_law_tables : Stmt := top 132
abbrev s_law_books : Stmt := top 133
abbrev s_law_small : Stmt := top 134
abbrev s_law_places : Stmt := top 135
abbrev s_law_having : Stmt := top 136
abbrev s_law_lacking : Stmt := top 137
abbrev s_law_parts : Stmt := top 138
abbrev s_law_is_best : Stmt := top 139
abbrev s_law : Stmt := top 140
end Fq
/-! FqA: what a piece of the text does, told at one state (EX, TX, AX, GO), whatever frame it runs in. -/
namespace Fq
open PySem PySem.Spec PyProof.Rows L2

/-- all that a piece of the text leans on: the run's constants, the slots' names, the scope, the room for calls -/
structure XI where
  P : Program
  w : World
  K : PySem.W.Frag
  mg : Str → Option Value
  base : Heap
  N : List Str
  sc : Scope
  k : Nat
  top : Str → Bool
  cd : Env → Prop

structure XOk (i : XI) (X : Cx) : Prop where
  prog : X.prog = i.P
  w : X.w = i.w
  K : X.K = i.K
  mg : X.mg = i.mg
  base : X.base = i.base
  N : X.N = i.N
  nd : i.N.Nodup
  sc : X.env.scope = i.sc
  calm : X.calm = true
  room : Room i.k X.A
  xe : X.xe = fun _ _ => False
  fn : ∀ x, i.top x = true → X.fn x = true
  cd : i.cd X.env

/-- the frame of a comprehension within -/
abbrev XI.blk (i : XI) (scope : Scope) : XI := { i with sc := relS scope i.sc, top := fun x => scope.names.lookup x == some .cell, cd := fun _ => True }
theorem XOk.blk {i : XI} {X : Cx} (ok : XOk i X) (scope : Scope) (s : Shared) (H : Hp) (C : Addr) (cl : List (Str × Addr)) (fp : List Addr) : XOk (i.blk scope) (X.blk s H scope (compEnvC scope cl C X.env) fp) where
  prog := ok.prog
  w := ok.w
  K := ok.K
  mg := ok.mg
  base := ok.base
  N := ok.N
  nd := ok.nd
  sc := by
    show relS scope X.env.scope = relS scope i.sc
    rw [ok.sc]
  calm := ok.calm
  room := ok.room
  xe := rfl
  fn := fun x h => h
  cd := trivial


/-! ### at a state -/
structure EX (i : XI) (e : Expr) (σ : L2.St) (H : Hp) (Q : VK) : Prop where of ::
  run : ∀ X, XOk i X → ∀ pins s, Inv X pins σ H s → wpAny (model X.prog X.w) X.A (eval e X.env) (EP X pins σ Q) X.xe s
structure TX (i : XI) (e : Expr) (σ : L2.St) (H : Hp) (Q : Bool → Hp → Prop) : Prop where of ::
  run : ∀ X, XOk i X → ∀ pins s, Inv X pins σ H s → wpAny (model X.prog X.w) X.A (isTrue e X.env (eval e X.env)) (TP X pins σ Q) X.xe s
structure WX (i : XI) (e : Expr) (σ : L2.St) (H : Hp) (Q : Bool → Hp → Prop) : Prop where of ::
  run : ∀ X, XOk i X → ∀ whole pins s, Inv X pins σ H s → wpAny (model X.prog X.w) X.A (isTrue e X.env whole) (TP X pins σ Q) X.xe s
structure AX (i : XI) (es : List Expr) (σ : L2.St) (H : Hp) (Q : List V → Hp → Prop) : Prop where of ::
  run : ∀ X, XOk i X → ∀ pos pins s, Inv X pins σ H s → wpAny (model X.prog X.w) X.A (spliced (backTo pos (starEach es X.env))) (AP X pins σ Q) X.xe s
structure KX (i : XI) (ks : List Keyword) (σ : L2.St) (H : Hp) (Q : List V → Hp → Prop) : Prop where of ::
  run : ∀ X, XOk i X → ∀ pos pins s, Inv X pins σ H s → wpAny (model X.prog X.w) X.A (evalAll ((backToKw pos (keywordEach ks X.env)).map (·.2))) (AP X pins σ Q) X.xe s
structure IX (i : XI) (es : List Expr) (σ : L2.St) (H : Hp) (Q : Bool → Hp → Prop) : Prop where of ::
  run : ∀ X, XOk i X → ∀ pins s, Inv X pins σ H s →
    wpAny (model X.prog X.w) X.A (forIn es true fun c r => if r = true then do let ok ← isTrue c X.env (eval c X.env); pure (ForInStep.yield ok) else pure (ForInStep.yield r)) (TP X pins σ Q) X.xe s
structure GO (i : XI) (sts : List Stmt) (D : Ends) (σ : L2.St) (H : Hp) : Prop where of ::
  run : ∀ X, XOk i X → ∀ pins s, Inv X pins σ H s → wpAny (model X.prog X.w) X.A (execs sts X.env) (SP X pins D) X.xe s

section
variable {i : XI} {X : Cx} {σ : L2.St} {H : Hp}
theorem EX.pe {e : Expr} (ok : XOk i X) : PE X e (EX i e) := ⟨fun pins s σ H Q I h => h.run X ok pins s I⟩
theorem TX.pt {e : Expr} (ok : XOk i X) : PT X e (TX i e) := ⟨fun pins s σ H Q I h => h.run X ok pins s I⟩
theorem WX.pw {e : Expr} (ok : XOk i X) : PW X e (WX i e) := ⟨fun wh pins s σ H Q I h => h.run X ok wh pins s I⟩
theorem AX.pa {es : List Expr} (ok : XOk i X) : PA X es (AX i es) := ⟨fun pos pins s σ H Q I h => h.run X ok pos pins s I⟩
theorem KX.pk {ks : List Keyword} (ok : XOk i X) : PK X ks (KX i ks) := ⟨fun pos pins s σ H Q I h => h.run X ok pos pins s I⟩
theorem IX.pts {es : List Expr} (ok : XOk i X) : PTs X es (IX i es) := ⟨fun pins s σ H Q I h => h.run X ok pins s I⟩
theorem GO.pss {sts : List Stmt} (ok : XOk i X) : PSs X sts (GO i sts) := ⟨fun pins s σ H D I h => h.run X ok pins s I⟩
theorem EX.mk {e : Expr} {T : TE} {Q : VK} (hT : ∀ X, XOk i X → PE X e T) (h : T σ H Q) : EX i e σ H Q := ⟨fun X ok pins s I => (hT X ok).run pins s σ H Q I h⟩
theorem TX.mk {e : Expr} {T : TT} {Q : Bool → Hp → Prop} (hT : ∀ X, XOk i X → PT X e T) (h : T σ H Q) : TX i e σ H Q := ⟨fun X ok pins s I => (hT X ok).run pins s σ H Q I h⟩
theorem WX.mk {e : Expr} {T : TT} {Q : Bool → Hp → Prop} (hT : ∀ X, XOk i X → PW X e T) (h : T σ H Q) : WX i e σ H Q := ⟨fun X ok wh pins s I => (hT X ok).run wh pins s σ H Q I h⟩
theorem AX.mk {es : List Expr} {T : TA} {Q : List V → Hp → Prop} (hT : ∀ X, XOk i X → PA X es T) (h : T σ H Q) : AX i es σ H Q := ⟨fun X ok pos pins s I => (hT X ok).run pos pins s σ H Q I h⟩
theorem KX.mk {ks : List Keyword} {T : TA} {Q : List V → Hp → Prop} (hT : ∀ X, XOk i X → PK X ks T) (h : T σ H Q) : KX i ks σ H Q := ⟨fun X ok pos pins s I => (hT X ok).run pos pins s σ H Q I h⟩
theorem IX.mk {es : List Expr} {T : TT} {Q : Bool → Hp → Prop} (hT : ∀ X, XOk i X → PTs X es T) (h : T σ H Q) : IX i es σ H Q := ⟨fun X ok pins s I => (hT X ok).run pins s σ H Q I h⟩
theorem GO.mk {sts : List Stmt} {T : TS} {D : Ends} (hT : ∀ X, XOk i X → PSs X sts T) (h : T D σ H) : GO i sts D σ H := ⟨fun X ok pins s I => (hT X ok).run pins s σ H D I h⟩
theorem EX.mono {e : Expr} {Q Q' : VK} (h : EX i e σ H Q) (hq : ∀ v H', Q v H' → Q' v H') : EX i e σ H Q' := ⟨fun X ok pins s I =>
  thn (h.run X ok pins s I) fun u s1 ⟨v, H1, I1, r1, q1⟩ => ⟨v, H1, I1, r1, hq v H1 q1⟩⟩
theorem TX.mono {e : Expr} {Q Q' : Bool → Hp → Prop} (h : TX i e σ H Q) (hq : ∀ v H', Q v H' → Q' v H') : TX i e σ H Q' := ⟨fun X ok pins s I =>
  thn (h.run X ok pins s I) fun u s1 ⟨H1, I1, q1⟩ => ⟨H1, I1, hq u H1 q1⟩⟩
theorem GO.mono {sts : List Stmt} {D D' : Ends} (h : GO i sts D σ H) (h1 : ∀ σ' H', D.nx σ' H' → D'.nx σ' H') (h2 : ∀ v H', D.rt v H' → D'.rt v H') (h3 : ∀ σ' H', D.bk σ' H' → D'.bk σ' H') (h4 : ∀ σ' H', D.ct σ' H' → D'.ct σ' H') : GO i sts D' σ H := ⟨fun X ok pins s I =>
  thn (h.run X ok pins s I) fun f s1 q => by
    cases f with
    | next => obtain ⟨σ1, H1, I1, q⟩ := q; exact ⟨σ1, H1, I1, h1 _ _ q⟩
    | brk => obtain ⟨σ1, H1, I1, q⟩ := q; exact ⟨σ1, H1, I1, h3 _ _ q⟩
    | cont => obtain ⟨σ1, H1, I1, q⟩ := q; exact ⟨σ1, H1, I1, h4 _ _ q⟩
    | ret u => obtain ⟨v, σ1, H1, I1, r, q⟩ := q; exact ⟨v, σ1, H1, I1, r, h2 _ _ q⟩⟩
end

def GlS (sc : Scope) (x : Str) : Prop := sc.names.lookup x = some .globalImplicit
section
variable {i : XI} {σ : L2.St} {H : Hp} {Q : VK} {a b e : Expr} {es : List Expr} {pos p2 : Pos}
/-! ### names, constants -/
theorem ex_var {x : Str} {v : V} (j : Nat) (hs : σ[j]? = some (some v)) (h : Q v H) (hN : i.N[j]? = some x := by rfl) (hv : Vis i.sc x := by first | exact Or.inl rfl | exact Or.inr (Or.inl rfl) | exact Or.inr (Or.inr rfl))
    (hd : (x == ("__debug__" : Str)) = false := by decide) (hcd : (x == ("__classdict__" : Str)) = false := by decide) : EX i (.Name x pos) σ H Q :=
  .mk (T := tVar j) (fun X ok => pe_var (by rw [ok.N]; exact hN) (by rw [ok.sc]; exact hv) hd hcd) ⟨v, hs, h⟩
theorem ex_int {n : Int} {j : Nat} (h : Q (.int n) H) : EX i (.Constant (.int n) j pos) σ H Q := .mk (fun _ _ => pe_int) h
theorem ex_bl {b : Bool} {j : Nat} (h : Q (.bl b) H) : EX i (.Constant (.bool b) j pos) σ H Q := .mk (fun _ _ => pe_bl) h
theorem ex_non {j : Nat} (h : Q .non H) : EX i (.Constant .none j pos) σ H Q := .mk (fun _ _ => pe_non) h
theorem ex_str {x : Str} {j : Nat} (h : Q (.str x) H) : EX i (.Constant (.str x) j pos) σ H Q := .mk (fun _ _ => pe_str) h
theorem XOk.gl {X : Cx} {x : Str} (ok : XOk i X) (h : GlS i.sc x) : Gl X x := by
  show X.env.scope.names.lookup x = _
  rw [ok.sc]
  exact h
theorem XOk.mgN {X : Cx} {x : Str} {o : Option Value} (ok : XOk i X) (h : i.mg x = o) : X.mg x = o := by
  rw [ok.mg]
  exact h
theorem ex_glob {x : Str} {u : Value} {v : V} (hg : GlS i.sc x) (hm : i.mg x = some u) (r : RelV v u) (h : Q v H) (hd : (x == ("__debug__" : Str)) = false := by decide) : EX i (.Name x pos) σ H Q :=
  .mk (T := tC v) (fun X ok => pe_glob (ok.gl hg) (ok.mgN hm) r hd) h
theorem ex_bltn {x : Str} {u : Value} {v : V} (hg : GlS i.sc x) (hm : i.mg x = none) (hv : bootBuiltins x = some u) (r : RelV v u) (h : Q v H) (hn : x ≠ "__name__" := by decide) (hd : (x == ("__debug__" : Str)) = false := by decide) : EX i (.Name x pos) σ H Q :=
  .mk (T := tC v) (fun X ok => pe_bltn (ok.gl hg) (ok.mgN hm) hv r hn hd) h

/-! ### operators, comparisons -/
theorem ex_op {op : Operator} {r : R2} (ho : ∀ X, XOk i X → OpR X (binaryOp op) r) (h : EX i a σ H fun x H1 => EX i b σ H1 fun y H2 => r x y H2 Q) : EX i (.BinOp a op b pos) σ H Q :=
  .mk (T := tOp r (EX i a) (EX i b)) (fun X ok => pe_op (ho X ok) (EX.pe ok) (EX.pe ok)) h
theorem ex_un {op : UnaryOp} {r : V → Hp → VK → Prop} (ho : ∀ X, XOk i X → UnR X (unaryOp op) r) (h : EX i a σ H fun x H1 => r x H1 Q) : EX i (.UnaryOp op a pos) σ H Q :=
  .mk (T := tUn r (EX i a)) (fun X ok => pe_un (ho X ok) (EX.pe ok)) h
theorem ex_cmp {op : CmpOp} {r : R2} (ho : ∀ X, XOk i X → OpR X (compareOp op) r) (hm : behindInMarks op b = false) (h : EX i a σ H fun x H1 => EX i b σ H1 fun y H2 => r x y H2 Q) : EX i (.Compare a [op] [b] pos) σ H Q :=
  .mk (T := tOp r (EX i a) (EX i b)) (fun X ok => pe_cmpR (ho X ok) (EX.pe ok) (EX.pe ok) hm) h
theorem tx_cmp {op : CmpOp} {r : R2} {Qb : Bool → Hp → Prop} (ho : ∀ X, XOk i X → OpR X (compareOp op) r) (hm : behindInMarks op b = false)
    (h : EX i a σ H fun x H1 => EX i b σ H1 fun y H2 => r x y H2 fun z H3 => ∃ k, z = .bl k ∧ Qb k H3) : TX i (.Compare a [op] [b] pos) σ H Qb :=
  .mk (T := tTest (tOp r (EX i a) (EX i b))) (fun X ok => pt_cmpR (ho X ok) (EX.pe ok) (EX.pe ok) hm) h
theorem tx_val {Qb : Bool → Hp → Prop} (h : EX i e σ H fun x H1 => ∃ k, x = .bl k ∧ Qb k H1)
    (he : ∀ env whole, isTrue e env whole = (do let v ← whole; standAt e.pos; holding [v] (truthy v)) := by intro _ _; rfl) : TX i e σ H Qb :=
  .mk (T := tB (EX i e)) (fun X ok => pt_val (EX.pe ok) (he _)) h
theorem tx_truth {Qb : Bool → Hp → Prop} (h : EX i e σ H fun x H1 => ∃ k, TruV i.K x H1 k ∧ Qb k H1)
    (he : ∀ env whole, isTrue e env whole = (do let v ← whole; standAt e.pos; holding [v] (truthy v)) := by intro _ _; rfl) : TX i e σ H Qb :=
  .mk (T := fun σ H Q => EX i e σ H fun x H' => ∃ k, TruV i.K x H' k ∧ Q k H') (fun X ok => by
    have z := pt_truth (EX.pe (i := i) (e := e) ok) (he _)
    rw [ok.K] at z
    exact z) h
/-- two comparisons in a chain; r', r tell answers that are truths -/
theorem ex_chain {op op' : CmpOp} {r r' : R2} {c : Expr} (ho : ∀ X, XOk i X → OpR X (compareOp op) r) (ho' : ∀ X, XOk i X → OpR X (compareOp op') r')
    (h : EX i a σ H fun x H1 => EX i b σ H1 fun y H2 => r x y H2 fun z H3 => ∃ k, z = .bl k ∧ (if k = true then EX i c σ H3 fun w' H4 => r' y w' H4 Q else Q (.bl false) H3))
    (hm : lastMarks [op, op'] [b, c] = false := by with_unfolding_all rfl) : EX i (.Compare a [op, op'] [b, c] pos) σ H Q :=
  .mk (T := tChain r r' (EX i a) (EX i b) (EX i c)) (fun X ok => pe_chain (ho X ok) (ho' X ok) (EX.pe ok) (EX.pe ok) (EX.pe ok) hm) h
theorem tx_chain {op op' : CmpOp} {r r' : R2} {c : Expr} {Qb : Bool → Hp → Prop} (ho : ∀ X, XOk i X → OpR X (compareOp op) r) (ho' : ∀ X, XOk i X → OpR X (compareOp op') r')
    (h : tTest (tChain r r' (EX i a) (EX i b) (EX i c)) σ H Qb)
    (hm : lastMarks [op, op'] [b, c] = false := by with_unfolding_all rfl) : TX i (.Compare a [op, op'] [b, c] pos) σ H Qb :=
  .mk (T := tTest (tChain r r' (EX i a) (EX i b) (EX i c))) (fun X ok => pt_chain (ho X ok) (ho' X ok) (EX.pe ok) (EX.pe ok) (EX.pe ok) hm) h

/-! ### and, or, not -/
variable {rest : List Expr} {Qb : Bool → Hp → Prop}
theorem tx_w (h : WX i e σ H Qb) : TX i e σ H Qb := ⟨fun X ok pins s I => h.run X ok _ pins s I⟩
theorem wx_and1 (h : TX i a σ H Qb) : WX i (.BoolOp .And [a] pos) σ H Qb := .mk (T := TX i a) (fun X ok => pw_and1 (TX.pt ok)) h
theorem wx_or1 (h : TX i a σ H Qb) : WX i (.BoolOp .Or [a] pos) σ H Qb := .mk (T := TX i a) (fun X ok => pw_or1 (TX.pt ok)) h
theorem wx_and (h : TX i a σ H fun c H1 => if c = true then WX i (.BoolOp .And (b :: rest) pos) σ H1 Qb else Qb false H1) : WX i (.BoolOp .And (a :: b :: rest) pos) σ H Qb :=
  .mk (T := tAnd (TX i a) (WX i (.BoolOp .And (b :: rest) pos))) (fun X ok => pw_and (TX.pt ok) (WX.pw ok)) h
theorem wx_or (h : TX i a σ H fun c H1 => if c = true then Qb true H1 else WX i (.BoolOp .Or (b :: rest) pos) σ H1 Qb) : WX i (.BoolOp .Or (a :: b :: rest) pos) σ H Qb :=
  .mk (T := tOr (TX i a) (WX i (.BoolOp .Or (b :: rest) pos))) (fun X ok => pw_or (TX.pt ok) (WX.pw ok)) h
theorem tx_not (h : TX i a σ H fun c H1 => Qb (!c) H1) : TX i (.UnaryOp .Not a pos) σ H Qb := .mk (T := tNot (TX i a)) (fun X ok => pt_not (TX.pt ok)) h
theorem ex_one {op} (h : EX i a σ H Q) : EX i (.BoolOp op [a] pos) σ H Q := .mk (T := EX i a) (fun X ok => pe_one (EX.pe ok)) h
theorem ex_and (h : EX i a σ H fun x H1 => ∃ c, x = .bl c ∧ if c = true then EX i (.BoolOp .And (b :: rest) pos) σ H1 Q else Q (.bl false) H1) : EX i (.BoolOp .And (a :: b :: rest) pos) σ H Q :=
  .mk (T := tAndV (EX i a) (EX i (.BoolOp .And (b :: rest) pos))) (fun X ok => pe_and (EX.pe ok) (EX.pe ok)) h
theorem ex_or (h : EX i a σ H fun x H1 => ∃ c, x = .bl c ∧ if c = true then Q (.bl true) H1 else EX i (.BoolOp .Or (b :: rest) pos) σ H1 Q) : EX i (.BoolOp .Or (a :: b :: rest) pos) σ H Q :=
  .mk (T := tOrV (EX i a) (EX i (.BoolOp .Or (b :: rest) pos))) (fun X ok => pe_or (EX.pe ok) (EX.pe ok)) h
theorem ex_not (h : EX i a σ H fun x H1 => ∃ c, x = .bl c ∧ Q (.bl (!c)) H1) : EX i (.UnaryOp .Not a pos) σ H Q := .mk (T := tNotV (EX i a)) (fun X ok => pe_not (EX.pe ok)) h

/-! ### arguments, displays, places, slices, attributes -/
theorem ax_nil {Qa : List V → Hp → Prop} (h : Qa [] H) : AX i [] σ H Qa := .mk (T := tNil) (fun X ok => pa_nil) h
theorem ax_cons {Qa : List V → Hp → Prop} (h : EX i e σ H fun x H1 => AX i es σ H1 fun xs H2 => Qa (x :: xs) H2) (hs : ∀ env, starEach (e :: es) env = (false, eval e env) :: starEach es env := by intro _; rfl) : AX i (e :: es) σ H Qa :=
  .mk (T := tCons (EX i e) (AX i es)) (fun X ok => pa_cons (EX.pe ok) (AX.pa ok) (hs _)) h
theorem kx_nil {Qa : List V → Hp → Prop} (h : Qa [] H) : KX i [] σ H Qa := .mk (T := tNil) (fun X ok => pk_nil) h
theorem kx_cons {Qa : List V → Hp → Prop} {nm : Option Str} {kpos : Pos} {ks : List Keyword} (h : EX i e σ H fun x H1 => KX i ks σ H1 fun xs H2 => Qa (x :: xs) H2) : KX i (⟨nm, e, kpos⟩ :: ks) σ H Qa :=
  .mk (T := tCons (EX i e) (KX i ks)) (fun X ok => pk_cons (EX.pe ok) (KX.pk ok)) h
theorem ex_tup {x1} (h : AX i es σ H fun xs H1 => xs.length ≤ sizeLine ∧ ∀ p, H1 p = none → Q (.ref p) (upd H1 p (.tup xs))) : EX i (.Tuple es x1 pos) σ H Q :=
  .mk (T := tTup (AX i es)) (fun X ok => pe_tup (AX.pa ok)) h
theorem ex_lst (h : AX i es σ H fun xs H1 => xs.length ≤ sizeLine ∧ ∀ p, H1 p = none → Q (.ref p) (upd H1 p (.lst xs))) : EX i (.List es pos) σ H Q :=
  .mk (T := tLst (AX i es)) (fun X ok => pe_lst (AX.pa ok)) h
theorem ex_ix {r : R2} (hr : ∀ X, XOk i X → IxR X r) (h : EX i a σ H fun x H1 => EX i b σ H1 fun y H2 => r x y H2 Q) (hs : PlainIx b := by intro _ _; rfl) : EX i (.Subscript a b pos) σ H Q :=
  .mk (T := tOp r (EX i a) (EX i b)) (fun X ok => pe_ix (hr X ok) (EX.pe ok) (EX.pe ok) hs) h
def OX (i : XI) : Option Expr → TO
  | none => tNoPart
  | some e => tPart (EX i e)
theorem OX.po {X : Cx} (ok : XOk i X) : ∀ o : Option Expr, PO X o (OX i o)
  | none => po_none
  | some e => po_some (EX.pe ok)
theorem ex_slice {r : V → Option Int → Option Int → Hp → VK → Prop} {lo hi : Option Expr} (hr : ∀ X, XOk i X → SlR X r) (h : EX i e σ H fun x H1 => OX i lo σ H1 fun l H2 => OX i hi σ H2 fun u H3 => r x l u H3 Q) : EX i (.Subscript e (.Slice lo hi none p2) pos) σ H Q :=
  .mk (T := tSl r (EX i e) (OX i lo) (OX i hi)) (fun X ok => pe_slice (hr X ok) (EX.pe ok) (OX.po ok lo) (OX.po ok hi)) h
theorem ex_fld {f : Str} (h : EX i e σ H fun x H1 => ∃ a C dx fs v, x = .ref a ∧ H1 a = some (.ins C dx fs) ∧ Cls i.K C ∧ NoAttr i.K C f ∧ fs.lookup f = some v ∧ Q v H1) (hb : ∀ env, attributeBase e f env (eval e env) = eval e env := by intro _; rfl) : EX i (.Attribute e f pos) σ H Q :=
  .mk (T := tFld i.K (EX i e) f) (fun X ok => by
    rw [← ok.K]
    exact pe_fld (EX.pe ok) (hb _)) h
theorem ex_ifExp {c : Expr} (h : TX i c σ H fun k H1 => if k = true then EX i a σ H1 Q else EX i b σ H1 Q) : EX i (.IfExp c a b pos) σ H Q :=
  .mk (T := tIf (TX i c) (EX i a) (EX i b)) (fun X ok => pe_ifExp (TX.pt ok) (EX.pe ok) (EX.pe ok)) h

/-! ### calls -/
variable {CX : CXT} {k : Nat} {f C : Addr} {fd : FuncData} {ps : List Str} {sp : Sp} {dvs : List V} {ds : List Value} {x m : Str} {p apos : Pos} {o : Expr}
/-- a def that is called by its name: where it stands, what it keeps, how it binds -/
structure Fnc (i : XI) (x : Str) (ps : List Str) (dvs : List V) (sp : Sp) : Prop where
  ex : ∃ (k : Nat) (f : Addr) (fd : FuncData) (ds : List Value), k ≤ i.k ∧ FnOk i.P i.w i.K i.mg i.base CX0 k f fd ps sp ∧ i.mg x = some (.ref f) ∧ PySem.W.keepIn i.K (.ref f) = true ∧ Binds i.K fd ps ds ∧ Vals dvs ds
theorem XOk.fn' {X : Cx} (ok : XOk i X) (F : FnOk i.P i.w i.K i.mg i.base CX0 k f fd ps sp) : FnOk X.prog X.w X.K X.mg X.base CX0 k f fd ps sp := by
  rw [ok.prog, ok.w, ok.K, ok.mg, ok.base]
  exact F
theorem ex_call (F : Fnc i x ps dvs sp) (hg : GlS i.sc x) (h : AX i (e :: es) σ H fun vs H1 => sp (vs ++ dvs) H1 Q E0) (hdb : (x == ("__debug__" : Str)) = false := by decide)
    (he : ∀ env, starEach (e :: es) env = (false, eval e env) :: starEach es env := by intro _; rfl) (hpl : ∀ env, (backTo pos (starEach es env)).any (·.1) = false := by intro _; rfl) : EX i (.Call (.Name x p) (e :: es) [] pos) σ H Q := by
  obtain ⟨k, f, fd, ds, hk, F, hm, kp, hb, hd⟩ := F.ex
  refine .mk (T := tCall sp dvs E0 (AX i (e :: es))) (fun X ok => ?_) h
  exact pe_call (ok.fn' F) (ok.room.mono hk) (ok.gl hg) (ok.mgN hm) (by rw [ok.K]; exact kp) (by rw [ok.K]; exact hb) hd pass0 (AX.pa ok) hdb (he _) (hpl _)
theorem ex_callB {id : String} {r : List V → Hp → VK → Prop} (hc : ∀ X, XOk i X → CallR X (.builtin id) r) (hg : GlS i.sc x) (hm : i.mg x = none) (hv : bootBuiltins x = some (.builtin id)) (h : AX i (e :: es) σ H fun vs H1 => r vs H1 Q) (hn : x ≠ "__name__" := by decide) (hdb : (x == ("__debug__" : Str)) = false := by decide)
    (he : ∀ env, starEach (e :: es) env = (false, eval e env) :: starEach es env := by intro _; rfl) (hpl : ∀ env, (backTo pos (starEach es env)).any (·.1) = false := by intro _; rfl) : EX i (.Call (.Name x p) (e :: es) [] pos) σ H Q :=
  .mk (T := tCB r (AX i (e :: es))) (fun X ok => pe_callB (hc X ok) (ok.gl hg) (ok.mgN hm) hv (AX.pa ok) hn hdb (he _) (hpl _)) h
theorem ex_callTy {T : String} {r : List V → Hp → VK → Prop} (hc : ∀ X, XOk i X → CallR X (.type T) r) (hg : GlS i.sc x) (hm : i.mg x = none) (hv : bootBuiltins x = some (.type T)) (h : AX i (e :: es) σ H fun vs H1 => r vs H1 Q) (hn : x ≠ "__name__" := by decide) (hdb : (x == ("__debug__" : Str)) = false := by decide)
    (he : ∀ env, starEach (e :: es) env = (false, eval e env) :: starEach es env := by intro _; rfl) (hpl : ∀ env, (backTo pos (starEach es env)).any (·.1) = false := by intro _; rfl) : EX i (.Call (.Name x p) (e :: es) [] pos) σ H Q :=
  .mk (T := tCB r (AX i (e :: es))) (fun X ok => pe_callTy (hc X ok) (ok.gl hg) (ok.mgN hm) hv (AX.pa ok) hn hdb (he _) (hpl _)) h

/-! ### comprehensions -/
theorem ix_nil {Qb : Bool → Hp → Prop} (h : Qb true H) : IX i [] σ H Qb := .mk (T := tYes) (fun X ok => pts_nil) h
theorem ix_one {Qb : Bool → Hp → Prop} (h : TX i e σ H Qb) : IX i [e] σ H Qb := .mk (T := TX i e) (fun X ok => pts_one (TX.pt ok)) h
theorem ex_lc {elt tg iter : Expr} {ifs : List Expr} {scope : Scope} {wi : TI} {g : TG} (own : List (Str × Nat)) (hi : ∀ X, XOk i X → PI X tg iter wi) (hg : ∀ X, XOk (i.blk scope) X → PG X tg g) (h : tLc wi g (IX (i.blk scope) ifs) (EX (i.blk scope) elt) (own.map (·.2)) σ H Q)
    (ok : blkC i.N i.sc scope own = true := by kernel_rfl) (hs : ∀ env x, foldedSetIterable iter env x = pure x := by intro _ _; rfl) : EX i (.ListComp elt [⟨tg, iter, ifs, 0⟩] scope pos) σ H Q :=
  .mk (T := tLc wi g (IX (i.blk scope) ifs) (EX (i.blk scope) elt) (own.map (·.2))) (fun X o => pe_lc o.calm (by rw [o.N]; exact o.nd) (hi X o) (by rw [o.N, o.sc]; exact blkOk_by ok) (fun s H C cl fp => hg _ (o.blk scope s H C cl fp)) (fun s H C cl fp => IX.pts (o.blk scope s H C cl fp)) (fun s H C cl fp => EX.pe (o.blk scope s H C cl fp)) (hs _)) h
theorem ex_lc2 {elt tg iter tg1 iter1 : Expr} {ifs ifs1 : List Expr} {scope : Scope} {wi wi1 : TI} {g g1 : TG} (own : List (Str × Nat)) (vs1 : List Nat) (hi : ∀ X, XOk i X → PI X tg iter wi) (hg : ∀ X, XOk (i.blk scope) X → PG X tg g) (hi1 : ∀ X, XOk (i.blk scope) X → PI X tg1 iter1 wi1) (hg1 : ∀ X, XOk (i.blk scope) X → PG X tg1 g1)
    (h : tLc2 wi g (IX (i.blk scope) ifs) wi1 g1 (IX (i.blk scope) ifs1) (EX (i.blk scope) elt) (own.map (·.2)) vs1 σ H Q) (ok : blkC i.N i.sc scope own = true := by kernel_rfl) (hv : ∀ i ∈ vs1, i ∈ own.map (·.2) := by decide)
    (hs : ∀ env x, foldedSetIterable iter env x = pure x := by intro _ _; rfl) (hs1 : ∀ env x, foldedSetIterable iter1 env x = pure x := by intro _ _; rfl) : EX i (.ListComp elt [⟨tg, iter, ifs, 0⟩, ⟨tg1, iter1, ifs1, 0⟩] scope pos) σ H Q :=
  .mk (T := tLc2 wi g (IX (i.blk scope) ifs) wi1 g1 (IX (i.blk scope) ifs1) (EX (i.blk scope) elt) (own.map (·.2)) vs1) (fun X o => pe_lc2 o.calm (by rw [o.N]; exact o.nd) (hi X o) (by rw [o.N, o.sc]; exact blkOk_by ok) hv (fun s H C cl fp => hg _ (o.blk scope s H C cl fp)) (fun s H C cl fp => IX.pts (o.blk scope s H C cl fp))
    (fun s H C cl fp => hi1 _ (o.blk scope s H C cl fp)) (fun s H C cl fp => hg1 _ (o.blk scope s H C cl fp)) (fun s H C cl fp => IX.pts (o.blk scope s H C cl fp)) (fun s H C cl fp => EX.pe (o.blk scope s H C cl fp)) (hs _) hs1) h

/-! ### targets and what is walked -/
theorem gx_name {i : XI} {x : Str} (j : Nat) (hi : i.N[j]? = some x := by rfl) (hx : Loc i.sc x := by first | exact Or.inl rfl | exact Or.inr rfl) (hf : i.top x = true ∨ i.sc.names.lookup x = some .local := by first | exact Or.inl rfl | exact Or.inr rfl) : ∀ X, XOk i X → PG X (.Name x pos) (gName j) := fun X ok =>
  pg_name (by rw [ok.N]; exact ok.nd) (by rw [ok.N]; exact hi) (by rw [ok.sc]; exact hx) (hf.elim (fun h => .inl (ok.fn x h)) fun h => .inr (by rw [ok.sc]; exact h))
theorem gx_tup {i : XI} {k n : Nat} {t : TGs} (h : ∀ X, XOk i X → PGs X es t) (hn : ∀ env, (assignEach es env).length = n := by intro _; rfl) (hst : ∀ env, (assignEach es env).findIdx? (·.1) = none := by intro _; rfl) : ∀ X, XOk i X → PG X (.Tuple es k pos) (gTup i.K n t) := fun X ok => by
  rw [← ok.K]
  exact pg_tup ok.calm (h X ok) (hn _) (hst _)
theorem gxs_nil {i : XI} : ∀ X, XOk i X → PGs X [] gNil := fun _ _ => pgs_nil
theorem gxs_cons {i : XI} {t : TG} {u : TGs} (h1 : ∀ X, XOk i X → PG X e t) (h2 : ∀ X, XOk i X → PGs X es u) (hs : ∀ env, (assignEach (e :: es) env).map (·.2) = assign e env :: (assignEach es env).map (·.2) := by intro _; rfl) : ∀ X, XOk i X → PGs X (e :: es) (gCons t u) := fun X ok => pgs_cons (h1 X ok) (h2 X ok) (hs _)
theorem wx_list {i : XI} {tg l : Expr} : ∀ X, XOk i X → PI X tg l (iList i.K (EX i l)) := fun X ok => by
  rw [← ok.K]
  exact pi_list (EX.pe ok)
theorem wx_tup {i : XI} {tg l : Expr} : ∀ X, XOk i X → PI X tg l (iTup i.K (EX i l)) := fun X ok => by
  rw [← ok.K]
  exact pi_tup (EX.pe ok)
theorem wx_rng1 {i : XI} {tg a : Expr} (hg : GlS i.sc "range") (hm : i.mg "range" = none) (hs : ∀ env, starEach [a] env = [(false, eval a env)] := by intro _; rfl) : ∀ X, XOk i X → PI X tg (.Call (.Name "range" p) [a] [] pos) (iRng1 (AX i [a])) := fun X ok =>
  pi_range1 (ok.gl hg) (ok.mgN hm) (AX.pa ok) (hs _)
theorem wx_rng2 {i : XI} {tg a b : Expr} (hg : GlS i.sc "range") (hm : i.mg "range" = none) (hs : ∀ env, starEach [a, b] env = [(false, eval a env), (false, eval b env)] := by intro _; rfl) (hs2 : ∀ env, starEach [b] env = [(false, eval b env)] := by intro _; rfl) : ∀ X, XOk i X → PI X tg (.Call (.Name "range" p) [a, b] [] pos) (iRng2 (AX i [a, b])) := fun X ok =>
  pi_range2 (ok.gl hg) (ok.mgN hm) (AX.pa ok) (hs _) (hs2 _)
end

/-! ### statements -/
section
variable {i : XI} {σ : L2.St} {H : Hp} {D : Ends} {a b e : Expr} {es : List Expr} {pos p2 : Pos} {st : Stmt} {rest : List Stmt}
theorem go_nil (h : D.nx σ H) : GO i [] D σ H := .mk (fun _ _ => pss_nil) h
theorem go_cons {t : TS} (hs : ∀ X, XOk i X → PS X st t) (h : t { D with nx := GO i rest D } σ H) : GO i (st :: rest) D σ H := .mk (T := tSeq t (GO i rest)) (fun X ok => pss_cons (hs X ok) (GO.pss ok)) h
theorem go_ret (h : EX i e σ H D.rt) : GO i (.Return (some e) pos :: rest) D σ H := go_cons (fun X ok => ps_ret (EX.pe ok)) h
theorem go_retN (h : D.rt .non H) : GO i (.Return none pos :: rest) D σ H := go_cons (fun X ok => ps_retN) h
theorem go_pass (h : GO i rest D σ H) : GO i (.Pass pos :: rest) D σ H := go_cons (fun X ok => ps_pass) h
theorem go_set {x : Str} (j : Nat) (h : EX i e σ H fun v H1 => GO i rest D (σ.set j (some v)) H1) (hi : i.N[j]? = some x := by rfl) (hx : Loc i.sc x := by first | exact Or.inl rfl | exact Or.inr rfl) (hf : i.top x = true ∨ i.sc.names.lookup x = some .local := by first | exact Or.inl rfl | exact Or.inr rfl)
    (hs : ∀ env, swapsWith e (some (.Name x p2)) pos.line env = pure false := by intro _; rfl) : GO i (.Assign [.Name x p2] e pos :: rest) D σ H :=
  go_cons (t := tAsg (EX i e) (gName j)) (fun X ok => ps_set (by rw [ok.N]; exact ok.nd) (by rw [ok.N]; exact hi) (by rw [ok.sc]; exact hx) (EX.pe ok) (hs _) (hf.elim (fun h => .inl (ok.fn x h)) fun h => .inr (by rw [ok.sc]; exact h))) h
theorem go_asg {tg : Expr} {g : TG} (hg : ∀ X, XOk i X → PG X tg g) (h : EX i e σ H fun v H1 => g v σ H1 fun σ2 H2 => GO i rest D σ2 H2) (hs : ∀ env, swapsWithSole [tg] e pos.line env = pure false := by intro _; rfl) (hw : ∀ env, swappedStores [tg] e env = pure none := by intro _; rfl)
    (h1 : ∀ env, (assignEach [tg] env).map (·.2) = [assign tg env] := by intro _; rfl) : GO i (.Assign [tg] e pos :: rest) D σ H :=
  go_cons (t := tAsg (EX i e) g) (fun X ok => ps_asg (EX.pe ok) (hg X ok) (hs _) (hw _) (h1 _)) h
theorem go_expr (h : EX i e σ H fun _ H1 => GO i rest D σ H1) (hs : ∀ env, swapsWith e none pos.line env = pure false := by intro _; rfl) : GO i (.Expr e pos :: rest) D σ H := go_cons (t := tDrop (EX i e)) (fun X ok => ps_expr (EX.pe ok) (hs _)) h
theorem go_if {c : Expr} {th el : List Stmt} (h : TX i c σ H fun k H1 => if k = true then GO i th { D with nx := GO i rest D } σ H1 else GO i el { D with nx := GO i rest D } σ H1) : GO i (.If c th el pos :: rest) D σ H :=
  go_cons (t := tIfS (TX i c) (GO i th) (GO i el)) (fun X ok => ps_if (TX.pt ok) (GO.pss ok) (GO.pss ok)) h
theorem go_setLc {x : Str} {py : Pos} {elt tg iter : Expr} {ifs : List Expr} {scope : Scope} {wi : TI} {g : TG} (j : Nat) (own : List (Str × Nat)) (hi : ∀ X, XOk i X → PI X tg iter wi) (hg : ∀ X, XOk (i.blk scope) X → PG X tg g)
    (h : tLc wi g (IX (i.blk scope) ifs) (EX (i.blk scope) elt) (own.map (·.2)) σ H fun v H1 => GO i rest D (σ.set j (some v)) H1) (ok : blkC i.N i.sc scope own = true := by kernel_rfl) (hN : i.N[j]? = some x := by rfl) (hy : i.sc.names.lookup x = some .local := by rfl)
    (hk : i.sc.kind = .function := by rfl) (hl : (py.line == p2.line) = true := by rfl) (ha : (scope.names.any fun (n, k) => n == x && (k == .local || k == .cell)) = false := by decide +kernel) (hll : pos.line = p2.line := by rfl)
    (hs : ∀ env x, foldedSetIterable iter env x = pure x := by intro _ _; rfl) : GO i (.Assign [.Name x py] (.ListComp elt [⟨tg, iter, ifs, 0⟩] scope p2) pos :: rest) D σ H := by
  have hT : ∀ X, XOk i X → PS X (.Assign [.Name x py] (.ListComp elt [⟨tg, iter, ifs, 0⟩] scope p2) pos) (tAsg (tLc wi g (IX (i.blk scope) ifs) (EX (i.blk scope) elt) (own.map (·.2))) (gName j)) := fun X o =>
   ps_setLc o.calm (by rw [o.N]; exact o.nd) (by rw [o.N]; exact hN) (by rw [o.sc]; exact hy) (sw_true (by rw [o.sc]; exact hk) (by rw [o.sc]; exact hy) (by first | exact hl | (rw [hll]; exact hl)) ha) (hi X o) (by rw [o.N, o.sc]; exact blkOk_by ok) (fun s H C cl fp => hg _ (o.blk scope s H C cl fp))
    (fun s H C cl fp => IX.pts (o.blk scope s H C cl fp)) (fun s H C cl fp => EX.pe (o.blk scope s H C cl fp)) (hs _)
  exact go_cons hT h
/-- for x in ..: the turns by an invariant over (turn, slots, heap) -/
theorem go_for {tg iter : Expr} {body : List Stmt} {wi : TI} {g : TG} (hi : ∀ X, XOk i X → PI X tg iter wi) (hg : ∀ X, XOk i X → PG X tg g) (h : tFor wi g (GO i body) { D with nx := GO i rest D } σ H)
    (hs : ∀ env x, foldedSetIterable iter env x = pure x := by intro _ _; rfl) : GO i (.For tg iter body [] pos :: rest) D σ H := go_cons (t := tFor wi g (GO i body)) (fun X ok => ps_for (by rw [ok.xe]; exact PassesOwn.never) ok.calm (hi X ok) (hg X ok) (GO.pss ok) (hs _)) h
/-- what is never reached -/
theorem go_never {sts : List Stmt} (h : False) : GO i sts D σ H := h.elim
end

/-! ### a def keeps its promise -/
def iOf (P : Program) (w : World) (K : PySem.W.Frag) (mg : Str → Option Value) (base : Heap) (N : List Str) (sc : Scope) (k : Nat) : XI := ⟨P, w, K, mg, base, N, sc, k, fun _ => true, fun _ => True⟩
section
variable {P : Program} {w : World} {K : PySem.W.Frag} {mg : Str → Option Value} {base : Heap}
theorem xok_of {N ps : List Str} {qual : Str} {scope : Scope} {f : Addr} {cd : Value} {A : Around} {outer : List Env} {s : Shared} {H : Hp} {E : XK} {k : Nat} (S : FnScope N ps scope) (hr : Room k (A.deeper (envOfC qual scope s.heap.objs.size f cd))) :
    XOk (iOf P w K mg base N scope k) (cxOf CX0 P w K mg base N qual scope f cd A outer s H E).nox :=
  ⟨rfl, rfl, rfl, rfl, rfl, rfl, S.nd, rfl, rfl, hr, rfl, fun _ _ => rfl, trivial⟩
end
end Fq
/-! FqB: the same by data: what a value reads as, a heap that only grows, expressions by the data they give. -/
namespace Fq
open PySem PySem.Spec PyProof.Rows L2 Evl

/-! ### what a value reads as -/
inductive Dt where
  | py (d : PyData)
  | fld (b n d : PyData)
  | sta (b n d far ws : PyData)
  | ob (φ : Hp → V → Prop) (m : ∀ (H H' : Hp) (v : V), Ex H H' → φ H v → φ H' v)

mutual
theorem dp_mono {K : PySem.W.Frag} {H H' : Hp} (e : Ex H H') : ∀ {v : V} {d : PyData}, Dp K H v d → Dp K H' v d
  | _, _, .non => .non
  | _, _, .bl b => .bl b
  | _, _, .int n => .int n
  | _, _, .str x => .str x
  | _, _, .lst h t => .lst (ex_l e h) (dpAll_mono e t)
  | _, _, .tup h t => .tup (ex_t e h) (dpAll_mono e t)
theorem dpAll_mono {K : PySem.W.Frag} {H H' : Hp} (e : Ex H H') : ∀ {vs : List V} {ds : List PyData}, DpAll K H vs ds → DpAll K H' vs ds
  | _, _, .nil => .nil
  | _, _, .cons h t => .cons (dp_mono e h) (dpAll_mono e t)
end

/-- a Field stands at a -/
structure FldAt (K : PySem.W.Frag) (H : Hp) (a : Addr) (b n d : PyData) : Prop where
  ex : ∃ dx fs vb vn vd, H a = some (.ins (He.ga K "Field") dx fs) ∧ fs.lookup ("books" : Str) = some vb ∧ fs.lookup ("named" : Str) = some vn ∧ fs.lookup ("deeds" : Str) = some vd ∧ Dp K H vb b ∧ Dp K H vn n ∧ Dp K H vd d
structure StaAt (K : PySem.W.Frag) (H : Hp) (a : Addr) (b n d far ws : PyData) : Prop where
  ex : ∃ dx fs f vf vw, H a = some (.ins (He.ga K "State") dx fs) ∧ fs.lookup ("field" : Str) = some (V.ref f) ∧ fs.lookup ("far" : Str) = some vf ∧ fs.lookup ("wishes" : Str) = some vw ∧ FldAt K H f b n d ∧ Dp K H vf far ∧ Dp K H vw ws
theorem FldAt.mono {K : PySem.W.Frag} {H H' : Hp} {a : Addr} {b n d : PyData} (e : Ex H H') (h : FldAt K H a b n d) : FldAt K H' a b n d := by
  obtain ⟨dx, fs, vb, vn, vd, h1, h2, h3, h4, h5, h6, h7⟩ := h.ex
  exact ⟨dx, fs, vb, vn, vd, e _ _ h1, h2, h3, h4, dp_mono e h5, dp_mono e h6, dp_mono e h7⟩
theorem StaAt.mono {K : PySem.W.Frag} {H H' : Hp} {a : Addr} {b n d far ws : PyData} (e : Ex H H') (h : StaAt K H a b n d far ws) : StaAt K H' a b n d far ws := by
  obtain ⟨dx, fs, f, vf, vw, h1, h2, h3, h4, h5, h6, h7⟩ := h.ex
  exact ⟨dx, fs, f, vf, vw, e _ _ h1, h2, h3, h4, h5.mono e, dp_mono e h6, dp_mono e h7⟩

def Rp (K : PySem.W.Frag) (H : Hp) (v : V) : Dt → Prop
  | .py d => Dp K H v d
  | .fld b n d => ∃ a, v = .ref a ∧ FldAt K H a b n d
  | .sta b n d far ws => ∃ a, v = .ref a ∧ StaAt K H a b n d far ws
  | .ob φ _ => φ H v
theorem rpy {K : PySem.W.Frag} {H : Hp} {v : V} {d : PyData} (h : Dp K H v d) : Rp K H v (.py d) := h
theorem rp_mono {K : PySem.W.Frag} {H H' : Hp} (e : Ex H H') {v : V} : ∀ {d : Dt}, Rp K H v d → Rp K H' v d
  | .py _, h => dp_mono e h
  | .fld .., ⟨a, h1, h2⟩ => ⟨a, h1, h2.mono e⟩
  | .sta .., ⟨a, h1, h2⟩ => ⟨a, h1, h2.mono e⟩
  | .ob _ m, h => m _ _ _ e h
inductive RpL (K : PySem.W.Frag) (H : Hp) : List V → List Dt → Prop
  | nil : RpL K H [] []
  | cons {v : V} {vs : List V} {d : Dt} {ds : List Dt} : Rp K H v d → RpL K H vs ds → RpL K H (v :: vs) (d :: ds)
theorem rpL_mono {K : PySem.W.Frag} {H H' : Hp} (e : Ex H H') : ∀ {vs : List V} {ds : List Dt}, RpL K H vs ds → RpL K H' vs ds
  | _, _, .nil => .nil
  | _, _, .cons h t => .cons (rp_mono e h) (rpL_mono e t)
theorem RpL.length {K : PySem.W.Frag} {H : Hp} : ∀ {vs : List V} {ds : List Dt}, RpL K H vs ds → vs.length = ds.length
  | _, _, .nil => rfl
  | _, _, .cons _ t => congrArg (· + 1) (RpL.length t)

/-! ### a heap that grows: Hf is what stands for good, H all -/
structure Tr (Hf H Hf' H' : Hp) : Prop where
  f : Ex Hf Hf'
  i : Ex Hf' H'
  h : Ex H H'
  n : ∀ p o, H p = some o → Hf p = none → Hf' p = none
theorem Tr.refl {Hf H : Hp} (e : Ex Hf H) : Tr Hf H Hf H := ⟨Ex.refl _, e, Ex.refl _, fun _ _ _ h => h⟩
theorem Tr.trans {A0 H0 A1 H1 A2 H2 : Hp} (a : Tr A0 H0 A1 H1) (b : Tr A1 H1 A2 H2) : Tr A0 H0 A2 H2 :=
  ⟨a.f.trans b.f, b.i, a.h.trans b.h, fun p o h1 h2 => b.n p o (a.h p o h1) (a.n p o h1 h2)⟩
theorem upd_ex {A H : Hp} {p : Addr} {o : HO} (e : Ex A H) : Ex (upd A p o) (upd H p o) := fun q u hq => by
  by_cases hqp : q = p
  · subst hqp
    rw [upd_same] at hq ⊢
    exact hq
  · rw [upd_ne hqp] at hq ⊢
    exact e q u hq
/-- a new object for good -/
theorem Tr.new {Hf H : Hp} {p : Addr} {o : HO} (e : Ex Hf H) (hp : H p = none) : Tr Hf H (upd Hf p o) (upd H p o) :=
  ⟨Ex.new (fresh_back e hp), upd_ex e, Ex.new hp, fun q u h1 h2 => by
    rw [upd_ne (ne_of_none h1 hp)]
    exact h2⟩
/-- an object of ours stands for good from now on -/
theorem Tr.adopt {A1 H1 Hf H : Hp} {D : Addr} {o : HO} (t : Tr A1 H1 Hf H) (h1 : Hf D = none) (h2 : H D = some o) (h3 : H1 D = none) : Tr A1 H1 (upd Hf D o) H :=
  ⟨t.f.trans (Ex.new h1), fun q u hq => by
    by_cases e : q = D
    · subst e
      rw [upd_same] at hq
      rw [h2, ← hq]
    · rw [upd_ne e] at hq
      exact t.i q u hq, t.h, fun p u g1 g2 => by
    rw [upd_ne (ne_of_none g1 h3)]
    exact t.n p u g1 g2⟩
/-- a new object that is not kept -/
theorem Tr.drop {Hf H : Hp} {p : Addr} {o : HO} (e : Ex Hf H) (hp : H p = none) : Tr Hf H Hf (upd H p o) :=
  ⟨Ex.refl _, e.trans (Ex.new hp), Ex.new hp, fun q u h1 h2 => h2⟩

abbrev En := List (Option Dt)
structure RpE (K : PySem.W.Frag) (H : Hp) (σ : L2.St) (ρ : En) : Prop where
  len : σ.length = ρ.length
  get : ∀ (j : Nat) (d : Dt), ρ[j]? = some (some d) → ∃ v, σ[j]? = some (some v) ∧ Rp K H v d
theorem RpE.mono {K : PySem.W.Frag} {H H' : Hp} {σ : L2.St} {ρ : En} (e : Ex H H') (h : RpE K H σ ρ) : RpE K H' σ ρ := ⟨h.len, fun j d hj => by
  obtain ⟨v, h1, h2⟩ := h.get j d hj
  exact ⟨v, h1, rp_mono e h2⟩⟩
theorem RpE.set {K : PySem.W.Frag} {H : Hp} {σ : L2.St} {ρ : En} {j : Nat} {v : V} {d : Dt} (h : RpE K H σ ρ) (r : Rp K H v d) : RpE K H (σ.set j (some v)) (ρ.set j (some d)) := ⟨by rw [List.length_set, List.length_set, h.len], fun k e hk => by
  by_cases hkj : j = k
  · subst hkj
    by_cases hj : j < ρ.length
    · rw [List.getElem?_set_self hj] at hk
      have e1 : d = e := Option.some.inj (Option.some.inj hk)
      rw [← e1]
      exact ⟨v, List.getElem?_set_self (by rw [h.len]; exact hj), r⟩
    · rw [List.getElem?_eq_none (by rw [List.length_set]; omega)] at hk
      cases hk
  · rw [List.getElem?_set_ne hkj] at hk ⊢
    exact h.get k e hk⟩
/-- a slot of which nothing is known any more -/
theorem RpE.forget {K : PySem.W.Frag} {H : Hp} {σ : L2.St} {ρ : En} {j : Nat} {x : Option V} (h : RpE K H σ ρ) : RpE K H (σ.set j x) (ρ.set j none) := ⟨by rw [List.length_set, List.length_set, h.len], fun k e hk => by
  by_cases hkj : j = k
  · subst hkj
    rw [List.getElem?_set_self'] at hk
    cases q : ρ[j]? with
    | none => rw [q] at hk; cases hk
    | some z => rw [q] at hk; cases hk
  · rw [List.getElem?_set_ne hkj] at hk ⊢
    exact h.get k e hk⟩
def wipeE (ρ : En) : List Nat → En
  | [] => ρ
  | v :: vs => (wipeE ρ vs).set v none
theorem RpE.wipe {K : PySem.W.Frag} {H : Hp} {σ : L2.St} {ρ : En} (h : RpE K H σ ρ) : ∀ vs, RpE K H (wipe σ vs) (wipeE ρ vs)
  | [] => h
  | v :: vs => (RpE.wipe h vs).forget
theorem RpE.of_args {K : PySem.W.Frag} {H : Hp} {vs : List V} {ds : List Dt} (m : Nat) (h : RpL K H vs ds) : RpE K H (vs.map some ++ List.replicate m none) (ds.map some ++ List.replicate m none) := by
  refine ⟨by rw [List.length_append, List.length_append, List.length_map, List.length_map, h.length, List.length_replicate, List.length_replicate], ?_⟩
  induction h with
  | nil =>
    intro j d hj
    simp only [List.map_nil, List.nil_append] at hj
    rw [List.getElem?_replicate] at hj
    split at hj <;> cases hj
  | @cons v vs d0 ds r t ih =>
    intro j d hj
    cases j with
    | zero =>
      have e := Option.some.inj (Option.some.inj hj)
      rw [← e]
      exact ⟨v, rfl, r⟩
    | succ j => exact ih j d hj
/-! own names of a comprehension -/
theorem wipe_get {σ : L2.St} {k : Nat} : ∀ {vs : List Nat}, (wipe σ vs)[k]? = if k ∈ vs then σ[k]?.map (fun _ => none) else σ[k]?
  | [] => by simp [wipe]
  | v :: vs => by
    unfold wipe
    by_cases e : v = k
    · subst e
      rw [if_pos (List.mem_cons_self ..), List.getElem?_set_self', wipe_get]
      split <;> cases σ[v]? <;> rfl
    · rw [List.getElem?_set_ne e, wipe_get]
      have : (k ∈ v :: vs) ↔ k ∈ vs := by
        rw [List.mem_cons]
        exact ⟨fun h => h.elim (fun z => absurd z.symm e) id, .inr⟩
      by_cases q : k ∈ vs
      · rw [if_pos q, if_pos (this.mpr q)]
      · rw [if_neg q, if_neg fun z => q (this.mp z)]
theorem wipe_set {σ : L2.St} {j : Nat} {y : Option V} {vs : List Nat} (h : j ∈ vs) : wipe (σ.set j y) vs = wipe σ vs := by
  apply List.ext_getElem?
  intro k
  rw [wipe_get, wipe_get]
  by_cases e : j = k
  · subst e
    rw [if_pos h, if_pos h, List.getElem?_set_self']
    cases σ[j]? <;> rfl
  · rw [List.getElem?_set_ne e]
theorem wipe_wipe {σ : L2.St} {vs : List Nat} : wipe (wipe σ vs) vs = wipe σ vs := by
  apply List.ext_getElem?
  intro k
  rw [wipe_get, wipe_get]
  by_cases h : k ∈ vs
  · rw [if_pos h, if_pos h]
    cases σ[k]? <;> rfl
  · rw [if_neg h, if_neg h]

/-! ### expressions by data -/
def EE (i : XI) (e : Expr) (ρ : En) (Φ : Dt → Prop) : Prop := ∀ σ Hf H Q, RpE i.K Hf σ ρ → Ex Hf H → (∀ v d Hf' H', Tr Hf H Hf' H' → Rp i.K Hf' v d → Φ d → Q v H') → EX i e σ H Q
def ET (i : XI) (e : Expr) (ρ : En) (Φ : Bool → Prop) : Prop := ∀ σ Hf H Q, RpE i.K Hf σ ρ → Ex Hf H → (∀ b Hf' H', Tr Hf H Hf' H' → Φ b → Q b H') → TX i e σ H Q
def EW (i : XI) (e : Expr) (ρ : En) (Φ : Bool → Prop) : Prop := ∀ σ Hf H Q, RpE i.K Hf σ ρ → Ex Hf H → (∀ b Hf' H', Tr Hf H Hf' H' → Φ b → Q b H') → WX i e σ H Q
def EA (i : XI) (es : List Expr) (ρ : En) (Φ : List Dt → Prop) : Prop := ∀ σ Hf H Q, RpE i.K Hf σ ρ → Ex Hf H → (∀ vs ds Hf' H', Tr Hf H Hf' H' → RpL i.K Hf' vs ds → Φ ds → Q vs H') → AX i es σ H Q
def EI (i : XI) (es : List Expr) (ρ : En) (Φ : Bool → Prop) : Prop := ∀ σ Hf H Q, RpE i.K Hf σ ρ → Ex Hf H → (∀ b Hf' H', Tr Hf H Hf' H' → Φ b → Q b H') → IX i es σ H Q

section
variable {i : XI} {ρ : En} {Φ Ψ : Dt → Prop} {Φb : Bool → Prop} {a b e : Expr} {es rest : List Expr} {pos p2 : Pos}
theorem EE.imp (h : EE i e ρ Φ) (k : ∀ d, Φ d → Ψ d) : EE i e ρ Ψ := fun σ Hf H Q r x q => h σ Hf H Q r x fun v d Hf' H' t r1 φ => q v d Hf' H' t r1 (k d φ)
theorem ee_var {x : Str} {d : Dt} (j : Nat) (hs : ρ[j]? = some (some d)) (h : Φ d) (hN : i.N[j]? = some x := by rfl) (hv : Vis i.sc x := by first | exact Or.inl rfl | exact Or.inr (Or.inl rfl) | exact Or.inr (Or.inr rfl))
    (hd : (x == ("__debug__" : Str)) = false := by decide) (hcd : (x == ("__classdict__" : Str)) = false := by decide) : EE i (.Name x pos) ρ Φ := fun σ Hf H Q r x q => by
  obtain ⟨v, h1, h2⟩ := r.get j d hs
  exact ex_var j h1 (q v d Hf H (.refl x) h2 h) hN hv hd hcd
theorem ee_int {n : Int} {j : Nat} (h : Φ (.py (.int n))) : EE i (.Constant (.int n) j pos) ρ Φ := fun σ Hf H Q r x q => ex_int (q (.int n) (.py (.int n)) Hf H (.refl x) (Dp.int n) h)
theorem ee_bl {n : Bool} {j : Nat} (h : Φ (.py (.bool n))) : EE i (.Constant (.bool n) j pos) ρ Φ := fun σ Hf H Q r x q => ex_bl (q (.bl n) (.py (.bool n)) Hf H (.refl x) (Dp.bl n) h)
theorem ee_str {n : Str} {j : Nat} (h : Φ (.py (.str n))) : EE i (.Constant (.str n) j pos) ρ Φ := fun σ Hf H Q r x q => ex_str (q (.str n) (.py (.str n)) Hf H (.refl x) (Dp.str n) h)
theorem ee_non {j : Nat} (h : Φ (.py .none)) : EE i (.Constant .none j pos) ρ Φ := fun σ Hf H Q r x q => ex_non (q .non (.py .none) Hf H (.refl x) Dp.non h)
/-- a constant of the module -/
theorem ee_glob {x : Str} {v : V} {u : Value} {d : Dt} (hg : GlS i.sc x) (hm : i.mg x = some u) (r : RelV v u) (hd : ∀ H, Rp i.K H v d) (h : Φ d) (hdb : (x == ("__debug__" : Str)) = false := by decide) : EE i (.Name x pos) ρ Φ := fun σ Hf H Q _ e q =>
  ex_glob hg hm r (q v d Hf H (.refl e) (hd _) h) hdb
theorem ee_globInt {x : Str} {n : Int} (hm : ∃ t, i.mg x = some (.int n t)) (hg : GlS i.sc x) (h : Φ (.py (.int n))) (hdb : (x == ("__debug__" : Str)) = false := by decide) : EE i (.Name x pos) ρ Φ := by
  obtain ⟨t, hm⟩ := hm
  exact ee_glob (v := .int n) hg hm ⟨t, rfl⟩ (fun _ => rpy (Dp.int n)) h hdb

/-! a binary operator, by what it does on data -/
def OpD (i : XI) (f : Value → Value → Sem Value) (x y : Dt) (Φ : Dt → Prop) : Prop := ∀ X, XOk i X → ∀ pins s σ Hf H v u vv uu Q, Inv X pins σ H s → Ex Hf H → Rp i.K Hf v x → Rp i.K Hf u y → RelV v vv → RelV u uu →
  (∀ z d Hf' H', Tr Hf H Hf' H' → Rp i.K Hf' z d → Φ d → Q z H') → wpAny (model X.prog X.w) X.A (f vv uu) (EP X pins σ Q) X.xe s
theorem opD_of {f : Value → Value → Sem Value} {r : R2} {x y : Dt} (ho : ∀ X, XOk i X → OpR X f r)
    (h : ∀ Hf H v u Q, Ex Hf H → Rp i.K Hf v x → Rp i.K Hf u y → (∀ z d Hf' H', Tr Hf H Hf' H' → Rp i.K Hf' z d → Φ d → Q z H') → r v u H Q) : OpD i f x y Φ :=
  fun X ok pins s σ Hf H v u vv uu Q I e r1 r2 rv ru q => ho X ok pins s σ H v u vv uu Q I rv ru (h Hf H v u Q e r1 r2 q)
/-- the rule: a, then b, then f on both; the state behind both is what it runs in -/
theorem ee_bin2 {f : Value → Value → Sem Value} {whole : Expr} (hw : ∀ X, XOk i X → ∀ r : R2, OpR X f r → ∀ ta tb, PE X a ta → PE X b tb → PE X whole (tOp r ta tb))
    (h : EE i a ρ fun x => EE i b ρ fun y => OpD i f x y Φ) : EE i whole ρ Φ := fun σ Hf H Q hr e q => by
  refine ⟨fun X ok pins s I => ?_⟩
  have hO : OpR X f (fun v u H2 Q2 => ∃ x y Hf2, Ex Hf2 H2 ∧ Rp i.K Hf2 v x ∧ Rp i.K Hf2 u y ∧ OpD i f x y Φ ∧ ∀ z d Hf' H', Tr Hf2 H2 Hf' H' → Rp i.K Hf' z d → Φ d → Q2 z H') := by
    intro pins s σ H2 v u vv uu Q2 I rv ru hh
    obtain ⟨x, y, Hf2, e2, r1, r2, o, q2⟩ := hh
    exact o X ok pins s σ Hf2 H2 v u vv uu Q2 I e2 r1 r2 rv ru q2
  refine (hw X ok _ hO (EX i a) (EX i b) (EX.pe ok) (EX.pe ok)).run pins s σ H Q I ?_
  refine h σ Hf H _ hr e fun v x Hf1 H1 t1 r1 hx => ?_
  refine hx σ Hf1 H1 _ (hr.mono t1.f) t1.i fun u y Hf2 H2 t2 r2 hy => ?_
  exact ⟨x, y, Hf2, t2.i, rp_mono t2.f r1, r2, hy, fun z d Hf' H' t3 r3 φ => q z d Hf' H' ((t1.trans t2).trans t3) r3 φ⟩
theorem ee_op {op : Operator} (h : EE i a ρ fun x => EE i b ρ fun y => OpD i (binaryOp op) x y Φ) : EE i (.BinOp a op b pos) ρ Φ := ee_bin2 (fun X ok r hr ta tb h1 h2 => pe_op hr h1 h2) h
theorem ee_cmp {op : CmpOp} (h : EE i a ρ fun x => EE i b ρ fun y => OpD i (compareOp op) x y Φ) (hm : behindInMarks op b = false := by first | exact nomark _ | rfl) : EE i (.Compare a [op] [b] pos) ρ Φ := ee_bin2 (fun X ok r hr ta tb h1 h2 => pe_cmpR hr h1 h2 hm) h
theorem et_cmp {op : CmpOp} (h : EE i a ρ fun x => EE i b ρ fun y => OpD i (compareOp op) x y fun d => ∃ k, d = .py (.bool k) ∧ Φb k) (hm : behindInMarks op b = false := by first | exact nomark _ | rfl) : ET i (.Compare a [op] [b] pos) ρ Φb := fun σ Hf H Q hr e q => by
  refine ⟨fun X ok pins s I => ?_⟩
  have hO : OpR X (compareOp op) (fun v u H2 Q2 => ∃ x y Hf2, Ex Hf2 H2 ∧ Rp i.K Hf2 v x ∧ Rp i.K Hf2 u y ∧ (OpD i (compareOp op) x y fun d => ∃ k, d = .py (.bool k) ∧ Φb k) ∧ ∀ z d Hf' H', Tr Hf2 H2 Hf' H' → Rp i.K Hf' z d → (∃ k, d = .py (.bool k) ∧ Φb k) → Q2 z H') := by
    intro pins s σ H2 v u vv uu Q2 I rv ru hh
    obtain ⟨x, y, Hf2, e2, r1, r2, o, q2⟩ := hh
    exact o X ok pins s σ Hf2 H2 v u vv uu Q2 I e2 r1 r2 rv ru q2
  refine (pt_cmpR hO (EX.pe (i := i) ok) (EX.pe (i := i) ok) hm).run pins s σ H Q I ?_
  refine h σ Hf H _ hr e fun v x Hf1 H1 t1 r1 hx => ?_
  refine hx σ Hf1 H1 _ (hr.mono t1.f) t1.i fun u y Hf2 H2 t2 r2 hy => ?_
  refine ⟨x, y, Hf2, t2.i, rp_mono t2.f r1, r2, hy, fun z d Hf' H' t3 r3 φ => ?_⟩
  obtain ⟨k, rfl, φ⟩ := φ
  cases r3
  exact ⟨k, rfl, q k Hf' H' ((t1.trans t2).trans t3) φ⟩
/-- an expression that gives a truth, as a test -/
theorem et_val (h : EE i e ρ fun d => ∃ k, d = .py (.bool k) ∧ Φb k) (he : ∀ env whole, isTrue e env whole = (do let v ← whole; standAt e.pos; holding [v] (truthy v)) := by intro _ _; rfl) : ET i e ρ Φb := fun σ Hf H Q hr x q =>
  tx_val (h σ Hf H _ hr x fun v d Hf' H' t r1 φ => by
    obtain ⟨k, rfl, φ⟩ := φ
    cases r1
    exact ⟨k, rfl, q k Hf' H' t φ⟩) he
theorem et_w (h : EW i e ρ Φb) : ET i e ρ Φb := fun σ Hf H Q r x q => tx_w (h σ Hf H Q r x q)
theorem ew_and1 (h : ET i a ρ Φb) : EW i (.BoolOp .And [a] pos) ρ Φb := fun σ Hf H Q r x q => wx_and1 (h σ Hf H Q r x q)
theorem ew_or1 (h : ET i a ρ Φb) : EW i (.BoolOp .Or [a] pos) ρ Φb := fun σ Hf H Q r x q => wx_or1 (h σ Hf H Q r x q)
theorem ew_and (h : ET i a ρ fun c => if c = true then EW i (.BoolOp .And (b :: rest) pos) ρ Φb else Φb false) : EW i (.BoolOp .And (a :: b :: rest) pos) ρ Φb := fun σ Hf H Q r x q =>
  wx_and (h σ Hf H _ r x fun c Hf1 H1 t1 φ => by
    cases c with
    | true => exact φ σ Hf1 H1 Q (r.mono t1.f) t1.i fun k Hf2 H2 t2 φ2 => q k Hf2 H2 (t1.trans t2) φ2
    | false => exact q false Hf1 H1 t1 φ)
theorem ew_or (h : ET i a ρ fun c => if c = true then Φb true else EW i (.BoolOp .Or (b :: rest) pos) ρ Φb) : EW i (.BoolOp .Or (a :: b :: rest) pos) ρ Φb := fun σ Hf H Q r x q =>
  wx_or (h σ Hf H _ r x fun c Hf1 H1 t1 φ => by
    cases c with
    | false => exact φ σ Hf1 H1 Q (r.mono t1.f) t1.i fun k Hf2 H2 t2 φ2 => q k Hf2 H2 (t1.trans t2) φ2
    | true => exact q true Hf1 H1 t1 φ)
theorem et_not (h : ET i a ρ fun c => Φb (!c)) : ET i (.UnaryOp .Not a pos) ρ Φb := fun σ Hf H Q r x q => tx_not (h σ Hf H _ r x fun c Hf1 H1 t1 φ => q _ Hf1 H1 t1 φ)
theorem ee_one {op} (h : EE i a ρ Φ) : EE i (.BoolOp op [a] pos) ρ Φ := fun σ Hf H Q r x q => ex_one (h σ Hf H Q r x q)
theorem ee_and (h : EE i a ρ fun d => ∃ c, d = .py (.bool c) ∧ if c = true then EE i (.BoolOp .And (b :: rest) pos) ρ Φ else Φ (.py (.bool false))) : EE i (.BoolOp .And (a :: b :: rest) pos) ρ Φ := fun σ Hf H Q r x q =>
  ex_and (h σ Hf H _ r x fun v d Hf1 H1 t1 r1 φ => by
    obtain ⟨c, rfl, φ⟩ := φ
    cases r1
    refine ⟨c, rfl, ?_⟩
    cases c with
    | true => exact φ σ Hf1 H1 Q (r.mono t1.f) t1.i fun k d Hf2 H2 t2 r2 φ2 => q k d Hf2 H2 (t1.trans t2) r2 φ2
    | false => exact q _ _ Hf1 H1 t1 (rpy (Dp.bl false)) φ)
theorem ee_or (h : EE i a ρ fun d => ∃ c, d = .py (.bool c) ∧ if c = true then Φ (.py (.bool true)) else EE i (.BoolOp .Or (b :: rest) pos) ρ Φ) : EE i (.BoolOp .Or (a :: b :: rest) pos) ρ Φ := fun σ Hf H Q r x q =>
  ex_or (h σ Hf H _ r x fun v d Hf1 H1 t1 r1 φ => by
    obtain ⟨c, rfl, φ⟩ := φ
    cases r1
    refine ⟨c, rfl, ?_⟩
    cases c with
    | false => exact φ σ Hf1 H1 Q (r.mono t1.f) t1.i fun k d Hf2 H2 t2 r2 φ2 => q k d Hf2 H2 (t1.trans t2) r2 φ2
    | true => exact q _ _ Hf1 H1 t1 (rpy (Dp.bl true)) φ)
theorem ee_not (h : EE i a ρ fun d => ∃ c, d = .py (.bool c) ∧ Φ (.py (.bool (!c)))) : EE i (.UnaryOp .Not a pos) ρ Φ := fun σ Hf H Q r x q =>
  ex_not (h σ Hf H _ r x fun v d Hf1 H1 t1 r1 φ => by
    obtain ⟨c, rfl, φ⟩ := φ
    cases r1
    exact ⟨c, rfl, q _ _ Hf1 H1 t1 (rpy (Dp.bl _)) φ⟩)
theorem ea_nil {Φa : List Dt → Prop} (h : Φa []) : EA i [] ρ Φa := fun σ Hf H Q r x q => ax_nil (q [] [] Hf H (.refl x) .nil h)
theorem ea_cons {Φa : List Dt → Prop} (h : EE i e ρ fun x => EA i es ρ fun xs => Φa (x :: xs)) (hs : ∀ env, starEach (e :: es) env = (false, eval e env) :: starEach es env := by intro _; rfl) : EA i (e :: es) ρ Φa := fun σ Hf H Q r x q =>
  ax_cons (h σ Hf H _ r x fun v d Hf1 H1 t1 r1 φ => φ σ Hf1 H1 _ (r.mono t1.f) t1.i fun vs ds Hf2 H2 t2 r2 φ2 => q (v :: vs) (d :: ds) Hf2 H2 (t1.trans t2) (.cons (rp_mono t2.f r1) r2) φ2) hs
/-- all data of a list of values -/
inductive PyAll : List Dt → List PyData → Prop
  | nil : PyAll [] []
  | cons {d : PyData} {ds : List Dt} {xs : List PyData} : PyAll ds xs → PyAll (.py d :: ds) (d :: xs)
theorem dpAll_of {K : PySem.W.Frag} {H : Hp} {vs : List V} {ds : List Dt} {xs : List PyData} (h : RpL K H vs ds) (p : PyAll ds xs) : DpAll K H vs xs := by
  induction p generalizing vs with
  | nil =>
    cases h
    exact .nil
  | cons p ih =>
    cases h with
    | cons r t => exact .cons r (ih t)
theorem dpAll_len {K : PySem.W.Frag} {H : Hp} : ∀ {vs : List V} {ds : List PyData}, DpAll K H vs ds → vs.length = ds.length
  | [], [], _ => rfl
  | [], _ :: _, h => nomatch h
  | _ :: _, [], h => nomatch h
  | _ :: vs, _ :: ds, h => by
    have t : DpAll K H vs ds := by
      cases h with
      | cons _ t => exact t
    rw [List.length_cons, List.length_cons, dpAll_len t]
theorem dp_tup_new {K : PySem.W.Frag} {H : Hp} {p : Addr} {vs : List V} {ds : List PyData} (h : DpAll K H vs ds) (hp : H p = none) : Dp K (upd H p (.tup vs)) (.ref p) (.tuple ds) := .tup (SqT.of upd_same) (dpAll_mono (Ex.new hp) h)
theorem dp_lst_new {K : PySem.W.Frag} {H : Hp} {p : Addr} {vs : List V} {ds : List PyData} (h : DpAll K H vs ds) (hp : H p = none) : Dp K (upd H p (.lst vs)) (.ref p) (.list ds) := .lst (SqL.of upd_same) (dpAll_mono (Ex.new hp) h)
theorem ee_tup {x1} (h : EA i es ρ fun ds => ∃ xs, PyAll ds xs ∧ xs.length ≤ 100000 ∧ Φ (.py (.tuple xs))) : EE i (.Tuple es x1 pos) ρ Φ := fun σ Hf H Q r x q =>
  ex_tup (h σ Hf H _ r x fun vs ds Hf1 H1 t1 r1 φ => by
    obtain ⟨xs, hp, hl, φ⟩ := φ
    have da := dpAll_of r1 hp
    exact ⟨sz_of (by rw [dpAll_len da]; exact hl), fun p hp => q _ _ _ _ (t1.trans (.new t1.i hp)) (rpy (dp_tup_new da (fresh_back t1.i hp))) φ⟩)
theorem ee_lst (h : EA i es ρ fun ds => ∃ xs, PyAll ds xs ∧ xs.length ≤ 100000 ∧ Φ (.py (.list xs))) : EE i (.List es pos) ρ Φ := fun σ Hf H Q r x q =>
  ex_lst (h σ Hf H _ r x fun vs ds Hf1 H1 t1 r1 φ => by
    obtain ⟨xs, hp, hl, φ⟩ := φ
    have da := dpAll_of r1 hp
    exact ⟨sz_of (by rw [dpAll_len da]; exact hl), fun p hp => q _ _ _ _ (t1.trans (.new t1.i hp)) (rpy (dp_lst_new da (fresh_back t1.i hp))) φ⟩)

/-! ### calls of defs that are pure: a promise by data -/
abbrev Sg := List Dt → (Dt → Prop) → Prop
def spD (K : PySem.W.Frag) (n : Nat) (S : Sg) : Sp := fun vs H Q _ => ∃ Hf ds Φ, RpL K Hf vs ds ∧ Ex Hf H ∧ ds.length = n ∧ S ds Φ ∧ ∀ v d Hf' H', Tr Hf H Hf' H' → Rp K Hf' v d → Φ d → Q v H'
theorem ee_call {x : Str} {ps : List Str} {n : Nat} {S : Sg} {p : Pos} (F : Fnc i x ps [] (spD i.K n S)) (h : EA i (e :: es) ρ fun ds => ds.length = n ∧ S ds Φ) (hg : GlS i.sc x := by rfl) (hdb : (x == ("__debug__" : Str)) = false := by decide)
    (he : ∀ env, starEach (e :: es) env = (false, eval e env) :: starEach es env := by intro _; rfl) (hpl : ∀ env, (backTo pos (starEach es env)).any (·.1) = false := by intro _; rfl) : EE i (.Call (.Name x p) (e :: es) [] pos) ρ Φ := fun σ Hf H Q r x q =>
  ex_call F hg (h σ Hf H _ r x fun vs ds Hf1 H1 t1 r1 φ => by
    rw [List.append_nil]
    exact ⟨Hf1, ds, Φ, r1, t1.i, φ.1, φ.2, fun v d Hf2 H2 t2 r2 φ2 => q v d Hf2 H2 (t1.trans t2) r2 φ2⟩) hdb he hpl
/-- with defaults that stand in the written part -/
theorem ee_callD {x : Str} {ps : List Str} {n : Nat} {S : Sg} {p : Pos} {dvs : List V} {dd : List Dt} (F : Fnc i x ps dvs (spD i.K n S)) (hd : ∀ H, RpL i.K H dvs dd) (h : EA i (e :: es) ρ fun ds => (ds ++ dd).length = n ∧ S (ds ++ dd) Φ) (hg : GlS i.sc x := by rfl) (hdb : (x == ("__debug__" : Str)) = false := by decide)
    (he : ∀ env, starEach (e :: es) env = (false, eval e env) :: starEach es env := by intro _; rfl) (hpl : ∀ env, (backTo pos (starEach es env)).any (·.1) = false := by intro _; rfl) : EE i (.Call (.Name x p) (e :: es) [] pos) ρ Φ := fun σ Hf H Q r x q =>
  ex_call F hg (h σ Hf H _ r x fun vs ds Hf1 H1 t1 r1 φ => by
    have app : ∀ {vs : List V} {ds : List Dt}, RpL i.K Hf1 vs ds → RpL i.K Hf1 (vs ++ dvs) (ds ++ dd) := fun {vs ds} h => by
      induction h with
      | nil => exact hd _
      | cons r _ ih => exact .cons r ih
    exact ⟨Hf1, ds ++ dd, Φ, app r1, t1.i, φ.1, φ.2, fun v d Hf2 H2 t2 r2 φ2 => q v d Hf2 H2 (t1.trans t2) r2 φ2⟩) hdb he hpl
/-- a built-in function, a built-in class -/
def CallD (i : XI) (f : Value) (ds : List Dt) (Φ : Dt → Prop) : Prop := ∀ X, XOk i X → ∀ pins s σ Hf H vs us Q, Inv X pins σ H s → Ex Hf H → RpL i.K Hf vs ds → Vals vs us →
  (∀ z d Hf' H', Tr Hf H Hf' H' → Rp i.K Hf' z d → Φ d → Q z H') → wpAny (model X.prog X.w) X.A (call f us) (EP X pins σ Q) X.xe s
theorem callD_of {f : Value} {r : List V → Hp → VK → Prop} {ds : List Dt} (ho : ∀ X, XOk i X → CallR X f r)
    (h : ∀ Hf H vs Q, Ex Hf H → RpL i.K Hf vs ds → (∀ z d Hf' H', Tr Hf H Hf' H' → Rp i.K Hf' z d → Φ d → Q z H') → r vs H Q) : CallD i f ds Φ :=
  fun X ok pins s σ Hf H vs us Q I e r1 rv q => ho X ok pins s σ H vs us Q I rv (h Hf H vs Q e r1 q)
theorem ee_callB {x : Str} {id : String} {p : Pos} (hm : i.mg x = none) (hv : bootBuiltins x = some (.builtin id)) (h : EA i (e :: es) ρ fun ds => CallD i (.builtin id) ds Φ) (hg : GlS i.sc x := by rfl) (hn : x ≠ "__name__" := by decide) (hdb : (x == ("__debug__" : Str)) = false := by decide)
    (he : ∀ env, starEach (e :: es) env = (false, eval e env) :: starEach es env := by intro _; rfl) (hpl : ∀ env, (backTo pos (starEach es env)).any (·.1) = false := by intro _; rfl) : EE i (.Call (.Name x p) (e :: es) [] pos) ρ Φ := fun σ Hf H Q r x q =>
  ex_callB (r := fun vs H2 Q2 => ∃ ds Hf2, Ex Hf2 H2 ∧ RpL i.K Hf2 vs ds ∧ CallD i (.builtin id) ds Φ ∧ ∀ z d Hf' H', Tr Hf2 H2 Hf' H' → Rp i.K Hf' z d → Φ d → Q2 z H') (fun X ok pins s σ H2 vs us Q2 I rv ⟨ds, Hf2, e2, r2, c, q2⟩ => c X ok pins s σ Hf2 H2 vs us Q2 I e2 r2 rv q2) hg hm hv
    (h σ Hf H _ r x fun vs ds Hf1 H1 t1 r1 φ => ⟨ds, Hf1, t1.i, r1, φ, fun v d Hf2 H2 t2 r2 φ2 => q v d Hf2 H2 (t1.trans t2) r2 φ2⟩) hn hdb he hpl
theorem ee_callTy {x : Str} {T : String} {p : Pos} (hm : i.mg x = none) (hv : bootBuiltins x = some (.type T)) (h : EA i (e :: es) ρ fun ds => CallD i (.type T) ds Φ) (hg : GlS i.sc x := by rfl) (hn : x ≠ "__name__" := by decide) (hdb : (x == ("__debug__" : Str)) = false := by decide)
    (he : ∀ env, starEach (e :: es) env = (false, eval e env) :: starEach es env := by intro _; rfl) (hpl : ∀ env, (backTo pos (starEach es env)).any (·.1) = false := by intro _; rfl) : EE i (.Call (.Name x p) (e :: es) [] pos) ρ Φ := fun σ Hf H Q r x q =>
  ex_callTy (r := fun vs H2 Q2 => ∃ ds Hf2, Ex Hf2 H2 ∧ RpL i.K Hf2 vs ds ∧ CallD i (.type T) ds Φ ∧ ∀ z d Hf' H', Tr Hf2 H2 Hf' H' → Rp i.K Hf' z d → Φ d → Q2 z H') (fun X ok pins s σ H2 vs us Q2 I rv ⟨ds, Hf2, e2, r2, c, q2⟩ => c X ok pins s σ Hf2 H2 vs us Q2 I e2 r2 rv q2) hg hm hv
    (h σ Hf H _ r x fun vs ds Hf1 H1 t1 r1 φ => ⟨ds, Hf1, t1.i, r1, φ, fun v d Hf2 H2 t2 r2 φ2 => q v d Hf2 H2 (t1.trans t2) r2 φ2⟩) hn hdb he hpl
end

/-! ### statements by data -/
def BB (i : XI) (sts : List Stmt) (ρ : En) (Ψ : En → Prop) (Φ : Dt → Prop) : Prop := ∀ σ Hf H (D : Ends), RpE i.K Hf σ ρ → Ex Hf H →
  (∀ σ' ρ' Hf' H', Tr Hf H Hf' H' → RpE i.K Hf' σ' ρ' → Ψ ρ' → D.nx σ' H') → (∀ v d Hf' H', Tr Hf H Hf' H' → Rp i.K Hf' v d → Φ d → D.rt v H') → GO i sts D σ H
section
variable {i : XI} {ρ : En} {Ψ : En → Prop} {Φ : Dt → Prop} {a b e : Expr} {es : List Expr} {pos p2 : Pos} {rest : List Stmt}
theorem bb_nil (h : Ψ ρ) : BB i [] ρ Ψ Φ := fun σ Hf H D r x qn qr => go_nil (qn σ ρ Hf H (.refl x) r h)
theorem bb_ret (h : EE i e ρ Φ) : BB i (.Return (some e) pos :: rest) ρ Ψ Φ := fun σ Hf H D r x qn qr => go_ret (h σ Hf H _ r x qr)
theorem bb_set {x : Str} (j : Nat) (h : EE i e ρ fun d => BB i rest (ρ.set j (some d)) Ψ Φ) (hi : i.N[j]? = some x := by rfl) (hx : Loc i.sc x := by first | exact Or.inl rfl | exact Or.inr rfl) (hf : i.top x = true ∨ i.sc.names.lookup x = some .local := by first | exact Or.inl rfl | exact Or.inr rfl)
    (hs : ∀ env, swapsWith e (some (.Name x p2)) pos.line env = pure false := by intro _; rfl) : BB i (.Assign [.Name x p2] e pos :: rest) ρ Ψ Φ := fun σ Hf H D r x qn qr =>
  go_set j (h σ Hf H _ r x fun v d Hf1 H1 t1 r1 φ => φ (σ.set j (some v)) Hf1 H1 D ((r.mono t1.f).set r1) t1.i
    (fun σ' ρ' Hf' H' t2 r2 ψ => qn σ' ρ' Hf' H' (t1.trans t2) r2 ψ) fun v d Hf' H' t2 r2 φ2 => qr v d Hf' H' (t1.trans t2) r2 φ2) hi hx hf hs
theorem bb_expr (h : EE i e ρ fun _ => BB i rest ρ Ψ Φ) (hs : ∀ env, swapsWith e none pos.line env = pure false := by intro _; rfl) : BB i (.Expr e pos :: rest) ρ Ψ Φ := fun σ Hf H D r x qn qr =>
  go_expr (h σ Hf H _ r x fun v d Hf1 H1 t1 r1 φ => φ σ Hf1 H1 D (r.mono t1.f) t1.i (fun σ' ρ' Hf' H' t2 r2 ψ => qn σ' ρ' Hf' H' (t1.trans t2) r2 ψ) fun v d Hf' H' t2 r2 φ2 => qr v d Hf' H' (t1.trans t2) r2 φ2) hs
theorem bb_if {c : Expr} {th el : List Stmt} (h : ET i c ρ fun k => if k = true then BB i th ρ (fun ρ' => BB i rest ρ' Ψ Φ) Φ else BB i el ρ (fun ρ' => BB i rest ρ' Ψ Φ) Φ) : BB i (.If c th el pos :: rest) ρ Ψ Φ := fun σ Hf H D r x qn qr =>
  go_if (h σ Hf H _ r x fun k Hf1 H1 t1 φ => by
    have fin : ∀ sts, BB i sts ρ (fun ρ' => BB i rest ρ' Ψ Φ) Φ → GO i sts { D with nx := GO i rest D } σ H1 := fun sts hb =>
      hb σ Hf1 H1 _ (r.mono t1.f) t1.i (fun σ2 ρ2 Hf2 H2 t2 r2 h2 => h2 σ2 Hf2 H2 D r2 t2.i (fun σ' ρ' Hf' H' t3 r3 ψ => qn σ' ρ' Hf' H' ((t1.trans t2).trans t3) r3 ψ)
        fun v d Hf' H' t3 r3 φ3 => qr v d Hf' H' ((t1.trans t2).trans t3) r3 φ3) fun v d Hf' H' t2 r2 φ2 => qr v d Hf' H' (t1.trans t2) r2 φ2
    cases k with
    | true => exact iteT (fin _ φ)
    | false => exact iteF (fin _ φ))
end

/-! ### a pure def -/
section
variable {P : Program} {w : World} {K : PySem.W.Frag} {mg : Str → Option Value} {base : Heap}
abbrev st0 (N : List Str) (ds : List Dt) : En := ds.map some ++ List.replicate (N.length - ds.length) none
theorem fn_pure {x qual : Str} {params : Arguments} {body : List Stmt} {sc : Scope} {dvs : List V} {kws : List (Str × V)} {f : Addr} {fd : FuncData} {N ps : List Str} {k n : Nat} {S : Sg} (F : FunD K x qual params body sc dvs kws f fd) (Sc : FnScope N ps sc) (hn : n = ps.length)
    (h : ∀ ds Φ, ds.length = n → S ds Φ → BB (iOf P w K mg base N sc k) body (st0 N ds) (fun _ => Φ (.py .none)) Φ) : FnOk P w K mg base CX0 (k + 1) f fd ps (spD K n S) := by
  refine F.ok Sc (fun vs H Q E h => ?_) (fun cdv A outer s H vs Q E hr h0 => ?_)
  · obtain ⟨Hf, ds, Φ, r, _, hl, _⟩ := h
    rw [r.length, hl, hn]
  · obtain ⟨Hf, ds, Φ, r, e, hl, hS, q⟩ := h0
    refine ⟨GO (iOf P w K mg base N sc k) body, PSs.nox (GO.pss (xok_of Sc hr)), ?_⟩
    have hv : vs.length = ps.length := by rw [r.length, hl, hn]
    refine h ds Φ hl hS (L2.start N vs) Hf H _ ?_ e (fun σ' ρ' Hf' H' t r2 ψ => q _ _ Hf' H' t (rpy Dp.non) ψ) q
    have e1 : L2.start N vs = vs.map some ++ List.replicate (N.length - ds.length) none := by
      unfold L2.start
      rw [r.length]
    rw [e1]
    exact RpE.of_args _ r
end
end Fq
/-! FqF: the text's defs as data, what the head tells of them. -/
namespace Fq
open PySem PySem.Spec PyProof.Rows L2
def d_is_whole : He.DefD := ⟨("is_whole", none), "is_whole", "is_whole", defArgs s_is_whole, defBody s_is_whole, defScope s_is_whole, [], []⟩
def d_is_word : He.DefD := ⟨("is_word", none), "is_word", "is_word", defArgs s_is_word, defBody s_is_word, defScope s_is_word, [], []⟩
def d_is_value : He.DefD := ⟨("is_value", none), "is_value", "is_value", defArgs s_is_value, defBody s_is_value, defScope s_is_value, [], []⟩
def d_is_row : He.DefD := ⟨("is_row", none), "is_row", "is_row", defArgs s_is_row, defBody s_is_row, defScope s_is_row, [], []⟩
def d_value_key : He.DefD := ⟨("value_key", none), "value_key", "value_key", defArgs s_value_key, defBody s_value_key, defScope s_value_key, [], []⟩
def d_row_key : He.DefD := ⟨("row_key", none), "row_key", "row_key", defArgs s_row_key, defBody s_row_key, defScope s_row_key, [], []⟩
def d_value_less : He.DefD := ⟨("value_less", none), "value_less", "value_less", defArgs s_value_less, defBody s_value_less, defScope s_value_less, [], []⟩
def d_row_less : He.DefD := ⟨("row_less", none), "row_less", "row_less", defArgs s_row_less, defBody s_row_less, defScope s_row_less, [], []⟩
def d_risen : He.DefD := ⟨("risen", none), "risen", "risen", defArgs s_risen, defBody s_risen, defScope s_risen, [], []⟩
def d_values_risen : He.DefD := ⟨("values_risen", none), "values_risen", "values_risen", defArgs s_values_risen, defBody s_values_risen, defScope s_values_risen, [], []⟩
def d_are_risen : He.DefD := ⟨("are_risen", none), "are_risen", "are_risen", defArgs s_are_risen, defBody s_are_risen, defScope s_are_risen, [], []⟩
def d_are_rows : He.DefD := ⟨("are_rows", none), "are_rows", "are_rows", defArgs s_are_rows, defBody s_are_rows, defScope s_are_rows, [], []⟩
def d_is_table : He.DefD := ⟨("is_table", none), "is_table", "is_table", defArgs s_is_table, defBody s_is_table, defScope s_is_table, [], []⟩
def d_values_in : He.DefD := ⟨("values_in", none), "values_in", "values_in", defArgs s_values_in, defBody s_values_in, defScope s_values_in, [], []⟩
def d_is_book : He.DefD := ⟨("is_book", none), "is_book", "is_book", defArgs s_is_book, defBody s_is_book, defScope s_is_book, [], []⟩
def d_heads : He.DefD := ⟨("heads", none), "heads", "heads", defArgs s_heads, defBody s_heads, defScope s_heads, [], []⟩
def d_are_books : He.DefD := ⟨("are_books", none), "are_books", "are_books", defArgs s_are_books, defBody s_are_books, defScope s_are_books, [], []⟩
def d_check_number : He.DefD := ⟨("check_number", none), "check_number", "check_number", defArgs s_check_number, defBody s_check_number, defScope s_check_number, [], []⟩
def d_table_at : He.DefD := ⟨("table_at", none), "table_at", "table_at", defArgs s_table_at, defBody s_table_at, defScope s_table_at, [], []⟩
def d_wish_key : He.DefD := ⟨("wish_key", none), "wish_key", "wish_key", defArgs s_wish_key, defBody s_wish_key, defScope s_wish_key, [], []⟩
def d_fits_answer : He.DefD := ⟨("fits_answer", none), "fits_answer", "fits_answer", defArgs s_fits_answer, defBody s_fits_answer, defScope s_fits_answer, [], []⟩
def d_candidates : He.DefD := ⟨("candidates", none), "candidates", "candidates", defArgs s_candidates, defBody s_candidates, defScope s_candidates, [], []⟩
def d_counts_over : He.DefD := ⟨("counts_over", none), "counts_over", "counts_over", defArgs s_counts_over, defBody s_counts_over, defScope s_counts_over, [], []⟩
def d_table_of_asks : He.DefD := ⟨("table_of_asks", none), "table_of_asks", "table_of_asks", defArgs s_table_of_asks, defBody s_table_of_asks, defScope s_table_of_asks, [], []⟩
def d_worse_side : He.DefD := ⟨("worse_side", none), "worse_side", "worse_side", defArgs s_worse_side, defBody s_worse_side, defScope s_worse_side, [], []⟩
def d_next_ask : He.DefD := ⟨("next_ask", none), "next_ask", "next_ask", defArgs s_next_ask, defBody s_next_ask, defScope s_next_ask, [], []⟩
def d_named_of : He.DefD := ⟨("named_of", none), "named_of", "named_of", defArgs s_named_of, defBody s_named_of, defScope s_named_of, [], []⟩
def d_deeds_of : He.DefD := ⟨("deeds_of", none), "deeds_of", "deeds_of", defArgs s_deeds_of, defBody s_deeds_of, defScope s_deeds_of, [], []⟩
def d_Field_init : He.DefD := ⟨("Field", some "__init__"), "__init__", "Field.__init__", defArgs s_Field_init, defBody s_Field_init, defScope s_Field_init, [], []⟩
def d_Field_len : He.DefD := ⟨("Field", some "__len__"), "__len__", "Field.__len__", defArgs s_Field_len, defBody s_Field_len, defScope s_Field_len, [], []⟩
def d_names_of : He.DefD := ⟨("names_of", none), "names_of", "names_of", defArgs s_names_of, defBody s_names_of, defScope s_names_of, [], []⟩
def d_table_columns : He.DefD := ⟨("table_columns", none), "table_columns", "table_columns", defArgs s_table_columns, defBody s_table_columns, defScope s_table_columns, [], []⟩
def d_rows_of : He.DefD := ⟨("rows_of", none), "rows_of", "rows_of", defArgs s_rows_of, defBody s_rows_of, defScope s_rows_of, [], []⟩
def d_picked_rows : He.DefD := ⟨("picked_rows", none), "picked_rows", "picked_rows", defArgs s_picked_rows, defBody s_picked_rows, defScope s_picked_rows, [], []⟩
def d_done_on_one : He.DefD := ⟨("done_on_one", none), "done_on_one", "done_on_one", defArgs s_done_on_one, defBody s_done_on_one, defScope s_done_on_one, [], []⟩
def d_done_on : He.DefD := ⟨("done_on", none), "done_on", "done_on", defArgs s_done_on, defBody s_done_on, defScope s_done_on, [.adr (He.dflAt ("done_on", none) 0)], []⟩
def d_is_column : He.DefD := ⟨("is_column", none), "is_column", "is_column", defArgs s_is_column, defBody s_is_column, defScope s_is_column, [], []⟩
def d_are_picked : He.DefD := ⟨("are_picked", none), "are_picked", "are_picked", defArgs s_are_picked, defBody s_are_picked, defScope s_are_picked, [], []⟩
def d_is_named : He.DefD := ⟨("is_named", none), "is_named", "is_named", defArgs s_is_named, defBody s_is_named, defScope s_is_named, [], []⟩
def d_columns_by_one : He.DefD := ⟨("columns_by_one", none), "columns_by_one", "columns_by_one", defArgs s_columns_by_one, defBody s_columns_by_one, defScope s_columns_by_one, [], []⟩
def d_looked : He.DefD := ⟨("looked", none), "looked", "looked", defArgs s_looked, defBody s_looked, defScope s_looked, [], []⟩
def d_is_question : He.DefD := ⟨("is_question", none), "is_question", "is_question", defArgs s_is_question, defBody s_is_question, defScope s_is_question, [], []⟩
def d_check_question : He.DefD := ⟨("check_question", none), "check_question", "check_question", defArgs s_check_question, defBody s_check_question, defScope s_check_question, [], []⟩
def d_columns_of : He.DefD := ⟨("columns_of", none), "columns_of", "columns_of", defArgs s_columns_of, defBody s_columns_of, defScope s_columns_of, [], []⟩
def d_parts_of : He.DefD := ⟨("parts_of", none), "parts_of", "parts_of", defArgs s_parts_of, defBody s_parts_of, defScope s_parts_of, [], []⟩
def d_size_of : He.DefD := ⟨("size_of", none), "size_of", "size_of", defArgs s_size_of, defBody s_size_of, defScope s_size_of, [], []⟩
def d_given_text : He.DefD := ⟨("given_text", none), "given_text", "given_text", defArgs s_given_text, defBody s_given_text, defScope s_given_text, [], []⟩
def d_text_of : He.DefD := ⟨("text_of", none), "text_of", "text_of", defArgs s_text_of, defBody s_text_of, defScope s_text_of, [], []⟩
def d_rank : He.DefD := ⟨("rank", none), "rank", "rank", defArgs s_rank, defBody s_rank, defScope s_rank, [], []⟩
def d_rows_told : He.DefD := ⟨("rows_told", none), "rows_told", "rows_told", defArgs s_rows_told, defBody s_rows_told, defScope s_rows_told, [], []⟩
def d_answer : He.DefD := ⟨("answer", none), "answer", "answer", defArgs s_answer, defBody s_answer, defScope s_answer, [], []⟩
def d_picks : He.DefD := ⟨("picks", none), "picks", "picks", defArgs s_picks, defBody s_picks, defScope s_picks, [], []⟩
def d_moves_by_word : He.DefD := ⟨("moves_by_word", none), "moves_by_word", "moves_by_word", defArgs s_moves_by_word, defBody s_moves_by_word, defScope s_moves_by_word, [], []⟩
def d_moves_on_one : He.DefD := ⟨("moves_on_one", none), "moves_on_one", "moves_on_one", defArgs s_moves_on_one, defBody s_moves_on_one, defScope s_moves_on_one, [], []⟩
def d_lot_of : He.DefD := ⟨("lot_of", none), "lot_of", "lot_of", defArgs s_lot_of, defBody s_lot_of, defScope s_lot_of, [], []⟩
def d_lots_by_one : He.DefD := ⟨("lots_by_one", none), "lots_by_one", "lots_by_one", defArgs s_lots_by_one, defBody s_lots_by_one, defScope s_lots_by_one, [], []⟩
def d_key_of : He.DefD := ⟨("key_of", none), "key_of", "key_of", defArgs s_key_of, defBody s_key_of, defScope s_key_of, [], []⟩
def d_made_lots : He.DefD := ⟨("made_lots", none), "made_lots", "made_lots", defArgs s_made_lots, defBody s_made_lots, defScope s_made_lots, [], []⟩
def d_lot_rank : He.DefD := ⟨("lot_rank", none), "lot_rank", "lot_rank", defArgs s_lot_rank, defBody s_lot_rank, defScope s_lot_rank, [], []⟩
def d_further : He.DefD := ⟨("further", none), "further", "further", defArgs s_further, defBody s_further, defScope s_further, [], []⟩
def d_reach : He.DefD := ⟨("reach", none), "reach", "reach", defArgs s_reach, defBody s_reach, defScope s_reach, [], []⟩
def d_check_size : He.DefD := ⟨("check_size", none), "check_size", "check_size", defArgs s_check_size, defBody s_check_size, defScope s_check_size, [], []⟩
def d_stands_at : He.DefD := ⟨("stands_at", none), "stands_at", "stands_at", defArgs s_stands_at, defBody s_stands_at, defScope s_stands_at, [], []⟩
def d_with_wish : He.DefD := ⟨("with_wish", none), "with_wish", "with_wish", defArgs s_with_wish, defBody s_with_wish, defScope s_with_wish, [], []⟩
def d_without_wish : He.DefD := ⟨("without_wish", none), "without_wish", "without_wish", defArgs s_without_wish, defBody s_without_wish, defScope s_without_wish, [], []⟩
def d_State_init : He.DefD := ⟨("State", some "__init__"), "__init__", "State.__init__", defArgs s_State_init, defBody s_State_init, defScope s_State_init, [], []⟩
def d_check_place : He.DefD := ⟨("check_place", none), "check_place", "check_place", defArgs s_check_place, defBody s_check_place, defScope s_check_place, [], []⟩
def d_wishes_behind : He.DefD := ⟨("wishes_behind", none), "wishes_behind", "wishes_behind", defArgs s_wishes_behind, defBody s_wishes_behind, defScope s_wishes_behind, [], []⟩
def d_behind : He.DefD := ⟨("behind", none), "behind", "behind", defArgs s_behind, defBody s_behind, defScope s_behind, [], []⟩
def d_Seeker_init : He.DefD := ⟨("Seeker", some "__init__"), "__init__", "Seeker.__init__", defArgs s_Seeker_init, defBody s_Seeker_init, defScope s_Seeker_init, [], []⟩
def d_Seeker_note : He.DefD := ⟨("Seeker", some "note"), "note", "Seeker.note", defArgs s_Seeker_note, defBody s_Seeker_note, defScope s_Seeker_note, [], []⟩
def d_Seeker_step : He.DefD := ⟨("Seeker", some "step"), "step", "Seeker.step", defArgs s_Seeker_step, defBody s_Seeker_step, defScope s_Seeker_step, [], []⟩
def d_Seeker_deed : He.DefD := ⟨("Seeker", some "deed"), "deed", "Seeker.deed", defArgs s_Seeker_deed, defBody s_Seeker_deed, defScope s_Seeker_deed, [], []⟩
def d_Seeker_wish : He.DefD := ⟨("Seeker", some "wish"), "wish", "Seeker.wish", defArgs s_Seeker_wish, defBody s_Seeker_wish, defScope s_Seeker_wish, [], []⟩
def d_Seeker_shun : He.DefD := ⟨("Seeker", some "shun"), "shun", "Seeker.shun", defArgs s_Seeker_shun, defBody s_Seeker_shun, defScope s_Seeker_shun, [], []⟩
def d_Seeker_forget : He.DefD := ⟨("Seeker", some "forget"), "forget", "Seeker.forget", defArgs s_Seeker_forget, defBody s_Seeker_forget, defScope s_Seeker_forget, [], []⟩
def d_Seeker_standing : He.DefD := ⟨("Seeker", some "standing"), "standing", "Seeker.standing", defArgs s_Seeker_standing, defBody s_Seeker_standing, defScope s_Seeker_standing, [], []⟩
def d_Seeker_reached : He.DefD := ⟨("Seeker", some "reached"), "reached", "Seeker.reached", defArgs s_Seeker_reached, defBody s_Seeker_reached, defScope s_Seeker_reached, [], []⟩
def d_Seeker_fitting : He.DefD := ⟨("Seeker", some "fitting"), "fitting", "Seeker.fitting", defArgs s_Seeker_fitting, defBody s_Seeker_fitting, defScope s_Seeker_fitting, [], []⟩
def d_Seeker_least : He.DefD := ⟨("Seeker", some "least"), "least", "Seeker.least", defArgs s_Seeker_least, defBody s_Seeker_least, defScope s_Seeker_least, [], []⟩
def d_Seeker_ask : He.DefD := ⟨("Seeker", some "ask"), "ask", "Seeker.ask", defArgs s_Seeker_ask, defBody s_Seeker_ask, defScope s_Seeker_ask, [], []⟩
def d_law_take : He.DefD := ⟨("_law_take", none), "_law_take", "_law_take", defArgs s_law_take, defBody s_law_take, defScope s_law_take, [], []⟩
def d_law_word : He.DefD := ⟨("_law_word", none), "_law_word", "_law_word", defArgs s_law_word, defBody s_law_word, defScope s_law_word, [], []⟩
def d_law_pool : He.DefD := ⟨("_law_pool", none), "_law_pool", "_law_pool", defArgs s_law_pool, defBody s_law_pool, defScope s_law_pool, [], []⟩
def d_law_sorted : He.DefD := ⟨("_law_sorted", none), "_law_sorted", "_law_sorted", defArgs s_law_sorted, defBody s_law_sorted, defScope s_law_sorted, [], []⟩
def d_law_tables : He.DefD := ⟨("_law_tables", none), "_law_tables", "_law_tables", defArgs s_law_tables, defBody s_law_tables, defScope s_law_tables, [], []⟩
def d_law_books : He.DefD := ⟨("_law_books", none), "_law_books", "_law_books", defArgs s_law_books, defBody s_law_books, defScope s_law_books, [], []⟩
def d_law_small : He.DefD := ⟨("_law_small", none), "_law_small", "_law_small", defArgs s_law_small, defBody s_law_small, defScope s_law_small, [], []⟩
def d_law_places : He.DefD := ⟨("_law_places", none), "_law_places", "_law_places", defArgs s_law_places, defBody s_law_places, defScope s_law_places, [], []⟩
def d_law_having : He.DefD := ⟨("_law_having", none), "_law_having", "_law_having", defArgs s_law_having, defBody s_law_having, defScope s_law_having, [], []⟩
def d_law_lacking : He.DefD := ⟨("_law_lacking", none), "_law_lacking", "_law_lacking", defArgs s_law_lacking, defBody s_law_lacking, defScope s_law_lacking, [], []⟩
def d_law_parts : He.DefD := ⟨("_law_parts", none), "_law_parts", "_law_parts", defArgs s_law_parts, defBody s_law_parts, defScope s_law_parts, [], []⟩
def d_law_is_best : He.DefD := ⟨("_law_is_best", none), "_law_is_best", "_law_is_best", defArgs s_law_is_best, defBody s_law_is_best, defScope s_law_is_best, [], []⟩
def d_law : He.DefD := ⟨("law", none), "law", "law", defArgs s_law, defBody s_law, defScope s_law, [], []⟩

def fns0 : List He.DefD := [d_is_whole, d_is_word, d_is_value, d_is_row, d_value_key, d_row_key, d_value_less, d_row_less, d_risen, d_values_risen, d_are_risen, d_are_rows, d_is_table, d_values_in, d_is_book, d_heads, d_are_books, d_check_number, d_table_at, d_wish_key, d_fits_answer, d_candidates, d_counts_over, d_table_of_asks, d_worse_side, d_next_ask, d_named_of, d_deeds_of, d_Field_init, d_Field_len]
def fns1 : List He.DefD := [d_names_of, d_table_columns, d_rows_of, d_picked_rows, d_done_on_one, d_done_on, d_is_column, d_are_picked, d_is_named, d_columns_by_one, d_looked, d_is_question, d_check_question, d_columns_of, d_parts_of, d_size_of, d_given_text, d_text_of, d_rank, d_rows_told, d_answer, d_picks, d_moves_by_word, d_moves_on_one, d_lot_of, d_lots_by_one, d_key_of, d_made_lots, d_lot_rank, d_further]
def fns2 : List He.DefD := [d_reach, d_check_size, d_stands_at, d_with_wish, d_without_wish, d_State_init, d_check_place, d_wishes_behind, d_behind, d_Seeker_init, d_Seeker_note, d_Seeker_step, d_Seeker_deed, d_Seeker_wish, d_Seeker_shun, d_Seeker_forget, d_Seeker_standing, d_Seeker_reached, d_Seeker_fitting, d_Seeker_least, d_Seeker_ask, d_law_take, d_law_word, d_law_pool, d_law_sorted, d_law_tables, d_law_books, d_law_small, d_law_places, d_law_having]
def fns3 : List He.DefD := [d_law_lacking, d_law_parts, d_law_is_best, d_law]
def fns : List He.DefD := fns0 ++ fns1 ++ fns2 ++ fns3
def fas0 : List He.Fa := [.glo "is_whole", .glo "is_word", .glo "is_value", .glo "is_row", .glo "value_key", .glo "row_key", .glo "value_less", .glo "row_less", .glo "risen", .glo "values_risen", .glo "are_risen", .glo "are_rows", .glo "is_table", .glo "values_in", .glo "is_book", .glo "heads", .glo "are_books", .glo "check_number", .glo "table_at", .glo "wish_key", .glo "fits_answer", .glo "candidates", .glo "counts_over", .glo "table_of_asks", .glo "worse_side", .glo "next_ask", .glo "named_of", .glo "deeds_of", .glo "names_of", .glo "table_columns"]
def fas1 : List He.Fa := [.glo "rows_of", .glo "picked_rows", .glo "done_on_one", .glo "done_on", .glo "is_column", .glo "are_picked", .glo "is_named", .glo "columns_by_one", .glo "looked", .glo "is_question", .glo "check_question", .glo "columns_of", .glo "parts_of", .glo "size_of", .glo "given_text", .glo "text_of", .glo "rank", .glo "rows_told", .glo "answer", .glo "picks", .glo "moves_by_word", .glo "moves_on_one", .glo "lot_of", .glo "lots_by_one", .glo "key_of", .glo "made_lots", .glo "lot_rank", .glo "further", .glo "reach", .glo "check_size"]
def fas2 : List He.Fa := [.glo "stands_at", .glo "with_wish", .glo "without_wish", .glo "check_place", .glo "wishes_behind", .glo "behind", .glo "_law_take", .glo "_law_word", .glo "_law_pool", .glo "_law_sorted", .glo "_law_tables", .glo "_law_books", .glo "_law_small", .glo "_law_places", .glo "_law_having", .glo "_law_lacking", .glo "_law_parts", .glo "_law_is_best", .glo "law", .glo "Field", .cls "Field", .mkr "Field", .glo "State", .cls "State", .mkr "State", .glo "Seeker", .cls "Seeker", .mkr "Seeker", .noat "Field" "books", .noat "Field" "named"]
def fas3 : List He.Fa := [.noat "Field" "deeds", .noat "State" "field", .noat "State" "far", .noat "State" "wishes", .noat "Seeker" "state", .noat "Seeker" "across", .noat "Seeker" "elder", .noat "Seeker" "kept", .noat "Seeker" "noted", .meth "Seeker" "note", .meth "Seeker" "step", .meth "Seeker" "deed", .meth "Seeker" "wish", .meth "Seeker" "shun", .meth "Seeker" "forget", .meth "Seeker" "standing", .meth "Seeker" "reached", .meth "Seeker" "fitting", .meth "Seeker" "least", .meth "Seeker" "ask", .free "isinstance", .free "int", .free "bool", .free "str", .free "tuple", .free "list", .free "len", .free "all", .free "any", .free "sorted"]
def fas4 : List He.Fa := [.free "zip", .free "range", .free "enumerate", .free "max", .free "min", .free "set", .free "sum", .int "GREATEST" 1000000000, .int "WIDE" 3, .int "ROWS" 6, .int "TABLES" 3, .int "MANY" 3, .int "VALUES" 18, .int "NAMED" 3, .int "SIZE" 40, .int "FAR" 8, .int "LOTS" 300, .int "LOG" 30, .int "LONGEST" 8, .str "LETTERS" "abcdefghijklmnopqrstuvwxyz", .glo "DEEDS", .glo "ONE", .meth "Field" "__len__"]
def fas : List He.Fa := fas0 ++ fas1 ++ fas2 ++ fas3 ++ fas4
def loo0 : List PySem.Str := ["_wall", "FindError", "NoField", "NoName", "NoBook", "NoRow", "Taken", "Missing", "Full", "NoQuestion", "TooManyLots", "NoSize", "NothingDone", "NoColumns", "GREATEST", "WIDE", "ROWS", "TABLES", "MANY", "VALUES", "NAMED", "SIZE", "FAR", "LOTS", "LOG", "LONGEST", "LETTERS", "DEEDS", "is_whole", "is_word"]
def loo1 : List PySem.Str := ["is_value", "is_row", "value_key", "row_key", "value_less", "row_less", "risen", "values_risen", "are_risen", "are_rows", "is_table", "values_in", "is_book", "heads", "are_books", "check_number", "table_at", "with_rows", "rows_for", "row_in", "row_out", "wish_key", "fits_answer", "candidates", "counts_over", "table_of_asks", "worse_side", "next_ask", "named_of", "deeds_of"]
def loo2 : List PySem.Str := ["Field", "names_of", "table_columns", "rows_of", "picked_rows", "rows_by_value", "joined_rows", "partnered", "done_on_one", "done_on", "ONE", "TWO", "is_column", "are_picked", "is_named", "columns_by_one", "columns_by_two", "looked_by_one", "looked_by_two", "looked", "is_question", "check_question", "columns_of", "parts_of", "size_of", "given_text", "text_of", "rank", "deed_of", "rows_told"]
def loo3 : List PySem.Str := ["answer", "picks", "moves_by_word", "moves_on_one", "moves_on_two", "lot_of", "lots_by_one", "lots_by_two", "key_of", "made_lots", "lot_rank", "further", "reach", "check_size", "stands_at", "with_wish", "without_wish", "State", "with_books", "check_place", "wishes_behind", "behind", "Seeker", "_law_take", "_law_word", "_law_pool", "_law_sorted", "_law_tables", "_law_books", "_law_small"]
def loo4 : List PySem.Str := ["_law_places", "_law_having", "_law_lacking", "_law_parts", "_law_is_best"]
def loo : List PySem.Str := loo0 ++ loo1 ++ loo2 ++ loo3 ++ loo4
def deedsS : List Str := ["below", "join", "less", "same", "take", "union", "value", "with", "without"]
/-- an empty tuple stands at a -/
def etB (K : PySem.W.Frag) (a : Addr) : Bool := match K.lookup a with
  | some ⟨.type c, _, .seq its _, _⟩ => decide (c = "tuple") && decide (its.size = 0)
  | _ => false
/-- what the head tells besides -/
def exB (K : PySem.W.Frag) : Bool := He.tupB K "DEEDS" (deedsS.map He.Dv.str) && etB K (He.dflAt ("done_on", none) 0 K)
structure Hd (K : PySem.W.Frag) (mg : Str → Option Value) : Prop where
  ns : ∃ h : Heap, K.In h ∧ h.Ns mainGlobals mg
  c : He.SaysD fas fns K
  x : exB K = true
/-- a pure def, called by its name -/
structure Pf (P : Program) (w : World) (K : PySem.W.Frag) (mg : Str → Option Value) (base : Heap) (x : Str) (k : Nat) (ps : List Str) (n : Nat) (S : Sg) : Prop where
  ex : ∃ (f : Addr) (fd : FuncData), FnOk P w K mg base CX0 k f fd ps (spD K n S) ∧ mg x = some (.ref f) ∧ PySem.W.keepIn K (.ref f) = true ∧ Binds K fd ps []
theorem Pf.fnc {P : Program} {w : World} {K : PySem.W.Frag} {mg : Str → Option Value} {base : Heap} {x : Str} {k : Nat} {ps : List Str} {n : Nat} {S : Sg} (h : Pf P w K mg base x k ps n S) {N : List Str} {sc : Scope} {k' : Nat} {t : Str → Bool} {c : Env → Prop} (hk : k ≤ k' := by exact Nat.le_of_ble_eq_true rfl) : Fnc ⟨P, w, K, mg, base, N, sc, k', t, c⟩ x ps [] (spD K n S) := by
  obtain ⟨f, fd, F, m, kp, b⟩ := h.ex
  exact ⟨⟨k, f, fd, [], hk, F, m, kp, b, .nil⟩⟩
section
variable {P : Program} {w : World} {K : PySem.W.Frag} {mg : Str → Option Value} {base : Heap}
theorem Hd.glo (H : Hd K mg) {x : Str} {j : Nat} (h : fas[j]? = some (.glo x)) : mg x = some (.ref (He.ga K x)) := by
  obtain ⟨h0, X, G⟩ := H.ns
  exact He.glo_ok X G (H.c.fact j h)
theorem Hd.free (H : Hd K mg) {x : Str} {j : Nat} (h : fas[j]? = some (.free x)) : mg x = none := by
  obtain ⟨h0, X, G⟩ := H.ns
  exact He.free_ok X G (H.c.fact j h)
theorem Hd.int (H : Hd K mg) {x : Str} {n : Int} {j : Nat} (h : fas[j]? = some (.int x n)) : ∃ t, mg x = some (.int n t) := by
  obtain ⟨h0, X, G⟩ := H.ns
  exact He.int_ok X G (H.c.fact j h)
theorem fr_isinstance (H : Hd K mg) : mg "isinstance" = none := H.free (j := 110) (by kernel_rfl)
theorem fr_int (H : Hd K mg) : mg "int" = none := H.free (j := 111) (by kernel_rfl)
theorem fr_bool (H : Hd K mg) : mg "bool" = none := H.free (j := 112) (by kernel_rfl)
theorem fr_str (H : Hd K mg) : mg "str" = none := H.free (j := 113) (by kernel_rfl)
theorem fr_tuple (H : Hd K mg) : mg "tuple" = none := H.free (j := 114) (by kernel_rfl)
theorem fr_list (H : Hd K mg) : mg "list" = none := H.free (j := 115) (by kernel_rfl)
theorem fr_len (H : Hd K mg) : mg "len" = none := H.free (j := 116) (by kernel_rfl)
theorem fr_all (H : Hd K mg) : mg "all" = none := H.free (j := 117) (by kernel_rfl)
theorem fr_any (H : Hd K mg) : mg "any" = none := H.free (j := 118) (by kernel_rfl)
theorem fr_sorted (H : Hd K mg) : mg "sorted" = none := H.free (j := 119) (by kernel_rfl)
theorem fr_zip (H : Hd K mg) : mg "zip" = none := H.free (j := 120) (by kernel_rfl)
theorem fr_range (H : Hd K mg) : mg "range" = none := H.free (j := 121) (by kernel_rfl)
theorem fr_enumerate (H : Hd K mg) : mg "enumerate" = none := H.free (j := 122) (by kernel_rfl)
theorem fr_max (H : Hd K mg) : mg "max" = none := H.free (j := 123) (by kernel_rfl)
theorem fr_min (H : Hd K mg) : mg "min" = none := H.free (j := 124) (by kernel_rfl)
theorem fr_set (H : Hd K mg) : mg "set" = none := H.free (j := 125) (by kernel_rfl)
theorem fr_sum (H : Hd K mg) : mg "sum" = none := H.free (j := 126) (by kernel_rfl)
theorem gi_GREATEST (H : Hd K mg) : ∃ t, mg "GREATEST" = some (.int 1000000000 t) := H.int (j := 127) (by kernel_rfl)
theorem gi_WIDE (H : Hd K mg) : ∃ t, mg "WIDE" = some (.int 3 t) := H.int (j := 128) (by kernel_rfl)
theorem gi_ROWS (H : Hd K mg) : ∃ t, mg "ROWS" = some (.int 6 t) := H.int (j := 129) (by kernel_rfl)
theorem gi_TABLES (H : Hd K mg) : ∃ t, mg "TABLES" = some (.int 3 t) := H.int (j := 130) (by kernel_rfl)
theorem gi_MANY (H : Hd K mg) : ∃ t, mg "MANY" = some (.int 3 t) := H.int (j := 131) (by kernel_rfl)
theorem gi_VALUES (H : Hd K mg) : ∃ t, mg "VALUES" = some (.int 18 t) := H.int (j := 132) (by kernel_rfl)
theorem gi_NAMED (H : Hd K mg) : ∃ t, mg "NAMED" = some (.int 3 t) := H.int (j := 133) (by kernel_rfl)
theorem gi_SIZE (H : Hd K mg) : ∃ t, mg "SIZE" = some (.int 40 t) := H.int (j := 134) (by kernel_rfl)
theorem gi_FAR (H : Hd K mg) : ∃ t, mg "FAR" = some (.int 8 t) := H.int (j := 135) (by kernel_rfl)
theorem gi_LOTS (H : Hd K mg) : ∃ t, mg "LOTS" = some (.int 300 t) := H.int (j := 136) (by kernel_rfl)
theorem gi_LOG (H : Hd K mg) : ∃ t, mg "LOG" = some (.int 30 t) := H.int (j := 137) (by kernel_rfl)
theorem gi_LONGEST (H : Hd K mg) : ∃ t, mg "LONGEST" = some (.int 8 t) := H.int (j := 138) (by kernel_rfl)
/-! ### how plain parameters bind -/
theorem lookup_zip : ∀ {ps : List Str} {us : List Value} {n : Str}, us.length = ps.length → n ∈ ps → ∃ v, (ps.zip us).lookup n = some v
  | [], _, _, _, h => nomatch h
  | p :: ps, [], _, h, _ => nomatch h
  | p :: ps, u :: us, n, h, hn => by
    rw [List.zip_cons_cons, List.lookup_cons]
    cases e : n == p with
    | true => exact ⟨u, rfl⟩
    | false =>
      rcases List.mem_cons.mp hn with q | q
      · subst q
        simp at e
      · exact lookup_zip (Nat.succ.inj h) q
theorem fmap_congr {α β : Type} {f g : α → Option β} : ∀ {l : List α}, (∀ x ∈ l, f x = g x) → l.filterMap f = l.filterMap g
  | [], _ => rfl
  | x :: l, h => by
    rw [List.filterMap_cons, List.filterMap_cons, h x (List.mem_cons_self ..), fmap_congr fun y hy => h y (List.mem_cons_of_mem _ hy)]
theorem filter_zip : ∀ {ps : List Str} {us : List Value}, us.length = ps.length → ps.Nodup → ps.filterMap (fun n => ((ps.zip us).lookup n).map fun x => (n, x)) = ps.zip us
  | [], _, _, _ => rfl
  | p :: ps, [], h, _ => nomatch h
  | p :: ps, u :: us, h, hn => by
    obtain ⟨h1, h2⟩ := List.nodup_cons.mp hn
    have e1 : ((p :: ps).zip (u :: us)).lookup p = some u := by
      rw [List.zip_cons_cons, List.lookup_cons]
      simp
    rw [List.filterMap_cons, e1]
    show (p, u) :: _ = (p, u) :: ps.zip us
    congr 1
    refine Eq.trans (fmap_congr fun n hm => ?_) (filter_zip (Nat.succ.inj h) h2)
    rw [List.zip_cons_cons, List.lookup_cons]
    have : (n == p) = false := by
      rw [beq_eq_false_iff_ne]
      intro e
      subst e
      exact h1 hm
    rw [this]
theorem bind_plain {fd : FuncData} {ps : List Str} {us : List Value} (h1 : fd.params.posonlyargs = []) (h2 : fd.params.args.map (·.arg) = ps) (h3 : fd.params.kwonlyargs = []) (h4 : fd.params.vararg = none) (h5 : fd.params.kwarg = none) (h6 : fd.defaults = .none) (hn : ps.Nodup)
    (hl : us.length = ps.length) : bindArgs fd ⟨us, []⟩ = pure (ps.zip us) := by
  unfold bindArgs
  have e1 : (List.filter (fun n => (List.lookup n (ps.zip us)).isNone) ps) = [] := by
    rw [List.filter_eq_nil_iff]
    intro n hm
    obtain ⟨v, hv⟩ := lookup_zip hl hm
    rw [hv]
    simp
  have e2 := filter_zip hl hn
  simp only [h1, h2, h3, h4, h5, h6, seqItems?]
  simp [hl, e1, e2]
  rfl
/-- where a def stands among the head's data, and that its parameters are plain -/
structure Pq (d : He.DefD) (x : Str) (ps : List Str) : Prop where
  fn : ∃ a : Nat, fns[a]? = some d
  glo : ∃ b : Nat, fas[b]? = some (.glo x)
  at' : d.at_ = (x, none)
  pl : d.dfl = [] ∧ d.kwd = [] ∧ d.params.posonlyargs = [] ∧ d.params.args.map (·.arg) = ps ∧ d.params.kwonlyargs = [] ∧ d.params.vararg = none ∧ d.params.kwarg = none
/-- a pure def by its datum -/
theorem pf_of {P : Program} {w : World} {K : PySem.W.Frag} {mg : Str → Option Value} {base : Heap} (H : Hd K mg) {d : He.DefD} {x : Str} {N ps : List Str} {k n : Nat} {S : Sg} (q : Pq d x ps)
    (Sc : FnScope N ps d.scope) (hn : n = ps.length) (h : ∀ ds Φ, ds.length = n → S ds Φ → BB (iOf P w K mg base N d.scope k) d.body (st0 N ds) (fun _ => Φ (.py .none)) Φ) : Pf P w K mg base x (k + 1) ps n S := by
  obtain ⟨⟨a, hd⟩, ⟨b, hx⟩, hat, hdf⟩ := q
  obtain ⟨fd, F⟩ := H.c.def_ a (d := d) hd
  obtain ⟨h1, h2, h3, h4, h5, h6, h7⟩ := hdf
  have ef : He.fAd K d.at_ = He.ga K x := by
    rw [hat]
    rfl
  have hm : mg x = some (.ref (He.fAd K d.at_)) := by
    rw [ef]
    exact H.glo hx
  refine ⟨_, fd, fn_pure F Sc hn h, hm, F.kp, ?_⟩
  have nd : ps.Nodup := by rw [← Sc.pre]; exact Sc.nd.sublist (List.take_sublist _ _)
  have e0 : d.dvs K = [] := by
    unfold He.DefD.dvs
    rw [h1]
    rfl
  obtain ⟨oc, od, dV, kV, doc, pm, an, cdv, ct, osl, rfl, lk, hcd, hD, hK⟩ := F.ex
  refine Binds.all fun us hl => bind_plain h3 h4 h5 h6 h7 ?_ nd hl
  rcases hD with ⟨_, e⟩ | ⟨e, _⟩
  · exact e
  · exact absurd e0 e

abbrev N_is_whole : List Str := ["thing"]
theorem sc_is_whole : FnScope N_is_whole ["thing"] d_is_whole.scope := ⟨by kernel_rfl, by kernel_rfl, by kernel_rfl, by decide +kernel, by kernel_rfl, by decide +kernel, by decide +kernel⟩
theorem q_is_whole : Pq d_is_whole "is_whole" ["thing"] := ⟨⟨0, by kernel_rfl⟩, ⟨0, by kernel_rfl⟩, rfl, ⟨rfl, rfl, by kernel_rfl, by kernel_rfl, by kernel_rfl, by kernel_rfl, by kernel_rfl⟩⟩
abbrev N_is_word : List Str := ["thing", "sign"]
theorem sc_is_word : FnScope N_is_word ["thing"] d_is_word.scope := ⟨by kernel_rfl, by kernel_rfl, by kernel_rfl, by decide +kernel, by kernel_rfl, by decide +kernel, by decide +kernel⟩
theorem q_is_word : Pq d_is_word "is_word" ["thing"] := ⟨⟨1, by kernel_rfl⟩, ⟨1, by kernel_rfl⟩, rfl, ⟨rfl, rfl, by kernel_rfl, by kernel_rfl, by kernel_rfl, by kernel_rfl, by kernel_rfl⟩⟩
abbrev N_is_value : List Str := ["thing"]
theorem sc_is_value : FnScope N_is_value ["thing"] d_is_value.scope := ⟨by kernel_rfl, by kernel_rfl, by kernel_rfl, by decide +kernel, by kernel_rfl, by decide +kernel, by decide +kernel⟩
theorem q_is_value : Pq d_is_value "is_value" ["thing"] := ⟨⟨2, by kernel_rfl⟩, ⟨2, by kernel_rfl⟩, rfl, ⟨rfl, rfl, by kernel_rfl, by kernel_rfl, by kernel_rfl, by kernel_rfl, by kernel_rfl⟩⟩
abbrev N_is_row : List Str := ["thing", "value"]
theorem sc_is_row : FnScope N_is_row ["thing"] d_is_row.scope := ⟨by kernel_rfl, by kernel_rfl, by kernel_rfl, by decide +kernel, by kernel_rfl, by decide +kernel, by decide +kernel⟩
theorem q_is_row : Pq d_is_row "is_row" ["thing"] := ⟨⟨3, by kernel_rfl⟩, ⟨3, by kernel_rfl⟩, rfl, ⟨rfl, rfl, by kernel_rfl, by kernel_rfl, by kernel_rfl, by kernel_rfl, by kernel_rfl⟩⟩
abbrev N_value_key : List Str := ["value"]
theorem sc_value_key : FnScope N_value_key ["value"] d_value_key.scope := ⟨by kernel_rfl, by kernel_rfl, by kernel_rfl, by decide +kernel, by kernel_rfl, by decide +kernel, by decide +kernel⟩
theorem q_value_key : Pq d_value_key "value_key" ["value"] := ⟨⟨4, by kernel_rfl⟩, ⟨4, by kernel_rfl⟩, rfl, ⟨rfl, rfl, by kernel_rfl, by kernel_rfl, by kernel_rfl, by kernel_rfl, by kernel_rfl⟩⟩
abbrev N_row_key : List Str := ["row", "value"]
theorem sc_row_key : FnScope N_row_key ["row"] d_row_key.scope := ⟨by kernel_rfl, by kernel_rfl, by kernel_rfl, by decide +kernel, by kernel_rfl, by decide +kernel, by decide +kernel⟩
theorem q_row_key : Pq d_row_key "row_key" ["row"] := ⟨⟨5, by kernel_rfl⟩, ⟨5, by kernel_rfl⟩, rfl, ⟨rfl, rfl, by kernel_rfl, by kernel_rfl, by kernel_rfl, by kernel_rfl, by kernel_rfl⟩⟩
abbrev N_value_less : List Str := ["one", "other"]
theorem sc_value_less : FnScope N_value_less ["one", "other"] d_value_less.scope := ⟨by kernel_rfl, by kernel_rfl, by kernel_rfl, by decide +kernel, by kernel_rfl, by decide +kernel, by decide +kernel⟩
theorem q_value_less : Pq d_value_less "value_less" ["one", "other"] := ⟨⟨6, by kernel_rfl⟩, ⟨6, by kernel_rfl⟩, rfl, ⟨rfl, rfl, by kernel_rfl, by kernel_rfl, by kernel_rfl, by kernel_rfl, by kernel_rfl⟩⟩
abbrev N_row_less : List Str := ["one", "other"]
theorem sc_row_less : FnScope N_row_less ["one", "other"] d_row_less.scope := ⟨by kernel_rfl, by kernel_rfl, by kernel_rfl, by decide +kernel, by kernel_rfl, by decide +kernel, by decide +kernel⟩
theorem q_row_less : Pq d_row_less "row_less" ["one", "other"] := ⟨⟨7, by kernel_rfl⟩, ⟨7, by kernel_rfl⟩, rfl, ⟨rfl, rfl, by kernel_rfl, by kernel_rfl, by kernel_rfl, by kernel_rfl, by kernel_rfl⟩⟩
abbrev N_risen : List Str := ["rows", "once", "row"]
theorem sc_risen : FnScope N_risen ["rows"] d_risen.scope := ⟨by kernel_rfl, by kernel_rfl, by kernel_rfl, by decide +kernel, by kernel_rfl, by decide +kernel, by decide +kernel⟩
theorem q_risen : Pq d_risen "risen" ["rows"] := ⟨⟨8, by kernel_rfl⟩, ⟨8, by kernel_rfl⟩, rfl, ⟨rfl, rfl, by kernel_rfl, by kernel_rfl, by kernel_rfl, by kernel_rfl, by kernel_rfl⟩⟩
abbrev N_values_risen : List Str := ["values", "once", "value"]
theorem sc_values_risen : FnScope N_values_risen ["values"] d_values_risen.scope := ⟨by kernel_rfl, by kernel_rfl, by kernel_rfl, by decide +kernel, by kernel_rfl, by decide +kernel, by decide +kernel⟩
theorem q_values_risen : Pq d_values_risen "values_risen" ["values"] := ⟨⟨9, by kernel_rfl⟩, ⟨9, by kernel_rfl⟩, rfl, ⟨rfl, rfl, by kernel_rfl, by kernel_rfl, by kernel_rfl, by kernel_rfl, by kernel_rfl⟩⟩
abbrev N_are_risen : List Str := ["rows", "one", "other"]
theorem sc_are_risen : FnScope N_are_risen ["rows"] d_are_risen.scope := ⟨by kernel_rfl, by kernel_rfl, by kernel_rfl, by decide +kernel, by kernel_rfl, by decide +kernel, by decide +kernel⟩
theorem q_are_risen : Pq d_are_risen "are_risen" ["rows"] := ⟨⟨10, by kernel_rfl⟩, ⟨10, by kernel_rfl⟩, rfl, ⟨rfl, rfl, by kernel_rfl, by kernel_rfl, by kernel_rfl, by kernel_rfl, by kernel_rfl⟩⟩
abbrev N_are_rows : List Str := ["thing", "columns", "row"]
theorem sc_are_rows : FnScope N_are_rows ["thing", "columns"] d_are_rows.scope := ⟨by kernel_rfl, by kernel_rfl, by kernel_rfl, by decide +kernel, by kernel_rfl, by decide +kernel, by decide +kernel⟩
theorem q_are_rows : Pq d_are_rows "are_rows" ["thing", "columns"] := ⟨⟨11, by kernel_rfl⟩, ⟨11, by kernel_rfl⟩, rfl, ⟨rfl, rfl, by kernel_rfl, by kernel_rfl, by kernel_rfl, by kernel_rfl, by kernel_rfl⟩⟩
abbrev N_is_table : List Str := ["thing", "name", "columns", "rows"]
theorem sc_is_table : FnScope N_is_table ["thing"] d_is_table.scope := ⟨by kernel_rfl, by kernel_rfl, by kernel_rfl, by decide +kernel, by kernel_rfl, by decide +kernel, by decide +kernel⟩
theorem q_is_table : Pq d_is_table "is_table" ["thing"] := ⟨⟨12, by kernel_rfl⟩, ⟨12, by kernel_rfl⟩, rfl, ⟨rfl, rfl, by kernel_rfl, by kernel_rfl, by kernel_rfl, by kernel_rfl, by kernel_rfl⟩⟩
abbrev N_values_in : List Str := ["book", "row", "value", "name", "columns", "rows"]
theorem sc_values_in : FnScope N_values_in ["book"] d_values_in.scope := ⟨by kernel_rfl, by kernel_rfl, by kernel_rfl, by decide +kernel, by kernel_rfl, by decide +kernel, by decide +kernel⟩
theorem q_values_in : Pq d_values_in "values_in" ["book"] := ⟨⟨13, by kernel_rfl⟩, ⟨13, by kernel_rfl⟩, rfl, ⟨rfl, rfl, by kernel_rfl, by kernel_rfl, by kernel_rfl, by kernel_rfl, by kernel_rfl⟩⟩
abbrev N_is_book : List Str := ["thing", "names", "name", "columns", "rows", "table", "one", "other"]
theorem sc_is_book : FnScope N_is_book ["thing"] d_is_book.scope := ⟨by kernel_rfl, by kernel_rfl, by kernel_rfl, by decide +kernel, by kernel_rfl, by decide +kernel, by decide +kernel⟩
theorem q_is_book : Pq d_is_book "is_book" ["thing"] := ⟨⟨14, by kernel_rfl⟩, ⟨14, by kernel_rfl⟩, rfl, ⟨rfl, rfl, by kernel_rfl, by kernel_rfl, by kernel_rfl, by kernel_rfl, by kernel_rfl⟩⟩
abbrev N_heads : List Str := ["book", "name", "columns", "rows"]
theorem sc_heads : FnScope N_heads ["book"] d_heads.scope := ⟨by kernel_rfl, by kernel_rfl, by kernel_rfl, by decide +kernel, by kernel_rfl, by decide +kernel, by decide +kernel⟩
theorem q_heads : Pq d_heads "heads" ["book"] := ⟨⟨15, by kernel_rfl⟩, ⟨15, by kernel_rfl⟩, rfl, ⟨rfl, rfl, by kernel_rfl, by kernel_rfl, by kernel_rfl, by kernel_rfl, by kernel_rfl⟩⟩
abbrev N_are_books : List Str := ["thing", "book"]
theorem sc_are_books : FnScope N_are_books ["thing"] d_are_books.scope := ⟨by kernel_rfl, by kernel_rfl, by kernel_rfl, by decide +kernel, by kernel_rfl, by decide +kernel, by decide +kernel⟩
theorem q_are_books : Pq d_are_books "are_books" ["thing"] := ⟨⟨16, by kernel_rfl⟩, ⟨16, by kernel_rfl⟩, rfl, ⟨rfl, rfl, by kernel_rfl, by kernel_rfl, by kernel_rfl, by kernel_rfl, by kernel_rfl⟩⟩
abbrev N_check_number : List Str := ["many", "thing"]
theorem sc_check_number : FnScope N_check_number ["many", "thing"] d_check_number.scope := ⟨by kernel_rfl, by kernel_rfl, by kernel_rfl, by decide +kernel, by kernel_rfl, by decide +kernel, by decide +kernel⟩
theorem q_check_number : Pq d_check_number "check_number" ["many", "thing"] := ⟨⟨17, by kernel_rfl⟩, ⟨17, by kernel_rfl⟩, rfl, ⟨rfl, rfl, by kernel_rfl, by kernel_rfl, by kernel_rfl, by kernel_rfl, by kernel_rfl⟩⟩
abbrev N_table_at : List Str := ["book", "thing", "found", "table"]
theorem sc_table_at : FnScope N_table_at ["book", "thing"] d_table_at.scope := ⟨by kernel_rfl, by kernel_rfl, by kernel_rfl, by decide +kernel, by kernel_rfl, by decide +kernel, by decide +kernel⟩
theorem q_table_at : Pq d_table_at "table_at" ["book", "thing"] := ⟨⟨18, by kernel_rfl⟩, ⟨18, by kernel_rfl⟩, rfl, ⟨rfl, rfl, by kernel_rfl, by kernel_rfl, by kernel_rfl, by kernel_rfl, by kernel_rfl⟩⟩
abbrev N_wish_key : List Str := ["wish"]
theorem sc_wish_key : FnScope N_wish_key ["wish"] d_wish_key.scope := ⟨by kernel_rfl, by kernel_rfl, by kernel_rfl, by decide +kernel, by kernel_rfl, by decide +kernel, by decide +kernel⟩
theorem q_wish_key : Pq d_wish_key "wish_key" ["wish"] := ⟨⟨19, by kernel_rfl⟩, ⟨19, by kernel_rfl⟩, rfl, ⟨rfl, rfl, by kernel_rfl, by kernel_rfl, by kernel_rfl, by kernel_rfl, by kernel_rfl⟩⟩
abbrev N_fits_answer : List Str := ["wishes", "answer", "book", "row", "wished"]
theorem sc_fits_answer : FnScope N_fits_answer ["wishes", "answer"] d_fits_answer.scope := ⟨by kernel_rfl, by kernel_rfl, by kernel_rfl, by decide +kernel, by kernel_rfl, by decide +kernel, by decide +kernel⟩
theorem q_fits_answer : Pq d_fits_answer "fits_answer" ["wishes", "answer"] := ⟨⟨20, by kernel_rfl⟩, ⟨20, by kernel_rfl⟩, rfl, ⟨rfl, rfl, by kernel_rfl, by kernel_rfl, by kernel_rfl, by kernel_rfl, by kernel_rfl⟩⟩
abbrev N_candidates : List Str := ["lots", "columns", "wishes", "lot"]
theorem sc_candidates : FnScope N_candidates ["lots", "columns", "wishes"] d_candidates.scope := ⟨by kernel_rfl, by kernel_rfl, by kernel_rfl, by decide +kernel, by kernel_rfl, by decide +kernel, by decide +kernel⟩
theorem q_candidates : Pq d_candidates "candidates" ["lots", "columns", "wishes"] := ⟨⟨21, by kernel_rfl⟩, ⟨21, by kernel_rfl⟩, rfl, ⟨rfl, rfl, by kernel_rfl, by kernel_rfl, by kernel_rfl, by kernel_rfl, by kernel_rfl⟩⟩
abbrev N_counts_over : List Str := ["some", "book", "found", "size", "question", "columns", "answers", "row"]
theorem sc_counts_over : FnScope N_counts_over ["some", "book"] d_counts_over.scope := ⟨by kernel_rfl, by kernel_rfl, by kernel_rfl, by decide +kernel, by kernel_rfl, by decide +kernel, by decide +kernel⟩
theorem q_counts_over : Pq d_counts_over "counts_over" ["some", "book"] := ⟨⟨22, by kernel_rfl⟩, ⟨22, by kernel_rfl⟩, rfl, ⟨rfl, rfl, by kernel_rfl, by kernel_rfl, by kernel_rfl, by kernel_rfl, by kernel_rfl⟩⟩
abbrev N_table_of_asks : List Str := ["some", "found", "book", "counts", "row"]
theorem sc_table_of_asks : FnScope N_table_of_asks ["some"] d_table_of_asks.scope := ⟨by kernel_rfl, by kernel_rfl, by kernel_rfl, by decide +kernel, by kernel_rfl, by decide +kernel, by decide +kernel⟩
theorem q_table_of_asks : Pq d_table_of_asks "table_of_asks" ["some"] := ⟨⟨23, by kernel_rfl⟩, ⟨23, by kernel_rfl⟩, rfl, ⟨rfl, rfl, by kernel_rfl, by kernel_rfl, by kernel_rfl, by kernel_rfl, by kernel_rfl⟩⟩
abbrev N_worse_side : List Str := ["entry"]
theorem sc_worse_side : FnScope N_worse_side ["entry"] d_worse_side.scope := ⟨by kernel_rfl, by kernel_rfl, by kernel_rfl, by decide +kernel, by kernel_rfl, by decide +kernel, by decide +kernel⟩
theorem q_worse_side : Pq d_worse_side "worse_side" ["entry"] := ⟨⟨24, by kernel_rfl⟩, ⟨24, by kernel_rfl⟩, rfl, ⟨rfl, rfl, by kernel_rfl, by kernel_rfl, by kernel_rfl, by kernel_rfl, by kernel_rfl⟩⟩
abbrev N_next_ask : List Str := ["some", "table", "book", "row", "counts"]
theorem sc_next_ask : FnScope N_next_ask ["some"] d_next_ask.scope := ⟨by kernel_rfl, by kernel_rfl, by kernel_rfl, by decide +kernel, by kernel_rfl, by decide +kernel, by decide +kernel⟩
theorem q_next_ask : Pq d_next_ask "next_ask" ["some"] := ⟨⟨25, by kernel_rfl⟩, ⟨25, by kernel_rfl⟩, rfl, ⟨rfl, rfl, by kernel_rfl, by kernel_rfl, by kernel_rfl, by kernel_rfl, by kernel_rfl⟩⟩
abbrev N_named_of : List Str := ["thing", "found", "value"]
theorem sc_named_of : FnScope N_named_of ["thing"] d_named_of.scope := ⟨by kernel_rfl, by kernel_rfl, by kernel_rfl, by decide +kernel, by kernel_rfl, by decide +kernel, by decide +kernel⟩
theorem q_named_of : Pq d_named_of "named_of" ["thing"] := ⟨⟨26, by kernel_rfl⟩, ⟨26, by kernel_rfl⟩, rfl, ⟨rfl, rfl, by kernel_rfl, by kernel_rfl, by kernel_rfl, by kernel_rfl, by kernel_rfl⟩⟩
abbrev N_deeds_of : List Str := ["thing", "word"]
theorem sc_deeds_of : FnScope N_deeds_of ["thing"] d_deeds_of.scope := ⟨by kernel_rfl, by kernel_rfl, by kernel_rfl, by decide +kernel, by kernel_rfl, by decide +kernel, by decide +kernel⟩
theorem q_deeds_of : Pq d_deeds_of "deeds_of" ["thing"] := ⟨⟨27, by kernel_rfl⟩, ⟨27, by kernel_rfl⟩, rfl, ⟨rfl, rfl, by kernel_rfl, by kernel_rfl, by kernel_rfl, by kernel_rfl, by kernel_rfl⟩⟩
abbrev N_Field_init : List Str := ["self", "books", "named", "deeds"]
theorem sc_Field_init : FnScope N_Field_init ["self", "books", "named", "deeds"] d_Field_init.scope := ⟨by kernel_rfl, by kernel_rfl, by kernel_rfl, by decide +kernel, by kernel_rfl, by decide +kernel, by decide +kernel⟩
abbrev N_Field_len : List Str := ["self"]
theorem sc_Field_len : FnScope N_Field_len ["self"] d_Field_len.scope := ⟨by kernel_rfl, by kernel_rfl, by kernel_rfl, by decide +kernel, by kernel_rfl, by decide +kernel, by decide +kernel⟩
abbrev N_names_of : List Str := ["field", "name", "columns", "rows"]
theorem sc_names_of : FnScope N_names_of ["field"] d_names_of.scope := ⟨by kernel_rfl, by kernel_rfl, by kernel_rfl, by decide +kernel, by kernel_rfl, by decide +kernel, by decide +kernel⟩
theorem q_names_of : Pq d_names_of "names_of" ["field"] := ⟨⟨30, by kernel_rfl⟩, ⟨28, by kernel_rfl⟩, rfl, ⟨rfl, rfl, by kernel_rfl, by kernel_rfl, by kernel_rfl, by kernel_rfl, by kernel_rfl⟩⟩
abbrev N_table_columns : List Str := ["field", "name", "told", "columns", "rows"]
theorem sc_table_columns : FnScope N_table_columns ["field", "name"] d_table_columns.scope := ⟨by kernel_rfl, by kernel_rfl, by kernel_rfl, by decide +kernel, by kernel_rfl, by decide +kernel, by decide +kernel⟩
theorem q_table_columns : Pq d_table_columns "table_columns" ["field", "name"] := ⟨⟨31, by kernel_rfl⟩, ⟨29, by kernel_rfl⟩, rfl, ⟨rfl, rfl, by kernel_rfl, by kernel_rfl, by kernel_rfl, by kernel_rfl, by kernel_rfl⟩⟩
abbrev N_rows_of : List Str := ["field", "book", "name", "told", "columns", "rows"]
theorem sc_rows_of : FnScope N_rows_of ["field", "book", "name"] d_rows_of.scope := ⟨by kernel_rfl, by kernel_rfl, by kernel_rfl, by decide +kernel, by kernel_rfl, by decide +kernel, by decide +kernel⟩
theorem q_rows_of : Pq d_rows_of "rows_of" ["field", "book", "name"] := ⟨⟨32, by kernel_rfl⟩, ⟨30, by kernel_rfl⟩, rfl, ⟨rfl, rfl, by kernel_rfl, by kernel_rfl, by kernel_rfl, by kernel_rfl, by kernel_rfl⟩⟩
abbrev N_picked_rows : List Str := ["rows", "picked", "row", "column"]
theorem sc_picked_rows : FnScope N_picked_rows ["rows", "picked"] d_picked_rows.scope := ⟨by kernel_rfl, by kernel_rfl, by kernel_rfl, by decide +kernel, by kernel_rfl, by decide +kernel, by decide +kernel⟩
theorem q_picked_rows : Pq d_picked_rows "picked_rows" ["rows", "picked"] := ⟨⟨33, by kernel_rfl⟩, ⟨31, by kernel_rfl⟩, rfl, ⟨rfl, rfl, by kernel_rfl, by kernel_rfl, by kernel_rfl, by kernel_rfl, by kernel_rfl⟩⟩
abbrev N_done_on_one : List Str := ["deed", "rows", "word", "i", "given", "row"]
theorem sc_done_on_one : FnScope N_done_on_one ["deed", "rows"] d_done_on_one.scope := ⟨by kernel_rfl, by kernel_rfl, by kernel_rfl, by decide +kernel, by kernel_rfl, by decide +kernel, by decide +kernel⟩
theorem q_done_on_one : Pq d_done_on_one "done_on_one" ["deed", "rows"] := ⟨⟨34, by kernel_rfl⟩, ⟨32, by kernel_rfl⟩, rfl, ⟨rfl, rfl, by kernel_rfl, by kernel_rfl, by kernel_rfl, by kernel_rfl, by kernel_rfl⟩⟩
abbrev N_done_on : List Str := ["deed", "one", "other", "word", "i", "j", "row"]
theorem sc_done_on : FnScope N_done_on ["deed", "one", "other"] d_done_on.scope := ⟨by kernel_rfl, by kernel_rfl, by kernel_rfl, by decide +kernel, by kernel_rfl, by decide +kernel, by decide +kernel⟩
abbrev N_is_column : List Str := ["thing", "columns"]
theorem sc_is_column : FnScope N_is_column ["thing", "columns"] d_is_column.scope := ⟨by kernel_rfl, by kernel_rfl, by kernel_rfl, by decide +kernel, by kernel_rfl, by decide +kernel, by decide +kernel⟩
theorem q_is_column : Pq d_is_column "is_column" ["thing", "columns"] := ⟨⟨36, by kernel_rfl⟩, ⟨34, by kernel_rfl⟩, rfl, ⟨rfl, rfl, by kernel_rfl, by kernel_rfl, by kernel_rfl, by kernel_rfl, by kernel_rfl⟩⟩
abbrev N_are_picked : List Str := ["thing", "columns", "column"]
theorem sc_are_picked : FnScope N_are_picked ["thing", "columns"] d_are_picked.scope := ⟨by kernel_rfl, by kernel_rfl, by kernel_rfl, by decide +kernel, by kernel_rfl, by decide +kernel, by decide +kernel⟩
theorem q_are_picked : Pq d_are_picked "are_picked" ["thing", "columns"] := ⟨⟨37, by kernel_rfl⟩, ⟨35, by kernel_rfl⟩, rfl, ⟨rfl, rfl, by kernel_rfl, by kernel_rfl, by kernel_rfl, by kernel_rfl, by kernel_rfl⟩⟩
abbrev N_is_named : List Str := ["field", "thing"]
theorem sc_is_named : FnScope N_is_named ["field", "thing"] d_is_named.scope := ⟨by kernel_rfl, by kernel_rfl, by kernel_rfl, by decide +kernel, by kernel_rfl, by decide +kernel, by decide +kernel⟩
theorem q_is_named : Pq d_is_named "is_named" ["field", "thing"] := ⟨⟨38, by kernel_rfl⟩, ⟨36, by kernel_rfl⟩, rfl, ⟨rfl, rfl, by kernel_rfl, by kernel_rfl, by kernel_rfl, by kernel_rfl, by kernel_rfl⟩⟩
abbrev N_columns_by_one : List Str := ["field", "deed", "columns", "word", "fitting", "given"]
theorem sc_columns_by_one : FnScope N_columns_by_one ["field", "deed", "columns"] d_columns_by_one.scope := ⟨by kernel_rfl, by kernel_rfl, by kernel_rfl, by decide +kernel, by kernel_rfl, by decide +kernel, by decide +kernel⟩
theorem q_columns_by_one : Pq d_columns_by_one "columns_by_one" ["field", "deed", "columns"] := ⟨⟨39, by kernel_rfl⟩, ⟨37, by kernel_rfl⟩, rfl, ⟨rfl, rfl, by kernel_rfl, by kernel_rfl, by kernel_rfl, by kernel_rfl, by kernel_rfl⟩⟩
abbrev N_looked : List Str := ["field", "thing", "left"]
theorem sc_looked : FnScope N_looked ["field", "thing", "left"] d_looked.scope := ⟨by kernel_rfl, by kernel_rfl, by kernel_rfl, by decide +kernel, by kernel_rfl, by decide +kernel, by decide +kernel⟩
theorem q_looked : Pq d_looked "looked" ["field", "thing", "left"] := ⟨⟨40, by kernel_rfl⟩, ⟨38, by kernel_rfl⟩, rfl, ⟨rfl, rfl, by kernel_rfl, by kernel_rfl, by kernel_rfl, by kernel_rfl, by kernel_rfl⟩⟩
abbrev N_is_question : List Str := ["field", "thing"]
theorem sc_is_question : FnScope N_is_question ["field", "thing"] d_is_question.scope := ⟨by kernel_rfl, by kernel_rfl, by kernel_rfl, by decide +kernel, by kernel_rfl, by decide +kernel, by decide +kernel⟩
theorem q_is_question : Pq d_is_question "is_question" ["field", "thing"] := ⟨⟨41, by kernel_rfl⟩, ⟨39, by kernel_rfl⟩, rfl, ⟨rfl, rfl, by kernel_rfl, by kernel_rfl, by kernel_rfl, by kernel_rfl, by kernel_rfl⟩⟩
abbrev N_check_question : List Str := ["field", "thing"]
theorem sc_check_question : FnScope N_check_question ["field", "thing"] d_check_question.scope := ⟨by kernel_rfl, by kernel_rfl, by kernel_rfl, by decide +kernel, by kernel_rfl, by decide +kernel, by decide +kernel⟩
theorem q_check_question : Pq d_check_question "check_question" ["field", "thing"] := ⟨⟨42, by kernel_rfl⟩, ⟨40, by kernel_rfl⟩, rfl, ⟨rfl, rfl, by kernel_rfl, by kernel_rfl, by kernel_rfl, by kernel_rfl, by kernel_rfl⟩⟩
abbrev N_columns_of : List Str := ["field", "question"]
theorem sc_columns_of : FnScope N_columns_of ["field", "question"] d_columns_of.scope := ⟨by kernel_rfl, by kernel_rfl, by kernel_rfl, by decide +kernel, by kernel_rfl, by decide +kernel, by decide +kernel⟩
theorem q_columns_of : Pq d_columns_of "columns_of" ["field", "question"] := ⟨⟨43, by kernel_rfl⟩, ⟨41, by kernel_rfl⟩, rfl, ⟨rfl, rfl, by kernel_rfl, by kernel_rfl, by kernel_rfl, by kernel_rfl, by kernel_rfl⟩⟩
abbrev N_parts_of : List Str := ["question"]
theorem sc_parts_of : FnScope N_parts_of ["question"] d_parts_of.scope := ⟨by kernel_rfl, by kernel_rfl, by kernel_rfl, by decide +kernel, by kernel_rfl, by decide +kernel, by decide +kernel⟩
theorem q_parts_of : Pq d_parts_of "parts_of" ["question"] := ⟨⟨44, by kernel_rfl⟩, ⟨42, by kernel_rfl⟩, rfl, ⟨rfl, rfl, by kernel_rfl, by kernel_rfl, by kernel_rfl, by kernel_rfl, by kernel_rfl⟩⟩
abbrev N_size_of : List Str := ["question", "part"]
theorem sc_size_of : FnScope N_size_of ["question"] d_size_of.scope := ⟨by kernel_rfl, by kernel_rfl, by kernel_rfl, by decide +kernel, by kernel_rfl, by decide +kernel, by decide +kernel⟩
theorem q_size_of : Pq d_size_of "size_of" ["question"] := ⟨⟨45, by kernel_rfl⟩, ⟨43, by kernel_rfl⟩, rfl, ⟨rfl, rfl, by kernel_rfl, by kernel_rfl, by kernel_rfl, by kernel_rfl, by kernel_rfl⟩⟩
abbrev N_given_text : List Str := ["thing", "column"]
theorem sc_given_text : FnScope N_given_text ["thing"] d_given_text.scope := ⟨by kernel_rfl, by kernel_rfl, by kernel_rfl, by decide +kernel, by kernel_rfl, by decide +kernel, by decide +kernel⟩
theorem q_given_text : Pq d_given_text "given_text" ["thing"] := ⟨⟨46, by kernel_rfl⟩, ⟨44, by kernel_rfl⟩, rfl, ⟨rfl, rfl, by kernel_rfl, by kernel_rfl, by kernel_rfl, by kernel_rfl, by kernel_rfl⟩⟩
abbrev N_text_of : List Str := ["question", "parts", "told", "word", "given", "part", "thing"]
theorem sc_text_of : FnScope N_text_of ["question"] d_text_of.scope := ⟨by kernel_rfl, by kernel_rfl, by kernel_rfl, by decide +kernel, by kernel_rfl, by decide +kernel, by decide +kernel⟩
theorem q_text_of : Pq d_text_of "text_of" ["question"] := ⟨⟨47, by kernel_rfl⟩, ⟨45, by kernel_rfl⟩, rfl, ⟨rfl, rfl, by kernel_rfl, by kernel_rfl, by kernel_rfl, by kernel_rfl, by kernel_rfl⟩⟩
abbrev N_rank : List Str := ["question"]
theorem sc_rank : FnScope N_rank ["question"] d_rank.scope := ⟨by kernel_rfl, by kernel_rfl, by kernel_rfl, by decide +kernel, by kernel_rfl, by decide +kernel, by decide +kernel⟩
theorem q_rank : Pq d_rank "rank" ["question"] := ⟨⟨48, by kernel_rfl⟩, ⟨46, by kernel_rfl⟩, rfl, ⟨rfl, rfl, by kernel_rfl, by kernel_rfl, by kernel_rfl, by kernel_rfl, by kernel_rfl⟩⟩
abbrev N_rows_told : List Str := ["field", "book", "question", "told", "part"]
theorem sc_rows_told : FnScope N_rows_told ["field", "book", "question"] d_rows_told.scope := ⟨by kernel_rfl, by kernel_rfl, by kernel_rfl, by decide +kernel, by kernel_rfl, by decide +kernel, by decide +kernel⟩
theorem q_rows_told : Pq d_rows_told "rows_told" ["field", "book", "question"] := ⟨⟨49, by kernel_rfl⟩, ⟨47, by kernel_rfl⟩, rfl, ⟨rfl, rfl, by kernel_rfl, by kernel_rfl, by kernel_rfl, by kernel_rfl, by kernel_rfl⟩⟩
abbrev N_answer : List Str := ["field", "question", "book"]
theorem sc_answer : FnScope N_answer ["field", "question"] d_answer.scope := ⟨by kernel_rfl, by kernel_rfl, by kernel_rfl, by decide +kernel, by kernel_rfl, by decide +kernel, by decide +kernel⟩
theorem q_answer : Pq d_answer "answer" ["field", "question"] := ⟨⟨50, by kernel_rfl⟩, ⟨48, by kernel_rfl⟩, rfl, ⟨rfl, rfl, by kernel_rfl, by kernel_rfl, by kernel_rfl, by kernel_rfl, by kernel_rfl⟩⟩
abbrev N_picks : List Str := ["columns", "found", "longer", "many", "some", "column"]
theorem sc_picks : FnScope N_picks ["columns"] d_picks.scope := ⟨by kernel_rfl, by kernel_rfl, by kernel_rfl, by decide +kernel, by kernel_rfl, by decide +kernel, by decide +kernel⟩
theorem q_picks : Pq d_picks "picks" ["columns"] := ⟨⟨51, by kernel_rfl⟩, ⟨49, by kernel_rfl⟩, rfl, ⟨rfl, rfl, by kernel_rfl, by kernel_rfl, by kernel_rfl, by kernel_rfl, by kernel_rfl⟩⟩
abbrev N_moves_by_word : List Str := ["field", "word", "columns", "j", "i", "value", "picked"]
theorem sc_moves_by_word : FnScope N_moves_by_word ["field", "word", "columns"] d_moves_by_word.scope := ⟨by kernel_rfl, by kernel_rfl, by kernel_rfl, by decide +kernel, by kernel_rfl, by decide +kernel, by decide +kernel⟩
theorem q_moves_by_word : Pq d_moves_by_word "moves_by_word" ["field", "word", "columns"] := ⟨⟨52, by kernel_rfl⟩, ⟨50, by kernel_rfl⟩, rfl, ⟨rfl, rfl, by kernel_rfl, by kernel_rfl, by kernel_rfl, by kernel_rfl, by kernel_rfl⟩⟩
abbrev N_moves_on_one : List Str := ["field", "words", "columns", "word", "move"]
theorem sc_moves_on_one : FnScope N_moves_on_one ["field", "words", "columns"] d_moves_on_one.scope := ⟨by kernel_rfl, by kernel_rfl, by kernel_rfl, by decide +kernel, by kernel_rfl, by decide +kernel, by decide +kernel⟩
theorem q_moves_on_one : Pq d_moves_on_one "moves_on_one" ["field", "words", "columns"] := ⟨⟨53, by kernel_rfl⟩, ⟨51, by kernel_rfl⟩, rfl, ⟨rfl, rfl, by kernel_rfl, by kernel_rfl, by kernel_rfl, by kernel_rfl, by kernel_rfl⟩⟩
abbrev N_lot_of : List Str := ["field", "question", "told"]
theorem sc_lot_of : FnScope N_lot_of ["field", "question"] d_lot_of.scope := ⟨by kernel_rfl, by kernel_rfl, by kernel_rfl, by decide +kernel, by kernel_rfl, by decide +kernel, by decide +kernel⟩
theorem q_lot_of : Pq d_lot_of "lot_of" ["field", "question"] := ⟨⟨54, by kernel_rfl⟩, ⟨52, by kernel_rfl⟩, rfl, ⟨rfl, rfl, by kernel_rfl, by kernel_rfl, by kernel_rfl, by kernel_rfl, by kernel_rfl⟩⟩
abbrev N_lots_by_one : List Str := ["field", "lot", "found", "move", "size", "question", "columns", "told", "rows", "one"]
theorem sc_lots_by_one : FnScope N_lots_by_one ["field", "lot"] d_lots_by_one.scope := ⟨by kernel_rfl, by kernel_rfl, by kernel_rfl, by decide +kernel, by kernel_rfl, by decide +kernel, by decide +kernel⟩
theorem q_lots_by_one : Pq d_lots_by_one "lots_by_one" ["field", "lot"] := ⟨⟨55, by kernel_rfl⟩, ⟨53, by kernel_rfl⟩, rfl, ⟨rfl, rfl, by kernel_rfl, by kernel_rfl, by kernel_rfl, by kernel_rfl, by kernel_rfl⟩⟩
abbrev N_key_of : List Str := ["lot"]
theorem sc_key_of : FnScope N_key_of ["lot"] d_key_of.scope := ⟨by kernel_rfl, by kernel_rfl, by kernel_rfl, by decide +kernel, by kernel_rfl, by decide +kernel, by decide +kernel⟩
theorem q_key_of : Pq d_key_of "key_of" ["lot"] := ⟨⟨56, by kernel_rfl⟩, ⟨54, by kernel_rfl⟩, rfl, ⟨rfl, rfl, by kernel_rfl, by kernel_rfl, by kernel_rfl, by kernel_rfl, by kernel_rfl⟩⟩
abbrev N_made_lots : List Str := ["field", "size", "lots", "found", "lot", "second", "made", "name"]
theorem sc_made_lots : FnScope N_made_lots ["field", "size", "lots"] d_made_lots.scope := ⟨by kernel_rfl, by kernel_rfl, by kernel_rfl, by decide +kernel, by kernel_rfl, by decide +kernel, by decide +kernel⟩
theorem q_made_lots : Pq d_made_lots "made_lots" ["field", "size", "lots"] := ⟨⟨57, by kernel_rfl⟩, ⟨55, by kernel_rfl⟩, rfl, ⟨rfl, rfl, by kernel_rfl, by kernel_rfl, by kernel_rfl, by kernel_rfl, by kernel_rfl⟩⟩
abbrev N_lot_rank : List Str := ["lot"]
theorem sc_lot_rank : FnScope N_lot_rank ["lot"] d_lot_rank.scope := ⟨by kernel_rfl, by kernel_rfl, by kernel_rfl, by decide +kernel, by kernel_rfl, by decide +kernel, by decide +kernel⟩
theorem q_lot_rank : Pq d_lot_rank "lot_rank" ["lot"] := ⟨⟨58, by kernel_rfl⟩, ⟨56, by kernel_rfl⟩, rfl, ⟨rfl, rfl, by kernel_rfl, by kernel_rfl, by kernel_rfl, by kernel_rfl, by kernel_rfl⟩⟩
abbrev N_further : List Str := ["field", "size", "lots", "kept", "made", "known", "lot"]
theorem sc_further : FnScope N_further ["field", "size", "lots"] d_further.scope := ⟨by kernel_rfl, by kernel_rfl, by kernel_rfl, by decide +kernel, by kernel_rfl, by decide +kernel, by decide +kernel⟩
theorem q_further : Pq d_further "further" ["field", "size", "lots"] := ⟨⟨59, by kernel_rfl⟩, ⟨57, by kernel_rfl⟩, rfl, ⟨rfl, rfl, by kernel_rfl, by kernel_rfl, by kernel_rfl, by kernel_rfl, by kernel_rfl⟩⟩
abbrev N_reach : List Str := ["field", "size", "lots", "behind"]
theorem sc_reach : FnScope N_reach ["field", "size"] d_reach.scope := ⟨by kernel_rfl, by kernel_rfl, by kernel_rfl, by decide +kernel, by kernel_rfl, by decide +kernel, by decide +kernel⟩
theorem q_reach : Pq d_reach "reach" ["field", "size"] := ⟨⟨60, by kernel_rfl⟩, ⟨58, by kernel_rfl⟩, rfl, ⟨rfl, rfl, by kernel_rfl, by kernel_rfl, by kernel_rfl, by kernel_rfl, by kernel_rfl⟩⟩
abbrev N_check_size : List Str := ["thing"]
theorem sc_check_size : FnScope N_check_size ["thing"] d_check_size.scope := ⟨by kernel_rfl, by kernel_rfl, by kernel_rfl, by decide +kernel, by kernel_rfl, by decide +kernel, by decide +kernel⟩
theorem q_check_size : Pq d_check_size "check_size" ["thing"] := ⟨⟨61, by kernel_rfl⟩, ⟨59, by kernel_rfl⟩, rfl, ⟨rfl, rfl, by kernel_rfl, by kernel_rfl, by kernel_rfl, by kernel_rfl, by kernel_rfl⟩⟩
abbrev N_stands_at : List Str := ["wishes", "book", "row", "wish"]
theorem sc_stands_at : FnScope N_stands_at ["wishes", "book", "row"] d_stands_at.scope := ⟨by kernel_rfl, by kernel_rfl, by kernel_rfl, by decide +kernel, by kernel_rfl, by decide +kernel, by decide +kernel⟩
theorem q_stands_at : Pq d_stands_at "stands_at" ["wishes", "book", "row"] := ⟨⟨62, by kernel_rfl⟩, ⟨60, by kernel_rfl⟩, rfl, ⟨rfl, rfl, by kernel_rfl, by kernel_rfl, by kernel_rfl, by kernel_rfl, by kernel_rfl⟩⟩
abbrev N_with_wish : List Str := ["wishes", "wish"]
theorem sc_with_wish : FnScope N_with_wish ["wishes", "wish"] d_with_wish.scope := ⟨by kernel_rfl, by kernel_rfl, by kernel_rfl, by decide +kernel, by kernel_rfl, by decide +kernel, by decide +kernel⟩
theorem q_with_wish : Pq d_with_wish "with_wish" ["wishes", "wish"] := ⟨⟨63, by kernel_rfl⟩, ⟨61, by kernel_rfl⟩, rfl, ⟨rfl, rfl, by kernel_rfl, by kernel_rfl, by kernel_rfl, by kernel_rfl, by kernel_rfl⟩⟩
abbrev N_without_wish : List Str := ["wishes", "book", "row", "wish"]
theorem sc_without_wish : FnScope N_without_wish ["wishes", "book", "row"] d_without_wish.scope := ⟨by kernel_rfl, by kernel_rfl, by kernel_rfl, by decide +kernel, by kernel_rfl, by decide +kernel, by decide +kernel⟩
theorem q_without_wish : Pq d_without_wish "without_wish" ["wishes", "book", "row"] := ⟨⟨64, by kernel_rfl⟩, ⟨62, by kernel_rfl⟩, rfl, ⟨rfl, rfl, by kernel_rfl, by kernel_rfl, by kernel_rfl, by kernel_rfl, by kernel_rfl⟩⟩
abbrev N_State_init : List Str := ["self", "field", "far", "wishes"]
theorem sc_State_init : FnScope N_State_init ["self", "field", "far", "wishes"] d_State_init.scope := ⟨by kernel_rfl, by kernel_rfl, by kernel_rfl, by decide +kernel, by kernel_rfl, by decide +kernel, by decide +kernel⟩
abbrev N_check_place : List Str := ["state", "columns", "book", "row"]
theorem sc_check_place : FnScope N_check_place ["state", "columns", "book", "row"] d_check_place.scope := ⟨by kernel_rfl, by kernel_rfl, by kernel_rfl, by decide +kernel, by kernel_rfl, by decide +kernel, by decide +kernel⟩
theorem q_check_place : Pq d_check_place "check_place" ["state", "columns", "book", "row"] := ⟨⟨66, by kernel_rfl⟩, ⟨63, by kernel_rfl⟩, rfl, ⟨rfl, rfl, by kernel_rfl, by kernel_rfl, by kernel_rfl, by kernel_rfl, by kernel_rfl⟩⟩
abbrev N_wishes_behind : List Str := ["state", "columns", "word", "things", "stands", "book", "row"]
theorem sc_wishes_behind : FnScope N_wishes_behind ["state", "columns", "word", "things"] d_wishes_behind.scope := ⟨by kernel_rfl, by kernel_rfl, by kernel_rfl, by decide +kernel, by kernel_rfl, by decide +kernel, by decide +kernel⟩
theorem q_wishes_behind : Pq d_wishes_behind "wishes_behind" ["state", "columns", "word", "things"] := ⟨⟨67, by kernel_rfl⟩, ⟨64, by kernel_rfl⟩, rfl, ⟨rfl, rfl, by kernel_rfl, by kernel_rfl, by kernel_rfl, by kernel_rfl, by kernel_rfl⟩⟩
abbrev N_behind : List Str := ["state", "columns", "word", "things"]
theorem sc_behind : FnScope N_behind ["state", "columns", "word", "things"] d_behind.scope := ⟨by kernel_rfl, by kernel_rfl, by kernel_rfl, by decide +kernel, by kernel_rfl, by decide +kernel, by decide +kernel⟩
theorem q_behind : Pq d_behind "behind" ["state", "columns", "word", "things"] := ⟨⟨68, by kernel_rfl⟩, ⟨65, by kernel_rfl⟩, rfl, ⟨rfl, rfl, by kernel_rfl, by kernel_rfl, by kernel_rfl, by kernel_rfl, by kernel_rfl⟩⟩
abbrev N_Seeker_init : List Str := ["self", "field", "size", "columns"]
theorem sc_Seeker_init : FnScope N_Seeker_init ["self", "field", "size", "columns"] d_Seeker_init.scope := ⟨by kernel_rfl, by kernel_rfl, by kernel_rfl, by decide +kernel, by kernel_rfl, by decide +kernel, by decide +kernel⟩
abbrev N_Seeker_note : List Str := ["self", "entry"]
theorem sc_Seeker_note : FnScope N_Seeker_note ["self", "entry"] d_Seeker_note.scope := ⟨by kernel_rfl, by kernel_rfl, by kernel_rfl, by decide +kernel, by kernel_rfl, by decide +kernel, by decide +kernel⟩
abbrev N_Seeker_step : List Str := ["self", "word", "things", "granted"]
theorem sc_Seeker_step : FnScope N_Seeker_step ["self", "word", "things"] d_Seeker_step.scope := ⟨by kernel_rfl, by kernel_rfl, by kernel_rfl, by decide +kernel, by kernel_rfl, by decide +kernel, by decide +kernel⟩
abbrev N_Seeker_deed : List Str := ["self", "word", "things", "before"]
theorem sc_Seeker_deed : FnScope N_Seeker_deed ["self", "word", "things"] d_Seeker_deed.scope := ⟨by kernel_rfl, by kernel_rfl, by kernel_rfl, by decide +kernel, by kernel_rfl, by decide +kernel, by decide +kernel⟩
abbrev N_Seeker_wish : List Str := ["self", "book", "row"]
theorem sc_Seeker_wish : FnScope N_Seeker_wish ["self", "book", "row"] d_Seeker_wish.scope := ⟨by kernel_rfl, by kernel_rfl, by kernel_rfl, by decide +kernel, by kernel_rfl, by decide +kernel, by decide +kernel⟩
abbrev N_Seeker_shun : List Str := ["self", "book", "row"]
theorem sc_Seeker_shun : FnScope N_Seeker_shun ["self", "book", "row"] d_Seeker_shun.scope := ⟨by kernel_rfl, by kernel_rfl, by kernel_rfl, by decide +kernel, by kernel_rfl, by decide +kernel, by decide +kernel⟩
abbrev N_Seeker_forget : List Str := ["self", "book", "row"]
theorem sc_Seeker_forget : FnScope N_Seeker_forget ["self", "book", "row"] d_Seeker_forget.scope := ⟨by kernel_rfl, by kernel_rfl, by kernel_rfl, by decide +kernel, by kernel_rfl, by decide +kernel, by decide +kernel⟩
abbrev N_Seeker_standing : List Str := ["self"]
theorem sc_Seeker_standing : FnScope N_Seeker_standing ["self"] d_Seeker_standing.scope := ⟨by kernel_rfl, by kernel_rfl, by kernel_rfl, by decide +kernel, by kernel_rfl, by decide +kernel, by decide +kernel⟩
abbrev N_Seeker_reached : List Str := ["self", "now"]
theorem sc_Seeker_reached : FnScope N_Seeker_reached ["self"] d_Seeker_reached.scope := ⟨by kernel_rfl, by kernel_rfl, by kernel_rfl, by decide +kernel, by kernel_rfl, by decide +kernel, by decide +kernel⟩
abbrev N_Seeker_fitting : List Str := ["self"]
theorem sc_Seeker_fitting : FnScope N_Seeker_fitting ["self"] d_Seeker_fitting.scope := ⟨by kernel_rfl, by kernel_rfl, by kernel_rfl, by decide +kernel, by kernel_rfl, by decide +kernel, by decide +kernel⟩
abbrev N_Seeker_least : List Str := ["self", "some"]
theorem sc_Seeker_least : FnScope N_Seeker_least ["self"] d_Seeker_least.scope := ⟨by kernel_rfl, by kernel_rfl, by kernel_rfl, by decide +kernel, by kernel_rfl, by decide +kernel, by decide +kernel⟩
abbrev N_Seeker_ask : List Str := ["self"]
theorem sc_Seeker_ask : FnScope N_Seeker_ask ["self"] d_Seeker_ask.scope := ⟨by kernel_rfl, by kernel_rfl, by kernel_rfl, by decide +kernel, by kernel_rfl, by decide +kernel, by decide +kernel⟩
abbrev N_law_take : List Str := ["_law_state", "_law_below", "_law_cell", "_law_found"]
theorem sc_law_take : FnScope N_law_take ["_law_state", "_law_below"] d_law_take.scope := ⟨by kernel_rfl, by kernel_rfl, by kernel_rfl, by decide +kernel, by kernel_rfl, by decide +kernel, by decide +kernel⟩
theorem q_law_take : Pq d_law_take "_law_take" ["_law_state", "_law_below"] := ⟨⟨81, by kernel_rfl⟩, ⟨66, by kernel_rfl⟩, rfl, ⟨rfl, rfl, by kernel_rfl, by kernel_rfl, by kernel_rfl, by kernel_rfl, by kernel_rfl⟩⟩
abbrev N_law_word : List Str := ["_law_state", "_law_k"]
theorem sc_law_word : FnScope N_law_word ["_law_state"] d_law_word.scope := ⟨by kernel_rfl, by kernel_rfl, by kernel_rfl, by decide +kernel, by kernel_rfl, by decide +kernel, by decide +kernel⟩
theorem q_law_word : Pq d_law_word "_law_word" ["_law_state"] := ⟨⟨82, by kernel_rfl⟩, ⟨67, by kernel_rfl⟩, rfl, ⟨rfl, rfl, by kernel_rfl, by kernel_rfl, by kernel_rfl, by kernel_rfl, by kernel_rfl⟩⟩
abbrev N_law_pool : List Str := ["_law_state", "_law_many", "_law_great", "_law_some", "_law_found", "_law_k"]
theorem sc_law_pool : FnScope N_law_pool ["_law_state", "_law_many"] d_law_pool.scope := ⟨by kernel_rfl, by kernel_rfl, by kernel_rfl, by decide +kernel, by kernel_rfl, by decide +kernel, by decide +kernel⟩
theorem q_law_pool : Pq d_law_pool "_law_pool" ["_law_state", "_law_many"] := ⟨⟨83, by kernel_rfl⟩, ⟨68, by kernel_rfl⟩, rfl, ⟨rfl, rfl, by kernel_rfl, by kernel_rfl, by kernel_rfl, by kernel_rfl, by kernel_rfl⟩⟩
abbrev N_law_sorted : List Str := ["_law_rows", "_law_once", "_law_row", "_law_v"]
theorem sc_law_sorted : FnScope N_law_sorted ["_law_rows"] d_law_sorted.scope := ⟨by kernel_rfl, by kernel_rfl, by kernel_rfl, by decide +kernel, by kernel_rfl, by decide +kernel, by decide +kernel⟩
theorem q_law_sorted : Pq d_law_sorted "_law_sorted" ["_law_rows"] := ⟨⟨84, by kernel_rfl⟩, ⟨69, by kernel_rfl⟩, rfl, ⟨rfl, rfl, by kernel_rfl, by kernel_rfl, by kernel_rfl, by kernel_rfl, by kernel_rfl⟩⟩
abbrev N_law_tables : List Str := ["_law_state", "_law_wide", "_law_names", "_law_found", "_law_name"]
theorem sc_law_tables : FnScope N_law_tables ["_law_state", "_law_wide"] d_law_tables.scope := ⟨by kernel_rfl, by kernel_rfl, by kernel_rfl, by decide +kernel, by kernel_rfl, by decide +kernel, by decide +kernel⟩
theorem q_law_tables : Pq d_law_tables "_law_tables" ["_law_state", "_law_wide"] := ⟨⟨85, by kernel_rfl⟩, ⟨70, by kernel_rfl⟩, rfl, ⟨rfl, rfl, by kernel_rfl, by kernel_rfl, by kernel_rfl, by kernel_rfl, by kernel_rfl⟩⟩
abbrev N_law_books : List Str := ["_law_state", "_law_tables_here", "_law_pool_here", "_law_most", "_law_books_here", "_law_book", "_law_told", "_law_name", "_law_columns", "_law_rows", "_law_k", "_law_c"]
theorem sc_law_books : FnScope N_law_books ["_law_state", "_law_tables_here", "_law_pool_here", "_law_most"] d_law_books.scope := ⟨by kernel_rfl, by kernel_rfl, by kernel_rfl, by decide +kernel, by kernel_rfl, by decide +kernel, by decide +kernel⟩
theorem q_law_books : Pq d_law_books "_law_books" ["_law_state", "_law_tables_here", "_law_pool_here", "_law_most"] := ⟨⟨86, by kernel_rfl⟩, ⟨71, by kernel_rfl⟩, rfl, ⟨rfl, rfl, by kernel_rfl, by kernel_rfl, by kernel_rfl, by kernel_rfl, by kernel_rfl⟩⟩
abbrev N_law_small : List Str := ["_law_state", "_law_words", "_law_tables_here", "_law_pool_here", "_law_marked", "_law_chosen", "_law_value", "_law_word_here"]
theorem sc_law_small : FnScope N_law_small ["_law_state", "_law_words"] d_law_small.scope := ⟨by kernel_rfl, by kernel_rfl, by kernel_rfl, by decide +kernel, by kernel_rfl, by decide +kernel, by decide +kernel⟩
theorem q_law_small : Pq d_law_small "_law_small" ["_law_state", "_law_words"] := ⟨⟨87, by kernel_rfl⟩, ⟨72, by kernel_rfl⟩, rfl, ⟨rfl, rfl, by kernel_rfl, by kernel_rfl, by kernel_rfl, by kernel_rfl, by kernel_rfl⟩⟩
abbrev N_law_places : List Str := ["_law_some", "_law_found", "_law_lot", "_law_book", "_law_rows", "_law_row"]
theorem sc_law_places : FnScope N_law_places ["_law_some"] d_law_places.scope := ⟨by kernel_rfl, by kernel_rfl, by kernel_rfl, by decide +kernel, by kernel_rfl, by decide +kernel, by decide +kernel⟩
theorem q_law_places : Pq d_law_places "_law_places" ["_law_some"] := ⟨⟨88, by kernel_rfl⟩, ⟨73, by kernel_rfl⟩, rfl, ⟨rfl, rfl, by kernel_rfl, by kernel_rfl, by kernel_rfl, by kernel_rfl, by kernel_rfl⟩⟩
abbrev N_law_having : List Str := ["_law_some", "_law_place", "_law_lot"]
theorem sc_law_having : FnScope N_law_having ["_law_some", "_law_place"] d_law_having.scope := ⟨by kernel_rfl, by kernel_rfl, by kernel_rfl, by decide +kernel, by kernel_rfl, by decide +kernel, by decide +kernel⟩
theorem q_law_having : Pq d_law_having "_law_having" ["_law_some", "_law_place"] := ⟨⟨89, by kernel_rfl⟩, ⟨74, by kernel_rfl⟩, rfl, ⟨rfl, rfl, by kernel_rfl, by kernel_rfl, by kernel_rfl, by kernel_rfl, by kernel_rfl⟩⟩
abbrev N_law_lacking : List Str := ["_law_some", "_law_place", "_law_lot"]
theorem sc_law_lacking : FnScope N_law_lacking ["_law_some", "_law_place"] d_law_lacking.scope := ⟨by kernel_rfl, by kernel_rfl, by kernel_rfl, by decide +kernel, by kernel_rfl, by decide +kernel, by decide +kernel⟩
theorem q_law_lacking : Pq d_law_lacking "_law_lacking" ["_law_some", "_law_place"] := ⟨⟨90, by kernel_rfl⟩, ⟨75, by kernel_rfl⟩, rfl, ⟨rfl, rfl, by kernel_rfl, by kernel_rfl, by kernel_rfl, by kernel_rfl, by kernel_rfl⟩⟩
abbrev N_law_parts : List Str := ["_law_seeker", "_law_some", "_law_place"]
theorem sc_law_parts : FnScope N_law_parts ["_law_seeker", "_law_some", "_law_place"] d_law_parts.scope := ⟨by kernel_rfl, by kernel_rfl, by kernel_rfl, by decide +kernel, by kernel_rfl, by decide +kernel, by decide +kernel⟩
theorem q_law_parts : Pq d_law_parts "_law_parts" ["_law_seeker", "_law_some", "_law_place"] := ⟨⟨91, by kernel_rfl⟩, ⟨76, by kernel_rfl⟩, rfl, ⟨rfl, rfl, by kernel_rfl, by kernel_rfl, by kernel_rfl, by kernel_rfl, by kernel_rfl⟩⟩
abbrev N_law_is_best : List Str := ["_law_some", "_law_place", "_law_places_here", "_law_worse", "_law_other", "_law_have"]
theorem sc_law_is_best : FnScope N_law_is_best ["_law_some", "_law_place", "_law_places_here"] d_law_is_best.scope := ⟨by kernel_rfl, by kernel_rfl, by kernel_rfl, by decide +kernel, by kernel_rfl, by decide +kernel, by decide +kernel⟩
theorem q_law_is_best : Pq d_law_is_best "_law_is_best" ["_law_some", "_law_place", "_law_places_here"] := ⟨⟨92, by kernel_rfl⟩, ⟨77, by kernel_rfl⟩, rfl, ⟨rfl, rfl, by kernel_rfl, by kernel_rfl, by kernel_rfl, by kernel_rfl, by kernel_rfl⟩⟩
abbrev N_law : List Str := ["_law_script", "_law_state", "_law_words", "_law_data", "_law_columns", "_law_seeker", "_law_turn", "_law_some", "_law_places_here", "_law_chosen", "_law_asked", "_law_place", "_law_try_it", "_law_k", "_law_book", "_law_row", "_law_one"]
theorem sc_law : FnScope N_law ["_law_script"] d_law.scope := ⟨by kernel_rfl, by kernel_rfl, by kernel_rfl, by decide +kernel, by kernel_rfl, by decide +kernel, by decide +kernel⟩
theorem q_law : Pq d_law "law" ["_law_script"] := ⟨⟨93, by kernel_rfl⟩, ⟨78, by kernel_rfl⟩, rfl, ⟨rfl, rfl, by kernel_rfl, by kernel_rfl, by kernel_rfl, by kernel_rfl, by kernel_rfl⟩⟩
end
end Fq
/-! FqH: the head: what the top leaves, by names. -/
namespace Fq
open PySem PySem.Spec PyProof.Rows L2
def adr0 : List Addr := [3, 242, 249, 254, 261, 266, 273, 278, 285, 292, 297, 302, 307, 312, 319, 324, 329, 334, 339, 346, 351, 358, 365, 372, 377, 384, 389, 394, 401, 408, 415, 422, 427, 432, 479, 488, 495, 502, 507, 514, 519, 524, 529, 536, 537, 538, 545, 550, 557, 564, 571, 578, 585, 592, 599, 606, 613, 620, 625, 630]
def adr1 : List Addr := [635, 642, 649, 654, 659, 664, 669, 674, 679, 686, 691, 696, 703, 708, 715, 720, 727, 734, 739, 746, 751, 768, 779, 786, 793, 800, 971, 982, 987, 994, 1001, 1008, 1013, 1018, 1023, 1028, 1033, 1040, 1047, 1052, 0, 248, 253, 260, 265, 272, 277, 284, 291, 296, 301, 306, 311, 318, 323, 328, 333, 338, 345, 350]
def adr2 : List Addr := [357, 364, 371, 376, 383, 388, 393, 400, 407, 414, 421, 426, 431, 478, 487, 494, 501, 506, 513, 518, 523, 528, 535, 531, 544, 549, 556, 563, 570, 577, 584, 591, 598, 605, 612, 619, 624, 629, 634, 641, 648, 653, 658, 663, 668, 673, 678, 685, 690, 695, 702, 707, 714, 719, 726, 733, 738, 745, 750, 767]
def adr3 : List Addr := [778, 785, 792, 799, 970, 981, 986, 993, 1000, 1007, 1012, 1017, 1022, 1027, 1032, 1039, 1046, 1051, 448, 462, 765, 814, 821, 828, 835, 842, 849, 856, 926, 933, 940, 947, 954, 447, 441, 461, 764, 813, 820, 827, 834, 841, 848, 855, 925, 932, 939, 946, 953, 530]
def adr : List Addr := adr0 ++ adr1 ++ adr2 ++ adr3
def oneK : List Str := ["below", "same", "take", "value"]
def oneV : List (Str × He.Dv) := [("below", .int 4), ("same", .int 4), ("take", .int 3), ("value", .int 4)]
/-- an empty table -/
def etab (o : Option Obj) : Bool := match o with
  | some ⟨.none, none, .fields vs, sl⟩ => decide (vs.size = 0) && decide (sl.size = 0)
  | _ => false
theorem etab_ok {o : Option Obj} (h : etab o = true) : o = some { cls := .none, data := .fields #[] } := by
  unfold etab at h
  split at h
  · obtain ⟨h1, h2⟩ := He.ba h
    rename_i vs sl
    have e1 : vs = #[] := Array.eq_empty_of_size_eq_zero (of_decide_eq_true h1)
    have e2 : sl = #[] := Array.eq_empty_of_size_eq_zero (of_decide_eq_true h2)
    rw [e1, e2]
  · cases h
/-- where the sorting def's code object and its table stand -/
def lamB (K : PySem.W.Frag) (g : Addr → Option Obj) : Bool := match PySem.W.tabIn K "_law_sorted" with
  | some (c, p) => PySem.W.codeHdIn K c p && ((K.lookup p).isNone && etab (g p))
  | none => false
abbrev AlH : Type := He.AlD × Option (List (Option (Str × Int))) × Bool
def obsK (g : Addr → Option Obj) (K : PySem.W.Frag) : AlH := (He.obsD fas fns K, He.dicW K (He.ga K "ONE"), exB K && (He.valsB K (He.ga K "ONE") oneV && lamB K g))
def obsH (g : Addr → Option Obj) : AlH := obsK g (He.frG g adr)
structure Says (w : World) (h : Heap) (K : PySem.W.Frag) : Prop where
  k : K.In h
  d : He.SaysD fas fns K
  o : He.dicW K (He.ga K "ONE") = some (He.keysIn w.params oneK)
  x : exB K = true
  v : He.valsB K (He.ga K "ONE") oneV = true
  l : ∃ c p, PySem.W.tabIn K "_law_sorted" = some (c, p) ∧ PySem.W.codeHdIn K c p = true ∧ K.lookup p = none ∧ h.get? p = some { cls := .none, data := .fields #[] }
theorem says_of {w : World} {h : Heap} (e : obsH h.get? = (He.valD fns, some (He.keysIn w.params oneK), true)) : Says w h (He.frG h.get? adr) := by
  have e1 : He.obsD fas fns (He.frG h.get? adr) = He.valD fns := congrArg (fun z : AlH => z.1) e
  have e2 : He.dicW (He.frG h.get? adr) (He.ga (He.frG h.get? adr) "ONE") = some (He.keysIn w.params oneK) := congrArg (fun z : AlH => z.2.1) e
  have e3 : (exB (He.frG h.get? adr) && (He.valsB (He.frG h.get? adr) (He.ga (He.frG h.get? adr) "ONE") oneV && lamB (He.frG h.get? adr) h.get?)) = true := congrArg (fun z : AlH => z.2.2) e
  have kin : (He.frG h.get? adr).In h := He.frG_in
  clear e
  generalize He.frG h.get? adr = K at e1 e2 e3 kin ⊢
  obtain ⟨x1, x2⟩ := He.ba e3
  obtain ⟨x2, x3⟩ := He.ba x2
  refine ⟨kin, e1, e2, x1, x2, ?_⟩
  unfold lamB at x3
  split at x3
  · rename_i c p hcp
    obtain ⟨y1, y2⟩ := He.ba x3
    obtain ⟨y2, y3⟩ := He.ba y2
    exact ⟨c, p, hcp, y1, Option.isNone_iff_eq_none.mp y2, etab_ok y3⟩
  · cases x3
theorem Says.keeps {w : World} {h h' : Heap} {K : PySem.W.Frag} (s : Says w h K) (k : ∀ b o, h.get? b = some o → h'.get? b = some o) : Says w h' K := by
  obtain ⟨c, p, l1, l2, l3, l4⟩ := s.l
  exact ⟨PySem.W.Frag.In.keeps s.k k, s.d, s.o, s.x, s.v, c, p, l1, l2, l3, k _ _ l4⟩
def hkH : PySem.W.Hook where
  α := AlH
  obs := fun s => obsH s.heap.get?
  val := fun w => (He.valD fns, some (He.keysIn w.params oneK), true)
  says := fun w h => ∃ K : PySem.W.Frag, Says w h K
  of := fun _ _ e => ⟨_, says_of e⟩
  keeps := fun _ _ _ ⟨K, s⟩ k => ⟨K, s.keeps k⟩
abbrev Rw : PySem.W.OpenRow := PySem.W.OpenLaw.row PySem.Challenge.rw_findquestion_k69_whole_a_wish_parts_the
def obH (s : PySem.W.SharedT) : AlH := obsH (HandSHeadRun.getT s)
theorem ob_eq (s : PySem.W.SharedT) : obH s = hkH.obs s.abs := by
  have e : HandSHeadRun.getT s = s.abs.heap.get? := funext (HandSHeadRun.getT_eq s)
  unfold obH
  rw [e]
  rfl
abbrev wF (w : World) (b : Bool) : World := w.withFollow "special-get-raises" b
/-- the run's equation, a third each -/
def EqL (r : PySem.W.OpenRow) (M : Nat) (w : World) : Prop := ∀ os : OsState, (HandSHeadRun.endF (HandSHeadRun.stepQ (HandSHeadRun.denQ HandSHeadRun.tabQ) r.prog w) M r.prog w os).map (fun s => HandSHeadRun.looksF r.prog (PySem.W.boot_heap w.params) s.abs) = some true
def EqS (r : PySem.W.OpenRow) (q : Program) (M : Nat) (loose : List Str) (w : World) : Prop := ∀ os : OsState, (HandSHeadRun.endF (HandSHeadRun.stepQ (HandSHeadRun.denQ HandSHeadRun.tabQ) r.prog w) M r.prog w os).map (fun s => HandSHeadRun.seenQ q loose (PySem.importedModules r.prog.main.body) (fun s => PySem.W.xlAt q [] s && PySem.W.recOk r.toRowW.records s) s.abs) = some (PySem.W.openGood q loose)
def EqO (r : PySem.W.OpenRow) (H : PySem.W.Hook) (ob : PySem.W.SharedT → H.α) (M : Nat) (w : World) : Prop := ∀ os : OsState, (HandSHeadRun.endF (HandSHeadRun.stepQ (HandSHeadRun.denQ HandSHeadRun.tabQ) r.prog w) M r.prog w os).map ob = some (H.val w)
theorem map3 {α β γ δ : Type} {o : Option α} {f : α → β} {g : α → γ} {h : α → δ} {a : β} {b : γ} {c : δ} (h1 : o.map f = some a) (h2 : o.map g = some b) (h3 : o.map h = some c) : o.map (fun s => (f s, g s, h s)) = some (a, b, c) := by
  cases o with
  | none => cases h1
  | some x =>
    have e1 : f x = a := Option.some.inj h1
    have e2 : g x = b := Option.some.inj h2
    have e3 : h x = c := Option.some.inj h3
    show some (f x, g x, h x) = _
    rw [e1, e2, e3]
theorem eq_mk {r : PySem.W.OpenRow} {q : Program} {H : PySem.W.Hook} {ob : PySem.W.SharedT → H.α} {M : Nat} {loose : List Str} {w : World} (h1 : EqL r M w) (h2 : EqS r q M loose w) (h3 : EqO r H ob M w) : HandSHeadRun.RunEq r q H ob M loose w := fun os => map3 (h1 os) (h2 os) (h3 os)
abbrev qv : Program := PySem.W.view Rw.prog [140]
theorem runL0 (w : World) : EqL Rw 15000 (wF w false) := by
  intro os
  kernel_rfl
theorem runL1 (w : World) : EqL Rw 15000 (wF w true) := by
  intro os
  kernel_rfl
theorem runS0 (w : World) : EqS Rw qv 15000 loo (wF w false) := by
  intro os
  kernel_rfl
theorem runS1 (w : World) : EqS Rw qv 15000 loo (wF w true) := by
  intro os
  kernel_rfl
theorem runO0 (w : World) : EqO Rw hkH obH 15000 (wF w false) := by
  intro os
  kernel_rfl
theorem runO1 (w : World) : EqO Rw hkH obH 15000 (wF w true) := by
  intro os
  kernel_rfl
theorem run (w : World) : HandSHeadRun.RunEq Rw qv hkH obH 15000 loo w :=
  PySem.W.byRow2 "special-get-raises" (P := fun w => HandSHeadRun.RunEq Rw qv hkH obH 15000 loo w) (fun w => eq_mk (runL0 w) (runS0 w) (runO0 w)) (fun w => eq_mk (runL1 w) (runS1 w) (runO1 w)) w
end Fq
/-! FqC: what the built-in operations do on data. -/
namespace Fq
open PySem PySem.Spec PyProof.Rows L2 Evl

/-- data that == and in may look at -/
structure Pl (d : PyData) : Prop where
  pl : d.plain = true
  dp : d.depth ≤ 50

section
variable {i : XI} {ρ : En} {Φ : Dt → Prop} {X : Cx} {pins : List (Addr × Obj)} {s : Shared} {σ : L2.St} {Hf H : Hp} {Q : VK}
theorem reads_of {v : V} {vv : Value} {d : PyData} (ok : XOk i X) (I : Inv X pins σ H s) (e : Ex Hf H) (r : Dp i.K Hf v d) (rv : RelV v vv) : ∃ as, Reads s.heap vv d as :=
  Dp.reads I d v vv (by rw [ok.K]; exact dp_mono e r) rv
theorem XOk.un {d : PyData} (ok : XOk i X) (h : d.depth ≤ 50) {n : Nat} (hn : n ≤ 14) : X.A.units + n + d.depth < cLine := by
  have := ok.room.units
  omega
/-- an answer that is a truth -/
theorem ep_bl {b : Bool} (I : Inv X pins σ H s) (e : Ex Hf H) (q : ∀ z d Hf' H', Tr Hf H Hf' H' → Rp i.K Hf' z d → Φ d → Q z H') (h : Φ (.py (.bool b))) : EP X pins σ Q (.bool b) s := ⟨.bl b, H, I, rfl, q _ _ Hf H (.refl e) (rpy (Dp.bl b)) h⟩

/-! ### comparisons -/
theorem od_eq {d e : PyData} (hd : Pl d) (he : Pl e) (h : Φ (.py (.bool (PyData.eqv d e)))) : OpD i (compareOp .Eq) (.py d) (.py e) Φ := fun X ok pins s σ Hf H v u vv uu Q I x r1 r2 rv ru q => by
  obtain ⟨as, ra⟩ := reads_of ok I x r1 rv
  obtain ⟨bs, rb⟩ := reads_of ok I x r2 ru
  exact SeqAt.eq_plain ra rb hd.pl he.pl (by have := ok.room.units; have := hd.dp; omega) (ep_bl I x q h)
theorem od_ne {d e : PyData} (hd : Pl d) (he : Pl e) (h : Φ (.py (.bool (!PyData.eqv d e)))) : OpD i (compareOp .NotEq) (.py d) (.py e) Φ := fun X ok pins s σ Hf H v u vv uu Q I x r1 r2 rv ru q => by
  obtain ⟨as, ra⟩ := reads_of ok I x r1 rv
  obtain ⟨bs, rb⟩ := reads_of ok I x r2 ru
  exact SeqAt.ne_plain ra rb hd.pl he.pl (by have := ok.room.units; have := hd.dp; omega) (ep_bl I x q h)
theorem od_inT {d : PyData} {xs : List PyData} (hd : Pl d) (he : PyData.plainAll xs = true) (h : Φ (.py (.bool (xs.any fun y => PyData.eqv y d)))) : OpD i (compareOp .In) (.py d) (.py (.tuple xs)) Φ := fun X ok pins s σ Hf H v u vv uu Q I x r1 r2 rv ru q => by
  obtain ⟨as, ra⟩ := reads_of ok I x r1 rv
  obtain ⟨bs, rb⟩ := reads_of ok I x r2 ru
  exact SeqAt.in_tuple_data rb ra he hd.pl (by have := ok.room.units; have := hd.dp; omega) (ep_bl I x q h)
theorem od_inL {d : PyData} {xs : List PyData} (hd : Pl d) (he : PyData.plainAll xs = true) (h : Φ (.py (.bool (xs.any fun y => PyData.eqv y d)))) : OpD i (compareOp .In) (.py d) (.py (.list xs)) Φ := fun X ok pins s σ Hf H v u vv uu Q I x r1 r2 rv ru q => by
  obtain ⟨as, ra⟩ := reads_of ok I x r1 rv
  obtain ⟨bs, rb⟩ := reads_of ok I x r2 ru
  exact SeqAt.in_list_data rb ra he hd.pl (by have := ok.room.units; have := hd.dp; omega) (ep_bl I x q h)
theorem od_niT {d : PyData} {xs : List PyData} (hd : Pl d) (he : PyData.plainAll xs = true) (h : Φ (.py (.bool (!xs.any fun y => PyData.eqv y d)))) : OpD i (compareOp .NotIn) (.py d) (.py (.tuple xs)) Φ := fun X ok pins s σ Hf H v u vv uu Q I x r1 r2 rv ru q => by
  obtain ⟨as, ra⟩ := reads_of ok I x r1 rv
  obtain ⟨bs, rb⟩ := reads_of ok I x r2 ru
  exact SeqAt.notIn_tuple_data rb ra he hd.pl (by have := ok.room.units; have := hd.dp; omega) (ep_bl I x q h)
theorem od_niL {d : PyData} {xs : List PyData} (hd : Pl d) (he : PyData.plainAll xs = true) (h : Φ (.py (.bool (!xs.any fun y => PyData.eqv y d)))) : OpD i (compareOp .NotIn) (.py d) (.py (.list xs)) Φ := fun X ok pins s σ Hf H v u vv uu Q I x r1 r2 rv ru q => by
  obtain ⟨as, ra⟩ := reads_of ok I x r1 rv
  obtain ⟨bs, rb⟩ := reads_of ok I x r2 ru
  exact SeqAt.notIn_list_data rb ra he hd.pl (by have := ok.room.units; have := hd.dp; omega) (ep_bl I x q h)
/-- a rule on ints -/
theorem od_I {f : Value → Value → Sem Value} {m n : Int} {C : Int → Int → Prop} {g : Int → Int → V} {dd : PyData} (ho : ∀ X, XOk i X → OpR X f (rI C g)) (hc : C m n) (hg : ∀ H, Dp i.K H (g m n) dd) (h : Φ (.py dd)) : OpD i f (.py (.int m)) (.py (.int n)) Φ :=
  opD_of ho fun Hf H v u Q e r1 r2 q => by
    cases r1
    cases r2
    exact ⟨m, n, rfl, rfl, hc, q _ _ Hf H (.refl e) (rpy (hg _)) h⟩
theorem od_I0 {f : Value → Value → Sem Value} {m n : Int} {g : Int → Int → V} {dd : PyData} (ho : ∀ X, XOk i X → OpR X f (rI0 g)) (hg : ∀ H, Dp i.K H (g m n) dd) (h : Φ (.py dd)) : OpD i f (.py (.int m)) (.py (.int n)) Φ :=
  opD_of ho fun Hf H v u Q e r1 r2 q => by
    cases r1
    cases r2
    exact ⟨m, n, rfl, rfl, q _ _ Hf H (.refl e) (rpy (hg _)) h⟩
theorem od_lt {m n : Int} (h : Φ (.py (.bool (decide (m < n))))) : OpD i (compareOp .Lt) (.py (.int m)) (.py (.int n)) Φ := od_I0 (fun _ _ => op_lt) (fun _ => Dp.bl _) h
theorem od_le {m n : Int} (h : Φ (.py (.bool (decide (m ≤ n))))) : OpD i (compareOp .LtE) (.py (.int m)) (.py (.int n)) Φ := od_I0 (fun _ _ => op_le) (fun _ => Dp.bl _) h
theorem od_gt {m n : Int} (h : Φ (.py (.bool (decide (n < m))))) : OpD i (compareOp .Gt) (.py (.int m)) (.py (.int n)) Φ := od_I0 (fun _ _ => op_gt) (fun _ => Dp.bl _) h
theorem od_ge {m n : Int} (h : Φ (.py (.bool (decide (n ≤ m))))) : OpD i (compareOp .GtE) (.py (.int m)) (.py (.int n)) Φ := od_I0 (fun _ _ => op_ge) (fun _ => Dp.bl _) h
theorem od_add {m n : Int} (h : Φ (.py (.int (m + n)))) : OpD i (binaryOp .Add) (.py (.int m)) (.py (.int n)) Φ := od_I0 (fun _ _ => op_add) (fun _ => Dp.int _) h
theorem od_sub {m n : Int} (h : Φ (.py (.int (m - n)))) : OpD i (binaryOp .Sub) (.py (.int m)) (.py (.int n)) Φ := od_I0 (fun _ _ => op_sub) (fun _ => Dp.int _) h
theorem od_mul {m n : Int} (hc : CMul m n) (h : Φ (.py (.int (m * n)))) : OpD i (binaryOp .Mult) (.py (.int m)) (.py (.int n)) Φ := od_I (fun _ _ => op_mul) hc (fun _ => Dp.int _) h
theorem od_mod {m n : Int} (hc : 0 < n) (h : Φ (.py (.int (m % n)))) : OpD i (binaryOp .Mod) (.py (.int m)) (.py (.int n)) Φ := od_I (fun _ _ => op_mod) hc (fun _ => Dp.int _) h
theorem od_fdiv {m n : Int} (hc : CDiv m n) (h : Φ (.py (.int (m / n)))) : OpD i (binaryOp .FloorDiv) (.py (.int m)) (.py (.int n)) Φ := od_I (fun _ _ => op_fdiv) hc (fun _ => Dp.int _) h
theorem od_pow {m n : Int} (hc : CPow m n) (h : Φ (.py (.int (m ^ n.toNat)))) : OpD i (binaryOp .Pow) (.py (.int m)) (.py (.int n)) Φ := od_I (fun _ _ => op_pow) hc (fun _ => Dp.int _) h
/-- places alike -/
theorem od_ltA {d e : PyData} (ha : PySem.W.alike d e = true) (hn : d ≠ .none) (hd : d.depth ≤ 50) (h : Φ (.py (.bool (PySem.W.dataLt d e)))) : OpD i (compareOp .Lt) (.py d) (.py e) Φ := fun X ok pins s σ Hf H v u vv uu Q I x r1 r2 rv ru q => by
  obtain ⟨as, ra⟩ := reads_of ok I x r1 rv
  obtain ⟨bs, rb⟩ := reads_of ok I x r2 ru
  exact PySem.W.rcLt_alike d e X.A s vv uu as bs ra rb ha hn (by have := ok.room.units; omega) _ _ _ _ (ep_bl I x q h)
theorem od_inS {c z : Str} (h : Φ (.py (.bool (!(Builtin.Str.occurrences z c 0 z.length 1).isEmpty)))) : OpD i (compareOp .In) (.py (.str c)) (.py (.str z)) Φ := opD_of (fun _ _ => op_in_str) fun Hf H v u Q e r1 r2 q => by
  cases r1
  cases r2
  exact ⟨c, z, rfl, rfl, q _ _ Hf H (.refl e) (rpy (Dp.bl _)) h⟩
def isNone : PyData → Bool
  | .none => true
  | _ => false
theorem dp_none {K : PySem.W.Frag} {H : Hp} {v : V} {d : PyData} (h : Dp K H v d) : decide (v = V.non) = isNone d := by
  cases h <;> rfl
theorem od_isN {x : Dt} {b : Bool} (hx : ∀ H v, Rp i.K H v x → decide (v = V.non) = b) (h : Φ (.py (.bool b))) : OpD i (compareOp .Is) x (.py .none) Φ := opD_of (fun _ _ => op_isN) fun Hf H v u Q e r1 r2 q => by
  cases r2
  rw [hx _ _ r1]
  exact ⟨rfl, q _ _ Hf H (.refl e) (rpy (Dp.bl _)) h⟩
theorem od_notN {x : Dt} {b : Bool} (hx : ∀ H v, Rp i.K H v x → decide (v = V.non) = b) (h : Φ (.py (.bool (!b)))) : OpD i (compareOp .IsNot) x (.py .none) Φ := opD_of (fun _ _ => op_notN) fun Hf H v u Q e r1 r2 q => by
  cases r2
  rw [hx _ _ r1]
  exact ⟨rfl, q _ _ Hf H (.refl e) (rpy (Dp.bl _)) h⟩
theorem isN_py {d : PyData} : ∀ H v, Rp i.K H v (.py d) → decide (v = V.non) = isNone d := fun _ _ h => dp_none h

/-! ### tuples, texts -/
theorem dpAll_app {K : PySem.W.Frag} {H : Hp} : ∀ {vs us : List V} {ds es : List PyData}, DpAll K H vs ds → DpAll K H us es → DpAll K H (vs ++ us) (ds ++ es)
  | [], us, [], es, _, h => h
  | [], _, _ :: _, _, h, _ => nomatch h
  | _ :: _, _, [], _, h, _ => nomatch h
  | v :: vs, us, d :: ds, es, h, g => by
    have t : Dp K H v d ∧ DpAll K H vs ds := by
      cases h with
      | cons a b => exact ⟨a, b⟩
    exact .cons t.1 (dpAll_app t.2 g)
theorem dp_tup {K : PySem.W.Frag} {H : Hp} {v : V} {ds : List PyData} (h : Dp K H v (.tuple ds)) : ∃ a xs, v = .ref a ∧ SqT K H a xs ∧ DpAll K H xs ds := by
  cases h with
  | tup h t => exact ⟨_, _, rfl, h, t⟩
theorem dp_lst {K : PySem.W.Frag} {H : Hp} {v : V} {ds : List PyData} (h : Dp K H v (.list ds)) : ∃ a xs, v = .ref a ∧ SqL K H a xs ∧ DpAll K H xs ds := by
  cases h with
  | lst h t => exact ⟨_, _, rfl, h, t⟩
theorem od_addT {ds es : List PyData} (hz : ds.length + es.length ≤ 100000) (h : Φ (.py (.tuple (ds ++ es)))) : OpD i (binaryOp .Add) (.py (.tuple ds)) (.py (.tuple es)) Φ := fun X ok => opD_of (i := i) (r := rCatA i.K) (fun X ok => by rw [← ok.K]; exact op_catA) (fun Hf H v u Q e r1 r2 q => by
  obtain ⟨a, xs, rfl, h1, d1⟩ := dp_tup r1
  obtain ⟨b, ys, rfl, h2, d2⟩ := dp_tup r2
  have l1 := dpAll_len d1
  have l2 := dpAll_len d2
  refine ⟨a, b, xs, ys, rfl, rfl, ex_t e h1, ex_t e h2, sz_of (by omega), fun e0 => ?_, fun _ e0 => ?_, fun _ _ p hp => ?_⟩
  · subst e0
    obtain rfl : ds = [] := List.eq_nil_of_length_eq_zero l1.symm
    exact q _ _ Hf H (.refl e) r2 h
  · subst e0
    obtain rfl : es = [] := List.eq_nil_of_length_eq_zero l2.symm
    rw [List.append_nil] at h
    exact q _ _ Hf H (.refl e) r1 h
  · exact q _ _ _ _ (.new e hp) (rpy (dp_tup_new (dpAll_app d1 d2) (fresh_back e hp))) h) X ok
theorem od_addS {x y : Str} (hz : x.length + y.length ≤ 100000) (h : Φ (.py (.str (x ++ y)))) : OpD i (binaryOp .Add) (.py (.str x)) (.py (.str y)) Φ := opD_of (fun _ _ => op_add_str) fun Hf H v u Q e r1 r2 q => by
  cases r1
  cases r2
  exact ⟨x, y, rfl, rfl, sz_of hz, q _ _ Hf H (.refl e) (rpy (Dp.str _)) h⟩
theorem dpAll_rep {K : PySem.W.Frag} {H : Hp} {vs : List V} {ds : List PyData} (h : DpAll K H vs ds) : ∀ n : Nat, DpAll K H (List.replicate n vs).flatten (List.replicate n ds).flatten
  | 0 => .nil
  | n + 1 => by
    rw [List.replicate_succ, List.replicate_succ, List.flatten_cons, List.flatten_cons]
    exact dpAll_app h (dpAll_rep h n)
theorem dpAll_get {K : PySem.W.Frag} {H : Hp} : ∀ {vs : List V} {ds : List PyData} {j : Nat} {d : PyData}, DpAll K H vs ds → ds[j]? = some d → ∃ v, vs[j]? = some v ∧ Dp K H v d
  | [], [], _, _, _, h => by simp at h
  | [], _ :: _, _, _, h, _ => nomatch h
  | _ :: _, [], _, _, h, _ => nomatch h
  | v :: vs, d :: ds, j, e, h, g => by
    have t : Dp K H v d ∧ DpAll K H vs ds := by
      cases h with
      | cons a b => exact ⟨a, b⟩
    cases j with
    | zero =>
      have e1 := Option.some.inj g
      rw [← e1]
      exact ⟨v, rfl, t.1⟩
    | succ j =>
      obtain ⟨w, h1, h2⟩ := dpAll_get t.2 (show ds[j]? = some e from g)
      exact ⟨w, h1, h2⟩
theorem dpAll_at {K : PySem.W.Frag} {H : Hp} {vs : List V} {ds : List PyData} {j : Nat} {v : V} (h : DpAll K H vs ds) (g : vs[j]? = some v) : ∃ d, ds[j]? = some d ∧ Dp K H v d := by
  have l := dpAll_len h
  have hj : j < ds.length := by
    have := (List.getElem?_eq_some_iff.mp g).1
    omega
  obtain ⟨v', h1, h2⟩ := dpAll_get h (List.getElem?_eq_getElem hj)
  rw [g] at h1
  have e := Option.some.inj h1
  rw [← e] at h2
  exact ⟨_, List.getElem?_eq_getElem hj, h2⟩
theorem dpAll_take {K : PySem.W.Frag} {H : Hp} : ∀ {vs : List V} {ds : List PyData} (n : Nat), DpAll K H vs ds → DpAll K H (vs.take n) (ds.take n)
  | _, _, 0, _ => .nil
  | [], [], _ + 1, _ => .nil
  | [], _ :: _, _ + 1, h => nomatch h
  | _ :: _, [], _ + 1, h => nomatch h
  | v :: vs, d :: ds, n + 1, h => by
    have t : Dp K H v d ∧ DpAll K H vs ds := by
      cases h with
      | cons a b => exact ⟨a, b⟩
    exact .cons t.1 (dpAll_take n t.2)
theorem dpAll_drop {K : PySem.W.Frag} {H : Hp} : ∀ {vs : List V} {ds : List PyData} (n : Nat), DpAll K H vs ds → DpAll K H (vs.drop n) (ds.drop n)
  | _, _, 0, h => h
  | [], [], _ + 1, _ => .nil
  | [], _ :: _, _ + 1, h => nomatch h
  | _ :: _, [], _ + 1, h => nomatch h
  | v :: vs, d :: ds, n + 1, h => by
    have t : Dp K H v d ∧ DpAll K H vs ds := by
      cases h with
      | cons a b => exact ⟨a, b⟩
    exact dpAll_drop n t.2

/-! ### places, slices -/
def IxD (i : XI) (x y : Dt) (Φ : Dt → Prop) : Prop := ∃ r : R2, (∀ X, XOk i X → IxR X r) ∧ ∀ Hf H v u Q, Ex Hf H → Rp i.K Hf v x → Rp i.K Hf u y → (∀ z d Hf' H', Tr Hf H Hf' H' → Rp i.K Hf' z d → Φ d → Q z H') → r v u H Q
variable {a b e : Expr} {pos p2 : Pos} {es : List Expr}
/-- a[b]: the rule r of the places is chosen ahead (list, tuple, text) -/
theorem ee_ix {r : R2} (hr : ∀ X, XOk i X → IxR X r) (h : EE i a ρ fun x => EE i b ρ fun y => ∀ Hf H v u Q, Ex Hf H → Rp i.K Hf v x → Rp i.K Hf u y → (∀ z d Hf' H', Tr Hf H Hf' H' → Rp i.K Hf' z d → Φ d → Q z H') → r v u H Q) (hs : PlainIx b := by intro _ _; rfl) : EE i (.Subscript a b pos) ρ Φ := fun σ Hf H Q hρ e q =>
  ex_ix hr (h σ Hf H _ hρ e fun v x Hf1 H1 t1 r1 hx => hx σ Hf1 H1 _ (hρ.mono t1.f) t1.i fun u y Hf2 H2 t2 r2 hy => hy Hf2 H2 v u Q t2.i (rp_mono t2.f r1) r2 fun z d Hf' H' t3 r3 φ => q z d Hf' H' ((t1.trans t2).trans t3) r3 φ) hs
theorem ee_ixT (h : EE i a ρ fun x => EE i b ρ fun y => ∃ ds n d, x = .py (.tuple ds) ∧ y = .py (.int n) ∧ atI ds n = some d ∧ Φ (.py d)) (hs : PlainIx b := by intro _ _; rfl) : EE i (.Subscript a b pos) ρ Φ :=
  ee_ix (r := rIxT i.K) (fun X ok => by rw [← ok.K]; exact ix_tup) (h.imp fun x hx => hx.imp fun y ⟨ds, n, d, e1, e2, hat, φ⟩ Hf H v u Q e r1 r2 q => by
    subst e1 e2
    obtain ⟨p, xs, rfl, h1, d1⟩ := dp_tup r1
    cases r2
    obtain ⟨j, h2, h3, _⟩ := atI_get hat
    obtain ⟨z, h4, h5⟩ := dpAll_get d1 h3
    refine ⟨p, xs, n, z, rfl, rfl, ex_t e h1, ?_, q _ _ Hf H (.refl e) (rpy h5) φ⟩
    unfold atI at hat ⊢
    rw [dpAll_len d1]
    cases e9 : ixN ds.length n with
    | none => rw [e9] at hat; cases hat
    | some k =>
      rw [e9] at hat
      have e8 := (ixN_seq e9).1
      rw [h2] at e8
      have e7 := Option.some.inj e8
      rw [← e7]
      exact h4) hs
theorem ee_ixL (h : EE i a ρ fun x => EE i b ρ fun y => ∃ ds n d, x = .py (.list ds) ∧ y = .py (.int n) ∧ atI ds n = some d ∧ Φ (.py d)) (hs : PlainIx b := by intro _ _; rfl) : EE i (.Subscript a b pos) ρ Φ :=
  ee_ix (r := rIxL i.K) (fun X ok => by rw [← ok.K]; exact ix_list) (h.imp fun x hx => hx.imp fun y ⟨ds, n, d, e1, e2, hat, φ⟩ Hf H v u Q e r1 r2 q => by
    subst e1 e2
    obtain ⟨p, xs, rfl, h1, d1⟩ := dp_lst r1
    cases r2
    obtain ⟨j, h2, h3, _⟩ := atI_get hat
    obtain ⟨z, h4, h5⟩ := dpAll_get d1 h3
    refine ⟨p, xs, n, z, rfl, rfl, ex_l e h1, ?_, q _ _ Hf H (.refl e) (rpy h5) φ⟩
    unfold atI at hat ⊢
    rw [dpAll_len d1]
    cases e9 : ixN ds.length n with
    | none => rw [e9] at hat; cases hat
    | some k =>
      rw [e9] at hat
      have e8 := (ixN_seq e9).1
      rw [h2] at e8
      have e7 := Option.some.inj e8
      rw [← e7]
      exact h4) hs
/-- a written place -/
theorem ixT0 {d : PyData} {ds : List PyData} : atI (d :: ds) 0 = some d := atI_nat (j := 0) rfl
/-- a slice's parts are ints or left out -/
def EO (i : XI) (ρ : En) : Option Expr → (Option Int → Prop) → Prop
  | none, Φ => Φ none
  | some e, Φ => EE i e ρ fun d => ∃ n, d = .py (.int n) ∧ Φ (some n)
theorem EO.run {o : Option Expr} {Ψ : Option Int → Prop} (h : EO i ρ o Ψ) {Qo : Option Int → Hp → Prop} (hr : RpE i.K Hf σ ρ) (e : Ex Hf H) (q : ∀ n Hf' H', Tr Hf H Hf' H' → Ψ n → Qo n H') : OX i o σ H Qo := by
  cases o with
  | none => exact q none Hf H (.refl e) h
  | some x =>
    refine h σ Hf H _ hr e fun v d Hf1 H1 t1 r1 hh => ?_
    obtain ⟨n, e1, φ⟩ := hh
    subst e1
    cases r1
    exact ⟨n, rfl, q _ Hf1 H1 t1 φ⟩
def cutD (ds : List PyData) (lo hi : Option Int) : List PyData := (ds.drop (HT.sIx ds.length 0 lo)).take (HT.sIx ds.length ds.length hi - HT.sIx ds.length 0 lo)
theorem ee_sliceT {lo hi : Option Expr} (h : EE i e ρ fun x => EO i ρ lo fun l => EO i ρ hi fun u => ∃ ds, x = .py (.tuple ds) ∧ Φ (.py (.tuple (cutD ds l u)))) : EE i (.Subscript e (.Slice lo hi none p2) pos) ρ Φ := fun σ Hf H Q hρ x q =>
  ex_slice (r := rSlA i.K) (fun X ok => by rw [← ok.K]; exact sl_tupA) (h σ Hf H _ hρ x fun v d Hf1 H1 t1 r1 φ => φ.run (hρ.mono t1.f) t1.i fun l Hf2 H2 t2 φ2 => φ2.run (hρ.mono (t1.f.trans t2.f)) t2.i fun u Hf3 H3 t3 φ3 => by
    obtain ⟨ds, rfl, φ4⟩ := φ3
    obtain ⟨p, xs, rfl, h1, d1⟩ := dp_tup (dp_mono (t2.f.trans t3.f) r1)
    have hl := dpAll_len d1
    refine ⟨p, xs, rfl, ex_t t3.i h1, fun hw => ?_, fun hw p hp => ?_⟩
    · have e1 : cutD ds l u = ds := by
        unfold cutD
        rw [← hl, hw.1, hw.2, List.drop_zero, Nat.sub_zero]
        exact List.take_of_length_le (by omega)
      rw [e1] at φ4
      exact q _ _ Hf3 H3 ((t1.trans t2).trans t3) (rpy (.tup h1 d1)) φ4
    · refine q _ _ _ _ (((t1.trans t2).trans t3).trans (.new t3.i hp)) (rpy (dp_tup_new ?_ (fresh_back t3.i hp))) φ4
      unfold cutV cutD
      rw [hl]
      exact dpAll_take _ (dpAll_drop _ d1))

/-! ### isinstance -/
def tyName : PyData → String
  | .none => "NoneType"
  | .bool _ => "bool"
  | .int _ => "int"
  | .str _ => "str"
  | .list _ => "list"
  | .tuple _ => "tuple"
  | .dict _ => "dict"
def isTyN (n T : String) : Bool := n == T || (T == "int" && n == "bool")
def isTy (d : PyData) (T : String) : Bool := isTyN (tyName d) T
theorem tyName_mem (d : PyData) (h : ∀ kv, d ≠ .dict kv) : tyName d ∈ ["NoneType", "bool", "int", "str", "list", "tuple"] := by
  cases d <;> first | exact absurd rfl (h _) | simp [tyName]
theorem tyx_of {K : PySem.W.Frag} {H : Hp} {v : V} {d : PyData} (h : Dp K H v d) : TyX K H v (.type (tyName d)) := by
  cases h with
  | non => exact .base .non
  | bl b => exact .base (.bl b)
  | int n => exact .base (.int n)
  | str x => exact .base (.str x)
  | lst h t =>
    rcases h with (h | ⟨o, h⟩) | ⟨o, its, n, h1, h2, _⟩
    · exact .base (.lst h)
    · exact .base (.frz h)
    · exact .kList h1 h2
  | tup h t =>
    rcases h with (h | ⟨o, h⟩) | ⟨o, its, n, h1, h2, _⟩
    · exact .base (.tup h)
    · exact .fTuple h
    · exact .kTuple h1 h2
theorem ee_isi {T : String} {x : Str} {p q0 : Pos} (hm : i.mg "isinstance" = none) (hmT : i.mg x = none) (hv : bootBuiltins x = some (.type T)) (hT : ∀ d : PyData, (∀ kv, d ≠ .dict kv) → PySem.W.kitOne i.K (.type (tyName d)) (.type T) = some (isTy d T))
    (h : EE i a ρ fun d => ∃ y, d = .py y ∧ Φ (.py (.bool (isTy y T)))) (hg : GlS i.sc "isinstance" := by rfl) (hgT : GlS i.sc x := by rfl) (hn : x ≠ "__name__" := by decide) (hdb : (x == ("__debug__" : Str)) = false := by decide)
    (he : ∀ env, starEach [a, .Name x q0] env = (false, eval a env) :: starEach [.Name x q0] env := by intro _; rfl) : EE i (.Call (.Name "isinstance" p) [a, .Name x q0] [] pos) ρ Φ := fun σ Hf H Q hρ e q =>
  ex_callB (id := "isinstance") (r := rIsi i.K) (fun X ok => by rw [← ok.K]; exact call_isi) hg hm (by decide +kernel) (ax_cons (h σ Hf H _ hρ e fun v d Hf1 H1 t1 r1 φ => by
    obtain ⟨y, rfl, φ⟩ := φ
    refine ax_cons (ex_bltn (v := .ty T) hgT hmT hv rfl (ax_nil ?_) hn hdb) (fun _ => rfl)
    have nd : ∀ kv, y ≠ .dict kv := fun kv e9 => by
      subst e9
      cases r1
    exact ⟨v, .ty T, .type (tyName y), .type T, _, rfl, .ty T, tyx_of (dp_mono t1.i r1), hT y nd, q _ _ Hf1 H1 t1 (rpy (Dp.bl _)) φ⟩) he) (by decide) (by decide) he (fun _ => rfl)
theorem kit_int {K : PySem.W.Frag} (d : PyData) (h : ∀ kv, d ≠ .dict kv) : PySem.W.kitOne K (.type (tyName d)) (.type "int") = some (isTy d "int") := by
  have key : ∀ n ∈ ["NoneType", "bool", "int", "str", "list", "tuple"], kitB n "int" = some (isTyN n "int") := by decide +kernel
  exact kit_ty (key _ (tyName_mem d h))
theorem kit_bool {K : PySem.W.Frag} (d : PyData) (h : ∀ kv, d ≠ .dict kv) : PySem.W.kitOne K (.type (tyName d)) (.type "bool") = some (isTy d "bool") := by
  have key : ∀ n ∈ ["NoneType", "bool", "int", "str", "list", "tuple"], kitB n "bool" = some (isTyN n "bool") := by decide +kernel
  exact kit_ty (key _ (tyName_mem d h))
theorem kit_str {K : PySem.W.Frag} (d : PyData) (h : ∀ kv, d ≠ .dict kv) : PySem.W.kitOne K (.type (tyName d)) (.type "str") = some (isTy d "str") := by
  have key : ∀ n ∈ ["NoneType", "bool", "int", "str", "list", "tuple"], kitB n "str" = some (isTyN n "str") := by decide +kernel
  exact kit_ty (key _ (tyName_mem d h))
theorem kit_tuple {K : PySem.W.Frag} (d : PyData) (h : ∀ kv, d ≠ .dict kv) : PySem.W.kitOne K (.type (tyName d)) (.type "tuple") = some (isTy d "tuple") := by
  have key : ∀ n ∈ ["NoneType", "bool", "int", "str", "list", "tuple"], kitB n "tuple" = some (isTyN n "tuple") := by decide +kernel
  exact kit_ty (key _ (tyName_mem d h))
theorem kit_list {K : PySem.W.Frag} (d : PyData) (h : ∀ kv, d ≠ .dict kv) : PySem.W.kitOne K (.type (tyName d)) (.type "list") = some (isTy d "list") := by
  have key : ∀ n ∈ ["NoneType", "bool", "int", "str", "list", "tuple"], kitB n "list" = some (isTyN n "list") := by decide +kernel
  exact kit_ty (key _ (tyName_mem d h))

/-! ### len, all, any, tuple -/
theorem ld_len {d : PyData} {n : Nat} (hl : match d with | .list ds => n = ds.length | .tuple ds => n = ds.length | .str z => n = z.length ∧ n ≤ 100000 | _ => False) (h : Φ (.py (.int n))) : CallD i (.builtin "len") [.py d] Φ :=
  callD_of (r := fun xs H Q => ∃ x n, xs = [x] ∧ LenV i.K x H n ∧ Q (.int n) H) (fun X ok => by rw [← ok.K]; exact call_len) fun Hf H vs Q e r q => by
    cases r with
    | cons r t =>
      cases t
      rename_i v
      refine ⟨v, n, rfl, ?_, q _ _ Hf H (.refl e) (rpy (Dp.int _)) h⟩
      have r' : Dp i.K Hf v d := r
      cases r' with
      | lst h1 t1 =>
        simp only at hl
        subst hl
        exact .inl ⟨_, ex_l e h1, (dpAll_len t1).symm⟩
      | tup h1 t1 =>
        simp only at hl
        subst hl
        exact .inr ⟨_, ex_t e h1, (dpAll_len t1).symm⟩
      | str z =>
        simp only at hl
        obtain ⟨rfl, hz⟩ := hl
        exact ⟨sz_of hz, rfl⟩
      | _ => exact False.elim hl
theorem dpAll_bools {K : PySem.W.Frag} {H : Hp} : ∀ {bs : List Bool} {vs : List V}, DpAll K H vs (bs.map PyData.bool) → vs = bs.map V.bl
  | [], [], _ => rfl
  | [], _ :: _, h => nomatch h
  | _ :: _, [], h => nomatch h
  | b :: bs, v :: vs, h => by
    have t : Dp K H v (.bool b) ∧ DpAll K H vs (bs.map PyData.bool) := by
      cases h with
      | cons a b => exact ⟨a, b⟩
    rw [dpAll_bools t.2]
    cases t.1
    rfl
theorem ld_all {bs : List Bool} (h : Φ (.py (.bool (bs.all id)))) : CallD i (.builtin "all") [.py (.list (bs.map PyData.bool))] Φ :=
  callD_of (r := rAll i.K) (fun X ok => by rw [← ok.K]; exact cr_all ok.calm) fun Hf H vs Q e r q => by
    cases r with
    | cons r t =>
      cases t
      obtain ⟨a, xs, rfl, h1, d1⟩ := dp_lst r
      obtain rfl := dpAll_bools d1
      exact ⟨a, bs, rfl, ex_l e h1, q _ _ Hf H (.refl e) (rpy (Dp.bl _)) h⟩
theorem ld_any {bs : List Bool} (h : Φ (.py (.bool (bs.any id)))) : CallD i (.builtin "any") [.py (.list (bs.map PyData.bool))] Φ :=
  callD_of (r := rAny i.K) (fun X ok => by rw [← ok.K]; exact cr_any ok.calm) fun Hf H vs Q e r q => by
    cases r with
    | cons r t =>
      cases t
      obtain ⟨a, xs, rfl, h1, d1⟩ := dp_lst r
      obtain rfl := dpAll_bools d1
      exact ⟨a, bs, rfl, ex_l e h1, q _ _ Hf H (.refl e) (rpy (Dp.bl _)) h⟩
theorem ld_tuple {ds : List PyData} (h : Φ (.py (.tuple ds))) : CallD i (.type "tuple") [.py (.list ds)] Φ :=
  callD_of (r := fun xs H Q => ∃ p ys, xs = [.ref p] ∧ ((SqL i.K H p ys ∧ ∀ l, H l = none → Q (.ref l) (upd H l (.tup ys))) ∨ (SqT i.K H p ys ∧ Q (.ref p) H))) (fun X ok => by rw [← ok.K]; exact call_tuple_of) fun Hf H vs Q e r q => by
    cases r with
    | cons r t =>
      cases t
      obtain ⟨a, xs, rfl, h1, d1⟩ := dp_lst r
      exact ⟨a, xs, rfl, .inl ⟨ex_l e h1, fun l hl => q _ _ _ _ (.new e hl) (rpy (dp_tup_new d1 (fresh_back e hl))) h⟩⟩
end
end Fq
/-! FqM: values, rows as plain Lean data. -/
namespace Fq
open PySem PySem.Spec PyProof.Rows L2 Evl

inductive Vl where
  | n (i : Int)
  | w (s : Str)
  deriving DecidableEq
def Vl.d : Vl → PyData
  | .n i => .int i
  | .w s => .str s
abbrev Row := List Vl
def rowD (r : Row) : PyData := .tuple (r.map Vl.d)
def lettersS : Str := "abcdefghijklmnopqrstuvwxyz"
/-- a word -/
structure Wd (s : Str) : Prop where
  lo : 1 ≤ s.length
  hi : s.length ≤ 8
  az : ∀ c ∈ s.cps.toList, 97 ≤ c ∧ c ≤ 122
def okV : Vl → Prop
  | .n i => 0 ≤ i ∧ i ≤ 1000000000
  | .w s => Wd s
structure OkR (cols : Nat) (r : Row) : Prop where
  len : r.length = cols
  lo : 1 ≤ cols
  hi : cols ≤ 3
  vs : ∀ v ∈ r, okV v
theorem letter_in : ∀ k : Fin 26, (!(Builtin.Str.occurrences lettersS ⟨#[97 + k.val]⟩ 0 lettersS.length 1).isEmpty) = true := by decide +kernel
theorem letter_ok {c : Nat} (h : 97 ≤ c ∧ c ≤ 122) : (!(Builtin.Str.occurrences lettersS ⟨#[c]⟩ 0 lettersS.length 1).isEmpty) = true := by
  have := letter_in ⟨c - 97, by omega⟩
  rw [show 97 + (c - 97) = c by omega] at this
  exact this
theorem vl_nd (v : Vl) : ∀ kv, v.d ≠ .dict kv := by
  cases v <;> intro kv h <;> cases h
theorem vl_plain (v : Vl) : v.d.plain = true := by cases v <;> rfl
theorem vl_depth (v : Vl) : v.d.depth = 0 := by cases v <;> simp [Vl.d, PyData.depth]
theorem vls_plain : ∀ r : Row, PyData.plainAll (r.map Vl.d) = true
  | [] => rfl
  | v :: r => by
    rw [List.map_cons, PyData.plainAll, vl_plain, vls_plain r]
    rfl
theorem vls_depth : ∀ r : Row, PyData.depthAll (r.map Vl.d) = 0
  | [] => by simp [PyData.depthAll]
  | v :: r => by
    rw [List.map_cons, PyData.depthAll, vl_depth, vls_depth r]
    rfl
theorem row_plain (r : Row) : (rowD r).plain = true := by
  unfold rowD
  rw [PyData.plain]
  exact vls_plain r
theorem row_depth (r : Row) : (rowD r).depth = 1 := by
  unfold rowD
  rw [PyData.depth, vls_depth]
theorem row_pl (r : Row) : Pl (rowD r) := ⟨row_plain r, by rw [row_depth]; omega⟩
theorem rows_plain : ∀ rs : List Row, PyData.plainAll (rs.map rowD) = true
  | [] => rfl
  | r :: rs => by
    rw [List.map_cons, PyData.plainAll, row_plain, rows_plain rs]
    rfl
theorem vl_eqv (a b : Vl) : PyData.eqv a.d b.d = decide (a = b) := by
  cases a <;> cases b <;> simp [Vl.d, PyData.eqv, Bool.beq_eq_decide_eq]
theorem vls_eqv : ∀ a b : Row, PyData.eqvAll (a.map Vl.d) (b.map Vl.d) = decide (a = b)
  | [], [] => by simp [PyData.eqvAll]
  | [], _ :: _ => by simp [PyData.eqvAll]
  | _ :: _, [] => by simp [PyData.eqvAll]
  | x :: xs, y :: ys => by
    rw [List.map_cons, List.map_cons, PyData.eqvAll, vl_eqv, vls_eqv, ← Bool.decide_and]
    exact decide_eq_decide.mpr (by rw [List.cons.injEq])
theorem row_eqv (a b : Row) : PyData.eqv (rowD a) (rowD b) = decide (a = b) := by
  unfold rowD
  rw [PyData.eqv, vls_eqv]
theorem rows_any (x : Row) (xs : List Row) : ((xs.map rowD).any fun y => PyData.eqv y (rowD x)) = decide (x ∈ xs) := by
  induction xs with
  | nil => simp
  | cons y ys ih =>
    rw [List.map_cons, List.any_cons, ih, row_eqv, ← Bool.decide_or]
    exact decide_eq_decide.mpr (by rw [List.mem_cons]; constructor <;> (rintro (h | h) <;> simp [h]))
theorem vls_any (x : Vl) (xs : List Vl) : ((xs.map Vl.d).any fun y => PyData.eqv y x.d) = decide (x ∈ xs) := by
  induction xs with
  | nil => simp
  | cons y ys ih =>
    rw [List.map_cons, List.any_cons, ih, vl_eqv, ← Bool.decide_or]
    exact decide_eq_decide.mpr (by rw [List.mem_cons]; constructor <;> (rintro (h | h) <;> simp [h]))
theorem vlD_inj (a b : Vl) (h : Dt.py a.d = Dt.py b.d) : a = b := by
  have h1 : a.d = b.d := Dt.py.inj h
  cases a <;> cases b <;> simp [Vl.d] at h1 <;> rw [h1]
theorem vlD_inj' {a b : Vl} (h : a.d = b.d) : a = b := vlD_inj a b (congrArg Dt.py h)
theorem vls_inj : ∀ {a b : Row}, a.map Vl.d = b.map Vl.d → a = b
  | [], [], _ => rfl
  | [], _ :: _, h => nomatch h
  | _ :: _, [], h => nomatch h
  | x :: xs, y :: ys, h => by
    rw [List.map_cons, List.map_cons] at h
    obtain ⟨h1, h2⟩ := List.cons.inj h
    rw [vlD_inj' h1, vls_inj h2]
theorem rowD_inj (a b : Row) (h : Dt.py (rowD a) = Dt.py (rowD b)) : a = b := vls_inj (PyData.tuple.inj (Dt.py.inj h))
end Fq
/-! FqD: what is walked, by data; comprehensions. -/
namespace Fq
open PySem PySem.Spec PyProof.Rows L2 Evl
open PySem.W (EachIs)
open RZ

/-- what an iterator yields, one by one, while the heap grows -/
structure Src (K : PySem.W.Frag) (J : It) (its : List Dt) (H0 : Hp) : Prop where
  stop : ∀ H, Ex H0 H → J.stop its.length H
  go : ∀ j H, j < its.length → Ex H0 H → J.go j H
  yld : ∀ j H x H' Hf, j < its.length → Ex H0 Hf → Ex Hf H → J.yld j H x H' → ∃ Hf' d, its[j]? = some d ∧ Tr Hf H Hf' H' ∧ Rp K Hf' x d
def ES (i : XI) (wi : TI) (ρ : En) (Ψ : List Dt → Prop) : Prop := ∀ σ Hf H R, RpE i.K Hf σ ρ → Ex Hf H → (∀ J its Hf' H', Tr Hf H Hf' H' → Src i.K J its Hf' → Ψ its → R J H') → wi σ H R

section
variable {i : XI} {ρ : En} {Ψ : List Dt → Prop} {a b e : Expr} {es : List Expr} {pos : Pos} {Φ : Dt → Prop}
theorem sqL_inj {K : PySem.W.Frag} {H : Hp} {a : Addr} {xs ys : List V} (h1 : SqL K H a xs) (h2 : H a = none → False) : True := trivial

theorem srcL {K : PySem.W.Frag} {H0 : Hp} {a : Addr} {xs : List V} {ds : List PyData} (h : SqL K H0 a xs) (d : DpAll K H0 xs ds) : Src K (Itl K a) (ds.map Dt.py) H0 where
  stop := fun H e => ⟨xs, ex_l e h, by rw [List.length_map, dpAll_len d]; exact Nat.le_refl _⟩
  go := fun j H hj e => by
    rw [List.length_map, ← dpAll_len d] at hj
    exact ⟨xs, xs[j], ex_l e h, List.getElem?_eq_getElem hj⟩
  yld := fun j H x H' Hf hj e0 e hy => by
    obtain ⟨rfl, hy⟩ := hy
    obtain ⟨z, h1, h2⟩ := dpAll_at d (hy xs (ex_l (e0.trans e) h))
    exact ⟨Hf, .py z, by rw [List.getElem?_map, h1]; rfl, .refl e, rpy (dp_mono e0 h2)⟩
theorem srcT {K : PySem.W.Frag} {H0 : Hp} {a : Addr} {xs : List V} {ds : List PyData} (h : SqT K H0 a xs) (d : DpAll K H0 xs ds) : Src K (Itt K a) (ds.map Dt.py) H0 where
  stop := fun H e => ⟨xs, ex_t e h, by rw [List.length_map, dpAll_len d]; exact Nat.le_refl _⟩
  go := fun j H hj e => by
    rw [List.length_map, ← dpAll_len d] at hj
    exact ⟨xs, xs[j], ex_t e h, List.getElem?_eq_getElem hj⟩
  yld := fun j H x H' Hf hj e0 e hy => by
    obtain ⟨rfl, hy⟩ := hy
    obtain ⟨z, h1, h2⟩ := dpAll_at d (hy xs (ex_t (e0.trans e) h))
    exact ⟨Hf, .py z, by rw [List.getElem?_map, h1]; rfl, .refl e, rpy (dp_mono e0 h2)⟩
def rngD (lo : Int) (n : Nat) : List Dt := (List.range n).map fun (k : Nat) => .py (.int (lo + (k : Int)))
theorem srcR {K : PySem.W.Frag} {H0 : Hp} (lo : Int) (n : Nat) : Src K (Itr lo n) (rngD lo n) H0 where
  stop := fun H e => by
    unfold rngD
    rw [List.length_map, List.length_range]
    exact Nat.le_refl n
  go := fun j H hj e => by
    unfold rngD at hj
    rw [List.length_map, List.length_range] at hj
    exact hj
  yld := fun j H x H' Hf hj e0 e hy => by
    obtain ⟨rfl, rfl⟩ := hy
    unfold rngD at hj ⊢
    rw [List.length_map, List.length_range] at hj
    exact ⟨Hf, _, by rw [List.getElem?_map, List.getElem?_range hj]; rfl, .refl e, rpy (Dp.int _)⟩
theorem srcS {K : PySem.W.Frag} {H0 : Hp} (x : Str) : Src K (Its x) (x.cps.toList.map fun c => .py (.str ⟨#[c]⟩)) H0 where
  stop := fun H e => by
    show x.cps.size ≤ _
    rw [List.length_map, Array.length_toList]
    exact Nat.le_refl _
  go := fun j H hj e => by
    rw [List.length_map, Array.length_toList] at hj
    exact hj
  yld := fun j H y H' Hf hj e0 e hy => by
    obtain ⟨rfl, c, hc, rfl⟩ := hy
    exact ⟨Hf, _, by rw [List.getElem?_map, Array.getElem?_toList, hc]; rfl, .refl e, rpy (Dp.str _)⟩
theorem srcZ {K : PySem.W.Frag} {H0 : Hp} {a b : Addr} {xs ys : List V} {ds es : List PyData} (h : SqT K H0 a xs) (g : SqT K H0 b ys) (d : DpAll K H0 xs ds) (e : DpAll K H0 ys es) : Src K (ItzT K a b) ((ds.zip es).map fun p => .py (.tuple [p.1, p.2])) H0 where
  stop := fun H x => ⟨xs, ys, ex_t x h, ex_t x g, by
    have l1 := dpAll_len d
    have l2 := dpAll_len e
    rw [List.length_map, List.length_zip]
    omega⟩
  go := fun j H hj x => by
    have l1 := dpAll_len d
    have l2 := dpAll_len e
    rw [List.length_map, List.length_zip] at hj
    exact ⟨xs, ys, xs[j]'(by omega), ys[j]'(by omega), ex_t x h, ex_t x g, List.getElem?_eq_getElem _, List.getElem?_eq_getElem _⟩
  yld := fun j H v H' Hf hj e0 e1 hy => by
    obtain ⟨T, x, y, rfl, hT, rfl, f1, f2⟩ := hy
    obtain ⟨z, h1, h2⟩ := dpAll_at d (f1 xs (ex_t (e0.trans e1) h))
    obtain ⟨w, h3, h4⟩ := dpAll_at e (f2 ys (ex_t (e0.trans e1) g))
    refine ⟨upd Hf T (.tup [x, y]), .py (.tuple [z, w]), by rw [List.getElem?_map, (List.getElem?_zip_eq_some (z := (z, w))).mpr ⟨h1, h3⟩]; rfl, .new e1 hT, rpy (dp_tup_new (.cons (dp_mono e0 h2) (.cons (dp_mono e0 h4) .nil)) (fresh_back e1 hT))⟩
theorem srcZL {K : PySem.W.Frag} {H0 : Hp} {a b : Addr} {xs ys : List V} {ds es : List PyData} (h : SqL K H0 a xs) (g : SqL K H0 b ys) (d : DpAll K H0 xs ds) (e : DpAll K H0 ys es) : Src K (Itz K a b) ((ds.zip es).map fun p => .py (.tuple [p.1, p.2])) H0 where
  stop := fun H x => ⟨xs, ys, ex_l x h, ex_l x g, by
    have l1 := dpAll_len d
    have l2 := dpAll_len e
    rw [List.length_map, List.length_zip]
    omega⟩
  go := fun j H hj x => by
    have l1 := dpAll_len d
    have l2 := dpAll_len e
    rw [List.length_map, List.length_zip] at hj
    exact ⟨xs, ys, xs[j]'(by omega), ys[j]'(by omega), ex_l x h, ex_l x g, List.getElem?_eq_getElem _, List.getElem?_eq_getElem _⟩
  yld := fun j H v H' Hf hj e0 e1 hy => by
    obtain ⟨T, x, y, rfl, hT, rfl, f1, f2⟩ := hy
    obtain ⟨z, h1, h2⟩ := dpAll_at d (f1 xs (ex_l (e0.trans e1) h))
    obtain ⟨w, h3, h4⟩ := dpAll_at e (f2 ys (ex_l (e0.trans e1) g))
    refine ⟨upd Hf T (.tup [x, y]), .py (.tuple [z, w]), by rw [List.getElem?_map, (List.getElem?_zip_eq_some (z := (z, w))).mpr ⟨h1, h3⟩]; rfl, .new e1 hT, rpy (dp_tup_new (.cons (dp_mono e0 h2) (.cons (dp_mono e0 h4) .nil)) (fresh_back e1 hT))⟩
theorem srcE {K : PySem.W.Frag} {H0 : Hp} {a : Addr} {xs : List V} {ds : List PyData} (h : SqL K H0 a xs) (d : DpAll K H0 xs ds) : Src K (Ite K a) (ds.zipIdx.map fun p => .py (.tuple [.int (p.2 : Int), p.1])) H0 where
  stop := fun H e => ⟨xs, ex_l e h, by rw [List.length_map, List.length_zipIdx, dpAll_len d]; exact Nat.le_refl _⟩
  go := fun j H hj e => by
    rw [List.length_map, List.length_zipIdx, ← dpAll_len d] at hj
    exact ⟨xs, xs[j], ex_l e h, List.getElem?_eq_getElem hj⟩
  yld := fun j H v H' Hf hj e0 e1 hy => by
    obtain ⟨T, x, rfl, hT, rfl, f1⟩ := hy
    obtain ⟨z, h1, h2⟩ := dpAll_at d (f1 xs (ex_l (e0.trans e1) h))
    refine ⟨upd Hf T (.tup [.int (j : Nat), x]), .py (.tuple [.int ((0 + j : Nat) : Int), z]), by rw [List.getElem?_map, List.getElem?_zipIdx, h1]; rfl, .new e1 hT, rpy (dp_tup_new (.cons ?_ (.cons (dp_mono e0 h2) .nil)) (fresh_back e1 hT))⟩
    rw [Nat.zero_add]
    exact Dp.int _

theorem es_list (h : EE i e ρ fun d => ∃ xs, d = .py (.list xs) ∧ Ψ (xs.map Dt.py)) : ES i (iList i.K (EX i e)) ρ Ψ := fun σ Hf H R hρ x q =>
  h σ Hf H _ hρ x fun v d Hf1 H1 t1 r1 φ => by
    obtain ⟨ds, rfl, ψ⟩ := φ
    obtain ⟨a, xs, rfl, h1, d1⟩ := dp_lst r1
    exact ⟨a, rfl, ⟨xs, ex_l t1.i h1⟩, q _ _ Hf1 H1 t1 (srcL h1 d1) ψ⟩
theorem es_tup (h : EE i e ρ fun d => ∃ xs, d = .py (.tuple xs) ∧ Ψ (xs.map Dt.py)) : ES i (iTup i.K (EX i e)) ρ Ψ := fun σ Hf H R hρ x q =>
  h σ Hf H _ hρ x fun v d Hf1 H1 t1 r1 φ => by
    obtain ⟨ds, rfl, ψ⟩ := φ
    obtain ⟨a, xs, rfl, h1, d1⟩ := dp_tup r1
    exact ⟨a, rfl, ⟨xs, ex_t t1.i h1⟩, q _ _ Hf1 H1 t1 (srcT h1 d1) ψ⟩
theorem es_rng1 (h : EA i es ρ fun ds => ∃ n : Nat, ds = [.py (.int (n : Int))] ∧ n ≤ 100000 ∧ Ψ (rngD 0 n)) : ES i (iRng1 (AX i es)) ρ Ψ := fun σ Hf H R hρ x q =>
  h σ Hf H _ hρ x fun vs ds Hf1 H1 t1 r1 φ => by
    obtain ⟨n, rfl, hn, ψ⟩ := φ
    cases r1 with
    | cons r t =>
      cases t
      cases r
      exact ⟨(n : Int), rfl, by omega, by omega, q _ _ Hf1 H1 t1 (by rw [Int.toNat_natCast]; exact srcR 0 n) ψ⟩
theorem es_rng2 (h : EA i es ρ fun ds => ∃ (lo : Int) (n : Nat), ds = [.py (.int lo), .py (.int (lo + (n : Int)))] ∧ -100000 ≤ lo ∧ lo ≤ 100000 ∧ n ≤ 100000 ∧ Ψ (rngD lo n)) : ES i (iRng2 (AX i es)) ρ Ψ := fun σ Hf H R hρ x q =>
  h σ Hf H _ hρ x fun vs ds Hf1 H1 t1 r1 φ => by
    obtain ⟨lo, n, rfl, h1, h2, hn, ψ⟩ := φ
    cases r1 with
    | cons r t =>
      cases t with
      | cons r2 t =>
        cases t
        cases r
        cases r2
        exact ⟨lo, lo + (n : Int), rfl, ⟨by omega, by omega, by omega, by omega⟩, q _ _ Hf1 H1 t1 (by rw [show (lo + (n : Int) - lo).toNat = n by omega]; exact srcR lo n) ψ⟩
theorem es_str (h : EE i e ρ fun d => ∃ x, d = .py (.str x) ∧ Ψ (x.cps.toList.map fun c => .py (.str ⟨#[c]⟩))) : ES i (iStr (EX i e)) ρ Ψ := fun σ Hf H R hρ x q =>
  h σ Hf H _ hρ x fun v d Hf1 H1 t1 r1 φ => by
    obtain ⟨z, rfl, ψ⟩ := φ
    cases r1
    exact ⟨z, rfl, q _ _ Hf1 H1 t1 (srcS z) ψ⟩
theorem es_zip (h : EA i es ρ fun ds => ∃ xs ys, (ds = [.py (.tuple xs), .py (.tuple ys)] ∨ ds = [.py (.list xs), .py (.list ys)]) ∧ Ψ ((xs.zip ys).map fun p => .py (.tuple [p.1, p.2]))) : ES i (iZipA i.K (AX i es)) ρ Ψ := fun σ Hf H R hρ x q =>
  h σ Hf H _ hρ x fun vs ds Hf1 H1 t1 r1 φ => by
    obtain ⟨xs, ys, rfl | rfl, ψ⟩ := φ
    · cases r1 with
      | cons r t =>
        cases t with
        | cons r2 t =>
          cases t
          obtain ⟨a, us, rfl, h1, d1⟩ := dp_tup r
          obtain ⟨b, ws, rfl, h2, d2⟩ := dp_tup r2
          exact ⟨a, b, us, ws, rfl, .inr ⟨ex_t t1.i h1, ex_t t1.i h2, q _ _ Hf1 H1 t1 (srcZ h1 h2 d1 d2) ψ⟩⟩
    · cases r1 with
      | cons r t =>
        cases t with
        | cons r2 t =>
          cases t
          obtain ⟨a, us, rfl, h1, d1⟩ := dp_lst r
          obtain ⟨b, ws, rfl, h2, d2⟩ := dp_lst r2
          exact ⟨a, b, us, ws, rfl, .inl ⟨ex_l t1.i h1, ex_l t1.i h2, q _ _ Hf1 H1 t1 (srcZL h1 h2 d1 d2) ψ⟩⟩
theorem wx_zip {p tpos : Pos} {elts : List Expr} {kk : Nat} (hm : i.mg "zip" = none) (hg : GlS i.sc "zip" := by rfl) (hs : ∀ env, starEach [a, b] env = (false, eval a env) :: starEach [b] env := by intro _; rfl) (hpl : ∀ env, (backTo pos (starEach [b] env)).any (·.1) = false := by intro _; rfl) :
    ∀ X, XOk i X → PI X (.Tuple elts kk tpos) (.Call (.Name "zip" p) [a, b] [] pos) (iZipA i.K (AX i [a, b])) := fun X ok => by
  rw [← ok.K]
  exact pi_zipA (ok.gl hg) (ok.mgN hm) (AX.pa ok) (hs _) (hpl _)
theorem wx_enum {p tpos : Pos} {elts : List Expr} {kk : Nat} (hm : i.mg "enumerate" = none) (hg : GlS i.sc "enumerate" := by rfl) (hs : ∀ env, starEach [a] env = [(false, eval a env)] := by intro _; rfl) :
    ∀ X, XOk i X → PI X (.Tuple elts kk tpos) (.Call (.Name "enumerate" p) [a] [] pos) (iEnum i.K (AX i [a])) := fun X ok => by
  rw [← ok.K]
  exact pi_enum (ok.gl hg) (ok.mgN hm) (AX.pa ok) (hs _)
theorem wx_str {tg : Expr} : ∀ X, XOk i X → PI X tg e (iStr (EX i e)) := fun X ok => pi_str (EX.pe ok)

/-! ### targets by data -/
def GD (i : XI) (g : TG) (vs : List Nat) (ρ0 ρx : En) (x : Dt) : Prop := ∀ σ Hf H v Q, RpE i.K Hf σ ρ0 → Ex Hf H → Rp i.K Hf v x → (∀ σ2, wipe σ2 vs = wipe σ vs → RpE i.K Hf σ2 ρx → Q σ2 H) → g v σ H Q
theorem gd_name {vs : List Nat} {ρ0 : En} {x : Dt} (j : Nat) (hj : j ∈ vs := by decide) : GD i (gName j) vs ρ0 (ρ0.set j (some x)) x := fun σ Hf H v Q r e r1 q => q _ (wipe_set hj) (r.set r1)
def gsOf : List Nat → TGs
  | [] => gNil
  | j :: js => gCons (gName j) (gsOf js)
def setAll (ρ : En) : List Nat → List PyData → En
  | j :: js, d :: ds => setAll (ρ.set j (some (.py d))) js ds
  | _, _ => ρ
theorem gds_run {vs : List Nat} {K : PySem.W.Frag} {Hf H : Hp} {Q : L2.St → Hp → Prop} : ∀ {js : List Nat} {ds : List PyData} {xs : List V} {σ : L2.St} {ρ0 : En}, RpE K Hf σ ρ0 → DpAll K Hf xs ds → js.length = ds.length → (∀ j ∈ js, j ∈ vs) →
    (∀ σ2, wipe σ2 vs = wipe σ vs → RpE K Hf σ2 (setAll ρ0 js ds) → Q σ2 H) → gsOf js xs σ H Q
  | [], [], [], σ, ρ0, r, _, _, _, q => ⟨rfl, q σ rfl r⟩
  | [], [], _ :: _, _, _, _, h, _, _, _ => nomatch h
  | [], _ :: _, _, _, _, _, _, h, _, _ => nomatch h
  | _ :: _, [], _, _, _, _, _, h, _, _ => nomatch h
  | _ :: _, _ :: _, [], _, _, _, h, _, _, _ => nomatch h
  | j :: js, d :: ds, x :: xs, σ, ρ0, r, h, l, m, q => by
    have t : Dp K Hf x d ∧ DpAll K Hf xs ds := by
      cases h with
      | cons a b => exact ⟨a, b⟩
    exact ⟨x, xs, rfl, gds_run (js := js) (r.set (rpy t.1)) t.2 (Nat.succ.inj l) (fun k hk => m k (List.mem_cons_of_mem _ hk)) fun σ2 w r2 => q σ2 (w.trans (wipe_set (m j (List.mem_cons_self ..)))) r2⟩
theorem gd_tup {vs : List Nat} {ρ0 : En} {n : Nat} (js : List Nat) {ds : List PyData} (hn : js.length = n) (hl : ds.length = n) (hj : ∀ j ∈ js, j ∈ vs := by decide) : GD i (gTup i.K n (gsOf js)) vs ρ0 (setAll ρ0 js ds) (.py (.tuple ds)) := fun σ Hf H v Q r e r1 q => by
  obtain ⟨a, xs, rfl, h1, d1⟩ := dp_tup r1
  exact ⟨a, xs, rfl, ex_t e h1, by rw [dpAll_len d1, hl], gds_run r d1 (by rw [hn, hl]) hj q⟩

/-! ### a comprehension of one clause -/
theorem each_snocB {α β : Type} {R : α → β → Prop} {as : List α} {bs : List β} {x : α} {y : β} (h : EachIs R as bs) (r : R x y) : EachIs R (as ++ [x]) (bs ++ [y]) := by
  induction h with
  | nil => exact .cons r .nil
  | cons r1 _ ih => exact .cons r1 ih
theorem filter_take_yes {α : Type} {p : α → Bool} {xs : List α} {j : Nat} {x : α} (h : xs[j]? = some x) (hp : p x = true) : (xs.take (j + 1)).filter p = (xs.take j).filter p ++ [x] := by
  rw [List.take_add_one, h, List.filter_append]
  show _ ++ List.filter p [x] = _
  rw [List.filter_cons, if_pos hp]
  rfl
theorem filter_take_no {α : Type} {p : α → Bool} {xs : List α} {j : Nat} {x : α} (h : xs[j]? = some x) (hp : p x = false) : (xs.take (j + 1)).filter p = (xs.take j).filter p := by
  rw [List.take_add_one, h, List.filter_append]
  show _ ++ List.filter p [x] = _
  rw [List.filter_cons, if_neg (by rw [hp]; decide)]
  exact List.append_nil _
/-- the list so far, and what stands -/
structure LcI (K : PySem.W.Frag) (Hf1 H1 : Hp) (D : Addr) (R : Dt → PyData → Prop) (xs : List Dt) (H : Hp) : Prop where
  ex : ∃ Hf vs zs, Tr Hf1 H1 Hf H ∧ Hf D = none ∧ H D = some (.lst vs) ∧ DpAll K Hf vs zs ∧ EachIs R xs zs
theorem LcI.start {K : PySem.W.Frag} {Hf1 H1 : Hp} {D : Addr} {R : Dt → PyData → Prop} (e : Ex Hf1 H1) (hD : H1 D = none) : LcI K Hf1 H1 D R [] (upd H1 D (.lst [])) :=
  ⟨⟨Hf1, [], [], .drop e hD, fresh_back e hD, upd_same, .nil, .nil⟩⟩
theorem LcI.done {K : PySem.W.Frag} {Hf1 H1 H : Hp} {D : Addr} {R : Dt → PyData → Prop} {xs : List Dt} (h : LcI K Hf1 H1 D R xs H) (hD : H1 D = none) : ∃ Hf zs, Tr Hf1 H1 Hf H ∧ Rp K Hf (.ref D) (.py (.list zs)) ∧ EachIs R xs zs := by
  obtain ⟨Hf, vs, zs, t, h1, h2, h3, h4⟩ := h.ex
  refine ⟨upd Hf D (.lst vs), zs, ⟨t.f.trans (Ex.new h1), ?_, t.h, fun p o g1 g2 => ?_⟩, rpy (dp_lst_new h3 h1), h4⟩
  · intro q o hq
    by_cases e : q = D
    · subst e
      rw [upd_same] at hq
      rw [h2, ← hq]
    · rw [upd_ne e] at hq
      exact t.i q o hq
  · rw [upd_ne (ne_of_none g1 hD)]
    exact t.n p o g1 g2
theorem LcI.push {K : PySem.W.Frag} {Hf1 H1 H Hf2 H2 : Hp} {D : Addr} {R : Dt → PyData → Prop} {xs : List Dt} {x : Dt} {y : V} {z : PyData} {Hf : Hp} {vs : List V} {zs : List PyData} (hD : H1 D = none) (t : Tr Hf1 H1 Hf H) (h1 : Hf D = none) (h2 : H D = some (.lst vs)) (h3 : DpAll K Hf vs zs) (h4 : EachIs R xs zs)
    (t2 : Tr Hf H Hf2 H2) (r : Dp K Hf2 y z) (hr : R x z) : LcI K Hf1 H1 D R (xs ++ [x]) (upd H2 D (.lst (vs ++ [y]))) := by
  have h5 : Hf2 D = none := t2.n D _ h2 h1
  refine ⟨⟨Hf2, vs ++ [y], zs ++ [z], ⟨t.f.trans t2.f, fun q o hq => ?_, Ex.mut (t.h.trans t2.h) hD, fun p o g1 g2 => (t.trans t2).n p o g1 g2⟩, h5, upd_same, dpAll_app (dpAll_mono t2.f h3) (.cons r .nil), each_snocB h4 hr⟩⟩
  rw [upd_ne (ne_of_none hq h5)]
  exact t2.i q o hq
theorem LcI.keep {K : PySem.W.Frag} {Hf1 H1 H Hf2 H2 : Hp} {D : Addr} {R : Dt → PyData → Prop} {xs : List Dt} {Hf : Hp} {vs : List V} {zs : List PyData} (t : Tr Hf1 H1 Hf H) (h1 : Hf D = none) (h2 : H D = some (.lst vs)) (h3 : DpAll K Hf vs zs) (h4 : EachIs R xs zs)
    (t2 : Tr Hf H Hf2 H2) : LcI K Hf1 H1 D R xs H2 := ⟨⟨Hf2, vs, zs, t.trans t2, t2.n D _ h2 h1, t2.h D _ h2, dpAll_mono t2.f h3, h4⟩⟩
theorem each_len {α β : Type} {R : α → β → Prop} {as : List α} {bs : List β} (h : EachIs R as bs) : as.length = bs.length := h.length

/-- what is asked of one item -/
def LcTurn (i : XI) (scope : Scope) (elt : Expr) (ifs : List Expr) (g : TG) (vs : List Nat) (ρ : En) (p : Dt → Bool) (R : Dt → PyData → Prop) (x : Dt) : Prop :=
  ∃ ρx, GD (i.blk scope) g vs (wipeE ρ vs) ρx x ∧ EI (i.blk scope) ifs ρx (fun b => b = p x) ∧ (p x = true → EE (i.blk scope) elt ρx fun y => ∃ z, y = .py z ∧ R x z)
theorem lc_run {elt : Expr} {ifs : List Expr} {scope : Scope} {wi : TI} {g : TG} (own : List (Str × Nat))
    (h : ES i wi ρ fun its => its.length ≤ 40000 ∧ ∃ p R, (∀ x ∈ its, LcTurn i scope elt ifs g (own.map (·.2)) ρ p R x) ∧ ∀ zs, EachIs R (its.filter p) zs → Φ (.py (.list zs)))
    {σ : L2.St} {Hf H : Hp} {Q : VK} (hρ : RpE i.K Hf σ ρ) (e : Ex Hf H) (q : ∀ v d Hf' H', Tr Hf H Hf' H' → Rp i.K Hf' v d → Φ d → Q v H') : tLc wi g (IX (i.blk scope) ifs) (EX (i.blk scope) elt) (own.map (·.2)) σ H Q := by
  refine h σ Hf H _ hρ e fun J its Hf1 H1 t1 S ψ => ?_
  obtain ⟨hz, p, R, turn, fin⟩ := ψ
  intro D hD
  have hDf : Hf1 D = none := fresh_back t1.i hD
  refine ⟨fun j m H => m = its.length - j ∧ j ≤ its.length ∧ LcI i.K Hf1 H1 D R ((its.take j).filter p) H, ⟨its.length, rfl, Nat.zero_le _, by rw [List.take_zero]; exact LcI.start t1.i hD⟩, ?_⟩
  rintro j m H2 ⟨rfl, hj, I⟩
  have eI : ∃ Hf vs zs, Tr Hf1 H1 Hf H2 ∧ Hf D = none ∧ H2 D = some (.lst vs) ∧ DpAll i.K Hf vs zs ∧ EachIs R ((its.take j).filter p) zs := I.ex
  obtain ⟨Hf2, vs, zs, t2, d1, d2, d3, d4⟩ := eI
  by_cases hlt : j < its.length
  · refine .inr ⟨S.go j H2 hlt (t2.f.trans t2.i), fun H' => LcI i.K Hf1 H1 D R ((its.take (j + 1)).filter p) H', fun H' I' => ⟨its.length - (j + 1), by omega, rfl, hlt, I'⟩, fun x H3 hy => ?_⟩
    obtain ⟨Hf3, d, hd, t3, r3⟩ := S.yld j H2 x H3 Hf2 hlt t2.f t2.i hy
    obtain ⟨ρx, hgd, hei, hee⟩ := turn d (List.mem_of_getElem? hd)
    have hρw : RpE i.K Hf3 (wipe σ (own.map (·.2))) (wipeE ρ (own.map (·.2))) := (hρ.mono ((t1.f.trans t2.f).trans t3.f)).wipe _
    refine hgd (wipe σ (own.map (·.2))) Hf3 H3 x _ hρw t3.i r3 fun σ2 hw hρ2 => ?_
    refine ⟨hw.trans wipe_wipe, ?_⟩
    refine hei σ2 Hf3 H3 _ hρ2 t3.i fun b Hf4 H4 t4 hb => ?_
    subst hb
    cases hp : p d with
    | true =>
      refine iteT ?_
      refine hee hp σ2 Hf4 H4 _ (hρ2.mono t4.f) t4.i fun y dz Hf5 H5 t5 r5 hz5 => ?_
      obtain ⟨z, ez, hr⟩ := hz5
      subst ez
      have t35 := (t3.trans t4).trans t5
      refine ⟨vs, t35.h D _ d2, sz_lt ?_, ?_⟩
      · have l1 := dpAll_len d3
        have l2 := each_len d4
        have l3 := List.length_filter_le p (its.take j)
        have l4 := List.length_take_le j its
        omega
      · show LcI i.K Hf1 H1 D R ((its.take (j + 1)).filter p) _
        rw [filter_take_yes hd hp]
        exact LcI.push hD t2 d1 d2 d3 d4 t35 r5 hr
    | false =>
      refine iteF ?_
      show LcI i.K Hf1 H1 D R ((its.take (j + 1)).filter p) _
      rw [filter_take_no hd hp]
      exact LcI.keep t2 d1 d2 d3 d4 (t3.trans t4)
  · have ej : j = its.length := by omega
    subst ej
    refine .inl ⟨S.stop H2 (t2.f.trans t2.i), ?_⟩
    rw [List.take_length] at I
    obtain ⟨Hf9, zs9, t9, r9, e9⟩ := I.done hD
    exact q _ _ Hf9 H2 (t1.trans t9) r9 (fin zs9 e9)
theorem ee_lc {elt tg iter : Expr} {ifs : List Expr} {scope : Scope} {wi : TI} {g : TG} (own : List (Str × Nat)) (hi : ∀ X, XOk i X → PI X tg iter wi) (hg : ∀ X, XOk (i.blk scope) X → PG X tg g)
    (h : ES i wi ρ fun its => its.length ≤ 40000 ∧ ∃ p R, (∀ x ∈ its, LcTurn i scope elt ifs g (own.map (·.2)) ρ p R x) ∧ ∀ zs, EachIs R (its.filter p) zs → Φ (.py (.list zs)))
    (ok : blkC i.N i.sc scope own = true := by kernel_rfl) (hs : ∀ env x, foldedSetIterable iter env x = pure x := by intro _ _; rfl) : EE i (.ListComp elt [⟨tg, iter, ifs, 0⟩] scope pos) ρ Φ := fun σ Hf H Q hρ e q => ex_lc own hi hg (lc_run own h hρ e q) ok hs
/-- name = [..] on one line -/
theorem bb_setLc {elt tg iter : Expr} {ifs : List Expr} {scope : Scope} {wi : TI} {g : TG} {x : Str} {py spos : Pos} {rest : List Stmt} {Ψ' : En → Prop} {Φr : Dt → Prop} (j : Nat) (own : List (Str × Nat)) (hi : ∀ X, XOk i X → PI X tg iter wi) (hg : ∀ X, XOk (i.blk scope) X → PG X tg g)
    (h : ES i wi ρ fun its => its.length ≤ 40000 ∧ ∃ p R, (∀ x ∈ its, LcTurn i scope elt ifs g (own.map (·.2)) ρ p R x) ∧ ∀ zs, EachIs R (its.filter p) zs → BB i rest (ρ.set j (some (.py (.list zs)))) Ψ' Φr)
    (ok : blkC i.N i.sc scope own = true := by kernel_rfl) (hN : i.N[j]? = some x := by rfl) (hy : i.sc.names.lookup x = some .local := by rfl) (hk : i.sc.kind = .function := by rfl) (hl : (py.line == pos.line) = true := by rfl)
    (ha : (scope.names.any fun (n, k) => n == x && (k == .local || k == .cell)) = false := by decide +kernel) (hll : spos.line = pos.line := by rfl) (hs : ∀ env x, foldedSetIterable iter env x = pure x := by intro _ _; rfl) : BB i (.Assign [.Name x py] (.ListComp elt [⟨tg, iter, ifs, 0⟩] scope pos) spos :: rest) ρ Ψ' Φr := fun σ Hf H D r x qn qr =>
  go_setLc j own hi hg (lc_run (Φ := fun d => BB i rest (ρ.set j (some d)) Ψ' Φr) own h r x fun v d Hf1 H1 t1 r1 φ => φ (σ.set j (some v)) Hf1 H1 D ((r.mono t1.f).set r1) t1.i (fun σ' ρ' Hf' H' t2 r2 ψ => qn σ' ρ' Hf' H' (t1.trans t2) r2 ψ) fun v d Hf' H' t2 r2 φ2 => qr v d Hf' H' (t1.trans t2) r2 φ2) ok hN hy hk hl ha hll hs
theorem ei_nil {Φb : Bool → Prop} (h : Φb true) : EI i [] ρ Φb := fun σ Hf H Q r x q => ix_nil (q true Hf H (.refl x) h)
theorem ei_one {Φb : Bool → Prop} (h : ET i e ρ Φb) : EI i [e] ρ Φb := fun σ Hf H Q r x q => ix_one (h σ Hf H Q r x q)
/-- a function of the item -/
theorem each_eq {α β : Type} {f : α → β} {as : List α} {bs : List β} (h : EachIs (fun a b => b = f a) as bs) : bs = as.map f := by
  induction h with
  | nil => rfl
  | cons r _ ih => rw [r, ih]; rfl
end
end Fq
/-! FqE: chains, attributes of fields and states, texts joined. -/
namespace Fq
open PySem PySem.Spec PyProof.Rows L2 Evl
open RZ
section
variable {i : XI} {ρ : En} {Φ : Dt → Prop} {Φb : Bool → Prop} {a b c e : Expr} {es : List Expr} {pos : Pos}
/-- m op n op' k, whole numbers -/
theorem ee_chainI {op op' : CmpOp} {p p' : Int → Int → Bool} (ho : ∀ X, XOk i X → OpR X (compareOp op) (rI0 fun i j => .bl (p i j))) (ho' : ∀ X, XOk i X → OpR X (compareOp op') (rI0 fun i j => .bl (p' i j)))
    (h : EE i a ρ fun x => ∃ m, x = .py (.int m) ∧ EE i b ρ fun y => ∃ n, y = .py (.int n) ∧ if p m n = true then EE i c ρ fun z => ∃ k, z = .py (.int k) ∧ Φ (.py (.bool (p' n k))) else Φ (.py (.bool false)))
    (hm : lastMarks [op, op'] [b, c] = false := by with_unfolding_all rfl) : EE i (.Compare a [op, op'] [b, c] pos) ρ Φ := fun σ Hf H Q hr e q =>
  ex_chain ho ho' (h σ Hf H _ hr e fun v x Hf1 H1 t1 r1 hx => by
    obtain ⟨m, rfl, hx⟩ := hx
    cases r1
    refine hx σ Hf1 H1 _ (hr.mono t1.f) t1.i fun u y Hf2 H2 t2 r2 hy => ?_
    obtain ⟨n, rfl, hy⟩ := hy
    cases r2
    refine ⟨m, n, rfl, rfl, _, rfl, ?_⟩
    cases hp : p m n with
    | true =>
      rw [hp] at hy
      refine iteT ?_
      refine hy σ Hf2 H2 _ (hr.mono (t1.f.trans t2.f)) t2.i fun z d Hf3 H3 t3 r3 hz => ?_
      obtain ⟨k, rfl, hz⟩ := hz
      cases r3
      exact ⟨n, k, rfl, rfl, q _ _ Hf3 H3 ((t1.trans t2).trans t3) (rpy (Dp.bl _)) hz⟩
    | false =>
      rw [hp] at hy
      exact iteF (q _ _ Hf2 H2 (t1.trans t2) (rpy (Dp.bl _)) hy)) hm
theorem et_chainI {op op' : CmpOp} {p p' : Int → Int → Bool} (ho : ∀ X, XOk i X → OpR X (compareOp op) (rI0 fun i j => .bl (p i j))) (ho' : ∀ X, XOk i X → OpR X (compareOp op') (rI0 fun i j => .bl (p' i j)))
    (h : EE i a ρ fun x => ∃ m, x = .py (.int m) ∧ EE i b ρ fun y => ∃ n, y = .py (.int n) ∧ if p m n = true then EE i c ρ fun z => ∃ k, z = .py (.int k) ∧ Φb (p' n k) else Φb false)
    (hm : lastMarks [op, op'] [b, c] = false := by with_unfolding_all rfl) : ET i (.Compare a [op, op'] [b, c] pos) ρ Φb := fun σ Hf H Q hr e q =>
  tx_chain ho ho' (h σ Hf H _ hr e fun v x Hf1 H1 t1 r1 hx => by
    obtain ⟨m, rfl, hx⟩ := hx
    cases r1
    refine hx σ Hf1 H1 _ (hr.mono t1.f) t1.i fun u y Hf2 H2 t2 r2 hy => ?_
    obtain ⟨n, rfl, hy⟩ := hy
    cases r2
    refine ⟨m, n, rfl, rfl, _, rfl, ?_⟩
    cases hp : p m n with
    | true =>
      rw [hp] at hy
      refine iteT ?_
      refine hy σ Hf2 H2 _ (hr.mono (t1.f.trans t2.f)) t2.i fun z d Hf3 H3 t3 r3 hz => ?_
      obtain ⟨k, rfl, hz⟩ := hz
      cases r3
      exact ⟨n, k, rfl, rfl, _, rfl, q _ Hf3 H3 ((t1.trans t2).trans t3) hz⟩
    | false =>
      rw [hp] at hy
      exact iteF ⟨_, rfl, q _ Hf2 H2 (t1.trans t2) hy⟩) hm

/-! ### attributes -/
theorem ee_attr {f : Str} (h : EE i e ρ fun d => (∃ b n dd x, d = .fld b n dd ∧ NoAttr i.K (He.ga i.K "Field") f ∧ Cls i.K (He.ga i.K "Field") ∧ ((f = "books" ∧ x = b) ∨ (f = "named" ∧ x = n) ∨ (f = "deeds" ∧ x = dd)) ∧ Φ (.py x)) ∨
      ∃ b n dd far ws, d = .sta b n dd far ws ∧ NoAttr i.K (He.ga i.K "State") f ∧ Cls i.K (He.ga i.K "State") ∧ ((f = "field" ∧ Φ (.fld b n dd)) ∨ (f = "far" ∧ Φ (.py far)) ∨ (f = "wishes" ∧ Φ (.py ws))))
    (hb : ∀ env, attributeBase e f env (eval e env) = eval e env := by intro _; rfl) : EE i (.Attribute e f pos) ρ Φ := fun σ Hf H Q hr x q =>
  ex_fld (h σ Hf H _ hr x fun v d Hf1 H1 t1 r1 φ => by
    rcases φ with ⟨b, n, dd, y, rfl, na, cl, hc, φ⟩ | ⟨b, n, dd, far, ws, rfl, na, cl, hc⟩
    · obtain ⟨a, rfl, A⟩ := r1
      obtain ⟨dx, fs, vb, vn, vd, h1, h2, h3, h4, h5, h6, h7⟩ := A.ex
      rcases hc with ⟨rfl, rfl⟩ | ⟨rfl, rfl⟩ | ⟨rfl, rfl⟩
      · exact ⟨a, _, dx, fs, vb, rfl, t1.i _ _ h1, cl, na, h2, q _ _ Hf1 H1 t1 (rpy h5) φ⟩
      · exact ⟨a, _, dx, fs, vn, rfl, t1.i _ _ h1, cl, na, h3, q _ _ Hf1 H1 t1 (rpy h6) φ⟩
      · exact ⟨a, _, dx, fs, vd, rfl, t1.i _ _ h1, cl, na, h4, q _ _ Hf1 H1 t1 (rpy h7) φ⟩
    · obtain ⟨a, rfl, A⟩ := r1
      obtain ⟨dx, fs, g, vf, vw, h1, h2, h3, h4, h5, h6, h7⟩ := A.ex
      rcases hc with ⟨rfl, φ⟩ | ⟨rfl, φ⟩ | ⟨rfl, φ⟩
      · exact ⟨a, _, dx, fs, .ref g, rfl, t1.i _ _ h1, cl, na, h2, q (.ref g) (.fld b n dd) Hf1 H1 t1 ⟨g, rfl, h5⟩ φ⟩
      · exact ⟨a, _, dx, fs, vf, rfl, t1.i _ _ h1, cl, na, h3, q _ _ Hf1 H1 t1 (rpy h6) φ⟩
      · exact ⟨a, _, dx, fs, vw, rfl, t1.i _ _ h1, cl, na, h4, q _ _ Hf1 H1 t1 (rpy h7) φ⟩) hb
theorem filter_yes {α : Type} : ∀ l : List α, (l.filter fun _ => true) = l
  | [] => rfl
  | a :: l => by
    rw [List.filter_cons, if_pos rfl, filter_yes l]
/-! ### a comprehension over items of a Lean type -/
open PySem.W (EachIs)
theorem each_un {α : Type} {enc : α → Dt} (inj : ∀ a b, enc a = enc b → a = b) {R : α → PyData → Prop} : ∀ {rs : List α} {zs : List PyData}, EachIs (fun x z => ∃ a, x = enc a ∧ R a z) (rs.map enc) zs → EachIs R rs zs
  | [], [], _ => .nil
  | [], _ :: _, h => nomatch h
  | _ :: _, [], h => nomatch h
  | r :: rs, z :: zs, h => by
    have t : (∃ a, enc r = enc a ∧ R a z) ∧ EachIs (fun x z => ∃ a, x = enc a ∧ R a z) (rs.map enc) zs := by
      cases h with
      | cons a b => exact ⟨a, b⟩
    obtain ⟨⟨a, e, h1⟩, h2⟩ := t
    have e2 := inj _ _ e
    subst e2
    exact .cons h1 (each_un inj h2)
open Classical in
theorem lcR_ask {elt : Expr} {ifs : List Expr} {scope : Scope} {wi : TI} {g : TG} {Φl : List PyData → Prop} (own : List (Str × Nat))
    (h : ES i wi ρ fun its => ∃ (α : Type) (enc : α → Dt) (rs : List α) (p : α → Bool) (R : α → PyData → Prop), its = rs.map enc ∧ (∀ a b, enc a = enc b → a = b) ∧ rs.length ≤ 40000 ∧
      (∀ a ∈ rs, ∃ ρx, GD (i.blk scope) g (own.map (·.2)) (wipeE ρ (own.map (·.2))) ρx (enc a) ∧ EI (i.blk scope) ifs ρx (fun b => b = p a) ∧ (p a = true → EE (i.blk scope) elt ρx fun y => ∃ z, y = .py z ∧ R a z)) ∧ ∀ zs, EachIs R (rs.filter p) zs → Φl zs) : ES i wi ρ fun its => its.length ≤ 40000 ∧ ∃ p R, (∀ x ∈ its, LcTurn i scope elt ifs g (own.map (·.2)) ρ p R x) ∧ ∀ zs, EachIs R (its.filter p) zs → Φl zs :=
  fun σ Hf H R hr e q => h σ Hf H R hr e fun J its Hf1 H1 t S ψ => q J its Hf1 H1 t S (by
    obtain ⟨α, enc, rs, p, R, rfl, inj, hz, turn, fin⟩ := ψ
    have key : ∀ a, (if hx : ∃ b, enc a = enc b then p (choose hx) else false) = p a := fun a => by
      have hx : ∃ b, enc a = enc b := ⟨a, rfl⟩
      rw [dif_pos hx, ← inj _ _ (choose_spec hx)]
    refine ⟨by rw [List.length_map]; exact hz, fun x => if hx : ∃ b, x = enc b then p (choose hx) else false, fun x z => ∃ a, x = enc a ∧ R a z, fun x hx => ?_, fun zs hz => ?_⟩
    · obtain ⟨a, ha, rfl⟩ := List.mem_map.mp hx
      obtain ⟨ρx, h1, h2, h3⟩ := turn a ha
      refine ⟨ρx, h1, ?_, fun hp => (h3 (by rw [← key a]; exact hp)).imp fun y ⟨z, e1, e2⟩ => ⟨z, e1, a, rfl, e2⟩⟩
      dsimp only
      rw [key a]
      exact h2
    · refine fin zs (each_un inj ?_)
      have e : (rs.map enc).filter (fun x => if hx : ∃ b, x = enc b then p (choose hx) else false) = (rs.filter p).map enc := by
        rw [List.filter_map]
        congr 1
        exact List.filter_congr fun a _ => key a
      rw [e] at hz
      exact hz)
/-- .. told by functions -/
theorem lcF_ask {elt : Expr} {ifs : List Expr} {scope : Scope} {wi : TI} {g : TG} {Φl : List PyData → Prop} (own : List (Str × Nat))
    (h : ES i wi ρ fun its => ∃ (α : Type) (enc : α → Dt) (rs : List α) (p : α → Bool) (f : α → PyData), its = rs.map enc ∧ (∀ a b, enc a = enc b → a = b) ∧ rs.length ≤ 40000 ∧
      (∀ a ∈ rs, ∃ ρx, GD (i.blk scope) g (own.map (·.2)) (wipeE ρ (own.map (·.2))) ρx (enc a) ∧ EI (i.blk scope) ifs ρx (fun b => b = p a) ∧ (p a = true → EE (i.blk scope) elt ρx fun y => y = .py (f a))) ∧ Φl ((rs.filter p).map f)) : ES i wi ρ fun its => its.length ≤ 40000 ∧ ∃ p R, (∀ x ∈ its, LcTurn i scope elt ifs g (own.map (·.2)) ρ p R x) ∧ ∀ zs, EachIs R (its.filter p) zs → Φl zs :=
  lcR_ask own (fun σ Hf H R hr e q => h σ Hf H R hr e fun J its Hf1 H1 t S ψ => q J its Hf1 H1 t S (by
    obtain ⟨α, enc, rs, p, f, e1, inj, hz, turn, fin⟩ := ψ
    refine ⟨α, enc, rs, p, fun a z => z = f a, e1, inj, hz, fun a ha => ?_, fun zs hz => ?_⟩
    · obtain ⟨ρx, h1, h2, h3⟩ := turn a ha
      exact ⟨ρx, h1, h2, fun hp => (h3 hp).imp fun y hy => ⟨f a, hy, rfl⟩⟩
    · have e : zs = (rs.filter p).map f := each_eq hz
      rw [e]
      exact fin))
theorem ee_lcR {elt tg iter : Expr} {ifs : List Expr} {scope : Scope} {wi : TI} {g : TG} (own : List (Str × Nat)) (hi : ∀ X, XOk i X → PI X tg iter wi) (hg : ∀ X, XOk (i.blk scope) X → PG X tg g)
    (h : ES i wi ρ fun its => ∃ (α : Type) (enc : α → Dt) (rs : List α) (p : α → Bool) (R : α → PyData → Prop), its = rs.map enc ∧ (∀ a b, enc a = enc b → a = b) ∧ rs.length ≤ 40000 ∧
      (∀ a ∈ rs, ∃ ρx, GD (i.blk scope) g (own.map (·.2)) (wipeE ρ (own.map (·.2))) ρx (enc a) ∧ EI (i.blk scope) ifs ρx (fun b => b = p a) ∧ (p a = true → EE (i.blk scope) elt ρx fun y => ∃ z, y = .py z ∧ R a z)) ∧ ∀ zs, EachIs R (rs.filter p) zs → Φ (.py (.list zs)))
    (ok : blkC i.N i.sc scope own = true := by kernel_rfl) (hs : ∀ env x, foldedSetIterable iter env x = pure x := by intro _ _; rfl) : EE i (.ListComp elt [⟨tg, iter, ifs, 0⟩] scope pos) ρ Φ := ee_lc own hi hg (lcR_ask (Φl := fun zs => Φ (.py (.list zs))) own h) ok hs
theorem ee_lcF {elt tg iter : Expr} {ifs : List Expr} {scope : Scope} {wi : TI} {g : TG} (own : List (Str × Nat)) (hi : ∀ X, XOk i X → PI X tg iter wi) (hg : ∀ X, XOk (i.blk scope) X → PG X tg g)
    (h : ES i wi ρ fun its => ∃ (α : Type) (enc : α → Dt) (rs : List α) (p : α → Bool) (f : α → PyData), its = rs.map enc ∧ (∀ a b, enc a = enc b → a = b) ∧ rs.length ≤ 40000 ∧
      (∀ a ∈ rs, ∃ ρx, GD (i.blk scope) g (own.map (·.2)) (wipeE ρ (own.map (·.2))) ρx (enc a) ∧ EI (i.blk scope) ifs ρx (fun b => b = p a) ∧ (p a = true → EE (i.blk scope) elt ρx fun y => y = .py (f a))) ∧ Φ (.py (.list ((rs.filter p).map f))))
    (ok : blkC i.N i.sc scope own = true := by kernel_rfl) (hs : ∀ env x, foldedSetIterable iter env x = pure x := by intro _ _; rfl) : EE i (.ListComp elt [⟨tg, iter, ifs, 0⟩] scope pos) ρ Φ := ee_lc own hi hg (lcF_ask (Φl := fun zs => Φ (.py (.list zs))) own h) ok hs
theorem bb_setLcR {elt tg iter : Expr} {ifs : List Expr} {scope : Scope} {wi : TI} {g : TG} {x : Str} {py spos : Pos} {rest : List Stmt} {Ψ' : En → Prop} {Φr : Dt → Prop} (j : Nat) (own : List (Str × Nat)) (hi : ∀ X, XOk i X → PI X tg iter wi) (hg : ∀ X, XOk (i.blk scope) X → PG X tg g)
    (h : ES i wi ρ fun its => ∃ (α : Type) (enc : α → Dt) (rs : List α) (p : α → Bool) (R : α → PyData → Prop), its = rs.map enc ∧ (∀ a b, enc a = enc b → a = b) ∧ rs.length ≤ 40000 ∧
      (∀ a ∈ rs, ∃ ρx, GD (i.blk scope) g (own.map (·.2)) (wipeE ρ (own.map (·.2))) ρx (enc a) ∧ EI (i.blk scope) ifs ρx (fun b => b = p a) ∧ (p a = true → EE (i.blk scope) elt ρx fun y => ∃ z, y = .py z ∧ R a z)) ∧ ∀ zs, EachIs R (rs.filter p) zs → BB i rest (ρ.set j (some (.py (.list zs)))) Ψ' Φr)
    (ok : blkC i.N i.sc scope own = true := by kernel_rfl) (hN : i.N[j]? = some x := by rfl) (hy : i.sc.names.lookup x = some .local := by rfl) (hk : i.sc.kind = .function := by rfl) (hl : (py.line == pos.line) = true := by rfl)
    (ha : (scope.names.any fun (n, k) => n == x && (k == .local || k == .cell)) = false := by decide +kernel) (hll : spos.line = pos.line := by rfl) (hs : ∀ env x, foldedSetIterable iter env x = pure x := by intro _ _; rfl) : BB i (.Assign [.Name x py] (.ListComp elt [⟨tg, iter, ifs, 0⟩] scope pos) spos :: rest) ρ Ψ' Φr := bb_setLc j own hi hg (lcR_ask (Φl := fun zs => BB i rest (ρ.set j (some (.py (.list zs)))) Ψ' Φr) own h) ok hN hy hk hl ha hll hs
theorem bb_setLcF {elt tg iter : Expr} {ifs : List Expr} {scope : Scope} {wi : TI} {g : TG} {x : Str} {py spos : Pos} {rest : List Stmt} {Ψ' : En → Prop} {Φr : Dt → Prop} (j : Nat) (own : List (Str × Nat)) (hi : ∀ X, XOk i X → PI X tg iter wi) (hg : ∀ X, XOk (i.blk scope) X → PG X tg g)
    (h : ES i wi ρ fun its => ∃ (α : Type) (enc : α → Dt) (rs : List α) (p : α → Bool) (f : α → PyData), its = rs.map enc ∧ (∀ a b, enc a = enc b → a = b) ∧ rs.length ≤ 40000 ∧
      (∀ a ∈ rs, ∃ ρx, GD (i.blk scope) g (own.map (·.2)) (wipeE ρ (own.map (·.2))) ρx (enc a) ∧ EI (i.blk scope) ifs ρx (fun b => b = p a) ∧ (p a = true → EE (i.blk scope) elt ρx fun y => y = .py (f a))) ∧ BB i rest (ρ.set j (some (.py (.list ((rs.filter p).map f))))) Ψ' Φr)
    (ok : blkC i.N i.sc scope own = true := by kernel_rfl) (hN : i.N[j]? = some x := by rfl) (hy : i.sc.names.lookup x = some .local := by rfl) (hk : i.sc.kind = .function := by rfl) (hl : (py.line == pos.line) = true := by rfl)
    (ha : (scope.names.any fun (n, k) => n == x && (k == .local || k == .cell)) = false := by decide +kernel) (hll : spos.line = pos.line := by rfl) (hs : ∀ env x, foldedSetIterable iter env x = pure x := by intro _ _; rfl) : BB i (.Assign [.Name x py] (.ListComp elt [⟨tg, iter, ifs, 0⟩] scope pos) spos :: rest) ρ Ψ' Φr := bb_setLc j own hi hg (lcF_ask (Φl := fun zs => BB i rest (ρ.set j (some (.py (.list zs)))) Ψ' Φr) own h) ok hN hy hk hl ha hll hs
end
end Fq
/-! FqG: sorted(xs, key=f), f a def of the text, whose keys may hold lists. -/
namespace Fq
open PySem PySem.Spec PyProof.Rows L2 Evl
open PySem.W (EachIs SortsAt sortVals sortLe dataLe dataKind AllAlike Sortable)

/-- the kind of keys that read as rows of signs -/
def mkK (g : Value → Option (List (Int ⊕ List Nat))) : PyProof.Rows.KeyKind where
  toKeyOrd := PyProof.Rows.listOrd PyProof.Rows.itemOrd
  keyOf := g
  dflt := ([] : List (Int ⊕ List Nat))

section
variable {X : Cx} {pins : List (Addr × Obj)} {σ : L2.St} {H : Hp} {s : Shared}
/-- a def is run two levels within a built-in -/
theorem run2 {k : Nat} {f : Addr} {fd : FuncData} {ps : List Str} {sp : Sp} {us : List Value} {vs : List V} {Q : VK} (F : FnOk X.prog X.w X.K X.mg X.base CX0 k f fd ps sp) (hr : Room k X.A.in1.in1) (hb : Binds X.K fd ps [])
    (I : Inv X pins σ H s) (r : Vals vs us) (h : sp vs H Q E0) : wpAny (model X.prog X.w) X.A.in1.in1 (call (.ref f) us) (EP X pins σ Q) (fun _ _ => False) s := by
  have hl : (us ++ []).length = ps.length := by
    rw [List.append_nil, ← r.length]
    exact F.len _ _ _ _ h
  have b0 := hb s us I.kIn hl
  rw [List.append_nil] at b0
  refine wpAny_call (codeAny_mono (F.run X.A.in1.in1 X.stack s H ⟨us, []⟩ us vs Q E0 hr I.env0.in1.in1 b0 r h) fun q s' hq => ?_)
  match q, hq with
  | .error _, hq => exact False.elim hq
  | .ok (.ret u), hq => exact I.after hq
  | .ok .next, hq => exact False.elim hq
  | .ok .brk, hq => exact False.elim hq
  | .ok .cont, hq => exact False.elim hq
/-- what the loop over the items keeps -/
def KeyLoop (X : Cx) (pins : List (Addr × Obj)) (σ : L2.St) (Hf H : Hp) (kS D : Addr) (e1 : Nat) (key : PyData → PyData) (ds : List PyData) (i : Nat) (s' : Shared) : Prop :=
  ∃ Hf' H' ws kA e, Inv X pins σ H' s' ∧ Tr Hf H Hf' H' ∧ H' kS = none ∧ H' D = none ∧ s'.heap.get? kS = some (PyProof.Rows.seqObj "list" kA e) ∧ s'.heap.get? D = some (PyProof.Rows.seqObj "list" #[] e1) ∧ Vals ws kA.toList ∧ DpAll X.K Hf' ws ((ds.take i).map key)
/-- a call of f, where the heap A stands still -/
def KeyTurn (A : Hp) (X : Cx) (f : Value) (key : PyData → PyData) (d : PyData) : Prop := ∀ pins σ s Hf H v u, Inv X pins σ H s → Ex A H → Ex Hf H → Dp X.K Hf v d → RelV v u →
  wpAny (model X.prog X.w) X.A.in1.in1 (call f [u]) (EP X pins σ fun z H2 => ∃ Hf2, Tr Hf H Hf2 H2 ∧ Dp X.K Hf2 z (key d)) (fun _ _ => False) s
theorem vals_snoc {ws : List V} {us : List Value} {w : V} {u : Value} (h : Vals ws us) (r : RelV w u) : Vals (ws ++ [w]) (us ++ [u]) := h.append (.cons r .nil)
theorem Tr.keepN {Hf H Hf' H' : Hp} (t : Tr Hf H Hf' H') {p : Addr} {o : HO} (h1 : H p = some o) (h2 : Hf p = none) : Hf' p = none := t.n p o h1 h2
theorem seq_nocell {xs : Array Value} {n : Nat} : ∀ v, (PyProof.Rows.seqObj "list" xs n).data ≠ .cell v := fun v h => by cases h

variable {P : PySem.Fin → Shared → Prop} {E : Value → Shared → Prop} {Hf : Hp}
/-- an untracked list of ours has got another content -/
theorem Inv.put {b : Addr} {h' : Heap} {t' : Nat} (I : Inv X pins σ H s) (fb : FpOk X pins H b) (hs : Heap.SameBut b s.heap h') : Inv X pins σ H { s with heap := h', toks := t' } :=
  I.turned (it := b) (fun c o hc q => (hs.2 c hc).trans q) fb.1 fb.2.1 fb.2.2.2.1 fb.2.2.2.2.1 fb.2.2.2.2.2
theorem FpOk.to {b : Addr} {H' : Hp} (f : FpOk X pins H b) (h : H' b = none) : FpOk X pins H' b := ⟨h, f.2⟩
theorem key_loop {f : Value} {kS D : Addr} {e1 : Nat} {key : PyData → PyData} {ws : List V} {vs : List Value} {ds : List PyData} (I : Inv X pins σ H s) (ex : Ex Hf H) (fK : FpOk X pins H kS) (fD : FpOk X pins H D) (nk : s.heap.get? kS = some (PyProof.Rows.seqObj "list" #[] 0))
    (nd : s.heap.get? D = some (PyProof.Rows.seqObj "list" #[] e1)) (hka : kS ≠ D) (rv : Vals ws vs) (da : DpAll X.K Hf ws ds) (turn : ∀ d ∈ ds, KeyTurn H X f key d) (hZ : vs.length ≤ sizeLine)
    (fin : ∀ s' kA e, KeyLoop X pins σ Hf H kS D e1 key ds vs.length s' → s'.heap.get? kS = some (PyProof.Rows.seqObj "list" kA e) → wpAny (model X.prog X.w) X.A.in1.in1 (PyProof.Rows.ksk_end D false vs.toArray e1 (.ref kS) kA) P E s') :
    wpAny (model X.prog X.w) X.A.in1.in1 (PyProof.Rows.ksk_rest D f false vs.toArray e1 (.ref kS)) P E s := by
  have lv := rv.length
  have ld := dpAll_len da
  unfold PyProof.Rows.ksk_rest
  refine wpAny_bind (wpAny_rule ?_)
  first
    | rw [List.forIn_toArray]
    | (rw [← Array.forIn_toList]; simp only [List.toList_toArray])
  refine wpAny_bind (PyProof.Rows.ksk_fold (KeyLoop X pins σ Hf H kS D e1 key ds) vs 0 s ⟨Hf, H, [], #[], 0, I, Tr.refl ex, fK.1, fD.1, nk, nd, .nil, by rw [List.take_zero]; exact .nil⟩ ?step ?done)
  case step =>
    rintro j x s1 hx ⟨Hf1, H1, ks, kA, e, I1, t1, kn, dn, k1, d1, r1, a1⟩
    rw [Nat.zero_add] at a1 ⊢
    have hj : j < vs.length := (List.getElem?_eq_some_iff.mp hx).1
    have hjd : j < ds.length := by omega
    obtain ⟨w, hw⟩ : ∃ w, ws[j]? = some w := ⟨_, List.getElem?_eq_getElem (by omega)⟩
    obtain ⟨x', hx', rw'⟩ := Vals.get rv hw
    rw [hx] at hx'
    obtain rfl := Option.some.inj hx'
    obtain ⟨d, hd, dd⟩ := dpAll_at da hw
    have hk : kA.size ≤ vs.length := by
      have l1 : ks.length = kA.size := by
        rw [← Array.length_toList]
        exact Vals.length r1
      have l2 := dpAll_len a1
      rw [List.length_map, List.length_take] at l2
      omega
    have I2 : Inv X (pins ++ [(kS, PyProof.Rows.seqObj "list" kA e), (D, PyProof.Rows.seqObj "list" #[] e1)]) σ H1 s1 := I1.pins_of fun p hp => by
      rcases List.mem_append.mp hp with hp | hp
      · exact I1.pin p (List.mem_append_right _ hp)
      · rcases List.mem_cons.mp hp with rfl | hp
        · exact ⟨k1, kn, fK.2.1, fK.2.2.1, seq_nocell⟩
        · obtain rfl := List.mem_singleton.mp hp
          exact ⟨d1, dn, fD.2.1, fD.2.2.1, seq_nocell⟩
    refine wpAny_bind (wpAny_attempt (wpAny_mono (turn d (List.mem_of_getElem? hd) _ σ s1 Hf1 H1 w x I2 t1.h t1.i (dp_mono t1.f dd) rw') (fun u s2 he => ?_) fun _ _ hF => hF.elim))
    obtain ⟨z, H2, I3, rz, Hf2, t2, dz⟩ := he
    have pk := I3.pin (kS, PyProof.Rows.seqObj "list" kA e) (by simp)
    have pd := I3.pin (D, PyProof.Rows.seqObj "list" #[] e1) (by simp)
    have I4 : Inv X pins σ H2 s2 := I3.pins_of fun p hp => I3.pin p (by rw [List.mem_append, List.mem_append]; exact .inr (.inl hp))
    have ku : s2.heap.get? kS = some (PyProof.Rows.seqObj "list" kA e) := pk.1
    have du : s2.heap.get? D = some (PyProof.Rows.seqObj "list" #[] e1) := pd.1
    have sb := Heap.SameBut.update s2.heap kS (Obj.mapSeq (·.push u))
    refine wpAny_bind (PyProof.Rows.listUpdate_at ku rfl ?_ (Nat.le_trans hk hZ) (Nat.le_trans (Nat.le_of_eq (Array.size_push ..)) (Nat.succ_le_succ (Nat.le_trans hk hZ))))
    refine wpAny_pure ⟨rfl, Hf2, H2, ks ++ [z], kA.push u, _, Inv.put (t' := s2.toks) I4 (FpOk.to fK pk.2.1) sb, t1.trans t2, pk.2.1, pd.2.1, PyProof.Rows.get?_update_seq ku (·.push u), (sb.2 D hka.symm).trans du, ?_, ?_⟩
    · rw [Array.toList_push]
      exact vals_snoc r1 rz
    · rw [List.take_add_one, hd, List.map_append]
      exact dpAll_app (dpAll_mono t2.f a1) (.cons dz .nil)
  case done =>
    intro s1 hs
    rw [Nat.zero_add] at hs
    obtain ⟨Hf1, H1, ks, kA, e, I1, t1, kn, dn, k1, d1, r1, a1⟩ := id hs
    exact wpAny_bind (PyProof.Rows.listItems_at k1 rfl (fin s1 kA e hs k1))

/-- the heap without the object at b -/
def cutOff (h : Heap) (b : Addr) : Heap := h.update b fun o => { o with data := .freed }
theorem cutOff_self (h : Heap) (b : Addr) : (cutOff h b).get? b = none := by
  unfold cutOff Heap.get?
  rw [Heap.objs_update_self]
  cases h.objs[b]? <;> rfl
theorem cutOff_ne {h : Heap} {b c : Addr} (e : c ≠ b) : (cutOff h b).get? c = h.get? c := Heap.get?_update_ne _ _ _ _ e
theorem each_vals {K : PySem.W.Frag} {Hf : Hp} : ∀ {us : List Value} {ds : List PyData}, EachIs (fun u d => ∃ w, RelV w u ∧ Dp K Hf w d) us ds → ∃ ws, Vals ws us ∧ DpAll K Hf ws ds
  | [], [], _ => ⟨[], .nil, .nil⟩
  | [], _ :: _, h => nomatch h
  | _ :: _, [], h => nomatch h
  | u :: us, d :: ds, h => by
    have t : (∃ w, RelV w u ∧ Dp K Hf w d) ∧ EachIs (fun u d => ∃ w, RelV w u ∧ Dp K Hf w d) us ds := by
      cases h with
      | cons a b => exact ⟨a, b⟩
    obtain ⟨⟨w, r, q⟩, t⟩ := t
    obtain ⟨ws, r2, q2⟩ := each_vals t
    exact ⟨w :: ws, .cons r r2, .cons q q2⟩
theorem vals_each {K : PySem.W.Frag} {Hf : Hp} : ∀ {ws : List V} {us : List Value} {ds : List PyData}, Vals ws us → DpAll K Hf ws ds → EachIs (fun u d => ∃ w, RelV w u ∧ Dp K Hf w d) us ds
  | [], [], [], _, _ => .nil
  | [], _ :: _, _, h, _ => nomatch h
  | _ :: _, [], _, h, _ => nomatch h
  | [], [], _ :: _, _, h => nomatch h
  | _ :: _, _ :: _, [], _, h => nomatch h
  | w :: ws, u :: us, d :: ds, h, g => by
    have t : RelV w u ∧ Vals ws us := by
      cases h with
      | cons a b => exact ⟨a, b⟩
    have t2 : Dp K Hf w d ∧ DpAll K Hf ws ds := by
      cases g with
      | cons a b => exact ⟨a, b⟩
    exact .cons ⟨w, t.1, t2.1⟩ (vals_each t.2 t2.2)
/-- behind the sort: the list at D is ours from now on -/
theorem Inv.sorted {D kS : Addr} {H' : Hp} {out : List V} {us : List Value} {h' : Heap} {tk c : Nat} (I : Inv X pins σ H' s) (fK : FpOk X pins H' kS) (fD : FpOk X pins H' D) (kp : PySem.W.KeepsBut D (cutOff s.heap kS) h') (nd : h'.get? D = some (PyProof.Rows.seqObj "list" us.toArray c)) (rv : Vals out us) (hz : out.length ≤ sizeLine)
    (dS : ∃ o, s.heap.get? D = some o) : Inv X pins σ (upd H' D (.lst out)) { s with heap := h', toks := tk } := by
  have kk : ∀ b o, b ≠ D → b ≠ kS → s.heap.get? b = some o → h'.get? b = some o := fun b o h1 h2 e => kp b o h1 (by rw [cutOff_ne h2]; exact e)
  have nch : ∀ b, b ∉ [D, kS] → b ≠ D ∧ b ≠ kS := fun b hb => by
    rw [List.mem_cons, List.mem_singleton, not_or] at hb
    exact hb
  have tr : ∀ b u, H' b = some u → b ≠ D ∧ b ≠ kS := fun b u e => ⟨ne_of_none e fD.1, ne_of_none e fK.1⟩
  refine I.step (g' := s.gens) (d' := s.drawn) (ch := [D, kS]) (fun b hb => ?_) (fun b o _ _ hc e _ => kk b o (nch b hc).1 (nch b hc).2 e) (fun b o _ _ hc e _ => ⟨o.slots, kk b o (nch b hc).1 (nch b hc).2 e⟩) (fun b o hc _ n => by rw [upd_ne (nch b hc).1]; exact n)
    (fun b o hc e => ⟨o, kk b o (nch b hc).1 (nch b hc).2 e⟩) (fun b xs e => by rw [upd_ne (tr b _ e).1]; exact e) (fun b o u e => by rw [upd_ne (tr b _ e).1]; exact e) (fun b ps e => ⟨#[], by rw [upd_ne (tr b _ e).1, e]; simp⟩) (fun m hm => ?_) (fun b u e => ?_) I.bare
  · rcases List.mem_cons.mp hb with rfl | hb
    · exact ⟨fD.2.2.2.1, fD.2.1, fD.2.2.2.2.1, fD.2.2.2.2.2⟩
    · obtain rfl := List.mem_singleton.mp hb
      exact ⟨fK.2.2.2.1, fK.2.1, fK.2.2.2.2.1, fK.2.2.2.2.2⟩
  · obtain ⟨o, es, ep, ho, r⟩ := hm
    exact ⟨o, es, ep, kk _ o fD.2.1.symm fK.2.1.symm ho, r⟩
  · by_cases hb : b = D
    · subst hb
      rw [upd_same] at e
      cases e
      exact ⟨hz, us, c, rv, nd⟩
    · rw [upd_ne hb] at e
      have nb := tr b u e
      refine (I.hok b u e).stay (fun c v hc q => ?_) (fun d q => by rw [upd_ne (tr d _ q).1]; exact q) fun d xs q => by rw [upd_ne (tr d _ q).1]; exact q
      rcases hc with z | z
      · rw [z] at q ⊢
        exact kk b v nb.1 nb.2 q
      · exact kk c v (tr c _ z).1 (tr c _ z).2 q

/-- the items of a tuple, collected -/
theorem collect_tup {prog : Program} {w : World} {A : Around} {E : Value → Shared → Prop} {s : Shared} {t : Addr} {its : List Value} {Q : List Value → Shared → Prop} (ht : s.heap.IsTuple t its.toArray) (hz : its.length ≤ sizeLine)
    (h : Q its { s with heap := (s.heap.push (seqObj "list" #[] 0)).update s.heap.objs.size (Obj.mapSeq (· ++ its.toArray)) }) : wpAny (model prog w) A (collect (.ref t)) Q E s := by
  obtain ⟨ot, h1, h2, n, h3⟩ := id ht
  have h1' : (s.heap.push (seqObj "list" #[] 0)).get? t = some ot := Heap.get?_push_of_some _ h1
  have hN : (s.heap.push (seqObj "list" #[] 0)).get? s.heap.objs.size = some (seqObj "list" #[] 0) := Heap.get?_push_size _ rfl
  unfold collect
  refine wpAny_bind (wpAny_runValue (codeAny_builtin entry_proto_collect' ?_))
  refine wpAny_bind (wpAny_newList ?_)
  refine wpAny_pure ⟨Code.quiet_builtin _ (by decide +kernel), codeAny_builtin entry_list_iadd' ?_⟩
  show wpAny _ _ (Builtin.List.listExtendWith (.ref s.heap.objs.size) (.ref t) (.ref s.heap.objs.size)) _ _ ⟨s.heap.push (seqObj "list" #[] 0), s.gens, s.drawn, s.toks, s.os⟩
  unfold Builtin.List.listExtendWith
  refine wpAny_bind (wpAny_typeOf (T := "tuple") ⟨ot, h1', h2⟩ ?_)
  rw [if_pos (by simp)]
  refine wpAny_bind (listItems_at h1' h3 (wpAny_bind (listItems_at hN rfl ?_)))
  rw [if_neg (by simp)]
  refine wpAny_bind (listUpdate_at hN rfl (wpAny_pure ?_) (Nat.zero_le _) ?_)
  · refine wpAny_bind (wpAny_load (get?_update_seq hN _) ?_)
    show wpAny _ _ (pure ((#[] : Array Value) ++ its.toArray).toList) _ _ _
    rw [show ((#[] : Array Value) ++ its.toArray).toList = its by simp]
    exact wpAny_pure h
  · rw [Array.size_append, List.size_toArray]
    show 0 + its.length ≤ sizeLine + 1
    omega
/-- sorted of a list or a tuple, by the sort of the copy -/
theorem sorted_seq {prog : Program} {w : World} {A : Around} {E : Value → Shared → Prop} {s : Shared} {l : Addr} {vs : List Value} {kw : List (Str × Value)} {Q : Value → Shared → Prop} (hl : s.heap.IsList l vs.toArray ∨ s.heap.IsTuple l vs.toArray) (hL : vs.length ≤ sizeLine) (ha1 : argsOk "sorted" ⟨[.ref l], kw⟩) (ha2 : ∀ x, argsOk "list.sort" ⟨[.ref x], kw⟩)
    (body : ∀ E' : Value → Shared → Prop, wpAny (model prog w) A.in1.in1 (Builtin.«list.sort» ⟨[.ref (s.heap.objs.size + 1)], kw⟩) (fun f s' => f = .done (.ret .none) ∧ Q (.ref (s.heap.objs.size + 1)) s') E' { s with heap := PySem.W.copyHeap s.heap vs }) : wpAny (model prog w) A (call (.builtin "sorted") [.ref l] kw) Q E s := by
  rcases hl with hl | hl
  · exact PySem.W.sorted_of_sort hl hL ha1 ha2 body
  refine PyProof.Rows.call_function_entry_kw kind_sorted plain_sorted entry_sorted ha1 ?_
  unfold Builtin.«sorted»
  refine wpAny_bind (m := checkCount "sorted" 1 1 _) (wpAny_pure (wpAny_bind (collect_tup hl hL (wpAny_bind (wpAny_newList ?_ hL)))))
  have hsz : ((s.heap.push (seqObj "list" #[] 0)).update s.heap.objs.size (Obj.mapSeq (· ++ vs.toArray))).objs.size = s.heap.objs.size + 1 := by rw [Heap.size_update, PyProof.Rows.size_push']
  show wpAny _ _ _ _ _ ⟨PySem.W.copyHeap s.heap vs, s.gens, s.drawn, s.toks, s.os⟩
  rw [hsz]
  refine wpAny_bind (wpAny_holding (wpAny_call_entry_kw slot_list_sort ⟨_, PySem.W.copyHeap_at s.heap vs, rfl⟩ entry_list_sort ?_ (ha2 _)))
  exact wpAny_mono (body _) (fun f s' ⟨e1, hq⟩ => e1 ▸ ⟨_, rfl, wpAny_pure ⟨_, rfl, hq⟩⟩) fun _ _ e => e
abbrev sgnLe (kz : PyData → List (Int ⊕ List Nat)) : PyData → PyData → Bool := sortLe (PyProof.Rows.listOrd PyProof.Rows.itemOrd) false kz
/-- sorted(xs, key=f) -/
theorem sorted_run {a f : Addr} {key : PyData → PyData} {kz : PyData → List (Int ⊕ List Nat)} {ws : List V} {ds : List PyData} {Q : VK} (I : Inv X pins σ H s) (ex : Ex Hf H) (hl : SqL X.K Hf a ws ∨ SqT X.K Hf a ws) (da : DpAll X.K Hf ws ds) (hz : ds.length ≤ 100000) (turn : ∀ d ∈ ds, KeyTurn H X (.ref f) key d)
    (hS : ∀ s' H' Hf' ks kA, Inv X pins σ H' s' → Ex Hf' H' → Vals ks kA → DpAll X.K Hf' ks (ds.map key) → ∃ g, SortsAt X.prog X.w X.A.in1.in1 s' (mkK g) kA ∧ EachIs (fun u d => g u = some (kz d)) kA ds)
    (q : ∀ p Hf' H', Tr Hf H Hf' H' → Dp X.K Hf' (.ref p) (.list (ds.mergeSort (sgnLe kz))) → Q (.ref p) H') : wpAny (model X.prog X.w) X.A (call (.builtin "sorted") [.ref a] [(Str.ofString "key", .ref f)]) (EP X pins σ Q) X.xe s := by
  obtain ⟨vs, rv, hpl⟩ : ∃ vs, Vals ws vs ∧ (s.heap.IsList a vs.toArray ∨ s.heap.IsTuple a vs.toArray) := by
    rcases hl with hl | hl
    · obtain ⟨vs, rv, hpl, _⟩ := I.list (ex_l ex hl)
      exact ⟨vs, rv, .inl hpl.isList⟩
    · obtain ⟨vs, rv, hpl, _⟩ := I.tuple (ex_t ex hl)
      exact ⟨vs, rv, .inr hpl⟩
  have lv := Vals.length rv
  have ld := dpAll_len da
  have hZ : vs.length ≤ sizeLine := by
    rw [sizeLine_eq]
    omega
  refine sorted_seq hpl hZ (PyProof.Rows.ksk_s1 _ _) (fun _ => PyProof.Rows.ksk_l1 _ _) fun E' => ?_
  rw [PyProof.Rows.ksk_t1]
  have h0 := PySem.W.copyHeap_at s.heap vs
  have old : ∀ b o, s.heap.get? b = some o → (PySem.W.sortingHeap (PySem.W.copyHeap s.heap vs) (s.heap.objs.size + 1) vs).get? b = some o := fun b o e => PySem.W.sorting_copy_old e
  generalize hD : s.heap.objs.size + 1 = D at h0 old ⊢
  generalize hc : PySem.W.copyHeap s.heap vs = g at h0 old ⊢
  have hDg : D < g.objs.size := Heap.lt_size h0
  obtain ⟨e1, ho1⟩ : ∃ e1, (g.update D (Obj.mapSeq fun _ => (#[] : Array Value))).get? D = some (PyProof.Rows.seqObj "list" #[] e1) := ⟨_, PyProof.Rows.get?_update_seq h0 fun _ => #[]⟩
  unfold PyProof.Rows.ksk_tree
  refine wpAny_bind (PyProof.Rows.listItems_at h0 rfl ?_)
  refine wpAny_bind (PyProof.Rows.listUpdate_at h0 rfl ?_ (by rw [List.size_toArray]; exact hZ) (Nat.zero_le _))
  refine wpAny_bind (PyProof.Rows.seqEpoch_at ho1 rfl ?_)
  refine wpAny_bind (wpAny_newTuple ?_ (by show vs.length ≤ _; exact hZ))
  refine wpAny_bind (wpAny_newList ?_ (Nat.zero_le _))
  refine wpAny_holding ?_
  have hkS : ((g.update D (Obj.mapSeq fun _ => (#[] : Array Value))).push (PyProof.Rows.seqObj "tuple" vs.toArray 0)).objs.size = g.objs.size + 1 := by rw [PyProof.Rows.size_push', Heap.size_update]
  have hne : ((g.update D (Obj.mapSeq fun _ => (#[] : Array Value))).push (PyProof.Rows.seqObj "tuple" vs.toArray 0)).objs.size ≠ D := by
    rw [hkS]
    omega
  have I0 : Inv X pins σ H { s with heap := PySem.W.sortingHeap g D vs } := I.kept (t' := s.toks) old
  have hgs : s.heap.objs.size ≤ g.objs.size := by omega
  have fD : FpOk X pins H D := I.fpOk (by omega) (I.hok.fresh (by omega))
  have fK : FpOk X pins H ((g.update D (Obj.mapSeq fun _ => (#[] : Array Value))).push (PyProof.Rows.seqObj "tuple" vs.toArray 0)).objs.size := I.fpOk (by rw [hkS]; omega) (I.hok.fresh (by rw [hkS]; omega))
  refine key_loop (key := key) (ds := ds) (e1 := e1) I0 ex fK fD (Heap.get?_push_size _ rfl) (Heap.get?_push_of_some _ (Heap.get?_push_of_some _ ho1)) hne rv da turn hZ ?_
  rintro s1 kA e ⟨Hf1, H1, ks, kA', e', I1, t1, kn, dn, k1, d1, r1, a1⟩ k2
  rw [k1] at k2
  have ek : kA' = kA := by
    have := Option.some.inj k2
    unfold PyProof.Rows.seqObj at this
    injection this with _ _ h3 _
    injection h3
  subst ek
  rw [List.take_of_length_le (by omega)] at a1
  obtain ⟨gk, S, eg⟩ := hS s1 H1 Hf1 ks kA'.toList I1 t1.i r1 a1
  have lk : kA'.size = vs.length := by
    have l1 : ks.length = kA'.size := by
      rw [← Array.length_toList]
      exact Vals.length r1
    have l2 := dpAll_len a1
    rw [List.length_map] at l2
    omega
  refine PySem.W.keyH_end (κ := mkK gk) (h₁ := cutOff s1.heap _) (fun b o hb h => ?_) (cutOff_self _ _) k1 d1 hne S lk hZ fun h' tk c kp nd' => ⟨rfl, ?_⟩
  · by_cases hb2 : b = ((g.update D (Obj.mapSeq fun _ => (#[] : Array Value))).push (PyProof.Rows.seqObj "tuple" vs.toArray 0)).objs.size
    · rw [hb2, cutOff_self] at h
      cases h
    · rw [cutOff_ne hb2] at h
      exact h
  · have eo : EachIs (fun u d => ∃ w, RelV w u ∧ Dp X.K Hf w d) (sortVals (mkK gk) false kA'.toList vs) (ds.mergeSort (sgnLe kz)) := PySem.W.sortVals_each (κ := mkK gk) kz (vals_each rv da) eg
    obtain ⟨out, ro, dO⟩ := each_vals eo
    have lo : out.length ≤ sizeLine := by
      rw [dpAll_len dO, (List.mergeSort_perm _ _).length_eq, sizeLine_eq]
      omega
    refine ⟨.ref D, upd H1 D (.lst out), Inv.sorted I1 (FpOk.to fK kn) (FpOk.to fD dn) kp nd' ro lo ⟨_, d1⟩, rfl, q D (upd Hf1 D (.lst out)) (upd H1 D (.lst out)) (t1.trans (.new t1.i dn)) ?_⟩
    exact dp_lst_new (dpAll_mono t1.f dO) (fresh_back t1.i dn)
end
section
variable {i : XI} {ρ : En} {Φ : Dt → Prop} {e : Expr} {pos p p2 kp : Pos} {x : Str} {S : Sg}
/-- a def that may be a key= -/
structure KeyF (i : XI) (x : Str) (S : Sg) : Prop where
  ex : ∃ (k : Nat) (f : Addr) (fd : FuncData) (ps : List Str), k + 1 ≤ i.k ∧ FnOk i.P i.w i.K i.mg i.base CX0 k f fd ps (spD i.K 1 S) ∧ i.mg x = some (.ref f) ∧ Binds i.K fd ps []
theorem room2 {k : Nat} {A : Around} (r : Room (k + 1) A) : Room k A.in1.in1 := ⟨r.hd, by have := r.dp; show A.depth + 3 * k + 5 < _; omega, by have := r.un; show A.units + 1 + 1 + 16 * k + 200 < _; omega⟩
theorem keyTurn_of {A0 : Hp} {X : Cx} {k : Nat} {f : Addr} {fd : FuncData} {ps : List Str} {key : PyData → PyData} {d : PyData} (ok : XOk i X) (hk : k + 1 ≤ i.k) (F : FnOk i.P i.w i.K i.mg i.base CX0 k f fd ps (spD i.K 1 S)) (hb : Binds i.K fd ps []) (hS : S [.py d] fun z => z = .py (key d)) :
    KeyTurn A0 X (.ref f) key d := fun pins σ s Hf H v u I _ ex r ru => by
  refine run2 (ok.fn' F) (room2 (ok.room.mono hk)) (by rw [ok.K]; exact hb) I (.cons ru .nil) ?_
  refine ⟨Hf, [.py d], _, .cons (by rw [← ok.K]; exact r) .nil, ex, rfl, hS, fun z d' Hf' H' t r' e' => ?_⟩
  subst e'
  exact ⟨Hf', t, by rw [ok.K]; exact r'⟩
/-- what sorted asks and gives -/
def SortAsk (S : Sg) (ds : List PyData) (key : PyData → PyData) : Prop := ds.length ≤ 100000 ∧ (∀ d ∈ ds, S [.py d] fun z => z = .py (key d)) ∧ AllAlike (ds.map key) ∧ Sortable (ds.map key) ∧ ∀ d ∈ ds, (key d).depth ≤ 50
theorem ee_sortKS (F : KeyF i x S) (hm : i.mg "sorted" = none) (h : EE i e ρ fun y => ∃ ds key, (y = .py (.list ds) ∨ y = .py (.tuple ds)) ∧ SortAsk S ds key ∧ Φ (.py (.list (ds.mergeSort (dataLe false key))))) (hg : GlS i.sc "sorted" := by rfl) (hgx : GlS i.sc x := by rfl) (hdb : (x == ("__debug__" : Str)) = false := by decide)
    (he : ∀ env, backTo pos (starEach [e] env) = (false, eval e env) :: backTo pos (starEach [] env) := by intro _; rfl) (he1 : ∀ env, starEach [e] env = (false, eval e env) :: starEach [] env := by intro _; rfl) (hpl : ∀ env, (backTo pos (starEach [e] env)).any (·.1) = false := by intro _; rfl)
    (hall : ∀ env, (backToKw pos (keywordEach [⟨some "key", .Name x p2, kp⟩] env)).all (·.1.isSome) = true := by intro _; rfl) (hnone : ∀ env, (backToKw pos (keywordEach [⟨some "key", .Name x p2, kp⟩] env)).any (·.1.isNone) = false := by intro _; rfl)
    (hks : ∀ env, (backToKw pos (keywordEach [⟨some "key", .Name x p2, kp⟩] env)).filterMap (·.1) = [Str.ofString "key"] := by intro _; rfl) : EE i (.Call (.Name "sorted" p) [e] [⟨some "key", .Name x p2, kp⟩] pos) ρ Φ := fun σ Hf H Q hρ ex q => by
  obtain ⟨k, f, fd, ps, hk, F, hx, hb⟩ := F.ex
  refine ⟨fun X ok pins s I => ?_⟩
  have hc : CallRK X (.builtin "sorted") [Str.ofString "key"] (fun vs zs H2 Q2 => ∃ a ws ds key Hf2, vs = [V.ref a] ∧ zs = [V.ref f] ∧ Ex Hf2 H2 ∧ (SqL X.K Hf2 a ws ∨ SqT X.K Hf2 a ws) ∧ DpAll X.K Hf2 ws ds ∧ SortAsk S ds key ∧ ∀ p Hf' H', Tr Hf2 H2 Hf' H' → Dp X.K Hf' (.ref p) (.list (ds.mergeSort (dataLe false key))) → Q2 (.ref p) H') := by
    intro pins s σ H2 vs zs us ws' Q2 I2 rv rz hr
    obtain ⟨a, ws, ds, key, Hf2, rfl, rfl, e2, h1, d1, ⟨hz, hT, hal, hsk, hdp⟩, q2⟩ := hr
    obtain rfl := Vals.ref1 rv
    obtain ⟨w1, rfl, e1⟩ := vals1 rz
    obtain rfl : w1 = Value.ref f := e1
    refine sorted_run (key := key) (kz := fun d => PySem.W.keyToks (key d)) I2 e2 h1 d1 hz (fun d hd => keyTurn_of ok hk F hb (hT d hd)) (fun s' H' Hf' ks kA I' e' rk da => ?_) q2
    obtain ⟨as, ra⟩ := Dp.readsAll I' _ _ _ (dpAll_mono e' da) rk
    have er : EachIs (fun v d => ∃ as, Reads s'.heap v d as) kA (ds.map key) := by
      have := PySem.W.readsAll_each (h := s'.heap) (fun d : PyData => d) (vs := kA) (bs := ds.map key) (as := as) (by rw [List.map_id']; exact ra)
      exact this
    refine ⟨(dataKind s'.heap (ds.map key)).keyOf, SortsAt.data er hal hsk (fun d hd => ?_), PySem.W.each_of_map key (PySem.W.each_keys hal er)⟩
    obtain ⟨d0, hd0, rfl⟩ := List.mem_map.mp hd
    have h1 := hdp d0 hd0
    have h2 := ok.room.un
    show X.A.units + 1 + 1 + (key d0).depth < cLine
    omega
  refine (pe_callBK hc (ok.gl hg) (ok.mgN hm) (by decide +kernel) (AX.pa (i := i) ok) (KX.pk (i := i) ok) (by decide) (by decide) (he _) (hpl _) (hall _) (hnone _) (hks _)).run pins s σ H Q I ?_
  refine ax_cons (h σ Hf H _ hρ ex fun v d Hf1 H1 t1 r1 φ => ax_nil ?_) he1
  obtain ⟨ds, key, ey, hA, φ⟩ := φ
  obtain ⟨a, ws, rfl, h1, d1⟩ : ∃ a ws, v = .ref a ∧ (SqL i.K Hf1 a ws ∨ SqT i.K Hf1 a ws) ∧ DpAll i.K Hf1 ws ds := by
    rcases ey with rfl | rfl
    · obtain ⟨a, ws, e1, h1, d1⟩ := dp_lst r1
      exact ⟨a, ws, e1, .inl h1, d1⟩
    · obtain ⟨a, ws, e1, h1, d1⟩ := dp_tup r1
      exact ⟨a, ws, e1, .inr h1, d1⟩
  refine kx_cons (ex_glob (v := .ref f) hgx hx rfl (kx_nil ?_) hdb)
  exact ⟨a, ws, ds, key, Hf1, rfl, rfl, t1.i, by rw [ok.K]; exact h1, by rw [ok.K]; exact d1, hA, fun p Hf2 H2 t2 r2 => q _ _ Hf2 H2 (t1.trans t2) (rpy (by rw [← ok.K]; exact r2)) φ⟩
theorem ee_sortK (F : KeyF i x S) (hm : i.mg "sorted" = none) (h : EE i e ρ fun y => ∃ ds key, y = .py (.list ds) ∧ SortAsk S ds key ∧ Φ (.py (.list (ds.mergeSort (dataLe false key))))) (hg : GlS i.sc "sorted" := by rfl) (hgx : GlS i.sc x := by rfl) (hdb : (x == ("__debug__" : Str)) = false := by decide)
    (he : ∀ env, backTo pos (starEach [e] env) = (false, eval e env) :: backTo pos (starEach [] env) := by intro _; rfl) (he1 : ∀ env, starEach [e] env = (false, eval e env) :: starEach [] env := by intro _; rfl) (hpl : ∀ env, (backTo pos (starEach [e] env)).any (·.1) = false := by intro _; rfl)
    (hall : ∀ env, (backToKw pos (keywordEach [⟨some "key", .Name x p2, kp⟩] env)).all (·.1.isSome) = true := by intro _; rfl) (hnone : ∀ env, (backToKw pos (keywordEach [⟨some "key", .Name x p2, kp⟩] env)).any (·.1.isNone) = false := by intro _; rfl)
    (hks : ∀ env, (backToKw pos (keywordEach [⟨some "key", .Name x p2, kp⟩] env)).filterMap (·.1) = [Str.ofString "key"] := by intro _; rfl) : EE i (.Call (.Name "sorted" p) [e] [⟨some "key", .Name x p2, kp⟩] pos) ρ Φ :=
  ee_sortKS F hm (h.imp fun y ⟨ds, key, e1, h1⟩ => ⟨ds, key, .inl e1, h1⟩) hg hgx hdb he he1 hpl hall hnone hks
end
end Fq
/-! FqK: dicts whose keys are tuples, nested ones too. -/
namespace Fq
open PySem PySem.Spec PyProof.Rows L2 Evl

mutual
/-- data as a key -/
def nk : PyData → NestedKey
  | .none => .none
  | .bool b => .num (if b = true then 1 else 0)
  | .int n => .num n
  | .str x => .text x
  | .tuple xs => .tup (nks xs)
  | .list _ => .none
  | .dict _ => .none
def nks : List PyData → List NestedKey
  | [] => []
  | x :: xs => nk x :: nks xs
end
mutual
/-- data that hash -/
def hashy : PyData → Bool
  | .none => true
  | .bool _ => true
  | .int _ => true
  | .str _ => true
  | .tuple xs => hashyAll xs
  | .list _ => false
  | .dict _ => false
def hashyAll : List PyData → Bool
  | [] => true
  | x :: xs => hashy x && hashyAll xs
end
mutual
theorem nest_of {h : Heap} : ∀ (d : PyData) (v : Value) (as : List Addr), Reads h v d as → hashy d = true → NestedIs h (nk d) v
  | .none, _, _, r, _ => by
    cases r
    exact .none
  | .bool b, _, _, r, _ => by
    cases r
    exact .bool rfl
  | .int n, _, _, r, _ => by
    cases r with
    | int _ t => exact .int n t
  | .str x, _, _, r, _ => by
    cases r with
    | str _ t => exact .text x t
  | .tuple xs, _, _, r, q => by
    cases r with
    | tuple h1 h2 h3 h4 =>
      unfold hashy at q
      exact .tup h1 h2 h3 (nest_all xs _ _ h4 q)
  | .list _, _, _, _, q => by
    unfold hashy at q
    cases q
  | .dict _, _, _, _, q => by
    unfold hashy at q
    cases q
theorem nest_all {h : Heap} : ∀ (ds : List PyData) (vs : List Value) (as : List Addr), ReadsAll h vs ds as → hashyAll ds = true → NestedAll h (nks ds) vs
  | [], _, _, r, _ => by
    cases r
    exact .nil
  | d :: ds, _, _, r, q => by
    cases r with
    | cons r1 r2 =>
      unfold hashyAll at q
      rw [Bool.and_eq_true] at q
      exact .cons (nest_of d _ _ r1 q.1) (nest_all ds _ _ r2 q.2)
end

/-! ### the object -/
abbrev NE := List (NestedKey × Addr × V)
abbrev NR : NE → List (NestedKey × Addr × Value) → Prop := Paired fun p q => p.1 = q.1 ∧ p.2.1 = q.2.1 ∧ RelV p.2.2 q.2.2
/-- a dict of the entries es stands at a -/
def ndIs (P : Program) (w : World) (a : Addr) (es : NE) (h : Heap) : Prop := (a == sysModules) = false ∧ es.length ≤ sizeLine ∧ ∃ xs o ees ep, NR es xs ∧ h.get? a = some o ∧ o.ExactDict ∧ o.data = .dict ees ep ∧ ees.toList = xs.map (entryOfKey (nestedKind P w)) ∧ (xs.map (·.1)).Nodup
def ndO (P : Program) (w : World) (a : Addr) (es : NE) : HO := .ext (ndIs P w a es)
theorem ndIs.stay {P : Program} {w : World} {a : Addr} {es : NE} {h1 h2 : Heap} (x : ndIs P w a es h1) (k : ∀ o, h1.get? a = some o → h2.get? a = some o) : ndIs P w a es h2 := by
  obtain ⟨z, hz, xs, o, ees, ep, r, ho, c, d, e, n⟩ := x
  exact ⟨z, hz, xs, o, ees, ep, r, k _ ho, c, d, e, n⟩
theorem ndIs.ok {P : Program} {w : World} {H : Hp} {a : Addr} {es : NE} {h : Heap} (x : ndIs P w a es h) : ObjOk P w H h a (ndO P w a es) := by
  obtain ⟨z, hz, xs, o, ees, ep, r, ho, q⟩ := id x
  exact ⟨x, ⟨o, ho⟩, fun h1 h2 y k => y.stay k⟩
/-- a key stands -/
def KeyAt (K : PySem.W.Frag) (H : Hp) (k : NestedKey) (b : Addr) : Prop := ∃ d, Dp K H (.ref b) d ∧ hashy d = true ∧ nk d = k ∧ k.depth ≤ 8
theorem KeyAt.mono {K : PySem.W.Frag} {H H' : Hp} {k : NestedKey} {b : Addr} (e : Ex H H') (h : KeyAt K H k b) : KeyAt K H' k b := by
  obtain ⟨d, h1, h2⟩ := h
  exact ⟨d, dp_mono e h1, h2⟩
section
variable {X : Cx} {pins : List (Addr × Obj)} {σ : L2.St} {H : Hp} {s : Shared} {a b : Addr} {es : NE} {k : NestedKey}
theorem KeyAt.is (I : Inv X pins σ H s) (h : KeyAt X.K H k b) : (nestedKind X.prog X.w).is s.heap k b := by
  obtain ⟨d, h1, h2, h3, h4⟩ := h
  obtain ⟨as, r⟩ := Dp.reads I d (.ref b) (.ref b) h1 rfl
  rw [← h3]
  exact ⟨nest_of d _ _ r h2, by rw [h3]; exact h4⟩
theorem nr_key {es : NE} {xs : List (NestedKey × Addr × Value)} (r : NR es xs) : ∀ x ∈ xs, ∃ y ∈ es, y.1 = x.1 ∧ y.2.1 = x.2.1 := by
  induction r with
  | nil =>
    intro x hx
    cases hx
  | @cons p q ps qs h _ ih =>
    intro x hx
    rcases List.mem_cons.mp hx with rfl | hx
    · exact ⟨p, List.mem_cons_self .., h.1, h.2.1⟩
    · obtain ⟨y, hy, e⟩ := ih x hx
      exact ⟨y, List.mem_cons_of_mem _ hy, e⟩
theorem nr_len {es : NE} {xs : List (NestedKey × Addr × Value)} (r : NR es xs) : es.length = xs.length := Paired.length r
/-- as the kit's rules want it -/
theorem nd_at (I : Inv X pins σ H s) (h : H a = some (ndO X.prog X.w a es)) (hk : ∀ x ∈ es, KeyAt X.K H x.1 x.2.1) : (a == sysModules) = false ∧ ∃ xs, NR es xs ∧ s.heap.DictOfH (nestedKind X.prog X.w) a xs ∧ xs.length ≤ sizeLine := by
  obtain ⟨x, _⟩ := I.hok a _ h
  obtain ⟨z, hz, xs, o, ees, ep, r, ho, c, d, e, n⟩ := x
  refine ⟨z, xs, r, ⟨o, ees, ep, ho, c, d, e, fun x hx => ?_, n⟩, by rw [← nr_len r]; exact hz⟩
  obtain ⟨y, hy, e1, e2⟩ := nr_key r x hx
  rw [← e1, ← e2]
  exact (hk y hy).is I
theorem nd_back {xs : List (NestedKey × Addr × Value)} {h : Heap} (z : (a == sysModules) = false) (hz : es.length ≤ sizeLine) (r : NR es xs) (dd : h.DictOfH (nestedKind X.prog X.w) a xs) : ndIs X.prog X.w a es h := by
  obtain ⟨o, ees, ep, ho, c, d, e, _, n⟩ := dd
  exact ⟨z, hz, xs, o, ees, ep, r, ho, c, d, e, n⟩
/-! entries -/
def getN (es : NE) (k : NestedKey) : Option V := (es.find? fun x => decide (x.1 = k)).map (·.2.2)
def setN (k : NestedKey) (v : V) (x : NestedKey × Addr × V) : NestedKey × Addr × V := if x.1 = k then (x.1, x.2.1, v) else x
def putN (es : NE) (k : NestedKey) (b : Addr) (v : V) : NE := if (getN es k).isSome then es.map (setN k v) else es ++ [(k, b, v)]
theorem nr_get {es : NE} {xs : List (NestedKey × Addr × Value)} (r : NR es xs) (k : NestedKey) : RelO (getN es k) ((atKey xs k).map (·.2)) := by
  induction r with
  | nil => trivial
  | @cons p q ps qs h _ ih =>
    unfold getN atKey
    rw [List.find?_cons, List.find?_cons]
    by_cases e : p.1 = k
    · have e2 : q.1 = k := h.1 ▸ e
      rw [decide_eq_true e, decide_eq_true e2]
      exact h.2.2
    · have e2 : ¬ q.1 = k := fun z => e (h.1.trans z)
      rw [decide_eq_false e, decide_eq_false e2]
      exact ih
theorem nr_map {es : NE} {xs : List (NestedKey × Addr × Value)} {v : V} {u : Value} (r : NR es xs) (k : NestedKey) (rv : RelV v u) : NR (es.map (setN k v)) (xs.map (putAt k u)) := by
  induction r with
  | nil => exact .nil
  | @cons p q ps qs h _ ih =>
    rw [List.map_cons, List.map_cons]
    refine .cons ?_ ih
    unfold setN putAt
    by_cases e : p.1 = k
    · rw [if_pos e, if_pos (h.1 ▸ e)]
      exact ⟨h.1, h.2.1, rv⟩
    · rw [if_neg e, if_neg fun z => e (h.1.trans z)]
      exact h
theorem nr_app {es fs : NE} {xs ys : List (NestedKey × Addr × Value)} (r : NR es xs) (t : NR fs ys) : NR (es ++ fs) (xs ++ ys) := by
  induction r with
  | nil => exact t
  | cons h _ ih => exact .cons h ih
theorem nr_put {es : NE} {xs : List (NestedKey × Addr × Value)} {v : V} {u : Value} (r : NR es xs) (k : NestedKey) (b : Addr) (rv : RelV v u) : NR (putN es k b v) (storedH xs k b u) := by
  have g := nr_get r k
  unfold putN storedH
  cases e1 : getN es k with
  | none =>
    rw [e1] at g
    cases e2 : atKey xs k with
    | none =>
      rw [if_neg (by decide), if_neg (by decide)]
      exact nr_app r (.cons ⟨rfl, rfl, rv⟩ .nil)
    | some p =>
      rw [e2] at g
      exact g.elim
  | some x =>
    rw [e1] at g
    cases e2 : atKey xs k with
    | none =>
      rw [e2] at g
      exact g.elim
    | some p =>
      rw [if_pos (show (some x).isSome = true from rfl), if_pos (show (some p).isSome = true from rfl)]
      exact nr_map r k rv
theorem putN_len (es : NE) (k : NestedKey) (b : Addr) (v : V) : (putN es k b v).length ≤ es.length + 1 := by
  unfold putN
  split
  · rw [List.length_map]
    omega
  · rw [List.length_append]
    exact Nat.le_refl _

theorem nd_wrote {h' : Heap} {t' : Nat} {es' : NE} {xs' : List (NestedKey × Addr × Value)} (I : Inv X pins σ H s) (h : H a = some (ndO X.prog X.w a es)) (z : (a == sysModules) = false) (hz : es'.length ≤ sizeLine) (r : NR es' xs') (dd : h'.DictOfH (nestedKind X.prog X.w) a xs') (sb : Heap.SameBut a s.heap h') :
    Inv X pins σ (upd H a (ndO X.prog X.w a es')) { s with heap := h', toks := t' } :=
  I.write (x := a) (e := a) (by rw [h]; exact True.intro) (.inl rfl) (fun b u hb q => (sb.2 b hb).trans q) (let ⟨o, _, _, ho, _⟩ := dd; ⟨o, ho⟩) (ndIs.ok (nd_back z hz r dd))
theorem nd_set {D : Addr} {v : V} {u : Value} {Q : Unit → Shared → Prop} {E : Value → Shared → Prop} (I : Inv X pins σ H s) (hu : X.A.units + 64 < cLine) (h : H D = some (ndO X.prog X.w D es)) (hk : ∀ x ∈ es, KeyAt X.K H x.1 x.2.1) (kb : KeyAt X.K H k b) (hz : es.length < sizeLine) (rv : RelV v u)
    (q : ∀ s', Inv X pins σ (upd H D (ndO X.prog X.w D (putN es k b v))) s' → Q () s') : wpAny (model X.prog X.w) X.A (dictSet D (.ref b) u) Q E s := by
  obtain ⟨z, xs, r, dd, hx⟩ := nd_at I h hk
  refine wpAny_dictSet_heap (knd := nestedKind X.prog X.w) (hsz := hx) (by show X.A.units + 8 < cLine; omega) (kb.is I) dd fun h' dd' sb => q _ (nd_wrote I h z ?_ (nr_put r k b rv) dd' sb)
  have := putN_len es k b v
  omega
theorem nd_setItem {D : Addr} {v : V} {u : Value} {Q : Unit → Shared → Prop} {E : Value → Shared → Prop} (I : Inv X pins σ H s) (hu : X.A.units + 64 < cLine) (h : H D = some (ndO X.prog X.w D es)) (hk : ∀ x ∈ es, KeyAt X.K H x.1 x.2.1) (kb : KeyAt X.K H k b) (hz : es.length < sizeLine) (rv : RelV v u)
    (q : ∀ s', Inv X pins σ (upd H D (ndO X.prog X.w D (putN es k b v))) s' → Q () s') : wpAny (model X.prog X.w) X.A (setItem (.ref D) (.ref b) u) Q E s := by
  obtain ⟨z, xs, r, dd, hx⟩ := nd_at I h hk
  refine wpAny_setItem_heap (knd := nestedKind X.prog X.w) (hsz := hx) (by show X.A.units + 1 + 8 < cLine; omega) (kb.is I) dd fun h' dd' sb => q _ (nd_wrote I h z ?_ (nr_put r k b rv) dd' sb)
  have := putN_len es k b v
  omega
theorem nd_getItem {D : Addr} {v : V} {Q : Value → Shared → Prop} {E : Value → Shared → Prop} (I : Inv X pins σ H s) (hu : X.A.units + 64 < cLine) (h : H D = some (ndO X.prog X.w D es)) (hk : ∀ x ∈ es, KeyAt X.K H x.1 x.2.1) (kb : KeyAt X.K H k b) (hg : getN es k = some v)
    (q : ∀ u s', Inv X pins σ H s' → RelV v u → Q u s') : wpAny (model X.prog X.w) X.A (getItem (.ref D) (.ref b)) Q E s := by
  obtain ⟨z, xs, r, dd, hx⟩ := nd_at I h hk
  have g := nr_get r k
  rw [hg] at g
  cases e2 : atKey xs k with
  | none =>
    rw [e2] at g
    exact g.elim
  | some p =>
    rw [e2] at g
    exact wpAny_getItem_heap (knd := nestedKind X.prog X.w) (by show X.A.units + 1 + 8 < cLine; omega) (kb.is I) dd e2 (q _ _ (I.tok _) g)

/-! ### a comprehension that makes a dict -/
/-- a kind of dict: what stands while it is empty, what an entry asks -/
structure DSpec (P : Program) (w : World) (K : PySem.W.Frag) where
  emp : Addr → HO
  put : Addr → V → V → Hp → (Hp → Prop) → Prop
  laid : ∀ (H : Hp) (h : Heap), sysModules < h.objs.size → ObjOk P w H (h.push { cls := .type "dict", data := .dict #[] }) h.objs.size (emp h.objs.size)
  run : ∀ (X : Cx), X.prog = P → X.w = w → X.K = K → X.A.units + 64 < cLine → ∀ pins σ H s D y z u r N (Q : Unit → Shared → Prop) (E : Value → Shared → Prop), Inv X pins σ H s → put D y z H N → RelV y u → RelV z r → (∀ H' s', Inv X pins σ H' s' → N H' → Q () s') → wpAny (model X.prog X.w) X.A (dictSet D u r) Q E s
/-- keys that are tuples -/
def dsN (P : Program) (w : World) (K : PySem.W.Frag) : DSpec P w K where
  emp := fun a => ndO P w a []
  put := fun D y z H N => ∃ es k b, y = .ref b ∧ H D = some (ndO P w D es) ∧ (∀ x ∈ es, KeyAt K H x.1 x.2.1) ∧ KeyAt K H k b ∧ es.length < sizeLine ∧ N (upd H D (ndO P w D (putN es k b z)))
  laid := fun H h hb => ndIs.ok ⟨beq_eq_false_iff_ne.mpr (Ne.symm (Nat.ne_of_lt hb)), Nat.zero_le _, [], _, #[], 0, .nil, Heap.get?_push_size _ rfl, ⟨rfl, rfl, rfl⟩, rfl, rfl, List.nodup_nil⟩
  run := fun X e1 e2 e3 hu pins σ H s D y z u r N Q E I ⟨es, k, b, ey, h, hk, kb, hz, n⟩ ry rz q => by
    subst e1 e2 e3 ey
    obtain rfl : u = Value.ref b := ry
    exact nd_set I hu h hk kb hz rz fun s' I' => q _ s' I' n
/-- keys that are whole numbers and texts -/
def dsK (P : Program) (w : World) (K : PySem.W.Frag) : DSpec P w K where
  emp := fun _ => .dK []
  put := fun D y z H N => ∃ kvs k, y = kV k ∧ H D = some (.dK kvs) ∧ kvs.length < sizeLine ∧ N (upd H D (.dK (putK kvs k z)))
  laid := fun H h hb => dk_empty h hb
  run := fun X e1 e2 e3 hu pins σ H s D y z u r N Q E I ⟨kvs, k, ey, h, hz, n⟩ ry rz q => by
    subst e1 e2 e3 ey
    exact d_dictSet I h hz ry rz fun s' I' => q _ s' I' n
end
section
variable {i : XI} {σ : L2.St} {H : Hp} {Q : VK} {kx vx tg iter : Expr} {ifs : List Expr} {scope : Scope} {pos : Pos} {wi : TI} {g : TG}
/-- what a dict comprehension asks: D is the dict that it makes -/
def tDcS (S : DSpec i.P i.w i.K) (wi : TI) (g : TG) (tt : TT) (tk tv : TE) (vs : List Nat) : TE := fun σ H Q => wi σ H fun J H1 => ∀ D, H1 D = none → ∃ W : Nat → Nat → Hp → Prop, (∃ m, W 0 m (upd H1 D (S.emp D))) ∧ ∀ j m H2, W j m H2 →
  (J.stop j H2 ∧ Q (.ref D) H2) ∨ (J.go j H2 ∧ ∃ Nx : Hp → Prop, (∀ H', Nx H' → ∃ m', m' < m ∧ W (j + 1) m' H') ∧ ∀ x H', J.yld j H2 x H' → g x (wipe σ vs) H' fun σ2 H3 => wipe σ2 vs = wipe σ vs ∧ tt σ2 H3 fun b H4 =>
    if b = true then tk σ2 H4 fun y H5 => tv σ2 H5 fun z H6 => S.put D y z H6 Nx else Nx H4)
theorem dc_run {use : Option (Value → Sem Unit)} {Qf : Value → Shared → Prop} {pos' : Pos} {X : Cx} {pins : List (Addr × Obj)} {s : Shared} (S : DSpec i.P i.w i.K) (own : List (Str × Nat)) (hi : ∀ X, XOk i X → PI X tg iter wi) (hg : ∀ X, XOk (i.blk scope) X → PG X tg g) (h : tDcS S wi g (IX (i.blk scope) ifs) (EX (i.blk scope) kx) (EX (i.blk scope) vx) (own.map (·.2)) σ H Q)
    (bok : blkC i.N i.sc scope own = true) (hs : ∀ env x, foldedSetIterable iter env x = pure x) (ok : XOk i X) (I : Inv X pins σ H s)
    (post : ∀ D C s' m H', Inv X pins σ H' s' → Q (.ref D) H' → s'.heap.Ns C m → FpOk X pins H' C → compPost (model X.prog X.w) X.A X.xe use Qf (.ref D) C (.ok .next) s') :
    wpAny (model X.prog X.w) X.A (comprehension (.DictComp kx vx [⟨tg, iter, ifs, 0⟩] scope pos) scope X.env pos' newDict false (eval iter X.env) use) Qf X.xe s := by
  have bk : BlkOk X.N X.env.scope scope own := by
    rw [ok.N, ok.sc]
    exact blkOk_by bok
  have nd : X.N.Nodup := by
    rw [ok.N]
    exact ok.nd
  have hfr : ∀ y ∈ scope.names, y.2 = .free → ∃ c, X.env.cells.lookup y.1 = some c := fun y hy e => (bk.free y hy e).elim (fun k => I.ok.has _ (.inl k)) fun k => I.ok.has _ (.inr k)
  refine wpAny_comprehension_free rfl (hs _) (closure_ok hfr) bk.kind (fun y hy e => by rw [bk.uniq y hy, e]) (thn ((hi X ok).run pins s σ H _ I h) fun xv s1 hx => thn hx fun itv s2 h2 => ?_)
  obtain ⟨it, fp, tn, J, H2, rfl, I2, T, st2, f2, q⟩ := h2
  refine wpAny_newObj_type (newEnv_comp ?_)
  generalize eD : s2.heap.objs.size = D
  have nD : H2 D = none := I2.hok.fresh (Nat.le_of_eq eD)
  obtain ⟨W, ⟨m0, w0⟩, turn⟩ := q D nD
  generalize e3 : ({ s2 with heap := s2.heap.push { cls := .type "dict", data := .dict #[] } } : Shared) = s3
  have hh3 : s3.heap = s2.heap.push { cls := .type "dict", data := .dict #[] } := by rw [← e3]
  have I3 : Inv X pins σ (upd H2 D (S.emp D)) s3 := by
    rw [← e3]
    refine I2.laid (t' := s2.toks) (fun b o e => Heap.get?_push_of_some _ e) (Nat.le_of_eq eD) ?_
    rw [← eD, ok.prog, ok.w]
    exact S.laid _ s2.heap I2.big
  have small : ∀ b ∈ fp, b < s2.heap.objs.size := fun b hb => Heap.lt_size (T.obj _ _ st2 b hb).choose_spec.1
  have f3 : ∀ b ∈ fp, FpOk X pins (upd H2 D (S.emp D)) b ∧ b < s3.heap.objs.size := fun b hb => by
    refine ⟨⟨?_, (f2 b hb).2⟩, ?_⟩
    · rw [upd_ne (by rw [← eD]; exact Nat.ne_of_lt (small b hb))]
      exact (f2 b hb).1
    · rw [hh3, Heap.size_push]
      exact Nat.lt_succ_of_lt (small b hb)
  have st3 : tn 0 s3.heap := T.keep _ _ _ st2 fun b _ o e => by
    rw [hh3]
    exact Heap.get?_push_of_some _ e
  have I4 := block_start I3 bk nd f3
  have okB : XOk (i.blk scope) (X.blk s3 (upd H2 D (S.emp D)) scope (compEnvC scope (cellsFrom (s3.heap.objs.size + 1) scope.names (cloFrom X.env.cells scope.names [])) s3.heap.objs.size X.env) fp) := ok.blk scope s3 _ _ _ _
  show codeAny _ _ (.compStart (.DictComp kx vx [⟨tg, iter, ifs, 0⟩] scope pos) 0 (.ref it) (.ref D) (compEnvC scope (cellsFrom (s3.heap.objs.size + 1) scope.names (cloFrom X.env.cells scope.names [])) s3.heap.objs.size X.env)) (compPost (model X.prog X.w) X.A X.xe use Qf (.ref D) s3.heap.objs.size) { s3 with heap := pushCells (s3.heap.push { cls := .type "dict", data := .dict #[] }) scope.names }
  generalize ec : compEnvC scope (cellsFrom (s3.heap.objs.size + 1) scope.names (cloFrom X.env.cells scope.names [])) s3.heap.objs.size X.env = ce at I4 okB ⊢
  have cl : ce.locals = s3.heap.objs.size := by rw [← ec]; rfl
  generalize eH : upd H2 D (S.emp D) = H3 at I3 I4 okB w0 f3
  generalize e4 : ({ s3 with heap := pushCells (s3.heap.push { cls := .type "dict", data := .dict #[] }) scope.names } : Shared) = s4 at I4 ⊢
  have st4 : tn 0 s4.heap := T.keep _ _ _ st3 fun b _ o e => by
    rw [← e4]
    exact pushCells_keeps _ _ _ _ (Heap.get?_push_of_some _ e)
  have rec' : ∀ {σ' : L2.St} {H' : Hp} {s' : Shared}, Inv (X.blk s3 H3 scope ce fp) [] σ' H' s' → (∀ b ∈ fp, H' b = none) → ∀ b ∈ fp, FpOk (X.blk s3 H3 scope ce fp) [] H' b := fun {σ' H' s'} I' n b hb =>
    ⟨n b hb, (I'.ok.exf b hb).1, I'.ok.exfs b hb, .inl hb, fun x c e => (I'.ok.exf b hb).2 x c e, fun p hp => absurd (show p ∈ ([] : List (Addr × Obj)) ++ [] from hp) (by simp)⟩
  have go : codeAny (model X.prog X.w) X.A (.compLoop (.DictComp kx vx [⟨tg, iter, ifs, 0⟩] scope pos) 0 (.ref it) (.ref D) ce) (compPost (model X.prog X.w) X.A X.xe use Qf (.ref D) s3.heap.objs.size) s4 := by
    refine compLoop_anyD (fun n s' => ∃ j H', Inv (X.blk s3 H3 scope ce fp) [] (wipe σ (own.map (·.2))) H' s' ∧ tn j s'.heap ∧ (∀ b ∈ fp, H' b = none) ∧ W j n H') ?_ m0 ⟨0, H3, I4, st4, fun b hb => (f3 b hb).1.1, w0⟩
    rintro n s5 ⟨j, H5, I5, st5, n5, w5⟩
    rcases turn j n H5 w5 with ⟨stop, fin⟩ | ⟨gos, Nx, hNx, step⟩
    · refine thnF (T.done (X.blk s3 H3 scope ce fp) rfl rfl rfl ok.calm j [] s5 _ H5 (fun _ _ => False) I5 (rec' I5 n5) st5 stop) fun r s6 ⟨er, I6⟩ => ?_
      subst er
      have I7 : Inv X pins σ H5 s6 := I3.call' (ch := fp) I6.os I6.base I6.hok I6.bare fun b hb => ⟨(f3 b hb).1.2.2.2.1, (f3 b hb).1.2.1, (f3 b hb).1.2.2.2.2.1, (f3 b hb).1.2.2.2.2.2⟩
      have nC : H5 s3.heap.objs.size = none := by
        rw [← cl]
        exact I6.free
      obtain ⟨m, hn, _⟩ := I6.loc
      have hn' : s6.heap.Ns s3.heap.objs.size m := by
        rw [← cl]
        exact hn
      exact post D s3.heap.objs.size s6 m H5 I7 fin hn' (I3.fpOk (Nat.le_refl _) nC)
    · refine thnF (T.item (X.blk s3 H3 scope ce fp) rfl rfl rfl ok.calm j [] s5 _ H5 (fun _ _ => False) I5 (rec' I5 n5) st5 gos) fun r s6 ⟨u, er, h6⟩ => ?_
      subst er
      refine thnF h6 fun _ s7 ⟨x, H7, I7, r7, y7, st7, n7⟩ => ?_
      have I7p := I7.pinned (rec' I7 n7) (T.obj _ _ st7)
      refine thnF ((hg _ okB).run _ s7 _ H7 x u _ I7p r7 (step x H7 y7)) fun _ s8 ⟨σ8, H8, I8, hw8, q8⟩ => ?_
      refine thnF (q8.run _ okB _ s8 I8) fun b s9 ⟨H9, I9, q9⟩ => ?_
      have back : ∀ {s' : Shared} {H' : Hp}, Inv (X.blk s3 H3 scope ce fp) ([] ++ pinsAt fp s7.heap) σ8 H' s' → Nx H' → ∃ m, m < n ∧ ∃ j H', Inv (X.blk s3 H3 scope ce fp) [] (wipe σ (own.map (·.2))) H' s' ∧ tn j s'.heap ∧ (∀ b ∈ fp, H' b = none) ∧ W j m H' := fun {s' H'} I' nx => by
        obtain ⟨m', hm, w'⟩ := hNx H' nx
        have kept : ∀ b ∈ fp, ∀ o, s7.heap.get? b = some o → s'.heap.get? b = some o ∧ H' b = none := fun b hb o e =>
          ⟨(I'.pin (b, o) (List.mem_append_right _ (List.mem_append_right _ (mem_pinsAt hb e)))).1, (I'.pin (b, o) (List.mem_append_right _ (List.mem_append_right _ (mem_pinsAt hb e)))).2.1⟩
        refine ⟨m', hm, j + 1, H', (I'.unpinned (pins := [])).weak (by rw [← hw8, wipe_length]) (fun j v e => ?_), T.keep _ _ _ st7 fun b hb o e => (kept b hb o e).1, fun b hb => ?_, w'⟩
        · rw [← hw8] at e
          exact (wipe_some e).1
        · obtain ⟨o, e, _⟩ := T.obj _ _ st7 b hb
          exact (kept b hb o e).2
      cases b with
      | false => exact back I9 q9
      | true =>
        refine thnF (q9.run _ okB _ s9 I9) fun ku s10 ⟨yk, H10, I10, r10, q10⟩ => ?_
        refine thnF (q10.run _ okB _ s10 I10) fun vu s11 ⟨yv, H11, I11, r11, q11⟩ => ?_
        exact S.run (X.blk s3 H3 scope ce fp) ok.prog ok.w ok.K ok.room.units _ σ8 H11 s11 D yk yv ku vu Nx _ _ I11 q11 r10 r11 fun H12 s12 I12 nx => back I12 nx
  exact codeAny_compStart_dict go (T.self X.A 0 _ _ _ st4 go)

theorem ex_dc (S : DSpec i.P i.w i.K) (own : List (Str × Nat)) (hi : ∀ X, XOk i X → PI X tg iter wi) (hg : ∀ X, XOk (i.blk scope) X → PG X tg g) (h : tDcS S wi g (IX (i.blk scope) ifs) (EX (i.blk scope) kx) (EX (i.blk scope) vx) (own.map (·.2)) σ H Q)
    (bok : blkC i.N i.sc scope own = true := by kernel_rfl) (hs : ∀ env x, foldedSetIterable iter env x = pure x := by intro _ _; rfl) : EX i (.DictComp kx vx [⟨tg, iter, ifs, 0⟩] scope pos) σ H Q := by
  refine ⟨fun X ok pins s I => ?_⟩
  rw [arm_eval_DictComp]
  refine dc_run S own hi hg h bok hs ok I fun D C s' m H' I' q hn f => ⟨m, hn, fun h'' sb => ?_⟩
  obtain ⟨g0, g1, g2, g3, g4, g5⟩ := f
  exact ⟨.ref D, H', I'.turned (t' := s'.toks) (fun b o hb e => (sb.2 b hb).trans e) g0 g1 g3 g4 g5, rfl, q⟩
/-- a comprehension that makes a dict and a name of its line -/
theorem swap_dc {gs : List Comprehension} {py : Pos} {y : Str} {l : Nat} {env : Env} (hk : env.scope.kind = .function) (hy : env.scope.names.lookup y = some .local) (hl : (py.line == pos.line) = true) (ha : (scope.names.any fun (n, k) => n == y && (k == .local || k == .cell)) = false) :
    swapsWith (.DictComp kx vx gs scope pos) (some (.Name y py)) l env = pure true := by
  have k1 : env.kindOf y = some .local := hy
  have k2 : env.blockKind = .function := by
    unfold Env.blockKind
    rw [hk]
    rfl
  unfold swapsWith
  simp only [k2, k1, ha, Expr.pos, hl]
  rfl
theorem go_setDc {x : Str} {py spos : Pos} {rest : List Stmt} {D : Ends} (j : Nat) (S : DSpec i.P i.w i.K) (own : List (Str × Nat)) (hi : ∀ X, XOk i X → PI X tg iter wi) (hg : ∀ X, XOk (i.blk scope) X → PG X tg g)
    (h : tDcS S wi g (IX (i.blk scope) ifs) (EX (i.blk scope) kx) (EX (i.blk scope) vx) (own.map (·.2)) σ H fun v H1 => GO i rest D (σ.set j (some v)) H1) (bok : blkC i.N i.sc scope own = true := by kernel_rfl) (hN : i.N[j]? = some x := by rfl) (hy : i.sc.names.lookup x = some .local := by rfl)
    (hk : i.sc.kind = .function := by rfl) (hl : (py.line == pos.line) = true := by rfl) (ha : (scope.names.any fun (n, k) => n == x && (k == .local || k == .cell)) = false := by decide +kernel)
    (hs : ∀ env x, foldedSetIterable iter env x = pure x := by intro _ _; rfl) : GO i (.Assign [.Name x py] (.DictComp kx vx [⟨tg, iter, ifs, 0⟩] scope pos) spos :: rest) D σ H := by
  have hT : ∀ X, XOk i X → PS X (.Assign [.Name x py] (.DictComp kx vx [⟨tg, iter, ifs, 0⟩] scope pos) spos) (tAsg (tDcS S wi g (IX (i.blk scope) ifs) (EX (i.blk scope) kx) (EX (i.blk scope) vx) (own.map (·.2))) (gName j)) := fun X ok => by
    refine ⟨fun pins s σ H D I h => ?_⟩
    rw [exec_Assign_Name_used _ _ _ _ (swap_dc (by rw [ok.sc]; exact hk) (by rw [ok.sc]; exact hy) hl ha)]
    refine wpAny_bind (wpAny_standAt (wpAny_bind ?_))
    show wpAny _ X.A (do let _ ← comprehension (.DictComp kx vx [⟨tg, iter, ifs, 0⟩] scope pos) scope X.env (firstIterPos [⟨tg, iter, ifs, 0⟩] pos) newDict false (eval iter X.env) (some (assign (.Name x py) X.env))) _ _ s
    have h0 : tDcS S wi g (IX (i.blk scope) ifs) (EX (i.blk scope) kx) (EX (i.blk scope) vx) (own.map (·.2)) σ H (fun x H1 => gName j x σ H1 D.nx) := h
    refine wpAny_bind (thn (dc_run (Qf := fun _ s' => SP X pins D .next s') S own hi hg h0 bok hs ok I fun L C s' m H' I' q hn f => ?_) fun _ s' hq => wpAny_pure (wpAny_pure hq))
    show wpAny _ _ (assign (.Name x py) X.env (.ref L)) _ _ _
    have nd : X.N.Nodup := by
      rw [ok.N]
      exact ok.nd
    have yl : X.env.scope.names.lookup x = some .local := by
      rw [ok.sc]
      exact hy
    refine wpAny_assign_Name (store_ok2 (v := V.ref L) I' nd (by rw [ok.N]; exact hN) (.inl yl) rfl (fun s2 I2 ⟨a, sb, ha⟩ => ?_) (.inr yl))
    obtain ⟨g0, g1, g2, g3, g4, g5⟩ := f
    have haC : C ≠ a := by
      rcases ha with z | z
      · rw [z]
        exact g1
      · exact fun e => g4 x a z e.symm
    exact ⟨m, hn.sameBut sb haC, fun h3 sb3 => ⟨_, H', I2.turned (t' := s2.toks) (fun b o hb e => (sb3.2 b hb).trans e) g0 g1 g3 g4 g5, q⟩⟩
  exact go_cons hT h
end
end Fq
/-! FqL: dicts by data. -/
namespace Fq
open PySem PySem.Spec PyProof.Rows L2 Evl
open PySem.W (EachIs)

/-- data that may be a key: a tuple of hashable data -/
structure KeyD (d : PyData) : Prop where
  tp : ∃ xs, d = .tuple xs
  hs : hashy d = true
  dp : (nk d).depth ≤ 8
abbrev DEnt (K : PySem.W.Frag) (H : Hp) (p : NestedKey × Addr × V) (q : PyData × PyData) : Prop := p.1 = nk q.1 ∧ KeyD q.1 ∧ Dp K H (.ref p.2.1) q.1 ∧ Dp K H p.2.2 q.2
abbrev DE (K : PySem.W.Frag) (H : Hp) : NE → List (PyData × PyData) → Prop := EachIs (DEnt K H)
theorem de_mono {K : PySem.W.Frag} {H H' : Hp} (e : Ex H H') {es : NE} {kvs : List (PyData × PyData)} (h : DE K H es kvs) : DE K H' es kvs := h.mono fun p q r => ⟨r.1, r.2.1, dp_mono e r.2.2.1, dp_mono e r.2.2.2⟩
theorem de_keys {K : PySem.W.Frag} {H : Hp} {es : NE} {kvs : List (PyData × PyData)} (h : DE K H es kvs) : ∀ x ∈ es, KeyAt K H x.1 x.2.1 := fun x hx => by
  obtain ⟨q, _, h1, h2, h3, _⟩ := h.left x hx
  exact ⟨q.1, h3, h2.hs, h1.symm, by rw [h1]; exact h2.dp⟩
theorem de_key {K : PySem.W.Frag} {H : Hp} {b : Addr} {d : PyData} (h : Dp K H (.ref b) d) (k : KeyD d) : KeyAt K H (nk d) b := ⟨d, h, k.hs, rfl, k.dp⟩
def getD (kvs : List (PyData × PyData)) (k : PyData) : Option PyData := (kvs.find? fun p => decide (nk p.1 = nk k)).map (·.2)
def setD (k v : PyData) (p : PyData × PyData) : PyData × PyData := if nk p.1 = nk k then (p.1, v) else p
def putD (kvs : List (PyData × PyData)) (k v : PyData) : List (PyData × PyData) := if (getD kvs k).isSome then kvs.map (setD k v) else kvs ++ [(k, v)]
theorem de_get {K : PySem.W.Frag} {H : Hp} {es : NE} {kvs : List (PyData × PyData)} (h : DE K H es kvs) (k : PyData) : (getD kvs k = none ∧ getN es (nk k) = none) ∨ ∃ v y, getD kvs k = some v ∧ getN es (nk k) = some y ∧ Dp K H y v := by
  induction h with
  | nil => exact .inl ⟨rfl, rfl⟩
  | @cons p q ps qs r _ ih =>
    unfold getD getN
    rw [List.find?_cons, List.find?_cons]
    by_cases e : nk q.1 = nk k
    · rw [decide_eq_true e, decide_eq_true (r.1.trans e)]
      exact .inr ⟨_, _, rfl, rfl, r.2.2.2⟩
    · rw [decide_eq_false e, decide_eq_false fun z => e (r.1.symm.trans z)]
      exact ih
theorem de_map {K : PySem.W.Frag} {H : Hp} {es : NE} {kvs : List (PyData × PyData)} (h : DE K H es kvs) {k v : PyData} {y : V} (hv : Dp K H y v) : DE K H (es.map (setN (nk k) y)) (kvs.map (setD k v)) := by
  induction h with
  | nil => exact .nil
  | @cons p q ps qs r _ ih =>
    rw [List.map_cons, List.map_cons]
    refine .cons ?_ ih
    unfold setN setD
    by_cases e : nk q.1 = nk k
    · rw [if_pos e, if_pos (r.1.trans e)]
      exact ⟨r.1, r.2.1, r.2.2.1, hv⟩
    · rw [if_neg e, if_neg fun z => e (r.1.symm.trans z)]
      exact r
theorem de_app {K : PySem.W.Frag} {H : Hp} {es fs : NE} {kvs ls : List (PyData × PyData)} (h : DE K H es kvs) (g : DE K H fs ls) : DE K H (es ++ fs) (kvs ++ ls) := by
  induction h with
  | nil => exact g
  | cons r _ ih => exact .cons r ih
theorem de_put {K : PySem.W.Frag} {H : Hp} {es : NE} {kvs : List (PyData × PyData)} (h : DE K H es kvs) {k v : PyData} {b : Addr} {y : V} (hk : KeyD k) (kb : Dp K H (.ref b) k) (hv : Dp K H y v) : DE K H (putN es (nk k) b y) (putD kvs k v) := by
  unfold putN putD
  rcases de_get h k with ⟨e1, e2⟩ | ⟨v0, y0, e1, e2, _⟩
  · rw [e1, e2]
    exact de_app h (.cons ⟨rfl, hk, kb, hv⟩ .nil)
  · rw [e1, e2]
    exact de_map h hv
theorem putD_len (kvs : List (PyData × PyData)) (k v : PyData) : (putD kvs k v).length ≤ kvs.length + 1 := by
  unfold putD
  split
  · rw [List.length_map]
    omega
  · rw [List.length_append]
    exact Nat.le_refl _
theorem de_len {K : PySem.W.Frag} {H : Hp} {es : NE} {kvs : List (PyData × PyData)} (h : DE K H es kvs) : es.length = kvs.length := h.length
/-- a dict as data -/
def dicD (P : Program) (w : World) (K : PySem.W.Frag) (kvs : List (PyData × PyData)) : Dt := .ob (fun H v => ∃ a es, v = .ref a ∧ H a = some (ndO P w a es) ∧ DE K H es kvs) fun H H' v e ⟨a, es, h1, h2, h3⟩ => ⟨a, es, h1, e _ _ h2, de_mono e h3⟩
/-- .. whose keys are whole numbers and texts -/
def kD : Key → PyData
  | .inl n => .int n
  | .inr x => .str x
theorem dp_k {K : PySem.W.Frag} {H : Hp} (k : Key) : Dp K H (kV k) (kD k) := by
  cases k with
  | inl n => exact Dp.int n
  | inr x => exact Dp.str x
abbrev DKE (K : PySem.W.Frag) (H : Hp) : List (Key × V) → List (Key × PyData) → Prop := EachIs fun p q => p.1 = q.1 ∧ Dp K H p.2 q.2
def dckD (K : PySem.W.Frag) (kvs : List (Key × PyData)) : Dt := .ob (fun H v => ∃ a es, v = .ref a ∧ H a = some (.dK es) ∧ DKE K H es kvs) fun H H' v e ⟨a, es, h1, h2, h3⟩ => ⟨a, es, h1, e _ _ h2, h3.mono fun p q r => ⟨r.1, dp_mono e r.2⟩⟩
def getKD (kvs : List (Key × PyData)) (k : Key) : Option PyData := (kvs.find? fun p => decide (p.1 = k)).map (·.2)
def putKD (kvs : List (Key × PyData)) (k : Key) (v : PyData) : List (Key × PyData) := if kvs.any (fun p => decide (p.1 = k)) then kvs.map (fun p => if p.1 = k then (p.1, v) else p) else kvs ++ [(k, v)]
theorem dke_any {K : PySem.W.Frag} {H : Hp} {es : List (Key × V)} {kvs : List (Key × PyData)} (h : DKE K H es kvs) (k : Key) : (es.any fun p => decide (p.1 = k)) = kvs.any fun p => decide (p.1 = k) := by
  induction h with
  | nil => rfl
  | cons r _ ih => rw [List.any_cons, List.any_cons, ih, r.1]
theorem dke_app {K : PySem.W.Frag} {H : Hp} {es fs : List (Key × V)} {kvs ls : List (Key × PyData)} (h : DKE K H es kvs) (g : DKE K H fs ls) : DKE K H (es ++ fs) (kvs ++ ls) := by
  induction h with
  | nil => exact g
  | cons r _ ih => exact .cons r ih
theorem dke_map {K : PySem.W.Frag} {H : Hp} {es : List (Key × V)} {kvs : List (Key × PyData)} (h : DKE K H es kvs) {k : Key} {v : PyData} {y : V} (hv : Dp K H y v) : DKE K H (es.map fun p => if p.1 = k then (p.1, y) else p) (kvs.map fun p => if p.1 = k then (p.1, v) else p) := by
  induction h with
  | nil => exact .nil
  | @cons p q ps qs r _ ih =>
    rw [List.map_cons, List.map_cons]
    refine .cons ?_ ih
    by_cases e : q.1 = k
    · rw [if_pos e, if_pos (r.1.trans e)]
      exact ⟨r.1, hv⟩
    · rw [if_neg e, if_neg fun z => e (r.1.symm.trans z)]
      exact r
theorem dke_put {K : PySem.W.Frag} {H : Hp} {es : List (Key × V)} {kvs : List (Key × PyData)} (h : DKE K H es kvs) {k : Key} {v : PyData} {y : V} (hv : Dp K H y v) : DKE K H (putK es k y) (putKD kvs k v) := by
  unfold putK putKD
  rw [dke_any h k]
  split
  · exact dke_map h hv
  · exact dke_app h (.cons ⟨rfl, hv⟩ .nil)
theorem putKD_len (kvs : List (Key × PyData)) (k : Key) (v : PyData) : (putKD kvs k v).length ≤ kvs.length + 1 := by
  unfold putKD
  split
  · rw [List.length_map]
    omega
  · rw [List.length_append]
    exact Nat.le_refl _

/-! ### comprehensions that make dicts -/
section
variable {i : XI} {ρ : En} {Φ : Dt → Prop} {kx vx tg iter : Expr} {scope : Scope} {pos : Pos} {wi : TI} {g : TG}
/-- {k: v for target in ..}, keys tuples: the dict is ours -/
theorem dcN_run0 {Φk : List (PyData × PyData) → Prop} (own : List (Str × Nat))
    (h : ES i wi ρ fun its => ∃ (α : Type) (enc : α → Dt) (rs : List α) (kf vf : α → PyData), its = rs.map enc ∧ rs.length ≤ 40000 ∧
      (∀ a ∈ rs, KeyD (kf a) ∧ ∃ ρx, GD (i.blk scope) g (own.map (·.2)) (wipeE ρ (own.map (·.2))) ρx (enc a) ∧ EE (i.blk scope) kx ρx (fun y => y = .py (kf a)) ∧ EE (i.blk scope) vx ρx fun y => y = .py (vf a)) ∧
      Φk (rs.foldl (fun acc a => putD acc (kf a) (vf a)) []))
    {σ : L2.St} {Hf H : Hp} {Q : VK} (hρ : RpE i.K Hf σ ρ) (e : Ex Hf H) (q : ∀ D kvs Hf1 H1 Hf2 H2 es, Tr Hf H Hf1 H1 → H1 D = none → Tr Hf1 H1 Hf2 H2 → Hf2 D = none → H2 D = some (ndO i.P i.w D es) → DE i.K Hf2 es kvs → Φk kvs → Q (.ref D) H2) : tDcS (dsN i.P i.w i.K) wi g (IX (i.blk scope) []) (EX (i.blk scope) kx) (EX (i.blk scope) vx) (own.map (·.2)) σ H Q := by
  refine h σ Hf H _ hρ e fun J its Hf1 H1 t1 S ψ => ?_
  obtain ⟨α, enc, rs, kf, vf, rfl, hz, turn, fin⟩ := ψ
  intro D hD
  have hDf : Hf1 D = none := fresh_back t1.i hD
  have lr : (rs.map enc).length = rs.length := List.length_map ..
  let acc : Nat → List (PyData × PyData) := fun j => (rs.take j).foldl (fun acc a => putD acc (kf a) (vf a)) []
  have lacc : ∀ j, (acc j).length ≤ j := by
    have key : ∀ (l : List α) (a0 : List (PyData × PyData)), (l.foldl (fun acc a => putD acc (kf a) (vf a)) a0).length ≤ a0.length + l.length := by
      intro l
      induction l with
      | nil => exact fun a0 => Nat.le_refl _
      | cons x l ih =>
        intro a0
        have h1 := ih (putD a0 (kf x) (vf x))
        have h2 := putD_len a0 (kf x) (vf x)
        rw [List.foldl_cons, List.length_cons]
        omega
    intro j
    have h1 := key (rs.take j) []
    have h2 := List.length_take_le j rs
    rw [List.length_nil] at h1
    show ((rs.take j).foldl (fun acc a => putD acc (kf a) (vf a)) []).length ≤ j
    omega
  refine ⟨fun j m H => m = rs.length - j ∧ j ≤ rs.length ∧ ∃ Hf es, Tr Hf1 H1 Hf H ∧ Hf D = none ∧ H D = some (ndO i.P i.w D es) ∧ DE i.K Hf es (acc j), ⟨rs.length, rfl, Nat.zero_le _, Hf1, [], .drop t1.i hD, hDf, upd_same, .nil⟩, ?_⟩
  rintro j m H2 ⟨rfl, hj, Hf2, es, t2, d1, d2, d3⟩
  by_cases hlt : j < rs.length
  · refine .inr ⟨S.go j H2 (by rw [lr]; exact hlt) (t2.f.trans t2.i), fun H' => ∃ Hf es, Tr Hf1 H1 Hf H' ∧ Hf D = none ∧ H' D = some (ndO i.P i.w D es) ∧ DE i.K Hf es (acc (j + 1)), fun H' I' => ⟨rs.length - (j + 1), by omega, rfl, hlt, I'⟩, fun x H3 hy => ?_⟩
    obtain ⟨Hf3, d, hd, t3, r3⟩ := S.yld j H2 x H3 Hf2 (by rw [lr]; exact hlt) t2.f t2.i hy
    rw [List.getElem?_map] at hd
    obtain ⟨a, ha, rfl⟩ := Option.map_eq_some_iff.mp hd
    obtain ⟨hkd, ρx, hgd, hek, hev⟩ := turn a (List.mem_of_getElem? ha)
    have hρw : RpE i.K Hf3 (wipe σ (own.map (·.2))) (wipeE ρ (own.map (·.2))) := (hρ.mono ((t1.f.trans t2.f).trans t3.f)).wipe _
    refine hgd (wipe σ (own.map (·.2))) Hf3 H3 x _ hρw t3.i r3 fun σ2 hw hρ2 => ?_
    refine ⟨hw.trans wipe_wipe, ix_nil (iteT ?_)⟩
    refine hek σ2 Hf3 H3 _ hρ2 t3.i fun y dy Hf4 H4 t4 r4 ey => ?_
    subst ey
    refine hev σ2 Hf4 H4 _ (hρ2.mono t4.f) t4.i fun z dz Hf5 H5 t5 r5 ez => ?_
    subst ez
    have t35 := (t3.trans t4).trans t5
    have r4' : Dp i.K Hf4 y (kf a) := r4
    obtain ⟨xs, exs⟩ := hkd.tp
    rw [exs] at r4'
    obtain ⟨b, ys, rfl, _, _⟩ := dp_tup r4'
    rw [← exs] at r4'
    have d3' := de_mono t35.f d3
    have eacc : acc (j + 1) = putD (acc j) (kf a) (vf a) := by
      show (rs.take (j + 1)).foldl _ [] = _
      rw [List.take_add_one, ha, List.foldl_append]
      rfl
    have les := de_len d3
    have lj := lacc j
    refine ⟨es, nk (kf a), b, rfl, t35.h D _ d2, de_keys (de_mono t35.i d3'), de_key (dp_mono (t5.f.trans t5.i) r4') hkd, sz_lt (by omega), Hf5, putN es (nk (kf a)) b z, ?_, t35.n D _ d2 d1, upd_same, ?_⟩
    · have t25 := t2.trans t35
      refine ⟨t25.f, fun q o hq => ?_, Ex.mut t25.h hD, t25.n⟩
      rw [upd_ne (ne_of_none hq (t35.n D _ d2 d1))]
      exact t25.i q o hq
    · rw [eacc]
      exact de_put d3' hkd (dp_mono t5.f r4') r5
  · have ej : j = rs.length := by omega
    subst ej
    refine .inl ⟨by rw [← lr]; exact S.stop H2 (t2.f.trans t2.i), ?_⟩
    have efin : acc rs.length = rs.foldl (fun acc a => putD acc (kf a) (vf a)) [] := by
      show (rs.take rs.length).foldl _ [] = _
      rw [List.take_length]
    exact q D _ Hf1 H1 Hf2 H2 es t1 hD t2 d1 d2 (by rw [← efin]; exact d3) fin
/-- .. and stands for good -/
theorem dcN_run (own : List (Str × Nat))
    (h : ES i wi ρ fun its => ∃ (α : Type) (enc : α → Dt) (rs : List α) (kf vf : α → PyData), its = rs.map enc ∧ (∀ a b, enc a = enc b → a = b) ∧ rs.length ≤ 40000 ∧
      (∀ a ∈ rs, KeyD (kf a) ∧ ∃ ρx, GD (i.blk scope) g (own.map (·.2)) (wipeE ρ (own.map (·.2))) ρx (enc a) ∧ EE (i.blk scope) kx ρx (fun y => y = .py (kf a)) ∧ EE (i.blk scope) vx ρx fun y => y = .py (vf a)) ∧
      Φ (dicD i.P i.w i.K (rs.foldl (fun acc a => putD acc (kf a) (vf a)) [])))
    {σ : L2.St} {Hf H : Hp} {Q : VK} (hρ : RpE i.K Hf σ ρ) (e : Ex Hf H) (q : ∀ v d Hf' H', Tr Hf H Hf' H' → Rp i.K Hf' v d → Φ d → Q v H') : tDcS (dsN i.P i.w i.K) wi g (IX (i.blk scope) []) (EX (i.blk scope) kx) (EX (i.blk scope) vx) (own.map (·.2)) σ H Q :=
  dcN_run0 (Φk := fun kvs => Φ (dicD i.P i.w i.K kvs)) own (fun σ Hf H R hr e k => h σ Hf H R hr e fun J its Hf1 H1 t S ⟨α, enc, rs, kf, vf, e1, _, hz, turn, fin⟩ => k J its Hf1 H1 t S ⟨α, enc, rs, kf, vf, e1, hz, turn, fin⟩) hρ e fun D kvs Hf1 H1 Hf2 H2 es t1 hD t2 d1 d2 d3 fin =>
    q _ (dicD i.P i.w i.K kvs) (upd Hf2 D (ndO i.P i.w D es)) H2 (t1.trans (t2.adopt d1 d2 hD)) ⟨D, es, rfl, upd_same, de_mono (Ex.new d1) d3⟩ fin
theorem ee_dcN (own : List (Str × Nat)) (hi : ∀ X, XOk i X → PI X tg iter wi) (hg : ∀ X, XOk (i.blk scope) X → PG X tg g)
    (h : ES i wi ρ fun its => ∃ (α : Type) (enc : α → Dt) (rs : List α) (kf vf : α → PyData), its = rs.map enc ∧ (∀ a b, enc a = enc b → a = b) ∧ rs.length ≤ 40000 ∧
      (∀ a ∈ rs, KeyD (kf a) ∧ ∃ ρx, GD (i.blk scope) g (own.map (·.2)) (wipeE ρ (own.map (·.2))) ρx (enc a) ∧ EE (i.blk scope) kx ρx (fun y => y = .py (kf a)) ∧ EE (i.blk scope) vx ρx fun y => y = .py (vf a)) ∧
      Φ (dicD i.P i.w i.K (rs.foldl (fun acc a => putD acc (kf a) (vf a)) [])))
    (ok : blkC i.N i.sc scope own = true := by kernel_rfl) (hs : ∀ env x, foldedSetIterable iter env x = pure x := by intro _ _; rfl) : EE i (.DictComp kx vx [⟨tg, iter, [], 0⟩] scope pos) ρ Φ := fun σ Hf H Q hρ e q => ex_dc _ own hi hg (dcN_run own h hρ e q) ok hs
theorem bb_setDcN {x : Str} {py spos : Pos} {rest : List Stmt} {Ψ : En → Prop} {Φr : Dt → Prop} (j : Nat) (own : List (Str × Nat)) (hi : ∀ X, XOk i X → PI X tg iter wi) (hg : ∀ X, XOk (i.blk scope) X → PG X tg g)
    (h : ES i wi ρ fun its => ∃ (α : Type) (enc : α → Dt) (rs : List α) (kf vf : α → PyData), its = rs.map enc ∧ (∀ a b, enc a = enc b → a = b) ∧ rs.length ≤ 40000 ∧
      (∀ a ∈ rs, KeyD (kf a) ∧ ∃ ρx, GD (i.blk scope) g (own.map (·.2)) (wipeE ρ (own.map (·.2))) ρx (enc a) ∧ EE (i.blk scope) kx ρx (fun y => y = .py (kf a)) ∧ EE (i.blk scope) vx ρx fun y => y = .py (vf a)) ∧
      (fun d => BB i rest (ρ.set j (some d)) Ψ Φr) (dicD i.P i.w i.K (rs.foldl (fun acc a => putD acc (kf a) (vf a)) [])))
    (bok : blkC i.N i.sc scope own = true := by kernel_rfl) (hN : i.N[j]? = some x := by rfl) (hy : i.sc.names.lookup x = some .local := by rfl) (hk : i.sc.kind = .function := by rfl) (hl : (py.line == pos.line) = true := by rfl)
    (ha : (scope.names.any fun (n, k) => n == x && (k == .local || k == .cell)) = false := by decide +kernel) (hs : ∀ env x, foldedSetIterable iter env x = pure x := by intro _ _; rfl) : BB i (.Assign [.Name x py] (.DictComp kx vx [⟨tg, iter, [], 0⟩] scope pos) spos :: rest) ρ Ψ Φr := fun σ Hf H D r x qn qr =>
  go_setDc j _ own hi hg (dcN_run (Φ := fun d => BB i rest (ρ.set j (some d)) Ψ Φr) own h r x fun v d Hf1 H1 t1 r1 φ => φ (σ.set j (some v)) Hf1 H1 D ((r.mono t1.f).set r1) t1.i (fun σ' ρ' Hf' H' t2 r2 ψ => qn σ' ρ' Hf' H' (t1.trans t2) r2 ψ) fun v d Hf' H' t2 r2 φ2 => qr v d Hf' H' (t1.trans t2) r2 φ2) bok hN hy hk hl ha hs
/-- .. keys whole numbers and texts -/
theorem dcK_run (own : List (Str × Nat))
    (h : ES i wi ρ fun its => ∃ (α : Type) (enc : α → Dt) (rs : List α) (kf : α → Key) (vf : α → PyData), its = rs.map enc ∧ (∀ a b, enc a = enc b → a = b) ∧ rs.length ≤ 40000 ∧
      (∀ a ∈ rs, ∃ ρx, GD (i.blk scope) g (own.map (·.2)) (wipeE ρ (own.map (·.2))) ρx (enc a) ∧ EE (i.blk scope) kx ρx (fun y => y = .py (kD (kf a))) ∧ EE (i.blk scope) vx ρx fun y => y = .py (vf a)) ∧
      Φ (dckD i.K (rs.foldl (fun acc a => putKD acc (kf a) (vf a)) [])))
    {σ : L2.St} {Hf H : Hp} {Q : VK} (hρ : RpE i.K Hf σ ρ) (e : Ex Hf H) (q : ∀ v d Hf' H', Tr Hf H Hf' H' → Rp i.K Hf' v d → Φ d → Q v H') : tDcS (dsK i.P i.w i.K) wi g (IX (i.blk scope) []) (EX (i.blk scope) kx) (EX (i.blk scope) vx) (own.map (·.2)) σ H Q := by
  refine h σ Hf H _ hρ e fun J its Hf1 H1 t1 S ψ => ?_
  obtain ⟨α, enc, rs, kf, vf, rfl, inj, hz, turn, fin⟩ := ψ
  intro D hD
  have hDf : Hf1 D = none := fresh_back t1.i hD
  have lr : (rs.map enc).length = rs.length := List.length_map ..
  let acc : Nat → List (Key × PyData) := fun j => (rs.take j).foldl (fun acc a => putKD acc (kf a) (vf a)) []
  have lacc : ∀ j, (acc j).length ≤ j := by
    have key : ∀ (l : List α) (a0 : List (Key × PyData)), (l.foldl (fun acc a => putKD acc (kf a) (vf a)) a0).length ≤ a0.length + l.length := by
      intro l
      induction l with
      | nil => exact fun a0 => Nat.le_refl _
      | cons x l ih =>
        intro a0
        have h1 := ih (putKD a0 (kf x) (vf x))
        have h2 := putKD_len a0 (kf x) (vf x)
        rw [List.foldl_cons, List.length_cons]
        omega
    intro j
    have h1 := key (rs.take j) []
    have h2 := List.length_take_le j rs
    rw [List.length_nil] at h1
    show ((rs.take j).foldl (fun acc a => putKD acc (kf a) (vf a)) []).length ≤ j
    omega
  refine ⟨fun j m H => m = rs.length - j ∧ j ≤ rs.length ∧ ∃ Hf es, Tr Hf1 H1 Hf H ∧ Hf D = none ∧ H D = some (.dK es) ∧ DKE i.K Hf es (acc j), ⟨rs.length, rfl, Nat.zero_le _, Hf1, [], .drop t1.i hD, hDf, upd_same, .nil⟩, ?_⟩
  rintro j m H2 ⟨rfl, hj, Hf2, es, t2, d1, d2, d3⟩
  by_cases hlt : j < rs.length
  · refine .inr ⟨S.go j H2 (by rw [lr]; exact hlt) (t2.f.trans t2.i), fun H' => ∃ Hf es, Tr Hf1 H1 Hf H' ∧ Hf D = none ∧ H' D = some (.dK es) ∧ DKE i.K Hf es (acc (j + 1)), fun H' I' => ⟨rs.length - (j + 1), by omega, rfl, hlt, I'⟩, fun x H3 hy => ?_⟩
    obtain ⟨Hf3, d, hd, t3, r3⟩ := S.yld j H2 x H3 Hf2 (by rw [lr]; exact hlt) t2.f t2.i hy
    rw [List.getElem?_map] at hd
    obtain ⟨a, ha, rfl⟩ := Option.map_eq_some_iff.mp hd
    obtain ⟨ρx, hgd, hek, hev⟩ := turn a (List.mem_of_getElem? ha)
    have hρw : RpE i.K Hf3 (wipe σ (own.map (·.2))) (wipeE ρ (own.map (·.2))) := (hρ.mono ((t1.f.trans t2.f).trans t3.f)).wipe _
    refine hgd (wipe σ (own.map (·.2))) Hf3 H3 x _ hρw t3.i r3 fun σ2 hw hρ2 => ?_
    refine ⟨hw.trans wipe_wipe, ix_nil (iteT ?_)⟩
    refine hek σ2 Hf3 H3 _ hρ2 t3.i fun y dy Hf4 H4 t4 r4 ey => ?_
    subst ey
    refine hev σ2 Hf4 H4 _ (hρ2.mono t4.f) t4.i fun z dz Hf5 H5 t5 r5 ez => ?_
    subst ez
    have t35 := (t3.trans t4).trans t5
    have r4' : Dp i.K Hf4 y (kD (kf a)) := r4
    have ey : y = kV (kf a) := by
      cases hk : kf a with
      | inl n =>
        rw [hk] at r4'
        cases r4'
        rfl
      | inr n =>
        rw [hk] at r4'
        cases r4'
        rfl
    have d3' : DKE i.K Hf5 es (acc j) := d3.mono fun p q r => ⟨r.1, dp_mono t35.f r.2⟩
    have eacc : acc (j + 1) = putKD (acc j) (kf a) (vf a) := by
      show (rs.take (j + 1)).foldl _ [] = _
      rw [List.take_add_one, ha, List.foldl_append]
      rfl
    have les : es.length = (acc j).length := d3.length
    have lj := lacc j
    refine ⟨es, kf a, ey, t35.h D _ d2, sz_lt (by omega), Hf5, putK es (kf a) z, ?_, t35.n D _ d2 d1, upd_same, ?_⟩
    · have t25 := t2.trans t35
      refine ⟨t25.f, fun q o hq => ?_, Ex.mut t25.h hD, t25.n⟩
      rw [upd_ne (ne_of_none hq (t35.n D _ d2 d1))]
      exact t25.i q o hq
    · rw [eacc]
      exact dke_put d3' r5
  · have ej : j = rs.length := by omega
    subst ej
    refine .inl ⟨by rw [← lr]; exact S.stop H2 (t2.f.trans t2.i), ?_⟩
    have efin : acc rs.length = rs.foldl (fun acc a => putKD acc (kf a) (vf a)) [] := by
      show (rs.take rs.length).foldl _ [] = _
      rw [List.take_length]
    refine q _ (dckD i.K _) (upd Hf2 D (.dK es)) H2 (t1.trans (t2.adopt d1 d2 hD)) ?_ fin
    rw [← efin]
    exact ⟨D, es, rfl, upd_same, d3.mono fun p q r => ⟨r.1, dp_mono (Ex.new d1) r.2⟩⟩
theorem ee_dcK (own : List (Str × Nat)) (hi : ∀ X, XOk i X → PI X tg iter wi) (hg : ∀ X, XOk (i.blk scope) X → PG X tg g)
    (h : ES i wi ρ fun its => ∃ (α : Type) (enc : α → Dt) (rs : List α) (kf : α → Key) (vf : α → PyData), its = rs.map enc ∧ (∀ a b, enc a = enc b → a = b) ∧ rs.length ≤ 40000 ∧
      (∀ a ∈ rs, ∃ ρx, GD (i.blk scope) g (own.map (·.2)) (wipeE ρ (own.map (·.2))) ρx (enc a) ∧ EE (i.blk scope) kx ρx (fun y => y = .py (kD (kf a))) ∧ EE (i.blk scope) vx ρx fun y => y = .py (vf a)) ∧
      Φ (dckD i.K (rs.foldl (fun acc a => putKD acc (kf a) (vf a)) [])))
    (ok : blkC i.N i.sc scope own = true := by kernel_rfl) (hs : ∀ env x, foldedSetIterable iter env x = pure x := by intro _ _; rfl) : EE i (.DictComp kx vx [⟨tg, iter, [], 0⟩] scope pos) ρ Φ := fun σ Hf H Q hρ e q => ex_dc _ own hi hg (dcK_run own h hρ e q) ok hs
theorem bb_setDcK {x : Str} {py spos : Pos} {rest : List Stmt} {Ψ : En → Prop} {Φr : Dt → Prop} (j : Nat) (own : List (Str × Nat)) (hi : ∀ X, XOk i X → PI X tg iter wi) (hg : ∀ X, XOk (i.blk scope) X → PG X tg g)
    (h : ES i wi ρ fun its => ∃ (α : Type) (enc : α → Dt) (rs : List α) (kf : α → Key) (vf : α → PyData), its = rs.map enc ∧ (∀ a b, enc a = enc b → a = b) ∧ rs.length ≤ 40000 ∧
      (∀ a ∈ rs, ∃ ρx, GD (i.blk scope) g (own.map (·.2)) (wipeE ρ (own.map (·.2))) ρx (enc a) ∧ EE (i.blk scope) kx ρx (fun y => y = .py (kD (kf a))) ∧ EE (i.blk scope) vx ρx fun y => y = .py (vf a)) ∧
      (fun d => BB i rest (ρ.set j (some d)) Ψ Φr) (dckD i.K (rs.foldl (fun acc a => putKD acc (kf a) (vf a)) [])))
    (bok : blkC i.N i.sc scope own = true := by kernel_rfl) (hN : i.N[j]? = some x := by rfl) (hy : i.sc.names.lookup x = some .local := by rfl) (hk : i.sc.kind = .function := by rfl) (hl : (py.line == pos.line) = true := by rfl)
    (ha : (scope.names.any fun (n, k) => n == x && (k == .local || k == .cell)) = false := by decide +kernel) (hs : ∀ env x, foldedSetIterable iter env x = pure x := by intro _ _; rfl) : BB i (.Assign [.Name x py] (.DictComp kx vx [⟨tg, iter, [], 0⟩] scope pos) spos :: rest) ρ Ψ Φr := fun σ Hf H D r x qn qr =>
  go_setDc j _ own hi hg (dcK_run (Φ := fun d => BB i rest (ρ.set j (some d)) Ψ Φr) own h r x fun v d Hf1 H1 t1 r1 φ => φ (σ.set j (some v)) Hf1 H1 D ((r.mono t1.f).set r1) t1.i (fun σ' ρ' Hf' H' t2 r2 ψ => qn σ' ρ' Hf' H' (t1.trans t2) r2 ψ) fun v d Hf' H' t2 r2 φ2 => qr v d Hf' H' (t1.trans t2) r2 φ2) bok hN hy hk hl ha hs
end
end Fq
/-! FqN: what dicts answer: list(d), d.values(), len(d), d.get, d.setdefault, d[k]. -/
namespace Fq
open PySem PySem.Spec PyProof.Rows L2 Evl
open PySem.W (EachIs KdlSrc kdl_call kdl_hint_dict kdl_hint_values)

section
variable {prog : Program} {w : World} {d r : Addr} {ees : Array DictEntry} {ep : Nat}
theorem src_keys (lo : (d == sysModules) = false) : KdlSrc prog w "dict" d d ees.size (fun j v => ∃ hj : j < ees.size, v = ees[j].key) (fun h => h.DictRaw d ees ep) where
  type := fun _ hm => hm.typeIs
  there := fun _ ⟨_, ho, _⟩ => ⟨Heap.lt_size ho, Heap.lt_size ho⟩
  keep := fun _ _ hm hk => hm.at fun o e => hk d (.inl rfl) o e
  notList := by decide
  notTuple := by decide
  hint := fun _ _ _ _ hm hq => kdl_hint_dict hm.typeIs hq
  iter := fun _ s hh hm => ⟨_, _, (fun _ _ hq => wpAny_pyIter_dict_raw lo hm hq), Walks.rawKeys hh _ d (let ⟨_, ho, _⟩ := hm; Nat.ne_of_lt (Heap.lt_size ho)) ees ep, ⟨⟨_, Heap.get?_push_size _ rfl, rfl, rfl⟩, hm.at fun o e => Heap.get?_push_of_some _ e⟩⟩
theorem src_vals (lo : (d == sysModules) = false) : KdlSrc prog w "dict_values" r d ees.size (fun j v => ∃ hj : j < ees.size, v = ees[j].val) (fun h => h.IsValuesView r d ∧ h.DictRaw d ees ep) where
  type := fun _ hm => hm.1.typeIs
  there := fun _ ⟨⟨_, hv, _⟩, _, ho, _⟩ => ⟨Heap.lt_size hv, Heap.lt_size ho⟩
  keep := fun _ _ hm hk => ⟨let ⟨o, ho, x⟩ := hm.1; ⟨o, hk r (.inl rfl) o ho, x⟩, hm.2.at fun o e => hk d (.inr rfl) o e⟩
  notList := by decide
  notTuple := by decide
  hint := fun _ _ _ _ hm hq => kdl_hint_values hm.1.typeIs hq
  iter := fun _ s hh hm => ⟨_, _, (fun _ _ hq => wpAny_pyIter_values_raw hm.1 hm.2 hq), Walks.rawValues hh _ d (let ⟨_, ho, _⟩ := hm.2; Nat.ne_of_lt (Heap.lt_size ho)) ees ep, ⟨⟨_, Heap.get?_push_size _ rfl, rfl, rfl⟩, hm.2.at fun o e => Heap.get?_push_of_some _ e⟩⟩
end
section
variable {X : Cx} {pins : List (Addr × Obj)} {σ : L2.St} {H : Hp} {s : Shared} {a D : Addr} {es : NE} {Q : VK} {E : Value → Shared → Prop}
theorem items_list {f : DictEntry → Value} {ees : Array DictEntry} {acc : Array Value} (h : ItemsOf (fun j v => ∃ hj : j < ees.size, v = f ees[j]) acc ees.size) : acc.toList = ees.toList.map f := by
  apply List.ext_getElem
  · rw [Array.length_toList, List.length_map, Array.length_toList, h.1]
  · intro j h1 h2
    have hj : j < acc.size := by simpa using h1
    obtain ⟨hj2, e⟩ := h.2 j acc[j] (Array.getElem?_eq_getElem hj)
    simpa using e
/-- the list that list(..) makes -/
theorem list_made {acc : Array Value} {ws : List V} {h' : Heap} {tk c' : Nat} (I : Inv X pins σ H s) (k : ∀ b o, s.heap.get? b = some o → h'.get? b = some o) (hn : h'.get? s.heap.objs.size = some { cls := .type "list", dict := none, data := .seq acc c', slots := #[] }) (rv : Vals ws acc.toList) (hz : ws.length ≤ sizeLine)
    (q : ∀ p, H p = none → Q (.ref p) (upd H p (.lst ws))) : EP X pins σ Q (.ref s.heap.objs.size) { s with heap := h', toks := tk } :=
  ⟨.ref s.heap.objs.size, _, I.laid (t' := tk) (a := s.heap.objs.size) (o := .lst ws) k (Nat.le_refl _) ⟨hz, acc.toList, c', rv, by rw [Array.toArray_toList]; exact hn⟩, rfl, q _ (I.hok.fresh (Nat.le_refl _))⟩
theorem nr_keys {es : NE} {xs : List (NestedKey × Addr × Value)} (r : NR es xs) {P : Program} {w : World} : Vals (es.map fun x => V.ref x.2.1) ((xs.map (entryOfKey (nestedKind P w))).map (·.key)) := by
  induction r with
  | nil => exact .nil
  | cons h _ ih =>
    refine .cons ?_ ih
    show Value.ref _ = Value.ref _
    rw [h.2.1]
theorem nr_vals {es : NE} {xs : List (NestedKey × Addr × Value)} (r : NR es xs) {P : Program} {w : World} : Vals (es.map fun x => x.2.2) ((xs.map (entryOfKey (nestedKind P w))).map (·.val)) := by
  induction r with
  | nil => exact .nil
  | cons h _ ih => exact .cons h.2.2 ih
/-- list(d), d a dict of ours -/
theorem nd_list (I : Inv X pins σ H s) (hc : X.calm = true) (h : H D = some (ndO X.prog X.w D es)) (q : ∀ p, H p = none → Q (.ref p) (upd H p (.lst (es.map fun x => .ref x.2.1)))) : wpAny (model X.prog X.w) X.A (call (.type "list") [.ref D]) (EP X pins σ Q) E s := by
  obtain ⟨x, _⟩ := I.hok D _ h
  obtain ⟨z, hz, xs, o, ees, ep, r, ho, c, dd, e, n⟩ := x
  have hr : s.heap.DictRaw D ees ep := ⟨o, ho, c, dd⟩
  have hs : ees.size = es.length := by rw [← Array.length_toList, e, List.length_map, nr_len r]
  refine kdl_call (src_keys z) (I.ok.hd hc) hr (by rw [hs]; exact hz) fun h' tk acc' c' k hn ha => list_made I k hn ?_ (by rw [List.length_map]; exact hz) q
  rw [items_list (f := (·.key)) ha, e]
  exact nr_keys r
theorem nd_listV {v : Addr} (I : Inv X pins σ H s) (hc : X.calm = true) (h : H D = some (ndO X.prog X.w D es)) (hv : s.heap.IsValuesView v D) (q : ∀ p, H p = none → Q (.ref p) (upd H p (.lst (es.map fun x => x.2.2)))) : wpAny (model X.prog X.w) X.A (call (.type "list") [.ref v]) (EP X pins σ Q) E s := by
  obtain ⟨x, _⟩ := I.hok D _ h
  obtain ⟨z, hz, xs, o, ees, ep, r, ho, c, dd, e, n⟩ := x
  have hr : s.heap.DictRaw D ees ep := ⟨o, ho, c, dd⟩
  have hs : ees.size = es.length := by rw [← Array.length_toList, e, List.length_map, nr_len r]
  refine kdl_call (src_vals z) (I.ok.hd hc) ⟨hv, hr⟩ (by rw [hs]; exact hz) fun h' tk acc' c' k hn ha => list_made I k hn ?_ (by rw [List.length_map]; exact hz) q
  rw [items_list (f := (·.val)) ha, e]
  exact nr_vals r
theorem nd_len (I : Inv X pins σ H s) (h : H D = some (ndO X.prog X.w D es)) (q : Q (.int es.length) H) : wpAny (model X.prog X.w) X.A (call (.builtin "len") [.ref D]) (EP X pins σ Q) E s := by
  obtain ⟨x, _⟩ := I.hok D _ h
  obtain ⟨z, hz, xs, o, ees, ep, r, ho, c, dd, e, n⟩ := x
  have hr : s.heap.DictRaw D ees ep := ⟨o, ho, c, dd⟩
  have hs : ees.size = es.length := by rw [← Array.length_toList, e, List.length_map, nr_len r]
  rw [sizeLine_eq] at hz
  refine Calls.call_function_entry kind_len plain_len entry_len (args_len1 _) ?_
  unfold Builtin.«len»
  refine wpAny_bind (m := oneArg "len" _) (wpAny_pure ?_)
  refine wpAny_bind (m := callSpecial? (.ref D) (Str.ofString "__len__")) (wpAny_callSpecial?_slot (name := Str.ofString "__len__") hr.typeIs F.slot_dict_len (call_len_raw z hr ?_))
  refine wpAny_bind (wpAny_holding (wpAny_pure ?_))
  refine wpAny_bind (wpAny_letGo ?_)
  show wpAny _ _ (if ((ees.size : Nat) : Int) < 0 then _ else _) _ _ _
  rw [if_neg (by omega)]
  show wpAny _ _ (if ((ees.size : Nat) : Int) ≥ 2 ^ 63 then _ else _) _ _ _
  rw [if_neg (by omega)]
  refine wpAny_bind (wpAny_mkInt (wpAny_pure ⟨_, rfl, .int es.length, H, I.tok _, ?_, q⟩))
  rw [hs]
  exact ⟨_, rfl⟩
/-- the type of a dict of ours -/
theorem nd_type (I : Inv X pins σ H s) (h : H D = some (ndO X.prog X.w D es)) : s.TypeIs (.ref D) "dict" ∧ ∀ b, Value.ref D = .ref b → ∃ ob, s.heap.get? b = some ob ∧ ob.dict = none := by
  obtain ⟨x, _⟩ := I.hok D _ h
  obtain ⟨z, hz, xs, o, ees, ep, r, ho, c, dd, e, n⟩ := x
  refine ⟨⟨o, ho, c.1⟩, fun b hb => ?_⟩
  cases hb
  exact ⟨o, ho, c.2.1⟩
end

/-! ### methods -/
section
variable {i : XI} {σ : L2.St} {H : Hp} {Q : VK} {o e : Expr} {es : List Expr} {apos cpos : Pos} {name : Str} {id : String} {r : V → List V → Hp → VK → Prop}
theorem ex_ndm (slot : Slot "dict" name id) (hty : typeOf (.builtin id) = pure (.type "method_descriptor")) (hm : ∀ X, XOk i X → MtR X id r) (h : EX i o σ H fun x H1 => (∃ a ee, x = .ref a ∧ H1 a = some (ndO i.P i.w a ee)) ∧ AX i (e :: es) σ H1 fun vs H2 => r x vs H2 Q)
    (hbase : ∀ env, attributeBase o name env (eval o env) = eval o env := by intro _; rfl)
    (hfew : ∀ env, ((backTo cpos (starEach (e :: es) env)).all (fun x => !x.1) && (backToKw cpos (keywordEach [] env)).all (fun x => x.1.isSome) && decide ((e :: es).length + ([] : List Keyword).length + (if ([] : List Keyword).isEmpty then 0 else 1) < 30)) = true := by intro _; rfl)
    (hline : (apos.endLine == cpos.line) = true := by rfl) (hs : ∀ env, starEach (e :: es) env = (false, eval e env) :: starEach es env := by intro _; rfl) (hpl : ∀ env, (backTo cpos (starEach es env)).any (·.1) = false := by intro _; rfl) : EX i (.Call (.Attribute o name apos) (e :: es) [] cpos) σ H Q := by
  refine ⟨fun X ok pins s I => ?_⟩
  refine wpAny_Call_method_late (hbase _) (hfew _) hline rfl (thn (h.run X ok pins s I) fun v s1 ⟨x, H1, I1, r1, ⟨a, ee, ex, ha⟩, q1⟩ => ?_)
  subst ex
  obtain rfl : v = Value.ref a := r1
  rw [← ok.prog, ← ok.w] at ha
  obtain ⟨t1, t2⟩ := nd_type I1 ha
  refine ⟨"dict", id, PySem.F.plainAttrs_dict, slot, hty, t1, t2, ?_⟩
  have hA := q1.run X ok cpos pins s1 I1
  rw [hs] at hA ⊢
  refine Calls.callWith_builtin (by show (false || (backTo cpos (starEach es X.env)).any (·.1)) = false; rw [hpl] <;> rfl) (Calls.evalArgs_plain ?_)
  exact thn hA fun us s2 ⟨vs, H2, I2, r2, q2⟩ => hm X ok pins s2 σ H2 (.ref a) vs (.ref a) us Q I2 rfl r2 q2
/-- d.get(k, x), d.setdefault(k, x) -/
def rNdGet (P : Program) (w : World) (K : PySem.W.Frag) : V → List V → Hp → VK → Prop := fun x vs H Q => ∃ a es k b z, x = .ref a ∧ vs = [.ref b, z] ∧ H a = some (ndO P w a es) ∧ (∀ x ∈ es, KeyAt K H x.1 x.2.1) ∧ KeyAt K H k b ∧ Q ((getN es k).getD z) H
theorem mt_ndGet {X : Cx} (hu : X.A.units + 64 < cLine) : MtR X "dict.get" (rNdGet X.prog X.w X.K) := by
  intro pins s σ H x vs v us Q I rx rv h
  obtain ⟨a, es, k, b, z, rfl, rfl, ha, hk, kb, q⟩ := h
  obtain rfl : v = Value.ref a := rx
  obtain ⟨u1, u2, rfl, e1, e2⟩ := vals2 rv
  obtain rfl : u1 = Value.ref b := e1
  obtain ⟨z0, xs, r, dd, hx⟩ := nd_at I ha hk
  refine call_meetsIn F.slot_dict_get dd.typeIs F.entry_dict_get (F.args_dict_get_3 _ _ _) (meetsH_dict_get_default (nestedKind X.prog X.w) a b z0 u2) ⟨by show X.A.units + 1 + 8 < cLine; omega, k, xs, kb.is I, dd, ?_⟩
  exact ⟨_, H, I.tok _, (nr_get r k).getD e2, q⟩
def rNdSetd (P : Program) (w : World) (K : PySem.W.Frag) : V → List V → Hp → VK → Prop := fun x vs H Q => ∃ a es k b z, x = .ref a ∧ vs = [.ref b, z] ∧ H a = some (ndO P w a es) ∧ (∀ x ∈ es, KeyAt K H x.1 x.2.1) ∧ KeyAt K H k b ∧ es.length < sizeLine ∧
  (∀ y, getN es k = some y → Q y H) ∧ (getN es k = none → Q z (upd H a (ndO P w a (putN es k b z))))
theorem mt_ndSetd {X : Cx} (hu : X.A.units + 64 < cLine) : MtR X "dict.setdefault" (rNdSetd X.prog X.w X.K) := by
  intro pins s σ H x vs v us Q I rx rv h
  obtain ⟨a, es, k, b, z, rfl, rfl, ha, hk, kb, hz, q1, q2⟩ := h
  obtain rfl : v = Value.ref a := rx
  obtain ⟨u1, u2, rfl, e1, e2⟩ := vals2 rv
  obtain rfl : u1 = Value.ref b := e1
  obtain ⟨z0, xs, r, dd, hx⟩ := nd_at I ha hk
  have g := nr_get r k
  refine call_setdefault_heap (knd := nestedKind X.prog X.w) (by show X.A.units + 1 + 8 < cLine; omega) (kb.is I) z0 dd (fun p hp => ?_) (fun hn h' dd' sb => ?_) hx
  · rw [hp] at g
    cases e3 : getN es k with
    | none =>
      rw [e3] at g
      exact g.elim
    | some y =>
      rw [e3] at g
      exact ⟨y, H, I.tok _, g, q1 y e3⟩
  · rw [hn] at g
    cases e3 : getN es k with
    | some y =>
      rw [e3] at g
      exact g.elim
    | none =>
      refine ⟨z, _, nd_wrote I ha z0 ?_ (nr_put r k b e2) dd' sb, e2, q2 e3⟩
      have := putN_len es k b z
      omega
/-- the view of a dict's values -/
def valsO (p d : Addr) : HO := .ext fun h => h.IsValuesView p d
theorem valsO_ok {P : Program} {w : World} {H : Hp} {h : Heap} {p d : Addr} (e : h.get? p = some { cls := .type "dict_values", data := .fields #[.ref d] }) : ObjOk P w H h p (valsO p d) :=
  ⟨⟨_, e, rfl, rfl⟩, ⟨_, e⟩, fun h1 h2 x k => let ⟨o, ho, r⟩ := x; ⟨o, k o ho, r⟩⟩
theorem ex_ndvals (h : EX i o σ H fun x H1 => ∃ a ee, x = .ref a ∧ H1 a = some (ndO i.P i.w a ee) ∧ ∀ p, H1 p = none → Q (.ref p) (upd H1 p (valsO p a)))
    (hbase : ∀ env, attributeBase o "values" env (eval o env) = eval o env := by intro _; rfl) (hline : (apos.endLine == cpos.line) = true := by rfl) : EX i (.Call (.Attribute o "values" apos) [] [] cpos) σ H Q := by
  refine ⟨fun X ok pins s I => ?_⟩
  refine wpAny_Call_method0_late (hbase _) hline (thn (h.run X ok pins s I) fun v s1 ⟨x, H1, I1, r1, a, ee, ex, ha, q1⟩ => ?_)
  subst ex
  obtain rfl : v = Value.ref a := r1
  rw [← ok.prog, ← ok.w] at ha
  obtain ⟨t1, t2⟩ := nd_type I1 ha
  obtain ⟨x, _⟩ := I1.hok a _ ha
  obtain ⟨z, hz, xs, ob, ees, ep, r, ho, c, dd, e, n⟩ := x
  refine ⟨"dict", "dict.values", PySem.F.plainAttrs_dict, F.slot_dict_values, F.type_dict_values, t1, t2, Calls.callWith_builtin rfl (PySem.evalArgs_none ?_)⟩
  refine call_meetsIn F.slot_dict_values t1 F.entry_dict_values (F.args_dict_values_1 _) (meets_dict_values_raw a z) ⟨⟨ees, ep, ob, ho, c, dd⟩, ?_⟩
  exact ⟨.ref s1.heap.objs.size, upd H1 s1.heap.objs.size (valsO s1.heap.objs.size a), I1.laid (t' := s1.toks) (fun b u e => Heap.get?_push_of_some _ e) (Nat.le_refl _) (valsO_ok (Heap.get?_push_size _ rfl)), rfl, q1 _ (I1.hok.fresh (Nat.le_refl _))⟩
end
end Fq
/-! FqQ: the order of values and rows, lists without repeats. -/
namespace Fq
open PySem PySem.Spec PyProof.Rows L2 Evl
open PySem.W (EachIs dataLe dataLt keyToks keyToksAll AllAlike Sortable alike alikeAll)

/-! ### what values and rows go by -/
def keyV : Vl → PyData
  | .n i => .tuple [.int 0, .int i, .str ""]
  | .w s => .tuple [.int 1, .int 0, .str s]
def keyR (r : Row) : PyData := .list (r.map keyV)
/-- the same on data -/
def keyVD : PyData → PyData
  | .int i => .tuple [.int 0, .int i, .str ""]
  | .str s => .tuple [.int 1, .int 0, .str s]
  | d => d
def keyRD : PyData → PyData
  | .tuple xs => .list (xs.map keyVD)
  | d => d
theorem keyVD_d (v : Vl) : keyVD v.d = keyV v := by cases v <;> rfl
theorem keyRD_d (r : Row) : keyRD (rowD r) = keyR r := by
  unfold rowD keyR keyRD
  simp only [List.map_map]
  congr 1
  exact List.map_congr_left fun v _ => keyVD_d v
theorem keyV_alike (a b : Vl) : alike (keyV a) (keyV b) = true := by
  cases a <;> cases b <;> simp [keyV, alike, alikeAll]
theorem keyR_alikeAll : ∀ a b : Row, alikeAll (a.map keyV) (b.map keyV) = true
  | [], _ => by simp [alikeAll]
  | _ :: _, [] => by simp [alikeAll]
  | x :: xs, y :: ys => by
    rw [List.map_cons, List.map_cons, alikeAll, keyV_alike, keyR_alikeAll xs ys]
    rfl
theorem keyR_alike (a b : Row) : alike (keyR a) (keyR b) = true := by
  unfold keyR
  rw [alike]
  exact keyR_alikeAll a b
theorem keyV_depth (v : Vl) : (keyV v).depth = 1 := by cases v <;> simp [keyV, PyData.depth, PyData.depthAll]
theorem keyR_depth (r : Row) : (keyR r).depth ≤ 2 := by
  unfold keyR
  rw [PyData.depth]
  have : PyData.depthAll (r.map keyV) ≤ 1 := by
    induction r with
    | nil => simp [PyData.depthAll]
    | cons v r ih =>
      rw [List.map_cons, PyData.depthAll, keyV_depth]
      omega
  omega
/-! injective -/
theorem str_eq {a b : Str} (h : a.cps.toList = b.cps.toList) : a = b := PySem.W.str_of_cps h
theorem keyToksV (v : Vl) : keyToks (keyV v) = match v with
    | .n i => [.inl 1, .inl 0, .inl 1, .inl i, .inl 1, .inr ("" : Str).cps.toList, .inl 0]
    | .w s => [.inl 1, .inl 1, .inl 1, .inl 0, .inl 1, .inr s.cps.toList, .inl 0] := by
  cases v <;> simp [keyV, keyToks, keyToksAll]
theorem keyToksV_pre {a b : Vl} {l m : List (Int ⊕ List Nat)} (h : keyToks (keyV a) ++ l = keyToks (keyV b) ++ m) : a = b ∧ l = m := by
  rw [keyToksV, keyToksV] at h
  cases a <;> cases b <;> simp at h
  · exact ⟨by rw [h.1], h.2⟩
  · exact ⟨by rw [str_eq (Array.toList_inj.mpr h.1)], h.2⟩
theorem keyToksR_inj : ∀ {a b : Row}, keyToksAll (a.map keyV) = keyToksAll (b.map keyV) → a = b
  | [], [], _ => rfl
  | [], y :: ys, h => by
    rw [List.map_cons, PySem.W.toks_all_cons] at h
    simp [keyToksAll] at h
  | x :: xs, [], h => by
    rw [List.map_cons, PySem.W.toks_all_cons] at h
    simp [keyToksAll] at h
  | x :: xs, y :: ys, h => by
    rw [List.map_cons, List.map_cons, PySem.W.toks_all_cons, PySem.W.toks_all_cons] at h
    have h2 := (List.cons.inj h).2
    obtain ⟨e1, e2⟩ := keyToksV_pre h2
    rw [e1, keyToksR_inj e2]
/-! ### the orders -/
def vLt (a b : Vl) : Bool := dataLt (keyV a) (keyV b)
def rLt (a b : Row) : Bool := dataLt (keyR a) (keyR b)
structure SO {α : Type} (lt : α → α → Bool) : Prop where
  irr : ∀ a, lt a a = false
  trans : ∀ a b c, lt a b = true → lt b c = true → lt a c = true
  tot : ∀ a b, lt a b = false → lt b a = false → a = b
theorem vLt_so : SO vLt where
  irr a := PyProof.Rows.lex_irrefl (O := PyProof.Rows.itemOrd) _
  trans a b c := PyProof.Rows.lex_trans (O := PyProof.Rows.itemOrd) _ _ _
  tot a b h1 h2 := by
    have e : keyToks (keyV a) = keyToks (keyV b) := PyProof.Rows.lex_total (O := PyProof.Rows.itemOrd) _ _ h1 h2
    exact (keyToksV_pre (l := []) (m := []) (by rw [e])).1
theorem rLt_so : SO rLt where
  irr a := PyProof.Rows.lex_irrefl (O := PyProof.Rows.itemOrd) _
  trans a b c := PyProof.Rows.lex_trans (O := PyProof.Rows.itemOrd) _ _ _
  tot a b h1 h2 := by
    have e : keyToks (keyR a) = keyToks (keyR b) := PyProof.Rows.lex_total (O := PyProof.Rows.itemOrd) _ _ h1 h2
    unfold keyR at e
    rw [keyToks, keyToks] at e
    exact keyToksR_inj e
/-- sorted upwards by lt -/
def sortB {α : Type} (lt : α → α → Bool) (l : List α) : List α := l.mergeSort fun a b => !lt b a
section
variable {α : Type} {lt : α → α → Bool} (S : SO lt)
theorem sortB_perm (l : List α) : (sortB lt l).Perm l := List.mergeSort_perm ..
include S
theorem SO.asym {a b : α} (h : lt a b = true) : lt b a = false := by
  cases q : lt b a with
  | false => rfl
  | true =>
    have := S.trans a b a h q
    rw [S.irr] at this
    cases this
theorem sortB_pw (l : List α) : (sortB lt l).Pairwise fun a b => lt b a = false := by
  have h := List.pairwise_mergeSort (le := fun a b => !lt b a) (fun a b c h1 h2 => by
    simp only [Bool.not_eq_true'] at h1 h2 ⊢
    cases q : lt c a with
    | false => rfl
    | true =>
      -- c < a, not b < a, not c < b
      by_cases e : a = b
      · subst e
        rw [h2] at q
        cases q
      · have ab : lt a b = true := by
          cases w : lt a b with
          | true => rfl
          | false => exact absurd (S.tot a b w h1) e
        have := S.trans c a b q ab
        rw [h2] at this
        cases this) (fun a b => by
    cases q : lt b a with
    | false => simp
    | true => simp [S.asym q]) l
  exact h.imp fun {a b} hab => by simpa using hab
/-- strictly upwards where nothing stands twice -/
theorem sortB_lt {l : List α} (nd : l.Nodup) : (sortB lt l).Pairwise fun a b => lt a b = true := by
  have nd' : (sortB lt l).Nodup := (sortB_perm l).nodup_iff.mpr nd
  refine ((sortB_pw S l).and nd').imp fun {a b} ⟨h1, h2⟩ => ?_
  cases q : lt a b with
  | true => rfl
  | false => exact absurd (S.tot a b q h1) h2
/-- two that rise and hold the same are one -/
theorem rise_eq {l m : List α} (h1 : l.Pairwise fun a b => lt a b = true) (h2 : m.Pairwise fun a b => lt a b = true) (h : ∀ a, a ∈ l ↔ a ∈ m) : l = m := by
  induction l generalizing m with
  | nil =>
    cases m with
    | nil => rfl
    | cons y m => exact absurd ((h y).mpr (List.mem_cons_self ..)) (by simp)
  | cons x l ih =>
    cases m with
    | nil => exact absurd ((h x).mp (List.mem_cons_self ..)) (by simp)
    | cons y m =>
      obtain ⟨p1, p2⟩ := List.pairwise_cons.mp h1
      obtain ⟨q1, q2⟩ := List.pairwise_cons.mp h2
      have e : x = y := by
        rcases List.mem_cons.mp ((h x).mp (List.mem_cons_self ..)) with e | hx
        · exact e
        · rcases List.mem_cons.mp ((h y).mpr (List.mem_cons_self ..)) with e | hy
          · exact e.symm
          · have := S.asym (p1 y hy)
            rw [q1 x hx] at this
            cases this
      subst e
      rw [ih p2 q2 fun a => ?_]
      constructor
      · intro ha
        rcases List.mem_cons.mp ((h a).mp (List.mem_cons_of_mem _ ha)) with e | hm
        · subst e
          have := p1 a ha
          rw [S.irr] at this
          cases this
        · exact hm
      · intro ha
        rcases List.mem_cons.mp ((h a).mpr (List.mem_cons_of_mem _ ha)) with e | hm
        · subst e
          have := q1 a ha
          rw [S.irr] at this
          cases this
        · exact hm
theorem rise_nd {l : List α} (h : l.Pairwise fun a b => lt a b = true) : l.Nodup := h.imp fun {a b} hab e => by
  subst e
  rw [S.irr] at hab
  cases hab
theorem sortB_rise {l : List α} (h : l.Pairwise fun a b => lt a b = true) : sortB lt l = l := rise_eq S (sortB_lt S (rise_nd S h)) h fun a => (sortB_perm l).mem_iff
end
/-! ### without repeats -/
section
variable {α : Type} [DecidableEq α]
def ins (acc : List α) (a : α) : List α := if a ∈ acc then acc else acc ++ [a]
def dedup (l : List α) : List α := l.foldl ins []
theorem ins_mem {acc : List α} {a x : α} : x ∈ ins acc a ↔ x ∈ acc ∨ x = a := by
  unfold ins
  split
  · rename_i h
    constructor
    · exact .inl
    · rintro (h1 | rfl)
      · exact h1
      · exact h
  · simp
theorem ins_nd {acc : List α} {a : α} (h : acc.Nodup) : (ins acc a).Nodup := by
  unfold ins
  split
  · exact h
  · rename_i h1
    rw [List.nodup_append]
    refine ⟨h, by simp, fun x hx y hy e => ?_⟩
    rw [List.mem_singleton] at hy
    subst e hy
    exact h1 hx
theorem fold_ins (l : List α) : ∀ acc : List α, (∀ x, x ∈ l.foldl ins acc ↔ x ∈ acc ∨ x ∈ l) ∧ (acc.Nodup → (l.foldl ins acc).Nodup) := by
  induction l with
  | nil => exact fun acc => ⟨fun x => by simp, id⟩
  | cons a l ih =>
    intro acc
    obtain ⟨h1, h2⟩ := ih (ins acc a)
    refine ⟨fun x => ?_, fun h => h2 (ins_nd h)⟩
    rw [List.foldl_cons, h1, ins_mem, List.mem_cons, or_assoc]
theorem dedup_mem (l : List α) (x : α) : x ∈ dedup l ↔ x ∈ l := by
  unfold dedup
  rw [(fold_ins l []).1]
  simp
theorem dedup_nd (l : List α) : (dedup l).Nodup := (fold_ins l []).2 List.nodup_nil
theorem dedup_len (l : List α) : (dedup l).length ≤ l.length := by
  have key : ∀ (l acc : List α), (l.foldl ins acc).length ≤ acc.length + l.length := by
    intro l
    induction l with
    | nil => exact fun acc => Nat.le_refl _
    | cons a l ih =>
      intro acc
      have h1 := ih (ins acc a)
      have h2 : (ins acc a).length ≤ acc.length + 1 := by
        unfold ins
        split
        · omega
        · rw [List.length_append]
          exact Nat.le_refl _
      rw [List.foldl_cons, List.length_cons]
      omega
  have := key l []
  rw [List.length_nil, Nat.zero_add] at this
  exact this
theorem dedup_id {l : List α} (h : l.Nodup) : dedup l = l := by
  have key : ∀ (l acc : List α), (acc ++ l).Nodup → l.foldl ins acc = acc ++ l := by
    intro l
    induction l with
    | nil => intro acc _; simp
    | cons a l ih =>
      intro acc hn
      have ha : a ∉ acc := fun z => by
        rw [List.nodup_append] at hn
        exact hn.2.2 a z a (List.mem_cons_self ..) rfl
      rw [List.foldl_cons]
      have e : ins acc a = acc ++ [a] := if_neg ha
      rw [e, ih (acc ++ [a]) (by simpa using hn)]
      simp
  exact key l [] (by simpa using h)
end
/-- rows as risen gives them; values as values_risen does -/
def risenM (l : List Row) : List Row := sortB rLt (dedup l)
def vrisenM (l : List Vl) : List Vl := sortB vLt (dedup l)
abbrev RiseR (l : List Row) : Prop := l.Pairwise fun a b => rLt a b = true
abbrev RiseV (l : List Vl) : Prop := l.Pairwise fun a b => vLt a b = true
theorem risenM_rise (l : List Row) : RiseR (risenM l) := sortB_lt rLt_so (dedup_nd l)
theorem risenM_mem (l : List Row) (r : Row) : r ∈ risenM l ↔ r ∈ l := ((sortB_perm _).mem_iff).trans (dedup_mem l r)
theorem vrisenM_rise (l : List Vl) : RiseV (vrisenM l) := sortB_lt vLt_so (dedup_nd l)
theorem vrisenM_mem (l : List Vl) (r : Vl) : r ∈ vrisenM l ↔ r ∈ l := ((sortB_perm _).mem_iff).trans (dedup_mem l r)
theorem risenM_len (l : List Row) : (risenM l).length ≤ l.length := by
  unfold risenM
  rw [(sortB_perm _).length_eq]
  exact dedup_len l
theorem vrisenM_len (l : List Vl) : (vrisenM l).length ≤ l.length := by
  unfold vrisenM
  rw [(sortB_perm _).length_eq]
  exact dedup_len l
theorem risenM_id {l : List Row} (h : RiseR l) : risenM l = l := by
  unfold risenM
  rw [dedup_id (rise_nd rLt_so h), sortB_rise rLt_so h]
theorem vrisenM_id {l : List Vl} (h : RiseV l) : vrisenM l = l := by
  unfold vrisenM
  rw [dedup_id (rise_nd vLt_so h), sortB_rise vLt_so h]
/-- a sort of data by data's keys, told by the items -/
theorem sort_data {α : Type} {enc : α → PyData} {key : PyData → PyData} {kk : α → PyData} (h : ∀ a, key (enc a) = kk a) (l : List α) : (l.map enc).mergeSort (dataLe false key) = (sortB (fun a b => dataLt (kk a) (kk b)) l).map enc := by
  unfold sortB
  symm
  refine PySem.W.sort_maps enc fun a _ b _ => ?_
  rw [PySem.W.dataLe_eq]
  show (!dataLt (kk b) (kk a)) = !dataLt (key (enc b)) (key (enc a))
  rw [h, h]
end Fq
/-! FqR: more statements by data; slices. -/
namespace Fq
open PySem PySem.Spec PyProof.Rows L2 Evl
open PySem.W (EachIs)
section
variable {i : XI} {ρ : En} {Ψ : En → Prop} {Φ : Dt → Prop} {a b e : Expr} {es : List Expr} {pos p2 : Pos} {rest : List Stmt}
/-- targets = e -/
theorem bb_asg {tg : Expr} {g : TG} (vs : List Nat) (hg : ∀ X, XOk i X → PG X tg g) (h : EE i e ρ fun d => ∃ ρx, GD i g vs ρ ρx d ∧ BB i rest ρx Ψ Φ) (hs : ∀ env, swapsWithSole [tg] e pos.line env = pure false := by intro _; rfl) (hw : ∀ env, swappedStores [tg] e env = pure none := by intro _; rfl)
    (h1 : ∀ env, (assignEach [tg] env).map (·.2) = [assign tg env] := by intro _; rfl) : BB i (.Assign [tg] e pos :: rest) ρ Ψ Φ := fun σ Hf H D r x qn qr =>
  go_asg hg (h σ Hf H _ r x fun v d Hf1 H1 t1 r1 ⟨ρx, hgd, φ⟩ => hgd σ Hf1 H1 v _ (r.mono t1.f) t1.i r1 fun σ2 _ r2 => φ σ2 Hf1 H1 D r2 t1.i (fun σ' ρ' Hf' H' t2 r2 ψ => qn σ' ρ' Hf' H' (t1.trans t2) r2 ψ) fun v d Hf' H' t2 r2 φ2 => qr v d Hf' H' (t1.trans t2) r2 φ2) hs hw h1
theorem BB.imp {sts : List Stmt} {Ψ' : En → Prop} {Φ' : Dt → Prop} (h : BB i sts ρ Ψ Φ) (k : ∀ ρ', Ψ ρ' → Ψ' ρ') (k2 : ∀ d, Φ d → Φ' d) : BB i sts ρ Ψ' Φ' := fun σ Hf H D r x qn qr => h σ Hf H D r x (fun σ' ρ' Hf' H' t r' ψ => qn σ' ρ' Hf' H' t r' (k ρ' ψ)) fun v d Hf' H' t r' φ => qr v d Hf' H' t r' (k2 d φ)
end
/-! slices of what is written -/
theorem cut_from {ds : List PyData} {n : Nat} : cutD ds (some (n : Int)) none = ds.drop n := by
  unfold cutD
  rw [HT.sIx_none, HT.sIx_nat, List.take_of_length_le (by rw [List.length_drop]; omega)]
  by_cases h : n ≤ ds.length
  · rw [Nat.min_eq_left h]
  · rw [Nat.min_eq_right (by omega), List.drop_length, List.drop_of_length_le (by omega)]
theorem cut_to {ds : List PyData} {n : Nat} : cutD ds none (some (n : Int)) = ds.take n := by
  unfold cutD
  rw [HT.sIx_none, HT.sIx_nat, List.drop_zero, Nat.sub_zero]
  by_cases h : n ≤ ds.length
  · rw [Nat.min_eq_left h]
  · rw [Nat.min_eq_right (by omega), List.take_length, List.take_of_length_le (by omega)]
/-! tables, books -/
abbrev Tb := Str × Nat × List Row
def tbD (t : Tb) : PyData := .tuple [.str t.1, .int t.2.1, .tuple (t.2.2.map rowD)]
abbrev Bk := List Tb
def bkD (b : Bk) : PyData := .tuple (b.map tbD)
def bksD (bs : List Bk) : PyData := .tuple (bs.map bkD)
theorem rows_inj : ∀ {a b : List Row}, a.map rowD = b.map rowD → a = b
  | [], [], _ => rfl
  | [], _ :: _, h => nomatch h
  | _ :: _, [], h => nomatch h
  | x :: xs, y :: ys, h => by
    rw [List.map_cons, List.map_cons] at h
    obtain ⟨h1, h2⟩ := List.cons.inj h
    rw [rowD_inj x y (congrArg Dt.py h1), rows_inj h2]
theorem tbD_inj {a b : Tb} (h : tbD a = tbD b) : a = b := by
  obtain ⟨a1, a2, a3⟩ := a
  obtain ⟨b1, b2, b3⟩ := b
  unfold tbD at h
  injection h with h
  injection h with h1 h
  injection h with h2 h
  injection h with h3 _
  injection h1 with h1
  injection h2 with h2
  injection h3 with h3
  have h1 : a1 = b1 := h1
  have h2 : a2 = b2 := Int.ofNat.inj h2
  have h3 : a3 = b3 := rows_inj h3
  rw [h1, h2, h3]
theorem tbs_inj : ∀ {a b : Bk}, a.map tbD = b.map tbD → a = b
  | [], [], _ => rfl
  | [], _ :: _, h => nomatch h
  | _ :: _, [], h => nomatch h
  | x :: xs, y :: ys, h => by
    rw [List.map_cons, List.map_cons] at h
    obtain ⟨h1, h2⟩ := List.cons.inj h
    rw [tbD_inj h1, tbs_inj h2]
theorem bkD_inj {a b : Bk} (h : bkD a = bkD b) : a = b := tbs_inj (PyData.tuple.inj h)
structure OkT (t : Tb) : Prop where
  nm : Wd t.1
  lo : 1 ≤ t.2.1
  hi : t.2.1 ≤ 3
  rs : ∀ r ∈ t.2.2, OkR t.2.1 r
  up : RiseR t.2.2
  many : t.2.2.length ≤ 6
/-- names rise by code points -/
def sLt (a b : Str) : Bool := decide (a.cps.toList < b.cps.toList)
def valsOf (b : Bk) : List Vl := b.flatMap fun t => t.2.2.flatMap id
structure OkB (b : Bk) : Prop where
  lo : 1 ≤ b.length
  hi : b.length ≤ 3
  ts : ∀ t ∈ b, OkT t
  up : b.Pairwise fun s t => sLt s.1 t.1 = true
  vs : (vrisenM (valsOf b)).length ≤ 18
def headsOf (b : Bk) : List (Str × Nat) := b.map fun t => (t.1, t.2.1)
def hdD (h : Str × Nat) : PyData := .tuple [.str h.1, .int h.2]
/-- the books of a field -/
structure OkBs (bs : List Bk) : Prop where
  lo : 1 ≤ bs.length
  hi : bs.length ≤ 3
  bk : ∀ b ∈ bs, OkB b
  hd : ∀ b ∈ bs, headsOf b = headsOf (bs.headD [])
/-! neighbours -/
theorem zip_rise {α : Type} {R : α → α → Prop} : ∀ {l : List α}, l.Pairwise R → ∀ p ∈ l.zip l.tail, R p.1 p.2
  | [], _, p, hp => by simp at hp
  | [x], _, p, hp => by simp at hp
  | x :: y :: l, h, p, hp => by
    obtain ⟨h1, h2⟩ := List.pairwise_cons.mp h
    rw [List.tail_cons, List.zip_cons_cons] at hp
    rcases List.mem_cons.mp hp with rfl | hp
    · exact h1 y (List.mem_cons_self ..)
    · exact zip_rise h2 p hp
end Fq
/-! FqS: statements that change what they have made: loops over explicit heaps, stores into dicts of ours, lists that grow. -/
namespace Fq
open PySem PySem.Spec PyProof.Rows L2 Evl
open PySem.W (EachIs)

theorem RpE.less {K : PySem.W.Frag} {H : Hp} {σ : L2.St} {ρ : En} (h : RpE K H σ ρ) : ∀ vs, RpE K H σ (wipeE ρ vs)
  | [] => h
  | v :: vs => by
    refine ⟨?_, fun k e hk => ?_⟩
    · unfold wipeE
      rw [List.length_set]
      exact (RpE.less h vs).len
    · unfold wipeE at hk
      by_cases hkj : v = k
      · subst hkj
        rw [List.getElem?_set_self'] at hk
        cases q : (wipeE ρ vs)[v]? with
        | none => rw [q] at hk; cases hk
        | some z => rw [q] at hk; cases hk
      · rw [List.getElem?_set_ne hkj] at hk
        exact (RpE.less h vs).get k e hk
/-- a slot is set, of which nothing is known -/
theorem RpE.over {K : PySem.W.Frag} {H : Hp} {σ : L2.St} {ρ : En} {j : Nat} {v : V} {d : Dt} (h : RpE K H σ ρ) (r : Rp K H v d) : RpE K H (σ.set j (some v)) (ρ.set j (some d)) := h.set r
section
variable {i : XI} {ρ : En} {D : Ends} {σ : L2.St} {Hf H : Hp} {a b e o k : Expr} {es : List Expr} {pos p2 : Pos} {rest : List Stmt}
theorem gm_set {x : Str} {Φ : Dt → Prop} (j : Nat) (hρ : RpE i.K Hf σ ρ) (ex : Ex Hf H) (h : EE i e ρ Φ) (q : ∀ v d Hf1 H1, Tr Hf H Hf1 H1 → RpE i.K Hf1 (σ.set j (some v)) (ρ.set j (some d)) → Rp i.K Hf1 v d → Φ d → GO i rest D (σ.set j (some v)) H1) (hi : i.N[j]? = some x := by rfl)
    (hx : Loc i.sc x := by first | exact Or.inl rfl | exact Or.inr rfl) (hf : i.top x = true ∨ i.sc.names.lookup x = some .local := by first | exact Or.inl rfl | exact Or.inr rfl) (hs : ∀ env, swapsWith e (some (.Name x p2)) pos.line env = pure false := by intro _; rfl) : GO i (.Assign [.Name x p2] e pos :: rest) D σ H :=
  go_set j (h σ Hf H _ hρ ex fun v d Hf1 H1 t r φ => q v d Hf1 H1 t ((hρ.mono t.f).set r) r φ) hi hx hf hs
theorem gm_if {c : Expr} {th el : List Stmt} {Φ : Bool → Prop} (hρ : RpE i.K Hf σ ρ) (ex : Ex Hf H) (h : ET i c ρ Φ) (q : ∀ b Hf1 H1, Tr Hf H Hf1 H1 → Φ b → if b = true then GO i th { D with nx := GO i rest D } σ H1 else GO i el { D with nx := GO i rest D } σ H1) : GO i (.If c th el pos :: rest) D σ H :=
  go_if (h σ Hf H _ hρ ex fun b Hf1 H1 t φ => q b Hf1 H1 t φ)
theorem gm_ret {Φ : Dt → Prop} (hρ : RpE i.K Hf σ ρ) (ex : Ex Hf H) (h : EE i e ρ Φ) (q : ∀ v d Hf1 H1, Tr Hf H Hf1 H1 → Rp i.K Hf1 v d → Φ d → D.rt v H1) : GO i (.Return (some e) pos :: rest) D σ H := go_ret (h σ Hf H _ hρ ex q)
/-- d[k] = e, d a dict of ours in slot j -/
theorem go_ndput {apos : Pos} (h : EX i e σ H fun v H1 => EX i o σ H1 fun x H2 => EX i k σ H2 fun y H3 => ∃ a ee kk b, x = .ref a ∧ y = .ref b ∧ H3 a = some (ndO i.P i.w a ee) ∧ (∀ x ∈ ee, KeyAt i.K H3 x.1 x.2.1) ∧ KeyAt i.K H3 kk b ∧ ee.length < sizeLine ∧ GO i rest D σ (upd H3 a (ndO i.P i.w a (putN ee kk b v))))
    (hs : ∀ env, swapsWith e (some (.Subscript o k apos)) pos.line env = pure false := by intro _; rfl) : GO i (.Assign [.Subscript o k apos] e pos :: rest) D σ H := by
  have hT : ∀ X, XOk i X → PS X (.Assign [.Subscript o k apos] e pos) (fun D σ H => EX i e σ H fun v H1 => EX i o σ H1 fun x H2 => EX i k σ H2 fun y H3 => ∃ a ee kk b, x = .ref a ∧ y = .ref b ∧ H3 a = some (ndO i.P i.w a ee) ∧ (∀ x ∈ ee, KeyAt i.K H3 x.1 x.2.1) ∧ KeyAt i.K H3 kk b ∧ ee.length < sizeLine ∧ D.nx σ (upd H3 a (ndO i.P i.w a (putN ee kk b v)))) := fun X ok => by
    refine ⟨fun pins s σ H D I h => ?_⟩
    refine wpAny_Assign_Subscript (thn (h.run X ok pins s I) fun r s1 ⟨v, H1, I1, rv, q1⟩ => thn (q1.run X ok pins s1 I1) fun u s2 ⟨x, H2, I2, rx, q2⟩ => thn (q2.run X ok pins s2 I2) fun iv s3 ⟨y, H3, I3, ry, a, ee, kk, b, ex, ey, ha, hk, kb, hz, q3⟩ => ?_) (hs _)
    subst ex ey
    obtain rfl : u = Value.ref a := rx
    obtain rfl : iv = Value.ref b := ry
    rw [← ok.prog, ← ok.w] at ha q3
    rw [← ok.K] at kb hk
    exact nd_setItem I3 ok.room.units ha hk kb hz rv fun s4 I4 => ⟨σ, _, I4, q3⟩
  exact go_cons hT h
/-- xs.append(e) -/
theorem go_append {apos cpos : Pos} (h : EX i o σ H fun x H1 => ∃ l, x = .ref l ∧ (∃ xs, H1 l = some (.lst xs)) ∧ EX i e σ H1 fun v H2 => ∃ xs, H2 l = some (.lst xs) ∧ xs.length < sizeLine ∧ GO i rest D σ (upd H2 l (.lst (xs ++ [v]))))
    (hbase : ∀ env, attributeBase o "append" env (eval o env) = eval o env := by intro _; rfl) (hs : ∀ env, starEach [e] env = (false, eval e env) :: starEach [] env := by intro _; rfl)
    (hsw : ∀ env, swapsWith (.Call (.Attribute o "append" apos) [e] [] cpos) none pos.line env = pure false := by intro _; rfl)
    (hfew : ∀ env, ((backTo cpos (starEach [e] env)).all (fun x => !x.1) && (backToKw cpos (keywordEach [] env)).all (fun x => x.1.isSome) && decide (([e] : List Expr).length + ([] : List Keyword).length + (if ([] : List Keyword).isEmpty then 0 else 1) < 30)) = true := by intro _; rfl)
    (hline : (apos.endLine == cpos.line) = true := by rfl) : GO i (.Expr (.Call (.Attribute o "append" apos) [e] [] cpos) pos :: rest) D σ H := by
  refine go_expr ?_ hsw
  refine .mk (T := tBM i.K "list" rAppend (EX i o) (AX i [e])) (fun X ok => ?_) (h.mono fun x H1 ⟨l, ex, ⟨xs, hx⟩, he⟩ => ?_)
  · rw [← ok.K]
    exact pe_bm PySem.F.plainAttrs_list PySem.F.slot_list_append PySem.F.type_list_append mt_append (EX.pe ok) (AX.pa ok) (hbase _) (hfew _) hline (hs _) (by rfl)
  · subst ex
    refine ⟨.inl ⟨rfl, _, SqL.of hx⟩, ax_cons (he.mono fun v H2 ⟨xs2, hx2, hz, q⟩ => ax_nil ?_) hs⟩
    exact ⟨l, xs2, v, rfl, rfl, hx2, hz, q⟩
/-- what stands ahead of a turn -/
def Nxt (i : XI) (Hf1 : Hp) (ρw : En) (I : Hp → Hp → Prop) : L2.St → Hp → Prop := fun σ' H' => ∃ Hf', Ex Hf1 Hf' ∧ Ex Hf' H' ∧ RpE i.K Hf' σ' ρw ∧ I Hf' H'
/-- for target in ..: a loop over explicit heaps. I: what stands ahead of turn j, told by the part that stands for good and the whole; ρw: what the slots are known to hold there -/
theorem gm_for {tg iter : Expr} {body : List Stmt} {wi : TI} {g : TG} {Ψ : List Dt → Prop} (vs : List Nat) (hi : ∀ X, XOk i X → PI X tg iter wi) (hg : ∀ X, XOk i X → PG X tg g) (hρ : RpE i.K Hf σ ρ) (ex : Ex Hf H) (h : ES i wi ρ Ψ)
    (q : ∀ its Hf1 H1, Tr Hf H Hf1 H1 → Ψ its → ∃ (ρw : En) (I : Nat → Hp → Hp → Prop), RpE i.K Hf1 σ ρw ∧ I 0 Hf1 H1 ∧ (∀ j Hf2 H2 Hf3 H3, I j Hf2 H2 → Tr Hf2 H2 Hf3 H3 → I j Hf3 H3) ∧
      (∀ j d, its[j]? = some d → ∃ ρx, GD i g vs ρw ρx d ∧ ∀ σ2 Hf2 H2, Ex Hf1 Hf2 → Ex Hf2 H2 → RpE i.K Hf2 σ2 ρx → I j Hf2 H2 → GO i body { D with nx := Nxt i Hf1 ρw (I (j + 1)), ct := Nxt i Hf1 ρw (I (j + 1)), bk := GO i rest D } σ2 H2) ∧
      ∀ σ2 Hf2 H2, Ex Hf1 Hf2 → Ex Hf2 H2 → RpE i.K Hf2 σ2 ρw → I its.length Hf2 H2 → GO i rest D σ2 H2)
    (hs : ∀ env x, foldedSetIterable iter env x = pure x := by intro _ _; rfl) : GO i (.For tg iter body [] pos :: rest) D σ H := by
  refine go_for hi hg ?_ hs
  refine h σ Hf H _ hρ ex fun J its Hf1 H1 t1 S ψ => ?_
  obtain ⟨ρw, I, hw, h0, st, turn, fin⟩ := q its Hf1 H1 t1 ψ
  refine ⟨fun j m σ' H' => m = its.length - j ∧ j ≤ its.length ∧ Nxt i Hf1 ρw (I j) σ' H', ⟨its.length, rfl, Nat.zero_le _, Hf1, Ex.refl _, t1.i, hw, h0⟩, ?_⟩
  rintro j m σ2 H2 ⟨rfl, hj, Hf2, e1, e2, r2, I2⟩
  by_cases hlt : j < its.length
  · refine .inr ⟨S.go j H2 hlt (e1.trans e2), Nxt i Hf1 ρw (I (j + 1)), fun σ' H' n => ⟨its.length - (j + 1), by omega, rfl, hlt, n⟩, fun x H3 hy => ?_⟩
    obtain ⟨Hf3, d, hd, t3, r3⟩ := S.yld j H2 x H3 Hf2 hlt e1 e2 hy
    obtain ⟨ρx, hgd, hb⟩ := turn j d hd
    exact hgd σ2 Hf3 H3 x _ (r2.mono t3.f) t3.i r3 fun σ3 _ r4 => hb σ3 Hf3 H3 (e1.trans t3.f) t3.i r4 (st j _ _ _ _ I2 t3)
  · have ej : j = its.length := by omega
    subst ej
    exact .inl ⟨S.stop H2 (e1.trans e2), fin σ2 Hf2 H2 e1 e2 r2 I2⟩
end
end Fq
/-! FqP1: whole numbers, words, values, rows and what they go by. -/
namespace Fq
open PySem PySem.Spec PyProof.Rows L2 Evl
open RZ
open PySem.W (EachIs)

section
variable {P : Program} {w : World} {K : PySem.W.Frag} {mg : Str → Option Value} {base : Heap}
theorem gs_LETTERS (H : Hd K mg) : ∃ t, mg "LETTERS" = some (.str lettersS t) := by
  obtain ⟨h0, X, G⟩ := H.ns
  exact He.str_ok X G (H.c.fact 139 (f := .str "LETTERS" "abcdefghijklmnopqrstuvwxyz") (by kernel_rfl))
theorem ee_globStr {i : XI} {ρ : En} {Φ : Dt → Prop} {pos : Pos} {x : Str} {n : Str} (hm : ∃ t, i.mg x = some (.str n t)) (hg : GlS i.sc x) (h : Φ (.py (.str n))) (hdb : (x == ("__debug__" : Str)) = false := by decide) : EE i (.Name x pos) ρ Φ := by
  obtain ⟨t, hm⟩ := hm
  exact ee_glob (v := .str n) hg hm ⟨t, rfl⟩ (fun _ => rpy (Dp.str n)) h hdb
/-! is_whole: anything that is no dict -/
def S_is_whole : Sg := fun ds Φ => ∃ d, ds = [.py d] ∧ Φ (.py (.bool (isTy d "int" && !isTy d "bool")))
theorem p_is_whole (H : Hd K mg) : Pf P w K mg base "is_whole" 1 ["thing"] 1 S_is_whole := pf_of H q_is_whole sc_is_whole rfl fun ds Φ hl hS => by
  obtain ⟨d, rfl, φ⟩ := hS
  refine bb_ret (ee_and (ee_isi (T := "int") (fr_isinstance H) (fr_int H) boot_int kit_int (ee_var 0 rfl ⟨d, rfl, _, rfl, ?_⟩)))
  cases h : isTy d "int" with
  | false =>
    rw [h] at φ
    exact iteF φ
  | true =>
    rw [h] at φ
    exact iteT (ee_one (ee_not (ee_isi (T := "bool") (fr_isinstance H) (fr_bool H) (by decide +kernel) kit_bool (ee_var 0 rfl ⟨d, rfl, _, rfl, φ⟩))))
/-! is_word: words are, ints aren't -/
theorem each_trues {its : List Dt} {zs : List PyData} (h : EachIs (fun _ z => z = PyData.bool true) its zs) : ∃ bs : List Bool, zs = bs.map PyData.bool ∧ bs.all id = true := by
  induction h with
  | nil => exact ⟨[], rfl, rfl⟩
  | cons r _ ih =>
    obtain ⟨bs, e1, e2⟩ := ih
    exact ⟨true :: bs, by rw [r, e1]; rfl, by rw [List.all_cons, e2]; rfl⟩
def S_is_word : Sg := fun ds Φ => ∃ v : Vl, ds = [.py v.d] ∧ okV v ∧ Φ (.py (.bool (match v with | .w _ => true | .n _ => false)))
theorem p_is_word (H : Hd K mg) : Pf P w K mg base "is_word" 1 ["thing"] 1 S_is_word := pf_of H q_is_word sc_is_word rfl fun ds Φ hl hS => by
  obtain ⟨v, rfl, ok, φ⟩ := hS
  refine bb_if (et_w (ew_or (et_not (et_val (ee_isi (T := "str") (fr_isinstance H) (fr_str H) (by decide +kernel) kit_str (ee_var 0 rfl ⟨_, rfl, _, rfl, ?_⟩))))))
  cases v with
  | n m => exact iteT (iteT (bb_ret (ee_bl φ)))
  | w s =>
    have hw : Wd s := ok
    refine iteF (ew_or1 (et_not (et_chainI (fun _ _ => op_le) (fun _ _ => op_le) (ee_int ⟨1, rfl, ?_⟩))))
    refine ee_callB (fr_len H) PySem.boot_len (ea_cons (ee_var 0 rfl (ea_nil (ld_len (n := s.length) ⟨rfl, by have := hw.hi; omega⟩ ⟨_, rfl, ?_⟩))))
    have h1 := hw.lo
    have h2 := hw.hi
    rw [decide_eq_true (show (1 : Int) ≤ (s.length : Int) by omega)]
    refine iteT (ee_globInt (gi_LONGEST H) rfl ⟨8, rfl, ?_⟩)
    rw [decide_eq_true (show (s.length : Int) ≤ 8 by omega)]
    refine iteF (bb_nil ?_)
    refine bb_ret (ee_callB (fr_all H) boot_all (ea_cons (ee_lc [("sign", 1)] wx_str (gx_name 1) (es_str (ee_var 0 rfl ⟨s, rfl, ?_, ?_⟩)))))
    · rw [List.length_map, Array.length_toList]
      have : s.cps.size = s.length := rfl
      omega
    · refine ⟨fun _ => true, fun _ z => z = .bool true, fun x hx => ?_, fun zs hz => ?_⟩
      · obtain ⟨c, hc, rfl⟩ := List.mem_map.mp hx
        refine ⟨_, gd_name 1, ei_nil rfl, fun _ => ?_⟩
        refine ee_cmp (ee_var 1 rfl (ee_globStr (gs_LETTERS H) rfl (od_inS ?_))) (hm := rfl)
        rw [letter_ok (hw.az c hc)]
        exact ⟨_, rfl, rfl⟩
      · obtain ⟨bs, rfl, e⟩ := each_trues hz
        refine ea_nil (ld_all ?_)
        rw [e]
        exact φ
/-! is_value: values are -/
def S_is_value : Sg := fun ds Φ => ∃ v : Vl, ds = [.py v.d] ∧ okV v ∧ Φ (.py (.bool true))
theorem p_is_value (H : Hd K mg) : Pf P w K mg base "is_value" 2 ["thing"] 1 S_is_value := pf_of H q_is_value sc_is_value rfl fun ds Φ hl hS => by
  obtain ⟨v, rfl, ok, φ⟩ := hS
  refine bb_ret (ee_or (ee_call (p_is_word H).fnc (ea_cons (ee_var 0 rfl (ea_nil ⟨rfl, v, rfl, ok, _, rfl, ?_⟩)))))
  cases v with
  | w s => exact iteT φ
  | n m =>
    have hm : 0 ≤ m ∧ m ≤ 1000000000 := ok
    refine iteF (ee_one (ee_and (ee_call (p_is_whole H).fnc (ea_cons (ee_var 0 rfl (ea_nil ⟨rfl, _, rfl, _, rfl, ?_⟩))))))
    refine iteT (ee_one (ee_chainI (fun _ _ => op_le) (fun _ _ => op_le) (ee_int ⟨0, rfl, ee_var 0 rfl ⟨m, rfl, ?_⟩⟩)))
    rw [decide_eq_true hm.1]
    refine iteT (ee_globInt (gi_GREATEST H) rfl ⟨1000000000, rfl, ?_⟩)
    rw [decide_eq_true hm.2]
    exact φ
/-! is_row: rows are -/
def S_is_row : Sg := fun ds Φ => ∃ (r : Row) (cols : Nat), ds = [.py (rowD r)] ∧ OkR cols r ∧ Φ (.py (.bool true))
theorem p_is_row (H : Hd K mg) : Pf P w K mg base "is_row" 3 ["thing"] 1 S_is_row := pf_of H q_is_row sc_is_row rfl fun ds Φ hl hS => by
  obtain ⟨r, cols, rfl, ok, φ⟩ := hS
  have h1 := ok.lo
  have h2 := ok.hi
  have h3 := ok.len
  refine bb_ret (ee_and (ee_isi (T := "tuple") (fr_isinstance H) (fr_tuple H) boot_tuple kit_tuple (ee_var 0 rfl ⟨_, rfl, _, rfl, ?_⟩)))
  refine iteT (ee_and (ee_chainI (fun _ _ => op_le) (fun _ _ => op_le) (ee_int ⟨1, rfl, ee_callB (fr_len H) PySem.boot_len (ea_cons (ee_var 0 rfl (ea_nil (ld_len (n := cols) (d := rowD r) (by show cols = _; rw [List.length_map, h3]) ⟨_, rfl, ?_⟩))))⟩)))
  rw [decide_eq_true (show (1 : Int) ≤ (cols : Int) by omega)]
  refine iteT (ee_globInt (gi_WIDE H) rfl ⟨3, rfl, ?_⟩)
  rw [decide_eq_true (show (cols : Int) ≤ 3 by omega)]
  refine ⟨_, rfl, iteT (ee_one (ee_callB (fr_all H) boot_all (ea_cons (ee_lc [("value", 1)] wx_tup (gx_name 1) (es_tup (ee_var 0 rfl ⟨_, rfl, ?_, fun _ => true, fun _ z => z = .bool true, fun x hx => ?_, fun zs hz => ?_⟩))))))⟩
  · rw [List.length_map, List.length_map]
    omega
  · obtain ⟨y, hy, rfl⟩ := List.mem_map.mp hx
    obtain ⟨v, hv, rfl⟩ := List.mem_map.mp hy
    refine ⟨_, gd_name 1, ei_nil rfl, fun _ => ?_⟩
    exact ee_call (p_is_value H).fnc (ea_cons (ee_var 1 rfl (ea_nil ⟨rfl, v, rfl, ok.vs v hv, _, rfl, rfl⟩)))
  · obtain ⟨bs, rfl, e⟩ := each_trues hz
    refine ea_nil (ld_all ?_)
    rw [e]
    exact φ
/-! what values and rows go by -/
def S_value_key : Sg := fun ds Φ => ∃ v : Vl, ds = [.py v.d] ∧ Φ (.py (keyV v))
theorem p_value_key (H : Hd K mg) : Pf P w K mg base "value_key" 1 ["value"] 1 S_value_key := pf_of H q_value_key sc_value_key rfl fun ds Φ hl hS => by
  obtain ⟨v, rfl, φ⟩ := hS
  refine bb_if (et_val (ee_isi (T := "str") (fr_isinstance H) (fr_str H) boot_str kit_str (ee_var 0 rfl ⟨_, rfl, _, rfl, ?_⟩)))
  cases v with
  | n m => exact iteF (bb_nil (bb_ret (ee_tup (ea_cons (ee_int (ea_cons (ee_var 0 rfl (ea_cons (ee_str (ea_nil ⟨_, .cons (.cons (.cons .nil)), Nat.le_of_ble_eq_true rfl, φ⟩))))))))))
  | w s => exact iteT (bb_ret (ee_tup (ea_cons (ee_int (ea_cons (ee_int (ea_cons (ee_var 0 rfl (ea_nil ⟨_, .cons (.cons (.cons .nil)), Nat.le_of_ble_eq_true rfl, φ⟩)))))))))
def S_row_key : Sg := fun ds Φ => ∃ r : Row, ds = [.py (rowD r)] ∧ r.length ≤ 1000 ∧ Φ (.py (keyR r))
theorem p_row_key (H : Hd K mg) : Pf P w K mg base "row_key" 2 ["row"] 1 S_row_key := pf_of H q_row_key sc_row_key rfl fun ds Φ hl hS => by
  obtain ⟨r, rfl, hr, φ⟩ := hS
  refine bb_ret (ee_lcF [("value", 1)] wx_tup (gx_name 1) (es_tup (ee_var 0 rfl ⟨_, rfl, Vl, fun v => .py v.d, r, fun _ => true, keyV, by rw [List.map_map]; rfl, vlD_inj, by omega, fun v hv => ?_, ?_⟩)))
  · refine ⟨_, gd_name 1, ei_nil rfl, fun _ => ?_⟩
    exact ee_call (p_value_key H).fnc (ea_cons (ee_var 1 rfl (ea_nil ⟨rfl, v, rfl, rfl⟩)))
  · rw [filter_yes]
    exact φ
end
end Fq
/-! FqP2: rows and values in their order. -/
namespace Fq
open PySem PySem.Spec PyProof.Rows L2 Evl
open RZ
open PySem.W (EachIs AllAlike Sortable dataLe)

theorem Pf.keyF {P : Program} {w : World} {K : PySem.W.Frag} {mg : Str → Option Value} {base : Heap} {x : Str} {k : Nat} {ps : List Str} {S : Sg} (h : Pf P w K mg base x k ps 1 S) {N : List Str} {sc : Scope} {k' : Nat} {t : Str → Bool} {c : Env → Prop} (hk : k + 1 ≤ k' := by exact Nat.le_of_ble_eq_true rfl) : KeyF ⟨P, w, K, mg, base, N, sc, k', t, c⟩ x S := by
  obtain ⟨f, fd, F, m, kp, b⟩ := h.ex
  exact ⟨⟨k, f, fd, ps, hk, F, m, b⟩⟩
section
variable {i : XI} {ρ : En} {Φ : Dt → Prop}
theorem ld_list {kvs : List (PyData × PyData)} (h : Φ (.py (.list (kvs.map (·.1))))) : CallD i (.type "list") [dicD i.P i.w i.K kvs] Φ := fun X ok pins s σ Hf H vs us Q I e r rv q => by
  cases r with
  | @cons v _ _ _ r t =>
    cases t
    obtain ⟨a, es, rfl, h1, h2⟩ := r
    obtain ⟨u, rfl, ru⟩ := vals1 rv
    obtain rfl : u = Value.ref a := ru
    refine nd_list I ok.calm (by rw [ok.prog, ok.w]; exact e _ _ h1) fun p hp => q _ _ _ _ (.new e hp) (rpy (dp_lst_new ?_ (fresh_back e hp))) h
    clear h1 h
    induction h2 with
    | nil => exact .nil
    | cons r _ ih => exact .cons r.2.2.1 ih
theorem ld_listK {kvs : List (Key × PyData)} (h : Φ (.py (.list (kvs.map fun p => kD p.1)))) : CallD i (.type "list") [dckD i.K kvs] Φ := fun X ok pins s σ Hf H vs us Q I e r rv q => by
  cases r with
  | @cons v _ _ _ r t =>
    cases t
    obtain ⟨a, es, rfl, h1, h2⟩ := r
    refine call_listD ok.calm pins s σ H _ us Q I rv ⟨a, es, rfl, .inl (e _ _ h1), fun p hp => q _ _ _ _ (.new e hp) (rpy (dp_lst_new ?_ (fresh_back e hp))) h⟩
    clear h1 h
    induction h2 with
    | nil => exact .nil
    | cons r _ ih =>
      refine .cons ?_ ih
      show Dp _ _ (kV _) (kD _)
      rw [r.1]
      exact dp_k _
/-! keys of rows, of values -/
theorem nk_vl_inj {a b : Vl} (h : nk a.d = nk b.d) : a = b := by
  cases a <;> cases b <;> simp [Vl.d, nk] at h <;> rw [h]
theorem nks_inj : ∀ {a b : Row}, nks (a.map Vl.d) = nks (b.map Vl.d) → a = b
  | [], [], _ => rfl
  | [], _ :: _, h => by simp [nks] at h
  | _ :: _, [], h => by simp [nks] at h
  | x :: xs, y :: ys, h => by
    rw [List.map_cons, List.map_cons, nks, nks] at h
    obtain ⟨h1, h2⟩ := List.cons.inj h
    rw [nk_vl_inj h1, nks_inj h2]
theorem nk_row_inj {a b : Row} (h : nk (rowD a) = nk (rowD b)) : a = b := by
  unfold rowD at h
  rw [nk, nk] at h
  exact nks_inj (NestedKey.tup.inj h)
theorem hashy_vls : ∀ r : Row, hashyAll (r.map Vl.d) = true
  | [] => rfl
  | v :: r => by
    rw [List.map_cons, hashyAll, hashy_vls r]
    cases v <;> rfl
theorem nks_depth : ∀ r : Row, NestedKey.depthAll (nks (r.map Vl.d)) = 0
  | [] => by simp [nks, NestedKey.depthAll]
  | v :: r => by
    rw [List.map_cons, nks, NestedKey.depthAll, nks_depth r]
    cases v <;> simp [Vl.d, nk, NestedKey.depth]
theorem row_keyD (r : Row) : KeyD (rowD r) := ⟨⟨_, rfl⟩, by unfold rowD hashy; exact hashy_vls r, by unfold rowD; rw [nk, NestedKey.depth, nks_depth]; omega⟩
theorem getD_map {α : Type} {enc : α → PyData} {f : α → PyData} (inj : ∀ a b, nk (enc a) = nk (enc b) → a = b) [DecidableEq α] (l : List α) (x : α) : getD (l.map fun r => (enc r, f r)) (enc x) = if x ∈ l then some (f x) else none := by
  induction l with
  | nil => rfl
  | cons y l ih =>
    unfold getD at ih ⊢
    rw [List.map_cons, List.find?_cons]
    by_cases e : y = x
    · subst e
      rw [decide_eq_true rfl, if_pos (List.mem_cons_self ..)]
      rfl
    · rw [decide_eq_false fun z => e (inj _ _ z)]
      by_cases hx : x ∈ l
      · rw [if_pos hx] at ih
        rw [if_pos (List.mem_cons_of_mem _ hx)]
        exact ih
      · rw [if_neg hx] at ih
        rw [if_neg fun z => (List.mem_cons.mp z).elim (fun h => e h.symm) hx]
        exact ih
/-- {x: c for x in xs} -/
theorem putD_fold {α : Type} {enc : α → PyData} {c : PyData} (inj : ∀ a b, nk (enc a) = nk (enc b) → a = b) [DecidableEq α] (l : List α) : l.foldl (fun acc a => putD acc (enc a) c) [] = (dedup l).map fun r => (enc r, c) := by
  have key : ∀ (l acc : List α), l.foldl (fun acc a => putD acc (enc a) c) (acc.map fun r => (enc r, c)) = (l.foldl ins acc).map fun r => (enc r, c) := by
    intro l
    induction l with
    | nil => exact fun acc => rfl
    | cons a l ih =>
      intro acc
      rw [List.foldl_cons, List.foldl_cons, ← ih]
      congr 1
      unfold putD ins
      rw [getD_map (f := fun _ => c) inj]
      by_cases h : a ∈ acc
      · rw [if_pos h, if_pos h]
        show List.map _ _ = _
        rw [List.map_map]
        refine List.map_congr_left fun y _ => ?_
        show setD (enc a) c (enc y, c) = (enc y, c)
        unfold setD
        split <;> rfl
      · rw [if_neg h, if_neg h, List.map_append]
        rfl
  exact key l []
def Vl.key : Vl → Key
  | .n i => .inl i
  | .w s => .inr s
theorem vl_kD (v : Vl) : kD v.key = v.d := by cases v <;> rfl
theorem vlkey_inj {a b : Vl} (h : a.key = b.key) : a = b := by
  cases a <;> cases b <;> simp [Vl.key] at h <;> rw [h]
theorem putKD_fold {c : PyData} (l : List Vl) : l.foldl (fun acc a => putKD acc a.key c) [] = (dedup l).map fun v => (v.key, c) := by
  have key : ∀ (l acc : List Vl), l.foldl (fun acc a => putKD acc a.key c) (acc.map fun r => (r.key, c)) = (l.foldl ins acc).map fun r => (r.key, c) := by
    intro l
    induction l with
    | nil => exact fun acc => rfl
    | cons a l ih =>
      intro acc
      rw [List.foldl_cons, List.foldl_cons, ← ih]
      congr 1
      unfold putKD ins
      have e : ((acc.map fun r => (r.key, c)).any fun p => decide (p.1 = a.key)) = decide (a ∈ acc) := by
        induction acc with
        | nil => rfl
        | cons y acc ih =>
          rw [List.map_cons, List.any_cons, ih, ← Bool.decide_or]
          exact decide_eq_decide.mpr (by
            rw [List.mem_cons]
            constructor
            · rintro (h | h)
              · exact .inl (vlkey_inj h).symm
              · exact .inr h
            · rintro (h | h)
              · exact .inl (by rw [h])
              · exact .inr h)
      rw [e]
      by_cases h : a ∈ acc
      · rw [if_pos (decide_eq_true h), if_pos h, List.map_map]
        refine List.map_congr_left fun y _ => ?_
        show (if y.key = a.key then (y.key, c) else (y.key, c)) = (y.key, c)
        split <;> rfl
      · rw [if_neg (by rw [decide_eq_false h]; decide), if_neg h, List.map_append]
        rfl
  exact key l []
end

section
variable {P : Program} {w : World} {K : PySem.W.Frag} {mg : Str → Option Value} {base : Heap}
/-! value_less, row_less -/
def S_value_less : Sg := fun ds Φ => ∃ a b : Vl, ds = [.py a.d, .py b.d] ∧ Φ (.py (.bool (vLt a b)))
theorem p_value_less (H : Hd K mg) : Pf P w K mg base "value_less" 2 ["one", "other"] 2 S_value_less := pf_of H q_value_less sc_value_less rfl fun ds Φ hl hS => by
  obtain ⟨a, b, rfl, φ⟩ := hS
  refine bb_ret (ee_cmp (ee_call (p_value_key H).fnc (ea_cons (ee_var 0 rfl (ea_nil ⟨rfl, a, rfl, ?_⟩)))) (hm := rfl))
  refine ee_call (p_value_key H).fnc (ea_cons (ee_var 1 rfl (ea_nil ⟨rfl, b, rfl, ?_⟩)))
  exact od_ltA (keyV_alike a b) (by cases a <;> exact fun h => nomatch h) (by rw [keyV_depth]; omega) φ
def S_row_less : Sg := fun ds Φ => ∃ a b : Row, ds = [.py (rowD a), .py (rowD b)] ∧ a.length ≤ 1000 ∧ b.length ≤ 1000 ∧ Φ (.py (.bool (rLt a b)))
theorem p_row_less (H : Hd K mg) : Pf P w K mg base "row_less" 3 ["one", "other"] 2 S_row_less := pf_of H q_row_less sc_row_less rfl fun ds Φ hl hS => by
  obtain ⟨a, b, rfl, h1, h2, φ⟩ := hS
  refine bb_ret (ee_cmp (ee_call (p_row_key H).fnc (ea_cons (ee_var 0 rfl (ea_nil ⟨rfl, a, rfl, h1, ?_⟩)))) (hm := rfl))
  refine ee_call (p_row_key H).fnc (ea_cons (ee_var 1 rfl (ea_nil ⟨rfl, b, rfl, h2, ?_⟩)))
  exact od_ltA (keyR_alike a b) (fun h => nomatch h) (Nat.le_trans (keyR_depth a) (by omega)) φ
/-! risen -/
theorem rowsD_of {ds : List PyData} {rs : List Row} (h : ds = rs.map rowD) : ∀ d ∈ ds, ∃ r ∈ rs, d = rowD r := by
  subst h
  intro d hd
  obtain ⟨r, hr, rfl⟩ := List.mem_map.mp hd
  exact ⟨r, hr, rfl⟩
theorem row_sort {rs : List Row} (hz : rs.length ≤ 1000) (hr : ∀ r ∈ rs, r.length ≤ 1000) : SortAsk S_row_key (rs.map rowD) keyRD := by
  refine ⟨by rw [List.length_map]; omega, fun d hd => ?_, fun d hd d' hd' => ?_, .inr fun d hd => ?_, fun d hd => ?_⟩
  · obtain ⟨r, h1, rfl⟩ := List.mem_map.mp hd
    exact ⟨r, rfl, hr r h1, by rw [keyRD_d]⟩
  · obtain ⟨d1, h1, rfl⟩ := List.mem_map.mp hd
    obtain ⟨d2, h2, rfl⟩ := List.mem_map.mp hd'
    obtain ⟨r1, h1, rfl⟩ := List.mem_map.mp h1
    obtain ⟨r2, h2, rfl⟩ := List.mem_map.mp h2
    rw [keyRD_d, keyRD_d]
    exact keyR_alike r1 r2
  · obtain ⟨d1, h1, rfl⟩ := List.mem_map.mp hd
    obtain ⟨r1, h1, rfl⟩ := List.mem_map.mp h1
    rw [keyRD_d]
    exact ⟨(fun h => nomatch h), fun xs h => nomatch h⟩
  · obtain ⟨r, h1, rfl⟩ := List.mem_map.mp hd
    rw [keyRD_d]
    exact Nat.le_trans (keyR_depth r) (by omega)
def S_risen : Sg := fun ds Φ => ∃ rs : List Row, ds = [.py (.list (rs.map rowD))] ∧ rs.length ≤ 1000 ∧ (∀ r ∈ rs, r.length ≤ 1000) ∧ Φ (.py (.tuple ((risenM rs).map rowD)))
theorem p_risen (H : Hd K mg) : Pf P w K mg base "risen" 4 ["rows"] 1 S_risen := pf_of H q_risen sc_risen rfl fun ds Φ hl hS => by
  obtain ⟨rs, rfl, hz, hr, φ⟩ := hS
  refine bb_setDcN 1 [("row", 2)] wx_list (gx_name 2) (es_list (ee_var 0 rfl ⟨_, rfl, Row, fun r => .py (rowD r), rs, rowD, fun _ => .bool true, by rw [List.map_map]; rfl, rowD_inj, by omega, fun r hr => ⟨row_keyD r, _, gd_name 2, ee_var 2 rfl rfl, ee_bl rfl⟩, ?_⟩))
  rw [putD_fold fun a b => nk_row_inj]
  refine bb_ret (ee_callTy (fr_tuple H) (by decide +kernel) (ea_cons (ee_sortK (p_row_key H).keyF (fr_sorted H) (ee_callTy (fr_list H) (by decide +kernel) (ea_cons (ee_var 1 rfl (ea_nil (ld_list ⟨_, keyRD, rfl, ?_, ea_nil (ld_tuple ?_)⟩))))))))
  · rw [List.map_map]
    exact row_sort (rs := dedup rs) (Nat.le_trans (dedup_len rs) hz) fun r h => hr r ((dedup_mem rs r).mp h)
  · rw [List.map_map, show ((fun p : PyData × PyData => p.1) ∘ fun r : Row => (rowD r, PyData.bool true)) = rowD from rfl, sort_data keyRD_d]
    exact φ
/-! values_risen -/
theorem vl_sort {vs : List Vl} (hz : vs.length ≤ 1000) : SortAsk S_value_key (vs.map Vl.d) keyVD := by
  refine ⟨by rw [List.length_map]; omega, fun d hd => ?_, fun d hd d' hd' => ?_, .inl fun d hd => ?_, fun d hd => ?_⟩
  · obtain ⟨r, h1, rfl⟩ := List.mem_map.mp hd
    exact ⟨r, rfl, by rw [keyVD_d]⟩
  · obtain ⟨d1, h1, rfl⟩ := List.mem_map.mp hd
    obtain ⟨d2, h2, rfl⟩ := List.mem_map.mp hd'
    obtain ⟨r1, h1, rfl⟩ := List.mem_map.mp h1
    obtain ⟨r2, h2, rfl⟩ := List.mem_map.mp h2
    rw [keyVD_d, keyVD_d]
    exact keyV_alike r1 r2
  · obtain ⟨d1, h1, rfl⟩ := List.mem_map.mp hd
    obtain ⟨r1, h1, rfl⟩ := List.mem_map.mp h1
    rw [keyVD_d]
    cases r1 <;> exact ⟨_, _, rfl⟩
  · obtain ⟨r, h1, rfl⟩ := List.mem_map.mp hd
    rw [keyVD_d, keyV_depth]
    omega
def S_values_risen : Sg := fun ds Φ => ∃ vs : List Vl, (ds = [.py (.list (vs.map Vl.d))] ∨ ds = [.py (.tuple (vs.map Vl.d))]) ∧ vs.length ≤ 1000 ∧ Φ (.py (.tuple ((vrisenM vs).map Vl.d)))
theorem p_values_risen (H : Hd K mg) : Pf P w K mg base "values_risen" 3 ["values"] 1 S_values_risen := pf_of H q_values_risen sc_values_risen rfl fun ds Φ hl hS => by
  obtain ⟨vs, hd, hz, φ⟩ := hS
  rcases hd with rfl | rfl
  · refine bb_setDcK 1 [("value", 2)] wx_list (gx_name 2) (es_list (ee_var 0 rfl ⟨_, rfl, Vl, fun r => .py r.d, vs, Vl.key, fun _ => .bool true, by rw [List.map_map]; rfl, vlD_inj, by omega, fun r hr => ⟨_, gd_name 2, ee_var 2 rfl (by rw [vl_kD]), ee_bl rfl⟩, ?_⟩))
    rw [putKD_fold]
    refine bb_ret (ee_callTy (fr_tuple H) (by decide +kernel) (ea_cons (ee_sortK (p_value_key H).keyF (fr_sorted H) (ee_callTy (fr_list H) (by decide +kernel) (ea_cons (ee_var 1 rfl (ea_nil (ld_listK ⟨_, keyVD, rfl, ?_, ea_nil (ld_tuple ?_)⟩))))))))
    · rw [List.map_map, show ((fun p : Key × PyData => kD p.1) ∘ fun r : Vl => (r.key, PyData.bool true)) = Vl.d from funext vl_kD]
      exact vl_sort (Nat.le_trans (dedup_len vs) hz)
    · rw [List.map_map, show ((fun p : Key × PyData => kD p.1) ∘ fun r : Vl => (r.key, PyData.bool true)) = Vl.d from funext vl_kD, sort_data keyVD_d]
      exact φ
  · refine bb_setDcK 1 [("value", 2)] wx_tup (gx_name 2) (es_tup (ee_var 0 rfl ⟨_, rfl, Vl, fun r => .py r.d, vs, Vl.key, fun _ => .bool true, by rw [List.map_map]; rfl, vlD_inj, by omega, fun r hr => ⟨_, gd_name 2, ee_var 2 rfl (by rw [vl_kD]), ee_bl rfl⟩, ?_⟩))
    rw [putKD_fold]
    refine bb_ret (ee_callTy (fr_tuple H) (by decide +kernel) (ea_cons (ee_sortK (p_value_key H).keyF (fr_sorted H) (ee_callTy (fr_list H) (by decide +kernel) (ea_cons (ee_var 1 rfl (ea_nil (ld_listK ⟨_, keyVD, rfl, ?_, ea_nil (ld_tuple ?_)⟩))))))))
    · rw [List.map_map, show ((fun p : Key × PyData => kD p.1) ∘ fun r : Vl => (r.key, PyData.bool true)) = Vl.d from funext vl_kD]
      exact vl_sort (Nat.le_trans (dedup_len vs) hz)
    · rw [List.map_map, show ((fun p : Key × PyData => kD p.1) ∘ fun r : Vl => (r.key, PyData.bool true)) = Vl.d from funext vl_kD, sort_data keyVD_d]
      exact φ
end
end Fq
/-! FqP3: tables and books. -/
namespace Fq
open PySem PySem.Spec PyProof.Rows L2 Evl
open RZ
open PySem.W (EachIs AllAlike Sortable dataLe)
section
variable {P : Program} {w : World} {K : PySem.W.Frag} {mg : Str → Option Value} {base : Heap}
theorem map_trues {α : Type} (l : List α) : (l.map fun _ => PyData.bool true) = (l.map fun _ => true).map PyData.bool := by rw [List.map_map]; rfl
theorem all_trues {α : Type} (l : List α) : (l.map fun _ => true).all id = true := by
  induction l with
  | nil => rfl
  | cons a l ih => rw [List.map_cons, List.all_cons, ih]; rfl
/-- all([..]) where each gives True -/
theorem ld_allT {i : XI} {Φ : Dt → Prop} {α : Type} {l : List α} (h : Φ (.py (.bool true))) : CallD i (.builtin "all") [.py (.list (l.map fun _ => .bool true))] Φ := by
  rw [map_trues]
  refine ld_all ?_
  rw [all_trues]
  exact h
def prD (p : Row × Row) : PyData := .tuple [rowD p.1, rowD p.2]
theorem prD_inj (a b : Row × Row) (h : Dt.py (prD a) = Dt.py (prD b)) : a = b := by
  have h := Dt.py.inj h
  unfold prD at h
  injection h with h
  injection h with h1 h
  injection h with h2 _
  exact Prod.ext (rowD_inj _ _ (congrArg Dt.py h1)) (rowD_inj _ _ (congrArg Dt.py h2))
theorem zip_map2 {α β γ δ : Type} (f : α → γ) (g : β → δ) : ∀ (a : List α) (b : List β), (a.map f).zip (b.map g) = (a.zip b).map fun p => (f p.1, g p.2)
  | [], _ => by simp
  | _ :: _, [] => by simp
  | x :: xs, y :: ys => by
    rw [List.map_cons, List.map_cons, List.zip_cons_cons, List.zip_cons_cons, List.map_cons, zip_map2 f g xs ys]
/-! are_risen -/
def S_are_risen : Sg := fun ds Φ => ∃ rs : List Row, ds = [.py (.tuple (rs.map rowD))] ∧ RiseR rs ∧ rs.length ≤ 1000 ∧ (∀ r ∈ rs, r.length ≤ 1000) ∧ Φ (.py (.bool true))
theorem p_are_risen (H : Hd K mg) : Pf P w K mg base "are_risen" 4 ["rows"] 1 S_are_risen := pf_of H q_are_risen sc_are_risen rfl fun ds Φ hl hS => by
  obtain ⟨rs, rfl, up, hz, hr, φ⟩ := hS
  refine bb_ret (ee_callB (fr_all H) boot_all (ea_cons (ee_lcF [("one", 1), ("other", 2)] (wx_zip (fr_zip H)) (gx_tup (n := 2) (t := gsOf [1, 2]) (gxs_cons (gx_name 1) (gxs_cons (gx_name 2) gxs_nil))) (es_zip (ea_cons (ee_var 0 rfl (ea_cons (ee_sliceT (ee_var 0 rfl (ee_int ⟨1, rfl, _, rfl, ?_⟩))) (hs := fun _ => rfl))))))))
  refine ea_nil ⟨_, _, .inl rfl, Row × Row, fun p => .py (prD p), rs.zip rs.tail, fun _ => true, fun _ => .bool true, ?_, prD_inj, ?_, fun p hp => ?_, ?_⟩
  · have e : cutD (rs.map rowD) (some 1) none = (rs.map rowD).tail := by
      have := cut_from (ds := rs.map rowD) (n := 1)
      rw [List.drop_one] at this
      exact this
    rw [e, ← List.map_tail, zip_map2, List.map_map]
    rfl
  · rw [List.length_zip]
    omega
  · refine ⟨_, gd_tup [1, 2] rfl rfl, ei_nil rfl, fun _ => ee_call (p_row_less H).fnc (ea_cons (ee_var 1 rfl (ea_cons (ee_var 2 rfl (ea_nil ⟨rfl, p.1, p.2, rfl, ?_, ?_, ?_⟩)))))⟩
    · exact hr _ (List.of_mem_zip hp).1
    · exact hr _ (List.mem_of_mem_tail (List.of_mem_zip hp).2)
    · rw [zip_rise up p hp]
  · rw [filter_yes]
    exact ea_nil (ld_allT φ)
/-! are_rows -/
def S_are_rows : Sg := fun ds Φ => ∃ (rs : List Row) (c : Nat), ds = [.py (.tuple (rs.map rowD)), .py (.int (c : Int))] ∧ RiseR rs ∧ rs.length ≤ 1000 ∧ (∀ r ∈ rs, OkR c r) ∧ Φ (.py (.bool true))
theorem p_are_rows (H : Hd K mg) : Pf P w K mg base "are_rows" 5 ["thing", "columns"] 2 S_are_rows := pf_of H q_are_rows sc_are_rows rfl fun ds Φ hl hS => by
  obtain ⟨rs, c, rfl, up, hz, hr, φ⟩ := hS
  refine bb_if (et_w (ew_or (et_not (et_val (ee_isi (T := "tuple") (fr_isinstance H) (fr_tuple H) boot_tuple kit_tuple (ee_var 0 rfl ⟨_, rfl, _, rfl, ?_⟩))))))
  refine iteF (ew_or1 (et_not (et_val (ee_callB (fr_all H) boot_all (ea_cons (ee_lcF [("row", 2)] wx_tup (gx_name 2) (es_tup (ee_var 0 rfl ⟨_, rfl, Row, fun r => .py (rowD r), rs, fun _ => true, fun _ => .bool true, by rw [List.map_map]; rfl, rowD_inj, by omega, fun r h => ?_, ?_⟩))))))))
  · have ok := hr r h
    refine ⟨_, gd_name 2, ei_nil rfl, fun _ => ee_and (ee_call (p_is_row H).fnc (ea_cons (ee_var 2 rfl (ea_nil ⟨rfl, r, c, rfl, ok, true, rfl, iteT (ee_one (ee_cmp ?_ (hm := rfl)))⟩))))⟩
    refine ee_callB (fr_len H) PySem.boot_len (ea_cons (ee_var 2 rfl (ea_nil (ld_len (n := c) (d := rowD r) (by show c = _; rw [List.length_map, ok.len]) (ee_var 1 rfl (od_eq ⟨rfl, by simp [PyData.depth]⟩ ⟨rfl, by simp [PyData.depth]⟩ ?_))))))
    simp [PyData.eqv]
  · rw [filter_yes]
    refine ea_nil (ld_allT ⟨true, rfl, ?_⟩)
    refine iteF (bb_nil (bb_ret (ee_call (p_are_risen H).fnc (ea_cons (ee_var 0 rfl (ea_nil ⟨rfl, rs, rfl, up, hz, fun r h => ?_, φ⟩))))))
    have := (hr r h).len
    have := (hr r h).hi
    omega
end
end Fq
/-! FqC3: list comprehensions of three clauses. -/
namespace Fq
open PySem PySem.Spec PyProof.Rows L2
/-- a clause that is followed by another -/
def outT (C : Expr) (k : Nat) (t i : Expr) (fs : List Expr) (nxt : Expr) (it acc : Value) (env : Env) : Sem Fin := do
  standAt i.pos
  match ← pyNext it with
  | none => pure (.done .next)
  | some u =>
    letOwnedTupleGo t it u
    assign t env u
    let mut go := true
    for q in fs do
      if go then go ← isTrue q env (eval q env)
    if go then
      let y ← eval nxt env
      standAt nxt.pos
      let y ← foldedSetIterable nxt env y
      let _ ← runOwn (.compStart C (k + 1) (← holding [y] (pyIter y)) acc env) env
    again (.compLoop C k it acc env)
/-- the last clause -/
def inT (C : Expr) (k : Nat) (elt t i : Expr) (fs : List Expr) (it acc : Value) (env : Env) : Sem Fin := do
  standAt i.pos
  match ← pyNext it with
  | none => pure (.done .next)
  | some u =>
    letOwnedTupleGo t it u
    assign t env u
    let mut go := true
    for q in fs do
      if go then go ← isTrue q env (eval q env)
    if go then
      (do let _ ← call (.builtin "list.append") [acc, ← eval elt env])
    again (.compLoop C k it acc env)
abbrev C3 (elt t0 i0 : Expr) (f0 : List Expr) (t1 i1 : Expr) (f1 : List Expr) (t2 i2 : Expr) (f2 : List Expr) (scope : Scope) (pos : Pos) : Expr := .ListComp elt [⟨t0, i0, f0, 0⟩, ⟨t1, i1, f1, 0⟩, ⟨t2, i2, f2, 0⟩] scope pos
section
variable {elt t0 i0 t1 i1 t2 i2 : Expr} {f0 f1 f2 : List Expr} {scope : Scope} {pos : Pos}
theorem turn3_0 (it acc : Value) (env : Env) : compTurn (C3 elt t0 i0 f0 t1 i1 f1 t2 i2 f2 scope pos) 0 it acc env = outT (C3 elt t0 i0 f0 t1 i1 f1 t2 i2 f2 scope pos) 0 t0 i0 f0 i1 it acc env := by rfl
theorem turn3_1 (it acc : Value) (env : Env) : compTurn (C3 elt t0 i0 f0 t1 i1 f1 t2 i2 f2 scope pos) 1 it acc env = outT (C3 elt t0 i0 f0 t1 i1 f1 t2 i2 f2 scope pos) 1 t1 i1 f1 i2 it acc env := by rfl
theorem turn3_2 (it acc : Value) (env : Env) : compTurn (C3 elt t0 i0 f0 t1 i1 f1 t2 i2 f2 scope pos) 2 it acc env = inT (C3 elt t0 i0 f0 t1 i1 f1 t2 i2 f2 scope pos) 2 elt t2 i2 f2 it acc env := by rfl
end
section
variable {prog : Program} {w : World} {A : Around} {R : Result → Shared → Prop} {s : Shared} {elt t i nxt : Expr} {G : List Comprehension} {scope : Scope} {pos : Pos} {fs : List Expr} {k : Nat} {it acc : Value} {env : Env}
/-- the loop of a clause that is followed -/
theorem loop_out (ht : compTurn (.ListComp elt G scope pos) k it acc env = outT (.ListComp elt G scope pos) k t i fs nxt it acc env) (hs : ∀ x, foldedSetIterable nxt env x = pure x) (Iv : Nat → Shared → Prop)
    (turn : ∀ n s, Iv n s → wpAny (model prog w) A (pyNext it) (fun r s1 => match r with
      | none => R (.ok .next) s1
      | some v => wpAny (model prog w) A (letOwnedTupleGo t it v) (fun _ s2 => wpAny (model prog w) A (assign t env v) (fun _ s3 =>
          wpAny (model prog w) A (forIn fs true fun c r => if r = true then do let ok ← isTrue c env (eval c env); pure (ForInStep.yield ok) else pure (ForInStep.yield r)) (fun ok s4 =>
            if ok = true then wpAny (model prog w) A (eval nxt env) (fun x s5 => wpAny (model prog w) A (pyIter x) (fun it1 s6 =>
              codeAny (model prog w) A (.compStart (.ListComp elt G scope pos) (k + 1) it1 acc env) (fun r s' => match r with
                | .ok _ => ∃ m, m < n ∧ Iv m s'
                | .error _ => False) s6) (fun _ _ => False) s5) (fun _ _ => False) s4
            else ∃ m, m < n ∧ Iv m s4) (fun _ _ => False) s3) (fun _ _ => False) s2) (fun _ _ => False) s1) (fun _ _ => False) s)
    (n : Nat) (h : Iv n s) : codeAny (model prog w) A (.compLoop (.ListComp elt G scope pos) k it acc env) R s := by
  refine codeAny_loop rfl Iv (fun n s hI => ?_) n h
  show wpAny _ A ((compTurn (.ListComp elt G scope pos) k it acc env).onRaise (fun x => do noteFrame x env; theTreesLotGoes x)) _ _ s
  refine wpAny_noted ?_
  rw [ht]
  unfold outT
  refine wpAny_bind (wpAny_standAt (wpAny_bind (wpAny_mono (turn n s hI) (fun r s1 h1 => ?_) fun _ _ z => z.elim)))
  cases r with
  | none => exact wpAny_pure h1
  | some v =>
    refine wpAny_bind (wpAny_mono h1 (fun _ s2 h2 => ?_) fun _ _ z => z.elim)
    refine wpAny_bind (wpAny_mono h2 (fun _ s3 h3 => wpAny_bind (wpAny_mono h3 (fun ok s4 h4 => ?_) fun _ _ z => z.elim)) fun _ _ z => z.elim)
    cases ok with
    | false => exact wpAny_pure ⟨rfl, h4⟩
    | true =>
      refine wpAny_bind (wpAny_mono h4 (fun x s5 h5 => ?_) fun _ _ z => z.elim)
      refine wpAny_bind (wpAny_standAt (wpAny_bind (wpAny_of_eq (hs x) (wpAny_bind (wpAny_holding (wpAny_mono h5 (fun it1 s6 h6 => ?_) fun _ _ z => z.elim))))))
      refine wpAny_bind (wpAny_runOwn ?_)
      rw [Around.mark_none]
      refine codeAny_mono h6 fun r s' hr => ?_
      cases r with
      | ok f =>
        first
          | exact wpAny_pure ⟨rfl, hr⟩
          | exact wpAny_bind (wpAny_pure (wpAny_pure ⟨rfl, hr⟩))
      | error e => exact hr.elim
/-- the loop of the last clause -/
theorem loop_in (ht : compTurn (.ListComp elt G scope pos) k it acc env = inT (.ListComp elt G scope pos) k elt t i fs it acc env) (Iv : Nat → Shared → Prop)
    (turn : ∀ n s, Iv n s → wpAny (model prog w) A (pyNext it) (fun r s1 => match r with
      | none => R (.ok .next) s1
      | some v => wpAny (model prog w) A (letOwnedTupleGo t it v) (fun _ s2 => wpAny (model prog w) A (assign t env v) (fun _ s3 =>
          wpAny (model prog w) A (forIn fs true fun c r => if r = true then do let ok ← isTrue c env (eval c env); pure (ForInStep.yield ok) else pure (ForInStep.yield r)) (fun ok s4 =>
            if ok = true then wpAny (model prog w) A (eval elt env) (fun x s5 =>
              wpAny (model prog w) A (call (.builtin "list.append") [acc, x]) (fun _ s6 => ∃ m, m < n ∧ Iv m s6) (fun _ _ => False) s5) (fun _ _ => False) s4
            else ∃ m, m < n ∧ Iv m s4) (fun _ _ => False) s3) (fun _ _ => False) s2) (fun _ _ => False) s1) (fun _ _ => False) s)
    (n : Nat) (h : Iv n s) : codeAny (model prog w) A (.compLoop (.ListComp elt G scope pos) k it acc env) R s := by
  refine codeAny_loop rfl Iv (fun n s hI => ?_) n h
  show wpAny _ A ((compTurn (.ListComp elt G scope pos) k it acc env).onRaise (fun x => do noteFrame x env; theTreesLotGoes x)) _ _ s
  refine wpAny_noted ?_
  rw [ht]
  unfold inT
  refine wpAny_bind (wpAny_standAt (wpAny_bind (wpAny_mono (turn n s hI) (fun r s1 h1 => ?_) fun _ _ z => z.elim)))
  cases r with
  | none => exact wpAny_pure h1
  | some v =>
    refine wpAny_bind (wpAny_mono h1 (fun _ s2 h2 => ?_) fun _ _ z => z.elim)
    refine wpAny_bind (wpAny_mono h2 (fun _ s3 h3 => wpAny_bind (wpAny_mono h3 (fun ok s4 h4 => ?_) fun _ _ z => z.elim)) fun _ _ z => z.elim)
    cases ok with
    | false => exact wpAny_pure ⟨rfl, h4⟩
    | true => exact wpAny_bind (wpAny_bind (wpAny_mono h4 (fun x s5 h5 => wpAny_bind (wpAny_mono h5 (fun _ s6 h6 => wpAny_pure (wpAny_pure ⟨rfl, h6⟩)) fun _ _ z => z.elim)) fun _ _ z => z.elim))
end
section
variable {prog : Program} {w : World} {A : Around} {R : Result → Shared → Prop} {s : Shared} {elt t0 i0 t1 i1 t2 i2 : Expr} {f0 f1 f2 : List Expr} {scope : Scope} {pos : Pos} {it acc : Value} {env : Env}
theorem start3_1 (h0 : codeAny (model prog w) A (.compLoop (C3 elt t0 i0 f0 t1 i1 f1 t2 i2 f2 scope pos) 1 it acc env) R s)
    (h : wpAny (model prog w) A (pyIter it) (fun it' s' => codeAny (model prog w) A (.compLoop (C3 elt t0 i0 f0 t1 i1 f1 t2 i2 f2 scope pos) 1 it' acc env) R s') (fun _ _ => False) s) : codeAny (model prog w) A (.compStart (C3 elt t0 i0 f0 t1 i1 f1 t2 i2 f2 scope pos) 1 it acc env) R s := by
  refine codeAny_of_tree ?_
  show wpAny _ _ ((compStart (C3 elt t0 i0 f0 t1 i1 f1 t2 i2 f2 scope pos) 1 it acc env).onRaise (fun x => do noteFrame x env; standAt theWindowsPlace)) _ _ s
  refine wpAny_notedAt ?_
  unfold compStart
  show wpAny _ _ (ask >>= _) _ _ s
  refine wpAny_bind (wpAny_askSetting (wpAny_ite ?_))
  split
  · first
      | exact wpAny_bind (wpAny_pure (wpAny_pure ⟨rfl, h0⟩))
      | exact wpAny_pure ⟨rfl, h0⟩
  · first
      | exact wpAny_bind (wpAny_rule (wpAny_bind (wpAny_standAt (wpAny_bind (wpAny_mono h (fun it' s' h' => wpAny_pure ⟨rfl, h'⟩) fun _ _ z => z.elim)))))
      | (refine wpAny_bind (wpAny_rule ?_); show wpAny _ _ (standAt i1.pos >>= _) _ _ s; exact wpAny_bind (wpAny_standAt (wpAny_bind (wpAny_mono h (fun it' s' h' => wpAny_pure ⟨rfl, h'⟩) fun _ _ z => z.elim))))
theorem start3_2 (h0 : codeAny (model prog w) A (.compLoop (C3 elt t0 i0 f0 t1 i1 f1 t2 i2 f2 scope pos) 2 it acc env) R s)
    (h : wpAny (model prog w) A (pyIter it) (fun it' s' => codeAny (model prog w) A (.compLoop (C3 elt t0 i0 f0 t1 i1 f1 t2 i2 f2 scope pos) 2 it' acc env) R s') (fun _ _ => False) s) : codeAny (model prog w) A (.compStart (C3 elt t0 i0 f0 t1 i1 f1 t2 i2 f2 scope pos) 2 it acc env) R s := by
  refine codeAny_of_tree ?_
  show wpAny _ _ ((compStart (C3 elt t0 i0 f0 t1 i1 f1 t2 i2 f2 scope pos) 2 it acc env).onRaise (fun x => do noteFrame x env; standAt theWindowsPlace)) _ _ s
  refine wpAny_notedAt ?_
  unfold compStart
  show wpAny _ _ (ask >>= _) _ _ s
  refine wpAny_bind (wpAny_askSetting (wpAny_ite ?_))
  split
  · first
      | exact wpAny_bind (wpAny_pure (wpAny_pure ⟨rfl, h0⟩))
      | exact wpAny_pure ⟨rfl, h0⟩
  · first
      | exact wpAny_bind (wpAny_rule (wpAny_bind (wpAny_standAt (wpAny_bind (wpAny_mono h (fun it' s' h' => wpAny_pure ⟨rfl, h'⟩) fun _ _ z => z.elim)))))
      | (refine wpAny_bind (wpAny_rule ?_); show wpAny _ _ (standAt i2.pos >>= _) _ _ s; exact wpAny_bind (wpAny_standAt (wpAny_bind (wpAny_mono h (fun it' s' h' => wpAny_pure ⟨rfl, h'⟩) fun _ _ z => z.elim))))
end
/-! ### clauses behind the first -/
abbrev TB := L2.St → Hp → (Hp → Prop) → Prop
def tInn (wi : TI) (g : TG) (tt : TT) (vs : List Nat) (body : TB) : TB := fun σ2 H0 Nx => wi σ2 H0 fun J H4 => ∃ W : Nat → Nat → Hp → Prop, (∃ m, W 0 m H4) ∧ ∀ j k H, W j k H →
  (J.stop j H ∧ Nx H) ∨ (J.go j H ∧ ∃ Ny : Hp → Prop, (∀ H', Ny H' → ∃ k', k' < k ∧ W (j + 1) k' H') ∧ ∀ x H', J.yld j H x H' → g x (wipe σ2 vs) H' fun σ3 H5 => wipe σ3 vs = wipe σ2 vs ∧ tt σ3 H5 fun b H6 => if b = true then body σ3 H6 Ny else Ny H6)
def tPut (te : TE) (D : Addr) : TB := fun σ H Nx => te σ H fun y H7 => ∃ acc, H7 D = some (.lst acc) ∧ acc.length < sizeLine ∧ Nx (upd H7 D (.lst (acc ++ [y])))
section
variable {Y : Cx} {elt t0 i0 t1 i1 t2 i2 : Expr} {f0 f1 f2 : List Expr} {scope : Scope} {pos : Pos} {wi : TI} {g : TG} {tt : TT} {te : TE} {vs : List Nat} {pins : List (Addr × Obj)} {σ8 : L2.St} {H9 : Hp} {s9 : Shared} {Nx : Hp → Prop} {D : Addr}
/-- a clause's run: its source, its start -/
def RunC (Y : Cx) (C : Expr) (k : Nat) (i : Expr) (D : Addr) (pins : List (Addr × Obj)) (σ : L2.St) (Nx : Hp → Prop) (s : Shared) : Prop :=
  wpAny (model Y.prog Y.w) Y.A (eval i Y.env) (fun x s1 => wpAny (model Y.prog Y.w) Y.A (pyIter x) (fun it s2 => codeAny (model Y.prog Y.w) Y.A (.compStart C k it (.ref D) Y.env) (fun r s' => match r with
    | .ok _ => ∃ H', Inv Y pins σ H' s' ∧ Nx H'
    | .error _ => False) s2) (fun _ _ => False) s1) (fun _ _ => False) s
theorem run_last (hc : Y.calm = true) (hx : Y.xe = fun _ _ => False) (pi : PI Y t2 i2 wi) (pg : PG Y t2 g) (pt : PTs Y f2 tt) (pe : PE Y elt te) (I9 : Inv Y pins σ8 H9 s9) (q9 : tInn wi g tt vs (tPut te D) σ8 H9 Nx) :
    RunC Y (C3 elt t0 i0 f0 t1 i1 f1 t2 i2 f2 scope pos) 2 i2 D pins (wipe σ8 vs) Nx s9 := by
  have pir := pi.run pins s9 σ8 H9 _ I9 q9
  rw [hx] at pir
  refine thnF pir fun xv s10 hx1 => ?_
  refine thnF hx1 fun itv s11 h11 => ?_
  obtain ⟨it1, fp1, tn1, J1, H11, e1, I11, T1, st11, f11, W1, ⟨m1, w1⟩, turn1⟩ := h11
  subst e1
  have stat1 : ∀ {H' : Hp}, (∀ b ∈ fp1, H' b = none) → ∀ b ∈ fp1, FpOk Y pins H' b := fun hn b hb => ⟨hn b hb, (f11 b hb).2⟩
  have loop1 : codeAny (model Y.prog Y.w) Y.A (.compLoop (C3 elt t0 i0 f0 t1 i1 f1 t2 i2 f2 scope pos) 2 (.ref it1) (.ref D) Y.env) (fun r s' => match r with
      | .ok _ => ∃ H', Inv Y pins (wipe σ8 vs) H' s' ∧ Nx H'
      | .error _ => False) s11 := by
    refine loop_in (turn3_2 _ _ _) (fun k s' => ∃ j H', Inv Y pins (wipe σ8 vs) H' s' ∧ tn1 j s'.heap ∧ (∀ b ∈ fp1, H' b = none) ∧ W1 j k H') ?_ m1 ⟨0, H11, I11.weak (wipe_length _ _) (fun j v e => (wipe_some e).1), st11, fun b hb => (f11 b hb).1, w1⟩
    rintro k s12 ⟨j, H12, I12, st12, n12, w12⟩
    rcases turn1 j k H12 w12 with ⟨stop1, nx1⟩ | ⟨go1, Ny, hNy, step1⟩
    · refine thnF (T1.done Y rfl rfl rfl hc j _ s12 (wipe σ8 vs) H12 (fun _ _ => False) I12 (stat1 n12) st12 stop1) fun r s13 ⟨hr, I13⟩ => ?_
      subst hr
      exact ⟨H12, I13, nx1⟩
    · refine thnF (T1.item Y rfl rfl rfl hc j _ s12 (wipe σ8 vs) H12 (fun _ _ => False) I12 (stat1 n12) st12 go1) fun r s13 ⟨u1, hr, h13⟩ => ?_
      subst hr
      refine thnF h13 fun _ s14 ⟨x1, H14, I14, r14, y14, st14, n14⟩ => ?_
      have I14' := I14.pinned (stat1 n14) (T1.obj _ _ st14)
      have pgr := pg.run _ s14 (wipe σ8 vs) H14 x1 u1 _ I14' r14 (step1 x1 H14 y14)
      rw [hx] at pgr
      refine thnF pgr fun _ s15 ⟨σ15, H15, I15, hw15, q15⟩ => ?_
      have ptr := pt.run _ s15 σ15 H15 _ I15 q15
      rw [hx] at ptr
      refine thnF ptr fun b1 s16 ⟨H16, I16, q16⟩ => ?_
      have fin1 : ∀ {s' : Shared} {H' : Hp}, Inv Y (pins ++ pinsAt fp1 s14.heap) σ15 H' s' → Ny H' → ∃ m, m < k ∧ ∃ j H', Inv Y pins (wipe σ8 vs) H' s' ∧ tn1 j s'.heap ∧ (∀ b ∈ fp1, H' b = none) ∧ W1 j m H' := fun {s' H'} I' nx => by
        obtain ⟨m', hm, w'⟩ := hNy H' nx
        have pin' : ∀ b ∈ fp1, ∀ o, s14.heap.get? b = some o → s'.heap.get? b = some o ∧ H' b = none := fun b hb o e =>
          let z := I'.pin (b, o) (List.mem_append_right _ (List.mem_append_right _ (mem_pinsAt hb e)))
          ⟨z.1, z.2.1⟩
        refine ⟨m', hm, j + 1, H', I'.unpinned.weak (by rw [← hw15, wipe_length]) (fun j v e => by rw [← hw15] at e; exact (wipe_some e).1), T1.keep _ _ _ st14 fun b hb o e => (pin' b hb o e).1, fun b hb => ?_, w'⟩
        obtain ⟨o, e, _⟩ := T1.obj _ _ st14 b hb
        exact (pin' b hb o e).2
      cases b1 with
      | false =>
        simp only [Bool.false_eq_true, if_false] at q16 ⊢
        exact fin1 I16 q16
      | true =>
        simp only [if_true] at q16 ⊢
        have per := pe.run _ s16 σ15 H16 _ I16 q16
        rw [hx] at per
        refine thnF per fun z s17 ⟨yv, H17, I17, r17, acc, hD17, hz17, nx⟩ => ?_
        exact app_ok (X := Y) I17 hD17 hz17 r17 fun s18 I18 => fin1 I18 nx
  exact start3_2 loop1 (T1.self Y.A 0 _ _ _ st11 loop1)
/-- the second clause: vs holds the names of its target and of what is behind -/
theorem run_mid {body : TB} {vs2 : List Nat} (hc : Y.calm = true) (hx : Y.xe = fun _ _ => False) (hv : ∀ i ∈ vs2, i ∈ vs) (pi : PI Y t1 i1 wi) (pg : PG Y t1 g) (pt : PTs Y f1 tt) (hs : ∀ x, foldedSetIterable i2 Y.env x = pure x)
    (hb : ∀ pins σ H s Ny, Inv Y pins σ H s → body σ H Ny → RunC Y (C3 elt t0 i0 f0 t1 i1 f1 t2 i2 f2 scope pos) 2 i2 D pins (wipe σ vs2) Ny s) (I9 : Inv Y pins σ8 H9 s9) (q9 : tInn wi g tt vs body σ8 H9 Nx) :
    RunC Y (C3 elt t0 i0 f0 t1 i1 f1 t2 i2 f2 scope pos) 1 i1 D pins (wipe σ8 vs) Nx s9 := by
  have pir := pi.run pins s9 σ8 H9 _ I9 q9
  rw [hx] at pir
  refine thnF pir fun xv s10 hx1 => ?_
  refine thnF hx1 fun itv s11 h11 => ?_
  obtain ⟨it1, fp1, tn1, J1, H11, e1, I11, T1, st11, f11, W1, ⟨m1, w1⟩, turn1⟩ := h11
  subst e1
  have stat1 : ∀ {H' : Hp}, (∀ b ∈ fp1, H' b = none) → ∀ b ∈ fp1, FpOk Y pins H' b := fun hn b hb => ⟨hn b hb, (f11 b hb).2⟩
  have loop1 : codeAny (model Y.prog Y.w) Y.A (.compLoop (C3 elt t0 i0 f0 t1 i1 f1 t2 i2 f2 scope pos) 1 (.ref it1) (.ref D) Y.env) (fun r s' => match r with
      | .ok _ => ∃ H', Inv Y pins (wipe σ8 vs) H' s' ∧ Nx H'
      | .error _ => False) s11 := by
    refine loop_out (turn3_1 _ _ _) hs (fun k s' => ∃ j H', Inv Y pins (wipe σ8 vs) H' s' ∧ tn1 j s'.heap ∧ (∀ b ∈ fp1, H' b = none) ∧ W1 j k H') ?_ m1 ⟨0, H11, I11.weak (wipe_length _ _) (fun j v e => (wipe_some e).1), st11, fun b hb => (f11 b hb).1, w1⟩
    rintro k s12 ⟨j, H12, I12, st12, n12, w12⟩
    rcases turn1 j k H12 w12 with ⟨stop1, nx1⟩ | ⟨go1, Ny, hNy, step1⟩
    · refine thnF (T1.done Y rfl rfl rfl hc j _ s12 (wipe σ8 vs) H12 (fun _ _ => False) I12 (stat1 n12) st12 stop1) fun r s13 ⟨hr, I13⟩ => ?_
      subst hr
      exact ⟨H12, I13, nx1⟩
    · refine thnF (T1.item Y rfl rfl rfl hc j _ s12 (wipe σ8 vs) H12 (fun _ _ => False) I12 (stat1 n12) st12 go1) fun r s13 ⟨u1, hr, h13⟩ => ?_
      subst hr
      refine thnF h13 fun _ s14 ⟨x1, H14, I14, r14, y14, st14, n14⟩ => ?_
      have I14' := I14.pinned (stat1 n14) (T1.obj _ _ st14)
      have pgr := pg.run _ s14 (wipe σ8 vs) H14 x1 u1 _ I14' r14 (step1 x1 H14 y14)
      rw [hx] at pgr
      refine thnF pgr fun _ s15 ⟨σ15, H15, I15, hw15, q15⟩ => ?_
      have ptr := pt.run _ s15 σ15 H15 _ I15 q15
      rw [hx] at ptr
      refine thnF ptr fun b1 s16 ⟨H16, I16, q16⟩ => ?_
      have fin1 : ∀ {s' : Shared} {H' : Hp} {σ' : L2.St}, Inv Y (pins ++ pinsAt fp1 s14.heap) σ' H' s' → (wipe σ8 vs).length = σ'.length → (∀ (j : Nat) v, (wipe σ8 vs)[j]? = some (some v) → σ'[j]? = some (some v)) → Ny H' → ∃ m, m < k ∧ ∃ j H', Inv Y pins (wipe σ8 vs) H' s' ∧ tn1 j s'.heap ∧ (∀ b ∈ fp1, H' b = none) ∧ W1 j m H' := fun {s' H' σ'} I' hl hk nx => by
        obtain ⟨m', hm, w'⟩ := hNy H' nx
        have pin' : ∀ b ∈ fp1, ∀ o, s14.heap.get? b = some o → s'.heap.get? b = some o ∧ H' b = none := fun b hb o e =>
          let z := I'.pin (b, o) (List.mem_append_right _ (List.mem_append_right _ (mem_pinsAt hb e)))
          ⟨z.1, z.2.1⟩
        refine ⟨m', hm, j + 1, H', I'.unpinned.weak hl hk, T1.keep _ _ _ st14 fun b hb o e => (pin' b hb o e).1, fun b hb => ?_, w'⟩
        obtain ⟨o, e, _⟩ := T1.obj _ _ st14 b hb
        exact (pin' b hb o e).2
      cases b1 with
      | false =>
        simp only [Bool.false_eq_true, if_false] at q16 ⊢
        exact fin1 I16 (by rw [← hw15, wipe_length]) (fun j v e => by rw [← hw15] at e; exact (wipe_some e).1) q16
      | true =>
        simp only [if_true] at q16 ⊢
        have rb := hb _ _ _ _ _ I16 q16
        refine thnF rb fun xv s17 h17 => ?_
        refine thnF h17 fun itv s18 h18 => ?_
        refine codeAny_mono h18 fun r s' hr => ?_
        cases r with
        | error e => exact hr.elim
        | ok f =>
          obtain ⟨H', I', nx⟩ := hr
          refine fin1 I' (by have e := congrArg List.length hw15; rw [wipe_length, wipe_length] at e; rw [wipe_length, wipe_length]; exact e.symm) (fun j v e => ?_) nx
          rw [← hw15] at e
          obtain ⟨a1, a2⟩ := wipe_some e
          rw [wipe_out fun z => a2 (hv j z)]
          exact a1
  exact start3_1 loop1 (T1.self Y.A 0 _ _ _ st11 loop1)
end
/-! ### the first clause -/
def tLc3 (wi : TI) (g : TG) (tt : TT) (body : Addr → TB) (vs : List Nat) : TE := fun σ H Q => wi σ H fun J H1 => ∀ D, H1 D = none → ∃ W : Nat → Nat → Hp → Prop, (∃ m, W 0 m (upd H1 D (.lst []))) ∧ ∀ n m H, W n m H →
  (J.stop n H ∧ Q (.ref D) H) ∨ (J.go n H ∧ ∃ Ny : Hp → Prop, (∀ H', Ny H' → ∃ m', m' < m ∧ W (n + 1) m' H') ∧ ∀ x H', J.yld n H x H' → g x (wipe σ vs) H' fun σ2 H2 => wipe σ2 vs = wipe σ vs ∧ tt σ2 H2 fun b H3 => if b = true then body D σ2 H3 Ny else Ny H3)
section
variable {X : Cx}
theorem pe_lc3 {elt t0 i0 t1 i1 t2 i2 : Expr} {f0 f1 f2 : List Expr} {scope : Scope} {own : List (Str × Nat)} {vs1 : List Nat} {pos : Pos} {wi : TI} {g : TG} {tt : TT} {body : Addr → TB} (hc : X.calm = true) (hN : X.N.Nodup) (hi : PI X t0 i0 wi) (ok : BlkOk X.N X.env.scope scope own) (hv : ∀ j ∈ vs1, j ∈ own.map (·.2))
    (hg : ∀ (s : Shared) (H : Hp) (C : Addr) (cl : List (Str × Addr)) (fp : List Addr), PG (X.blk s H scope (compEnvC scope cl C X.env) fp) t0 g)
    (ht : ∀ (s : Shared) (H : Hp) (C : Addr) (cl : List (Str × Addr)) (fp : List Addr), PTs (X.blk s H scope (compEnvC scope cl C X.env) fp) f0 tt)
    (hb : ∀ (s : Shared) (H : Hp) (C : Addr) (cl : List (Str × Addr)) (fp : List Addr) (D : Addr) pins σ H' s' Ny, Inv (X.blk s H scope (compEnvC scope cl C X.env) fp) pins σ H' s' → body D σ H' Ny → RunC (X.blk s H scope (compEnvC scope cl C X.env) fp) (C3 elt t0 i0 f0 t1 i1 f1 t2 i2 f2 scope pos) 1 i1 D pins (wipe σ vs1) Ny s')
    (hs : ∀ x, foldedSetIterable i0 X.env x = pure x) (hs1 : ∀ env x, foldedSetIterable i1 env x = pure x) : PE X (C3 elt t0 i0 f0 t1 i1 f1 t2 i2 f2 scope pos) (tLc3 wi g tt body (own.map (·.2))) := by
  refine ⟨fun pins s σ H Q I h => ?_⟩
  rw [eval_ListComp]
  have hfr : ∀ y ∈ scope.names, y.2 = .free → ∃ c, X.env.cells.lookup y.1 = some c := fun y hy e => (ok.free y hy e).elim (fun k => I.ok.has _ (.inl k)) fun k => I.ok.has _ (.inr k)
  refine wpAny_comprehension_free (use := none) rfl hs (closure_ok hfr) ok.kind (fun y hy e => by rw [ok.uniq y hy, e]) (thn (hi.run pins s σ H _ I h) fun xv u1 hx => thn hx fun itv u2 h2 => ?_)
  obtain ⟨it, fq, tq, J, G2, e, I2, T, st2, f2', q⟩ := h2
  subst e
  refine wpAny_newObj_type (newEnv_comp ?_) (by show 0 ≤ sizeLine; decide)
  generalize hD : u2.heap.objs.size = D
  have hDn : G2 D = none := I2.hok.fresh (Nat.le_of_eq hD)
  obtain ⟨W, ⟨m0, w0⟩, turn⟩ := q D hDn
  generalize hu3 : ({ u2 with heap := u2.heap.push { cls := .type "list", data := .seq ([] : List Value).toArray } } : Shared) = u3
  have I3 : Inv X pins σ (upd G2 D (.lst [])) u3 := by
    rw [← hu3]
    refine I2.laid (t' := u2.toks) (fun b o z => Heap.get?_push_of_some _ z) (Nat.le_of_eq hD) ⟨Nat.zero_le _, [], 0, .nil, ?_⟩
    rw [← hD]
    exact Heap.get?_push_size _ rfl
  have h3 : u3.heap = u2.heap.push { cls := .type "list", data := .seq ([] : List Value).toArray } := by rw [← hu3]
  have sz : ∀ b ∈ fq, b < u2.heap.objs.size := fun b hb => by
    obtain ⟨o, z, _⟩ := T.obj _ _ st2 b hb
    exact Heap.lt_size z
  have f3 : ∀ b ∈ fq, FpOk X pins (upd G2 D (.lst [])) b ∧ b < u3.heap.objs.size := fun b hb => by
    have hlt := sz b hb
    refine ⟨⟨?_, (f2' b hb).2⟩, by rw [h3, Heap.size_push]; exact Nat.lt_succ_of_lt hlt⟩
    rw [upd_ne (by rw [← hD]; exact Nat.ne_of_lt hlt)]
    exact (f2' b hb).1
  have st3 : tq 0 u3.heap := T.keep _ _ _ st2 fun b _ o z => by rw [h3]; exact Heap.get?_push_of_some _ z
  have I4 := block_start I3 ok hN f3
  have pg := hg u3 (upd G2 D (.lst [])) u3.heap.objs.size (cellsFrom (u3.heap.objs.size + 1) scope.names (cloFrom X.env.cells scope.names [])) fq
  have pt := ht u3 (upd G2 D (.lst [])) u3.heap.objs.size (cellsFrom (u3.heap.objs.size + 1) scope.names (cloFrom X.env.cells scope.names [])) fq
  have pb := hb u3 (upd G2 D (.lst [])) u3.heap.objs.size (cellsFrom (u3.heap.objs.size + 1) scope.names (cloFrom X.env.cells scope.names [])) fq D
  show codeAny _ _ (.compStart (C3 elt t0 i0 f0 t1 i1 f1 t2 i2 f2 scope pos) 0 (.ref it) (.ref D) (compEnvC scope (cellsFrom (u3.heap.objs.size + 1) scope.names (cloFrom X.env.cells scope.names [])) u3.heap.objs.size X.env)) (compPost (model X.prog X.w) X.A X.xe none _ (.ref D) u3.heap.objs.size) { u3 with heap := pushCells (u3.heap.push { cls := .type "dict", data := .dict #[] }) scope.names }
  have nfq : ∀ b ∈ fq, (upd G2 D (.lst [])) b = none := fun b hb => (f3 b hb).1.1
  generalize hce : compEnvC scope (cellsFrom (u3.heap.objs.size + 1) scope.names (cloFrom X.env.cells scope.names [])) u3.heap.objs.size X.env = ce at I4 pg pt pb ⊢
  have cL : ce.locals = u3.heap.objs.size := by subst hce; rfl
  generalize hG3 : upd G2 D (.lst []) = G3 at I3 I4 pg pt pb w0 nfq f3
  generalize hu4 : ({ u3 with heap := pushCells (u3.heap.push { cls := .type "dict", data := .dict #[] }) scope.names } : Shared) = u4 at I4 ⊢
  have st4 : tq 0 u4.heap := T.keep _ _ _ st3 fun b _ o z => by rw [← hu4]; exact pushCells_keeps _ _ _ _ (Heap.get?_push_of_some _ z)
  have stat : ∀ {σ' : L2.St} {H' : Hp} {s' : Shared}, Inv (X.blk u3 G3 scope ce fq) [] σ' H' s' → (∀ b ∈ fq, H' b = none) → ∀ b ∈ fq, FpOk (X.blk u3 G3 scope ce fq) [] H' b := fun {σ' H' s'} I' hn b hb =>
    ⟨hn b hb, (I'.ok.exf b hb).1, I'.ok.exfs b hb, .inl hb, fun x c z => (I'.ok.exf b hb).2 x c z, fun p hp => absurd (show p ∈ ([] : List (Addr × Obj)) ++ [] from hp) (by simp)⟩
  have loop : codeAny (model X.prog X.w) X.A (.compLoop (C3 elt t0 i0 f0 t1 i1 f1 t2 i2 f2 scope pos) 0 (.ref it) (.ref D) ce) (compPost (model X.prog X.w) X.A X.xe none (EP X pins σ Q) (.ref D) u3.heap.objs.size) u4 := by
    refine loop_out (turn3_0 _ _ _) (hs1 ce) (fun n s' => ∃ j H', Inv (X.blk u3 G3 scope ce fq) [] (wipe σ (own.map (·.2))) H' s' ∧ tq j s'.heap ∧ (∀ b ∈ fq, H' b = none) ∧ W j n H') ?_ m0 ⟨0, G3, I4, st4, nfq, w0⟩
    rintro n s5 ⟨j, H5, I5, st5, n5, w5⟩
    rcases turn j n H5 w5 with ⟨stop, qq⟩ | ⟨go, Ny, hNy, step⟩
    · refine thnF (T.done (X.blk u3 G3 scope ce fq) rfl rfl rfl hc j [] s5 _ H5 (fun _ _ => False) I5 (stat I5 n5) st5 stop) fun r s6 ⟨hr, I6⟩ => ?_
      subst hr
      have I7 : Inv X pins σ H5 s6 := I3.call' (ch := fq) I6.os I6.base I6.hok I6.bare fun b hb => ⟨(f3 b hb).1.2.2.2.1, (f3 b hb).1.2.1, (f3 b hb).1.2.2.2.2.1, (f3 b hb).1.2.2.2.2.2⟩
      have nC : H5 u3.heap.objs.size = none := by
        have z : H5 ce.locals = none := I6.free
        rw [cL] at z
        exact z
      obtain ⟨m, hn, _⟩ := I6.loc
      have hn : s6.heap.Ns ce.locals m := hn
      rw [cL] at hn
      have hF := I3.fpOk (Nat.le_refl _) nC
      refine ⟨m, hn, fun h'' sb => ?_⟩
      obtain ⟨g0, g1, g2, g3, g4, g5⟩ := hF
      exact ⟨.ref D, H5, I7.turned (t' := s6.toks) (fun b o hb z => (sb.2 b hb).trans z) g0 g1 g3 g4 g5, rfl, qq⟩
    · refine thnF (T.item (X.blk u3 G3 scope ce fq) rfl rfl rfl hc j [] s5 _ H5 (fun _ _ => False) I5 (stat I5 n5) st5 go) fun r s6 ⟨u, hr, h6⟩ => ?_
      subst hr
      refine thnF h6 fun _ s7 ⟨x, H7, I7, r7, y7, st7, n7⟩ => ?_
      have I7' := I7.pinned (stat I7 n7) (T.obj _ _ st7)
      refine thnF (pg.run _ s7 _ H7 x u _ I7' r7 (step x H7 y7)) fun _ s8 ⟨σ8, H8, I8, hw8, q8⟩ => ?_
      refine thnF (pt.run _ s8 σ8 H8 _ I8 q8) fun b s9 ⟨H9, I9, q9⟩ => ?_
      have fin : ∀ {σ9 : L2.St} {s' : Shared} {H' : Hp}, Inv (X.blk u3 G3 scope ce fq) ([] ++ pinsAt fq s7.heap) σ9 H' s' → (wipe σ (own.map (·.2))).length = σ9.length → (∀ (j : Nat) v, (wipe σ (own.map (·.2)))[j]? = some (some v) → σ9[j]? = some (some v)) → Ny H' →
          ∃ m, m < n ∧ ∃ j H', Inv (X.blk u3 G3 scope ce fq) [] (wipe σ (own.map (·.2))) H' s' ∧ tq j s'.heap ∧ (∀ b ∈ fq, H' b = none) ∧ W j m H' := fun {σ9 s' H'} I' hl hk nx => by
        obtain ⟨m', hm, w'⟩ := hNy H' nx
        have pin' : ∀ b ∈ fq, ∀ o, s7.heap.get? b = some o → s'.heap.get? b = some o ∧ H' b = none := fun b hb o z =>
          let y := I'.pin (b, o) (List.mem_append_right _ (List.mem_append_right _ (mem_pinsAt hb z)))
          ⟨y.1, y.2.1⟩
        refine ⟨m', hm, j + 1, H', (I'.unpinned (pins := [])).weak hl hk, T.keep _ _ _ st7 fun b hb o z => (pin' b hb o z).1, fun b hb => ?_, w'⟩
        obtain ⟨o, z, _⟩ := T.obj _ _ st7 b hb
        exact (pin' b hb o z).2
      have hk8 : ∀ (j : Nat) v, (wipe σ (own.map (·.2)))[j]? = some (some v) → σ8[j]? = some (some v) := fun j v z => by
        rw [← hw8] at z
        exact (wipe_some z).1
      have hl8 : (wipe σ (own.map (·.2))).length = σ8.length := by rw [← hw8, wipe_length]
      cases b with
      | false =>
        simp only [Bool.false_eq_true, if_false] at q9 ⊢
        exact fin I9 hl8 hk8 q9
      | true =>
        simp only [if_true] at q9 ⊢
        refine thnF (pb _ _ _ _ _ I9 q9) fun xv s10 h10 => ?_
        refine thnF h10 fun itv s11 h11 => ?_
        refine codeAny_mono h11 fun r s' hr => ?_
        cases r with
        | error e => exact hr.elim
        | ok fl =>
          obtain ⟨H', I', nx⟩ := hr
          refine fin I' (hl8.trans (wipe_length σ8 vs1).symm) (fun j v z => ?_) nx
          rw [← hw8] at z
          obtain ⟨a1, a2⟩ := wipe_some z
          rw [wipe_out fun y => a2 (hv j y)]
          exact a1
  exact codeAny_compStart_list loop (T.self X.A 0 _ _ _ st4 loop)
end
end Fq
/-! FqC4: three clauses by data. -/
namespace Fq
open PySem PySem.Spec PyProof.Rows L2 Evl
open RZ
theorem ex_lc3 {i : XI} {σ : L2.St} {H : Hp} {Q : VK} {elt t0 i0 t1 i1 t2 i2 : Expr} {f0 f1 f2 : List Expr} {scope : Scope} {pos : Pos} {w0 w1 w2 : TI} {g0 g1 g2 : TG} (own : List (Str × Nat)) (vs1 vs2 : List Nat)
    (hi0 : ∀ X, XOk i X → PI X t0 i0 w0) (hg0 : ∀ X, XOk (i.blk scope) X → PG X t0 g0) (hi1 : ∀ X, XOk (i.blk scope) X → PI X t1 i1 w1) (hg1 : ∀ X, XOk (i.blk scope) X → PG X t1 g1) (hi2 : ∀ X, XOk (i.blk scope) X → PI X t2 i2 w2) (hg2 : ∀ X, XOk (i.blk scope) X → PG X t2 g2)
    (h : tLc3 w0 g0 (IX (i.blk scope) f0) (fun D => tInn w1 g1 (IX (i.blk scope) f1) vs1 (tInn w2 g2 (IX (i.blk scope) f2) vs2 (tPut (EX (i.blk scope) elt) D))) (own.map (·.2)) σ H Q) (ok : blkC i.N i.sc scope own = true := by kernel_rfl) (hv1 : ∀ j ∈ vs1, j ∈ own.map (·.2) := by decide) (hv2 : ∀ j ∈ vs2, j ∈ vs1 := by decide)
    (hs : ∀ env x, foldedSetIterable i0 env x = pure x := by intro _ _; rfl) (hs1 : ∀ env x, foldedSetIterable i1 env x = pure x := by intro _ _; rfl) (hs2 : ∀ env x, foldedSetIterable i2 env x = pure x := by intro _ _; rfl) : EX i (C3 elt t0 i0 f0 t1 i1 f1 t2 i2 f2 scope pos) σ H Q :=
  .mk (T := tLc3 w0 g0 (IX (i.blk scope) f0) (fun D => tInn w1 g1 (IX (i.blk scope) f1) vs1 (tInn w2 g2 (IX (i.blk scope) f2) vs2 (tPut (EX (i.blk scope) elt) D))) (own.map (·.2))) (fun X o => pe_lc3 o.calm (by rw [o.N]; exact o.nd) (hi0 X o) (by rw [o.N, o.sc]; exact blkOk_by ok) hv1 (fun s H C cl fp => hg0 _ (o.blk scope s H C cl fp)) (fun s H C cl fp => IX.pts (o.blk scope s H C cl fp))
    (fun s H C cl fp D pins σ' H' s' Ny I q => run_mid (vs2 := vs2) (o.blk scope s H C cl fp).calm rfl hv2 (hi1 _ (o.blk scope s H C cl fp)) (hg1 _ (o.blk scope s H C cl fp)) (IX.pts (o.blk scope s H C cl fp)) (hs2 _) (fun pins σ'' H'' s'' Nz I2 q2 => run_last (o.blk scope s H C cl fp).calm rfl (hi2 _ (o.blk scope s H C cl fp)) (hg2 _ (o.blk scope s H C cl fp)) (IX.pts (o.blk scope s H C cl fp)) (EX.pe (o.blk scope s H C cl fp)) I2 q2) I q) (hs _) hs1) h
/-- a list of ours that grows -/
def LGrow (K : PySem.W.Frag) (Hf0 H0 : Hp) (D : Addr) (zs : List PyData) (Hf H : Hp) : Prop := ∃ vs, Tr Hf0 H0 Hf H ∧ Hf D = none ∧ H D = some (.lst vs) ∧ DpAll K Hf vs zs
theorem LGrow.step {K : PySem.W.Frag} {Hf0 H0 : Hp} {D : Addr} {zs : List PyData} {Hf H Hf' H' : Hp} (h : LGrow K Hf0 H0 D zs Hf H) (t : Tr Hf H Hf' H') : LGrow K Hf0 H0 D zs Hf' H' := by
  obtain ⟨vs, h1, h2, h3, h4⟩ := h
  exact ⟨vs, h1.trans t, t.n D _ h3 h2, t.h D _ h3, dpAll_mono t.f h4⟩
theorem LGrow.push {K : PySem.W.Frag} {Hf0 H0 : Hp} {D : Addr} {zs : List PyData} {Hf H : Hp} {vs : List V} {y : V} {z : PyData} (t : Tr Hf0 H0 Hf H) (h2 : Hf D = none) (h3 : H D = some (.lst vs)) (h4 : DpAll K Hf vs zs) (hD : H0 D = none) (hy : Dp K Hf y z) :
    Ex Hf (upd H D (.lst (vs ++ [y]))) ∧ LGrow K Hf0 H0 D (zs ++ [z]) Hf (upd H D (.lst (vs ++ [y]))) := by
  have ex : Ex Hf (upd H D (.lst (vs ++ [y]))) := fun q o hq => by
    rw [upd_ne (ne_of_none hq h2)]
    exact t.i q o hq
  exact ⟨ex, _, ⟨t.f, ex, Ex.mut t.h hD, t.n⟩, h2, upd_same, dpAll_app h4 (.cons hy .nil)⟩
theorem LGrow.new {K : PySem.W.Frag} {Hf H : Hp} {D : Addr} (e : Ex Hf H) (hD : H D = none) : LGrow K Hf H D [] Hf (upd H D (.lst [])) := ⟨[], .drop e hD, fresh_back e hD, upd_same, .nil⟩
theorem LGrow.done {K : PySem.W.Frag} {Hf0 H0 : Hp} {D : Addr} {zs : List PyData} {Hf H : Hp} (h : LGrow K Hf0 H0 D zs Hf H) (hD : H0 D = none) : ∃ Hf', Tr Hf0 H0 Hf' H ∧ Ex Hf Hf' ∧ Dp K Hf' (.ref D) (.list zs) := by
  obtain ⟨vs, h1, h2, h3, h4⟩ := h
  exact ⟨upd Hf D (.lst vs), h1.adopt h2 h3 hD, Ex.new h2, dp_lst_new h4 h2⟩
/-- what a body adds, by data -/
def BodyD (i : XI) (D : Addr) (Hf1 H1 : Hp) (ρ : En) (body : TB) (out : List PyData) : Prop := ∀ σ Hf H acc Ny, RpE i.K Hf σ ρ → LGrow i.K Hf1 H1 D acc Hf H → acc.length + out.length ≤ 40000 → (∀ Hf' H', Ex Hf Hf' → LGrow i.K Hf1 H1 D (acc ++ out) Hf' H' → Ny H') → body σ H Ny
section
variable {i : XI} {D : Addr} {Hf1 H1 : Hp} {ρ : En} {out : List PyData}
theorem put_data {elt : Expr} {z : PyData} (hD : H1 D = none) (h : EE i elt ρ fun y => y = .py z) : BodyD i D Hf1 H1 ρ (tPut (EX i elt) D) [z] := fun σ Hf H acc Ny r I hz q => by
  obtain ⟨vs, t2, d1, d2, d3⟩ := I
  refine h σ Hf H _ r t2.i fun y dz Hf5 H5 t5 r5 hz5 => ?_
  subst hz5
  refine ⟨vs, t5.h D _ d2, sz_lt ?_, q Hf5 _ t5.f (LGrow.push (t2.trans t5) (t5.n D _ d2 d1) (t5.h D _ d2) (dpAll_mono t5.f d3) hD r5).2⟩
  have l1 := dpAll_len d3
  rw [List.length_singleton] at hz
  omega
theorem inn_data {wi : TI} {g : TG} {vs : List Nat} {body : TB} (h : ES i wi ρ fun its => ∃ (α : Type) (enc : α → Dt) (rs : List α) (f : α → List PyData), its = rs.map enc ∧ out = rs.flatMap f ∧ ∀ a ∈ rs, ∃ ρy, GD i g vs (wipeE ρ vs) ρy (enc a) ∧ BodyD i D Hf1 H1 ρy body (f a)) : BodyD i D Hf1 H1 ρ (tInn wi g (IX i []) vs body) out := fun σ Hf H acc Nx r I hz q => by
  refine h σ Hf H _ r I.choose_spec.1.i fun J its Hf4 H4 t4 S ψ => ?_
  obtain ⟨α, enc, rs, f, rfl, rfl, turn⟩ := ψ
  have I4 := I.step t4
  refine ⟨fun j k H => k = rs.length - j ∧ j ≤ rs.length ∧ ∃ Hf', Ex Hf4 Hf' ∧ LGrow i.K Hf1 H1 D (acc ++ (rs.take j).flatMap f) Hf' H, ⟨rs.length, rfl, Nat.zero_le _, Hf4, Ex.refl _, by rw [List.take_zero, List.flatMap_nil, List.append_nil]; exact I4⟩, ?_⟩
  rintro j k H5 ⟨rfl, hj, Hf5, e5, I5⟩
  by_cases hlt : j < rs.length
  · have hlt' : j < (rs.map enc).length := by rw [List.length_map]; exact hlt
    have i5 := I5.choose_spec.1.i
    refine .inr ⟨S.go j H5 hlt' (e5.trans i5), fun H' => ∃ Hf', Ex Hf4 Hf' ∧ LGrow i.K Hf1 H1 D (acc ++ (rs.take (j + 1)).flatMap f) Hf' H', fun H' n => ⟨rs.length - (j + 1), by omega, rfl, hlt, n⟩, fun x H6 hy => ?_⟩
    obtain ⟨Hf6, d, hd, t6, r6⟩ := S.yld j H5 x H6 Hf5 hlt' e5 i5 hy
    rw [List.getElem?_map] at hd
    obtain ⟨a, ha, rfl⟩ := Option.map_eq_some_iff.mp hd
    obtain ⟨ρy, hgd, hbd⟩ := turn a (List.mem_of_getElem? ha)
    have e46 := e5.trans t6.f
    refine hgd (wipe σ vs) Hf6 H6 x _ ((r.mono (t4.f.trans e46)).wipe _) t6.i r6 fun σ3 hw hρ3 => ⟨hw.trans wipe_wipe, ix_nil (iteT ?_)⟩
    have et : (rs.take (j + 1)).flatMap f = (rs.take j).flatMap f ++ f a := by
      rw [List.take_add_one, ha, List.flatMap_append]
      simp
    refine hbd σ3 Hf6 H6 _ _ hρ3 (I5.step t6) ?_ fun Hf' H' e' I' => ⟨Hf', e46.trans e', ?_⟩
    · have e0 : rs.flatMap f = (rs.take (j + 1)).flatMap f ++ (rs.drop (j + 1)).flatMap f := by rw [← List.flatMap_append, List.take_append_drop]
      have := congrArg List.length e0
      rw [List.length_append, et, List.length_append] at this
      rw [List.length_append]
      omega
    · rw [et, ← List.append_assoc]
      exact I'
  · have ej : j = rs.length := by omega
    subst ej
    rw [List.take_length] at I5
    exact .inl ⟨by have := S.stop H5 (e5.trans I5.choose_spec.1.i); rw [List.length_map] at this; exact this, q Hf5 H5 (t4.f.trans e5) I5⟩
end
/-- [elt for .. in .. for .. in .. for .. in ..], no tests -/
theorem ee_lc3 {i : XI} {ρ : En} {Φ : Dt → Prop} {elt t0 i0 t1 i1 t2 i2 : Expr} {scope : Scope} {pos : Pos} {w0 w1 w2 : TI} {g0 g1 g2 : TG} (own : List (Str × Nat)) (vs1 vs2 : List Nat)
    (hi0 : ∀ X, XOk i X → PI X t0 i0 w0) (hg0 : ∀ X, XOk (i.blk scope) X → PG X t0 g0) (hi1 : ∀ X, XOk (i.blk scope) X → PI X t1 i1 w1) (hg1 : ∀ X, XOk (i.blk scope) X → PG X t1 g1) (hi2 : ∀ X, XOk (i.blk scope) X → PI X t2 i2 w2) (hg2 : ∀ X, XOk (i.blk scope) X → PG X t2 g2)
    (h : ES i w0 ρ fun its => ∃ (α : Type) (enc : α → Dt) (rs : List α) (f : α → List PyData), its = rs.map enc ∧ (rs.flatMap f).length ≤ 40000 ∧ (∀ a ∈ rs, ∃ ρy, GD (i.blk scope) g0 (own.map (·.2)) (wipeE ρ (own.map (·.2))) ρy (enc a) ∧ ∀ D Hf1 H1, H1 D = none → BodyD (i.blk scope) D Hf1 H1 ρy (tInn w1 g1 (IX (i.blk scope) []) vs1 (tInn w2 g2 (IX (i.blk scope) []) vs2 (tPut (EX (i.blk scope) elt) D))) (f a)) ∧ Φ (.py (.list (rs.flatMap f))))
    (ok : blkC i.N i.sc scope own = true := by kernel_rfl) (hv1 : ∀ j ∈ vs1, j ∈ own.map (·.2) := by decide) (hv2 : ∀ j ∈ vs2, j ∈ vs1 := by decide)
    (hs : ∀ env x, foldedSetIterable i0 env x = pure x := by intro _ _; rfl) (hs1 : ∀ env x, foldedSetIterable i1 env x = pure x := by intro _ _; rfl) (hs2 : ∀ env x, foldedSetIterable i2 env x = pure x := by intro _ _; rfl) : EE i (.ListComp elt [⟨t0, i0, [], 0⟩, ⟨t1, i1, [], 0⟩, ⟨t2, i2, [], 0⟩] scope pos) ρ Φ := fun σ Hf H Q hρ e q => by
  refine ex_lc3 own vs1 vs2 hi0 hg0 hi1 hg1 hi2 hg2 ?_ ok hv1 hv2 hs hs1 hs2
  refine h σ Hf H _ hρ e fun J its Hf1 H1 t1 S ψ => ?_
  obtain ⟨α, enc, rs, f, rfl, hz, turn, fin⟩ := ψ
  intro D hD
  refine ⟨fun j k H => k = rs.length - j ∧ j ≤ rs.length ∧ ∃ Hf', Ex Hf1 Hf' ∧ LGrow i.K Hf1 H1 D ((rs.take j).flatMap f) Hf' H, ⟨rs.length, rfl, Nat.zero_le _, Hf1, Ex.refl _, LGrow.new t1.i hD⟩, ?_⟩
  rintro j k H5 ⟨rfl, hj, Hf5, e5, I5⟩
  have i5 := I5.choose_spec.1.i
  by_cases hlt : j < rs.length
  · have hlt' : j < (rs.map enc).length := by rw [List.length_map]; exact hlt
    refine .inr ⟨S.go j H5 hlt' (e5.trans i5), fun H' => ∃ Hf', Ex Hf1 Hf' ∧ LGrow i.K Hf1 H1 D ((rs.take (j + 1)).flatMap f) Hf' H', fun H' n => ⟨rs.length - (j + 1), by omega, rfl, hlt, n⟩, fun x H6 hy => ?_⟩
    obtain ⟨Hf6, d, hd, t6, r6⟩ := S.yld j H5 x H6 Hf5 hlt' e5 i5 hy
    rw [List.getElem?_map] at hd
    obtain ⟨a, ha, rfl⟩ := Option.map_eq_some_iff.mp hd
    obtain ⟨ρy, hgd, hbd⟩ := turn a (List.mem_of_getElem? ha)
    have e46 := e5.trans t6.f
    refine hgd (wipe σ (own.map (·.2))) Hf6 H6 x _ ((hρ.mono (t1.f.trans e46)).wipe _) t6.i r6 fun σ3 hw hρ3 => ?_
    refine ⟨hw.trans wipe_wipe, ix_nil (iteT ?_)⟩
    have et : (rs.take (j + 1)).flatMap f = (rs.take j).flatMap f ++ f a := by
      rw [List.take_add_one, ha, List.flatMap_append]
      simp
    refine hbd D Hf1 H1 hD σ3 Hf6 H6 _ _ hρ3 (I5.step t6) ?_ fun Hf' H' e' I' => ⟨Hf', e46.trans e', by rw [et]; exact I'⟩
    have e0 : rs.flatMap f = (rs.take (j + 1)).flatMap f ++ (rs.drop (j + 1)).flatMap f := by rw [← List.flatMap_append, List.take_append_drop]
    have := congrArg List.length e0
    rw [List.length_append, et, List.length_append] at this
    omega
  · have ej : j = rs.length := by omega
    subst ej
    rw [List.take_length] at I5
    obtain ⟨Hf', t, _, d⟩ := I5.done hD
    refine .inl ⟨by have := S.stop H5 (e5.trans i5); rw [List.length_map] at this; exact this, q _ _ Hf' H5 (t1.trans t) (rpy d) fin⟩
end Fq
/-! FqP4: tables, books, what stands in them. -/
namespace Fq
open PySem PySem.Spec PyProof.Rows L2 Evl
open RZ
open PySem.W (EachIs AllAlike Sortable dataLe)
section
variable {P : Program} {w : World} {K : PySem.W.Frag} {mg : Str → Option Value} {base : Heap}
theorem pl_int (n : Int) : Pl (.int n) := ⟨rfl, by simp [PyData.depth]⟩
theorem pl_str (n : Str) : Pl (.str n) := ⟨rfl, by simp [PyData.depth]⟩
theorem eqv_int (a b : Int) : PyData.eqv (.int a) (.int b) = decide (a = b) := by simp [PyData.eqv, Bool.beq_eq_decide_eq]
theorem eqv_str (a b : Str) : PyData.eqv (.str a) (.str b) = decide (a = b) := by simp [PyData.eqv, Bool.beq_eq_decide_eq]
/-! is_table -/
def S_is_table : Sg := fun ds Φ => ∃ t : Tb, ds = [.py (tbD t)] ∧ OkT t ∧ Φ (.py (.bool true))
theorem p_is_table (H : Hd K mg) : Pf P w K mg base "is_table" 6 ["thing"] 1 S_is_table := pf_of H q_is_table sc_is_table rfl fun ds Φ hl hS => by
  obtain ⟨⟨nm, c, rs⟩, rfl, ok, φ⟩ := hS
  have h1 : 1 ≤ c := ok.lo
  have h2 : c ≤ 3 := ok.hi
  have h3 : rs.length ≤ 6 := ok.many
  refine bb_if (et_w (ew_or (et_not (et_val (ee_isi (T := "tuple") (fr_isinstance H) (fr_tuple H) boot_tuple kit_tuple (ee_var 0 rfl ⟨_, rfl, _, rfl, ?_⟩))))))
  refine iteF (ew_or1 (et_cmp (ee_callB (fr_len H) PySem.boot_len (ea_cons (ee_var 0 rfl (ea_nil (ld_len (n := 3) (d := tbD (nm, c, rs)) rfl (ee_int (od_ne (pl_int _) (pl_int _) ⟨false, rfl, ?_⟩))))))) (hm := rfl)))
  refine iteF (bb_nil (bb_asg [1, 2, 3] (gx_tup (n := 3) (t := gsOf [1, 2, 3]) (gxs_cons (gx_name 1) (gxs_cons (gx_name 2) (gxs_cons (gx_name 3) gxs_nil)))) (ee_var 0 rfl ⟨_, gd_tup [1, 2, 3] rfl rfl, ?_⟩)))
  refine bb_if (et_w (ew_or (et_not (et_val (ee_call (p_is_word H).fnc (ea_cons (ee_var 1 rfl (ea_nil ⟨rfl, .w nm, rfl, ok.nm, true, rfl, ?_⟩))))))))
  refine iteF (ew_or (et_not (et_val (ee_call (p_is_whole H).fnc (ea_cons (ee_var 2 rfl (ea_nil ⟨rfl, _, rfl, true, rfl, ?_⟩)))))))
  refine iteF (ew_or1 (et_not (et_chainI (fun _ _ => op_le) (fun _ _ => op_le) (ee_int ⟨1, rfl, ee_var 2 rfl ⟨c, rfl, ?_⟩⟩))))
  rw [decide_eq_true (show (1 : Int) ≤ (c : Int) by omega)]
  refine iteT (ee_globInt (gi_WIDE H) rfl ⟨3, rfl, ?_⟩)
  rw [decide_eq_true (show (c : Int) ≤ 3 by omega)]
  refine iteF (bb_nil (bb_ret (ee_and (ee_call (p_are_rows H).fnc (ea_cons (ee_var 3 rfl (ea_cons (ee_var 2 rfl (ea_nil ⟨rfl, rs, c, rfl, ok.up, by omega, ok.rs, true, rfl, ?_⟩)))))))))
  refine iteT (ee_one (ee_cmp (ee_callB (fr_len H) PySem.boot_len (ea_cons (ee_var 3 rfl (ea_nil (ld_len (n := rs.length) (d := .tuple (rs.map rowD)) (by show rs.length = _; rw [List.length_map]) (ee_globInt (gi_ROWS H) rfl (od_le ?_))))))) (hm := rfl)))
  rw [decide_eq_true (show (rs.length : Int) ≤ 6 by omega)]
  exact φ
/-! heads -/
def S_heads : Sg := fun ds Φ => ∃ b : Bk, ds = [.py (bkD b)] ∧ b.length ≤ 1000 ∧ Φ (.py (.list ((headsOf b).map hdD)))
theorem p_heads (H : Hd K mg) : Pf P w K mg base "heads" 1 ["book"] 1 S_heads := pf_of H q_heads sc_heads rfl fun ds Φ hl hS => by
  obtain ⟨b, rfl, hz, φ⟩ := hS
  refine bb_ret (ee_lcF [("name", 1), ("columns", 2), ("rows", 3)] wx_tup (gx_tup (n := 3) (t := gsOf [1, 2, 3]) (gxs_cons (gx_name 1) (gxs_cons (gx_name 2) (gxs_cons (gx_name 3) gxs_nil)))) (es_tup (ee_var 0 rfl ⟨_, rfl, Tb, fun t => .py (tbD t), b, fun _ => true, fun t => hdD (t.1, t.2.1), by rw [List.map_map]; rfl, fun x y h => tbD_inj (Dt.py.inj h), by omega, fun t ht => ?_, ?_⟩)))
  · exact ⟨_, gd_tup [1, 2, 3] rfl rfl, ei_nil rfl, fun _ => ee_tup (ea_cons (ee_var 1 rfl (ea_cons (ee_var 2 rfl (ea_nil ⟨_, .cons (.cons .nil), Nat.le_of_ble_eq_true rfl, rfl⟩)))))⟩
  · rw [filter_yes]
    unfold headsOf at φ
    rw [List.map_map] at φ
    exact φ
/-! values_in -/
def S_values_in : Sg := fun ds Φ => ∃ b : Bk, ds = [.py (bkD b)] ∧ b.length ≤ 3 ∧ (∀ t ∈ b, OkT t) ∧ Φ (.py (.tuple ((vrisenM (valsOf b)).map Vl.d)))
theorem map_flat {α β : Type} (f : α → β) : ∀ l : List α, l.map f = l.flatMap fun a => [f a]
  | [] => rfl
  | a :: l => by
    rw [List.map_cons, List.flatMap_cons, map_flat f l]
    rfl
theorem flatL {α β : Type} (f : α → List β) (n : Nat) : ∀ l : List α, (∀ a ∈ l, (f a).length ≤ n) → (l.flatMap f).length ≤ l.length * n
  | [], _ => by simp
  | a :: l, h => by
    rw [List.flatMap_cons, List.length_append, List.length_cons, Nat.succ_mul]
    have h1 := h a (List.mem_cons_self ..)
    have h2 := flatL f n l fun x hx => h x (List.mem_cons_of_mem _ hx)
    omega
theorem p_values_in (H : Hd K mg) : Pf P w K mg base "values_in" 4 ["book"] 1 S_values_in := pf_of H q_values_in sc_values_in rfl fun ds Φ hl hS => by
  obtain ⟨b, rfl, hz, ok, φ⟩ := hS
  have len1 : ∀ t ∈ b, (t.2.2.flatMap id).length ≤ 18 := fun t ht => by
    have h1 := flatL id 3 t.2.2 fun r hr => by
      have o := (ok t ht).rs r hr
      have := o.len
      have := (ok t ht).hi
      show r.length ≤ 3
      omega
    have := (ok t ht).many
    omega
  have len2 : (valsOf b).length ≤ 54 := by
    have := flatL (fun t : Tb => t.2.2.flatMap id) 18 b len1
    unfold valsOf
    omega
  have eqv : (b.flatMap fun t : Tb => (t.2.2.flatMap id).map Vl.d) = (valsOf b).map Vl.d := by
    unfold valsOf
    rw [List.map_flatMap]
  refine bb_ret (ee_call (p_values_risen H).fnc (ea_cons (ee_lc3 [("row", 1), ("value", 2), ("name", 3), ("columns", 4), ("rows", 5)] [1, 2] [2] wx_tup (gx_tup (n := 3) (t := gsOf [3, 4, 5]) (gxs_cons (gx_name 3) (gxs_cons (gx_name 4) (gxs_cons (gx_name 5) gxs_nil)))) wx_tup (gx_name 1) wx_tup (gx_name 2) (es_tup (ee_var 0 rfl ⟨_, rfl, Tb, fun t => .py (tbD t), b, fun t => (t.2.2.flatMap id).map Vl.d, by rw [List.map_map]; rfl, by rw [eqv, List.length_map]; omega, fun t ht => ?_, ?_⟩)))))
  · refine ⟨_, gd_tup [3, 4, 5] rfl rfl, fun D Hf1 H1 hD => inn_data (es_tup (ee_var 5 rfl ⟨_, rfl, Row, fun r => .py (rowD r), t.2.2, fun r => r.map Vl.d, by rw [List.map_map]; rfl, by show List.map Vl.d (List.flatMap id t.2.2) = _; rw [List.map_flatMap]; rfl, fun r hr => ⟨_, gd_name 1, inn_data (es_tup (ee_var 1 rfl ⟨_, rfl, Vl, fun v => .py v.d, r, fun v => [v.d], by rw [List.map_map]; rfl, by show List.map Vl.d r = _; exact map_flat Vl.d r, fun v hv => ⟨_, gd_name 2, put_data hD (ee_var 2 rfl rfl)⟩⟩))⟩⟩))⟩
  · rw [eqv]
    exact ea_nil ⟨rfl, valsOf b, .inl rfl, by omega, φ⟩
/-! is_book -/
def sprD (p : Str × Str) : PyData := .tuple [.str p.1, .str p.2]
theorem sprD_inj (a b : Str × Str) (h : Dt.py (sprD a) = Dt.py (sprD b)) : a = b := by
  have h := Dt.py.inj h
  unfold sprD at h
  injection h with h
  injection h with h1 h
  injection h with h2 _
  exact Prod.ext (PyData.str.inj h1) (PyData.str.inj h2)
theorem ee_sliceL {i : XI} {ρ : En} {Φ : Dt → Prop} {e : Expr} {lo hi : Option Expr} {pos p2 : Pos} (h : EE i e ρ fun x => EO i ρ lo fun l => EO i ρ hi fun u => ∃ ds, x = .py (.list ds) ∧ Φ (.py (.list (cutD ds l u)))) : EE i (.Subscript e (.Slice lo hi none p2) pos) ρ Φ := fun σ Hf H Q hρ x q =>
  ex_slice (r := rSlL i.K) (fun X ok => by rw [← ok.K]; exact sl_list) (h σ Hf H _ hρ x fun v d Hf1 H1 t1 r1 φ => φ.run (hρ.mono t1.f) t1.i fun l Hf2 H2 t2 φ2 => φ2.run (hρ.mono (t1.f.trans t2.f)) t2.i fun u Hf3 H3 t3 φ3 => by
    obtain ⟨ds, rfl, φ4⟩ := φ3
    obtain ⟨p, xs, rfl, h1, d1⟩ := dp_lst (dp_mono (t2.f.trans t3.f) r1)
    have hl := dpAll_len d1
    refine ⟨p, xs, rfl, ex_l t3.i h1, fun p hp => q _ _ _ _ (((t1.trans t2).trans t3).trans (.new t3.i hp)) (rpy (dp_lst_new ?_ (fresh_back t3.i hp))) φ4⟩
    unfold cutV cutD
    rw [hl]
    exact dpAll_take _ (dpAll_drop _ d1))
def S_is_book : Sg := fun ds Φ => ∃ b : Bk, ds = [.py (bkD b)] ∧ OkB b ∧ Φ (.py (.bool true))
theorem p_is_book (H : Hd K mg) : Pf P w K mg base "is_book" 7 ["thing"] 1 S_is_book := pf_of H q_is_book sc_is_book rfl fun ds Φ hl hS => by
  obtain ⟨b, rfl, ok, φ⟩ := hS
  have h1 := ok.lo
  have h2 := ok.hi
  refine bb_if (et_w (ew_or (et_not (et_val (ee_isi (T := "tuple") (fr_isinstance H) (fr_tuple H) boot_tuple kit_tuple (ee_var 0 rfl ⟨_, rfl, _, rfl, ?_⟩))))))
  refine iteF (ew_or (et_not (et_chainI (fun _ _ => op_le) (fun _ _ => op_le) (ee_int ⟨1, rfl, ee_callB (fr_len H) PySem.boot_len (ea_cons (ee_var 0 rfl (ea_nil (ld_len (n := b.length) (d := bkD b) (by show b.length = _; rw [List.length_map]) ⟨_, rfl, ?_⟩))))⟩))))
  rw [decide_eq_true (show (1 : Int) ≤ (b.length : Int) by omega)]
  refine iteT (ee_globInt (gi_TABLES H) rfl ⟨3, rfl, ?_⟩)
  rw [decide_eq_true (show (b.length : Int) ≤ 3 by omega)]
  refine iteF (ew_or1 (et_not (et_val (ee_callB (fr_all H) boot_all (ea_cons (ee_lcF [("table", 5)] wx_tup (gx_name 5) (es_tup (ee_var 0 rfl ⟨_, rfl, Tb, fun t => .py (tbD t), b, fun _ => true, fun _ => .bool true, by rw [List.map_map]; rfl, fun x y h => tbD_inj (Dt.py.inj h), by omega, fun t ht => ?_, ?_⟩))))))))
  · exact ⟨_, gd_name 5, ei_nil rfl, fun _ => ee_call (p_is_table H).fnc (ea_cons (ee_var 5 rfl (ea_nil ⟨rfl, t, rfl, ok.ts t ht, rfl⟩)))⟩
  rw [filter_yes]
  refine ea_nil (ld_allT ⟨true, rfl, iteF (bb_nil ?_)⟩)
  refine bb_setLcF 1 [("name", 2), ("columns", 3), ("rows", 4)] wx_tup (gx_tup (n := 3) (t := gsOf [2, 3, 4]) (gxs_cons (gx_name 2) (gxs_cons (gx_name 3) (gxs_cons (gx_name 4) gxs_nil)))) (es_tup (ee_var 0 rfl ⟨_, rfl, Tb, fun t => .py (tbD t), b, fun _ => true, fun t => .str t.1, by rw [List.map_map]; rfl, fun x y h => tbD_inj (Dt.py.inj h), by omega, fun t ht => ?_, ?_⟩))
  · exact ⟨_, gd_tup [2, 3, 4] rfl rfl, ei_nil rfl, fun _ => ee_var 2 rfl rfl⟩
  rw [filter_yes]
  refine bb_ret (ee_and (ee_callB (fr_all H) boot_all (ea_cons (ee_lcF [("one", 6), ("other", 7)] (wx_zip (fr_zip H)) (gx_tup (n := 2) (t := gsOf [6, 7]) (gxs_cons (gx_name 6) (gxs_cons (gx_name 7) gxs_nil))) (es_zip (ea_cons (ee_var 1 rfl (ea_cons (ee_sliceL (ee_var 1 rfl (ee_int ⟨1, rfl, _, rfl, ?_⟩))) (hs := fun _ => rfl)))))))))
  refine ea_nil ⟨_, _, .inr rfl, Str × Str, fun p => .py (sprD p), (b.zip b.tail).map fun p => (p.1.1, p.2.1), fun _ => true, fun _ => .bool true, ?_, sprD_inj, ?_, fun p hp => ?_, ?_⟩
  · have e : cutD (b.map fun t => PyData.str t.1) (some 1) none = (b.map fun t => PyData.str t.1).tail := by
      have := cut_from (ds := b.map fun t => PyData.str t.1) (n := 1)
      rw [List.drop_one] at this
      exact this
    rw [e, ← List.map_tail, zip_map2, List.map_map, List.map_map]
    rfl
  · rw [List.length_map, List.length_zip]
    omega
  · obtain ⟨q, hq, rfl⟩ := List.mem_map.mp hp
    refine ⟨_, gd_tup [6, 7] rfl rfl, ei_nil rfl, fun _ => ee_cmp (ee_var 6 rfl (ee_var 7 rfl (od_ltA (by simp [PySem.W.alike]) (fun h => nomatch h) (by simp [PyData.depth]) ?_))) (hm := rfl)⟩
    rw [PySem.W.dataLt_str]
    have := zip_rise ok.up q hq
    unfold sLt at this
    rw [this]
  · rw [filter_yes]
    refine ea_nil (ld_allT ⟨true, rfl, iteT (ee_one (ee_cmp (ee_callB (fr_len H) PySem.boot_len (ea_cons (ee_call (p_values_in H).fnc (ea_cons (ee_var 0 rfl (ea_nil ⟨rfl, b, rfl, h2, ok.ts, ?_⟩)))))) (hm := rfl)))⟩)
    refine ea_nil (ld_len (n := (vrisenM (valsOf b)).length) (by show _ = _; rw [List.length_map]) (ee_globInt (gi_VALUES H) rfl (od_le ?_)))
    have := ok.vs
    rw [decide_eq_true (show ((vrisenM (valsOf b)).length : Int) ≤ 18 by omega)]
    exact φ
end
end Fq
/-! FqP5: books, a table by its name, wishes. -/
namespace Fq
open PySem PySem.Spec PyProof.Rows L2 Evl
open RZ
open PySem.W (EachIs AllAlike Sortable dataLe)
section
variable {P : Program} {w : World} {K : PySem.W.Frag} {mg : Str → Option Value} {base : Heap}
/-! are_books -/
theorem hd_plain : ∀ hs : List (Str × Nat), PyData.plainAll (hs.map hdD) = true
  | [] => rfl
  | h :: hs => by
    rw [List.map_cons, PyData.plainAll, hd_plain hs]
    rfl
theorem hd_depth : ∀ hs : List (Str × Nat), PyData.depthAll (hs.map hdD) ≤ 1
  | [] => by simp [PyData.depthAll]
  | h :: hs => by
    rw [List.map_cons, PyData.depthAll]
    have := hd_depth hs
    have : (hdD h).depth = 1 := by simp [hdD, PyData.depth, PyData.depthAll]
    omega
theorem hds_pl (hs : List (Str × Nat)) : Pl (.list (hs.map hdD)) := ⟨by rw [PyData.plain]; exact hd_plain hs, by rw [PyData.depth]; have := hd_depth hs; omega⟩
mutual
theorem eqv_self : ∀ d : PyData, d.plain = true → PyData.eqv d d = true
  | .none, _ => by simp [PyData.eqv]
  | .bool _, _ => by simp [PyData.eqv]
  | .int _, _ => by simp [PyData.eqv]
  | .str _, _ => by simp [PyData.eqv]
  | .list xs, h => by
    rw [PyData.plain] at h
    rw [PyData.eqv]
    exact eqvAll_self xs h
  | .tuple xs, h => by
    rw [PyData.plain] at h
    rw [PyData.eqv]
    exact eqvAll_self xs h
  | .dict _, h => by simp [PyData.plain] at h
theorem eqvAll_self : ∀ ds : List PyData, PyData.plainAll ds = true → PyData.eqvAll ds ds = true
  | [], _ => by simp [PyData.eqvAll]
  | d :: ds, h => by
    rw [PyData.plainAll, Bool.and_eq_true] at h
    rw [PyData.eqvAll, eqv_self d h.1, eqvAll_self ds h.2]
    rfl
end
def S_are_books : Sg := fun ds Φ => ∃ bs : List Bk, ds = [.py (bksD bs)] ∧ OkBs bs ∧ Φ (.py (.bool true))
theorem p_are_books (H : Hd K mg) : Pf P w K mg base "are_books" 8 ["thing"] 1 S_are_books := pf_of H q_are_books sc_are_books rfl fun ds Φ hl hS => by
  obtain ⟨bs, rfl, ok, φ⟩ := hS
  have h1 := ok.lo
  have h2 := ok.hi
  refine bb_if (et_w (ew_or (et_not (et_val (ee_isi (T := "tuple") (fr_isinstance H) (fr_tuple H) boot_tuple kit_tuple (ee_var 0 rfl ⟨_, rfl, _, rfl, ?_⟩))))))
  refine iteF (ew_or (et_not (et_chainI (fun _ _ => op_le) (fun _ _ => op_le) (ee_int ⟨1, rfl, ee_callB (fr_len H) PySem.boot_len (ea_cons (ee_var 0 rfl (ea_nil (ld_len (n := bs.length) (d := bksD bs) (by show bs.length = _; rw [List.length_map]) ⟨_, rfl, ?_⟩))))⟩))))
  rw [decide_eq_true (show (1 : Int) ≤ (bs.length : Int) by omega)]
  refine iteT (ee_globInt (gi_MANY H) rfl ⟨3, rfl, ?_⟩)
  rw [decide_eq_true (show (bs.length : Int) ≤ 3 by omega)]
  refine iteF (ew_or1 (et_not (et_val (ee_callB (fr_all H) boot_all (ea_cons (ee_lcF [("book", 1)] wx_tup (gx_name 1) (es_tup (ee_var 0 rfl ⟨_, rfl, Bk, fun t => .py (bkD t), bs, fun _ => true, fun _ => .bool true, by rw [List.map_map]; rfl, fun x y h => bkD_inj (Dt.py.inj h), by omega, fun b hb => ?_, ?_⟩))))))))
  · exact ⟨_, gd_name 1, ei_nil rfl, fun _ => ee_call (p_is_book H).fnc (ea_cons (ee_var 1 rfl (ea_nil ⟨rfl, b, rfl, ok.bk b hb, rfl⟩)))⟩
  rw [filter_yes]
  refine ea_nil (ld_allT ⟨true, rfl, iteF (bb_nil ?_)⟩)
  refine bb_ret (ee_callB (fr_all H) boot_all (ea_cons (ee_lcF [("book", 1)] wx_tup (gx_name 1) (es_tup (ee_var 0 rfl ⟨_, rfl, Bk, fun t => .py (bkD t), bs, fun _ => true, fun _ => .bool true, by rw [List.map_map]; rfl, fun x y h => bkD_inj (Dt.py.inj h), by omega, fun b hb => ?_, ?_⟩)))))
  · refine ⟨_, gd_name 1, ei_nil rfl, fun _ => ee_cmp (ee_call (p_heads H).fnc (ea_cons (ee_var 1 rfl (ea_nil ⟨rfl, b, rfl, by have := (ok.bk b hb).hi; omega, ?_⟩)))) (hm := rfl)⟩
    cases bs with
    | nil => simp at h1
    | cons b0 bs =>
      refine ee_call (p_heads H).fnc (ea_cons (ee_ixT (ee_var 0 rfl (ee_int ⟨_, 0, bkD b0, rfl, rfl, ixT0, ea_nil ⟨rfl, b0, rfl, by have := (ok.bk b0 (List.mem_cons_self ..)).hi; omega, ?_⟩⟩))))
      have e : headsOf b = headsOf b0 := ok.hd b hb
      rw [e]
      refine od_eq (hds_pl _) (hds_pl _) ?_
      rw [eqv_self _ (hds_pl _).pl]
  · rw [filter_yes]
    exact ea_nil (ld_allT φ)
/-! check_number -/
def S_check_number : Sg := fun ds Φ => ∃ m n : Nat, ds = [.py (.int (m : Int)), .py (.int (n : Int))] ∧ n < m ∧ Φ (.py .none)
theorem p_check_number (H : Hd K mg) : Pf P w K mg base "check_number" 2 ["many", "thing"] 2 S_check_number := pf_of H q_check_number sc_check_number rfl fun ds Φ hl hS => by
  obtain ⟨m, n, rfl, h, φ⟩ := hS
  refine bb_if (et_w (ew_or (et_not (et_val (ee_call (p_is_whole H).fnc (ea_cons (ee_var 1 rfl (ea_nil ⟨rfl, _, rfl, true, rfl, ?_⟩))))))))
  refine iteF (ew_or1 (et_not (et_chainI (fun _ _ => op_le) (fun _ _ => op_lt) (ee_int ⟨0, rfl, ee_var 1 rfl ⟨_, rfl, ?_⟩⟩))))
  rw [decide_eq_true (show (0 : Int) ≤ (n : Int) by omega)]
  refine iteT (ee_var 0 rfl ⟨_, rfl, ?_⟩)
  rw [decide_eq_true (show (n : Int) < (m : Int) by omega)]
  exact iteF (bb_nil (bb_nil φ))
/-! table_at -/
theorem tb_plain (t : Tb) : (tbD t).plain = true := by
  unfold tbD
  simp [PyData.plain, PyData.plainAll, rows_plain]
theorem rows_depth : ∀ rs : List Row, PyData.depthAll (rs.map rowD) ≤ 1
  | [] => by simp [PyData.depthAll]
  | r :: rs => by
    rw [List.map_cons, PyData.depthAll, row_depth]
    have := rows_depth rs
    omega
theorem tb_depth (t : Tb) : (tbD t).depth ≤ 3 := by
  unfold tbD
  have := rows_depth t.2.2
  simp [PyData.depth, PyData.depthAll]
  omega
theorem sLt_irr (a : Str) : sLt a a = false := by
  unfold sLt
  exact decide_eq_false fun h => absurd h (List.lt_irrefl _)
theorem filter_name {b : Bk} (up : b.Pairwise fun s t => sLt s.1 t.1 = true) {t : Tb} (h : t ∈ b) : (b.filter fun s => decide (s.1 = t.1)) = [t] := by
  induction b with
  | nil => cases h
  | cons x b ih =>
    obtain ⟨h1, h2⟩ := List.pairwise_cons.mp up
    have none : ∀ y : Tb, (∀ s ∈ b, sLt y.1 s.1 = true) → (b.filter fun s => decide (s.1 = y.1)) = [] := fun y hy => List.filter_eq_nil_iff.mpr fun s hs e => by
      have h3 := hy s hs
      rw [of_decide_eq_true e, sLt_irr] at h3
      cases h3
    rcases List.mem_cons.mp h with rfl | h
    · rw [List.filter_cons, if_pos (decide_eq_true rfl), none t h1]
    · have ne : ¬ x.1 = t.1 := fun e => by
        have h3 := h1 t h
        rw [e, sLt_irr] at h3
        cases h3
      rw [List.filter_cons, if_neg (by rw [decide_eq_false ne]; decide), ih h2 h]
def S_table_at : Sg := fun ds Φ => ∃ (b : Bk) (t : Tb), ds = [.py (bkD b), .py (.str t.1)] ∧ b.length ≤ 3 ∧ (b.Pairwise fun s t => sLt s.1 t.1 = true) ∧ t ∈ b ∧ Φ (.py (tbD t))
theorem p_table_at (H : Hd K mg) : Pf P w K mg base "table_at" 1 ["book", "thing"] 2 S_table_at := pf_of H q_table_at sc_table_at rfl fun ds Φ hl hS => by
  obtain ⟨b, t, rfl, hz, up, ht, φ⟩ := hS
  refine bb_setLcF 2 [("table", 3)] wx_tup (gx_name 3) (es_tup (ee_var 0 rfl ⟨_, rfl, Tb, fun t => .py (tbD t), b, fun s => decide (s.1 = t.1), tbD, by rw [List.map_map]; rfl, fun x y h => tbD_inj (Dt.py.inj h), by omega, fun s hs => ?_, ?_⟩))
  · refine ⟨_, gd_name 3, ei_one (et_w (ew_and (et_val (ee_isi (T := "str") (fr_isinstance H) (fr_str H) boot_str kit_str (ee_var 1 rfl ⟨_, rfl, _, rfl, ?_⟩))))), fun _ => ee_var 3 rfl rfl⟩
    refine iteT (ew_and1 (et_cmp (ee_ixT (ee_var 3 rfl (ee_int ⟨_, 0, .str s.1, rfl, rfl, ixT0, ee_var 1 rfl (od_eq (pl_str _) (pl_str _) ⟨_, rfl, ?_⟩)⟩))) (hm := rfl)))
    rw [eqv_str]
  · rw [filter_name up ht]
    refine bb_if (et_cmp (ee_var 2 rfl (ee_lst (ea_nil ⟨[], .nil, Nat.le_of_ble_eq_true rfl, od_eq ⟨?_, ?_⟩ ⟨rfl, by simp [PyData.depth, PyData.depthAll]⟩ ⟨false, ?_, ?_⟩⟩))) (hm := rfl))
    · show PyData.plain (.list [tbD t]) = true
      simp [PyData.plain, PyData.plainAll, tb_plain]
    · show PyData.depth (.list [tbD t]) ≤ 50
      have := tb_depth t
      simp [PyData.depth, PyData.depthAll]
      omega
    · simp [PyData.eqv, PyData.eqvAll]
    · exact iteF (bb_nil (bb_ret (ee_ixL (ee_var 2 rfl (ee_int ⟨_, 0, tbD t, rfl, rfl, ixT0, φ⟩)))))
end
end Fq
/-! FqP6: wishes, candidates, the asks. -/
namespace Fq
open PySem PySem.Spec PyProof.Rows L2 Evl
open RZ
open PySem.W (EachIs AllAlike Sortable dataLe)
/-! ### the model -/
/-- a wish: book, row, wished -/
abbrev Ws := Nat × Row × Bool
def wsD (x : Ws) : PyData := .tuple [.int (x.1 : Int), rowD x.2.1, .bool x.2.2]
/-- an answer: rows of each book -/
abbrev Ans := List (List Row)
def rwsD (rs : List Row) : PyData := .tuple (rs.map rowD)
def anD (a : Ans) : PyData := .tuple (a.map rwsD)
def fits (ws : List Ws) (a : Ans) : Bool := ws.all fun x => decide (x.2.1 ∈ a.getD x.1 []) == x.2.2
structure Lot where
  sz : Int
  q : PyData
  c : Nat
  an : Ans
def lotD (l : Lot) : PyData := .tuple [.int l.sz, l.q, .int (l.c : Int), anD l.an]
theorem rwsD_inj {a b : List Row} (h : rwsD a = rwsD b) : a = b := rows_inj (PyData.tuple.inj h)
theorem ans_inj : ∀ {a b : Ans}, a.map rwsD = b.map rwsD → a = b
  | [], [], _ => rfl
  | [], _ :: _, h => nomatch h
  | _ :: _, [], h => nomatch h
  | x :: xs, y :: ys, h => by
    rw [List.map_cons, List.map_cons] at h
    obtain ⟨h1, h2⟩ := List.cons.inj h
    rw [rwsD_inj h1, ans_inj h2]
theorem anD_inj {a b : Ans} (h : anD a = anD b) : a = b := ans_inj (PyData.tuple.inj h)
theorem lotD_inj {a b : Lot} (h : lotD a = lotD b) : a = b := by
  obtain ⟨a1, a2, a3, a4⟩ := a
  obtain ⟨b1, b2, b3, b4⟩ := b
  unfold lotD at h
  injection h with h
  injection h with h1 h
  injection h with h2 h
  injection h with h3 h
  injection h with h4 _
  have e1 : a1 = b1 := PyData.int.inj h1
  have e2 : a2 = b2 := h2
  have e3 : a3 = b3 := Int.ofNat.inj (PyData.int.inj h3)
  have e4 : a4 = b4 := anD_inj h4
  rw [e1, e2, e3, e4]
theorem wsD_inj {a b : Ws} (h : wsD a = wsD b) : a = b := by
  obtain ⟨a1, a2, a3⟩ := a
  obtain ⟨b1, b2, b3⟩ := b
  unfold wsD at h
  injection h with h
  injection h with h1 h
  injection h with h2 h
  injection h with h3 _
  have e1 : a1 = b1 := Int.ofNat.inj (PyData.int.inj h1)
  have e2 : a2 = b2 := rowD_inj _ _ (congrArg Dt.py h2)
  have e3 : a3 = b3 := PyData.bool.inj h3
  rw [e1, e2, e3]
section
variable {P : Program} {w : World} {K : PySem.W.Frag} {mg : Str → Option Value} {base : Heap}
theorem pl_bool (n : Bool) : Pl (.bool n) := ⟨rfl, by simp [PyData.depth]⟩
theorem eqv_bool (a b : Bool) : PyData.eqv (.bool a) (.bool b) = (a == b) := by simp [PyData.eqv]
theorem getT {α : Type} {enc : α → PyData} {l : List α} {n : Nat} {x : α} (h : l[n]? = some x) : atI (l.map enc) (n : Int) = some (enc x) := atI_nat (by rw [List.getElem?_map, h]; rfl)
/-! wish_key -/
def keyW (x : Ws) : PyData := .list [.int (x.1 : Int), keyR x.2.1]
def S_wish_key : Sg := fun ds Φ => ∃ x : Ws, ds = [.py (wsD x)] ∧ x.2.1.length ≤ 1000 ∧ Φ (.py (keyW x))
theorem p_wish_key (H : Hd K mg) : Pf P w K mg base "wish_key" 3 ["wish"] 1 S_wish_key := pf_of H q_wish_key sc_wish_key rfl fun ds Φ hl hS => by
  obtain ⟨x, rfl, hz, φ⟩ := hS
  refine bb_ret (ee_lst (ea_cons (ee_ixT (ee_var 0 rfl (ee_int ⟨_, 0, .int (x.1 : Int), rfl, rfl, ixT0, ?_⟩)))))
  refine ea_cons (ee_call (p_row_key H).fnc (ea_cons (ee_ixT (ee_var 0 rfl (ee_int ⟨_, 1, rowD x.2.1, rfl, rfl, atI_nat (j := 1) rfl, ea_nil ⟨rfl, x.2.1, rfl, hz, ?_⟩⟩)))))
  exact ea_nil ⟨_, .cons (.cons .nil), Nat.le_of_ble_eq_true rfl, φ⟩
/-! fits_answer -/
def S_fits_answer : Sg := fun ds Φ => ∃ (ws : List Ws) (a : Ans), ds = [.py (.tuple (ws.map wsD)), .py (anD a)] ∧ ws.length ≤ 1000 ∧ (∀ x ∈ ws, x.1 < a.length) ∧ Φ (.py (.bool (fits ws a)))
theorem p_fits_answer (H : Hd K mg) : Pf P w K mg base "fits_answer" 1 ["wishes", "answer"] 2 S_fits_answer := pf_of H q_fits_answer sc_fits_answer rfl fun ds Φ hl hS => by
  obtain ⟨ws, a, rfl, hz, hb, φ⟩ := hS
  refine bb_ret (ee_callB (fr_all H) boot_all (ea_cons (ee_lcF [("book", 2), ("row", 3), ("wished", 4)] wx_tup (gx_tup (n := 3) (t := gsOf [2, 3, 4]) (gxs_cons (gx_name 2) (gxs_cons (gx_name 3) (gxs_cons (gx_name 4) gxs_nil)))) (es_tup (ee_var 0 rfl ⟨_, rfl, Ws, fun x => .py (wsD x), ws, fun _ => true, fun x => .bool (decide (x.2.1 ∈ a.getD x.1 []) == x.2.2), by rw [List.map_map]; rfl, fun x y h => wsD_inj (Dt.py.inj h), by omega, fun x hx => ?_, ?_⟩)))))
  · have hl := hb x hx
    refine ⟨_, gd_tup [2, 3, 4] rfl rfl, ei_nil rfl, fun _ => ee_cmp (ee_cmp (ee_var 3 rfl (ee_ixT (ee_var 1 rfl (ee_var 2 rfl ⟨_, _, rwsD (a.getD x.1 []), rfl, rfl, getT (l := a) (by rw [List.getD_eq_getElem?_getD, List.getElem?_eq_getElem hl]; rfl), od_inT (row_pl _) (rows_plain _) ?_⟩)))) (hm := rfl)) (hm := rfl)⟩
    rw [rows_any]
    refine ee_var 4 rfl (od_eq (pl_bool _) (pl_bool _) ?_)
    rw [eqv_bool]
  · rw [filter_yes]
    have e : (ws.map fun x => PyData.bool (decide (x.2.1 ∈ a.getD x.1 []) == x.2.2)) = (ws.map fun x => (decide (x.2.1 ∈ a.getD x.1 []) == x.2.2)).map PyData.bool := by rw [List.map_map]; rfl
    rw [e]
    refine ea_nil (ld_all ?_)
    rw [List.all_map]
    exact φ
/-! candidates -/
def cands (ls : List Lot) (c : Nat) (ws : List Ws) : List Lot := ls.filter fun l => decide (l.c = c) && fits ws l.an
def S_candidates : Sg := fun ds Φ => ∃ (ls : List Lot) (c : Nat) (ws : List Ws), ds = [.py (.tuple (ls.map lotD)), .py (.int (c : Int)), .py (.tuple (ws.map wsD))] ∧ ls.length ≤ 1000 ∧ ws.length ≤ 1000 ∧ (∀ l ∈ ls, ∀ x ∈ ws, x.1 < l.an.length) ∧ Φ (.py (.tuple ((cands ls c ws).map lotD)))
theorem p_candidates (H : Hd K mg) : Pf P w K mg base "candidates" 2 ["lots", "columns", "wishes"] 3 S_candidates := pf_of H q_candidates sc_candidates rfl fun ds Φ hl hS => by
  obtain ⟨ls, c, ws, rfl, hz, hz2, hb, φ⟩ := hS
  refine bb_ret (ee_callTy (fr_tuple H) (by decide +kernel) (ea_cons (ee_lcF [("lot", 3)] wx_tup (gx_name 3) (es_tup (ee_var 0 rfl ⟨_, rfl, Lot, fun x => .py (lotD x), ls, fun l => decide (l.c = c) && fits ws l.an, lotD, by rw [List.map_map]; rfl, fun x y h => lotD_inj (Dt.py.inj h), by omega, fun l hl => ?_, ea_nil (ld_tuple φ)⟩)))))
  refine ⟨_, gd_name 3, ei_one (et_w (ew_and (et_cmp (ee_ixT (ee_var 3 rfl (ee_int ⟨_, 2, .int (l.c : Int), rfl, rfl, atI_nat (j := 2) rfl, ee_var 1 rfl (od_eq (pl_int _) (pl_int _) ⟨_, rfl, ?_⟩)⟩))) (hm := rfl)))), fun _ => ee_var 3 rfl rfl⟩
  rw [eqv_int]
  by_cases e : l.c = c
  · have hp : (decide (l.c = c) && fits ws l.an) = fits ws l.an := by rw [decide_eq_true e, Bool.true_and]
    rw [decide_eq_true (show (l.c : Int) = (c : Int) by omega)]
    refine iteT (ew_and1 (et_val (ee_call (p_fits_answer H).fnc (ea_cons (ee_var 2 rfl (ea_cons (ee_ixT (ee_var 3 rfl (ee_int ⟨_, 3, anD l.an, rfl, rfl, atI_nat (j := 3) rfl, ea_nil ⟨rfl, ws, l.an, rfl, hz2, hb l hl, _, rfl, hp.symm⟩⟩)))))))))
  · have hp : (decide (l.c = c) && fits ws l.an) = false := by rw [decide_eq_false e, Bool.false_and]
    rw [decide_eq_false (show ¬ (l.c : Int) = (c : Int) by omega)]
    exact iteF hp.symm
/-! worse_side -/
theorem ld_max2 {i : XI} {Φ : Dt → Prop} {m n : Int} (h : Φ (.py (.int (max m n)))) : CallD i (.builtin "max") [.py (.int m), .py (.int n)] Φ := callD_of (fun X ok => call_max2 ok.calm) fun Hf H vs Q e r q => by
  cases r with
  | cons r1 t =>
    cases t with
    | cons r2 t =>
      cases t
      cases r1
      cases r2
      refine ⟨m, n, rfl, q _ _ Hf H (.refl e) (rpy (Dp.int _)) ?_⟩
      have e : (if n > m then n else m) = max m n := by
        split <;> omega
      rw [e]
      exact h
def askD (x : Nat × Row × Nat × Nat) : PyData := .tuple [.int (x.1 : Int), rowD x.2.1, .int (x.2.2.1 : Int), .int (x.2.2.2 : Int)]
def S_worse_side : Sg := fun ds Φ => ∃ x : Nat × Row × Nat × Nat, ds = [.py (askD x)] ∧ Φ (.py (.int (max (x.2.2.1 : Int) (x.2.2.2 : Int))))
theorem p_worse_side (H : Hd K mg) : Pf P w K mg base "worse_side" 1 ["entry"] 1 S_worse_side := pf_of H q_worse_side sc_worse_side rfl fun ds Φ hl hS => by
  obtain ⟨x, rfl, φ⟩ := hS
  refine bb_ret (ee_callB (id := "max") (fr_max H) (by decide +kernel) (ea_cons (ee_ixT (ee_var 0 rfl (ee_int ⟨_, 2, .int (x.2.2.1 : Int), rfl, rfl, atI_nat (j := 2) rfl, ?_⟩)))))
  exact ea_cons (ee_ixT (ee_var 0 rfl (ee_int ⟨_, 3, .int (x.2.2.2 : Int), rfl, rfl, atI_nat (j := 3) rfl, ea_nil (ld_max2 φ)⟩)))
/-! counts_over -/
/-- how often each row stands at the place b, in the order of its first sight -/
def cntAdd (acc : List (Row × Nat)) (r : Row) : List (Row × Nat) := if r ∈ acc.map (·.1) then acc.map fun p => if p.1 = r then (p.1, p.2 + 1) else p else acc ++ [(r, 1)]
def cntD (p : Row × Nat) : PyData × PyData := (rowD p.1, .int (p.2 : Int))
def counts (ls : List Lot) (b : Nat) : List (Row × Nat) := ls.foldl (fun acc l => (l.an.getD b []).foldl cntAdd acc) []
theorem cnt_get (acc : List (Row × Nat)) (r : Row) : getD (acc.map cntD) (rowD r) = (acc.find? fun p => decide (p.1 = r)).map fun p => .int (p.2 : Int) := by
  induction acc with
  | nil => rfl
  | cons p acc ih =>
    unfold getD at ih ⊢
    rw [List.map_cons, List.find?_cons, List.find?_cons]
    by_cases e : p.1 = r
    · have e1 : nk (cntD p).1 = nk (rowD r) := by
        show nk (rowD p.1) = _
        rw [e]
      rw [decide_eq_true e1, decide_eq_true e]
      rfl
    · have e1 : ¬ nk (cntD p).1 = nk (rowD r) := fun z => e (nk_row_inj z)
      rw [decide_eq_false e1, decide_eq_false e]
      exact ih
theorem cnt_find {acc : List (Row × Nat)} {r : Row} : (acc.find? fun p => decide (p.1 = r)) = none ↔ r ∉ acc.map (·.1) := by
  rw [List.find?_eq_none]
  constructor
  · intro h hr
    obtain ⟨p, hp, e⟩ := List.mem_map.mp hr
    exact h p hp (decide_eq_true e)
  · intro h p hp e
    exact h (List.mem_map.mpr ⟨p, hp, of_decide_eq_true e⟩)
theorem cnt_put (acc : List (Row × Nat)) (nd : (acc.map (·.1)).Nodup) (r : Row) : putD (acc.map cntD) (rowD r) (.int (match acc.find? fun p => decide (p.1 = r) with | some p => (p.2 : Int) + 1 | none => 0 + 1)) = (cntAdd acc r).map cntD := by
  unfold putD cntAdd
  rw [cnt_get]
  cases e : acc.find? fun p => decide (p.1 = r) with
  | none =>
    rw [if_neg (by decide), if_neg (cnt_find.mp e), List.map_append]
    rfl
  | some p =>
    have hm : r ∈ acc.map (·.1) := by
      refine Classical.not_not.mp fun h => ?_
      rw [cnt_find.mpr h] at e
      cases e
    rw [if_pos (show (some p |>.map fun p : Row × Nat => PyData.int (p.2 : Int)).isSome = true from rfl), if_pos hm, List.map_map, List.map_map]
    refine List.map_congr_left fun q hq => ?_
    have hp1 : p.1 = r := of_decide_eq_true (List.find?_some (p := fun p : Row × Nat => decide (p.1 = r)) e)
    have hp2 : p ∈ acc := List.mem_of_find?_eq_some e
    show setD (rowD r) (.int ((p.2 : Int) + 1)) (cntD q) = cntD (if q.1 = r then (q.1, q.2 + 1) else q)
    unfold setD
    by_cases h : q.1 = r
    · have hpq : q = p := by
        obtain ⟨i, hi, e1⟩ := List.getElem_of_mem hq
        obtain ⟨j, hj, e2⟩ := List.getElem_of_mem hp2
        have : i = j := (List.getElem_inj (h₀ := by rw [List.length_map]; exact hi) (h₁ := by rw [List.length_map]; exact hj) nd).mp (by rw [List.getElem_map, List.getElem_map, e1, e2, h, hp1])
        subst this
        rw [← e1, ← e2]
      subst hpq
      rw [if_pos (show nk (cntD q).1 = nk (rowD r) by show nk (rowD q.1) = _; rw [h]), if_pos h]
      show (rowD q.1, PyData.int ((q.2 : Int) + 1)) = (rowD q.1, PyData.int ((q.2 + 1 : Nat) : Int))
      rw [Int.natCast_succ]
    · rw [if_neg (show ¬ nk (cntD q).1 = nk (rowD r) from fun z => h (nk_row_inj z)), if_neg h]
theorem cntAdd_keys (acc : List (Row × Nat)) (r : Row) : (cntAdd acc r).map (·.1) = ins (acc.map (·.1)) r := by
  unfold cntAdd ins
  by_cases h : r ∈ acc.map (·.1)
  · rw [if_pos h, if_pos h, List.map_map]
    refine List.map_congr_left fun p _ => ?_
    show (if p.1 = r then (p.1, p.2 + 1) else p).1 = p.1
    split <;> rfl
  · rw [if_neg h, if_neg h, List.map_append]
    rfl
/-- a slot that holds the object at D -/
def refDt (D : Addr) : Dt := .ob (fun _ v => v = .ref D) fun _ _ _ _ h => h
theorem RpE.ref {K : PySem.W.Frag} {H : Hp} {σ : L2.St} {ρ : En} {j : Nat} {D : Addr} (h : RpE K H σ ρ) (hj : ρ[j]? = some (some (refDt D))) : σ[j]? = some (some (.ref D)) := by
  obtain ⟨v, h1, h2⟩ := h.get j _ hj
  have e : v = .ref D := h2
  rw [e] at h1
  exact h1
theorem ex_ndnew {i : XI} {σ : L2.St} {H : Hp} {Q : VK} {pos : Pos} (h : ∀ p, H p = none → Q (.ref p) (upd H p (ndO i.P i.w p []))) : EX i (.Dict [] [] pos) σ H Q := ⟨fun X ok pins s I =>
  wpAny_Dict_empty ⟨.ref s.heap.objs.size, _, I.laid (a := s.heap.objs.size) (o := ndO X.prog X.w s.heap.objs.size []) (t' := s.toks) (fun _ _ q => Heap.get?_push_of_some _ q) (Nat.le_refl _) ((dsN X.prog X.w X.K).laid _ _ I.big), rfl, by
    rw [ok.prog, ok.w]
    exact h _ (I.hok.fresh (Nat.le_refl _))⟩⟩
/-- a dict of ours that grows: what stands, told from the start -/
def DGrow (P : Program) (w : World) (K : PySem.W.Frag) (Hf0 H0 : Hp) (D : Addr) (kvs : List (PyData × PyData)) (Hf H : Hp) : Prop := ∃ es, Tr Hf0 H0 Hf H ∧ Hf D = none ∧ H D = some (ndO P w D es) ∧ DE K Hf es kvs
theorem DGrow.step {Hf0 H0 : Hp} {D : Addr} {kvs : List (PyData × PyData)} {Hf H Hf' H' : Hp} (h : DGrow P w K Hf0 H0 D kvs Hf H) (t : Tr Hf H Hf' H') : DGrow P w K Hf0 H0 D kvs Hf' H' := by
  obtain ⟨es, h1, h2, h3, h4⟩ := h
  exact ⟨es, h1.trans t, t.n D _ h3 h2, t.h D _ h3, de_mono t.f h4⟩
theorem DGrow.put {Hf0 H0 : Hp} {D : Addr} {kvs : List (PyData × PyData)} {Hf H : Hp} {es : NE} {k v : PyData} {b : Addr} {y : V} (t : Tr Hf0 H0 Hf H) (h2 : Hf D = none) (h3 : H D = some (ndO P w D es)) (h4 : DE K Hf es kvs) (hD : H0 D = none) (hk : KeyD k) (kb : Dp K Hf (.ref b) k) (hv : Dp K Hf y v) :
    Ex Hf (upd H D (ndO P w D (putN es (nk k) b y))) ∧ DGrow P w K Hf0 H0 D (putD kvs k v) Hf (upd H D (ndO P w D (putN es (nk k) b y))) := by
  have ex : Ex Hf (upd H D (ndO P w D (putN es (nk k) b y))) := fun q o hq => by
    rw [upd_ne (ne_of_none hq h2)]
    exact t.i q o hq
  exact ⟨ex, _, ⟨t.f, ex, Ex.mut t.h hD, t.n⟩, h2, upd_same, de_put h4 hk kb hv⟩
theorem counts_len (ls : List Lot) (b : Nat) (acc : List (Row × Nat)) : ∀ rs : List Row, (rs.foldl cntAdd acc).length ≤ acc.length + rs.length := by
  intro rs
  induction rs generalizing acc with
  | nil => exact Nat.le_refl _
  | cons r rs ih =>
    have h1 := ih (cntAdd acc r)
    have h2 : (cntAdd acc r).length ≤ acc.length + 1 := by
      unfold cntAdd
      split
      · rw [List.length_map]
        omega
      · rw [List.length_append]
        exact Nat.le_refl _
    rw [List.foldl_cons, List.length_cons]
    omega
theorem cntF_nd (acc : List (Row × Nat)) (h : (acc.map (·.1)).Nodup) : ∀ rs : List Row, ((rs.foldl cntAdd acc).map (·.1)).Nodup := by
  intro rs
  induction rs generalizing acc with
  | nil => exact h
  | cons r rs ih =>
    rw [List.foldl_cons]
    refine ih _ ?_
    rw [cntAdd_keys]
    exact ins_nd h
def cntsN (ls : List Lot) (b n : Nat) : List (Row × Nat) := (ls.take n).foldl (fun acc l => (l.an.getD b []).foldl cntAdd acc) []
theorem cntsN_nd (ls : List Lot) (b n : Nat) : ((cntsN ls b n).map (·.1)).Nodup := by
  unfold cntsN
  generalize ls.take n = l
  have key : ∀ (l : List Lot) (acc : List (Row × Nat)), (acc.map (·.1)).Nodup → ((l.foldl (fun acc l => (l.an.getD b []).foldl cntAdd acc) acc).map (·.1)).Nodup := by
    intro l
    induction l with
    | nil => exact fun acc h => h
    | cons x l ih => exact fun acc h => ih _ (cntF_nd acc h _)
  exact key l [] List.nodup_nil
theorem cntsN_len {ls : List Lot} {b : Nat} (h : ∀ l ∈ ls, (l.an.getD b []).length ≤ 6) (n : Nat) : (cntsN ls b n).length ≤ 6 * ls.length := by
  have key : ∀ (l : List Lot) (acc : List (Row × Nat)), (∀ x ∈ l, (x.an.getD b []).length ≤ 6) → (l.foldl (fun acc l => (l.an.getD b []).foldl cntAdd acc) acc).length ≤ acc.length + 6 * l.length := by
    intro l
    induction l with
    | nil => exact fun acc _ => Nat.le_refl _
    | cons x l ih =>
      intro acc hx
      have h1 := ih ((x.an.getD b []).foldl cntAdd acc) fun y hy => hx y (List.mem_cons_of_mem _ hy)
      have h2 := counts_len [] b acc (x.an.getD b [])
      have h3 := hx x (List.mem_cons_self ..)
      rw [List.foldl_cons, List.length_cons]
      omega
  have h1 := key (ls.take n) [] fun x hx => h x (List.mem_of_mem_take hx)
  have h2 := List.length_take_le n ls
  have h3 : (ls.take n).length ≤ ls.length := by
    rw [List.length_take]
    omega
  unfold cntsN
  rw [List.length_nil] at h1
  omega
end
end Fq
/-! FqP6c: counts_over. -/
namespace Fq
open PySem PySem.Spec PyProof.Rows L2 Evl
open RZ
open PySem.W (EachIs AllAlike Sortable dataLe)
section
variable {P : Program} {w : World} {K : PySem.W.Frag} {mg : Str → Option Value} {base : Heap}
/-- ρ'' tells nothing but what ρ' tells -/
structure Sub (ρ' ρ'' : En) : Prop where
  len : ρ'.length = ρ''.length
  get : ∀ (j : Nat) (d : Dt), ρ''[j]? = some (some d) → ρ'[j]? = some (some d)
theorem RpE.sub {K : PySem.W.Frag} {H : Hp} {σ : L2.St} {ρ' ρ'' : En} (h : RpE K H σ ρ') (s : Sub ρ' ρ'') : RpE K H σ ρ'' := ⟨h.len.trans s.len, fun j d e => h.get j d (s.get j d e)⟩
theorem wipeE_len (ρ : En) : ∀ vs, (wipeE ρ vs).length = ρ.length
  | [] => rfl
  | v :: vs => by
    unfold wipeE
    rw [List.length_set, wipeE_len ρ vs]
theorem wipeE_get {ρ : En} {j : Nat} : ∀ {vs : List Nat}, (wipeE ρ vs)[j]? = if j ∈ vs then ρ[j]?.map (fun _ => none) else ρ[j]?
  | [] => by simp [wipeE]
  | v :: vs => by
    unfold wipeE
    by_cases e : v = j
    · subst e
      rw [if_pos (List.mem_cons_self ..), List.getElem?_set_self', wipeE_get]
      split <;> cases ρ[v]? <;> rfl
    · rw [List.getElem?_set_ne e, wipeE_get]
      have : (j ∈ v :: vs) ↔ j ∈ vs := by
        rw [List.mem_cons]
        exact ⟨fun h => h.elim (fun z => absurd z.symm e) id, .inr⟩
      by_cases q : j ∈ vs
      · rw [if_pos q, if_pos (this.mpr q)]
      · rw [if_neg q, if_neg fun z => q (this.mp z)]
theorem setAll_get {j : Nat} : ∀ {js : List Nat} {ds : List PyData} {ρ : En}, j ∉ js → (setAll ρ js ds)[j]? = ρ[j]? ∧ (setAll ρ js ds).length = ρ.length
  | [], [], ρ, _ => ⟨rfl, rfl⟩
  | [], _ :: _, ρ, _ => ⟨rfl, rfl⟩
  | _ :: _, [], ρ, _ => ⟨rfl, rfl⟩
  | k :: ks, d :: ds, ρ, h => by
    obtain ⟨h1, h2⟩ := setAll_get (js := ks) (ds := ds) (ρ := ρ.set k (some (.py d))) fun z => h (List.mem_cons_of_mem _ z)
    unfold setAll
    refine ⟨h1.trans (List.getElem?_set_ne fun z => h (by rw [z]; exact List.mem_cons_self ..)), h2.trans (List.length_set ..)⟩
theorem sub_set {ρ : En} {vs : List Nat} {v : Nat} {x : Option Dt} (h : v ∈ vs) : Sub ((wipeE ρ vs).set v x) (wipeE ρ vs) := ⟨List.length_set .., fun j d e => by
  have hj : j ∉ vs := fun z => by
    rw [wipeE_get, if_pos z] at e
    cases q : ρ[j]? <;> rw [q] at e <;> cases e
  rw [List.getElem?_set_ne fun z => hj (by rw [← z]; exact h)]
  exact e⟩
theorem sub_back {ρ : En} {vs js us : List Nat} {ds : List PyData} (h1 : ∀ j ∈ js, j ∈ vs) (h2 : ∀ j ∈ us, j ∈ vs) : Sub (wipeE (setAll (wipeE ρ vs) js ds) us) (wipeE ρ vs) := by
  have out : ∀ (j : Nat) (d : Dt), (wipeE ρ vs)[j]? = some (some d) → j ∉ vs := fun j d e z => by
    rw [wipeE_get, if_pos z] at e
    cases q : ρ[j]? <;> rw [q] at e <;> cases e
  refine ⟨?_, fun j d e => ?_⟩
  · rw [wipeE_len]
    have key : ∀ (js : List Nat) (ds : List PyData) (ρ : En), (setAll ρ js ds).length = ρ.length := by
      intro js
      induction js with
      | nil => intro ds ρ; cases ds <;> rfl
      | cons k ks ih =>
        intro ds ρ
        cases ds with
        | nil => rfl
        | cons d ds =>
          unfold setAll
          rw [ih, List.length_set]
    exact key js ds _
  · have hj := out j d e
    rw [wipeE_get, if_neg fun z => hj (h2 j z), (setAll_get fun z => hj (h1 j z)).1]
    exact e
theorem sub_nil : Sub [] [] := ⟨rfl, fun _ _ h => h⟩
theorem sub_same {x : Option Dt} {a b : En} (h : Sub a b) : Sub (x :: a) (x :: b) := ⟨congrArg (· + 1) h.len, fun j d e => by
  cases j with
  | zero => exact e
  | succ j => exact h.get j d e⟩
theorem sub_drop {x : Option Dt} {a b : En} (h : Sub a b) : Sub (x :: a) (none :: b) := ⟨congrArg (· + 1) h.len, fun j d e => by
  cases j with
  | zero => cases e
  | succ j => exact h.get j d e⟩
def S_counts_over (P : Program) (w : World) (K : PySem.W.Frag) : Sg := fun ds Φ => ∃ (ls : List Lot) (b : Nat), ds = [.py (.tuple (ls.map lotD)), .py (.int (b : Int))] ∧ (∀ l ∈ ls, b < l.an.length ∧ (l.an.getD b []).length ≤ 6) ∧ ls.length ≤ 1000 ∧ Φ (dicD P w K ((counts ls b).map cntD))
theorem p_counts_over (H : Hd K mg) : Pf P w K mg base "counts_over" 1 ["some", "book"] 2 (S_counts_over P w K) := pf_of H q_counts_over sc_counts_over rfl fun ds Φ hl hS => by
  obtain ⟨ls, b, rfl, hb, hz, φ⟩ := hS
  intro σ Hf H0 E hρ ex qn qr
  refine go_set 2 (ex_ndnew fun D hD => ?_)
  have hDf : Hf D = none := fresh_back ex hD
  have ρ1 : RpE K Hf (σ.set 2 (some (.ref D))) [some (.py (.tuple (ls.map lotD))), some (.py (.int (b : Int))), some (refDt D), none, none, none, none, none] := hρ.set (d := refDt D) rfl
  have d0 : DGrow P w K Hf H0 D [] Hf (upd H0 D (ndO P w D [])) := ⟨[], .drop ex hD, hDf, upd_same, .nil⟩
  refine gm_for [3, 4, 5, 6] wx_tup (gx_tup (n := 4) (t := gsOf [3, 4, 5, 6]) (gxs_cons (gx_name 3) (gxs_cons (gx_name 4) (gxs_cons (gx_name 5) (gxs_cons (gx_name 6) gxs_nil))))) ρ1 (Tr.drop ex hD).i (es_tup (Ψ := fun its => its = (ls.map lotD).map Dt.py) (ee_var 0 rfl ⟨_, rfl, rfl⟩)) fun its Hf1 H1 t1 eits => ?_
  subst eits
  refine ⟨[some (.py (.tuple (ls.map lotD))), some (.py (.int (b : Int))), some (refDt D), none, none, none, none, none], fun j => DGrow P w K Hf H0 D ((cntsN ls b j).map cntD), ρ1.mono t1.f, d0.step t1, fun j _ _ _ _ h t => h.step t, fun j d hd => ?_, ?_⟩
  · rw [List.map_map, List.getElem?_map] at hd
    obtain ⟨l, hlj, rfl⟩ := Option.map_eq_some_iff.mp hd
    have hbl := hb l (List.mem_of_getElem? hlj)
    refine ⟨[some (.py (.tuple (ls.map lotD))), some (.py (.int (b : Int))), some (refDt D), some (.py (.int l.sz)), some (.py l.q), some (.py (.int (l.c : Int))), some (.py (anD l.an)), none], gd_tup (ds := [.int l.sz, l.q, .int (l.c : Int), anD l.an]) [3, 4, 5, 6] rfl rfl, fun σ2 Hf2 H2 e1 e2 r2 I2 => ?_⟩
    refine gm_for [7] wx_tup (gx_name 7) r2 e2 (es_tup (Ψ := fun its => its = ((l.an.getD b []).map rowD).map Dt.py) (ee_ixT (ee_var 6 rfl (ee_var 1 rfl ⟨_, _, rwsD (l.an.getD b []), rfl, rfl, getT (l := l.an) (by rw [List.getD_eq_getElem?_getD, List.getElem?_eq_getElem hbl.1]; rfl), _, rfl, rfl⟩)))) fun its Hf3 H3 t3 eits => ?_
    subst eits
    refine ⟨[some (.py (.tuple (ls.map lotD))), some (.py (.int (b : Int))), some (refDt D), some (.py (.int l.sz)), some (.py l.q), some (.py (.int (l.c : Int))), some (.py (anD l.an)), none], fun k => DGrow P w K Hf H0 D ((((l.an.getD b []).take k).foldl cntAdd (cntsN ls b j)).map cntD), r2.mono t3.f, I2.step t3, fun k _ _ _ _ h t => h.step t, fun k d hd => ?_, ?_⟩
    · rw [List.map_map, List.getElem?_map] at hd
      obtain ⟨r, hrk, rfl⟩ := Option.map_eq_some_iff.mp hd
      refine ⟨[some (.py (.tuple (ls.map lotD))), some (.py (.int (b : Int))), some (refDt D), some (.py (.int l.sz)), some (.py l.q), some (.py (.int (l.c : Int))), some (.py (anD l.an)), some (.py (rowD r))], gd_name 7, fun σ3 Hf4 H4 e3 e4 r3 ⟨es, h1, h2, h3, h4⟩ => ?_⟩
      obtain ⟨vr, hvr, rr⟩ := r3.get 7 (.py (rowD r)) rfl
      have rr' : Dp K Hf4 vr (rowD r) := rr
      obtain ⟨br, ys, rfl, _, _⟩ := dp_tup rr'
      have hkeys : ∀ x ∈ es, KeyAt K H4 x.1 x.2.1 := de_keys (de_mono e4 h4)
      have hkey : KeyAt K H4 (nk (rowD r)) br := de_key (dp_mono e4 rr') (row_keyD r)
      have hlen : es.length < sizeLine := by
        have l1 := de_len h4
        have l2 := counts_len ls b (cntsN ls b j) ((l.an.getD b []).take k)
        have l3 := cntsN_len (fun l hl => (hb l hl).2) j
        have l4 : ((l.an.getD b []).take k).length ≤ 6 := by
          rw [List.length_take]
          have := hbl.2
          omega
        rw [List.length_map] at l1
        rw [sizeLine_eq]
        omega
      have nd : (((((l.an.getD b []).take k).foldl cntAdd (cntsN ls b j))).map (·.1)).Nodup := cntF_nd _ (cntsN_nd ls b j) _
      have eacc : (((l.an.getD b []).take (k + 1)).foldl cntAdd (cntsN ls b j)) = cntAdd (((l.an.getD b []).take k).foldl cntAdd (cntsN ls b j)) r := by
        rw [List.take_add_one, hrk, List.foldl_append]
        rfl
      generalize hacc : (((l.an.getD b []).take k).foldl cntAdd (cntsN ls b j)) = acc at h4 nd eacc
      have hval : (getN es (nk (rowD r))).getD (.int 0) = .int (match acc.find? fun p => decide (p.1 = r) with | some p => (p.2 : Int) | none => 0) := by
        have g := de_get h4 (rowD r)
        rw [cnt_get] at g
        cases e : acc.find? fun p => decide (p.1 = r) with
        | none =>
          rw [e] at g
          rcases g with ⟨_, g⟩ | ⟨v, y, g, _⟩
          · rw [g]
            rfl
          · cases g
        | some p =>
          rw [e] at g
          rcases g with ⟨g, _⟩ | ⟨v, y, g, g2, g3⟩
          · cases g
          · have ev : v = .int (p.2 : Int) := (Option.some.inj g).symm
            subst ev
            cases g3
            rw [g2]
            rfl
      have hput : putD (acc.map cntD) (rowD r) (.int ((match acc.find? fun p => decide (p.1 = r) with | some p => (p.2 : Int) | none => 0) + 1)) = (cntAdd acc r).map cntD := by
        rw [← cnt_put acc nd r]
        cases acc.find? fun p => decide (p.1 = r) <;> rfl
      obtain ⟨ex9, dg9⟩ := DGrow.put (v := .int ((match acc.find? fun p => decide (p.1 = r) with | some p => (p.2 : Int) | none => 0) + 1)) (y := .int ((match acc.find? fun p => decide (p.1 = r) with | some p => (p.2 : Int) | none => 0) + 1)) h1 h2 h3 h4 hD (row_keyD r) rr' (Dp.int _)
      have hget : ∀ X, XOk (iOf P w K mg base N_counts_over d_counts_over.scope 0) X → MtR X "dict.get" (rNdGet P w K) := fun X ok => by
        have e1 : X.prog = P := ok.prog
        have e2 : X.w = w := ok.w
        have e3 : X.K = K := ok.K
        rw [← e1, ← e2, ← e3]
        exact mt_ndGet ok.room.units
      refine go_ndput (ex_op (fun X ok => op_add) (ex_ndm F.slot_dict_get F.type_dict_get hget (ex_var 2 (r3.ref rfl) ⟨⟨D, es, rfl, h3⟩, ax_cons (ex_var 7 hvr (ax_cons (ex_int (ax_nil ⟨D, es, _, br, .int 0, rfl, rfl, h3, hkeys, hkey, ?_⟩))))⟩)))
      rw [hval]
      refine ex_int ⟨_, _, rfl, rfl, ex_var 2 (r3.ref rfl) (ex_var 7 hvr ⟨D, es, _, br, rfl, rfl, h3, hkeys, hkey, hlen, go_nil ?_⟩)⟩
      refine ⟨Hf4, e3, ex9, r3.sub (by repeat (first | exact sub_nil | refine sub_same ?_ | refine sub_drop ?_)), ?_⟩
      rw [hput] at dg9
      show DGrow P w K Hf H0 D ((((l.an.getD b []).take (k + 1)).foldl cntAdd (cntsN ls b j)).map cntD) _ _
      rw [eacc]
      exact dg9
    · intro σ3 Hf4 H4 e3 e4 r3 I3
      refine go_nil ⟨Hf4, (e1.trans t3.f).trans e3, e4, r3.sub (by repeat (first | exact sub_nil | refine sub_same ?_ | refine sub_drop ?_)), ?_⟩
      rw [List.length_map, List.length_map, List.take_length] at I3
      have e : cntsN ls b (j + 1) = (l.an.getD b []).foldl cntAdd (cntsN ls b j) := by
        unfold cntsN
        rw [List.take_add_one, hlj, List.foldl_append]
        rfl
      show DGrow P w K Hf H0 D ((cntsN ls b (j + 1)).map cntD) _ _
      rw [e]
      exact I3
  · intro σ2 Hf2 H2 e1 e2 r2 ⟨es, h1, h2, h3, h4⟩
    rw [List.length_map, List.length_map] at h4
    refine go_ret (ex_var 2 (r2.ref rfl) (qr _ (dicD P w K _) (upd Hf2 D (ndO P w D es)) H2 (h1.adopt h2 h3 hD) ⟨D, es, rfl, upd_same, de_mono (Ex.new h2) h4⟩ ?_))
    unfold cntsN
    rw [List.take_length]
    exact φ
end
end Fq
/-! FqP7: the table of asks. -/
namespace Fq
open PySem PySem.Spec PyProof.Rows L2 Evl
open RZ
open PySem.W (EachIs AllAlike Sortable dataLe)
section
variable {i : XI} {ρ : En} {Φ : Dt → Prop} {a b : Expr} {pos : Pos}
/-- d[k], d a dict with tuple keys, k in it -/
theorem ee_dix (h : EE i a ρ fun x => EE i b ρ fun y => ∃ kvs k v, x = dicD i.P i.w i.K kvs ∧ y = .py k ∧ KeyD k ∧ getD kvs k = some v ∧ Φ (.py v)) (hs : NoSl b := by intro _ _; rfl) : EE i (.Subscript a b pos) ρ Φ := fun σ Hf H Q hρ e q => by
  refine ⟨fun X ok pins s I => ?_⟩
  have hab : EX i a σ H fun v H1 => EX i b σ H1 fun u H2 => ∃ Hf2 kvs k z, Tr Hf H Hf2 H2 ∧ Rp i.K Hf2 v (dicD i.P i.w i.K kvs) ∧ Dp i.K Hf2 u k ∧ KeyD k ∧ getD kvs k = some z ∧ Φ (.py z) :=
    h σ Hf H _ hρ e fun v x Hf1 H1 t1 r1 φ => φ σ Hf1 H1 _ (hρ.mono t1.f) t1.i fun u y Hf2 H2 t2 r2 ⟨kvs, k, z, e1, e2, hk, hg, φ2⟩ => by
      subst e1 e2
      exact ⟨Hf2, kvs, k, z, t1.trans t2, rp_mono t2.f r1, r2, hk, hg, φ2⟩
  refine subD_of PySem.F.slot_dict_getitem.lookup hs (thn (hab.run X ok pins s I) fun u s1 ⟨v, H1, I1, rv, q1⟩ => thn (q1.run X ok pins s1 I1) fun iv s2 ⟨y, H2, I2, ry, Hf2, kvs, k, z, t, ⟨D, es, ev, hD, de⟩, dk, hk, hg, φ⟩ => ?_)
  subst ev
  obtain rfl : u = Value.ref D := rv
  obtain ⟨xs, exs⟩ := hk.tp
  have dk' : Dp i.K Hf2 y (.tuple xs) := by
    rw [← exs]
    exact dk
  obtain ⟨br, ys, rfl, _, _⟩ := dp_tup dk'
  obtain rfl : iv = Value.ref br := ry
  have hD2 : H2 D = some (ndO X.prog X.w D es) := by
    rw [ok.prog, ok.w]
    exact t.i _ _ hD
  refine ⟨(nd_type I2 hD2).1, ?_⟩
  rcases de_get de k with ⟨e1, _⟩ | ⟨v0, y0, e1, e2, dv⟩
  · rw [hg] at e1
    cases e1
  · rw [hg] at e1
    obtain rfl := Option.some.inj e1
    refine nd_getItem I2 ok.room.units hD2 (by rw [ok.K]; exact de_keys (de_mono t.i de)) (by rw [ok.K]; exact de_key (dp_mono t.i dk) hk) e2 fun w' s3 I3 rw' => ⟨y0, H2, I3, rw', q _ _ Hf2 H2 t (rpy dv) φ⟩
end
/-- found.append(e), found in slot j: a list of ours -/
theorem gm_append {i : XI} {ρ : En} {E : Ends} {σ : L2.St} {Hf0 H0 Hf H : Hp} {e : Expr} {x : Str} {pos p apos cpos : Pos} {rest : List Stmt} {D : Addr} {zs : List PyData} {z : PyData} (j : Nat) (hρ : RpE i.K Hf σ ρ) (hj : ρ[j]? = some (some (refDt D))) (I : LGrow i.K Hf0 H0 D zs Hf H) (hD : H0 D = none) (hz : zs.length ≤ 100000)
    (h : EE i e ρ fun d => d = .py z) (q : ∀ Hf1 H1, Ex Hf Hf1 → Ex Hf1 H1 → RpE i.K Hf1 σ ρ → LGrow i.K Hf0 H0 D (zs ++ [z]) Hf1 H1 → GO i rest E σ H1) (hN : i.N[j]? = some x := by rfl) (hv : Vis i.sc x := by first | exact Or.inl rfl | exact Or.inr (Or.inl rfl) | exact Or.inr (Or.inr rfl))
    (hd : (x == ("__debug__" : Str)) = false := by decide) (hcd : (x == ("__classdict__" : Str)) = false := by decide) (hbase : ∀ env, attributeBase (.Name x p) "append" env (eval (.Name x p) env) = eval (.Name x p) env := by intro _; rfl) (hs : ∀ env, starEach [e] env = (false, eval e env) :: starEach [] env := by intro _; rfl)
    (hsw : ∀ env, swapsWith (.Call (.Attribute (.Name x p) "append" apos) [e] [] cpos) none pos.line env = pure false := by intro _; rfl)
    (hfew : ∀ env, ((backTo cpos (starEach [e] env)).all (fun x => !x.1) && (backToKw cpos (keywordEach [] env)).all (fun x => x.1.isSome) && decide (([e] : List Expr).length + ([] : List Keyword).length + (if ([] : List Keyword).isEmpty then 0 else 1) < 30)) = true := by intro _; rfl)
    (hline : (apos.endLine == cpos.line) = true := by rfl) : GO i (.Expr (.Call (.Attribute (.Name x p) "append" apos) [e] [] cpos) pos :: rest) E σ H := by
  obtain ⟨vs, h1, h2, h3, h4⟩ := I
  refine go_append (ex_var j (hρ.ref hj) ⟨D, rfl, ⟨vs, h3⟩, h σ Hf H _ hρ h1.i fun v d Hf1 H1 t1 r1 ed => ?_⟩ hN hv hd hcd) hbase hs hsw hfew hline
  subst ed
  obtain ⟨ex, g⟩ := LGrow.push (h1.trans t1) (t1.n D _ h3 h2) (t1.h D _ h3) (dpAll_mono t1.f h4) hD r1
  refine ⟨vs, t1.h D _ h3, ?_, q Hf1 _ t1.f ex (hρ.mono t1.f) g⟩
  rw [dpAll_len h4, sizeLine_eq]
  omega
end Fq
/-! FqP8: the table of asks, the next ask. -/
namespace Fq
open PySem PySem.Spec PyProof.Rows L2 Evl
open RZ
open PySem.W (EachIs AllAlike Sortable dataLe)
/-- a lot as the reach holds it -/
structure OkL (n : Nat) (l : Lot) : Prop where
  qp : l.q.plain = true
  qd : l.q.depth ≤ 5
  an : l.an.length = n
  rs : ∀ rs ∈ l.an, RiseR rs ∧ rs.length ≤ 6 ∧ ∀ r ∈ rs, OkR l.c r
/-- the rows asked of a book, in order, with how many have them -/
def askRow (ls : List Lot) (b : Nat) (r : Row) : Option (Nat × Row × Nat × Nat) := match (counts ls b).find? fun p => decide (p.1 = r) with
  | some p => if p.2 < ls.length then some (b, r, p.2, ls.length - p.2) else none
  | none => none
def askRows (ls : List Lot) (b : Nat) : List (Nat × Row × Nat × Nat) := (sortB rLt ((counts ls b).map (·.1))).filterMap (askRow ls b)
def asks (ls : List Lot) : List (Nat × Row × Nat × Nat) := match ls with
  | [] => []
  | l :: _ => (List.range l.an.length).flatMap (askRows ls)
theorem ans_plain : ∀ a : Ans, PyData.plainAll (a.map rwsD) = true
  | [] => rfl
  | x :: xs => by
    rw [List.map_cons, PyData.plainAll, ans_plain xs]
    unfold rwsD
    rw [PyData.plain, rows_plain]
    rfl
theorem ans_depth : ∀ a : Ans, PyData.depthAll (a.map rwsD) ≤ 2
  | [] => by simp [PyData.depthAll]
  | x :: xs => by
    rw [List.map_cons, PyData.depthAll]
    have h1 := ans_depth xs
    have h2 : (rwsD x).depth ≤ 2 := by
      unfold rwsD
      rw [PyData.depth]
      have := rows_depth x
      omega
    omega
theorem lot_plain {n : Nat} {l : Lot} (ok : OkL n l) : (lotD l).plain = true := by
  unfold lotD anD
  simp [PyData.plain, PyData.plainAll, ok.qp, ans_plain]
theorem lot_depth {n : Nat} {l : Lot} (ok : OkL n l) : (lotD l).depth ≤ 6 := by
  unfold lotD anD
  have h1 := ans_depth l.an
  have h2 := ok.qd
  simp [PyData.depth, PyData.depthAll]
  omega
theorem lots_plain {n : Nat} : ∀ {ls : List Lot}, (∀ l ∈ ls, OkL n l) → PyData.plainAll (ls.map lotD) = true
  | [], _ => rfl
  | l :: ls, h => by
    rw [List.map_cons, PyData.plainAll, lot_plain (h l (List.mem_cons_self ..)), lots_plain fun x hx => h x (List.mem_cons_of_mem _ hx)]
    rfl
theorem lots_depth {n : Nat} : ∀ {ls : List Lot}, (∀ l ∈ ls, OkL n l) → PyData.depthAll (ls.map lotD) ≤ 6
  | [], _ => by simp [PyData.depthAll]
  | l :: ls, h => by
    rw [List.map_cons, PyData.depthAll]
    have h1 := lot_depth (h l (List.mem_cons_self ..))
    have h2 := lots_depth fun x hx => h x (List.mem_cons_of_mem _ hx)
    omega
theorem lots_pl {n : Nat} {ls : List Lot} (h : ∀ l ∈ ls, OkL n l) : Pl (.tuple (ls.map lotD)) := ⟨by rw [PyData.plain]; exact lots_plain h, by rw [PyData.depth]; have := lots_depth h; omega⟩
section
variable {P : Program} {w : World} {K : PySem.W.Frag} {mg : Str → Option Value} {base : Heap}
theorem counts_keys (ls : List Lot) (b : Nat) : (counts ls b).map (·.1) = (ls.flatMap fun l => l.an.getD b []).foldl ins [] := by
  have inner : ∀ (rs : List Row) (acc : List (Row × Nat)), (rs.foldl cntAdd acc).map (·.1) = rs.foldl ins (acc.map (·.1)) := by
    intro rs
    induction rs with
    | nil => exact fun acc => rfl
    | cons r rs ih =>
      intro acc
      rw [List.foldl_cons, List.foldl_cons, ih, cntAdd_keys]
  have key : ∀ (l : List Lot) (acc : List (Row × Nat)), (l.foldl (fun acc l => (l.an.getD b []).foldl cntAdd acc) acc).map (·.1) = (l.flatMap fun l => l.an.getD b []).foldl ins (acc.map (·.1)) := by
    intro l
    induction l with
    | nil => exact fun acc => rfl
    | cons x l ih =>
      intro acc
      rw [List.foldl_cons, ih, inner, List.flatMap_cons, List.foldl_append]
  exact key ls []
def S_table_of_asks : Sg := fun ds Φ => ∃ (ls : List Lot) (n : Nat), ds = [.py (.tuple (ls.map lotD))] ∧ (∀ l ∈ ls, OkL n l) ∧ n ≤ 3 ∧ ls.length ≤ 160 ∧ Φ (.py (.tuple ((asks ls).map askD)))
theorem p_table_of_asks (H : Hd K mg) : Pf P w K mg base "table_of_asks" 4 ["some"] 1 S_table_of_asks := pf_of H q_table_of_asks sc_table_of_asks rfl fun ds Φ hl hS => by
  obtain ⟨ls, n, rfl, ok, hn, hz, φ⟩ := hS
  refine bb_if (et_cmp (ee_var 0 rfl (ee_tup (ea_nil ⟨[], .nil, Nat.le_of_ble_eq_true rfl, od_eq (lots_pl ok) ⟨rfl, by simp [PyData.depth, PyData.depthAll]⟩ ⟨_, rfl, ?_⟩⟩))) (hm := rfl))
  cases ls with
  | nil => exact iteT (bb_ret (ee_tup (ea_nil ⟨[], .nil, Nat.le_of_ble_eq_true rfl, φ⟩)))
  | cons l0 ls =>
    have e0 : PyData.eqv (.tuple ((l0 :: ls).map lotD)) (.tuple []) = false := by simp [PyData.eqv, PyData.eqvAll]
    rw [e0]
    refine iteF (bb_nil ?_)
    generalize hls : l0 :: ls = L at ok hz φ e0
    have hL0 : L[0]? = some l0 := by rw [← hls]; rfl
    have an0 : l0.an.length = n := (ok l0 (List.mem_of_getElem? hL0)).an
    intro σ Hf H0 E hρ ex qn qr
    refine go_set 1 (ex_lst (ax_nil ⟨Nat.zero_le _, fun D hD => ?_⟩))
    have hDf : Hf D = none := fresh_back ex hD
    have ρ1 : RpE K Hf (σ.set 1 (some (.ref D))) ((st0 N_table_of_asks [.py (.tuple (L.map lotD))]).set 1 (some (refDt D))) := hρ.set (d := refDt D) rfl
    refine gm_for [2] (wx_rng1 rfl (fr_range H)) (gx_name 2) ρ1 (Tr.drop ex hD).i (es_rng1 (Ψ := fun its => its = rngD 0 n) (ea_cons (ee_callB (fr_len H) PySem.boot_len (ea_cons (ee_ixT (ee_ixT (ee_var 0 rfl (ee_int ⟨_, 0, lotD l0, rfl, rfl, getT (n := 0) hL0, ?_⟩)))))))) fun its Hf1 H1 t1 eits => ?_
    · exact ee_int ⟨_, 3, anD l0.an, rfl, rfl, atI_nat (j := 3) rfl, ea_nil (ld_len (n := n) (by show n = _; rw [List.length_map, an0]) (ea_nil ⟨n, rfl, by omega, rfl⟩))⟩
    subst eits
    have okb : ∀ b, b < n → ∀ l ∈ L, b < l.an.length ∧ (l.an.getD b []).length ≤ 6 := fun b hb l hl => by
      have hlt : b < l.an.length := by rw [(ok l hl).an]; exact hb
      refine ⟨hlt, ?_⟩
      rw [List.getD_eq_getElem?_getD, List.getElem?_eq_getElem hlt]
      exact ((ok l hl).rs _ (List.getElem_mem hlt)).2.1
    refine ⟨wipeE _ [2, 3, 4], fun j => LGrow K Hf H0 D (((List.range j).flatMap (askRows L)).map askD), (ρ1.mono t1.f).less _, (LGrow.new ex hD).step t1, fun j _ _ _ _ h t => h.step t, fun j d hd => ?_, ?_⟩
    · unfold rngD at hd
      rw [List.getElem?_map] at hd
      obtain ⟨j', hj', rfl⟩ := Option.map_eq_some_iff.mp hd
      obtain ⟨hjn, ej⟩ := List.getElem?_eq_some_iff.mp hj'
      rw [List.length_range] at hjn
      rw [List.getElem_range] at ej
      subst ej
      refine ⟨_, gd_name 2, fun σ2 Hf2 H2 e1 e2 r2 I2 => ?_⟩
      refine gm_set (Φ := fun d => d = dicD P w K ((counts L j).map cntD)) 3 r2 e2 (ee_call (p_counts_over H).fnc (ea_cons (ee_var 0 rfl (ea_cons (ee_var 2 rfl (ea_nil ⟨rfl, L, j, by rw [Int.zero_add], okb j hjn, by omega, rfl⟩)))))) fun v d Hf3 H3 t3 r3 rv ed => ?_
      subst ed
      have e3 : ((counts L j).map cntD).map (·.1) = ((counts L j).map (·.1)).map rowD := by
        rw [List.map_map, List.map_map]
        rfl
      have nd : ((counts L j).map (·.1)).Nodup := by
        have := cntsN_nd L j L.length
        unfold cntsN at this
        rw [List.take_length] at this
        exact this
      have rmem : ∀ r ∈ (counts L j).map (·.1), r.length ≤ 3 := fun r hr => by
        rw [counts_keys, (fold_ins _ []).1] at hr
        rcases hr with hr | hr
        · cases hr
        · obtain ⟨l, hl, hr⟩ := List.mem_flatMap.mp hr
          have hlt : j < l.an.length := (okb j hjn l hl).1
          rw [List.getD_eq_getElem?_getD, List.getElem?_eq_getElem hlt] at hr
          have o := ((ok l hl).rs _ (List.getElem_mem hlt)).2.2 r hr
          have := o.len
          have := o.hi
          omega
      have clen : (counts L j).length ≤ 960 := by
        have h1 := cntsN_len (fun l hl => (okb j hjn l hl).2) L.length
        unfold cntsN at h1
        rw [List.take_length] at h1
        show (counts L j).length ≤ 960
        unfold counts
        omega
      refine gm_for [4] wx_list (gx_name 4) r3 t3.i (es_list (Ψ := fun its => its = (sortB rLt ((counts L j).map (·.1))).map fun r => .py (rowD r)) (ee_sortK (p_row_key H).keyF (fr_sorted H) (ee_callTy (fr_list H) (by decide +kernel) (ea_cons (ee_var 3 rfl (ea_nil (ld_list ⟨_, keyRD, rfl, ?_, _, rfl, ?_⟩))))))) fun its Hf4 H4 t4 eits => ?_
      · rw [e3]
        exact row_sort (by rw [List.length_map]; omega) fun r hr => by have := rmem r hr; omega
      · rw [e3, sort_data keyRD_d, List.map_map]
        rfl
      subst eits
      refine ⟨wipeE _ [4], fun k => LGrow K Hf H0 D ((((List.range j).flatMap (askRows L)) ++ ((sortB rLt ((counts L j).map (·.1))).take k).filterMap (askRow L j)).map askD), (r3.mono t4.f).less _, ?_, fun k _ _ _ _ h t => h.step t, fun k d hd => ?_, ?_⟩
      · show LGrow K Hf H0 D ((((List.range j).flatMap (askRows L)) ++ ((sortB rLt ((counts L j).map (·.1))).take 0).filterMap (askRow L j)).map askD) Hf4 H4
        rw [List.take_zero, List.filterMap_nil, List.append_nil]
        exact (I2.step t3).step t4
      · rw [List.getElem?_map] at hd
        obtain ⟨r, hrk, rfl⟩ := Option.map_eq_some_iff.mp hd
        have hrm : r ∈ (counts L j).map (·.1) := (sortB_perm _).mem_iff.mp (List.mem_of_getElem? hrk)
        obtain ⟨p, hp⟩ : ∃ p, (counts L j).find? (fun p => decide (p.1 = r)) = some p := by
          cases h : (counts L j).find? fun p => decide (p.1 = r) with
          | some p => exact ⟨p, rfl⟩
          | none => exact absurd hrm (cnt_find.mp h)
        have hg : getD ((counts L j).map cntD) (rowD r) = some (.int (p.2 : Int)) := by
          rw [cnt_get, hp]
          rfl
        have eask : askRow L j r = if p.2 < L.length then some (j, r, p.2, L.length - p.2) else none := by
          unfold askRow
          rw [hp]
        have etk : (((sortB rLt ((counts L j).map (·.1))).take (k + 1)).filterMap (askRow L j)) = ((sortB rLt ((counts L j).map (·.1))).take k).filterMap (askRow L j) ++ (askRow L j r).toList := by
          rw [List.take_add_one, hrk, List.filterMap_append]
          congr 1
        refine ⟨_, gd_name 4, fun σ5 Hf5 H5 e5 e6 r5 I5 => ?_⟩
        refine gm_if (Φ := fun b => b = decide ((p.2 : Int) < (L.length : Int))) r5 e6 (et_cmp (ee_dix (ee_var 3 rfl (ee_var 4 rfl ⟨_, rowD r, .int (p.2 : Int), rfl, rfl, row_keyD r, hg, ?_⟩))) (hm := rfl)) fun b Hf6 H6 t6 hb => ?_
        · exact ee_callB (fr_len H) PySem.boot_len (ea_cons (ee_var 0 rfl (ea_nil (ld_len (n := L.length) (d := .tuple (L.map lotD)) (by show L.length = _; rw [List.length_map]) (od_lt ⟨_, rfl, rfl⟩)))))
        subst hb
        by_cases hlt : p.2 < L.length
        · rw [decide_eq_true (show (p.2 : Int) < (L.length : Int) by omega)]
          refine iteT ?_
          refine gm_append (z := askD (j, r, p.2, L.length - p.2)) 1 (r5.mono t6.f) rfl (I5.step t6) hD ?_ ?_ fun Hf7 H7 e7 e8 r7 I7 => go_nil (go_nil ⟨Hf7, (e5.trans t6.f).trans e7, e8, r7.sub (sub_set (by decide)), ?_⟩)
          · have b1 : ∀ b, b < n → (askRows L b).length ≤ 960 := fun b hb => by
              have h0 : (askRows L b).length ≤ (sortB rLt ((counts L b).map (·.1))).length := List.length_filterMap_le ..
              have h1 := cntsN_len (fun l hl => (okb b hb l hl).2) L.length
              unfold cntsN at h1
              rw [List.take_length] at h1
              rw [(sortB_perm _).length_eq, List.length_map] at h0
              unfold counts at h0
              omega
            have b2 : ∀ m, m ≤ n → ((List.range m).flatMap (askRows L)).length ≤ 960 * m := by
              intro m
              induction m with
              | zero => intro _; simp
              | succ m ih =>
                intro hm
                have h1 := ih (by omega)
                have h2 := b1 m (by omega)
                rw [List.range_succ, List.flatMap_append, List.flatMap_singleton, List.length_append]
                omega
            have h1 := b2 j (by omega)
            have h2 : (((sortB rLt ((counts L j).map (·.1))).take k).filterMap (askRow L j)).length ≤ 960 := by
              refine Nat.le_trans (List.length_filterMap_le ..) ?_
              rw [List.length_take, (sortB_perm _).length_eq, List.length_map]
              omega
            rw [List.length_map, List.length_append]
            omega
          · refine ee_tup (ea_cons (ee_var 2 rfl (ea_cons (ee_var 4 rfl (ea_cons (ee_dix (ee_var 3 rfl (ee_var 4 rfl ⟨_, rowD r, .int (p.2 : Int), rfl, rfl, row_keyD r, hg, ?_⟩))))))))
            refine ea_cons (ee_op (ee_callB (fr_len H) PySem.boot_len (ea_cons (ee_var 0 rfl (ea_nil (ld_len (n := L.length) (d := .tuple (L.map lotD)) (by show L.length = _; rw [List.length_map]) (ee_dix (ee_var 3 rfl (ee_var 4 rfl ⟨_, rowD r, .int (p.2 : Int), rfl, rfl, row_keyD r, hg, od_sub (ea_nil ⟨_, .cons (.cons (.cons (.cons .nil))), Nat.le_of_ble_eq_true rfl, ?_⟩)⟩)))))))))
            unfold askD
            rw [Int.zero_add, ← Int.ofNat_sub (by omega)]
          · show LGrow K Hf H0 D ((((List.range j).flatMap (askRows L)) ++ ((sortB rLt ((counts L j).map (·.1))).take (k + 1)).filterMap (askRow L j)).map askD) _ _
            rw [etk, eask, if_pos hlt, Option.toList_some, ← List.append_assoc, List.map_append]
            exact I7
        · rw [decide_eq_false (show ¬ (p.2 : Int) < (L.length : Int) by omega)]
          refine iteF (go_nil (go_nil ⟨Hf6, e5.trans t6.f, t6.i, (r5.mono t6.f).sub (sub_set (by decide)), ?_⟩))
          show LGrow K Hf H0 D ((((List.range j).flatMap (askRows L)) ++ ((sortB rLt ((counts L j).map (·.1))).take (k + 1)).filterMap (askRow L j)).map askD) _ _
          rw [etk, eask, if_neg hlt, Option.toList_none, List.append_nil]
          exact I5.step t6
      · intro σ5 Hf5 H5 e5 e6 r5 I5
        refine go_nil ⟨Hf5, ((e1.trans t3.f).trans t4.f).trans e5, e6, r5.sub ?_, ?_⟩
        · refine ⟨by simp [wipeE], fun k d hk => ?_⟩
          have out : k ≠ 2 ∧ k ≠ 3 ∧ k ≠ 4 := by
            refine ⟨fun z => ?_, fun z => ?_, fun z => ?_⟩ <;> (subst z; simp [wipeE, st0] at hk)
          rw [wipeE_get, if_neg (by simpa using out.2.2), List.getElem?_set_ne out.2.1.symm, List.getElem?_set_ne out.1.symm]
          exact hk
        · rw [List.length_map, List.take_length] at I5
          show LGrow K Hf H0 D (((List.range (j + 1)).flatMap (askRows L)).map askD) _ _
          rw [List.range_succ, List.flatMap_append, List.flatMap_singleton]
          exact I5
    · intro σ2 Hf2 H2 e1 e2 r2 I2
      unfold rngD at I2
      rw [List.length_map, List.length_range] at I2
      obtain ⟨Hf3, t3, e3, dl⟩ := I2.done hD
      refine go_ret (ex_callTy (r := fun xs H Q => ∃ p ys, xs = [.ref p] ∧ ((SqL K H p ys ∧ ∀ l, H l = none → Q (.ref l) (upd H l (.tup ys))) ∨ (SqT K H p ys ∧ Q (.ref p) H))) (fun X ok => by rw [← show X.K = K from ok.K]; exact call_tuple_of) rfl (fr_tuple H) (by decide +kernel) (ax_cons (ex_var 1 (r2.ref rfl) (ax_nil ?_))))
      obtain ⟨a, xs, ea, h1, d1⟩ := dp_lst dl
      cases ea
      refine ⟨D, xs, rfl, .inl ⟨ex_l t3.i h1, fun p hp => qr _ (.py (.tuple ((asks L).map askD))) (upd Hf3 p (.tup xs)) _ (t3.trans (.new t3.i hp)) (rpy (dp_tup_new ?_ (fresh_back t3.i hp))) φ⟩⟩
      have ea : asks L = (List.range n).flatMap (askRows L) := by
        rw [← hls]
        show (List.range l0.an.length).flatMap _ = _
        rw [an0]
      rw [ea]
      exact d1
end
end Fq
/-! FqV: targets with a star at the end. -/
namespace Fq
open PySem PySem.Spec PyProof.Rows L2 Evl
section
variable {X : Cx} {pins : List (Addr × Obj)} {σ : L2.St} {H : Hp} {s : Shared}
theorem okThere {P : Program} {w : World} {h : Heap} {a : Addr} {o : HO} (x : ObjOk P w H h a o) : ∃ u, h.get? a = some u := by
  cases o with
  | lst xs => obtain ⟨_, _, _, _, e⟩ := x; exact ⟨_, e⟩
  | tup xs => obtain ⟨_, _, _, _, e, _⟩ := x; exact ⟨_, e⟩
  | dK kvs => obtain ⟨_, _, _, _, o, _, _, e, _⟩ := x; exact ⟨_, e⟩
  | dT kvs => obtain ⟨_, _, _, _, o, _, _, e, _⟩ := x; exact ⟨_, e⟩
  | set S n => obtain ⟨o, _, _, _, e, _⟩ := x; exact ⟨_, e⟩
  | ins C dx fs => obtain ⟨_, _, _, e, _⟩ := x; exact ⟨_, e⟩
  | own y => obtain ⟨_, e⟩ := x; exact ⟨_, e⟩
  | xd fs => obtain ⟨_, ⟨_, _, _, e, _⟩, _⟩ := x; exact ⟨_, e⟩
  | rng lo hi => obtain ⟨_, _, _, e⟩ := x; exact ⟨_, e⟩
  | frz ob u => obtain ⟨e, _⟩ := x; exact ⟨_, e⟩
  | tbl ps => exact ⟨_, show h.get? a = some _ from x⟩
  | met f y => exact ⟨_, show h.get? a = some _ from x⟩
  | ext φ => obtain ⟨_, ⟨_, e⟩, _⟩ := x; exact ⟨_, e⟩
/-- behind a rule that tells of the frame's names and of all objects made, with a new list at D -/
theorem Inv.listMade {h' : Heap} {tk : Nat} {D : Addr} {us : List Value} {vs : List V} {m : Str → Option Value} (I : Inv X pins σ H s) (hm : s.heap.Ns X.env.locals m) (F : Fr X.base X.env.locals h' m)
    (N : News X.base X.env.locals h' ((D, PySem.W.listOf us.toArray 0) :: allNews X.base s.heap X.env.locals)) (lt : ∀ p ∈ allNews X.base s.heap X.env.locals, p.1 < D) (r : Vals vs us) (hz : vs.length ≤ sizeLine) : H D = none ∧ Inv X pins σ (upd H D (.lst vs)) { s with heap := h', toks := tk } := by
  obtain ⟨nD, nL, nB⟩ := N (D, _) (List.mem_cons_self ..)
  have kept : ∀ b o, b ≠ X.env.locals → s.heap.get? b = some o → h'.get? b = some o := fun b o hL e => by
    cases q : X.base.get? b with
    | some u =>
      have h1 := I.bk b u q
      rw [e] at h1
      cases h1
      exact F.keep b _ q
    | none => exact (N (b, o) (List.mem_cons_of_mem _ (mem_allNews hL q e))).1
  have neD : ∀ b o, s.heap.get? b = some o → b ≠ D := fun b o e z => by
    subst z
    by_cases hL : b = X.env.locals
    · exact nL hL
    · exact absurd (lt _ (mem_allNews hL nB e)) (Nat.lt_irrefl _)
  have hD : H D = none := by
    cases q : H D with
    | none => rfl
    | some u =>
      obtain ⟨o, ho⟩ := okThere (I.hok D u q)
      exact absurd rfl (neD D o ho)
  refine ⟨hD, I.step (g' := s.gens) (d' := s.drawn) (ch := []) (fun b hb => absurd hb (by simp)) (fun b o hL _ _ e _ => kept b o hL e) (fun b o hL _ _ e _ => ⟨o.slots, kept b o hL e⟩) (fun b o _ e n => by rw [upd_ne (neD b o e)]; exact n) (fun b o _ e => ?_) (fun b xs e => by rw [upd_ne (ne_of_none e hD)]; exact e)
    (fun b o u e => by rw [upd_ne (ne_of_none e hD)]; exact e) (fun b ps e => ⟨#[], by rw [upd_ne (ne_of_none e hD), e]; simp⟩) (fun m' hm' => ?_) (fun b u e => ?_) I.bare⟩
  · by_cases hL : b = X.env.locals
    · subst hL
      obtain ⟨o', es, ep, ho, _⟩ := F.ns
      exact ⟨o', ho⟩
    · exact ⟨o, kept b o hL e⟩
  · rw [SlX.ns_only hm' hm]
    exact F.ns
  · by_cases hb : b = D
    · subst hb
      rw [upd_same] at e
      cases e
      exact ⟨hz, us, 0, r, nD⟩
    · rw [upd_ne hb] at e
      have nL2 : b ≠ X.env.locals := fun z => by
        rw [z, I.free] at e
        cases e
      refine (I.hok b u e).stay (fun c v hc q => kept c v ?_ q) (fun d q => by rw [upd_ne (ne_of_none q hD)]; exact q) fun d xs q => by rw [upd_ne (ne_of_none q hD)]; exact q
      rcases hc with z | z
      · rw [z]
        exact nL2
      · intro z2
        rw [z2, I.free] at z
        cases z
/-- a, b, *c = a tuple -/
def gStar (K : PySem.W.Frag) (n : Nat) (t : TGs) : TG := fun v σ H Q => ∃ a xs, v = .ref a ∧ SqT K H a xs ∧ n ≤ xs.length ∧ xs.length ≤ 16384 ∧ ∀ D, H D = none → t (xs.take n ++ [.ref D]) σ (upd H D (.lst (xs.drop n))) Q
theorem pg_star {es : List Expr} {k n : Nat} {t : TGs} {pos : Pos} (hc : X.calm = true) (h : PGs X es t) (hn : (assignEach es X.env).length = n + 1 := by rfl) (hst : (assignEach es X.env).findIdx? (·.1) = some n := by rfl) : PG X (.Tuple es k pos) (gStar X.K n t) := by
  refine ⟨fun pins s σ H v u Q I r hw => ?_⟩
  obtain ⟨a, xs, e1, hq, hl, hz, hw⟩ := hw
  subst e1
  cases r
  obtain ⟨its, rv, ht, _⟩ := I.tuple hq
  have lv := Vals.length rv
  obtain ⟨m, F⟩ := I.fr
  refine PySem.W.kun_assignT (first := its.take n) (mids := its.drop n) (lasts := []) F (news_all (h := s.heap)) ht (I.ok.hd hc) hn hst (by omega) (by simp; omega) (by simp; omega) (by simp) ?_ ?_ fun D h' tk F' N' lt => ?_
  · rw [show its.toArray.size + 1 - (n + 1) = its.length - n by simp]
    exact List.take_of_length_le (by simp)
  · rw [show its.toArray.size + 1 - (n + 1) = its.length - n by simp]
    exact List.drop_of_length_le (by simp)
  · obtain ⟨hD, I1⟩ := Inv.listMade (tk := tk) (vs := xs.drop n) I F.ns F' N' lt (rv.drop n) (by rw [List.length_drop, sizeLine_eq]; omega)
    rw [List.append_nil]
    exact h.run pins _ σ _ (xs.take n ++ [.ref D]) _ Q I1 ((rv.take n).append (.cons (show RelV (.ref D) (.ref D) from rfl) .nil)) (hw D hD)
theorem pgs_starN {t : Expr} {p : Pos} {g : TG} (h : PG X t g) (hs : (assignEach [.Starred t p] X.env).map (·.2) = [assign t X.env] := by rfl) : PGs X [.Starred t p] (gCons g gNil) := by
  refine ⟨fun pins s σ H vs us Q I r hw => ?_⟩
  obtain ⟨v, vr, e1, hw⟩ := hw
  subst e1
  cases r with
  | cons r rr =>
    rw [hs]
    refine assignInOrder_cons (thn (h.run pins s σ H _ _ _ I r hw) fun _ s1 ⟨σ1, H1, I1, q1⟩ => ?_)
    exact pgs_nil.run pins s1 σ1 H1 _ _ Q I1 rr q1
end
section
variable {i : XI} {ρ : En} {Ψ : En → Prop} {Φ : Dt → Prop} {e : Expr} {es : List Expr} {pos p2 : Pos} {rest : List Stmt}
theorem gx_star {k n : Nat} {t : TGs} (h : ∀ X, XOk i X → PGs X es t) (hn : ∀ env, (assignEach es env).length = n + 1 := by intro _; rfl) (hst : ∀ env, (assignEach es env).findIdx? (·.1) = some n := by intro _; rfl) : ∀ X, XOk i X → PG X (.Tuple es k pos) (gStar i.K n t) := fun X ok => by
  rw [← ok.K]
  exact pg_star ok.calm (h X ok) (hn _) (hst _)
theorem gxs_star {t : Expr} {p : Pos} {g : TG} (h : ∀ X, XOk i X → PG X t g) (hs : ∀ env, (assignEach [.Starred t p] env).map (·.2) = [assign t env] := by intro _; rfl) : ∀ X, XOk i X → PGs X [.Starred t p] (gCons g gNil) := fun X ok => pgs_starN (h X ok) (hs _)
theorem gsOf_run {K : PySem.W.Frag} {Hf H : Hp} {js : List Nat} {ds : List PyData} {xs : List V} {σ : L2.St} {ρ0 : En} {Q : L2.St → Hp → Prop} (r : RpE K Hf σ ρ0) (h : DpAll K Hf xs ds) (l : js.length = ds.length) (q : ∀ σ2, RpE K Hf σ2 (setAll ρ0 js ds) → Q σ2 H) : gsOf js xs σ H Q :=
  gds_run (vs := js) r h l (fun _ h => h) fun σ2 _ r2 => q σ2 r2
theorem bb_star {k n : Nat} {p3 : Pos} (js : List Nat) (hg : ∀ X, XOk i X → PG X (.Tuple es k p3) (gStar i.K n (gsOf js))) (hjs : js.length = n + 1) (h : EE i e ρ fun d => ∃ ds, d = .py (.tuple ds) ∧ n ≤ ds.length ∧ ds.length ≤ 16384 ∧ BB i rest (setAll ρ js (ds.take n ++ [.list (ds.drop n)])) Ψ Φ)
    (hs : ∀ env, swapsWithSole [.Tuple es k p3] e pos.line env = pure false := by intro _; rfl) (hw : ∀ env, swappedStores [.Tuple es k p3] e env = pure none := by intro _; rfl)
    (h1 : ∀ env, (assignEach [.Tuple es k p3] env).map (·.2) = [assign (.Tuple es k p3) env] := by intro _; rfl) : BB i (.Assign [.Tuple es k p3] e pos :: rest) ρ Ψ Φ := fun σ Hf H D r x qn qr =>
  go_asg hg (h σ Hf H _ r x fun v d Hf1 H1 t1 r1 ⟨ds, ed, hn, hz, φ⟩ => by
    subst ed
    obtain ⟨a, xs, rfl, h1, d1⟩ := dp_tup r1
    have hl := dpAll_len d1
    refine ⟨a, xs, rfl, ex_t t1.i h1, by omega, by omega, fun L hL => ?_⟩
    have t2 := t1.trans (.new (o := .lst (xs.drop n)) t1.i hL)
    have hLf := fresh_back t1.i hL
    refine gsOf_run (Hf := upd Hf1 L (.lst (xs.drop n))) (ρ0 := ρ) (ds := ds.take n ++ [.list (ds.drop n)]) (r.mono t2.f) (dpAll_app (dpAll_mono (Ex.new hLf) (dpAll_take n d1)) (.cons (dp_lst_new (dpAll_drop n d1) hLf) .nil)) (by rw [List.length_append, List.length_take, hjs, List.length_singleton]; omega) fun σ2 r2 => ?_
    exact φ σ2 _ _ D r2 t2.i (fun σ' ρ' Hf' H' t3 r3 ψ => qn σ' ρ' Hf' H' (t2.trans t3) r3 ψ) fun v d Hf' H' t3 r3 φ2 => qr v d Hf' H' (t2.trans t3) r3 φ2) hs hw h1
end
end Fq
/-! FqU: min(xs, key=f) of a tuple, f a def of the text that gives whole numbers. -/
namespace Fq
open PySem PySem.Spec PyProof.Rows L2 Evl
section
variable {prog : Program} {w : World} {A : Around}
/-- a tuple walked, told by its values -/
theorem walkV (hh : A.handled = none) (I ax : Addr) (hne : ax ≠ I) (xs : List V) : WalksS prog w A I [I, ax] [I] (fun a b => b = a) xs.length (fun j v => ∃ x, xs[j]? = some x ∧ RelV x v) (fun j s => s.heap.IsTupleIter I ax j ∧ ∃ its, Vals xs its ∧ s.heap.IsTuple ax its.toArray) where
  sub := fun b hb => by
    obtain rfl := List.mem_singleton.mp hb
    exact List.mem_cons_self ..
  grefl := fun _ => rfl
  gtrans := fun a b c h1 h2 => h2.trans h1
  frame := fun j s h' tk st _ hk => by
    obtain ⟨s1, its, r, s2⟩ := st
    exact ⟨s1.at fun o e => hk I (by simp) o e, its, r, s2.at fun o e => hk ax (by simp) o e⟩
  item := fun j s Q E hj st hQ => by
    obtain ⟨s1, its, r, s2⟩ := st
    obtain ⟨u, hu, ru⟩ := Vals.get r (List.getElem?_eq_getElem hj)
    refine wpAny_pyNext_tuple_item s1 s2 (x := u) (by simpa using hu) fun h' hit hs => ?_
    exact hQ u _ ⟨_, List.getElem?_eq_getElem hj, ru⟩ ⟨hit, its, r, s2.extBut hs.extBut hne⟩ ⟨fun b o hb e => hs.extBut b o (fun z => hb (by simp [z])) e, rfl, rfl, rfl, Nat.le_refl _⟩
  done := fun s Q E st hQ => by
    obtain ⟨s1, its, r, s2⟩ := st
    have hl := Vals.length r
    exact wpAny_pyNext_tuple_end hh s1 s2 (by simp; omega) fun h' eb => hQ _ ⟨fun b o hb e => eb b o (fun z => hb (by simp [z])) e, rfl, rfl, rfl, Nat.le_refl _⟩
  self := fun _ _ _ _ st hQ => wpAny_pyIter_tupleiter st.1 hQ
end
section
variable {X : Cx} {pins : List (Addr × Obj)} {σ : L2.St} {H : Hp} {s s' : Shared}
theorem Inv.moved {ch : List Addr} (I : Inv X pins σ H s) (m : Moved ch (fun a b => b = a) s s') (f : ∀ b ∈ ch, FpOk X pins H b) : Inv X pins σ H s' := by
  obtain ⟨h', g, d, t, o⟩ := s'
  obtain ⟨mh, mg, md, mo, _⟩ := m
  have e1 : g = s.gens := mg
  have e2 : d = s.drawn := md
  have e3 : o = s.os := mo
  subst e1 e2 e3
  have tr : ∀ b u, H b = some u → b ∉ ch := fun b u e z => by
    rw [(f b z).1] at e
    cases e
  refine I.step (g' := s.gens) (d' := s.drawn) (ch := ch) (fun b hb => ?_) (fun b o _ _ hc e _ => mh b o hc e) (fun b o _ _ hc e _ => ⟨o.slots, mh b o hc e⟩) (fun b o _ _ n => n) (fun b o hc e => ⟨o, mh b o hc e⟩) (fun _ _ e => e) (fun _ _ _ e => e) (fun b ps e => ⟨#[], by rw [e]; simp⟩) (fun m hm => ?_) (fun b u e => ?_) I.bare
  · obtain ⟨f0, f1, f2, f3, f4, f5⟩ := f b hb
    exact ⟨f3, f1, f4, f5⟩
  · obtain ⟨o, es, ep, ho, r⟩ := hm
    exact ⟨o, es, ep, mh _ o (fun z => (f _ z).2.1 rfl) ho, r⟩
  · refine (I.hok b u e).stay (fun c v hc q => ?_) (fun _ q => q) fun _ _ q => q
    rcases hc with z | z
    · rw [z] at q ⊢
      exact mh b v (tr b u e) q
    · exact mh c v (tr c _ z) q
/-- a call of f within one built-in -/
def KeyTurn1 (X : Cx) (f : Value) (nv : PyData → Int) (d : PyData) : Prop := ∀ pins σ s Hf H v u, Inv X pins σ H s → Ex Hf H → Dp X.K Hf v d → RelV v u →
  wpAny (model X.prog X.w) X.A.in1 (call f [u]) (CE X.stack X.prog X.w H s fun z H2 => z = .int (nv d) ∧ ∃ Hf2, Tr Hf H Hf2 H2) (fun _ _ => False) s
theorem run1 {k : Nat} {f : Addr} {fd : FuncData} {ps : List Str} {sp : Sp} {us : List Value} {vs : List V} {Q : VK} (F : FnOk X.prog X.w X.K X.mg X.base CX0 k f fd ps sp) (hr : Room k X.A.in1) (hb : Binds X.K fd ps [])
    (I : Inv X pins σ H s) (r : Vals vs us) (h : sp vs H Q E0) : wpAny (model X.prog X.w) X.A.in1 (call (.ref f) us) (CE X.stack X.prog X.w H s Q) (fun _ _ => False) s := by
  have hl : (us ++ []).length = ps.length := by
    rw [List.append_nil, ← r.length]
    exact F.len _ _ _ _ h
  have b0 := hb s us I.kIn hl
  rw [List.append_nil] at b0
  refine wpAny_call (codeAny_mono (F.run X.A.in1 X.stack s H ⟨us, []⟩ us vs Q E0 hr I.env0.in1 b0 r h) fun q s' hq => ?_)
  match q, hq with
  | .error _, hq => exact False.elim hq
  | .ok (.ret u), hq => exact hq
  | .ok .next, hq => exact False.elim hq
  | .ok .brk, hq => exact False.elim hq
  | .ok .cont, hq => exact False.elim hq
theorem tIter_cell {h : Heap} {I ax : Addr} {j : Nat} (x : h.IsTupleIter I ax j) : ∃ o, h.get? I = some o ∧ ∀ v, o.data ≠ .cell v := by
  obtain ⟨o, ho, hc, hd⟩ := x
  exact ⟨o, ho, fun v e => by rw [hd] at e; cases e⟩
theorem X_stk {X : Cx} (ok : X.Ok) : X.stack = X.outer ∨ (X.stack = X.env :: X.outer ∧ X.env.frame = some X.env.locals) := ok.stk
theorem mem_frs {e : Env} {l : List Env} {b : Addr} (h : b ∈ frs (e :: l)) : e.frame = some b ∨ b ∈ frs l := by
  unfold frs at h ⊢
  rw [List.filterMap_cons] at h
  split at h
  · exact .inr h
  · rename_i c hc
    rcases List.mem_cons.mp h with rfl | h
    · exact .inl hc
    · exact .inr h
theorem FpOk.unpin {X : Cx} {pins more : List (Addr × Obj)} {H : Hp} {b : Addr} (f : FpOk X pins H b) {H' : Hp} (h : H' b = none) : FpOk X pins H' b := ⟨h, f.2⟩
theorem min_run {a f : Addr} {nv : PyData → Int} {ws : List V} {ds : List PyData} {Hf : Hp} {Q : VK} (I : Inv X pins σ H s) (hcalm : X.calm = true) (ex : Ex Hf H) (hl : SqT X.K Hf a ws) (da : DpAll X.K Hf ws ds) (h0 : ds ≠ []) (turn : ∀ d ∈ ds, KeyTurn1 X (.ref f) nv d)
    (q : ∀ d z Hf' H', Tr Hf H Hf' H' → d ∈ ds → (∀ d' ∈ ds, nv d ≤ nv d') → Dp X.K Hf' z d → Q z H') : wpAny (model X.prog X.w) X.A (call (.builtin "min") [.ref a] [(Str.ofString "key", .ref f)]) (EP X pins σ Q) X.xe s := by
  have ld := dpAll_len da
  obtain ⟨its, rv, htp, _⟩ := I.tuple (ex_t ex hl)
  refine call_min_walkK (PyProof.Rows.iter_tuple htp ?_)
  have hlt : a < s.heap.objs.size := let ⟨o, ho, _⟩ := htp; Heap.lt_size ho
  have I2 : Inv X pins σ H { s with heap := s.heap.push { cls := .type "tuple_iterator", data := .fields #[.ref a, .int 0 0] } } := I.kept (t' := s.toks) fun b o e => Heap.get?_push_of_some _ e
  have fI : FpOk X pins H s.heap.objs.size := I.fpOk (Nat.le_refl _) (I.hok.fresh (Nat.le_refl _))
  have hsz : (s.heap.push { cls := .type "tuple_iterator", data := .fields #[.ref a, .int 0 0] }).objs.size = s.heap.objs.size + 1 := PyProof.Rows.size_push' ..
  have fS : FpOk X pins H (s.heap.objs.size + 1) := I.fpOk (Nat.le_succ _) (I.hok.fresh (Nat.le_succ _))
  have hn0 : 0 < ws.length := by
    rw [ld]
    exact List.length_pos_iff.mpr h0
  generalize hIt : s.heap.objs.size = It at *
  have key : ∀ j, j < ws.length → ∃ w d, ws[j]? = some w ∧ ds[j]? = some d ∧ d ∈ ds ∧ ds.getD j .none = d := fun j hj => by
    have hd : j < ds.length := by omega
    refine ⟨_, _, List.getElem?_eq_getElem hj, List.getElem?_eq_getElem hd, List.getElem_mem hd, ?_⟩
    rw [List.getD_eq_getElem?_getD, List.getElem?_eq_getElem hd]
    rfl
  refine ⟨It, _, _, _, _, _, _, fun s' => ∃ Hf' H', Inv X pins σ H' s' ∧ Tr Hf H Hf' H' ∧ H' It = none ∧ H' (It + 1) = none, fun j k _ => ∃ t, k = .int (nv (ds.getD j .none)) t, fun i j => decide (nv (ds.getD i .none) < nv (ds.getD j .none)), rfl,
    walkV (A := X.A.in1) (I.ok.hd hcalm) It a (Nat.ne_of_lt hlt) ws, ⟨⟨_, by rw [← hIt]; exact Heap.get?_push_size _ rfl, rfl, rfl⟩, its, rv, (htp.push _)⟩, fun b hb => ?_, hn0, ?_, ⟨Hf, H, I2, .refl ex, fI.1, fS.1⟩, ?_⟩
  · show b < (s.heap.push _).objs.size
    rw [hsz]
    rcases List.mem_cons.mp hb with rfl | hb
    · exact Nat.lt_succ_self _
    · obtain rfl := List.mem_singleton.mp hb
      exact Nat.lt_succ_of_lt hlt
  · rw [show ({ s with heap := s.heap.push { cls := .type "tuple_iterator", data := .fields #[.ref a, .int 0 0] } } : Shared).heap.objs.size = It + 1 from hsz]
    refine ⟨fun s1 s2 ⟨Hf1, H1, J1, t1, n1, n2⟩ m => ⟨Hf1, H1, Inv.moved J1 m (fun b hb => ?_), t1, n1, n2⟩, fun _ _ _ _ h _ => h, fun j v s1 o Q1 E1 hj ⟨x, hx, rx⟩ ⟨Hf1, H1, J1, t1, n1, n2⟩ st hS k => ?_, fun j1 j2 k1 k2 s1 Q1 E1 _ ⟨u1, e1⟩ ⟨u2, e2⟩ q1 => ?_⟩
    · rcases List.mem_cons.mp hb with rfl | hb
      · exact ⟨n2, fS.2⟩
      · obtain rfl := List.mem_singleton.mp hb
        exact ⟨n1, fI.2⟩
    · obtain ⟨stI, its', rv', htp'⟩ := st
      obtain ⟨oI, hoI, cI⟩ := tIter_cell stI
      obtain ⟨w, d, hw, hd, hdm, hgd⟩ := key j hj
      rw [hw] at hx
      obtain rfl := Option.some.inj hx
      obtain ⟨d', hd', dd⟩ := dpAll_at da hw
      rw [hd] at hd'
      obtain rfl := Option.some.inj hd'
      refine wpAny_mono (turn d hdm _ σ s1 Hf1 H1 w v J1 t1.i (dp_mono t1.f dd) rx) (fun u s2 he => ?_) fun _ _ hF => hF.elim
      obtain ⟨z, H2, os, bare, un, hok, rz, ez, Hf2, t2⟩ := he
      subst ez
      obtain ⟨tk, rfl⟩ := rz
      have nfr : ∀ b, FpOk X pins H1 b → b ∉ frs X.stack := fun b g hb => by
        rcases X_stk J1.ok with e | ⟨e, e2⟩
        · rw [e] at hb
          exact g.2.2.1 hb
        · rw [e] at hb
          rcases mem_frs hb with z | z
          · rw [e2] at z
            exact g.2.1 (Option.some.inj z).symm
          · exact g.2.2.1 z
      have pI : s2.heap.get? It = some oI ∧ H2 It = none := ⟨un.keep _ _ hoI n1 (nfr It ⟨n1, fI.2⟩) (by simp), un.free _ _ hoI n1 (by simp)⟩
      have pS : s2.heap.get? (It + 1) = some o ∧ H2 (It + 1) = none := ⟨un.keep _ _ hS n2 (nfr _ ⟨n2, fS.2⟩) (by simp), un.free _ _ hS n2 (by simp)⟩
      have J4 : Inv X pins σ H2 s2 := by
        obtain ⟨hh, g, d9, t9, os'⟩ := s2
        obtain rfl : os' = s1.os := os
        exact J1.call (h' := hh) (g' := g) (d' := d9) (t' := t9) (ch := []) un hok bare (fun b z => absurd z (by simp))
      have tt := t1.trans t2
      obtain ⟨its2, rv2, htp2, _⟩ := J4.tuple (ex_t tt.i (ex_t tt.f hl))
      refine k _ s2 ⟨Hf2, H2, J4, tt, pI.2, pS.2⟩ ⟨?_, its2, rv2, htp2⟩ pS.1 ⟨tk, by rw [hgd]⟩ fun _ _ h => h
      obtain ⟨o', ho', c1, c2⟩ := stI
      rw [hoI] at ho'
      obtain rfl := Option.some.inj ho'
      exact ⟨oI, pI.1, c1, c2⟩
    · subst e1 e2
      exact lt_int q1
  · intro v s1 ⟨x, hx, rx⟩ ⟨Hf1, H1, J1, t1, n1, n2⟩
    obtain ⟨w, d, hw, hd, hdm, hgd⟩ := key _ (List.getElem?_eq_some_iff.mp hx).1
    rw [hw] at hx
    obtain rfl := Option.some.inj hx
    obtain ⟨d', hd', dd⟩ := dpAll_at da hw
    rw [hd] at hd'
    obtain rfl := Option.some.inj hd'
    refine ⟨w, H1, J1, rx, q d w Hf1 H1 t1 hdm (fun e he => ?_) (dp_mono t1.f dd)⟩
    have am : ∀ n, n < ds.length → ∀ j, j ≤ n → nv (ds.getD (argBest (fun i j => decide (nv (ds.getD i .none) < nv (ds.getD j .none))) n) .none) ≤ nv (ds.getD j .none) := by
      intro n
      induction n with
      | zero =>
        intro _ j hj
        obtain rfl : j = 0 := by omega
        exact Int.le_refl _
      | succ n ih =>
        intro hn j hj
        have h1 := ih (by omega)
        unfold argBest
        split
        · rename_i hb
          have hb := of_decide_eq_true hb
          by_cases e : j = n + 1
          · subst e
            exact Int.le_refl _
          · have := h1 j (by omega)
            omega
        · rename_i hb
          by_cases e : j = n + 1
          · subst e
            have := of_decide_eq_false (Bool.eq_false_iff.mpr hb)
            omega
          · exact h1 j (by omega)
    obtain ⟨j, hj, rfl⟩ := List.getElem_of_mem he
    have := am (ws.length - 1) (by omega) j (by omega)
    rw [hgd, List.getD_eq_getElem?_getD, List.getElem?_eq_getElem hj] at this
    exact this
end
end Fq
/-! FqU2: min(xs, key=f) by data. -/
namespace Fq
open PySem PySem.Spec PyProof.Rows L2 Evl
section
variable {i : XI} {ρ : En} {Φ : Dt → Prop} {e : Expr} {pos p p2 kp : Pos} {x : Str} {S : Sg}
theorem room1 {k : Nat} {A : Around} (r : Room (k + 1) A) : Room k A.in1 := ⟨r.hd, by have := r.dp; show A.depth + 3 * k + 5 < _; omega, by have := r.un; show A.units + 1 + 16 * k + 200 < _; omega⟩
theorem keyTurn1_of {X : Cx} {k : Nat} {f : Addr} {fd : FuncData} {ps : List Str} {nv : PyData → Int} {d : PyData} (ok : XOk i X) (hk : k + 1 ≤ i.k) (F : FnOk i.P i.w i.K i.mg i.base CX0 k f fd ps (spD i.K 1 S)) (hb : Binds i.K fd ps []) (hS : S [.py d] fun z => z = .py (.int (nv d))) :
    KeyTurn1 X (.ref f) nv d := fun pins σ s Hf H v u I ex r ru => by
  refine run1 (ok.fn' F) (room1 (ok.room.mono hk)) (by rw [ok.K]; exact hb) I (.cons ru .nil) ?_
  refine ⟨Hf, [.py d], _, .cons (by rw [← ok.K]; exact r) .nil, ex, rfl, hS, fun z d' Hf' H' t r' e' => ?_⟩
  subst e'
  cases r'
  exact ⟨rfl, Hf', t⟩
theorem ee_minK (F : KeyF i x S) (hm : i.mg "min" = none) (h : EE i e ρ fun y => ∃ (ds : List PyData) (nv : PyData → Int), y = .py (.tuple ds) ∧ ds ≠ [] ∧ (∀ d ∈ ds, S [.py d] fun z => z = .py (.int (nv d))) ∧ ∀ d ∈ ds, (∀ d' ∈ ds, nv d ≤ nv d') → Φ (.py d)) (hg : GlS i.sc "min" := by rfl) (hgx : GlS i.sc x := by rfl) (hdb : (x == ("__debug__" : Str)) = false := by decide)
    (he : ∀ env, backTo pos (starEach [e] env) = (false, eval e env) :: backTo pos (starEach [] env) := by intro _; rfl) (he1 : ∀ env, starEach [e] env = (false, eval e env) :: starEach [] env := by intro _; rfl) (hpl : ∀ env, (backTo pos (starEach [e] env)).any (·.1) = false := by intro _; rfl)
    (hall : ∀ env, (backToKw pos (keywordEach [⟨some "key", .Name x p2, kp⟩] env)).all (·.1.isSome) = true := by intro _; rfl) (hnone : ∀ env, (backToKw pos (keywordEach [⟨some "key", .Name x p2, kp⟩] env)).any (·.1.isNone) = false := by intro _; rfl)
    (hks : ∀ env, (backToKw pos (keywordEach [⟨some "key", .Name x p2, kp⟩] env)).filterMap (·.1) = [Str.ofString "key"] := by intro _; rfl) : EE i (.Call (.Name "min" p) [e] [⟨some "key", .Name x p2, kp⟩] pos) ρ Φ := fun σ Hf H Q hρ ex q => by
  obtain ⟨k, f, fd, ps, hk, F, hx, hb⟩ := F.ex
  refine ⟨fun X ok pins s I => ?_⟩
  have hc : CallRK X (.builtin "min") [Str.ofString "key"] (fun vs zs H2 Q2 => ∃ (a : Addr) (ws : List V) (ds : List PyData) (nv : PyData → Int) (Hf2 : Hp), vs = [V.ref a] ∧ zs = [V.ref f] ∧ Ex Hf2 H2 ∧ SqT X.K Hf2 a ws ∧ DpAll X.K Hf2 ws ds ∧ ds ≠ [] ∧ (∀ d ∈ ds, S [.py d] fun z => z = .py (.int (nv d))) ∧ ∀ d z Hf' H', Tr Hf2 H2 Hf' H' → d ∈ ds → (∀ d' ∈ ds, nv d ≤ nv d') → Dp X.K Hf' z d → Q2 z H') := by
    intro pins s σ H2 vs zs us ws' Q2 I2 rv rz hr
    obtain ⟨a, ws, ds, nv, Hf2, rfl, rfl, e2, h1, d1, h0, hT, q2⟩ := hr
    obtain rfl := Vals.ref1 rv
    obtain ⟨w1, rfl, e1⟩ := vals1 rz
    obtain rfl : w1 = Value.ref f := e1
    exact min_run I2 ok.calm e2 h1 d1 h0 (fun d hd => keyTurn1_of ok hk F hb (hT d hd)) q2
  refine (pe_callBK hc (ok.gl hg) (ok.mgN hm) (by decide +kernel) (AX.pa (i := i) ok) (KX.pk (i := i) ok) (by decide) (by decide) (he _) (hpl _) (hall _) (hnone _) (hks _)).run pins s σ H Q I ?_
  refine ax_cons (h σ Hf H _ hρ ex fun v d Hf1 H1 t1 r1 φ => ax_nil ?_) he1
  obtain ⟨ds, nv, rfl, h0, hS, φ⟩ := φ
  obtain ⟨a, ws, rfl, h1, d1⟩ := dp_tup r1
  refine kx_cons (ex_glob (v := .ref f) hgx hx rfl (kx_nil ?_) hdb)
  exact ⟨a, ws, ds, nv, Hf1, rfl, rfl, t1.i, by rw [ok.K]; exact h1, by rw [ok.K]; exact d1, h0, hS, fun d z Hf2 H2 t2 hd hl r2 => q _ _ Hf2 H2 (t1.trans t2) (rpy (by rw [← ok.K]; exact r2)) (φ d hd hl)⟩
end
end Fq
/-! FqP9: the next ask; what a field is made of. -/
namespace Fq
open PySem PySem.Spec PyProof.Rows L2 Evl
open RZ
open PySem.W (EachIs AllAlike Sortable dataLe)
section
variable {P : Program} {w : World} {K : PySem.W.Frag} {mg : Str → Option Value} {base : Heap}
/-! next_ask -/
def plcD (x : Nat × Row) : PyData := .tuple [.int (x.1 : Int), rowD x.2]
def askW (x : Nat × Row × Nat × Nat) : Nat := max x.2.2.1 x.2.2.2
def askDW : PyData → Int
  | .tuple [_, _, .int a, .int b] => max a b
  | _ => 0
theorem askDW_eq (x : Nat × Row × Nat × Nat) : askDW (askD x) = max (x.2.2.1 : Int) (x.2.2.2 : Int) := rfl
theorem ask_plain (x : Nat × Row × Nat × Nat) : (askD x).plain = true := by
  unfold askD
  simp [PyData.plain, PyData.plainAll, row_plain]
theorem ask_depth (x : Nat × Row × Nat × Nat) : (askD x).depth ≤ 2 := by
  unfold askD
  simp [PyData.depth, PyData.depthAll, row_depth]
theorem asks_plain : ∀ l : List (Nat × Row × Nat × Nat), PyData.plainAll (l.map askD) = true
  | [] => rfl
  | x :: l => by
    rw [List.map_cons, PyData.plainAll, ask_plain, asks_plain l]
    rfl
theorem asks_depth : ∀ l : List (Nat × Row × Nat × Nat), PyData.depthAll (l.map askD) ≤ 2
  | [] => by simp [PyData.depthAll]
  | x :: l => by
    rw [List.map_cons, PyData.depthAll]
    have := ask_depth x
    have := asks_depth l
    omega
theorem asks_pl (l : List (Nat × Row × Nat × Nat)) : Pl (.tuple (l.map askD)) := ⟨by rw [PyData.plain]; exact asks_plain l, by rw [PyData.depth]; have := asks_depth l; omega⟩
theorem emp_pl : Pl (.tuple []) := ⟨rfl, by simp [PyData.depth, PyData.depthAll]⟩
theorem eqv_nilT (ds : List PyData) : PyData.eqv (.tuple ds) (.tuple []) = ds.isEmpty := by
  cases ds <;> simp [PyData.eqv, PyData.eqvAll]
def S_next_ask : Sg := fun ds Φ => ∃ (ls : List Lot) (n : Nat), ds = [.py (.tuple (ls.map lotD))] ∧ (∀ l ∈ ls, OkL n l) ∧ n ≤ 3 ∧ ls.length ≤ 160 ∧ (asks ls = [] → Φ (.py .none)) ∧ ∀ x ∈ asks ls, (∀ y ∈ asks ls, askW x ≤ askW y) → Φ (.py (plcD (x.1, x.2.1)))
theorem p_next_ask (H : Hd K mg) : Pf P w K mg base "next_ask" 5 ["some"] 1 S_next_ask := pf_of H q_next_ask sc_next_ask rfl fun ds Φ hl hS => by
  obtain ⟨ls, n, rfl, ok, hn, hz, φ0, φ1⟩ := hS
  refine bb_set 1 (ee_call (p_table_of_asks H).fnc (ea_cons (ee_var 0 rfl (ea_nil ⟨rfl, ls, n, rfl, ok, hn, hz, ?_⟩))))
  refine bb_if (et_cmp (ee_var 1 rfl (ee_tup (ea_nil ⟨[], .nil, Nat.le_of_ble_eq_true rfl, od_eq (asks_pl _) emp_pl ⟨_, rfl, ?_⟩⟩))) (hm := rfl))
  rw [eqv_nilT]
  by_cases e : asks ls = []
  · rw [e]
    exact iteT (bb_ret (ee_non (φ0 e)))
  · have e1 : ((asks ls).map askD).isEmpty = false := by
      cases h : asks ls with
      | nil => exact absurd h e
      | cons x l => rfl
    rw [e1]
    refine iteF (bb_nil (bb_star [2, 3, 4] (gx_star (n := 2) (t := gsOf [2, 3, 4]) (gxs_cons (gx_name 2) (gxs_cons (gx_name 3) (gxs_star (gx_name 4))))) rfl ?_))
    refine ee_minK (p_worse_side H).keyF (fr_min H) (ee_var 1 rfl ⟨_, askDW, rfl, fun z => e (List.map_eq_nil_iff.mp z), fun d hd => ?_, fun d hd hm => ?_⟩)
    · obtain ⟨x, hx, rfl⟩ := List.mem_map.mp hd
      exact ⟨x, rfl, by rw [askDW_eq]⟩
    · obtain ⟨x, hx, rfl⟩ := List.mem_map.mp hd
      refine ⟨_, rfl, by show 2 ≤ 4; omega, by show 4 ≤ 16384; omega, bb_ret (ee_tup (ea_cons (ee_var 2 rfl (ea_cons (ee_var 3 rfl (ea_nil ⟨_, .cons (.cons .nil), Nat.le_of_ble_eq_true rfl, ?_⟩))))))⟩
      refine φ1 x hx fun y hy => ?_
      have := hm (askD y) (List.mem_map_of_mem hy)
      rw [askDW_eq, askDW_eq] at this
      unfold askW
      omega
/-! named_of, deeds_of -/
theorem ee_isiLT {i : XI} {ρ : En} {Φ : Dt → Prop} {a : Expr} {p q1 q2 p3 pos : Pos} {kk : Nat} (hm : i.mg "isinstance" = none) (h1 : i.mg "list" = none) (h2 : i.mg "tuple" = none) (h : EE i a ρ fun d => ∃ xs, d = .py (.tuple xs) ∧ Φ (.py (.bool true))) (hg : GlS i.sc "isinstance" := by rfl) (hg1 : GlS i.sc "list" := by rfl) (hg2 : GlS i.sc "tuple" := by rfl)
    (he : ∀ env, starEach [a, .Tuple [.Name "list" q1, .Name "tuple" q2] kk p3] env = (false, eval a env) :: starEach [.Tuple [.Name "list" q1, .Name "tuple" q2] kk p3] env := by intro _; rfl) : EE i (.Call (.Name "isinstance" p) [a, .Tuple [.Name "list" q1, .Name "tuple" q2] kk p3] [] pos) ρ Φ := fun σ Hf H Q hρ e q =>
  ex_callB (id := "isinstance") (r := rIsiT i.K) (fun X ok => by rw [← ok.K]; exact call_isiT) hg hm (by decide +kernel) (ax_cons (h σ Hf H _ hρ e fun v d Hf1 H1 t1 r1 φ => by
    obtain ⟨xs, rfl, φ⟩ := φ
    refine ax_cons (ex_tup (ax_cons (ex_bltn (v := .ty "list") hg1 h1 (by decide +kernel) rfl (ax_cons (ex_bltn (v := .ty "tuple") hg2 h2 (by decide +kernel) rfl (ax_nil ⟨by rw [sizeLine_eq]; exact Nat.le_of_ble_eq_true rfl, fun tp htp => ax_nil ?_⟩)) (fun _ => rfl))) (fun _ => rfl))) (fun _ => rfl)
    have t2 := t1.trans (.drop (o := .tup [.ty "list", .ty "tuple"]) t1.i htp)
    exact ⟨v, tp, [.ty "list", .ty "tuple"], .type "tuple", [.type "list", .type "tuple"], true, rfl, upd_same, .cons (.ty "list") (.cons (.ty "tuple") .nil), tyx_of (dp_mono t2.i r1), by kernel_rfl, q _ _ Hf1 _ t2 (rpy (Dp.bl _)) φ⟩) he) (by decide) (by decide) he (fun _ => rfl)
def nmD (vs : List Vl) : PyData := .tuple (vs.map Vl.d)
def S_named_of : Sg := fun ds Φ => ∃ vs : List Vl, ds = [.py (nmD vs)] ∧ vs.length ≤ 3 ∧ (∀ v ∈ vs, okV v) ∧ Φ (.py (nmD (vrisenM vs)))
theorem p_named_of (H : Hd K mg) : Pf P w K mg base "named_of" 4 ["thing"] 1 S_named_of := pf_of H q_named_of sc_named_of rfl fun ds Φ hl hS => by
  obtain ⟨vs, rfl, hz, ok, φ⟩ := hS
  refine bb_if (et_w (ew_or (et_not (et_val (ee_isiLT (fr_isinstance H) (fr_list H) (fr_tuple H) (ee_var 0 rfl ⟨_, rfl, _, rfl, ?_⟩))))))
  refine iteF (ew_or1 (et_not (et_val (ee_callB (fr_all H) boot_all (ea_cons (ee_lcF [("value", 2)] wx_tup (gx_name 2) (es_tup (ee_var 0 rfl ⟨_, rfl, Vl, fun v => .py v.d, vs, fun _ => true, fun _ => .bool true, by rw [List.map_map]; rfl, vlD_inj, by omega, fun v hv => ?_, ?_⟩))))))))
  · exact ⟨_, gd_name 2, ei_nil rfl, fun _ => ee_call (p_is_value H).fnc (ea_cons (ee_var 2 rfl (ea_nil ⟨rfl, v, rfl, ok v hv, rfl⟩)))⟩
  rw [filter_yes]
  refine ea_nil (ld_allT ⟨true, rfl, iteF (bb_nil ?_)⟩)
  refine bb_set 1 (ee_call (p_values_risen H).fnc (ea_cons (ee_var 0 rfl (ea_nil ⟨rfl, vs, .inr rfl, by omega, ?_⟩))))
  refine bb_if (et_cmp (ee_callB (fr_len H) PySem.boot_len (ea_cons (ee_var 1 rfl (ea_nil (ld_len (n := (vrisenM vs).length) (d := nmD (vrisenM vs)) (by show _ = _; rw [List.length_map]) (ee_globInt (gi_NAMED H) rfl (od_gt ⟨_, rfl, ?_⟩))))))) (hm := rfl))
  have := vrisenM_len vs
  rw [decide_eq_false (show ¬ (3 : Int) < ((vrisenM vs).length : Int) by omega)]
  exact iteF (bb_nil (bb_ret (ee_var 1 rfl φ)))
def ddD (ws : List Str) : PyData := .tuple (ws.map PyData.str)
theorem strs_plain : ∀ l : List Str, PyData.plainAll (l.map PyData.str) = true
  | [] => rfl
  | x :: l => by
    rw [List.map_cons, PyData.plainAll, strs_plain l]
    rfl
theorem strs_any (x : Str) (xs : List Str) : ((xs.map PyData.str).any fun y => PyData.eqv y (.str x)) = decide (x ∈ xs) := by
  induction xs with
  | nil => simp
  | cons y ys ih =>
    rw [List.map_cons, List.any_cons, ih, eqv_str, ← Bool.decide_or]
    exact decide_eq_decide.mpr (by rw [List.mem_cons]; constructor <;> (rintro (h | h) <;> simp [h]))
theorem dp_strs {K : PySem.W.Frag} {H : Hp} : ∀ l : List Str, DpAll K H (l.map V.str) (l.map PyData.str)
  | [] => .nil
  | x :: l => .cons (.str x) (dp_strs l)
theorem ee_DEEDS {i : XI} {ρ : En} {Φ : Dt → Prop} {pos : Pos} (H : Hd i.K i.mg) (hg : GlS i.sc "DEEDS") (h : Φ (.py (ddD deedsS))) : EE i (.Name "DEEDS" pos) ρ Φ := by
  refine ee_glob (v := .ref (He.ga i.K "DEEDS")) hg (H.glo (j := 140) (by kernel_rfl)) rfl (fun H' => ?_) h (by decide)
  have e := (He.ba (show (He.tupB i.K "DEEDS" (deedsS.map He.Dv.str) && etB i.K (He.dflAt ("done_on", none) 0 i.K)) = true from H.x)).1
  have q := He.tupB_ok e H'
  rw [List.map_map] at q
  exact Dp.tup q (dp_strs deedsS)
theorem str_inj (a b : Str) (h : Dt.py (.str a) = Dt.py (.str b)) : a = b := PyData.str.inj (Dt.py.inj h)
def S_deeds_of : Sg := fun ds Φ => ∃ ws : List Str, ds = [.py (ddD ws)] ∧ ws.length ≤ 9 ∧ (∀ x ∈ ws, x ∈ deedsS) ∧ Φ (.py (ddD (deedsS.filter fun x => decide (x ∈ ws))))
theorem p_deeds_of (H : Hd K mg) : Pf P w K mg base "deeds_of" 1 ["thing"] 1 S_deeds_of := pf_of H q_deeds_of sc_deeds_of rfl fun ds Φ hl hS => by
  obtain ⟨ws, rfl, hz, ok, φ⟩ := hS
  refine bb_if (et_w (ew_or (et_not (et_val (ee_isiLT (fr_isinstance H) (fr_list H) (fr_tuple H) (ee_var 0 rfl ⟨_, rfl, _, rfl, ?_⟩))))))
  refine iteF (ew_or1 (et_not (et_val (ee_callB (fr_all H) boot_all (ea_cons (ee_lcF [("word", 1)] wx_tup (gx_name 1) (es_tup (ee_var 0 rfl ⟨_, rfl, Str, fun x => .py (.str x), ws, fun _ => true, fun _ => .bool true, by rw [List.map_map]; rfl, str_inj, by omega, fun x hx => ?_, ?_⟩))))))))
  · refine ⟨_, gd_name 1, ei_nil rfl, fun _ => ee_and (ee_isi (T := "str") (fr_isinstance H) (fr_str H) boot_str kit_str (ee_var 1 rfl ⟨_, rfl, true, rfl, iteT (ee_one (ee_cmp (ee_var 1 rfl (ee_DEEDS H rfl (od_inT (pl_str _) (strs_plain _) ?_))) (hm := rfl)))⟩))⟩
    rw [strs_any, decide_eq_true (ok x hx)]
  rw [filter_yes]
  refine ea_nil (ld_allT ⟨true, rfl, iteF (bb_nil ?_)⟩)
  refine bb_ret (ee_callTy (fr_tuple H) (by decide +kernel) (ea_cons (ee_lcF [("word", 1)] wx_tup (gx_name 1) (es_tup (ee_DEEDS H rfl ⟨_, rfl, Str, fun x => .py (.str x), deedsS, fun x => decide (x ∈ ws), PyData.str, by rw [List.map_map]; rfl, str_inj, by decide, fun x hx => ?_, ea_nil (ld_tuple φ)⟩)))))
  refine ⟨_, gd_name 1, ei_one (et_cmp (ee_var 1 rfl (ee_var 0 rfl (od_inT (pl_str _) (strs_plain _) ⟨_, rfl, ?_⟩))) (hm := rfl)), fun _ => ee_var 1 rfl rfl⟩
  rw [strs_any]
end
end Fq
/-! FqX: len(set(a tuple of ints)); the fields of a Field, a State. -/
namespace Fq
open PySem PySem.Spec PyProof.Rows L2 Evl
open RZ
theorem setR_size {w : World} {h : Heap} {a : Addr} {ns : List Int} {c : Nat} (R : SetR w h a (fun j => decide (j ∈ ns)) c) (nd : ns.Nodup) : c = ns.length := by
  obtain ⟨o, es, ep, t, ho, hx, hd, hg, hn, hm, hs, hf, hc, _⟩ := R
  have p : (es.toList.map L2.keyOf).Perm ns := (List.perm_ext_iff_of_nodup hn nd).mpr fun k => by
    rw [← hm k, decide_eq_true_iff]
  have := p.length_eq
  rw [List.length_map, Array.length_toList] at this
  omega
section
variable {i : XI} {ρ : En} {Φ : Dt → Prop} {a e : Expr} {p p2 q pos : Pos}
theorem dp_ints {K : PySem.W.Frag} {H : Hp} : ∀ {ns : List Int} {vs : List V}, DpAll K H vs (ns.map PyData.int) → vs = ns.map V.int
  | [], [], _ => rfl
  | [], _ :: _, h => nomatch h
  | _ :: _, [], h => nomatch h
  | n :: ns, v :: vs, h => by
    have t : Dp K H v (.int n) ∧ DpAll K H vs (ns.map PyData.int) := by
      cases h with
      | cons a b => exact ⟨a, b⟩
    rw [dp_ints t.2]
    cases t.1
    rfl
theorem ee_lenSet (hm : i.mg "len" = none) (hm2 : i.mg "set" = none) (h : EE i a ρ fun d => ∃ ns : List Int, d = .py (.tuple (ns.map PyData.int)) ∧ ns.Nodup ∧ ns.length ≤ 4000 ∧ Φ (.py (.int ns.length))) (hg : GlS i.sc "len" := by rfl) (hg2 : GlS i.sc "set" := by rfl)
    (na : ∀ env, starEach [a] env = (false, eval a env) :: starEach [] env := by intro _; rfl) (na2 : ∀ env, starEach [.Call (.Name "set" p2) [a] [] q] env = (false, eval (.Call (.Name "set" p2) [a] [] q) env) :: starEach [] env := by intro _; rfl) : EE i (.Call (.Name "len" p) [.Call (.Name "set" p2) [a] [] q] [] pos) ρ Φ := fun σ Hf H Q hρ ex qq => by
  refine ⟨fun X ok pins s I => ?_⟩
  have ha : EX i a σ H fun v H1 => ∃ (Hf1 : Hp) (ns : List Int) (l : Addr), Tr Hf H Hf1 H1 ∧ v = .ref l ∧ SqT X.K H1 l (ns.map V.int) ∧ ns.Nodup ∧ ns.length ≤ 4000 ∧ Φ (.py (.int ns.length)) := h σ Hf H _ hρ ex fun v d Hf1 H1 t1 r1 φ => by
    obtain ⟨ns, rfl, nd, hz, φ⟩ := φ
    obtain ⟨l, xs, rfl, h1, d1⟩ := dp_tup r1
    rw [dp_ints d1] at h1
    exact ⟨Hf1, ns, l, t1, rfl, by rw [ok.K]; exact ex_t t1.i h1, nd, hz, φ⟩
  refine Call_ (ld_blt I (ok.gl hg) (ok.mgN hm) boot_len ?_)
  refine PyProof.Rows.callWith_builtin1 (PyProof.Rows.args_cons ?_ (na2 _)) rfl rfl
  refine Call_ (ld_blt I (ok.gl hg2) (ok.mgN hm2) boot_set ?_)
  refine PyProof.Rows.callWith_type1 (PyProof.Rows.args_cons (thn (ha.run X ok pins s I) fun v s1 ⟨x, H1, I1, r1, q1⟩ => PyProof.Rows.args_nil ?_) (na _)) (na _) rfl
  obtain ⟨Hf1, ns, l, t1, rfl, hq, hnd, hl, φ⟩ := q1
  cases r1
  obtain ⟨its, r, pl, hz⟩ := I1.tuple hq
  have hlen : its.toArray.size = ns.length := by rw [List.size_toArray, ← r.length, List.length_map]
  refine call_set_tupI (w := X.w) ns (I1.ok.hd ok.calm) pl (by simpa using intsAre_vals r) (by unfold scanBound; omega) fun h' tk c hS hc hk => ?_
  refine PyProof.Rows.args_nil ?_
  have ec := setR_size hS hnd
  obtain ⟨o, es, ep, t, ho, hex, hd, _, _, _, hb, hf, hn, _⟩ := hS
  have I2 : Inv X pins σ H1 { s1 with heap := h', toks := tk } := I1.kept fun b o e => hk b o e
  exact call_len_set ho hex hd hf (by rw [hn, ec]; omega) ⟨.int ns.length, H1, I2.tok _, ⟨_, by rw [hn, ec]⟩, qq _ _ Hf1 H1 t1 (rpy (Dp.int _)) φ⟩
/-! ### fields -/
theorem na_of {K : PySem.W.Frag} {mg : Str → Option Value} (H : Hd K mg) {x f : Str} {j : Nat} (h : fas[j]? = some (.noat x f)) : NoAttr K (He.ga K x) f := He.noat_ok (H.c.fact j h)
theorem cl_of {K : PySem.W.Frag} {mg : Str → Option Value} (H : Hd K mg) {x : Str} {j : Nat} (h : fas[j]? = some (.cls x)) : Cls K (He.ga K x) := He.cls_ok (H.c.fact j h)
/-- a field's data -/
structure Fd where
  bk : List Bk
  nm : List Vl
  dd : List Str
def fdD (f : Fd) : Dt := .fld (bksD f.bk) (nmD f.nm) (ddD f.dd)
theorem ee_fBooks (H : Hd i.K i.mg) (h : EE i e ρ fun d => ∃ f : Fd, d = fdD f ∧ Φ (.py (bksD f.bk))) (hb : ∀ env, attributeBase e "books" env (eval e env) = eval e env := by intro _; rfl) : EE i (.Attribute e "books" pos) ρ Φ :=
  ee_attr (h.imp fun d ⟨f, e1, φ⟩ => .inl ⟨_, _, _, _, e1, na_of H (j := 88) (by kernel_rfl), cl_of H (j := 80) (by kernel_rfl), .inl ⟨rfl, rfl⟩, φ⟩) hb
theorem ee_fNamed (H : Hd i.K i.mg) (h : EE i e ρ fun d => ∃ f : Fd, d = fdD f ∧ Φ (.py (nmD f.nm))) (hb : ∀ env, attributeBase e "named" env (eval e env) = eval e env := by intro _; rfl) : EE i (.Attribute e "named" pos) ρ Φ :=
  ee_attr (h.imp fun d ⟨f, e1, φ⟩ => .inl ⟨_, _, _, _, e1, na_of H (j := 89) (by kernel_rfl), cl_of H (j := 80) (by kernel_rfl), .inr (.inl ⟨rfl, rfl⟩), φ⟩) hb
theorem ee_fDeeds (H : Hd i.K i.mg) (h : EE i e ρ fun d => ∃ f : Fd, d = fdD f ∧ Φ (.py (ddD f.dd))) (hb : ∀ env, attributeBase e "deeds" env (eval e env) = eval e env := by intro _; rfl) : EE i (.Attribute e "deeds" pos) ρ Φ :=
  ee_attr (h.imp fun d ⟨f, e1, φ⟩ => .inl ⟨_, _, _, _, e1, na_of H (j := 90) (by kernel_rfl), cl_of H (j := 80) (by kernel_rfl), .inr (.inr ⟨rfl, rfl⟩), φ⟩) hb
/-- a state's data -/
def stD (f : Fd) (far : Nat) (ws : List Ws) : Dt := .sta (bksD f.bk) (nmD f.nm) (ddD f.dd) (.int (far : Int)) (.tuple (ws.map wsD))
theorem ee_sField (H : Hd i.K i.mg) (h : EE i e ρ fun d => ∃ f far ws, d = stD f far ws ∧ Φ (fdD f)) (hb : ∀ env, attributeBase e "field" env (eval e env) = eval e env := by intro _; rfl) : EE i (.Attribute e "field" pos) ρ Φ :=
  ee_attr (h.imp fun d ⟨f, far, ws, e1, φ⟩ => .inr ⟨_, _, _, _, _, e1, na_of H (j := 91) (by kernel_rfl), cl_of H (j := 83) (by kernel_rfl), .inl ⟨rfl, φ⟩⟩) hb
theorem ee_sFar (H : Hd i.K i.mg) (h : EE i e ρ fun d => ∃ f far ws, d = stD f far ws ∧ Φ (.py (.int (far : Int)))) (hb : ∀ env, attributeBase e "far" env (eval e env) = eval e env := by intro _; rfl) : EE i (.Attribute e "far" pos) ρ Φ :=
  ee_attr (h.imp fun d ⟨f, far, ws, e1, φ⟩ => .inr ⟨_, _, _, _, _, e1, na_of H (j := 92) (by kernel_rfl), cl_of H (j := 83) (by kernel_rfl), .inr (.inl ⟨rfl, φ⟩)⟩) hb
theorem ee_sWishes (H : Hd i.K i.mg) (h : EE i e ρ fun d => ∃ f far ws, d = stD f far ws ∧ Φ (.py (.tuple (ws.map wsD)))) (hb : ∀ env, attributeBase e "wishes" env (eval e env) = eval e env := by intro _; rfl) : EE i (.Attribute e "wishes" pos) ρ Φ :=
  ee_attr (h.imp fun d ⟨f, far, ws, e1, φ⟩ => .inr ⟨_, _, _, _, _, e1, na_of H (j := 93) (by kernel_rfl), cl_of H (j := 83) (by kernel_rfl), .inr (.inr ⟨rfl, φ⟩)⟩) hb
end
end Fq
/-! FqP10: names, tables' columns and rows; deeds on rows; columns behind deeds. -/
namespace Fq
open PySem PySem.Spec PyProof.Rows L2 Evl
open RZ
open PySem.W (EachIs AllAlike Sortable dataLe)
/-- a field that is well made -/
structure OkF (f : Fd) : Prop where
  bk : OkBs f.bk
  nm : ∀ v ∈ f.nm, okV v
  nz : f.nm.length ≤ 3
  dd : ∀ x ∈ f.dd, x ∈ deedsS
  ds : f.dd.Sublist deedsS
  dz : f.dd.length ≤ 9
theorem getBk {bs : List Bk} {n : Nat} {b : Bk} (h : bs[n]? = some b) : atI (bs.map bkD) (n : Int) = some (bkD b) := atI_nat (by rw [List.getElem?_map, h]; rfl)
/-- the first book -/
theorem OkBs.fst {bs : List Bk} (ok : OkBs bs) : ∃ b, bs[0]? = some b ∧ OkB b ∧ bs.headD [] = b := by
  cases bs with
  | nil => exact absurd ok.lo (by decide)
  | cons b bs => exact ⟨b, rfl, ok.bk b (List.mem_cons_self ..), rfl⟩
/-! deeds -/
inductive Mv where
  | same (i j : Nat)
  | below (i j : Nat)
  | value (i : Nat) (v : Vl)
  | take (p : List Nat)
def natsD (p : List Nat) : PyData := .tuple (p.map fun (k : Nat) => .int (k : Int))
def mvL : Mv → List PyData
  | .same i j => [.str "same", .int (i : Int), .int (j : Int)]
  | .below i j => [.str "below", .int (i : Int), .int (j : Int)]
  | .value i v => [.str "value", .int (i : Int), v.d]
  | .take p => [.str "take", natsD p]
def mvD (m : Mv) : PyData := .tuple (mvL m)
def OkM (c : Nat) (nm : List Vl) : Mv → Prop
  | .same i j => i < j ∧ j < c
  | .below i j => i ≠ j ∧ i < c ∧ j < c
  | .value i v => i < c ∧ v ∈ nm
  | .take p => p ≠ [] ∧ p.Nodup ∧ (∀ k ∈ p, k < c) ∧ p.length ≤ c
def mvC (c : Nat) : Mv → Nat
  | .take p => p.length
  | _ => c
def at0 (r : Row) (k : Nat) : Vl := r.getD k (.n 0)
def doneM : Mv → List Row → List Row
  | .same i j, rs => rs.filter fun r => decide (at0 r i = at0 r j)
  | .below i j, rs => rs.filter fun r => vLt (at0 r i) (at0 r j)
  | .value i v, rs => rs.filter fun r => decide (at0 r i = v)
  | .take p, rs => risenM (rs.map fun r => p.map fun k => at0 r k)
theorem at0_get {r : Row} {k : Nat} (h : k < r.length) : atI (r.map Vl.d) (k : Int) = some (at0 r k).d := getT (by
  unfold at0
  rw [List.getD_eq_getElem?_getD, List.getElem?_eq_getElem h]
  rfl)
theorem vl_pl (v : Vl) : Pl v.d := ⟨vl_plain v, by rw [vl_depth]; omega⟩
theorem at0_ok {c : Nat} {r : Row} (ok : OkR c r) {k : Nat} (h : k < c) : okV (at0 r k) := by
  unfold at0
  have hl := ok.len
  rw [List.getD_eq_getElem?_getD, List.getElem?_eq_getElem (by omega)]
  exact ok.vs _ (List.getElem_mem _)
theorem doneM_ok {c : Nat} {nm : List Vl} {m : Mv} {rs : List Row} (hm : OkM c nm m) (h3 : c ≤ 3) (ok : ∀ r ∈ rs, OkR c r) (up : RiseR rs) : RiseR (doneM m rs) ∧ (doneM m rs).length ≤ rs.length ∧ ∀ r ∈ doneM m rs, OkR (mvC c m) r := by
  cases m with
  | same i j => exact ⟨up.filter _, List.length_filter_le _ _, fun r hr => ok r (List.mem_filter.mp hr).1⟩
  | below i j => exact ⟨up.filter _, List.length_filter_le _ _, fun r hr => ok r (List.mem_filter.mp hr).1⟩
  | value i v => exact ⟨up.filter _, List.length_filter_le _ _, fun r hr => ok r (List.mem_filter.mp hr).1⟩
  | take p =>
    obtain ⟨h0, hn, hc, hl⟩ := hm
    refine ⟨risenM_rise _, Nat.le_trans (risenM_len _) (by rw [List.length_map]; exact Nat.le_refl _), fun r hr => ?_⟩
    obtain ⟨q, hq, rfl⟩ := List.mem_map.mp ((risenM_mem _ _).mp hr)
    refine ⟨by rw [List.length_map]; rfl, List.length_pos_iff.mpr h0, by show p.length ≤ 3; omega, fun v hv => ?_⟩
    obtain ⟨k, hk, rfl⟩ := List.mem_map.mp hv
    exact at0_ok (ok q hq) (hc k hk)
section
variable {P : Program} {w : World} {K : PySem.W.Frag} {mg : Str → Option Value} {base : Heap}
/-! names_of -/
def S_names_of : Sg := fun ds Φ => ∃ f : Fd, ds = [fdD f] ∧ OkF f ∧ Φ (.py (ddD ((f.bk.headD []).map (·.1))))
theorem p_names_of (H : Hd K mg) : Pf P w K mg base "names_of" 1 ["field"] 1 S_names_of := pf_of H q_names_of sc_names_of rfl fun ds Φ hl hS => by
  obtain ⟨f, rfl, ok, φ⟩ := hS
  obtain ⟨b, hb, okb, eh⟩ := ok.bk.fst
  rw [eh] at φ
  have := okb.hi
  refine bb_ret (ee_callTy (T := "tuple") (fr_tuple H) (by decide +kernel) (ea_cons (ee_lcF [("name", 1), ("columns", 2), ("rows", 3)] wx_tup (gx_tup (n := 3) (t := gsOf [1, 2, 3]) (gxs_cons (gx_name 1) (gxs_cons (gx_name 2) (gxs_cons (gx_name 3) gxs_nil)))) (es_tup (ee_ixT (ee_fBooks H (ee_var 0 rfl ⟨f, rfl, ee_int ⟨_, 0, bkD b, rfl, rfl, getBk (n := 0) hb, _, rfl, Tb, fun t => .py (tbD t), b, fun _ => true, fun t => .str t.1, by rw [List.map_map]; rfl, fun x y h => tbD_inj (Dt.py.inj h), by omega, fun t ht => ?_, ?_⟩⟩)))))))
  · exact ⟨_, gd_tup [1, 2, 3] rfl rfl, ei_nil rfl, fun _ => ee_var 1 rfl rfl⟩
  · rw [filter_yes]
    refine ea_nil (ld_tuple ?_)
    unfold ddD at φ
    rw [List.map_map] at φ
    exact φ
/-! table_columns, rows_of -/
def S_table_columns : Sg := fun ds Φ => ∃ (f : Fd) (t : Tb), ds = [fdD f, .py (.str t.1)] ∧ OkF f ∧ t ∈ f.bk.headD [] ∧ Φ (.py (.int (t.2.1 : Int)))
theorem p_table_columns (H : Hd K mg) : Pf P w K mg base "table_columns" 2 ["field", "name"] 2 S_table_columns := pf_of H q_table_columns sc_table_columns rfl fun ds Φ hl hS => by
  obtain ⟨f, t, rfl, ok, ht, φ⟩ := hS
  obtain ⟨b, hb, okb, eh⟩ := ok.bk.fst
  rw [eh] at ht
  refine bb_asg [2, 3, 4] (gx_tup (n := 3) (t := gsOf [2, 3, 4]) (gxs_cons (gx_name 2) (gxs_cons (gx_name 3) (gxs_cons (gx_name 4) gxs_nil)))) (ee_call (p_table_at H).fnc (ea_cons (ee_ixT (ee_fBooks H (ee_var 0 rfl ⟨f, rfl, ee_int ⟨_, 0, bkD b, rfl, rfl, getBk (n := 0) hb, ?_⟩⟩)))))
  exact ea_cons (ee_var 1 rfl (ea_nil ⟨rfl, b, t, rfl, okb.hi, okb.up, ht, _, gd_tup [2, 3, 4] rfl rfl, bb_ret (ee_var 3 rfl φ)⟩))
/-- len(field), as a def's promise -/
def LenF (i : XI) : Prop := ∀ (ρ : En) (Φ : Dt → Prop) (e : Expr) (p pos : Pos), (∀ env, starEach [e] env = (false, eval e env) :: starEach [] env) → (∀ env, (backTo pos (starEach [e] env)).any (·.1) = false) → EE i e ρ (fun d => ∃ f : Fd, d = fdD f ∧ OkF f ∧ Φ (.py (.int (f.bk.length : Int)))) → EE i (.Call (.Name "len" p) [e] [] pos) ρ Φ
/-! is_column -/
def S_is_column : Sg := fun ds Φ => ∃ n c : Nat, ds = [.py (.int (n : Int)), .py (.int (c : Int))] ∧ n < c ∧ Φ (.py (.bool true))
theorem p_is_column (H : Hd K mg) : Pf P w K mg base "is_column" 2 ["thing", "columns"] 2 S_is_column := pf_of H q_is_column sc_is_column rfl fun ds Φ hl hS => by
  obtain ⟨n, c, rfl, h, φ⟩ := hS
  refine bb_ret (ee_and (ee_call (p_is_whole H).fnc (ea_cons (ee_var 0 rfl (ea_nil ⟨rfl, _, rfl, true, rfl, ?_⟩)))))
  refine iteT (ee_one (ee_chainI (fun _ _ => op_le) (fun _ _ => op_lt) (ee_int ⟨0, rfl, ee_var 0 rfl ⟨_, rfl, ?_⟩⟩)))
  rw [decide_eq_true (show (0 : Int) ≤ (n : Int) by omega)]
  refine iteT (ee_var 1 rfl ⟨_, rfl, ?_⟩)
  rw [decide_eq_true (show (n : Int) < (c : Int) by omega)]
  exact φ
/-! are_picked -/
theorem nats_plain : ∀ p : List Nat, PyData.plainAll (p.map fun (k : Nat) => PyData.int (k : Int)) = true
  | [] => rfl
  | k :: p => by
    rw [List.map_cons, PyData.plainAll, nats_plain p]
    rfl
theorem nats_depth : ∀ p : List Nat, PyData.depthAll (p.map fun (k : Nat) => PyData.int (k : Int)) = 0
  | [] => by simp [PyData.depthAll]
  | k :: p => by
    rw [List.map_cons, PyData.depthAll, nats_depth p]
    simp [PyData.depth]
theorem nats_pl (p : List Nat) : Pl (natsD p) := ⟨by unfold natsD; rw [PyData.plain]; exact nats_plain p, by unfold natsD; rw [PyData.depth, nats_depth]; omega⟩
theorem nat_injD (a b : Nat) (h : Dt.py (.int (a : Int)) = Dt.py (.int (b : Int))) : a = b := Int.ofNat.inj (PyData.int.inj (Dt.py.inj h))
theorem nats_int_nd {p : List Nat} (h : p.Nodup) : (p.map fun (k : Nat) => (k : Int)).Nodup := List.Pairwise.map _ (fun a b hab z => hab (Int.ofNat.inj z)) h
def S_are_picked : Sg := fun ds Φ => ∃ (p : List Nat) (c : Nat), ds = [.py (natsD p), .py (.int (c : Int))] ∧ p ≠ [] ∧ p.Nodup ∧ (∀ k ∈ p, k < c) ∧ p.length ≤ 3 ∧ Φ (.py (.bool true))
theorem p_are_picked (H : Hd K mg) : Pf P w K mg base "are_picked" 3 ["thing", "columns"] 2 S_are_picked := pf_of H q_are_picked sc_are_picked rfl fun ds Φ hl hS => by
  obtain ⟨p, c, rfl, h0, nd, hc, hz, φ⟩ := hS
  refine bb_if (et_w (ew_or (et_not (et_val (ee_isi (T := "tuple") (fr_isinstance H) (fr_tuple H) boot_tuple kit_tuple (ee_var 0 rfl ⟨_, rfl, _, rfl, ?_⟩))))))
  refine iteF (ew_or (et_cmp (ee_var 0 rfl (ee_tup (ea_nil ⟨[], .nil, Nat.le_of_ble_eq_true rfl, od_eq (nats_pl p) emp_pl ⟨_, rfl, ?_⟩⟩))) (hm := rfl)))
  have e1 : PyData.eqv (natsD p) (.tuple []) = false := by
    unfold natsD
    rw [eqv_nilT]
    cases p with
    | nil => exact absurd rfl h0
    | cons k p => rfl
  rw [e1]
  refine iteF (ew_or1 (et_not (et_val (ee_callB (fr_all H) boot_all (ea_cons (ee_lcF [("column", 2)] wx_tup (gx_name 2) (es_tup (ee_var 0 rfl ⟨_, rfl, Nat, fun k => .py (.int (k : Int)), p, fun _ => true, fun _ => .bool true, by rw [List.map_map]; rfl, nat_injD, by omega, fun k hk => ?_, ?_⟩))))))))
  · exact ⟨_, gd_name 2, ei_nil rfl, fun _ => ee_call (p_is_column H).fnc (ea_cons (ee_var 2 rfl (ea_cons (ee_var 1 rfl (ea_nil ⟨rfl, k, c, rfl, hc k hk, rfl⟩)))))⟩
  rw [filter_yes]
  refine ea_nil (ld_allT ⟨true, rfl, iteF (bb_nil ?_)⟩)
  refine bb_ret (ee_cmp (ee_lenSet (fr_len H) (fr_set H) (ee_var 0 rfl ⟨p.map fun (k : Nat) => (k : Int), by unfold natsD; rw [List.map_map]; rfl, nats_int_nd nd, by rw [List.length_map]; omega, ?_⟩)) (hm := rfl))
  refine ee_callB (fr_len H) PySem.boot_len (ea_cons (ee_var 0 rfl (ea_nil (ld_len (n := p.length) (d := natsD p) (by show p.length = _; rw [List.length_map]) (od_eq (pl_int _) (pl_int _) ?_)))))
  rw [eqv_int, List.length_map, decide_eq_true rfl]
  exact φ
/-! is_named -/
def S_is_named : Sg := fun ds Φ => ∃ (f : Fd) (v : Vl), ds = [fdD f, .py v.d] ∧ v ∈ f.nm ∧ Φ (.py (.bool true))
theorem p_is_named (H : Hd K mg) : Pf P w K mg base "is_named" 2 ["field", "thing"] 2 S_is_named := pf_of H q_is_named sc_is_named rfl fun ds Φ hl hS => by
  obtain ⟨f, v, rfl, hv, φ⟩ := hS
  refine bb_ret (ee_and (ee_or (ee_call (p_is_whole H).fnc (ea_cons (ee_var 1 rfl (ea_nil ⟨rfl, _, rfl, _, rfl, ?_⟩))))))
  cases v with
  | n m => exact iteT ⟨true, rfl, iteT (ee_one (ee_cmp (ee_var 1 rfl (ee_fNamed H (ee_var 0 rfl ⟨f, rfl, od_inT (vl_pl _) (vls_plain _) (by rw [vls_any, decide_eq_true hv]; exact φ)⟩))) (hm := rfl)))⟩
  | w s => exact iteF (ee_one (ee_isi (T := "str") (fr_isinstance H) (fr_str H) boot_str kit_str (ee_var 1 rfl ⟨_, rfl, true, rfl, iteT (ee_one (ee_cmp (ee_var 1 rfl (ee_fNamed H (ee_var 0 rfl ⟨f, rfl, od_inT (vl_pl _) (vls_plain _) (by rw [vls_any, decide_eq_true hv]; exact φ)⟩))) (hm := rfl)))⟩)))
/-! columns_by_one -/
def S_columns_by_one : Sg := fun ds Φ => ∃ (f : Fd) (m : Mv) (c : Nat), ds = [fdD f, .py (mvD m), .py (.int (c : Int))] ∧ c ≤ 3 ∧ OkM c f.nm m ∧ Φ (.py (.int (mvC c m : Int)))
theorem p_columns_by_one (H : Hd K mg) : Pf P w K mg base "columns_by_one" 4 ["field", "deed", "columns"] 3 S_columns_by_one := pf_of H q_columns_by_one sc_columns_by_one rfl fun ds Φ hl hS => by
  obtain ⟨f, m, c, rfl, h3, hm, φ⟩ := hS
  refine bb_star [3, 5] (gx_star (n := 1) (t := gsOf [3, 5]) (gxs_cons (gx_name 3) (gxs_star (gx_name 5)))) rfl (ee_var 1 rfl ⟨_, rfl, by cases m <;> exact Nat.le_of_ble_eq_true rfl, by cases m <;> exact Nat.le_of_ble_eq_true rfl, ?_⟩)
  cases m with
  | take p =>
    obtain ⟨h0, nd, hc, hz⟩ := hm
    refine bb_if (et_cmp (ee_var 3 rfl (ee_str (od_eq (pl_str _) (pl_str _) ⟨true, by kernel_rfl, ?_⟩))) (hm := rfl))
    refine iteT (bb_if (et_val (ee_call (p_are_picked H).fnc (ea_cons (ee_ixL (ee_var 5 rfl (ee_int ⟨[natsD p], 0, natsD p, rfl, rfl, ixT0, ea_cons (ee_var 2 rfl (ea_nil ⟨rfl, p, c, rfl, h0, nd, hc, by omega, true, rfl, ?_⟩))⟩)))))))
    exact iteT (bb_ret (ee_callB (fr_len H) PySem.boot_len (ea_cons (ee_ixL (ee_var 5 rfl (ee_int ⟨[natsD p], 0, natsD p, rfl, rfl, ixT0, ea_nil (ld_len (n := p.length) (d := natsD p) (by show p.length = _; rw [List.length_map]) φ)⟩))))))
  | value i v =>
    obtain ⟨h1, h2⟩ := hm
    refine bb_if (et_cmp (ee_var 3 rfl (ee_str (od_eq (pl_str _) (pl_str _) ⟨false, by kernel_rfl, ?_⟩))) (hm := rfl))
    refine iteF (bb_nil (bb_if (et_not (et_val (ee_call (p_is_column H).fnc (ea_cons (ee_ixL (ee_var 5 rfl (ee_int ⟨[.int (i : Int), v.d], 0, .int (i : Int), rfl, rfl, ixT0, ea_cons (ee_var 2 rfl (ea_nil ⟨rfl, i, c, rfl, h1, true, rfl, ?_⟩))⟩)))))))))
    refine iteF (bb_nil (bb_if (et_cmp (ee_var 3 rfl (ee_str (od_eq (pl_str _) (pl_str _) ⟨true, by kernel_rfl, ?_⟩))) (hm := rfl))))
    refine iteT (bb_set 4 (ee_call (p_is_named H).fnc (ea_cons (ee_var 0 rfl (ea_cons (ee_ixL (ee_var 5 rfl (ee_int ⟨[.int (i : Int), v.d], 1, v.d, rfl, rfl, atI_nat (j := 1) rfl, ea_nil ⟨rfl, f, v, rfl, h2, ?_⟩⟩))))))))
    exact bb_nil (bb_if (et_val (ee_var 4 rfl ⟨true, rfl, iteT (bb_ret (ee_var 2 rfl φ))⟩)))
  | same i j =>
    obtain ⟨h1, h2⟩ := hm
    refine bb_if (et_cmp (ee_var 3 rfl (ee_str (od_eq (pl_str _) (pl_str _) ⟨false, by kernel_rfl, ?_⟩))) (hm := rfl))
    refine iteF (bb_nil (bb_if (et_not (et_val (ee_call (p_is_column H).fnc (ea_cons (ee_ixL (ee_var 5 rfl (ee_int ⟨[.int (i : Int), .int (j : Int)], 0, .int (i : Int), rfl, rfl, ixT0, ea_cons (ee_var 2 rfl (ea_nil ⟨rfl, i, c, rfl, by omega, true, rfl, ?_⟩))⟩)))))))))
    refine iteF (bb_nil (bb_if (et_cmp (ee_var 3 rfl (ee_str (od_eq (pl_str _) (pl_str _) ⟨false, by kernel_rfl, ?_⟩))) (hm := rfl))))
    refine iteF (bb_if (et_cmp (ee_var 3 rfl (ee_str (od_eq (pl_str _) (pl_str _) ⟨true, by kernel_rfl, ?_⟩))) (hm := rfl)))
    refine iteT (bb_set 4 (ee_and (ee_call (p_is_column H).fnc (ea_cons (ee_ixL (ee_var 5 rfl (ee_int ⟨[.int (i : Int), .int (j : Int)], 1, .int (j : Int), rfl, rfl, atI_nat (j := 1) rfl, ea_cons (ee_var 2 rfl (ea_nil ⟨rfl, j, c, rfl, h2, true, rfl, ?_⟩))⟩)))))))
    refine iteT (ee_one (ee_cmp (ee_ixL (ee_var 5 rfl (ee_int ⟨[.int (i : Int), .int (j : Int)], 0, .int (i : Int), rfl, rfl, ixT0, ee_ixL (ee_var 5 rfl (ee_int ⟨[.int (i : Int), .int (j : Int)], 1, .int (j : Int), rfl, rfl, atI_nat (j := 1) rfl, od_lt ?_⟩))⟩))) (hm := rfl)))
    rw [decide_eq_true (show (i : Int) < (j : Int) by omega)]
    exact bb_nil (bb_nil (bb_if (et_val (ee_var 4 rfl ⟨true, rfl, iteT (bb_ret (ee_var 2 rfl φ))⟩))))
  | below i j =>
    obtain ⟨h0, h1, h2⟩ := hm
    refine bb_if (et_cmp (ee_var 3 rfl (ee_str (od_eq (pl_str _) (pl_str _) ⟨false, by kernel_rfl, ?_⟩))) (hm := rfl))
    refine iteF (bb_nil (bb_if (et_not (et_val (ee_call (p_is_column H).fnc (ea_cons (ee_ixL (ee_var 5 rfl (ee_int ⟨[.int (i : Int), .int (j : Int)], 0, .int (i : Int), rfl, rfl, ixT0, ea_cons (ee_var 2 rfl (ea_nil ⟨rfl, i, c, rfl, by omega, true, rfl, ?_⟩))⟩)))))))))
    refine iteF (bb_nil (bb_if (et_cmp (ee_var 3 rfl (ee_str (od_eq (pl_str _) (pl_str _) ⟨false, by kernel_rfl, ?_⟩))) (hm := rfl))))
    refine iteF (bb_if (et_cmp (ee_var 3 rfl (ee_str (od_eq (pl_str _) (pl_str _) ⟨false, by kernel_rfl, ?_⟩))) (hm := rfl)))
    refine iteF (bb_set 4 (ee_and (ee_call (p_is_column H).fnc (ea_cons (ee_ixL (ee_var 5 rfl (ee_int ⟨[.int (i : Int), .int (j : Int)], 1, .int (j : Int), rfl, rfl, atI_nat (j := 1) rfl, ea_cons (ee_var 2 rfl (ea_nil ⟨rfl, j, c, rfl, h2, true, rfl, ?_⟩))⟩)))))))
    refine iteT (ee_one (ee_cmp (ee_ixL (ee_var 5 rfl (ee_int ⟨[.int (i : Int), .int (j : Int)], 0, .int (i : Int), rfl, rfl, ixT0, ee_ixL (ee_var 5 rfl (ee_int ⟨[.int (i : Int), .int (j : Int)], 1, .int (j : Int), rfl, rfl, atI_nat (j := 1) rfl, od_ne (pl_int _) (pl_int _) ?_⟩))⟩))) (hm := rfl)))
    rw [eqv_int, decide_eq_false (show ¬ (i : Int) = (j : Int) by omega)]
    exact bb_nil (bb_nil (bb_if (et_val (ee_var 4 rfl ⟨true, rfl, iteT (bb_ret (ee_var 2 rfl φ))⟩))))
end
end Fq
/-! FqY: defs and methods with promises of any form; len of a Field. -/
namespace Fq
open PySem PySem.Spec PyProof.Rows L2 Evl
open RZ
section
variable {P : Program} {w : World} {K : PySem.W.Frag} {mg : Str → Option Value} {base : Heap}
theorem fn_go {x qual : Str} {params : Arguments} {body : List Stmt} {sc : Scope} {dvs : List V} {kws : List (Str × V)} {f : Addr} {fd : FuncData} {N ps : List Str} {k : Nat} {sp : Sp} (F : FunD K x qual params body sc dvs kws f fd) (Sc : FnScope N ps sc) (len : ∀ vs H Q E, sp vs H Q E → vs.length = ps.length)
    (h : ∀ vs H Q E, sp vs H Q E → GO (iOf P w K mg base N sc k) body { nx := fun _ H' => Q .non H', rt := Q } (L2.start N vs) H) : FnOk P w K mg base CX0 (k + 1) f fd ps sp :=
  F.ok Sc len (fun cdv A outer s H vs Q E hr h0 => ⟨GO (iOf P w K mg base N sc k) body, PSs.nox (GO.pss (xok_of Sc hr)), h vs H Q E h0⟩)
/-- plain parameters -/
def PlainP (d : He.DefD) (ps : List Str) : Prop := d.dfl = [] ∧ d.kwd = [] ∧ d.params.posonlyargs = [] ∧ d.params.args.map (·.arg) = ps ∧ d.params.kwonlyargs = [] ∧ d.params.vararg = none ∧ d.params.kwarg = none
theorem binds_pl {d : He.DefD} {N ps : List Str} {fd : FuncData} (F : FunD K d.name d.qual d.params d.body d.scope (d.dvs K) (d.kws K) (He.fAd K d.at_) fd) (Sc : FnScope N ps d.scope) (q : PlainP d ps) : Binds K fd ps [] := by
  obtain ⟨h1, h2, h3, h4, h5, h6, h7⟩ := q
  have nd : ps.Nodup := by rw [← Sc.pre]; exact Sc.nd.sublist (List.take_sublist _ _)
  have e0 : d.dvs K = [] := by
    unfold He.DefD.dvs
    rw [h1]
    rfl
  obtain ⟨oc, od, dV, kV, doc, pm, an, cdv, ct, osl, rfl, lk, hcd, hD, hK⟩ := F.ex
  refine Binds.all fun us hl => bind_plain h3 h4 h5 h6 h7 ?_ nd hl
  rcases hD with ⟨_, e⟩ | ⟨e, _⟩
  · exact e
  · exact absurd e0 e
/-- a def of any promise -/
structure Pg (P : Program) (w : World) (K : PySem.W.Frag) (mg : Str → Option Value) (base : Heap) (x : Str) (k : Nat) (ps : List Str) (sp : Sp) : Prop where
  ex : ∃ (f : Addr) (fd : FuncData), FnOk P w K mg base CX0 k f fd ps sp ∧ mg x = some (.ref f) ∧ PySem.W.keepIn K (.ref f) = true ∧ Binds K fd ps []
theorem Pg.fnc {x : Str} {k : Nat} {ps : List Str} {sp : Sp} (h : Pg P w K mg base x k ps sp) {N : List Str} {sc : Scope} {j : Nat} {t : Str → Bool} {c : Env → Prop} (hk : k ≤ j := by exact Nat.le_of_ble_eq_true rfl) : Fnc ⟨P, w, K, mg, base, N, sc, j, t, c⟩ x ps [] sp := by
  obtain ⟨f, fd, F, m, kp, b⟩ := h.ex
  exact ⟨⟨k, f, fd, [], hk, F, m, kp, b, .nil⟩⟩
theorem pg_of (H : Hd K mg) {d : He.DefD} {x : Str} {N ps : List Str} {k : Nat} {sp : Sp} (q : Pq d x ps) (Sc : FnScope N ps d.scope) (len : ∀ vs H Q E, sp vs H Q E → vs.length = ps.length)
    (h : ∀ vs H Q E, sp vs H Q E → GO (iOf P w K mg base N d.scope k) d.body { nx := fun _ H' => Q .non H', rt := Q } (L2.start N vs) H) : Pg P w K mg base x (k + 1) ps sp := by
  obtain ⟨⟨a, hd⟩, ⟨b, hx⟩, hat, hdf⟩ := q
  obtain ⟨fd, F⟩ := H.c.def_ a (d := d) hd
  have ef : He.fAd K d.at_ = He.ga K x := by
    rw [hat]
    rfl
  refine ⟨_, fd, fn_go F Sc len h, ?_, F.kp, binds_pl F Sc hdf⟩
  rw [ef]
  exact H.glo hx
/-- a method of any promise -/
structure Pmt (P : Program) (w : World) (K : PySem.W.Frag) (mg : Str → Option Value) (base : Heap) (C m : Str) (k : Nat) (ps : List Str) (sp : Sp) : Prop where
  ex : ∃ fd : FuncData, FnOk P w K mg base CX0 k (He.ma K (He.ga K C) m) fd ps sp ∧ Meth K (He.ga K C) m (He.ma K (He.ga K C) m) ∧ Binds K fd ps []
theorem pm_of (H : Hd K mg) {d : He.DefD} {C m : Str} {N ps : List Str} {k : Nat} {sp : Sp} (a b : Nat) (hd : fns[a]? = some d) (hb : fas[b]? = some (.meth C m)) (hat : d.at_ = (C, some m)) (hpl : PlainP d ps) (Sc : FnScope N ps d.scope) (len : ∀ vs H Q E, sp vs H Q E → vs.length = ps.length)
    (h : ∀ vs H Q E, sp vs H Q E → GO (iOf P w K mg base N d.scope k) d.body { nx := fun _ H' => Q .non H', rt := Q } (L2.start N vs) H) : Pmt P w K mg base C m (k + 1) ps sp := by
  obtain ⟨fd, F⟩ := H.c.def_ a (d := d) hd
  have ef : He.fAd K d.at_ = He.ma K (He.ga K C) m := by
    rw [hat]
    rfl
  have Fo := fn_go (P := P) (w := w) (mg := mg) (base := base) F Sc len h
  rw [ef] at Fo
  exact ⟨fd, Fo, He.meth_ok (H.c.fact b hb), binds_pl F Sc hpl⟩
end
section
variable {i : XI} {σ : L2.St} {H : Hp} {Q : VK} {ρ : En} {Φ : Dt → Prop} {o e : Expr} {es : List Expr} {p pos apos : Pos} {C m : Str} {k : Nat} {ps : List Str} {sp : Sp}
theorem ex_meth {pl : Env → Sem Bool} (F : Pmt i.P i.w i.K i.mg i.base C m k ps sp) (hk : k ≤ i.k) (c : Cls i.K (He.ga i.K C)) (h : EX i o σ H fun x H1 => ∃ a dx fs, x = .ref a ∧ H1 a = some (.ins (He.ga i.K C) dx fs) ∧ fs.lookup m = none ∧ AX i (e :: es) σ H1 fun vs H2 => sp (.ref a :: vs) H2 Q E0)
    (hst : ∀ env, starEach (e :: es) env = (false, eval e env) :: starEach es env := by intro _; rfl) (hpl : ∀ env, (backTo pos (starEach es env)).any (·.1) = false := by intro _; rfl)
    (ht : ∀ env, eval (.Call (.Attribute o m apos) (e :: es) [] pos) env = (do
      let ov ← eval o env
      standAt apos.atName
      let (f, first) ← holding [ov] (getMethod ov m (pl env))
      callWith pos f first (backTo pos (starEach (e :: es) env)) (backToKw pos (keywordEach [] env))) := by intro _; rfl) : EX i (.Call (.Attribute o m apos) (e :: es) [] pos) σ H Q := by
  refine ⟨fun X ok pins s I => ?_⟩
  obtain ⟨fd, F, hm, b⟩ := F.ex
  refine PySem.W.methodCall_KW (thn (h.run X ok pins s I) fun u s1 ⟨x, H1, I1, rx, a, dx, fs, ex, ea, l, q⟩ => ?_) (ht X.env)
  subst ex
  obtain rfl : u = Value.ref a := rx
  refine getmeth_ok I1 ea (by rw [ok.K]; exact c) (by rw [ok.K]; exact hm) l ?_
  refine PySem.W.callWith_K (first := [.ref a]) (h₀ := X.base) I.ok.mod.kin (by rw [ok.K]; exact hm.kp) (thn (q.run X ok pos pins s1 I1) fun us s2 ⟨vs, H2, I2, r, q2⟩ => ⟨I2.kIn, ?_⟩) (hst _) (hpl _)
  exact run_fn (us := .ref a :: us) (vs := .ref a :: vs) (ds := []) (dvs := []) (ok.fn' F) (ok.room.mono hk) (by rw [ok.K]; exact b) .nil pass0 I2 (.cons rfl r) (by rw [List.append_nil]; exact q2)
theorem ex_meth0 {pl : Env → Sem Bool} (F : Pmt i.P i.w i.K i.mg i.base C m k ps sp) (hk : k ≤ i.k) (c : Cls i.K (He.ga i.K C)) (h : EX i o σ H fun x H1 => ∃ a dx fs, x = .ref a ∧ H1 a = some (.ins (He.ga i.K C) dx fs) ∧ fs.lookup m = none ∧ sp [.ref a] H1 Q E0)
    (ht : ∀ env, eval (.Call (.Attribute o m apos) [] [] pos) env = (do
      let ov ← eval o env
      standAt apos.atName
      let (f, first) ← holding [ov] (getMethod ov m (pl env))
      callWith pos f first (backTo pos (starEach [] env)) (backToKw pos (keywordEach [] env))) := by intro _; rfl) : EX i (.Call (.Attribute o m apos) [] [] pos) σ H Q := by
  refine ⟨fun X ok pins s I => ?_⟩
  obtain ⟨fd, F, hm, b⟩ := F.ex
  refine (pe_meth0 (ds := []) (dvs := []) (ta := EX i o) (EX.pe ok) (by rw [ok.K]; exact c) (by rw [ok.K]; exact hm) (ok.fn' F) (ok.room.mono hk) (by rw [ok.K]; exact b) .nil pass0 (ht X.env)).run pins s σ H Q I ?_
  refine h.mono fun x H1 ⟨a, dx, fs, e1, e2, e3, q⟩ => ⟨a, dx, fs, e1, e2, e3, ?_⟩
  show sp (x :: ([] ++ [])) H1 Q E0
  rw [e1]
  exact q
/-! ### len(a field) -/
theorem ld_lenF (H0 : Hd i.K i.mg) {f : Fd} (hz : f.bk.length ≤ 1000) (F : Pmt i.P i.w i.K i.mg i.base "Field" "__len__" k ["self"] (spD i.K 1 fun ds Φ => ∃ f : Fd, ds = [fdD f] ∧ f.bk.length ≤ 1000 ∧ Φ (.py (.int (f.bk.length : Int))))) (hk : k + 1 ≤ i.k) (h : Φ (.py (.int (f.bk.length : Int)))) : CallD i (.builtin "len") [fdD f] Φ := by
  intro X ok pins s σ Hf H vs us Q I ex r rv q
  obtain ⟨fd, F, hm, b⟩ := F.ex
  cases r with
  | cons r t =>
    cases t
    obtain ⟨a, rfl, A⟩ := r
    obtain ⟨dx, fs, vb, vn, vd, h1, _⟩ := A.ex
    obtain rfl := Vals.ref1 rv
    obtain ⟨mA, M, _⟩ := ins_get I.hok (ex _ _ h1)
    obtain ⟨od, J, _⟩ := M.look
    obtain ⟨m, Fr⟩ := I.fr
    refine PySem.W.len_K Fr I.ok.mod.kin J (by rw [ok.K]; exact hm.at_) (by rw [ok.K]; exact hm.fn) ?_
    refine wpAny_mono (run1 (Q := fun v H' => v = .int (f.bk.length : Int) ∧ ∃ Hf', Tr Hf H Hf' H') (ok.fn' F) (room1 (ok.room.mono hk)) (by rw [ok.K]; exact b) I rv ⟨Hf, [fdD f], fun d => d = .py (.int (f.bk.length : Int)), .cons ⟨a, rfl, A⟩ .nil, ex, rfl, ⟨f, rfl, hz, rfl⟩, fun v d Hf' H' t r e => ?_⟩) (fun u s2 he => ?_) fun _ _ hF => hF.elim
    · subst e
      cases r
      exact ⟨rfl, Hf', t⟩
    · obtain ⟨v, H2, I2, rz, ez, Hf2, t2⟩ := I.after he
      subst ez
      obtain ⟨tk, rfl⟩ := rz
      exact ⟨⟨by omega, by omega⟩, .int _, H2, I2.tok _, ⟨_, rfl⟩, q _ _ Hf2 H2 t2 (rpy (Dp.int _)) h⟩
end
section
variable {P : Program} {w : World} {K : PySem.W.Frag} {mg : Str → Option Value} {base : Heap}
def S_len : Sg := fun ds Φ => ∃ f : Fd, ds = [fdD f] ∧ f.bk.length ≤ 1000 ∧ Φ (.py (.int (f.bk.length : Int)))
/-- a pure method -/
theorem pmt_pure (H : Hd K mg) {d : He.DefD} {C m : Str} {N ps : List Str} {k n : Nat} {S : Sg} (a b : Nat) (hd : fns[a]? = some d) (hb : fas[b]? = some (.meth C m)) (hat : d.at_ = (C, some m)) (hpl : PlainP d ps) (Sc : FnScope N ps d.scope) (hn : n = ps.length)
    (h : ∀ ds Φ, ds.length = n → S ds Φ → BB (iOf P w K mg base N d.scope k) d.body (st0 N ds) (fun _ => Φ (.py .none)) Φ) : Pmt P w K mg base C m (k + 1) ps (spD K n S) := by
  obtain ⟨fd, F⟩ := H.c.def_ a (d := d) hd
  have ef : He.fAd K d.at_ = He.ma K (He.ga K C) m := by
    rw [hat]
    rfl
  have Fo := fn_pure (P := P) (w := w) (mg := mg) (base := base) F Sc hn h
  rw [ef] at Fo
  exact ⟨fd, Fo, He.meth_ok (H.c.fact b hb), binds_pl F Sc hpl⟩
theorem p_Field_len (H : Hd K mg) : Pmt P w K mg base "Field" "__len__" 1 ["self"] (spD K 1 S_len) := pmt_pure H 29 142 (by kernel_rfl) (by kernel_rfl) rfl ⟨rfl, rfl, by kernel_rfl, by kernel_rfl, by kernel_rfl, by kernel_rfl, by kernel_rfl⟩ sc_Field_len rfl fun ds Φ hl hS => by
  obtain ⟨f, rfl, hz, φ⟩ := hS
  exact bb_ret (ee_callB (fr_len H) PySem.boot_len (ea_cons (ee_fBooks H (ee_var 0 rfl ⟨f, rfl, ea_nil (ld_len (n := f.bk.length) (d := bksD f.bk) (by show f.bk.length = _; rw [List.length_map]) φ)⟩))))
end
end Fq
/-! FqP11: rows of a name; deeds done; a name as a question. -/
namespace Fq
open PySem PySem.Spec PyProof.Rows L2 Evl
open RZ
open PySem.W (EachIs AllAlike Sortable dataLe)
/-- the rows of a name's table in a book -/
def rowsM (f : Fd) (b : Nat) (nm : Str) : List Row := match (f.bk.getD b []).find? fun s => decide (s.1 = nm) with
  | some t => t.2.2
  | none => []
theorem rowsM_at {f : Fd} (ok : OkBs f.bk) {b : Nat} (hb : b < f.bk.length) {t : Tb} (ht : t ∈ f.bk.headD []) : ∃ bk t', f.bk[b]? = some bk ∧ OkB bk ∧ t' ∈ bk ∧ t'.1 = t.1 ∧ t'.2.1 = t.2.1 ∧ rowsM f b t.1 = t'.2.2 := by
  have hm : f.bk[b] ∈ f.bk := List.getElem_mem hb
  have h1 : (t.1, t.2.1) ∈ headsOf f.bk[b] := by
    have e : headsOf f.bk[b] = headsOf (f.bk.headD []) := ok.hd _ hm
    rw [e]
    exact List.mem_map.mpr ⟨t, ht, rfl⟩
  obtain ⟨t', h2, h3⟩ := List.mem_map.mp h1
  have e1 : t'.1 = t.1 := congrArg (·.1) h3
  have e2 : t'.2.1 = t.2.1 := congrArg (·.2) h3
  refine ⟨_, t', List.getElem?_eq_getElem hb, ok.bk _ hm, h2, e1, e2, ?_⟩
  have e3 : (f.bk.getD b []) = f.bk[b] := by rw [List.getD_eq_getElem?_getD, List.getElem?_eq_getElem hb]; rfl
  have e4 := filter_name (ok.bk _ hm).up h2
  have e5 : (f.bk[b].find? fun s => decide (s.1 = t'.1)) = some t' := by
    rw [← List.head?_filter, e4]
    rfl
  unfold rowsM
  rw [e3, ← e1, e5]
theorem inB {α : Type} {l : List α} {n : Nat} (h : n < l.length) (d : α) : l[n]? = some (l.getD n d) := by
  rw [List.getD_eq_getElem?_getD, List.getElem?_eq_getElem h]
  rfl
section
variable {P : Program} {w : World} {K : PySem.W.Frag} {mg : Str → Option Value} {base : Heap}
/-! rows_of -/
def S_rows_of : Sg := fun ds Φ => ∃ (f : Fd) (b : Nat) (t : Tb), ds = [fdD f, .py (.int (b : Int)), .py (.str t.1)] ∧ OkF f ∧ b < f.bk.length ∧ t ∈ f.bk.headD [] ∧ Φ (.py (rwsD (rowsM f b t.1)))
theorem p_rows_of (H : Hd K mg) : Pf P w K mg base "rows_of" 3 ["field", "book", "name"] 3 S_rows_of := pf_of H q_rows_of sc_rows_of rfl fun ds Φ hl hS => by
  obtain ⟨f, b, t, rfl, ok, hb, ht, φ⟩ := hS
  obtain ⟨b0, hb0, okb0, eh⟩ := ok.bk.fst
  obtain ⟨bk, t', hbk, okb, ht', e1, e2, er⟩ := rowsM_at ok.bk hb ht
  have h3 := ok.bk.hi
  rw [eh] at ht
  refine bb_expr (ee_call (p_table_at H).fnc (ea_cons (ee_ixT (ee_fBooks H (ee_var 0 rfl ⟨f, rfl, ee_int ⟨_, 0, bkD b0, rfl, rfl, getBk (n := 0) hb0, ?_⟩⟩)))))
  refine ea_cons (ee_var 2 rfl (ea_nil ⟨rfl, b0, t, rfl, okb0.hi, okb0.up, ht, ?_⟩))
  refine bb_expr (ee_call (p_check_number H).fnc (ea_cons (ee_callB (fr_len H) PySem.boot_len (ea_cons (ee_var 0 rfl (ea_nil (ld_lenF H (by omega) (p_Field_len H) (Nat.le_of_ble_eq_true rfl) ?_)))))))
  refine ea_cons (ee_var 1 rfl (ea_nil ⟨rfl, f.bk.length, b, rfl, hb, ?_⟩))
  refine bb_asg [3, 4, 5] (gx_tup (n := 3) (t := gsOf [3, 4, 5]) (gxs_cons (gx_name 3) (gxs_cons (gx_name 4) (gxs_cons (gx_name 5) gxs_nil)))) (ee_call (p_table_at H).fnc (ea_cons (ee_ixT (ee_fBooks H (ee_var 0 rfl ⟨f, rfl, ee_var 1 rfl ⟨_, b, bkD bk, rfl, rfl, getBk hbk, ?_⟩⟩)))))
  refine ea_cons (ee_var 2 rfl (ea_nil ⟨rfl, bk, t', by rw [e1], okb.hi, okb.up, ht', _, gd_tup [3, 4, 5] rfl rfl, bb_ret (ee_var 5 rfl ?_)⟩))
  rw [er] at φ
  exact φ
/-! deeds -/
def S_picked_rows : Sg := fun ds Φ => ∃ (rs : List Row) (p : List Nat) (c : Nat), ds = [.py (rwsD rs), .py (natsD p)] ∧ rs.length ≤ 6 ∧ (∀ r ∈ rs, OkR c r) ∧ (∀ k ∈ p, k < c) ∧ p.length ≤ 3 ∧ Φ (.py (rwsD (risenM (rs.map fun r => p.map fun k => at0 r k))))
theorem p_picked_rows (H : Hd K mg) : Pf P w K mg base "picked_rows" 5 ["rows", "picked"] 2 S_picked_rows := pf_of H q_picked_rows sc_picked_rows rfl fun ds Φ hl hS => by
  obtain ⟨rs, p, c, rfl, hz, ok, hp, hpz, φ⟩ := hS
  refine bb_ret (ee_call (p_risen H).fnc (ea_cons (ee_lcF [("row", 2)] wx_tup (gx_name 2) (es_tup (ee_var 0 rfl ⟨_, rfl, Row, fun r => .py (rowD r), rs, fun _ => true, fun r => rowD (p.map fun k => at0 r k), by rw [List.map_map]; rfl, rowD_inj, by omega, fun r hr => ?_, ?_⟩)))))
  · refine ⟨_, gd_name 2, ei_nil rfl, fun _ => ee_callTy (T := "tuple") (fr_tuple H) (by decide +kernel) (ea_cons (ee_lcF [("column", 3)] wx_tup (gx_name 3) (es_tup (ee_var 1 rfl ⟨_, rfl, Nat, fun k => .py (.int (k : Int)), p, fun _ => true, fun k => (at0 r k).d, by rw [List.map_map]; rfl, nat_injD, by omega, fun k hk => ?_, ?_⟩))))⟩
    · exact ⟨_, gd_name 3, ei_nil rfl, fun _ => ee_ixT (ee_var 2 rfl (ee_var 3 rfl ⟨_, (k : Int), (at0 r k).d, rfl, rfl, at0_get (by rw [(ok r hr).len]; exact hp k hk), rfl⟩))⟩
    · rw [filter_yes]
      refine ea_nil (ld_tuple ?_)
      show Dt.py (.tuple (p.map fun k => (at0 r k).d)) = Dt.py (.tuple ((p.map fun k => at0 r k).map Vl.d))
      rw [List.map_map]
      rfl
  · rw [filter_yes]
    refine ea_nil ⟨rfl, rs.map fun r => p.map fun k => at0 r k, by rw [List.map_map]; rfl, by rw [List.length_map]; omega, fun r hr => ?_, φ⟩
    obtain ⟨q, _, rfl⟩ := List.mem_map.mp hr
    rw [List.length_map]
    omega
def S_done_on_one : Sg := fun ds Φ => ∃ (m : Mv) (nm : List Vl) (rs : List Row) (c : Nat), ds = [.py (mvD m), .py (rwsD rs)] ∧ OkM c nm m ∧ c ≤ 3 ∧ rs.length ≤ 6 ∧ (∀ r ∈ rs, OkR c r) ∧ Φ (.py (rwsD (doneM m rs)))
theorem p_done_on_one (H : Hd K mg) : Pf P w K mg base "done_on_one" 6 ["deed", "rows"] 2 S_done_on_one := pf_of H q_done_on_one sc_done_on_one rfl fun ds Φ hl hS => by
  obtain ⟨m, nm, rs, c, rfl, hm, hc, hz, ok, φ⟩ := hS
  cases m with
  | take p =>
    obtain ⟨h0, nd, hk, hl⟩ := hm
    refine bb_if (et_cmp (ee_ixT (ee_var 0 rfl (ee_int ⟨_, 0, .str "take", rfl, rfl, ixT0, ee_str (od_eq (pl_str _) (pl_str _) ⟨true, by kernel_rfl, ?_⟩)⟩))) (hm := rfl))
    exact iteT (bb_ret (ee_call (p_picked_rows H).fnc (ea_cons (ee_var 1 rfl (ea_cons (ee_ixT (ee_var 0 rfl (ee_int ⟨_, 1, natsD p, rfl, rfl, atI_nat (j := 1) rfl, ea_nil ⟨rfl, rs, p, c, rfl, hz, ok, hk, by omega, φ⟩⟩))))))))
  | value i v =>
    obtain ⟨h1, h2⟩ := hm
    refine bb_if (et_cmp (ee_ixT (ee_var 0 rfl (ee_int ⟨_, 0, .str "value", rfl, rfl, ixT0, ee_str (od_eq (pl_str _) (pl_str _) ⟨false, by kernel_rfl, ?_⟩)⟩))) (hm := rfl))
    refine iteF (bb_nil (bb_asg [2, 3, 4] (gx_tup (n := 3) (t := gsOf [2, 3, 4]) (gxs_cons (gx_name 2) (gxs_cons (gx_name 3) (gxs_cons (gx_name 4) gxs_nil)))) (ee_var 0 rfl ⟨_, gd_tup [2, 3, 4] rfl rfl, ?_⟩)))
    refine bb_if (et_cmp (ee_var 2 rfl (ee_str (od_eq (pl_str _) (pl_str _) ⟨true, by kernel_rfl, ?_⟩))) (hm := rfl))
    refine iteT (bb_ret (ee_callTy (T := "tuple") (fr_tuple H) (by decide +kernel) (ea_cons (ee_lcF [("row", 5)] wx_tup (gx_name 5) (es_tup (ee_var 1 rfl ⟨_, rfl, Row, fun r => .py (rowD r), rs, fun r => decide (at0 r i = v), rowD, by rw [List.map_map]; rfl, rowD_inj, by omega, fun r hr => ?_, ea_nil (ld_tuple φ)⟩))))))
    refine ⟨_, gd_name 5, ei_one (et_cmp (ee_ixT (ee_var 5 rfl (ee_var 3 rfl ⟨_, (i : Int), (at0 r i).d, rfl, rfl, at0_get (by rw [(ok r hr).len]; omega), ee_var 4 rfl (od_eq (vl_pl _) (vl_pl _) ⟨_, rfl, ?_⟩)⟩))) (hm := rfl)), fun _ => ee_var 5 rfl rfl⟩
    rw [vl_eqv]
  | same i j =>
    obtain ⟨h1, h2⟩ := hm
    refine bb_if (et_cmp (ee_ixT (ee_var 0 rfl (ee_int ⟨_, 0, .str "same", rfl, rfl, ixT0, ee_str (od_eq (pl_str _) (pl_str _) ⟨false, by kernel_rfl, ?_⟩)⟩))) (hm := rfl))
    refine iteF (bb_nil (bb_asg [2, 3, 4] (gx_tup (n := 3) (t := gsOf [2, 3, 4]) (gxs_cons (gx_name 2) (gxs_cons (gx_name 3) (gxs_cons (gx_name 4) gxs_nil)))) (ee_var 0 rfl ⟨_, gd_tup [2, 3, 4] rfl rfl, ?_⟩)))
    refine bb_if (et_cmp (ee_var 2 rfl (ee_str (od_eq (pl_str _) (pl_str _) ⟨false, by kernel_rfl, ?_⟩))) (hm := rfl))
    refine iteF (bb_nil (bb_if (et_cmp (ee_var 2 rfl (ee_str (od_eq (pl_str _) (pl_str _) ⟨true, by kernel_rfl, ?_⟩))) (hm := rfl))))
    refine iteT (bb_ret (ee_callTy (T := "tuple") (fr_tuple H) (by decide +kernel) (ea_cons (ee_lcF [("row", 5)] wx_tup (gx_name 5) (es_tup (ee_var 1 rfl ⟨_, rfl, Row, fun r => .py (rowD r), rs, fun r => decide (at0 r i = at0 r j), rowD, by rw [List.map_map]; rfl, rowD_inj, by omega, fun r hr => ?_, ea_nil (ld_tuple φ)⟩))))))
    refine ⟨_, gd_name 5, ei_one (et_cmp (ee_ixT (ee_var 5 rfl (ee_var 3 rfl ⟨_, (i : Int), (at0 r i).d, rfl, rfl, at0_get (by rw [(ok r hr).len]; omega), ee_ixT (ee_var 5 rfl (ee_var 4 rfl ⟨_, (j : Int), (at0 r j).d, rfl, rfl, at0_get (by rw [(ok r hr).len]; omega), od_eq (vl_pl _) (vl_pl _) ⟨_, rfl, ?_⟩⟩))⟩))) (hm := rfl)), fun _ => ee_var 5 rfl rfl⟩
    rw [vl_eqv]
  | below i j =>
    obtain ⟨h0, h1, h2⟩ := hm
    refine bb_if (et_cmp (ee_ixT (ee_var 0 rfl (ee_int ⟨_, 0, .str "below", rfl, rfl, ixT0, ee_str (od_eq (pl_str _) (pl_str _) ⟨false, by kernel_rfl, ?_⟩)⟩))) (hm := rfl))
    refine iteF (bb_nil (bb_asg [2, 3, 4] (gx_tup (n := 3) (t := gsOf [2, 3, 4]) (gxs_cons (gx_name 2) (gxs_cons (gx_name 3) (gxs_cons (gx_name 4) gxs_nil)))) (ee_var 0 rfl ⟨_, gd_tup [2, 3, 4] rfl rfl, ?_⟩)))
    refine bb_if (et_cmp (ee_var 2 rfl (ee_str (od_eq (pl_str _) (pl_str _) ⟨false, by kernel_rfl, ?_⟩))) (hm := rfl))
    refine iteF (bb_nil (bb_if (et_cmp (ee_var 2 rfl (ee_str (od_eq (pl_str _) (pl_str _) ⟨false, by kernel_rfl, ?_⟩))) (hm := rfl))))
    refine iteF (bb_nil (bb_ret (ee_callTy (T := "tuple") (fr_tuple H) (by decide +kernel) (ea_cons (ee_lcF [("row", 5)] wx_tup (gx_name 5) (es_tup (ee_var 1 rfl ⟨_, rfl, Row, fun r => .py (rowD r), rs, fun r => vLt (at0 r i) (at0 r j), rowD, by rw [List.map_map]; rfl, rowD_inj, by omega, fun r hr => ?_, ea_nil (ld_tuple φ)⟩)))))))
    refine ⟨_, gd_name 5, ei_one (et_val (ee_call (p_value_less H).fnc (ea_cons (ee_ixT (ee_var 5 rfl (ee_var 3 rfl ⟨_, (i : Int), (at0 r i).d, rfl, rfl, at0_get (by rw [(ok r hr).len]; omega), ?_⟩)))))), fun _ => ee_var 5 rfl rfl⟩
    exact ea_cons (ee_ixT (ee_var 5 rfl (ee_var 4 rfl ⟨_, (j : Int), (at0 r j).d, rfl, rfl, at0_get (by rw [(ok r hr).len]; omega), ea_nil ⟨rfl, _, _, rfl, _, rfl, rfl⟩⟩)))
/-! done_on -/
def S_done_on : Sg := fun ds Φ => ∃ (m : Mv) (nm : List Vl) (rs : List Row) (c : Nat), ds = [.py (mvD m), .py (rwsD rs), .py (.tuple [])] ∧ OkM c nm m ∧ c ≤ 3 ∧ rs.length ≤ 6 ∧ (∀ r ∈ rs, OkR c r) ∧ Φ (.py (rwsD (doneM m rs)))
def wordOf : Mv → Str
  | .same _ _ => "same"
  | .below _ _ => "below"
  | .value _ _ => "value"
  | .take _ => "take"
theorem mvL_word (m : Mv) : atI (mvL m) 0 = some (.str (wordOf m)) := by cases m <;> rfl
def oneS : List Str := ["below", "same", "take", "value"]
theorem word_in (m : Mv) : wordOf m ∈ oneS := by cases m <;> simp [wordOf, oneS]
theorem et_done (H : Hd K mg) : True := trivial
theorem f_done_on (H : Hd K mg) : ∃ a : Addr, (∀ {N : List Str} {sc : Scope} {j : Nat} {t : Str → Bool} {cd : Env → Prop}, 7 ≤ j → Fnc ⟨P, w, K, mg, base, N, sc, j, t, cd⟩ "done_on" ["deed", "one", "other"] [.ref a] (spD K 3 S_done_on)) ∧ ∀ H' : Hp, RpL K H' [.ref a] [.py (.tuple [])] := by
  obtain ⟨fd, F⟩ := H.c.def_ 35 (d := d_done_on) (by kernel_rfl)
  refine ⟨He.dflAt ("done_on", none) 0 K, ?_, fun H' => ?_⟩
  · intro N sc j t cd hj
    have Fo : FnOk P w K mg base CX0 7 (He.fAd K d_done_on.at_) fd ["deed", "one", "other"] (spD K 3 S_done_on) := fn_pure F sc_done_on rfl fun ds Φ hl hS => by
      obtain ⟨m, nm, rs, c, rfl, hm, hc, hz, ok, φ⟩ := hS
      refine bb_if (et_cmp (ee_ixT (ee_var 0 rfl (ee_int ⟨_, 0, .str (wordOf m), rfl, rfl, mvL_word m, ?_⟩))) (hm := rfl))
      refine ee_tup (ea_cons (ee_str (ea_cons (ee_str (ea_cons (ee_str (ea_cons (ee_str (ea_nil ⟨oneS.map PyData.str, .cons (.cons (.cons (.cons .nil))), Nat.le_of_ble_eq_true rfl, od_inT (pl_str _) (strs_plain _) ⟨true, ?_, ?_⟩⟩)))))))))
      · rw [strs_any, decide_eq_true (word_in m)]
      · exact iteT (bb_ret (ee_call (p_done_on_one H).fnc (ea_cons (ee_var 0 rfl (ea_cons (ee_var 1 rfl (ea_nil ⟨rfl, m, nm, rs, c, rfl, hm, hc, hz, ok, φ⟩)))))))
    obtain ⟨ds, hv, hb⟩ := F.binds1 (ps := ["deed", "one", "other"]) 2 0 (fun z => nomatch (show [V.ref (He.dflAt ("done_on", none) 0 K)] = [] from z)) rfl (fun T kV doc pm an cdv ct us its hu hi => by
      match us, its, hu, hi with
      | [u1, u2], [i1], _, _ => exact ⟨_, rfl, rfl⟩)
    exact ⟨⟨7, _, fd, ds, hj, Fo, H.glo (x := "done_on") (j := 33) (by kernel_rfl), F.kp, hb, hv⟩⟩
  · refine .cons ?_ .nil
    have e := (He.ba (show (He.tupB K "DEEDS" (deedsS.map He.Dv.str) && etB K (He.dflAt ("done_on", none) 0 K)) = true from H.x)).2
    generalize He.dflAt ("done_on", none) 0 K = a at e
    unfold etB at e
    cases q : K.lookup a with
    | none =>
      rw [q] at e
      cases e
    | some o =>
      obtain ⟨oc, od, dt, osl⟩ := o
      rw [q] at e
      cases oc with
      | type c =>
        cases dt with
        | seq its n =>
          obtain ⟨h1, h2⟩ := He.ba (show (decide (c = "tuple") && decide (its.size = 0)) = true from e)
          have e2 : its = #[] := Array.eq_empty_of_size_eq_zero (of_decide_eq_true h2)
          subst e2
          exact Dp.tup (.inr ⟨_, #[], n, q, congrArg Value.type (of_decide_eq_true h1), rfl, by decide, .nil⟩) .nil
        | _ => cases od <;> cases e
      | _ => cases od <;> cases dt <;> cases e
/-! a name as a question -/
def S_looked : Sg := fun ds Φ => ∃ (f : Fd) (t : Tb), ds = [fdD f, .py (.str t.1), .py (.int 40)] ∧ OkF f ∧ t ∈ f.bk.headD [] ∧ Φ (.py (.tuple [.int (t.2.1 : Int), .int 1]))
theorem p_looked (H : Hd K mg) : Pf P w K mg base "looked" 3 ["field", "thing", "left"] 3 S_looked := pf_of H q_looked sc_looked rfl fun ds Φ hl hS => by
  obtain ⟨f, t, rfl, ok, ht, φ⟩ := hS
  refine bb_if (et_cmp (ee_var 2 rfl (ee_int (od_lt ⟨_, rfl, iteF (bb_nil ?_)⟩))) (hm := rfl))
  refine bb_if (et_val (ee_isi (T := "str") (fr_isinstance H) (fr_str H) boot_str kit_str (ee_var 1 rfl ⟨_, rfl, true, rfl, iteT ?_⟩)))
  refine bb_if (et_cmp (ee_var 1 rfl (ee_call (p_names_of H).fnc (ea_cons (ee_var 0 rfl (ea_nil ⟨rfl, f, rfl, ok, od_inT (pl_str _) (strs_plain _) ⟨true, ?_, ?_⟩⟩))))) (hm := rfl))
  · rw [strs_any, decide_eq_true (List.mem_map.mpr ⟨t, ht, rfl⟩)]
  · exact iteT (bb_ret (ee_tup (ea_cons (ee_call (p_table_columns H).fnc (ea_cons (ee_var 0 rfl (ea_cons (ee_var 1 rfl (ea_nil ⟨rfl, f, t, rfl, ok, ht, ea_cons (ee_int (ea_nil ⟨_, .cons (.cons .nil), Nat.le_of_ble_eq_true rfl, φ⟩))⟩)))))))))
def S_is_question : Sg := fun ds Φ => ∃ (f : Fd) (t : Tb), ds = [fdD f, .py (.str t.1)] ∧ OkF f ∧ t ∈ f.bk.headD [] ∧ Φ (.py (.bool true))
theorem p_is_question (H : Hd K mg) : Pf P w K mg base "is_question" 4 ["field", "thing"] 2 S_is_question := pf_of H q_is_question sc_is_question rfl fun ds Φ hl hS => by
  obtain ⟨f, t, rfl, ok, ht, φ⟩ := hS
  refine bb_ret (ee_cmp (ee_call (p_looked H).fnc (ea_cons (ee_var 0 rfl (ea_cons (ee_var 1 rfl (ea_cons (ee_globInt (gi_SIZE H) rfl (ea_nil ⟨rfl, f, t, rfl, ok, ht, ee_non (od_notN isN_py φ)⟩)))))))) (hm := rfl))
def S_check_question : Sg := fun ds Φ => ∃ (f : Fd) (t : Tb), ds = [fdD f, .py (.str t.1)] ∧ OkF f ∧ t ∈ f.bk.headD [] ∧ Φ (.py .none)
theorem p_check_question (H : Hd K mg) : Pf P w K mg base "check_question" 5 ["field", "thing"] 2 S_check_question := pf_of H q_check_question sc_check_question rfl fun ds Φ hl hS => by
  obtain ⟨f, t, rfl, ok, ht, φ⟩ := hS
  exact bb_if (et_not (et_val (ee_call (p_is_question H).fnc (ea_cons (ee_var 0 rfl (ea_cons (ee_var 1 rfl (ea_nil ⟨rfl, f, t, rfl, ok, ht, true, rfl, iteF (bb_nil (bb_nil φ))⟩))))))))
def S_columns_of : Sg := fun ds Φ => ∃ (f : Fd) (t : Tb), ds = [fdD f, .py (.str t.1)] ∧ OkF f ∧ t ∈ f.bk.headD [] ∧ Φ (.py (.int (t.2.1 : Int)))
theorem p_columns_of (H : Hd K mg) : Pf P w K mg base "columns_of" 6 ["field", "question"] 2 S_columns_of := pf_of H q_columns_of sc_columns_of rfl fun ds Φ hl hS => by
  obtain ⟨f, t, rfl, ok, ht, φ⟩ := hS
  refine bb_expr (ee_call (p_check_question H).fnc (ea_cons (ee_var 0 rfl (ea_cons (ee_var 1 rfl (ea_nil ⟨rfl, f, t, rfl, ok, ht, ?_⟩))))))
  exact bb_ret (ee_ixT (ee_call (p_looked H).fnc (ea_cons (ee_var 0 rfl (ea_cons (ee_var 1 rfl (ea_cons (ee_globInt (gi_SIZE H) rfl (ea_nil ⟨rfl, f, t, rfl, ok, ht, ee_int ⟨_, 0, .int (t.2.1 : Int), rfl, rfl, ixT0, φ⟩⟩)))))))))
end
end Fq
/-! FqZ: lists that stand as tracked ones, their sum, +, comprehensions of two clauses, texts of numbers, joined. -/
namespace Fq
open PySem PySem.Spec PyProof.Rows L2 Evl
open RZ
open PySem.W (EachIs)
/-- a list that stands tracked -/
def ldD (K : PySem.W.Frag) (zs : List PyData) : Dt := .ob (fun H v => ∃ a xs, v = .ref a ∧ H a = some (.lst xs) ∧ DpAll K H xs zs) fun H H' v e h => by
  obtain ⟨a, xs, h1, h2, h3⟩ := h
  exact ⟨a, xs, h1, e _ _ h2, dpAll_mono e h3⟩
theorem ld_mk {K : PySem.W.Frag} {H : Hp} {a : Addr} {xs : List V} {zs : List PyData} (h : H a = some (.lst xs)) (d : DpAll K H xs zs) : Rp K H (.ref a) (ldD K zs) := ⟨a, xs, rfl, h, d⟩
theorem filt1 {α : Type} (p : α → Bool) (a : α) : [a].filter p = if p a = true then [a] else [] := by
  rw [List.filter_cons, List.filter_nil]
theorem ld_py {K : PySem.W.Frag} {H : Hp} {v : V} {zs : List PyData} (h : Rp K H v (ldD K zs)) : Rp K H v (.py (.list zs)) := by
  obtain ⟨a, xs, rfl, h2, h3⟩ := h
  exact rpy (.lst (SqL.of h2) h3)
section
variable {i : XI} {ρ : En} {Φ : Dt → Prop} {Ψ : List Dt → Prop} {a b e elt tg iter : Expr} {es ifs : List Expr} {scope : Scope} {pos p p2 : Pos} {wi : TI} {g : TG}
theorem ee_unO (h : EE i e ρ fun d => ∃ zs, d = ldD i.K zs ∧ Φ (.py (.list zs))) : EE i e ρ Φ := fun σ Hf H Q r x q => h σ Hf H Q r x fun v d Hf' H' t r1 ⟨zs, ed, φ⟩ => by
  subst ed
  exact q v _ Hf' H' t (ld_py r1) φ
theorem ee_lstO (h : EA i es ρ fun ds => ∃ xs, PyAll ds xs ∧ xs.length ≤ 100000 ∧ Φ (ldD i.K xs)) : EE i (.List es pos) ρ Φ := fun σ Hf H Q r x q =>
  ex_lst (h σ Hf H _ r x fun vs ds Hf1 H1 t1 r1 φ => by
    obtain ⟨xs, hp, hl, φ⟩ := φ
    have da := dpAll_of r1 hp
    exact ⟨sz_of (by rw [dpAll_len da]; exact hl), fun p hp => q _ (ldD i.K xs) _ _ (t1.trans (.new t1.i hp)) (ld_mk upd_same (dpAll_mono (Ex.new (fresh_back t1.i hp)) da)) φ⟩)
theorem es_ld (h : EE i e ρ fun d => ∃ xs, d = ldD i.K xs ∧ Ψ (xs.map Dt.py)) : ES i (iList i.K (EX i e)) ρ Ψ := es_list (ee_unO (h.imp fun d ⟨xs, e1, ψ⟩ => ⟨xs, e1, xs, rfl, ψ⟩))
theorem LcI.doneO {K : PySem.W.Frag} {Hf1 H1 H : Hp} {D : Addr} {R : Dt → PyData → Prop} {xs : List Dt} (h : LcI K Hf1 H1 D R xs H) (hD : H1 D = none) : ∃ Hf zs, Tr Hf1 H1 Hf H ∧ Rp K Hf (.ref D) (ldD K zs) ∧ EachIs R xs zs := by
  obtain ⟨Hf, vs, zs, t, h1, h2, h3, h4⟩ := h.ex
  exact ⟨upd Hf D (.lst vs), zs, t.adopt h1 h2 hD, ⟨D, vs, rfl, upd_same, dpAll_mono (Ex.new h1) h3⟩, h4⟩
/-- a comprehension whose list stands tracked, told by places: no coding of items asked for -/
theorem lc_runO (own : List (Str × Nat))
    (h : ES i wi ρ fun its => its.length ≤ 40000 ∧ ∃ (p : Nat → Bool) (f : Nat → PyData), (∀ j x, its[j]? = some x → ∃ ρx, GD (i.blk scope) g (own.map (·.2)) (wipeE ρ (own.map (·.2))) ρx x ∧ EI (i.blk scope) ifs ρx (fun b => b = p j) ∧ (p j = true → EE (i.blk scope) elt ρx fun y => y = .py (f j))) ∧
      Φ (ldD i.K (((List.range its.length).filter p).map f)))
    {σ : L2.St} {Hf H : Hp} {Q : VK} (hρ : RpE i.K Hf σ ρ) (e : Ex Hf H) (q : ∀ v d Hf' H', Tr Hf H Hf' H' → Rp i.K Hf' v d → Φ d → Q v H') : tLc wi g (IX (i.blk scope) ifs) (EX (i.blk scope) elt) (own.map (·.2)) σ H Q := by
  refine h σ Hf H _ hρ e fun J its Hf1 H1 t1 S ψ => ?_
  obtain ⟨hz, p, f, turn, fin⟩ := ψ
  intro D hD
  refine ⟨fun j m H => m = its.length - j ∧ j ≤ its.length ∧ ∃ Hf2, LGrow i.K Hf1 H1 D (((List.range j).filter p).map f) Hf2 H, ⟨its.length, rfl, Nat.zero_le _, Hf1, LGrow.new t1.i hD⟩, ?_⟩
  rintro j m H2 ⟨rfl, hj, Hf2, vs, t2, d1, d2, d3⟩
  by_cases hlt : j < its.length
  · refine .inr ⟨S.go j H2 hlt (t2.f.trans t2.i), fun H' => ∃ Hf', LGrow i.K Hf1 H1 D (((List.range (j + 1)).filter p).map f) Hf' H', fun H' I' => ⟨its.length - (j + 1), by omega, rfl, hlt, I'⟩, fun x H3 hy => ?_⟩
    obtain ⟨Hf3, d, hd, t3, r3⟩ := S.yld j H2 x H3 Hf2 hlt t2.f t2.i hy
    obtain ⟨ρx, hgd, hei, hee⟩ := turn j d hd
    have hρw : RpE i.K Hf3 (wipe σ (own.map (·.2))) (wipeE ρ (own.map (·.2))) := (hρ.mono ((t1.f.trans t2.f).trans t3.f)).wipe _
    refine hgd (wipe σ (own.map (·.2))) Hf3 H3 x _ hρw t3.i r3 fun σ2 hw hρ2 => ?_
    refine ⟨hw.trans wipe_wipe, hei σ2 Hf3 H3 _ hρ2 t3.i fun b Hf4 H4 t4 hb => ?_⟩
    subst hb
    have er : (List.range (j + 1)).filter p = (List.range j).filter p ++ (if p j = true then [j] else []) := by
      rw [List.range_succ, List.filter_append, filt1]
    cases hp : p j with
    | true =>
      refine iteT (hee hp σ2 Hf4 H4 _ (hρ2.mono t4.f) t4.i fun y dz Hf5 H5 t5 r5 hz5 => ?_)
      subst hz5
      have t35 := (t3.trans t4).trans t5
      refine ⟨vs, t35.h D _ d2, sz_lt ?_, ?_⟩
      · have l1 := dpAll_len d3
        rw [List.length_map] at l1
        have l3 := List.length_filter_le p (List.range j)
        rw [List.length_range] at l3
        omega
      · rw [er, if_pos hp, List.map_append]
        exact ⟨Hf5, (LGrow.push (t2.trans t35) (t35.n D _ d2 d1) (t35.h D _ d2) (dpAll_mono t35.f d3) hD r5).2⟩
    | false =>
      refine iteF ?_
      rw [er, if_neg (by rw [hp]; decide), List.append_nil]
      have t34 := t3.trans t4
      exact ⟨Hf4, vs, t2.trans t34, t34.n D _ d2 d1, t34.h D _ d2, dpAll_mono t34.f d3⟩
  · have ej : j = its.length := by omega
    subst ej
    exact .inl ⟨S.stop H2 (t2.f.trans t2.i), q _ (ldD i.K _) (upd Hf2 D (.lst vs)) H2 (t1.trans (t2.adopt d1 d2 hD)) (ld_mk upd_same (dpAll_mono (Ex.new d1) d3)) fin⟩
/-- what a comprehension asks, told by functions of the items -/
def LcAsk (i : XI) (wi : TI) (g : TG) (ρ : En) (scope : Scope) (elt : Expr) (ifs : List Expr) (own : List (Str × Nat)) (Φl : List PyData → Prop) : Prop :=
  ES i wi ρ fun its => ∃ (α : Type) (enc : α → Dt) (rs : List α) (p : α → Bool) (f : α → PyData), its = rs.map enc ∧ rs.length ≤ 40000 ∧
    (∀ a ∈ rs, ∃ ρx, GD (i.blk scope) g (own.map (·.2)) (wipeE ρ (own.map (·.2))) ρx (enc a) ∧ EI (i.blk scope) ifs ρx (fun b => b = p a) ∧ (p a = true → EE (i.blk scope) elt ρx fun y => y = .py (f a))) ∧ Φl ((rs.filter p).map f)
theorem range_map {α β : Type} (rs : List α) (p : α → Bool) (f : α → β) (d0 : β) : ((List.range rs.length).filter fun j => match rs[j]? with | some a => p a | none => false).map (fun j => match rs[j]? with | some a => f a | none => d0) = (rs.filter p).map f := by
  have key : ∀ n, n ≤ rs.length → ((List.range n).filter fun j => match rs[j]? with | some a => p a | none => false).map (fun j => match rs[j]? with | some a => f a | none => d0) = ((rs.take n).filter p).map f := by
    intro n
    induction n with
    | zero => intro _; rfl
    | succ n ih =>
      intro hn
      have e := List.getElem?_eq_getElem (l := rs) (i := n) (by omega)
      rw [List.range_succ, List.filter_append, List.map_append, ih (by omega), List.take_add_one, e, List.filter_append, List.map_append]
      congr 1
      rw [Option.toList_some, filt1, filt1]
      cases h : p rs[n] <;> simp [e, h]
  rw [key rs.length (Nat.le_refl _), List.take_length]
theorem lc_askO {Φl : List PyData → Prop} (own : List (Str × Nat)) (h : LcAsk i wi g ρ scope elt ifs own Φl) : ES i wi ρ fun its => its.length ≤ 40000 ∧ ∃ (p : Nat → Bool) (f : Nat → PyData), (∀ j x, its[j]? = some x → ∃ ρx, GD (i.blk scope) g (own.map (·.2)) (wipeE ρ (own.map (·.2))) ρx x ∧ EI (i.blk scope) ifs ρx (fun b => b = p j) ∧ (p j = true → EE (i.blk scope) elt ρx fun y => y = .py (f j))) ∧ Φl (((List.range its.length).filter p).map f) := fun σ Hf H R hr e q => h σ Hf H R hr e fun J its Hf1 H1 t S ψ => q J its Hf1 H1 t S (by
  obtain ⟨α, enc, rs, p, f, rfl, hz, turn, fin⟩ := ψ
  refine ⟨by rw [List.length_map]; exact hz, fun j => match rs[j]? with | some a => p a | none => false, fun j => match rs[j]? with | some a => f a | none => .none, fun j x hx => ?_, ?_⟩
  · rw [List.getElem?_map] at hx
    obtain ⟨a, ha, rfl⟩ := Option.map_eq_some_iff.mp hx
    dsimp only
    rw [ha]
    exact turn a (List.mem_of_getElem? ha)
  · rw [List.length_map, range_map]
    exact fin)
theorem ee_lcO (own : List (Str × Nat)) (hi : ∀ X, XOk i X → PI X tg iter wi) (hg : ∀ X, XOk (i.blk scope) X → PG X tg g) (h : LcAsk i wi g ρ scope elt ifs own fun zs => Φ (ldD i.K zs))
    (ok : blkC i.N i.sc scope own = true := by kernel_rfl) (hs : ∀ env x, foldedSetIterable iter env x = pure x := by intro _ _; rfl) : EE i (.ListComp elt [⟨tg, iter, ifs, 0⟩] scope pos) ρ Φ := fun σ Hf H Q hρ e q => ex_lc own hi hg (lc_runO own (lc_askO own h) hρ e q) ok hs
theorem bb_setLcO {x : Str} {py spos : Pos} {rest : List Stmt} {Ψ' : En → Prop} {Φr : Dt → Prop} (j : Nat) (own : List (Str × Nat)) (hi : ∀ X, XOk i X → PI X tg iter wi) (hg : ∀ X, XOk (i.blk scope) X → PG X tg g)
    (h : LcAsk i wi g ρ scope elt ifs own fun zs => BB i rest (ρ.set j (some (ldD i.K zs))) Ψ' Φr)
    (ok : blkC i.N i.sc scope own = true := by kernel_rfl) (hN : i.N[j]? = some x := by rfl) (hy : i.sc.names.lookup x = some .local := by rfl) (hk : i.sc.kind = .function := by rfl) (hl : (py.line == pos.line) = true := by rfl)
    (ha : (scope.names.any fun (n, k) => n == x && (k == .local || k == .cell)) = false := by decide +kernel) (hll : spos.line = pos.line := by rfl) (hs : ∀ env x, foldedSetIterable iter env x = pure x := by intro _ _; rfl) : BB i (.Assign [.Name x py] (.ListComp elt [⟨tg, iter, ifs, 0⟩] scope pos) spos :: rest) ρ Ψ' Φr := fun σ Hf H D r x qn qr =>
  go_setLc j own hi hg (lc_runO (Φ := fun d => BB i rest (ρ.set j (some d)) Ψ' Φr) own (lc_askO own h) r x fun v d Hf1 H1 t1 r1 φ => φ (σ.set j (some v)) Hf1 H1 D ((r.mono t1.f).set r1) t1.i (fun σ' ρ' Hf' H' t2 r2 ψ => qn σ' ρ' Hf' H' (t1.trans t2) r2 ψ) fun v d Hf' H' t2 r2 φ2 => qr v d Hf' H' (t1.trans t2) r2 φ2) ok hN hy hk hl ha hll hs
/-! two clauses -/
def Lc2Ask (i : XI) (wi : TI) (g : TG) (wi1 : TI) (g1 : TG) (ρ : En) (scope : Scope) (elt : Expr) (ifs ifs1 : List Expr) (own : List (Str × Nat)) (vs1 : List Nat) (Φl : List PyData → Prop) : Prop :=
  ES i wi ρ fun its => ∃ (α : Type) (enc : α → Dt) (rs : List α) (p : α → Bool) (f : α → List PyData), its = rs.map enc ∧ ((rs.filter p).flatMap f).length ≤ 40000 ∧
    (∀ a ∈ rs, ∃ ρx, GD (i.blk scope) g (own.map (·.2)) (wipeE ρ (own.map (·.2))) ρx (enc a) ∧ EI (i.blk scope) ifs ρx (fun b => b = p a) ∧ (p a = true → ES (i.blk scope) wi1 ρx fun its1 => ∃ (β : Type) (enc1 : β → Dt) (qs : List β) (p1 : β → Bool) (f1 : β → PyData), its1 = qs.map enc1 ∧ f a = (qs.filter p1).map f1 ∧
      ∀ b ∈ qs, ∃ ρy, GD (i.blk scope) g1 vs1 (wipeE ρx vs1) ρy (enc1 b) ∧ EI (i.blk scope) ifs1 ρy (fun c => c = p1 b) ∧ (p1 b = true → EE (i.blk scope) elt ρy fun y => y = .py (f1 b)))) ∧ Φl ((rs.filter p).flatMap f)
theorem flat_take {α β : Type} (rs : List α) (p : α → Bool) (f : α → List β) {j : Nat} {a : α} (h : rs[j]? = some a) : ((rs.take (j + 1)).filter p).flatMap f = ((rs.take j).filter p).flatMap f ++ (if p a = true then f a else []) := by
  rw [List.take_add_one, h, List.filter_append, List.flatMap_append]
  rw [Option.toList_some, filt1]
  cases p a <;> simp
theorem flat_le {α β : Type} (rs : List α) (p : α → Bool) (f : α → List β) (j : Nat) : (((rs.take j).filter p).flatMap f).length ≤ ((rs.filter p).flatMap f).length := by
  have e : ((rs.filter p).flatMap f) = ((rs.take j).filter p).flatMap f ++ ((rs.drop j).filter p).flatMap f := by
    rw [← List.flatMap_append, ← List.filter_append, List.take_append_drop]
  rw [e, List.length_append]
  omega
theorem lc2_run {wi1 : TI} {g1 : TG} {ifs1 : List Expr} (own : List (Str × Nat)) (vs1 : List Nat) (h : Lc2Ask i wi g wi1 g1 ρ scope elt ifs ifs1 own vs1 fun zs => Φ (ldD i.K zs))
    {σ : L2.St} {Hf H : Hp} {Q : VK} (hρ : RpE i.K Hf σ ρ) (e : Ex Hf H) (q : ∀ v d Hf' H', Tr Hf H Hf' H' → Rp i.K Hf' v d → Φ d → Q v H') : tLc2 wi g (IX (i.blk scope) ifs) wi1 g1 (IX (i.blk scope) ifs1) (EX (i.blk scope) elt) (own.map (·.2)) vs1 σ H Q := by
  refine h σ Hf H _ hρ e fun J its Hf1 H1 t1 S ψ => ?_
  obtain ⟨α, enc, rs, p, f, rfl, hz, turn, fin⟩ := ψ
  intro D hD
  have hlen : (rs.map enc).length = rs.length := List.length_map ..
  refine ⟨fun j m H => m = rs.length - j ∧ j ≤ rs.length ∧ ∃ Hf2, LGrow i.K Hf1 H1 D (((rs.take j).filter p).flatMap f) Hf2 H, ⟨rs.length, rfl, Nat.zero_le _, Hf1, LGrow.new t1.i hD⟩, ?_⟩
  rintro j m H2 ⟨rfl, hj, Hf2, vs, t2, d1, d2, d3⟩
  by_cases hlt : j < rs.length
  · refine .inr ⟨S.go j H2 (by rw [hlen]; exact hlt) (t2.f.trans t2.i), fun H' => ∃ Hf', LGrow i.K Hf1 H1 D (((rs.take (j + 1)).filter p).flatMap f) Hf' H', fun H' I' => ⟨rs.length - (j + 1), by omega, rfl, hlt, I'⟩, fun x H3 hy => ?_⟩
    obtain ⟨Hf3, d, hd, t3, r3⟩ := S.yld j H2 x H3 Hf2 (by rw [hlen]; exact hlt) t2.f t2.i hy
    rw [List.getElem?_map] at hd
    obtain ⟨a, ha, rfl⟩ := Option.map_eq_some_iff.mp hd
    obtain ⟨ρx, hgd, hei, hes⟩ := turn a (List.mem_of_getElem? ha)
    have et := flat_take rs p f ha
    have hρw : RpE i.K Hf3 (wipe σ (own.map (·.2))) (wipeE ρ (own.map (·.2))) := (hρ.mono ((t1.f.trans t2.f).trans t3.f)).wipe _
    refine hgd (wipe σ (own.map (·.2))) Hf3 H3 x _ hρw t3.i r3 fun σ2 hw hρ2 => ?_
    refine ⟨hw.trans wipe_wipe, hei σ2 Hf3 H3 _ hρ2 t3.i fun b Hf4 H4 t4 hb => ?_⟩
    subst hb
    have t34 := t3.trans t4
    cases hp : p a with
    | false =>
      refine iteF ?_
      rw [et, if_neg (by rw [hp]; decide), List.append_nil]
      exact ⟨Hf4, vs, t2.trans t34, t34.n D _ d2 d1, t34.h D _ d2, dpAll_mono t34.f d3⟩
    | true =>
      rw [if_pos hp] at et
      refine iteT (hes hp σ2 Hf4 H4 _ (hρ2.mono t4.f) t4.i fun J1 its1 Hf5 H5 t5 S1 ψ1 => ?_)
      obtain ⟨β, enc1, qs, p1, f1, rfl, ef, turn1⟩ := ψ1
      have hlen1 : (qs.map enc1).length = qs.length := List.length_map ..
      have t35 := t34.trans t5
      have efl : ∀ k, ((qs.take k).filter p1).map f1 = ((qs.take k).filter p1).flatMap fun b => [f1 b] := fun k => by rw [List.map_eq_flatMap]
      refine ⟨fun k m H => m = qs.length - k ∧ k ≤ qs.length ∧ ∃ Hf', Ex Hf5 Hf' ∧ LGrow i.K Hf1 H1 D ((((rs.take j).filter p).flatMap f) ++ ((qs.take k).filter p1).map f1) Hf' H, ⟨qs.length, rfl, Nat.zero_le _, Hf5, Ex.refl _, ?_⟩, ?_⟩
      · rw [List.take_zero, List.filter_nil, List.map_nil, List.append_nil]
        exact ⟨vs, t2.trans t35, t35.n D _ d2 d1, t35.h D _ d2, dpAll_mono t35.f d3⟩
      · rintro k m H6 ⟨rfl, hk, Hf6, e6, ws, u2, c1, c2, c3⟩
        by_cases hkl : k < qs.length
        · refine .inr ⟨S1.go k H6 (by rw [hlen1]; exact hkl) (e6.trans u2.i), fun H' => ∃ Hf', Ex Hf5 Hf' ∧ LGrow i.K Hf1 H1 D ((((rs.take j).filter p).flatMap f) ++ ((qs.take (k + 1)).filter p1).map f1) Hf' H', fun H' I' => ⟨qs.length - (k + 1), by omega, rfl, hkl, I'⟩, fun x1 H7 hy1 => ?_⟩
          obtain ⟨Hf7, d', hd', t7, r7⟩ := S1.yld k H6 x1 H7 Hf6 (by rw [hlen1]; exact hkl) e6 u2.i hy1
          rw [List.getElem?_map] at hd'
          obtain ⟨b, hb, rfl⟩ := Option.map_eq_some_iff.mp hd'
          obtain ⟨ρy, hgd1, hei1, hee1⟩ := turn1 b (List.mem_of_getElem? hb)
          have hρw1 : RpE i.K Hf7 (wipe σ2 vs1) (wipeE ρx vs1) := (hρ2.mono (((t4.f.trans t5.f).trans e6).trans t7.f)).wipe _
          refine hgd1 (wipe σ2 vs1) Hf7 H7 x1 _ hρw1 t7.i r7 fun σ3 hw3 hρ3 => ?_
          refine ⟨hw3.trans wipe_wipe, hei1 σ3 Hf7 H7 _ hρ3 t7.i fun c Hf8 H8 t8 hc => ?_⟩
          subst hc
          have t78 := t7.trans t8
          have et1 := flat_take qs p1 (fun b => [f1 b]) hb
          rw [← efl, ← efl] at et1
          cases hp1 : p1 b with
          | false =>
            rw [if_neg (by rw [hp1]; decide), List.append_nil] at et1
            refine iteF ?_
            rw [et1]
            exact ⟨Hf8, e6.trans t78.f, ws, u2.trans t78, t78.n D _ c2 c1, t78.h D _ c2, dpAll_mono t78.f c3⟩
          | true =>
            rw [if_pos hp1] at et1
            refine iteT (hee1 hp1 σ3 Hf8 H8 _ (hρ3.mono t8.f) t8.i fun y dz Hf9 H9 t9 r9 hz9 => ?_)
            subst hz9
            have t79 := t78.trans t9
            refine ⟨ws, t79.h D _ c2, sz_lt ?_, ?_⟩
            · have l1 := dpAll_len c3
              have l2 := flat_le rs p f (j + 1)
              have l3 := flat_le qs p1 (fun b => [f1 b]) k
              rw [et, List.length_append, ef] at l2
              rw [← efl] at l3
              have l4 : ((qs.filter p1).flatMap fun b => [f1 b]).length = ((qs.filter p1).map f1).length := by rw [List.map_eq_flatMap]
              rw [List.length_append] at l1
              omega
            · rw [et1, ← List.append_assoc]
              exact ⟨Hf9, e6.trans t79.f, (LGrow.push (u2.trans t79) (t79.n D _ c2 c1) (t79.h D _ c2) (dpAll_mono t79.f c3) hD r9).2⟩
        · have ek : k = qs.length := by omega
          subst ek
          refine .inl ⟨by rw [← hlen1]; exact S1.stop H6 (e6.trans u2.i), Hf6, ?_⟩
          rw [List.take_length] at c3
          rw [et, ef]
          exact ⟨ws, u2, c1, c2, c3⟩
  · have ej : j = rs.length := by omega
    subst ej
    rw [List.take_length] at d3
    exact .inl ⟨by rw [← hlen]; exact S.stop H2 (t2.f.trans t2.i), q _ (ldD i.K _) (upd Hf2 D (.lst vs)) H2 (t1.trans (t2.adopt d1 d2 hD)) (ld_mk upd_same (dpAll_mono (Ex.new d1) d3)) fin⟩
theorem ee_lc2O {tg1 iter1 : Expr} {wi1 : TI} {g1 : TG} {ifs1 : List Expr} (own : List (Str × Nat)) (vs1 : List Nat) (hi : ∀ X, XOk i X → PI X tg iter wi) (hg : ∀ X, XOk (i.blk scope) X → PG X tg g) (hi1 : ∀ X, XOk (i.blk scope) X → PI X tg1 iter1 wi1) (hg1 : ∀ X, XOk (i.blk scope) X → PG X tg1 g1)
    (h : Lc2Ask i wi g wi1 g1 ρ scope elt ifs ifs1 own vs1 fun zs => Φ (ldD i.K zs)) (ok : blkC i.N i.sc scope own = true := by kernel_rfl) (hv : ∀ i ∈ vs1, i ∈ own.map (·.2) := by decide)
    (hs : ∀ env x, foldedSetIterable iter env x = pure x := by intro _ _; rfl) (hs1 : ∀ env x, foldedSetIterable iter1 env x = pure x := by intro _ _; rfl) : EE i (.ListComp elt [⟨tg, iter, ifs, 0⟩, ⟨tg1, iter1, ifs1, 0⟩] scope pos) ρ Φ := fun σ Hf H Q hρ e q => ex_lc2 own vs1 hi hg hi1 hg1 (lc2_run own vs1 h hρ e q) ok hv hs hs1
/-! +, sum, texts -/
theorem od_addLO {xs ys : List PyData} (hz : xs.length + ys.length ≤ 100000) (h : Φ (ldD i.K (xs ++ ys))) : OpD i (binaryOp .Add) (ldD i.K xs) (ldD i.K ys) Φ := opD_of (fun _ _ => op_cat) fun Hf H v u Q e r1 r2 q => by
  obtain ⟨a, us, rfl, h1, d1⟩ := r1
  obtain ⟨b, ws, rfl, h2, d2⟩ := r2
  have l1 := dpAll_len d1
  have l2 := dpAll_len d2
  refine ⟨a, b, us, ws, rfl, rfl, e _ _ h1, e _ _ h2, sz_of (by omega), fun p hp => q _ (ldD i.K (xs ++ ys)) _ _ (.new e hp) (ld_mk upd_same (dpAll_mono (Ex.new (fresh_back e hp)) (dpAll_app d1 d2))) h⟩
theorem ld_sum {ns : List Int} (h : Φ (.py (.int ns.sum))) : CallD i (.builtin "sum") [.py (.list (ns.map PyData.int))] Φ :=
  callD_of (r := rSum i.K) (fun X ok => by rw [← ok.K]; exact cr_sum ok.calm) fun Hf H vs Q e r q => by
    cases r with
    | cons r t =>
      cases t
      obtain ⟨a, xs, rfl, h1, d1⟩ := dp_lst r
      rw [dp_ints d1] at h1
      exact ⟨a, ns, rfl, ex_l e h1, q _ _ Hf H (.refl e) (rpy (Dp.int _)) h⟩
theorem ld_strI {n : Int} (hz : n.natAbs.log2 < 1920) (h : Φ (.py (.str (toString n)))) : CallD i (.type "str") [.py (.int n)] Φ :=
  callD_of (r := fun xs H Q => ∃ i, xs = [.int i] ∧ i.natAbs.log2 < 1920 ∧ Q (.str (toString i)) H) (fun X ok => call_str_int) fun Hf H vs Q e r q => by
    cases r with
    | cons r t =>
      cases t
      cases r
      exact ⟨n, rfl, hz, q _ _ Hf H (.refl e) (rpy (Dp.str _)) h⟩
theorem ld_strS {x : Str} (h : Φ (.py (.str x))) : CallD i (.type "str") [.py (.str x)] Φ :=
  callD_of (r := fun xs H Q => ∃ a, xs = [.str a] ∧ Q (.str a) H) (fun X ok => SkE.call_str_str) fun Hf H vs Q e r q => by
    cases r with
    | cons r t =>
      cases t
      cases r
      exact ⟨x, rfl, q _ _ Hf H (.refl e) (rpy (Dp.str _)) h⟩
theorem dp_strL {K : PySem.W.Frag} {H : Hp} : ∀ {ns : List Str} {vs : List V}, DpAll K H vs (ns.map PyData.str) → vs = ns.map V.str
  | [], [], _ => rfl
  | [], _ :: _, h => nomatch h
  | _ :: _, [], h => nomatch h
  | n :: ns, v :: vs, h => by
    have t : Dp K H v (.str n) ∧ DpAll K H vs (ns.map PyData.str) := by
      cases h with
      | cons a b => exact ⟨a, b⟩
    rw [dp_strL t.2]
    cases t.1
    rfl
theorem ee_join {o : Expr} {apos : Pos} (h : EE i o ρ fun x => ∃ z : Str, x = .py (.str z) ∧ EE i e ρ fun y => ∃ ys : List Str, y = .py (.list (ys.map PyData.str)) ∧ (ys.map (·.length)).sum + ys.length * z.length ≤ 16777216 ∧ Φ (.py (.str (Txt.join z ys))))
    (hs : ∀ env, starEach [e] env = [(false, eval e env)] := by intro _; rfl) (hbase : ∀ env, attributeBase o "join" env (eval o env) = eval o env := by intro _; rfl) (hline : (apos.endLine == pos.line) = true := by rfl) : EE i (.Call (.Attribute o "join" apos) [e] [] pos) ρ Φ := fun σ Hf H Q hρ ex q => by
  refine ⟨fun X ok pins s I => ?_⟩
  refine (pe_join (EX.pe (i := i) ok) (EX.pe (i := i) ok) (hs _) (hbase _) hline).run pins s σ H Q I ?_
  refine h σ Hf H _ hρ ex fun v x Hf1 H1 t1 r1 ⟨z, ez, hh⟩ => ?_
  subst ez
  cases r1
  refine ⟨⟨z, rfl⟩, hh σ Hf1 H1 _ (hρ.mono t1.f) t1.i fun u y Hf2 H2 t2 r2 ⟨ys, ey, hl, φ⟩ => ?_⟩
  subst ey
  obtain ⟨a, xs, rfl, h1, d1⟩ := dp_lst r2
  rw [dp_strL d1] at h1
  exact ⟨z, a, ys, rfl, rfl, .inl (by rw [ok.K]; exact ex_l t2.i h1), hl, q _ _ Hf2 H2 (t1.trans t2) (rpy (Dp.str _)) φ⟩
theorem ee_neg (h : EE i e ρ fun d => ∃ n, d = .py (.int n) ∧ Φ (.py (.int (-n)))) : EE i (.UnaryOp .USub e pos) ρ Φ := fun σ Hf H Q hρ ex q =>
  ex_un (fun X ok => un_neg) (h σ Hf H _ hρ ex fun v d Hf1 H1 t1 r1 ⟨n, ed, φ⟩ => by
    subst ed
    cases r1
    exact ⟨n, rfl, q _ _ Hf1 H1 t1 (rpy (Dp.int _)) φ⟩)
end
end Fq
/-! FqP12: questions of one deed at most: parts, size, text, rank. -/
namespace Fq
open PySem PySem.Spec PyProof.Rows L2 Evl
open RZ
open PySem.W (EachIs AllAlike Sortable dataLe)
/-- the table ONE stands in the written part -/
structure OneOk (w : World) (K : PySem.W.Frag) : Prop where
  kd : ∃ es n, KDict K w (He.ga K "ONE") es n
  vs : He.valsB K (He.ga K "ONE") [("below", .int 4), ("same", .int 4), ("take", .int 3), ("value", .int 4)] = true
inductive Qn where
  | tab (nm : Str)
  | one (m : Mv) (nm : Str)
def qnD : Qn → PyData
  | .tab nm => .str nm
  | .one m nm => .tuple (mvL m ++ [.str nm])
def szQ : Qn → Int
  | .tab _ => 1
  | .one _ _ => 2
theorem strN_len {n : Int} (h0 : 0 ≤ n) (h1 : n ≤ 1000000000) : (show Str from toString n).length ≤ 10 := by
  have e : (toString n : String) = n.toNat.repr := by
    rw [Int.toString_eq_repr, Int.repr_eq_if, if_pos h0]
  have h2 : n.toNat.repr.length ≤ 10 := (Nat.length_repr_le_iff (by omega)).mpr (by omega)
  rw [e]
  show (Str.ofString n.toNat.repr).cps.size ≤ 10
  rw [Str.ofString_eq_toList]
  show ((n.toNat.repr.toList.map Char.toNat).toArray).size ≤ 10
  rw [List.size_toArray, List.length_map]
  exact h2
/-- what is given with a deed's word -/
inductive Gv where
  | n (k : Nat)
  | v (v : Vl)
  | p (l : List Nat)
def gvD : Gv → PyData
  | .n k => .int (k : Int)
  | .v v => v.d
  | .p l => natsD l
def gvs : Mv → List Gv
  | .same i j => [.n i, .n j]
  | .below i j => [.n i, .n j]
  | .value i v => [.n i, .v v]
  | .take p => [.p p]
theorem mvL_drop (m : Mv) : mvL m = .str (wordOf m) :: (gvs m).map gvD := by cases m <;> rfl
def OkG : Gv → Prop
  | .n k => k < 3
  | .v v => okV v
  | .p l => l.length ≤ 3 ∧ ∀ k ∈ l, k < 3
def strN (n : Int) : Str := toString n
def gtM : Gv → Str
  | .n k => strN (k : Int)
  | .v (.n i) => strN i
  | .v (.w s) => s
  | .p l => (("(" : Str) ++ Txt.join " " (l.map fun (k : Nat) => strN (k : Int))) ++ (")" : Str)
theorem app_len (a b : Str) : (a ++ b).length = a.length + b.length := by
  show (a.cps ++ b.cps).size = _
  rw [Array.size_append]
  rfl
theorem join_len (z : Str) (ys : List Str) : (Txt.join z ys).length ≤ (ys.map (·.length)).sum + ys.length * z.length := by
  rw [TL.join_eq]
  exact StrLaws.join_length_le z ys
theorem sum_le {α : Type} (f : α → Nat) (b : Nat) : ∀ l : List α, (∀ x ∈ l, f x ≤ b) → (l.map f).sum ≤ l.length * b
  | [], _ => by simp
  | x :: l, h => by
    have h1 := h x (List.mem_cons_self ..)
    have h2 := sum_le f b l fun y hy => h y (List.mem_cons_of_mem _ hy)
    rw [List.map_cons, List.sum_cons, List.length_cons, Nat.add_mul]
    omega
theorem nums_sum {l : List Nat} (h : l.length ≤ 3 ∧ ∀ k ∈ l, k < 3) : ((l.map fun (k : Nat) => strN (k : Int)).map (·.length)).sum + (l.map fun (k : Nat) => strN (k : Int)).length * (" " : Str).length ≤ 40 := by
  have h1 := sum_le (fun x : Str => x.length) 10 (l.map fun (k : Nat) => strN (k : Int)) fun x hx => by
    obtain ⟨k, hk, rfl⟩ := List.mem_map.mp hx
    have := h.2 k hk
    exact strN_len (by omega) (by omega)
  have h2 : (" " : Str).length = 1 := by decide +kernel
  rw [h2]
  rw [List.length_map] at h1 ⊢
  omega
theorem gtM_len {g : Gv} (h : OkG g) : (gtM g).length ≤ 50 := by
  cases g with
  | n k =>
    have hk : k < 3 := h
    exact Nat.le_trans (strN_len (by omega) (by omega)) (by omega)
  | v v =>
    cases v with
    | n i =>
      have hi : 0 ≤ i ∧ i ≤ 1000000000 := h
      exact Nat.le_trans (strN_len hi.1 hi.2) (by omega)
    | w s =>
      have hs : Wd s := h
      have := hs.hi
      show s.length ≤ 50
      omega
  | p l =>
    have h1 := nums_sum h
    have h2 := join_len " " (l.map fun (k : Nat) => strN (k : Int))
    have h3 : ("(" : Str).length = 1 := by decide +kernel
    have h4 : (")" : Str).length = 1 := by decide +kernel
    show ((("(" : Str) ++ _) ++ (")" : Str)).length ≤ 50
    rw [app_len, app_len, h3, h4]
    omega
def txM : Qn → Str
  | .tab nm => nm
  | .one m nm => (("(" : Str) ++ Txt.join " " ([wordOf m] ++ (gvs m).map gtM ++ [nm])) ++ (")" : Str)
/-- a question that is well made -/
def OkQ (f : Fd) : Qn → Prop
  | .tab nm => nm.length ≤ 8
  | .one m nm => nm.length ≤ 8 ∧ ∃ c, c ≤ 3 ∧ OkM c f.nm m
theorem okG_of {f : Fd} (ok : OkF f) {m : Mv} {c : Nat} (hc : c ≤ 3) (hm : OkM c f.nm m) : ∀ g ∈ gvs m, OkG g := by
  intro g hg
  cases m with
  | same i j =>
    obtain ⟨h1, h2⟩ := hm
    rcases List.mem_cons.mp hg with rfl | hg
    · show i < 3
      omega
    · obtain rfl := List.mem_singleton.mp hg
      show j < 3
      omega
  | below i j =>
    obtain ⟨h0, h1, h2⟩ := hm
    rcases List.mem_cons.mp hg with rfl | hg
    · show i < 3
      omega
    · obtain rfl := List.mem_singleton.mp hg
      show j < 3
      omega
  | value i v =>
    obtain ⟨h1, h2⟩ := hm
    rcases List.mem_cons.mp hg with rfl | hg
    · show i < 3
      omega
    · obtain rfl := List.mem_singleton.mp hg
      exact ok.nm v h2
  | take p =>
    obtain ⟨h0, h1, h2, h3⟩ := hm
    obtain rfl := List.mem_singleton.mp hg
    exact ⟨by omega, fun k hk => by have := h2 k hk; omega⟩
theorem word_len (m : Mv) : (wordOf m).length ≤ 5 := by cases m <;> (show Str.length (Str.ofString _) ≤ 5) <;> decide +kernel
theorem gvs_len (m : Mv) : (gvs m).length ≤ 2 := by cases m <;> exact Nat.le_of_ble_eq_true rfl
theorem tx_sum {f : Fd} (ok : OkF f) {m : Mv} {nm : Str} (h : OkQ f (.one m nm)) : (([wordOf m] ++ (gvs m).map gtM ++ [nm]).map (·.length)).sum + ([wordOf m] ++ (gvs m).map gtM ++ [nm]).length * (" " : Str).length ≤ 300 := by
  obtain ⟨h1, c, hc, hm⟩ := h
  have hs := sum_le (fun x : Str => x.length) 50 ([wordOf m] ++ (gvs m).map gtM ++ [nm]) fun x hx => by
    rcases List.mem_append.mp hx with hx | hx
    · rcases List.mem_append.mp hx with hx | hx
      · obtain rfl := List.mem_singleton.mp hx
        have := word_len m
        omega
      · obtain ⟨g, hg, rfl⟩ := List.mem_map.mp hx
        exact gtM_len (okG_of ok hc hm g hg)
    · obtain rfl := List.mem_singleton.mp hx
      omega
  have h2 : (" " : Str).length = 1 := by decide +kernel
  have h3 := gvs_len m
  rw [h2]
  rw [List.length_append, List.length_append, List.length_map, List.length_singleton, List.length_singleton] at hs ⊢
  omega
theorem txM_len {f : Fd} (ok : OkF f) {q : Qn} (h : OkQ f q) : (txM q).length ≤ 400 := by
  cases q with
  | tab nm =>
    have : nm.length ≤ 8 := h
    show nm.length ≤ 400
    omega
  | one m nm =>
    have h1 := tx_sum ok h
    have h2 := join_len " " ([wordOf m] ++ (gvs m).map gtM ++ [nm])
    have h3 : ("(" : Str).length = 1 := by decide +kernel
    have h4 : (")" : Str).length = 1 := by decide +kernel
    show ((("(" : Str) ++ _) ++ (")" : Str)).length ≤ 400
    rw [app_len, app_len, h3, h4]
    omega
theorem mvN_len (m : Mv) (nm : Str) : (mvL m ++ [PyData.str nm]).length = (mvL m).length + 1 := by rw [List.length_append]; rfl
theorem mvL_len (m : Mv) : (mvL m).length ≤ 3 := by cases m <;> exact Nat.le_of_ble_eq_true rfl
section
variable {P : Program} {w : World} {K : PySem.W.Frag} {mg : Str → Option Value} {base : Heap}
theorem od_ONE {i : XI} {Φ : Dt → Prop} (O : OneOk i.w i.K) (m : Mv) (h : Φ (.py (.bool true))) : OpD i (compareOp .In) (.py (.str (wordOf m))) (refDt (He.ga i.K "ONE")) Φ := by
  obtain ⟨es, n, D⟩ := O.kd
  have hv : ∃ u, PySem.W.nsIn i.K (He.ga i.K "ONE") (wordOf m) = some (some u) := by
    cases m with
    | same a b => obtain ⟨u, h1, _⟩ := He.valsB_ok O.vs (q := ("same", .int 4)) (by simp); exact ⟨u, h1⟩
    | below a b => obtain ⟨u, h1, _⟩ := He.valsB_ok O.vs (q := ("below", .int 4)) (by simp); exact ⟨u, h1⟩
    | value a b => obtain ⟨u, h1, _⟩ := He.valsB_ok O.vs (q := ("value", .int 4)) (by simp); exact ⟨u, h1⟩
    | take a => obtain ⟨u, h1, _⟩ := He.valsB_ok O.vs (q := ("take", .int 3)) (by simp); exact ⟨u, h1⟩
  obtain ⟨u, hu⟩ := hv
  exact opD_of (r := fun x y H Q => ∃ (z : Str) (r : Option Value), x = .str z ∧ y = .ref (He.ga i.K "ONE") ∧ PySem.W.nsIn i.K (He.ga i.K "ONE") z = some r ∧ Q (.bl r.isSome) H) (fun X ok => by rw [← ok.K]; rw [← ok.K, ← ok.w] at D; exact op_in_kd D) fun Hf H v x Q e r1 r2 q => by
    cases r1
    obtain rfl : x = .ref (He.ga i.K "ONE") := r2
    exact ⟨_, _, rfl, rfl, hu, q _ _ Hf H (.refl e) (rpy (Dp.bl true)) h⟩
/-! parts_of -/
def prtsD : Qn → PyData
  | .tab _ => .tuple []
  | .one _ nm => .tuple [.str nm]
theorem cut_last (m : Mv) (nm : Str) : cutD (mvL m ++ [.str nm]) (some (-1)) none = [.str nm] := by cases m <;> rfl
theorem at_word (m : Mv) (nm : Str) : atI (mvL m ++ [.str nm]) 0 = some (.str (wordOf m)) := by cases m <;> rfl
def S_parts_of : Sg := fun ds Φ => ∃ q : Qn, ds = [.py (qnD q)] ∧ Φ (.py (prtsD q))
theorem p_parts_of (H : Hd K mg) (O : OneOk w K) : Pf P w K mg base "parts_of" 1 ["question"] 1 S_parts_of := pf_of H q_parts_of sc_parts_of rfl fun ds Φ hl hS => by
  obtain ⟨q, rfl, φ⟩ := hS
  cases q with
  | tab nm => exact bb_if (et_val (ee_isi (T := "str") (fr_isinstance H) (fr_str H) boot_str kit_str (ee_var 0 rfl ⟨_, rfl, true, rfl, iteT (bb_ret (ee_tup (ea_nil ⟨[], .nil, Nat.le_of_ble_eq_true rfl, φ⟩)))⟩)))
  | one m nm =>
    refine bb_if (et_val (ee_isi (T := "str") (fr_isinstance H) (fr_str H) boot_str kit_str (ee_var 0 rfl ⟨_, rfl, false, rfl, iteF (bb_nil ?_)⟩)))
    refine bb_if (et_cmp (ee_ixT (ee_var 0 rfl (ee_int ⟨_, 0, .str (wordOf m), rfl, rfl, at_word m nm, ee_glob (v := .ref (He.ga K "ONE")) (d := refDt (He.ga K "ONE")) rfl (H.glo (j := 141) (by kernel_rfl)) rfl (fun _ => rfl) (od_ONE (i := iOf P w K mg base N_parts_of d_parts_of.scope 0) O m ⟨true, rfl, ?_⟩)⟩))) (hm := rfl))
    refine iteT (bb_ret (ee_sliceT (ee_var 0 rfl (ee_neg (ee_int ⟨1, rfl, -1, rfl, _, rfl, ?_⟩)))))
    rw [cut_last]
    exact φ
/-! size_of -/
def S_size_of : Sg := fun ds Φ => ∃ q : Qn, ds = [.py (qnD q)] ∧ Φ (.py (.int (szQ q)))
def S_size_of0 : Sg := fun ds Φ => ∃ nm : Str, ds = [.py (.str nm)] ∧ Φ (.py (.int 1))
theorem p_size_of0 (H : Hd K mg) (O : OneOk w K) : Pf P w K mg base "size_of" 2 ["question"] 1 S_size_of0 := pf_of H q_size_of sc_size_of rfl fun ds Φ hl hS => by
  obtain ⟨nm, rfl, φ⟩ := hS
  refine bb_ret (ee_op (ee_int (ee_callB (id := "sum") (fr_sum H) (by decide +kernel) (ea_cons (ee_unO (ee_lcO [("part", 1)] wx_tup (gx_name 1) (es_tup (ee_call (p_parts_of H O).fnc (ea_cons (ee_var 0 rfl (ea_nil ⟨rfl, .tab nm, rfl, [], rfl, Unit, fun _ => .py .none, [], fun _ => true, fun _ => .none, rfl, Nat.zero_le _, (fun x hx => nomatch hx), _, rfl, ?_⟩)))))))))))
  exact ea_nil (ld_sum (ns := []) (od_add φ))
theorem p_size_of (H : Hd K mg) (O : OneOk w K) : Pf P w K mg base "size_of" 3 ["question"] 1 S_size_of := pf_of H q_size_of sc_size_of rfl fun ds Φ hl hS => by
  obtain ⟨q, rfl, φ⟩ := hS
  cases q with
  | tab nm =>
    refine bb_ret (ee_op (ee_int (ee_callB (id := "sum") (fr_sum H) (by decide +kernel) (ea_cons (ee_unO (ee_lcO [("part", 1)] wx_tup (gx_name 1) (es_tup (ee_call (p_parts_of H O).fnc (ea_cons (ee_var 0 rfl (ea_nil ⟨rfl, .tab nm, rfl, [], rfl, Unit, fun _ => .py .none, [], fun _ => true, fun _ => .none, rfl, Nat.zero_le _, (fun x hx => nomatch hx), _, rfl, ?_⟩)))))))))))
    exact ea_nil (ld_sum (ns := []) (od_add φ))
  | one m nm =>
    refine bb_ret (ee_op (ee_int (ee_callB (id := "sum") (fr_sum H) (by decide +kernel) (ea_cons (ee_unO (ee_lcO [("part", 1)] wx_tup (gx_name 1) (es_tup (ee_call (p_parts_of H O).fnc (ea_cons (ee_var 0 rfl (ea_nil ⟨rfl, .one m nm, rfl, [.str nm], rfl, Unit, fun _ => .py (.str nm), [()], fun _ => true, fun _ => .int 1, rfl, Nat.le_of_ble_eq_true rfl, fun x hx => ?_, _, rfl, ?_⟩)))))))))))
    · exact ⟨_, gd_name 1, ei_nil rfl, fun _ => ee_call (p_size_of0 H O).fnc (ea_cons (ee_var 1 rfl (ea_nil ⟨rfl, nm, rfl, rfl⟩)))⟩
    · exact ea_nil (ld_sum (ns := [1]) (od_add φ))
/-! given_text -/
theorem ee_addS {i : XI} {ρ : En} {Φ : Dt → Prop} {a b : Expr} {pos : Pos} (h : EE i a ρ fun x => ∃ u : Str, x = .py (.str u) ∧ EE i b ρ fun y => ∃ v : Str, y = .py (.str v) ∧ u.length + v.length ≤ 100000 ∧ Φ (.py (.str (u ++ v)))) : EE i (.BinOp a .Add b pos) ρ Φ :=
  ee_op (h.imp fun x ⟨u, e1, h2⟩ => h2.imp fun y ⟨v, e2, hz, φ⟩ => by subst e1 e2; exact od_addS hz φ)
theorem log_small {n : Int} (h0 : 0 ≤ n) (h1 : n ≤ 1000000000) : n.natAbs.log2 < 1920 := by
  by_cases e : n.natAbs = 0
  · rw [e]
    decide
  · exact Nat.lt_trans ((Nat.log2_lt e).mpr (show n.natAbs < 2 ^ 40 by omega)) (by decide)
def S_given_text : Sg := fun ds Φ => ∃ g : Gv, ds = [.py (gvD g)] ∧ OkG g ∧ Φ (.py (.str (gtM g)))
theorem p_given_text (H : Hd K mg) : Pf P w K mg base "given_text" 1 ["thing"] 1 S_given_text := pf_of H q_given_text sc_given_text rfl fun ds Φ hl hS => by
  obtain ⟨g, rfl, ok, φ⟩ := hS
  cases g with
  | n k =>
    have hk : k < 3 := ok
    exact bb_if (et_val (ee_isi (T := "tuple") (fr_isinstance H) (fr_tuple H) boot_tuple kit_tuple (ee_var 0 rfl ⟨_, rfl, false, rfl, iteF (bb_nil (bb_ret (ee_callTy (T := "str") (fr_str H) boot_str (ea_cons (ee_var 0 rfl (ea_nil (ld_strI (log_small (by omega) (by omega)) φ)))))))⟩)))
  | v v =>
    cases v with
    | n k =>
      have hi : 0 ≤ k ∧ k ≤ 1000000000 := ok
      exact bb_if (et_val (ee_isi (T := "tuple") (fr_isinstance H) (fr_tuple H) boot_tuple kit_tuple (ee_var 0 rfl ⟨_, rfl, false, rfl, iteF (bb_nil (bb_ret (ee_callTy (T := "str") (fr_str H) boot_str (ea_cons (ee_var 0 rfl (ea_nil (ld_strI (log_small hi.1 hi.2) φ)))))))⟩)))
    | w s => exact bb_if (et_val (ee_isi (T := "tuple") (fr_isinstance H) (fr_tuple H) boot_tuple kit_tuple (ee_var 0 rfl ⟨_, rfl, false, rfl, iteF (bb_nil (bb_ret (ee_callTy (T := "str") (fr_str H) boot_str (ea_cons (ee_var 0 rfl (ea_nil (ld_strS φ)))))))⟩)))
  | p l =>
    refine bb_if (et_val (ee_isi (T := "tuple") (fr_isinstance H) (fr_tuple H) boot_tuple kit_tuple (ee_var 0 rfl ⟨_, rfl, true, rfl, iteT (bb_ret ?_)⟩)))
    have h1 := nums_sum ok
    have h2 := join_len " " (l.map fun (k : Nat) => strN (k : Int))
    have h3 : ("(" : Str).length = 1 := by decide +kernel
    have h4 : (")" : Str).length = 1 := by decide +kernel
    refine ee_addS (ee_addS (ee_str ⟨_, rfl, ee_join (ee_str ⟨_, rfl, ee_unO (ee_lcO [("column", 1)] wx_tup (gx_name 1) (es_tup (ee_var 0 rfl ⟨_, rfl, Nat, fun k => .py (.int (k : Int)), l, fun _ => true, fun k => .str (strN (k : Int)), by rw [List.map_map]; rfl, by have := ok.1; omega, fun k hk => ?_, ?_⟩)))⟩)⟩))
    · exact ⟨_, gd_name 1, ei_nil rfl, fun _ => ee_callTy (T := "str") (fr_str H) boot_str (ea_cons (ee_var 1 rfl (ea_nil (ld_strI (log_small (by omega) (by have := ok.2 k hk; omega)) rfl))))⟩
    · rw [filter_yes]
      refine ⟨_, rfl, l.map fun (k : Nat) => strN (k : Int), by rw [List.map_map]; rfl, by omega, _, rfl, by rw [h3]; omega, _, rfl, ee_str ⟨_, rfl, by rw [app_len, h3, h4]; omega, φ⟩⟩
/-! text_of -/
def S_text_of0 : Sg := fun ds Φ => ∃ nm : Str, ds = [.py (.str nm)] ∧ Φ (.py (.str nm))
theorem p_text_of0 (H : Hd K mg) : Pf P w K mg base "text_of" 1 ["question"] 1 S_text_of0 := pf_of H q_text_of sc_text_of rfl fun ds Φ hl hS => by
  obtain ⟨nm, rfl, φ⟩ := hS
  exact bb_if (et_val (ee_isi (T := "str") (fr_isinstance H) (fr_str H) boot_str kit_str (ee_var 0 rfl ⟨_, rfl, true, rfl, iteT (bb_ret (ee_var 0 rfl φ))⟩)))
def S_text_of : Sg := fun ds Φ => ∃ (f : Fd) (q : Qn), ds = [.py (qnD q)] ∧ OkF f ∧ OkQ f q ∧ Φ (.py (.str (txM q)))
theorem p_text_of (H : Hd K mg) (O : OneOk w K) : Pf P w K mg base "text_of" 2 ["question"] 1 S_text_of := pf_of H q_text_of sc_text_of rfl fun ds Φ hl hS => by
  obtain ⟨f, q, rfl, okf, okq, φ⟩ := hS
  cases q with
  | tab nm => exact bb_if (et_val (ee_isi (T := "str") (fr_isinstance H) (fr_str H) boot_str kit_str (ee_var 0 rfl ⟨_, rfl, true, rfl, iteT (bb_ret (ee_var 0 rfl φ))⟩)))
  | one m nm =>
    have h1 := tx_sum okf okq
    have h2 := join_len " " ([wordOf m] ++ (gvs m).map gtM ++ [nm])
    have h3 : ("(" : Str).length = 1 := by decide +kernel
    have h4 : (")" : Str).length = 1 := by decide +kernel
    obtain ⟨hn, c, hc, hm⟩ := okq
    refine bb_if (et_val (ee_isi (T := "str") (fr_isinstance H) (fr_str H) boot_str kit_str (ee_var 0 rfl ⟨_, rfl, false, rfl, iteF (bb_nil ?_)⟩)))
    refine bb_set 1 (ee_call (p_parts_of H O).fnc (ea_cons (ee_var 0 rfl (ea_nil ⟨rfl, .one m nm, rfl, ?_⟩))))
    refine bb_star [3, 4] (gx_star (n := 1) (t := gsOf [3, 4]) (gxs_cons (gx_name 3) (gxs_star (gx_name 4)))) rfl (ee_sliceT (ee_var 0 rfl ?_))
    refine ee_op (ee_callB (fr_len H) PySem.boot_len (ea_cons (ee_var 0 rfl (ea_nil (ld_len (n := (mvL m).length + 1) (d := .tuple (mvL m ++ [.str nm])) (by show _ = _; rw [mvN_len]) ?_)))))
    refine ee_callB (fr_len H) PySem.boot_len (ea_cons (ee_var 1 rfl (ea_nil (ld_len (n := 1) (d := .tuple [.str nm]) rfl (od_sub ⟨_, rfl, mvL m ++ [.str nm], rfl, ?_⟩)))))
    have ec : cutD (mvL m ++ [PyData.str nm]) none (some ((((mvL m).length + 1 : Nat) : Int) - ((1 : Nat) : Int))) = mvL m := by
      have := cut_to (ds := mvL m ++ [PyData.str nm]) (n := (mvL m).length)
      rw [show (((mvL m).length + 1 : Nat) : Int) - ((1 : Nat) : Int) = ((mvL m).length : Int) by omega, this, List.take_left]
    rw [ec]
    have hl3 := mvL_len m
    refine ⟨mvL m, rfl, by rw [mvL_drop m]; exact Nat.succ_le_succ (Nat.zero_le _), by omega, ?_⟩
    rw [mvL_drop m]
    refine bb_set 2 (ee_op (ee_op (ee_lstO (ea_cons (ee_var 3 rfl (ea_nil ⟨[.str (wordOf m)], .cons .nil, Nat.le_of_ble_eq_true rfl, ?_⟩)))))) 
    refine ee_lcO [("thing", 6)] wx_list (gx_name 6) (es_list (ee_var 4 rfl ⟨_, rfl, Gv, fun g => .py (gvD g), gvs m, fun _ => true, fun g => .str (gtM g), by show ((gvs m).map gvD).map Dt.py = _; rw [List.map_map]; rfl, by have := gvs_len m; omega, fun g hg => ?_, ?_⟩))
    · exact ⟨_, gd_name 6, ei_nil rfl, fun _ => ee_call (p_given_text H).fnc (ea_cons (ee_var 6 rfl (ea_nil ⟨rfl, g, rfl, okG_of okf hc hm g hg, rfl⟩)))⟩
    rw [filter_yes]
    have hg2 := gvs_len m
    refine od_addLO (by rw [List.length_map, List.length_singleton]; omega) ?_
    refine ee_lcO [("part", 5)] wx_tup (gx_name 5) (es_tup (ee_var 1 rfl ⟨[.str nm], rfl, Unit, fun _ => .py (.str nm), [()], fun _ => true, fun _ => .str nm, rfl, Nat.le_of_ble_eq_true rfl, fun x hx => ?_, ?_⟩))
    · exact ⟨_, gd_name 5, ei_nil rfl, fun _ => ee_call (p_text_of0 H).fnc (ea_cons (ee_var 5 rfl (ea_nil ⟨rfl, nm, rfl, rfl⟩)))⟩
    refine od_addLO (by rw [List.length_append, List.length_map, List.length_singleton, List.length_map]; show _ + 1 ≤ _; omega) ?_
    refine bb_ret (ee_addS (ee_addS (ee_str ⟨_, rfl, ee_join (ee_str ⟨_, rfl, ee_unO (ee_var 2 rfl ⟨_, rfl, [wordOf m] ++ (gvs m).map gtM ++ [nm], ?_, by omega, _, rfl, by rw [h3]; omega, _, rfl, ee_str ⟨_, rfl, by rw [app_len, h3, h4]; omega, φ⟩⟩)⟩)⟩)))
    rw [List.map_append, List.map_append, List.map_map]
    rfl
/-! rank -/
def rkD (q : Qn) : PyData := .tuple [.int (szQ q), .str (txM q)]
def S_rank : Sg := fun ds Φ => ∃ (f : Fd) (q : Qn), ds = [.py (qnD q)] ∧ OkF f ∧ OkQ f q ∧ Φ (.py (rkD q))
theorem p_rank (H : Hd K mg) (O : OneOk w K) : Pf P w K mg base "rank" 4 ["question"] 1 S_rank := pf_of H q_rank sc_rank rfl fun ds Φ hl hS => by
  obtain ⟨f, q, rfl, okf, okq, φ⟩ := hS
  refine bb_ret (ee_tup (ea_cons (ee_call (p_size_of H O).fnc (ea_cons (ee_var 0 rfl (ea_nil ⟨rfl, q, rfl, ?_⟩))))))
  exact ea_cons (ee_call (p_text_of H O).fnc (ea_cons (ee_var 0 rfl (ea_nil ⟨rfl, f, q, rfl, okf, okq, ea_nil ⟨_, .cons (.cons .nil), Nat.le_of_ble_eq_true rfl, φ⟩⟩))))
end
end Fq
/-! FqW: name = [.. for .. for ..] on one line; loops whose slots change turn by turn; found += xs. -/
namespace Fq
open PySem PySem.Spec PyProof.Rows L2 Evl
open RZ
section
variable {i : XI} {ρ : En} {D : Ends} {σ : L2.St} {Hf H : Hp} {e elt tg iter tg1 iter1 : Expr} {ifs ifs1 : List Expr} {scope : Scope} {pos spos p2 py : Pos} {rest body : List Stmt} {wi wi1 : TI} {g g1 : TG} {x : Str}
theorem go_setLc2 (j : Nat) (own : List (Str × Nat)) (vs1 : List Nat) (hi : ∀ X, XOk i X → PI X tg iter wi) (hg : ∀ X, XOk (i.blk scope) X → PG X tg g) (hi1 : ∀ X, XOk (i.blk scope) X → PI X tg1 iter1 wi1) (hg1 : ∀ X, XOk (i.blk scope) X → PG X tg1 g1)
    (h : tLc2 wi g (IX (i.blk scope) ifs) wi1 g1 (IX (i.blk scope) ifs1) (EX (i.blk scope) elt) (own.map (·.2)) vs1 σ H fun v H1 => GO i rest D (σ.set j (some v)) H1) (ok : blkC i.N i.sc scope own = true := by kernel_rfl) (hv : ∀ i ∈ vs1, i ∈ own.map (·.2) := by decide) (hN : i.N[j]? = some x := by rfl) (hy : i.sc.names.lookup x = some .local := by rfl)
    (hk : i.sc.kind = .function := by rfl) (hl : (py.line == p2.line) = true := by rfl) (ha : (scope.names.any fun (n, k) => n == x && (k == .local || k == .cell)) = false := by decide +kernel) (hll : spos.line = p2.line := by rfl)
    (hs : ∀ env x, foldedSetIterable iter env x = pure x := by intro _ _; rfl) (hs1 : ∀ env x, foldedSetIterable iter1 env x = pure x := by intro _ _; rfl) : GO i (.Assign [.Name x py] (.ListComp elt [⟨tg, iter, ifs, 0⟩, ⟨tg1, iter1, ifs1, 0⟩] scope p2) spos :: rest) D σ H := by
  have hT : ∀ X, XOk i X → PS X (.Assign [.Name x py] (.ListComp elt [⟨tg, iter, ifs, 0⟩, ⟨tg1, iter1, ifs1, 0⟩] scope p2) spos) (tAsg (tLc2 wi g (IX (i.blk scope) ifs) wi1 g1 (IX (i.blk scope) ifs1) (EX (i.blk scope) elt) (own.map (·.2)) vs1) (gName j)) := fun X o =>
   ps_setLc2 o.calm (by rw [o.N]; exact o.nd) (by rw [o.N]; exact hN) (by rw [o.sc]; exact hy) (sw_true (by rw [o.sc]; exact hk) (by rw [o.sc]; exact hy) (by first | exact hl | (rw [hll]; exact hl)) ha) (hi X o) (by rw [o.N, o.sc]; exact blkOk_by ok) hv (fun s H C cl fp => hg _ (o.blk scope s H C cl fp))
    (fun s H C cl fp => IX.pts (o.blk scope s H C cl fp)) (fun s H C cl fp => hi1 _ (o.blk scope s H C cl fp)) (fun s H C cl fp => hg1 _ (o.blk scope s H C cl fp)) (fun s H C cl fp => IX.pts (o.blk scope s H C cl fp)) (fun s H C cl fp => EX.pe (o.blk scope s H C cl fp)) (hs _) hs1
  exact go_cons hT h
/-- found += e, found in slot j: a list of ours -/
theorem go_augL (j : Nat) (h : ∃ v, σ[j]? = some (some v) ∧ EX i e σ H fun y H1 => rExt2 v y H1 fun z H2 => GO i rest D (σ.set j (some z)) H2) (hN : i.N[j]? = some x := by rfl) (hx : Loc i.sc x := by first | exact Or.inl rfl | exact Or.inr rfl)
    (hf : i.top x = true ∨ i.sc.names.lookup x = some .local := by first | exact Or.inl rfl | exact Or.inr rfl) : GO i (.AugAssign (.Name x p2) .Add e pos :: rest) D σ H :=
  go_cons (t := tAug j (EX i e) rExt2) (fun X ok => ps_aug (by rw [ok.N]; exact ok.nd) (by rw [ok.N]; exact hN) (by rw [ok.sc]; exact hx) (EX.pe ok) iop_ext (hf.elim (fun h => .inl (ok.fn x h)) fun h => .inr (by rw [ok.sc]; exact h))) h
/-- for target in ..: a loop over explicit heaps whose slots are told turn by turn -/
theorem gm_forJ {Ψ : List Dt → Prop} (vs : List Nat) (hi : ∀ X, XOk i X → PI X tg iter wi) (hg : ∀ X, XOk i X → PG X tg g) (hρ : RpE i.K Hf σ ρ) (ex : Ex Hf H) (h : ES i wi ρ Ψ)
    (q : ∀ its Hf1 H1, Tr Hf H Hf1 H1 → Ψ its → ∃ (ρw : Nat → En) (I : Nat → Hp → Hp → Prop), RpE i.K Hf1 σ (ρw 0) ∧ I 0 Hf1 H1 ∧ (∀ j Hf2 H2 Hf3 H3, I j Hf2 H2 → Tr Hf2 H2 Hf3 H3 → I j Hf3 H3) ∧
      (∀ j d, its[j]? = some d → ∃ ρx, GD i g vs (ρw j) ρx d ∧ ∀ σ2 Hf2 H2, Ex Hf1 Hf2 → Ex Hf2 H2 → RpE i.K Hf2 σ2 ρx → I j Hf2 H2 → GO i body { D with nx := Nxt i Hf1 (ρw (j + 1)) (I (j + 1)), ct := Nxt i Hf1 (ρw (j + 1)) (I (j + 1)), bk := GO i rest D } σ2 H2) ∧
      ∀ σ2 Hf2 H2, Ex Hf1 Hf2 → Ex Hf2 H2 → RpE i.K Hf2 σ2 (ρw its.length) → I its.length Hf2 H2 → GO i rest D σ2 H2)
    (hs : ∀ env x, foldedSetIterable iter env x = pure x := by intro _ _; rfl) : GO i (.For tg iter body [] pos :: rest) D σ H := by
  refine go_for hi hg ?_ hs
  refine h σ Hf H _ hρ ex fun J its Hf1 H1 t1 S ψ => ?_
  obtain ⟨ρw, I, hw, h0, st, turn, fin⟩ := q its Hf1 H1 t1 ψ
  refine ⟨fun j m σ' H' => m = its.length - j ∧ j ≤ its.length ∧ Nxt i Hf1 (ρw j) (I j) σ' H', ⟨its.length, rfl, Nat.zero_le _, Hf1, Ex.refl _, t1.i, hw, h0⟩, ?_⟩
  rintro j m σ2 H2 ⟨rfl, hj, Hf2, e1, e2, r2, I2⟩
  by_cases hlt : j < its.length
  · refine .inr ⟨S.go j H2 hlt (e1.trans e2), Nxt i Hf1 (ρw (j + 1)) (I (j + 1)), fun σ' H' n => ⟨its.length - (j + 1), by omega, rfl, hlt, n⟩, fun x H3 hy => ?_⟩
    obtain ⟨Hf3, d, hd, t3, r3⟩ := S.yld j H2 x H3 Hf2 hlt e1 e2 hy
    obtain ⟨ρx, hgd, hb⟩ := turn j d hd
    exact hgd σ2 Hf3 H3 x _ (r2.mono t3.f) t3.i r3 fun σ3 _ r4 => hb σ3 Hf3 H3 (e1.trans t3.f) t3.i r4 (st j _ _ _ _ I2 t3)
  · have ej : j = its.length := by omega
    subst ej
    exact .inl ⟨S.stop H2 (e1.trans e2), fin σ2 Hf2 H2 e1 e2 r2 I2⟩
/-- a loop whose body is pure -/
theorem bb_forJ {Ψ : En → Prop} {Φ : Dt → Prop} {Ψi : List Dt → Prop} (vs : List Nat) (hi : ∀ X, XOk i X → PI X tg iter wi) (hg : ∀ X, XOk i X → PG X tg g) (h : ES i wi ρ Ψi)
    (q : ∀ its, Ψi its → ∃ ρw : Nat → En, Sub ρ (ρw 0) ∧ (∀ j d, its[j]? = some d → ∃ ρx, GD i g vs (ρw j) ρx d ∧ BB i body ρx (fun ρ' => Sub ρ' (ρw (j + 1))) Φ) ∧ BB i rest (ρw its.length) Ψ Φ)
    (hs : ∀ env x, foldedSetIterable iter env x = pure x := by intro _ _; rfl) : BB i (.For tg iter body [] pos :: rest) ρ Ψ Φ := fun σ Hf H D r ex qn qr => by
  refine go_for hi hg ?_ hs
  refine h σ Hf H _ r ex fun J its Hf1 H1 t1 S ψ => ?_
  obtain ⟨ρw, hw, turn, fin⟩ := q its ψ
  refine ⟨fun j m σ' H' => m = its.length - j ∧ j ≤ its.length ∧ ∃ Hf', Tr Hf1 H1 Hf' H' ∧ RpE i.K Hf' σ' (ρw j), ⟨its.length, rfl, Nat.zero_le _, Hf1, .refl t1.i, (r.mono t1.f).sub hw⟩, ?_⟩
  rintro j m σ2 H2 ⟨rfl, hj, Hf2, t2, r2⟩
  by_cases hlt : j < its.length
  · refine .inr ⟨S.go j H2 hlt (t2.f.trans t2.i), fun σ' H' => ∃ Hf', Tr Hf1 H1 Hf' H' ∧ RpE i.K Hf' σ' (ρw (j + 1)), fun σ' H' n => ⟨its.length - (j + 1), by omega, rfl, hlt, n⟩, fun x H3 hy => ?_⟩
    obtain ⟨Hf3, d, hd, t3, r3⟩ := S.yld j H2 x H3 Hf2 hlt t2.f t2.i hy
    obtain ⟨ρx, hgd, hb⟩ := turn j d hd
    refine hgd σ2 Hf3 H3 x _ (r2.mono t3.f) t3.i r3 fun σ3 _ r4 => ?_
    have fin2 : ∀ σ' ρ' Hf' H', Tr Hf3 H3 Hf' H' → RpE i.K Hf' σ' ρ' → Sub ρ' (ρw (j + 1)) → ∃ Hf', Tr Hf1 H1 Hf' H' ∧ RpE i.K Hf' σ' (ρw (j + 1)) := fun σ' ρ' Hf' H' t r s => ⟨Hf', (t2.trans t3).trans t, r.sub s⟩
    exact hb σ3 Hf3 H3 _ r4 t3.i fin2 fun v d Hf' H' t r φ => qr v d Hf' H' (((t1.trans t2).trans t3).trans t) r φ
  · have ej : j = its.length := by omega
    subst ej
    exact .inl ⟨S.stop H2 (t2.f.trans t2.i), fin σ2 Hf2 H2 D r2 t2.i (fun σ' ρ' Hf' H' t r ψ => qn σ' ρ' Hf' H' ((t1.trans t2).trans t) r ψ) fun v d Hf' H' t r φ => qr v d Hf' H' ((t1.trans t2).trans t) r φ⟩
theorem Sub.refl (ρ : En) : Sub ρ ρ := ⟨rfl, fun _ _ h => h⟩
theorem Sub.trans {a b c : En} (h : Sub a b) (g : Sub b c) : Sub a c := ⟨h.len.trans g.len, fun j d e => h.get j d (g.get j d e)⟩
theorem sub_wipe (ρ : En) (vs : List Nat) : Sub ρ (wipeE ρ vs) := ⟨(wipeE_len ρ vs).symm, fun j d e => by
  rw [wipeE_get] at e
  by_cases h : j ∈ vs
  · rw [if_pos h] at e
    cases q : ρ[j]? <;> rw [q] at e <;> cases e
  · rw [if_neg h] at e
    exact e⟩
end
end Fq
/-! FqP13: answers, lots of names; all deeds that may be done on one. -/
namespace Fq
open PySem PySem.Spec PyProof.Rows L2 Evl
open RZ
open PySem.W (EachIs AllAlike Sortable dataLe)
/-- the answer to a name -/
def ansM (f : Fd) (nm : Str) : Ans := (List.range f.bk.length).map fun b => rowsM f b nm
/-- a lot by its question -/
structure QL where
  q : Qn
  c : Nat
  an : Ans
def qlL (l : QL) : Lot := ⟨szQ l.q, qnD l.q, l.c, l.an⟩
def qlD (l : QL) : PyData := lotD (qlL l)
/-- a lot that is well made -/
structure OkQL (f : Fd) (l : QL) : Prop where
  q : OkQ f l.q
  lo : 1 ≤ l.c
  hi : l.c ≤ 3
  an : l.an.length = f.bk.length
  rs : ∀ rs ∈ l.an, RiseR rs ∧ rs.length ≤ 6 ∧ ∀ r ∈ rs, OkR l.c r
def tabL (f : Fd) (t : Tb) : QL := ⟨.tab t.1, t.2.1, ansM f t.1⟩
theorem tabL_ok {f : Fd} (ok : OkF f) {t : Tb} (ht : t ∈ f.bk.headD []) : OkQL f (tabL f t) := by
  obtain ⟨b0, hb0, okb0, eh⟩ := ok.bk.fst
  rw [eh] at ht
  have okt := okb0.ts t ht
  refine ⟨okt.nm.hi, okt.lo, okt.hi, by show (ansM f t.1).length = _; unfold ansM; rw [List.length_map, List.length_range], fun rs hrs => ?_⟩
  obtain ⟨b, hb, rfl⟩ := List.mem_map.mp hrs
  rw [List.mem_range] at hb
  obtain ⟨bk, t', h1, okb, ht', e1, e2, e3⟩ := rowsM_at ok.bk hb (by rw [eh]; exact ht)
  have ok' := okb.ts t' ht'
  rw [e3]
  refine ⟨ok'.up, ok'.many, fun r hr => ?_⟩
  have := ok'.rs r hr
  rw [e2] at this
  exact this
def oneL (m : Mv) (nm : Str) (l : QL) : QL := ⟨.one m nm, mvC l.c m, l.an.map (doneM m)⟩
theorem oneL_ok {f : Fd} {l : QL} (ok : OkQL f l) {nm : Str} (hn : nm.length ≤ 8) {m : Mv} (hm : OkM l.c f.nm m) : OkQL f (oneL m nm l) := by
  refine ⟨⟨hn, l.c, ok.hi, hm⟩, ?_, ?_, by show (l.an.map _).length = _; rw [List.length_map, ok.an], fun rs hrs => ?_⟩
  · cases m with
    | take p =>
      obtain ⟨h0, _⟩ := hm
      exact List.length_pos_iff.mpr h0
    | _ => exact ok.lo
  · cases m with
    | take p =>
      obtain ⟨_, _, _, h3⟩ := hm
      exact Nat.le_trans h3 ok.hi
    | _ => exact ok.hi
  · obtain ⟨r0, h0, rfl⟩ := List.mem_map.mp hrs
    obtain ⟨h1, h2, h3⟩ := ok.rs r0 h0
    obtain ⟨g1, g2, g3⟩ := doneM_ok hm ok.hi h3 h1
    exact ⟨g1, by omega, g3⟩
/-! all deeds on one -/
def longM (c : Nat) : Nat → List (List Nat)
  | 0 => [[]]
  | j + 1 => (longM c j).flatMap fun s => ((List.range c).filter fun k => decide (k ∉ s)).map fun k => s ++ [k]
def foundM (c j : Nat) : List (List Nat) := (List.range j).flatMap fun k => longM c (k + 1)
def picksM (c : Nat) : List (List Nat) := foundM c c
theorem longM_ok (c : Nat) : ∀ j, ∀ p ∈ longM c j, p.length = j ∧ p.Nodup ∧ ∀ k ∈ p, k < c
  | 0, p, hp => by
    obtain rfl := List.mem_singleton.mp hp
    exact ⟨rfl, List.nodup_nil, fun k hk => nomatch hk⟩
  | j + 1, p, hp => by
    unfold longM at hp
    obtain ⟨s, hs, hp⟩ := List.mem_flatMap.mp hp
    obtain ⟨k, hk, rfl⟩ := List.mem_map.mp hp
    obtain ⟨hk1, hk2⟩ := List.mem_filter.mp hk
    rw [List.mem_range] at hk1
    have hk2 := of_decide_eq_true hk2
    obtain ⟨h1, h2, h3⟩ := longM_ok c j s hs
    refine ⟨by rw [List.length_append, h1]; rfl, ?_, fun x hx => ?_⟩
    · rw [List.nodup_append]
      exact ⟨h2, by simp, fun a ha b hb e => hk2 (by rw [← List.mem_singleton.mp hb, ← e]; exact ha)⟩
    · rcases List.mem_append.mp hx with hx | hx
      · exact h3 x hx
      · rw [List.mem_singleton.mp hx]
        exact hk1
theorem picksM_ok {c : Nat} {p : List Nat} (hp : p ∈ picksM c) (nm : List Vl) : OkM c nm (.take p) := by
  obtain ⟨k, hk, hp⟩ := List.mem_flatMap.mp hp
  rw [List.mem_range] at hk
  obtain ⟨h1, h2, h3⟩ := longM_ok c (k + 1) p hp
  exact ⟨(fun z => by rw [z] at h1; cases h1), h2, h3, by omega⟩
theorem picks_small : ∀ c : Fin 4, (picksM c.val).length ≤ 15 ∧ ∀ j : Fin 4, (longM c.val j.val).length ≤ 15 ∧ (foundM c.val j.val).length ≤ 45 := by decide +kernel
def movesM (nm : List Vl) (c : Nat) (x : Str) : List Mv :=
  if x = "same" then (List.range c).flatMap fun j => (List.range j).map fun i => .same i j
  else if x = "below" then (List.range c).flatMap fun i => ((List.range c).filter fun j => decide (i ≠ j)).map fun j => .below i j
  else if x = "value" then (List.range c).flatMap fun i => nm.map fun v => .value i v
  else if x = "take" then (picksM c).map .take
  else []
theorem movesM_ok {nm : List Vl} {c : Nat} {x : Str} {m : Mv} (h : m ∈ movesM nm c x) : OkM c nm m := by
  unfold movesM at h
  split at h
  · obtain ⟨j, hj, h⟩ := List.mem_flatMap.mp h
    obtain ⟨k, hk, rfl⟩ := List.mem_map.mp h
    rw [List.mem_range] at hj hk
    exact ⟨hk, hj⟩
  · split at h
    · obtain ⟨j, hj, h⟩ := List.mem_flatMap.mp h
      obtain ⟨k, hk, rfl⟩ := List.mem_map.mp h
      obtain ⟨hk1, hk2⟩ := List.mem_filter.mp hk
      rw [List.mem_range] at hj hk1
      exact ⟨of_decide_eq_true hk2, hj, hk1⟩
    · split at h
      · obtain ⟨j, hj, h⟩ := List.mem_flatMap.mp h
        obtain ⟨v, hv, rfl⟩ := List.mem_map.mp h
        rw [List.mem_range] at hj
        exact ⟨hj, hv⟩
      · split at h
        · obtain ⟨p, hp, rfl⟩ := List.mem_map.mp h
          exact picksM_ok hp nm
        · cases h
theorem flat_len {α β : Type} (f : α → List β) (b : Nat) : ∀ l : List α, (∀ x ∈ l, (f x).length ≤ b) → (l.flatMap f).length ≤ l.length * b
  | [], _ => by simp
  | x :: l, h => by
    have h1 := h x (List.mem_cons_self ..)
    have h2 := flat_len f b l fun y hy => h y (List.mem_cons_of_mem _ hy)
    rw [List.flatMap_cons, List.length_append, List.length_cons, Nat.add_mul]
    omega
theorem movesM_len {nm : List Vl} {c : Nat} (h3 : c ≤ 3) (hz : nm.length ≤ 3) (x : Str) : (movesM nm c x).length ≤ 15 := by
  have hp := (picks_small ⟨c, by omega⟩).1
  have mul : ∀ k, c * k ≤ 3 * k := fun k => Nat.mul_le_mul_right k h3
  unfold movesM
  split
  · refine Nat.le_trans (flat_len _ 3 _ fun j hj => ?_) (by rw [List.length_range]; have := mul 3; omega)
    rw [List.length_map, List.length_range]
    rw [List.mem_range] at hj
    omega
  · split
    · refine Nat.le_trans (flat_len _ 3 _ fun j hj => ?_) (by rw [List.length_range]; have := mul 3; omega)
      rw [List.length_map]
      refine Nat.le_trans (List.length_filter_le _ _) ?_
      rw [List.length_range]
      exact h3
    · split
      · refine Nat.le_trans (flat_len _ 3 _ fun j hj => ?_) (by rw [List.length_range]; have := mul 3; omega)
        rw [List.length_map]
        exact hz
      · split
        · rw [List.length_map]
          exact hp
        · exact Nat.zero_le _
def mvsM (f : Fd) (c : Nat) : List Mv := f.dd.flatMap (movesM f.nm c)
section
variable {P : Program} {w : World} {K : PySem.W.Frag} {mg : Str → Option Value} {base : Heap}
/-! answers -/
theorem p_rows_told (H : Hd K mg) : Pf P w K mg base "rows_told" 4 ["field", "book", "question"] 3 S_rows_of := pf_of H q_rows_told sc_rows_told rfl fun ds Φ hl hS => by
  obtain ⟨f, b, t, rfl, ok, hb, ht, φ⟩ := hS
  refine bb_if (et_val (ee_isi (T := "str") (fr_isinstance H) (fr_str H) boot_str kit_str (ee_var 2 rfl ⟨_, rfl, true, rfl, iteT ?_⟩)))
  exact bb_ret (ee_call (p_rows_of H).fnc (ea_cons (ee_var 0 rfl (ea_cons (ee_var 1 rfl (ea_cons (ee_var 2 rfl (ea_nil ⟨rfl, f, b, t, rfl, ok, hb, ht, φ⟩))))))))
def S_answer : Sg := fun ds Φ => ∃ (f : Fd) (t : Tb), ds = [fdD f, .py (.str t.1)] ∧ OkF f ∧ t ∈ f.bk.headD [] ∧ Φ (.py (anD (ansM f t.1)))
theorem p_answer (H : Hd K mg) : Pf P w K mg base "answer" 6 ["field", "question"] 2 S_answer := pf_of H q_answer sc_answer rfl fun ds Φ hl hS => by
  obtain ⟨f, t, rfl, ok, ht, φ⟩ := hS
  have h3 := ok.bk.hi
  refine bb_expr (ee_call (p_check_question H).fnc (ea_cons (ee_var 0 rfl (ea_cons (ee_var 1 rfl (ea_nil ⟨rfl, f, t, rfl, ok, ht, ?_⟩))))))
  refine bb_ret (ee_callTy (T := "tuple") (fr_tuple H) (by decide +kernel) (ea_cons (ee_unO (ee_lcO [("book", 2)] (wx_rng1 rfl (fr_range H)) (gx_name 2) (es_rng1 (ea_cons (ee_callB (fr_len H) PySem.boot_len (ea_cons (ee_var 0 rfl (ea_nil (ld_lenF H (by omega) (p_Field_len H) (Nat.le_of_ble_eq_true rfl) ?_))))))))))) 
  refine ea_nil ⟨f.bk.length, rfl, by omega, Nat, fun k => .py (.int (0 + (k : Int))), List.range f.bk.length, fun _ => true, fun b => rwsD (rowsM f b t.1), rfl, by rw [List.length_range]; omega, fun b hb => ?_, ?_⟩
  · rw [List.mem_range] at hb
    exact ⟨_, gd_name 2, ei_nil rfl, fun _ => ee_call (p_rows_told H).fnc (ea_cons (ee_var 0 rfl (ea_cons (ee_var 2 rfl (ea_cons (ee_var 1 rfl (ea_nil ⟨rfl, f, b, t, by show [fdD f, .py (.int (0 + (b : Int))), .py (.str t.1)] = _; rw [Int.zero_add], ok, hb, ht, rfl⟩)))))))⟩
  · rw [filter_yes]
    refine ⟨_, rfl, ea_nil (ld_tuple ?_)⟩
    unfold anD ansM at φ
    rw [List.map_map] at φ
    exact φ
/-! lots of names -/
def S_lot_of : Sg := fun ds Φ => ∃ (f : Fd) (t : Tb), ds = [fdD f, .py (.str t.1)] ∧ OkF f ∧ t ∈ f.bk.headD [] ∧ Φ (.py (qlD (tabL f t)))
theorem p_lot_of (H : Hd K mg) (O : OneOk w K) : Pf P w K mg base "lot_of" 7 ["field", "question"] 2 S_lot_of := pf_of H q_lot_of sc_lot_of rfl fun ds Φ hl hS => by
  obtain ⟨f, t, rfl, ok, ht, φ⟩ := hS
  refine bb_set 2 (ee_call (p_answer H).fnc (ea_cons (ee_var 0 rfl (ea_cons (ee_var 1 rfl (ea_nil ⟨rfl, f, t, rfl, ok, ht, ?_⟩))))))
  refine bb_ret (ee_tup (ea_cons (ee_call (p_size_of H O).fnc (ea_cons (ee_var 1 rfl (ea_nil ⟨rfl, .tab t.1, rfl, ?_⟩))))))
  refine ea_cons (ee_var 1 rfl (ea_cons (ee_call (p_columns_of H).fnc (ea_cons (ee_var 0 rfl (ea_cons (ee_var 1 rfl (ea_nil ⟨rfl, f, t, rfl, ok, ht, ?_⟩))))))))
  exact ea_cons (ee_var 2 rfl (ea_nil ⟨_, .cons (.cons (.cons (.cons .nil))), Nat.le_of_ble_eq_true rfl, φ⟩))
/-! key_of -/
def kyD (l : QL) : PyData := .tuple [.int (l.c : Int), anD l.an]
def S_key_of : Sg := fun ds Φ => ∃ l : QL, ds = [.py (qlD l)] ∧ Φ (.py (kyD l))
theorem p_key_of (H : Hd K mg) : Pf P w K mg base "key_of" 1 ["lot"] 1 S_key_of := pf_of H q_key_of sc_key_of rfl fun ds Φ hl hS => by
  obtain ⟨l, rfl, φ⟩ := hS
  refine bb_ret (ee_tup (ea_cons (ee_ixT (ee_var 0 rfl (ee_int ⟨_, 2, .int (l.c : Int), rfl, rfl, atI_nat (j := 2) rfl, ?_⟩)))))
  exact ea_cons (ee_ixT (ee_var 0 rfl (ee_int ⟨_, 3, anD l.an, rfl, rfl, atI_nat (j := 3) rfl, ea_nil ⟨_, .cons (.cons .nil), Nat.le_of_ble_eq_true rfl, φ⟩⟩)))
def S_lot_rank : Sg := fun ds Φ => ∃ (f : Fd) (l : QL), ds = [.py (qlD l)] ∧ OkF f ∧ OkQ f l.q ∧ Φ (.py (rkD l.q))
theorem p_lot_rank (H : Hd K mg) (O : OneOk w K) : Pf P w K mg base "lot_rank" 5 ["lot"] 1 S_lot_rank := pf_of H q_lot_rank sc_lot_rank rfl fun ds Φ hl hS => by
  obtain ⟨f, l, rfl, okf, okq, φ⟩ := hS
  exact bb_ret (ee_call (p_rank H O).fnc (ea_cons (ee_ixT (ee_var 0 rfl (ee_int ⟨_, 1, qnD l.q, rfl, rfl, atI_nat (j := 1) rfl, ea_nil ⟨rfl, f, l.q, rfl, okf, okq, φ⟩⟩)))))
/-! picks -/
theorem LGrow.app {K : PySem.W.Frag} {Hf0 H0 : Hp} {D : Addr} {zs ys : List PyData} {Hf H : Hp} {vs us : List V} (t : Tr Hf0 H0 Hf H) (h2 : Hf D = none) (h3 : H D = some (.lst vs)) (h4 : DpAll K Hf vs zs) (hD : H0 D = none) (hy : DpAll K Hf us ys) :
    Ex Hf (upd H D (.lst (vs ++ us))) ∧ LGrow K Hf0 H0 D (zs ++ ys) Hf (upd H D (.lst (vs ++ us))) := by
  have ex : Ex Hf (upd H D (.lst (vs ++ us))) := fun q o hq => by
    rw [upd_ne (ne_of_none hq h2)]
    exact t.i q o hq
  exact ⟨ex, _, ⟨t.f, ex, Ex.mut t.h hD, t.n⟩, h2, upd_same, dpAll_app h4 hy⟩
theorem nats_any (x : Nat) (xs : List Nat) : ((xs.map fun (k : Nat) => PyData.int (k : Int)).any fun y => PyData.eqv y (.int (x : Int))) = decide (x ∈ xs) := by
  induction xs with
  | nil => simp
  | cons y ys ih =>
    rw [List.map_cons, List.any_cons, ih, eqv_int, ← Bool.decide_or]
    exact decide_eq_decide.mpr (by rw [List.mem_cons]; constructor <;> (rintro (h | h) <;> first | (left; omega) | (right; exact h)))
theorem decI_not {p : Prop} [Decidable p] : (!decide p) = decide (¬ p) := by by_cases h : p <;> simp [h]
def S_picks : Sg := fun ds Φ => ∃ c : Nat, ds = [.py (.int (c : Int))] ∧ c ≤ 3 ∧ Φ (.py (.list ((picksM c).map natsD)))
theorem p_picks (H : Hd K mg) : Pf P w K mg base "picks" 1 ["columns"] 1 S_picks := pf_of H q_picks sc_picks rfl fun ds Φ hl hS => by
  obtain ⟨c, rfl, hc, φ⟩ := hS
  intro σ Hf H0 E hρ ex qn qr
  refine go_set 1 (ex_lst (ax_nil ⟨Nat.zero_le _, fun D hD => ?_⟩))
  have hDf : Hf D = none := fresh_back ex hD
  have ρ1 : RpE K Hf (σ.set 1 (some (.ref D))) [some (.py (.int (c : Int))), some (refDt D), none, none, none, none] := hρ.set (d := refDt D) rfl
  refine gm_set (Φ := fun d => d = ldD K ((longM c 0).map natsD)) 2 ρ1 (Tr.drop ex hD).i (ee_lstO (ea_cons (ee_tup (ea_nil ⟨[], .nil, Nat.le_of_ble_eq_true rfl, ea_nil ⟨_, .cons .nil, Nat.le_of_ble_eq_true rfl, rfl⟩⟩)))) fun v d Hf1 H1 t1 r1 rv ed => ?_
  subst ed
  have r1 : RpE K Hf1 ((σ.set 1 (some (.ref D))).set 2 (some v)) [some (.py (.int (c : Int))), some (refDt D), some (ldD K ((longM c 0).map natsD)), none, none, none] := r1
  have small := picks_small ⟨c, by omega⟩
  refine gm_forJ [3] (wx_rng1 rfl (fr_range H)) (gx_name 3) r1 t1.i (es_rng1 (Ψ := fun its => its = rngD 0 c) (ea_cons (ee_var 0 rfl (ea_nil ⟨c, rfl, by omega, rfl⟩)))) fun its Hf2 H2 t2 eits => ?_
  subst eits
  refine ⟨fun j => [some (.py (.int (c : Int))), some (refDt D), some (ldD K ((longM c j).map natsD)), none, none, none], fun j => LGrow K Hf H0 D ((foundM c j).map natsD), ?_, ((LGrow.new ex hD).step t1).step t2, fun j _ _ _ _ h t => h.step t, fun j d hd => ?_, ?_⟩
  · exact r1.mono t2.f
  · unfold rngD at hd
    rw [List.getElem?_map] at hd
    obtain ⟨j', hj', rfl⟩ := Option.map_eq_some_iff.mp hd
    obtain ⟨hjc, ej⟩ := List.getElem?_eq_some_iff.mp hj'
    rw [List.length_range] at hjc
    rw [List.getElem_range] at ej
    subst ej
    refine ⟨[some (.py (.int (c : Int))), some (refDt D), some (ldD K ((longM c j).map natsD)), some (.py (.int (0 + (j : Int)))), none, none], gd_name (vs := [3]) 3, fun σ2 Hf3 H3 e1 e2 r2 I2 => ?_⟩
    have sj : (longM c j).length ≤ 15 ∧ (foundM c j).length ≤ 45 := small.2 ⟨j, by omega⟩
    have sj1 : (longM c (j + 1)).length ≤ 15 ∧ (foundM c (j + 1)).length ≤ 45 := small.2 ⟨j + 1, by omega⟩
    refine go_setLc2 2 [("some", 4), ("column", 5)] [5] wx_list (gx_name 4) (wx_rng1 rfl (fr_range H)) (gx_name 5) (lc2_run (Φ := fun d => d = ldD K ((longM c (j + 1)).map natsD)) [("some", 4), ("column", 5)] [5] (es_ld (ee_var 2 rfl ⟨_, rfl, ?_⟩)) r2 e2 fun v d Hf4 H4 t4 rv ed => ?_)
    · refine ⟨List Nat, fun s => .py (natsD s), longM c j, fun _ => true, fun s => (((List.range c).filter fun k => decide (k ∉ s)).map fun k => natsD (s ++ [k])), by rw [List.map_map]; rfl, ?_, fun s hs => ?_, ?_⟩
      · rw [filter_yes]
        refine Nat.le_trans (flat_len _ 3 _ fun s hs => ?_) (by have := sj.1; omega)
        rw [List.length_map]
        refine Nat.le_trans (List.length_filter_le _ _) ?_
        rw [List.length_range]
        exact hc
      · obtain ⟨hs1, hs2, hs3⟩ := longM_ok c j s hs
        refine ⟨_, gd_name 4, ei_nil rfl, fun _ => es_rng1 (ea_cons (ee_var 0 rfl (ea_nil ⟨c, rfl, by omega, ?_⟩)))⟩
        refine ⟨Nat, fun k => .py (.int (0 + (k : Int))), List.range c, fun k => decide (k ∉ s), fun k => natsD (s ++ [k]), rfl, rfl, fun k hk => ?_⟩
        refine ⟨_, gd_name 5, ei_one (et_cmp (ee_var 5 rfl (ee_var 4 rfl (od_niT (pl_int _) (nats_plain _) ⟨_, rfl, ?_⟩))) (hm := rfl)), fun _ => ee_op (ee_var 4 rfl (ee_tup (ea_cons (ee_var 5 rfl (ea_nil ⟨_, .cons .nil, Nat.le_of_ble_eq_true rfl, od_addT (by rw [List.length_map, hs1]; show j + 1 ≤ _; omega) ?_⟩)))))⟩
        · rw [Int.zero_add, nats_any, decI_not]
        · show Dt.py (.tuple (s.map (fun (k : Nat) => PyData.int (k : Int)) ++ [.int (0 + (k : Int))])) = Dt.py (.tuple ((s ++ [k]).map fun (k : Nat) => .int (k : Int)))
          rw [Int.zero_add, List.map_append]
          rfl
      · rw [filter_yes]
        show ldD K _ = ldD K ((longM c (j + 1)).map natsD)
        congr 1
        rw [longM, List.map_flatMap]
        congr 1
        funext s
        rw [List.map_map]
        rfl
    · subst ed
      obtain ⟨Lg, us, rfl, hL, dL⟩ := rv
      obtain ⟨vs, k1, k2, k3, k4⟩ := I2.step t4
      have r3 : RpE K Hf4 (σ2.set 2 (some (.ref Lg))) [some (.py (.int (c : Int))), some (refDt D), some (ldD K ((longM c (j + 1)).map natsD)), some (.py (.int (0 + (j : Int)))), none, none] := (r2.mono t4.f).set (j := 2) (v := .ref Lg) (d := ldD K ((longM c (j + 1)).map natsD)) (ld_mk hL dL)
      have l1 := dpAll_len k4
      have l2 := dpAll_len dL
      rw [List.length_map] at l1 l2
      obtain ⟨e5, g5⟩ := LGrow.app k1 k2 k3 k4 hD dL
      have hσ1 : (σ2.set 2 (some (.ref Lg)))[1]? = some (some (.ref D)) := r3.ref rfl
      have hσ2 : (σ2.set 2 (some (.ref Lg)))[2]? = some (some (.ref Lg)) := by
        rw [List.getElem?_set_self (by rw [r2.len]; show 2 < 6; decide)]
      refine go_augL 1 ⟨.ref D, hσ1, ex_var 2 hσ2 ⟨D, Lg, vs, us, rfl, rfl, k3, t4.i _ _ hL, sz_of (by have := sj.2; have := sj1.1; omega), go_nil ⟨Hf4, e1.trans t4.f, e5, (show RpE K Hf4 _ [some (.py (.int (c : Int))), some (refDt D), some (ldD K ((longM c (j + 1)).map natsD)), some (.py (.int (0 + (j : Int)))), none, none] from r3.set (j := 1) (v := .ref D) (d := refDt D) rfl).sub (by repeat (first | exact sub_nil | refine sub_same ?_ | refine sub_drop ?_)), ?_⟩⟩⟩
      · show LGrow K Hf H0 D ((foundM c (j + 1)).map natsD) _ _
        have ef : foundM c (j + 1) = foundM c j ++ longM c (j + 1) := by
          unfold foundM
          rw [List.range_succ, List.flatMap_append, List.flatMap_singleton]
        rw [ef, List.map_append]
        exact g5
  · intro σ2 Hf3 H3 e1 e2 r2 I2
    obtain ⟨vs, k1, k2, k3, k4⟩ := I2
    unfold rngD at k4
    rw [List.length_map, List.length_range] at k4
    exact go_ret (ex_var 1 (r2.ref rfl) (qr _ (.py (.list ((picksM c).map natsD))) (upd Hf3 D (.lst vs)) H3 (k1.adopt k2 k3 hD) (rpy (dp_lst_new k4 k2)) φ))
end
end Fq
/-! FqP14: deeds by word; lots by one; lots made. -/
namespace Fq
open PySem PySem.Spec PyProof.Rows L2 Evl
open RZ
open PySem.W (EachIs AllAlike Sortable dataLe)
theorem flat_all {α β : Type} (f : α → List β) (l : List α) : (l.filter fun _ => true).flatMap f = l.flatMap f := by rw [filter_yes]
section
variable {P : Program} {w : World} {K : PySem.W.Frag} {mg : Str → Option Value} {base : Heap}
def S_moves_by_word : Sg := fun ds Φ => ∃ (f : Fd) (x : Str) (c : Nat), ds = [fdD f, .py (.str x), .py (.int (c : Int))] ∧ f.nm.length ≤ 3 ∧ c ≤ 3 ∧ Φ (.py (.list ((movesM f.nm c x).map mvD)))
theorem p_moves_by_word (H : Hd K mg) : Pf P w K mg base "moves_by_word" 2 ["field", "word", "columns"] 3 S_moves_by_word := pf_of H q_moves_by_word sc_moves_by_word rfl fun ds Φ hl hS => by
  obtain ⟨f, x, c, rfl, hz, hc, φ⟩ := hS
  have hlen := movesM_len hc hz x (nm := f.nm)
  refine bb_if (et_cmp (ee_var 1 rfl (ee_str (od_eq (pl_str _) (pl_str _) ⟨_, rfl, ?_⟩))) (hm := rfl))
  rw [eqv_str]
  by_cases e1 : x = "same"
  · subst e1
    rw [decide_eq_true rfl]
    have em : movesM f.nm c "same" = (List.range c).flatMap fun j => (List.range j).map fun i => .same i j := if_pos rfl
    rw [em] at φ hlen
    refine iteT (bb_ret (ee_unO (ee_lc2O [("j", 3), ("i", 4)] [4] (wx_rng1 rfl (fr_range H)) (gx_name 3) (wx_rng1 rfl (fr_range H)) (gx_name 4) (es_rng1 (ea_cons (ee_var 2 rfl (ea_nil ⟨c, rfl, by omega, ?_⟩)))))))
    refine ⟨Nat, fun k => .py (.int (0 + (k : Int))), List.range c, fun _ => true, fun j => ((List.range j).map fun i => mvD (.same i j)), rfl, ?_, fun j hj => ?_, ?_⟩
    · rw [flat_all]
      have e : ((List.range c).flatMap fun j => (List.range j).map fun i => mvD (.same i j)) = ((List.range c).flatMap fun j => (List.range j).map fun i => Mv.same i j).map mvD := by rw [List.map_flatMap]; congr 1; funext j; rw [List.map_map]; rfl
      rw [e, List.length_map]
      omega
    · rw [List.mem_range] at hj
      refine ⟨_, gd_name 3, ei_nil rfl, fun _ => es_rng1 (ea_cons (ee_var 3 rfl (ea_nil ⟨j, by show [Dt.py (.int (0 + (j : Int)))] = _; rw [Int.zero_add], by omega, Nat, fun k => .py (.int (0 + (k : Int))), List.range j, fun _ => true, fun i => mvD (.same i j), rfl, by rw [filter_yes], fun i hi => ?_⟩)))⟩
      refine ⟨_, gd_name 4, ei_nil rfl, fun _ => ee_tup (ea_cons (ee_var 1 rfl (ea_cons (ee_var 4 rfl (ea_cons (ee_var 3 rfl (ea_nil ⟨_, .cons (.cons (.cons .nil)), Nat.le_of_ble_eq_true rfl, ?_⟩)))))))⟩
      rw [Int.zero_add, Int.zero_add]
      rfl
    · rw [flat_all]
      rw [List.map_flatMap] at φ
      refine ⟨_, rfl, ?_⟩
      simp only [List.map_map] at φ
      exact φ
  rw [decide_eq_false e1]
  refine iteF (bb_nil (bb_if (et_cmp (ee_var 1 rfl (ee_str (od_eq (pl_str _) (pl_str _) ⟨_, rfl, ?_⟩))) (hm := rfl))))
  rw [eqv_str]
  by_cases e2 : x = "below"
  · subst e2
    rw [decide_eq_true rfl]
    have em : movesM f.nm c "below" = (List.range c).flatMap fun i => ((List.range c).filter fun j => decide (i ≠ j)).map fun j => .below i j := by
      unfold movesM
      rw [if_neg (by decide +kernel), if_pos rfl]
    rw [em] at φ hlen
    refine iteT (bb_ret (ee_unO (ee_lc2O [("i", 4), ("j", 3)] [3] (wx_rng1 rfl (fr_range H)) (gx_name 4) (wx_rng1 rfl (fr_range H)) (gx_name 3) (es_rng1 (ea_cons (ee_var 2 rfl (ea_nil ⟨c, rfl, by omega, ?_⟩)))))))
    refine ⟨Nat, fun k => .py (.int (0 + (k : Int))), List.range c, fun _ => true, fun i => (((List.range c).filter fun j => decide (i ≠ j)).map fun j => mvD (.below i j)), rfl, ?_, fun i hi => ?_, ?_⟩
    · rw [flat_all]
      have e : ((List.range c).flatMap fun i => ((List.range c).filter fun j => decide (i ≠ j)).map fun j => mvD (.below i j)) = ((List.range c).flatMap fun i => ((List.range c).filter fun j => decide (i ≠ j)).map fun j => Mv.below i j).map mvD := by rw [List.map_flatMap]; congr 1; funext j; rw [List.map_map]; rfl
      rw [e, List.length_map]
      omega
    · refine ⟨_, gd_name 4, ei_nil rfl, fun _ => es_rng1 (ea_cons (ee_var 2 rfl (ea_nil ⟨c, rfl, by omega, Nat, fun k => .py (.int (0 + (k : Int))), List.range c, fun j => decide (i ≠ j), fun j => mvD (.below i j), rfl, rfl, fun j hj => ?_⟩)))⟩
      refine ⟨_, gd_name 3, ei_one (et_cmp (ee_var 4 rfl (ee_var 3 rfl (od_ne (pl_int _) (pl_int _) ⟨_, rfl, ?_⟩))) (hm := rfl)), fun _ => ee_tup (ea_cons (ee_var 1 rfl (ea_cons (ee_var 4 rfl (ea_cons (ee_var 3 rfl (ea_nil ⟨_, .cons (.cons (.cons .nil)), Nat.le_of_ble_eq_true rfl, ?_⟩)))))))⟩
      · rw [eqv_int, decI_not]
        exact decide_eq_decide.mpr ⟨fun h z => h (by rw [z]), fun h z => h (by omega)⟩
      · rw [Int.zero_add, Int.zero_add]
        rfl
    · rw [flat_all]
      rw [List.map_flatMap] at φ
      refine ⟨_, rfl, ?_⟩
      simp only [List.map_map] at φ
      exact φ
  rw [decide_eq_false e2]
  refine iteF (bb_nil (bb_if (et_cmp (ee_var 1 rfl (ee_str (od_eq (pl_str _) (pl_str _) ⟨_, rfl, ?_⟩))) (hm := rfl))))
  rw [eqv_str]
  by_cases e3 : x = "value"
  · subst e3
    rw [decide_eq_true rfl]
    have em : movesM f.nm c "value" = (List.range c).flatMap fun i => f.nm.map fun v => .value i v := by
      unfold movesM
      rw [if_neg (by decide +kernel), if_neg (by decide +kernel), if_pos rfl]
    rw [em] at φ hlen
    refine iteT (bb_ret (ee_unO (ee_lc2O [("i", 4), ("value", 5)] [5] (wx_rng1 rfl (fr_range H)) (gx_name 4) wx_tup (gx_name 5) (es_rng1 (ea_cons (ee_var 2 rfl (ea_nil ⟨c, rfl, by omega, ?_⟩)))))))
    refine ⟨Nat, fun k => .py (.int (0 + (k : Int))), List.range c, fun _ => true, fun i => (f.nm.map fun v => mvD (.value i v)), rfl, ?_, fun i hi => ?_, ?_⟩
    · rw [flat_all]
      have e : ((List.range c).flatMap fun i => f.nm.map fun v => mvD (.value i v)) = ((List.range c).flatMap fun i => f.nm.map fun v => Mv.value i v).map mvD := by rw [List.map_flatMap]; congr 1; funext j; rw [List.map_map]; rfl
      rw [e, List.length_map]
      omega
    · refine ⟨_, gd_name 4, ei_nil rfl, fun _ => es_tup (ee_fNamed H (ee_var 0 rfl ⟨f, rfl, _, rfl, Vl, fun v => .py v.d, f.nm, fun _ => true, fun v => mvD (.value i v), by rw [List.map_map]; rfl, by rw [filter_yes], fun v hv => ?_⟩))⟩
      refine ⟨_, gd_name 5, ei_nil rfl, fun _ => ee_tup (ea_cons (ee_var 1 rfl (ea_cons (ee_var 4 rfl (ea_cons (ee_var 5 rfl (ea_nil ⟨_, .cons (.cons (.cons .nil)), Nat.le_of_ble_eq_true rfl, ?_⟩)))))))⟩
      rw [Int.zero_add]
      rfl
    · rw [flat_all]
      rw [List.map_flatMap] at φ
      refine ⟨_, rfl, ?_⟩
      simp only [List.map_map] at φ
      exact φ
  rw [decide_eq_false e3]
  refine iteF (bb_nil (bb_if (et_cmp (ee_var 1 rfl (ee_str (od_eq (pl_str _) (pl_str _) ⟨_, rfl, ?_⟩))) (hm := rfl))))
  rw [eqv_str]
  by_cases e4 : x = "take"
  · subst e4
    rw [decide_eq_true rfl]
    have em : movesM f.nm c "take" = (picksM c).map .take := by
      unfold movesM
      rw [if_neg (by decide +kernel), if_neg (by decide +kernel), if_neg (by decide +kernel), if_pos rfl]
    rw [em] at φ hlen
    rw [List.length_map] at hlen
    refine iteT (bb_ret (ee_unO (ee_lcO [("picked", 6)] wx_list (gx_name 6) (es_list (ee_call (p_picks H).fnc (ea_cons (ee_var 2 rfl (ea_nil ⟨rfl, c, rfl, hc, _, rfl, List Nat, fun p => .py (natsD p), picksM c, fun _ => true, fun p => mvD (.take p), by rw [List.map_map]; rfl, by omega, fun p hp => ?_, ?_⟩))))))))
    · exact ⟨_, gd_name 6, ei_nil rfl, fun _ => ee_tup (ea_cons (ee_var 1 rfl (ea_cons (ee_var 6 rfl (ea_nil ⟨_, .cons (.cons .nil), Nat.le_of_ble_eq_true rfl, rfl⟩)))))⟩
    · rw [filter_yes]
      refine ⟨_, rfl, ?_⟩
      rw [List.map_map] at φ
      exact φ
  rw [decide_eq_false e4]
  have em : movesM f.nm c x = [] := by
    unfold movesM
    rw [if_neg e1, if_neg e2, if_neg e3, if_neg e4]
  rw [em] at φ
  exact iteF (bb_nil (bb_ret (ee_lst (ea_nil ⟨[], .nil, Nat.le_of_ble_eq_true rfl, φ⟩))))
def S_moves_on_one : Sg := fun ds Φ => ∃ (f : Fd) (c : Nat), ds = [fdD f, .py (ddD f.dd), .py (.int (c : Int))] ∧ OkF f ∧ c ≤ 3 ∧ Φ (.py (.list ((mvsM f c).map mvD)))
theorem mvsM_len {f : Fd} (ok : OkF f) {c : Nat} (hc : c ≤ 3) : (mvsM f c).length ≤ 135 := by
  have h := flat_len (movesM f.nm c) 15 f.dd fun x _ => movesM_len hc ok.nz x
  have := ok.dz
  unfold mvsM
  omega
theorem p_moves_on_one (H : Hd K mg) : Pf P w K mg base "moves_on_one" 3 ["field", "words", "columns"] 3 S_moves_on_one := pf_of H q_moves_on_one sc_moves_on_one rfl fun ds Φ hl hS => by
  obtain ⟨f, c, rfl, ok, hc, φ⟩ := hS
  have hlen := mvsM_len ok hc
  refine bb_ret (ee_unO (ee_lc2O [("word", 3), ("move", 4)] [4] wx_tup (gx_name 3) wx_list (gx_name 4) (es_tup (ee_var 1 rfl ⟨_, rfl, Str, fun x => .py (.str x), f.dd, fun _ => true, fun x => (movesM f.nm c x).map mvD, by rw [List.map_map]; rfl, ?_, fun x hx => ?_, ?_⟩))))
  · rw [flat_all, ← List.map_flatMap, List.length_map]
    show (mvsM f c).length ≤ 40000
    omega
  · refine ⟨_, gd_name 3, ei_nil rfl, fun _ => es_list (ee_call (p_moves_by_word H).fnc (ea_cons (ee_var 0 rfl (ea_cons (ee_var 3 rfl (ea_cons (ee_var 2 rfl (ea_nil ⟨rfl, f, x, c, rfl, ok.nz, hc, _, rfl, Mv, fun m => .py (mvD m), movesM f.nm c x, fun _ => true, mvD, by rw [List.map_map]; rfl, by rw [filter_yes], fun m hm => ?_⟩))))))))⟩
    exact ⟨_, gd_name 4, ei_nil rfl, fun _ => ee_var 4 rfl rfl⟩
  · rw [flat_all, ← List.map_flatMap]
    exact ⟨_, rfl, φ⟩
/-! lots by one deed -/
def oneLs (f : Fd) (nm : Str) (l : QL) : List QL := (mvsM f l.c).map fun m => oneL m nm l
def S_lots_by_one : Sg := fun ds Φ => ∃ (f : Fd) (l : QL) (nm : Str), ds = [fdD f, .py (qlD l)] ∧ OkF f ∧ OkQL f l ∧ l.q = .tab nm ∧ Φ (.py (.list ((oneLs f nm l).map qlD)))
theorem p_lots_by_one (H : Hd K mg) : Pf P w K mg base "lots_by_one" 8 ["field", "lot"] 2 S_lots_by_one := pf_of H q_lots_by_one sc_lots_by_one rfl fun ds Φ hl hS => by
  obtain ⟨f, ⟨q, c, an⟩, nm, rfl, okf, okl, hq, φ⟩ := hS
  simp only at hq
  subst hq
  have hc : c ≤ 3 := okl.hi
  have hlen := mvsM_len okf hc
  have han : an.length = f.bk.length := okl.an
  have hb3 := okf.bk.hi
  obtain ⟨ad, fdone, hdone⟩ := f_done_on (P := P) (w := w) (base := base) H
  refine bb_asg [4, 5, 6, 7] (gx_tup (n := 4) (t := gsOf [4, 5, 6, 7]) (gxs_cons (gx_name 4) (gxs_cons (gx_name 5) (gxs_cons (gx_name 6) (gxs_cons (gx_name 7) gxs_nil))))) (ee_var 1 rfl ⟨[some (fdD f), some (.py (qlD ⟨.tab nm, c, an⟩)), none, none, some (.py (.int (szQ (.tab nm)))), some (.py (qnD (.tab nm))), some (.py (.int (c : Int))), some (.py (anD an)), none, none], gd_tup (ds := [.int (szQ (.tab nm)), qnD (.tab nm), .int (c : Int), anD an]) [4, 5, 6, 7] rfl rfl, ?_⟩)
  intro σ Hf H0 E hρ ex qn qr
  refine go_set 2 (ex_lst (ax_nil ⟨Nat.zero_le _, fun D hD => ?_⟩))
  have hDf : Hf D = none := fresh_back ex hD
  have ρ1 : RpE K Hf (σ.set 2 (some (.ref D))) [some (fdD f), some (.py (qlD ⟨.tab nm, c, an⟩)), some (refDt D), none, some (.py (.int (szQ (.tab nm)))), some (.py (qnD (.tab nm))), some (.py (.int (c : Int))), some (.py (anD an)), none, none] := hρ.set (j := 2) (v := .ref D) (d := refDt D) rfl
  refine gm_for [3] wx_list (gx_name 3) ρ1 (Tr.drop ex hD).i (es_list (Ψ := fun its => its = (mvsM f c).map fun m => .py (mvD m)) (ee_call (p_moves_on_one H).fnc (ea_cons (ee_var 0 rfl (ea_cons (ee_fDeeds H (ee_var 0 rfl ⟨f, rfl, ?_⟩)))))))  fun its Hf1 H1 t1 eits => ?_
  · exact ea_cons (ee_var 6 rfl (ea_nil ⟨rfl, f, c, rfl, okf, hc, _, rfl, by rw [List.map_map]; rfl⟩))
  subst eits
  refine ⟨[some (fdD f), some (.py (qlD ⟨.tab nm, c, an⟩)), some (refDt D), none, some (.py (.int (szQ (.tab nm)))), some (.py (qnD (.tab nm))), some (.py (.int (c : Int))), some (.py (anD an)), none, none], fun j => LGrow K Hf H0 D ((((mvsM f c).take j).map fun m => oneL m nm ⟨.tab nm, c, an⟩).map qlD), ρ1.mono t1.f, (LGrow.new ex hD).step t1, fun j _ _ _ _ h t => h.step t, fun j d hd => ?_, ?_⟩
  · rw [List.getElem?_map] at hd
    obtain ⟨m, hm, rfl⟩ := Option.map_eq_some_iff.mp hd
    have hmm : m ∈ mvsM f c := List.mem_of_getElem? hm
    have okm : OkM c f.nm m := by
      obtain ⟨x, _, h⟩ := List.mem_flatMap.mp hmm
      exact movesM_ok h
    refine ⟨[some (fdD f), some (.py (qlD ⟨.tab nm, c, an⟩)), some (refDt D), some (.py (mvD m)), some (.py (.int (szQ (.tab nm)))), some (.py (qnD (.tab nm))), some (.py (.int (c : Int))), some (.py (anD an)), none, none], gd_name 3, fun σ2 Hf2 H2 e1 e2 r2 I2 => ?_⟩
    refine gm_set (Φ := fun d => d = .py (anD (an.map (doneM m)))) 8 r2 e2 (ee_callTy (T := "tuple") (fr_tuple H) (by decide +kernel) (ea_cons (ee_unO (ee_lcO [("one", 9)] wx_tup (gx_name 9) (es_tup (ee_var 7 rfl ⟨_, rfl, List Row, fun rs => .py (rwsD rs), an, fun _ => true, fun rs => rwsD (doneM m rs), by rw [List.map_map]; rfl, by omega, fun rs hrs => ?_, ?_⟩)))))) fun v d Hf3 H3 t3 r3 rv ed => ?_
    · obtain ⟨h1, h2, h3⟩ := okl.rs rs hrs
      exact ⟨_, gd_name 9, ei_nil rfl, fun _ => ee_callD (fdone (Nat.le_refl _)) hdone (ea_cons (ee_var 3 rfl (ea_cons (ee_var 9 rfl (ea_nil ⟨rfl, m, f.nm, rs, c, rfl, okm, hc, h2, h3, rfl⟩)))))⟩
    · rw [filter_yes]
      refine ⟨_, rfl, ea_nil (ld_tuple ?_)⟩
      show Dt.py _ = Dt.py (.tuple ((an.map (doneM m)).map rwsD))
      rw [List.map_map]
      rfl
    subst ed
    have r3 : RpE K Hf3 (σ2.set 8 (some v)) [some (fdD f), some (.py (qlD ⟨.tab nm, c, an⟩)), some (refDt D), some (.py (mvD m)), some (.py (.int (szQ (.tab nm)))), some (.py (qnD (.tab nm))), some (.py (.int (c : Int))), some (.py (anD an)), some (.py (anD (an.map (doneM m)))), none] := r3
    refine gm_append (z := qlD (oneL m nm ⟨.tab nm, c, an⟩)) 2 r3 rfl (I2.step t3) hD ?_ ?_ fun Hf7 H7 e7 e8 r7 I7 => go_nil ⟨Hf7, (e1.trans t3.f).trans e7, e8, r7.sub (by repeat (first | exact sub_nil | refine sub_same ?_ | refine sub_drop ?_)), ?_⟩
    · rw [List.length_map, List.length_map, List.length_take]
      omega
    · refine ee_tup (ea_cons (ee_op (ee_var 4 rfl (ee_int (od_add ?_)))))
      refine ea_cons (ee_op (ee_var 3 rfl (ee_tup (ea_cons (ee_var 5 rfl (ea_nil ⟨_, .cons .nil, Nat.le_of_ble_eq_true rfl, od_addT (by have := mvL_len m; show (mvL m).length + 1 ≤ _; omega) ?_⟩))))))
      refine ea_cons (ee_call (p_columns_by_one H).fnc (ea_cons (ee_var 0 rfl (ea_cons (ee_var 3 rfl (ea_cons (ee_var 6 rfl (ea_nil ⟨rfl, f, m, c, rfl, hc, okm, ?_⟩))))))))
      exact ea_cons (ee_var 8 rfl (ea_nil ⟨_, .cons (.cons (.cons (.cons .nil))), Nat.le_of_ble_eq_true rfl, rfl⟩))
    · show LGrow K Hf H0 D ((((mvsM f c).take (j + 1)).map fun m => oneL m nm ⟨.tab nm, c, an⟩).map qlD) _ _
      rw [List.take_add_one, hm, List.map_append, List.map_append]
      exact I7
  · intro σ2 Hf3 H3 e1 e2 r2 I2
    obtain ⟨vs, k1, k2, k3, k4⟩ := I2
    rw [List.length_map, List.take_length] at k4
    exact go_ret (ex_var 2 (r2.ref rfl) (qr _ (.py (.list ((oneLs f nm ⟨.tab nm, c, an⟩).map qlD))) (upd Hf3 D (.lst vs)) H3 (k1.adopt k2 k3 hD) (rpy (dp_lst_new k4 k2)) φ))
end
end Fq
/-! FqP15: lots made, the model of the reach. -/
namespace Fq
open PySem PySem.Spec PyProof.Rows L2 Evl
open RZ
open PySem.W (EachIs AllAlike Sortable dataLe alike)
/-! keys of lots -/
def ky (l : QL) : Nat × Ans := (l.c, l.an)
theorem nks_rows_inj : ∀ {a b : List Row}, nks (a.map rowD) = nks (b.map rowD) → a = b
  | [], [], _ => rfl
  | [], _ :: _, h => by
    rw [List.map_nil, List.map_cons, nks, nks] at h
    cases h
  | _ :: _, [], h => by
    rw [List.map_nil, List.map_cons, nks, nks] at h
    cases h
  | x :: a, y :: b, h => by
    rw [List.map_cons, List.map_cons, nks, nks] at h
    injection h with h1 h2
    rw [nk_row_inj h1, nks_rows_inj h2]
theorem nk_rws_inj {a b : List Row} (h : nk (rwsD a) = nk (rwsD b)) : a = b := by
  unfold rwsD at h
  rw [nk, nk] at h
  injection h with h
  exact nks_rows_inj h
theorem nks_ans_inj : ∀ {a b : Ans}, nks (a.map rwsD) = nks (b.map rwsD) → a = b
  | [], [], _ => rfl
  | [], _ :: _, h => by
    rw [List.map_nil, List.map_cons, nks, nks] at h
    cases h
  | _ :: _, [], h => by
    rw [List.map_nil, List.map_cons, nks, nks] at h
    cases h
  | x :: a, y :: b, h => by
    rw [List.map_cons, List.map_cons, nks, nks] at h
    injection h with h1 h2
    rw [nk_rws_inj h1, nks_ans_inj h2]
theorem nk_ky {a b : QL} : nk (kyD a) = nk (kyD b) ↔ ky a = ky b := by
  constructor
  · intro h
    unfold kyD anD at h
    rw [nk, nk, nks, nks, nks, nks, nks, nk, nk, nk, nk] at h
    injection h with h
    injection h with h1 h
    injection h with h2 _
    injection h1 with h1
    injection h2 with h2
    have e1 : a.c = b.c := Int.ofNat.inj h1
    exact Prod.ext e1 (nks_ans_inj h2)
  · intro h
    have e1 : a.c = b.c := congrArg (·.1) h
    have e2 : a.an = b.an := congrArg (·.2) h
    unfold kyD
    rw [e1, e2]
theorem hashy_rows : ∀ rs : List Row, hashyAll (rs.map rowD) = true
  | [] => rfl
  | r :: rs => by
    rw [List.map_cons, hashyAll, (row_keyD r).hs, hashy_rows rs]
    rfl
theorem hashy_ans : ∀ a : Ans, hashyAll (a.map rwsD) = true
  | [] => rfl
  | r :: rs => by
    rw [List.map_cons, hashyAll, hashy_ans rs]
    unfold rwsD
    rw [hashy, hashy_rows]
    rfl
theorem nkd_row (r : Row) : (nk (rowD r)).depth ≤ 1 := by unfold rowD; rw [nk, NestedKey.depth, nks_depth]; omega
theorem nkd_rows : ∀ rs : List Row, NestedKey.depthAll (nks (rs.map rowD)) ≤ 1
  | [] => by rw [List.map_nil, nks, NestedKey.depthAll]; omega
  | r :: rs => by
    rw [List.map_cons, nks, NestedKey.depthAll]
    have := nkd_row r
    have := nkd_rows rs
    omega
theorem nkd_rws (r : List Row) : (nk (rwsD r)).depth ≤ 2 := by
  have := nkd_rows r
  unfold rwsD
  rw [nk, NestedKey.depth]
  omega
theorem nkd_ans : ∀ a : Ans, NestedKey.depthAll (nks (a.map rwsD)) ≤ 2
  | [] => by rw [List.map_nil, nks, NestedKey.depthAll]; omega
  | r :: rs => by
    rw [List.map_cons, nks, NestedKey.depthAll]
    have := nkd_ans rs
    have := nkd_rws r
    omega
theorem ky_keyD (l : QL) : KeyD (kyD l) := ⟨⟨_, rfl⟩, by unfold kyD anD; simp [hashy, hashyAll, hashy_ans], by
  have := nkd_ans l.an
  unfold kyD anD
  rw [nk, nks, nks, nks, nk, nk, NestedKey.depth, NestedKey.depthAll, NestedKey.depthAll, NestedKey.depthAll, NestedKey.depth, NestedKey.depth]
  omega⟩
/-! the dict of lots -/
def kvL (l : QL) : PyData × PyData := (kyD l, qlD l)
theorem kv_get (ls : List QL) (m : QL) : getD (ls.map kvL) (kyD m) = (ls.find? fun l => decide (ky l = ky m)).map qlD := by
  induction ls with
  | nil => rfl
  | cons l ls ih =>
    unfold getD at ih ⊢
    rw [List.map_cons, List.find?_cons, List.find?_cons]
    by_cases e : ky l = ky m
    · rw [decide_eq_true (show nk (kvL l).1 = nk (kyD m) from nk_ky.mpr e), decide_eq_true e]
      rfl
    · rw [decide_eq_false (show ¬ nk (kvL l).1 = nk (kyD m) from fun z => e (nk_ky.mp z)), decide_eq_false e]
      exact ih
theorem kv_find {ls : List QL} {m : QL} : (ls.find? fun l => decide (ky l = ky m)) = none ↔ ky m ∉ ls.map ky := by
  rw [List.find?_eq_none]
  constructor
  · intro h hr
    obtain ⟨p, hp, e⟩ := List.mem_map.mp hr
    exact h p hp (decide_eq_true e)
  · intro h p hp e
    exact h (List.mem_map.mpr ⟨p, hp, of_decide_eq_true e⟩)
def insL (ls : List QL) (m : QL) : List QL := if ky m ∈ ls.map ky then ls else ls ++ [m]
def repL (ls : List QL) (m : QL) : List QL := ls.map fun l => if ky l = ky m then m else l
theorem kv_new {ls : List QL} {m : QL} (h : ky m ∉ ls.map ky) : putD (ls.map kvL) (kyD m) (qlD m) = (ls ++ [m]).map kvL := by
  unfold putD
  rw [kv_get, kv_find.mpr h, if_neg (by decide), List.map_append]
  rfl
theorem kv_rep {ls : List QL} {m : QL} (h : ky m ∈ ls.map ky) : putD (ls.map kvL) (kyD m) (qlD m) = (repL ls m).map kvL := by
  have hs : (getD (ls.map kvL) (kyD m)).isSome = true := by
    rw [kv_get, Option.isSome_map]
    cases e : ls.find? fun l => decide (ky l = ky m) with
    | none => exact absurd h (kv_find.mp e)
    | some l => rfl
  unfold putD repL
  rw [if_pos hs, List.map_map, List.map_map]
  refine List.map_congr_left fun l _ => ?_
  show setD (kyD m) (qlD m) (kvL l) = kvL (if ky l = ky m then m else l)
  unfold setD
  by_cases e : ky l = ky m
  · rw [if_pos (show nk (kvL l).1 = nk (kyD m) from nk_ky.mpr e), if_pos e]
    have e1 : kyD l = kyD m := by
      have e1 : l.c = m.c := congrArg (·.1) e
      have e2 : l.an = m.an := congrArg (·.2) e
      unfold kyD
      rw [e1, e2]
    show (kyD l, qlD m) = (kyD m, qlD m)
    rw [e1]
  · rw [if_neg (show ¬ nk (kvL l).1 = nk (kyD m) from fun z => e (nk_ky.mp z)), if_neg e]
theorem repL_ky (ls : List QL) (m : QL) : (repL ls m).map ky = ls.map ky := by
  unfold repL
  rw [List.map_map]
  refine List.map_congr_left fun l _ => ?_
  show ky (if ky l = ky m then m else l) = ky l
  split
  · rename_i e
    exact e.symm
  · rfl
theorem repL_mem {ls : List QL} {m l : QL} (h : l ∈ repL ls m) : l ∈ ls ∨ l = m := by
  obtain ⟨x, hx, rfl⟩ := List.mem_map.mp h
  split
  · exact .inr rfl
  · exact .inl hx
theorem insL_nd {ls : List QL} {m : QL} (h : (ls.map ky).Nodup) : ((insL ls m).map ky).Nodup := by
  unfold insL
  split
  · exact h
  · rename_i e
    rw [List.map_append, List.nodup_append]
    exact ⟨h, by simp, fun a ha b hb z => e (by rw [← List.mem_singleton.mp hb, ← z]; exact ha)⟩
theorem insL_mem {ls : List QL} {m l : QL} (h : l ∈ insL ls m) : l ∈ ls ∨ l = m := by
  unfold insL at h
  split at h
  · exact .inl h
  · rcases List.mem_append.mp h with h | h
    · exact .inl h
    · exact .inr (List.mem_singleton.mp h)
theorem insL_len (ls : List QL) (m : QL) : (insL ls m).length ≤ ls.length + 1 := by
  unfold insL
  split
  · omega
  · rw [List.length_append]
    exact Nat.le_refl _
theorem insL_has (ls : List QL) (m : QL) : ky m ∈ (insL ls m).map ky := by
  unfold insL
  split
  · assumption
  · rw [List.map_append]
    exact List.mem_append_right _ (List.mem_singleton_self _)
theorem repL_len (ls : List QL) (m : QL) : (repL ls m).length = ls.length := List.length_map ..
/-! ranks, told from data -/
def numP : PyData → Str
  | .int n => strN n
  | _ => ""
def partP : PyData → Str
  | .int n => strN n
  | .str x => x
  | .tuple ks => (("(" : Str) ++ Txt.join " " (ks.map numP)) ++ (")" : Str)
  | _ => ""
def txP : PyData → Str
  | .str x => x
  | .tuple ds => (("(" : Str) ++ Txt.join " " (ds.map partP)) ++ (")" : Str)
  | _ => ""
def szP : PyData → Int
  | .str _ => 1
  | _ => 2
def keyQ : PyData → PyData
  | .tuple [_, q, _, _] => .tuple [.int (szP q), .str (txP q)]
  | _ => .none
theorem part_gv (g : Gv) : partP (gvD g) = gtM g := by
  cases g with
  | n k => rfl
  | v v => cases v <;> rfl
  | p l =>
    show (("(" : Str) ++ Txt.join " " ((l.map fun (k : Nat) => PyData.int (k : Int)).map numP)) ++ (")" : Str) = _
    rw [List.map_map]
    rfl
theorem keyQ_eq (l : QL) : keyQ (qlD l) = rkD l.q := by
  obtain ⟨q, c, an⟩ := l
  cases q with
  | tab nm => rfl
  | one m nm =>
    show PyData.tuple [.int 2, .str ((("(" : Str) ++ Txt.join " " ((mvL m ++ [PyData.str nm]).map partP)) ++ (")" : Str))] = .tuple [.int 2, .str ((("(" : Str) ++ Txt.join " " ([wordOf m] ++ (gvs m).map gtM ++ [nm])) ++ (")" : Str))]
    have e : (mvL m ++ [PyData.str nm]).map partP = [wordOf m] ++ (gvs m).map gtM ++ [nm] := by
      rw [mvL_drop, List.map_append, List.map_cons, List.map_map]
      have e2 : (gvs m).map (partP ∘ gvD) = (gvs m).map gtM := List.map_congr_left fun g _ => part_gv g
      rw [e2]
      rfl
    rw [e]
theorem rk_alike (a b : Qn) : alike (rkD a) (rkD b) = true := by
  unfold rkD
  simp [PySem.W.alike, PySem.W.alikeAll]
theorem rk_depth (a : Qn) : (rkD a).depth ≤ 1 := by
  unfold rkD
  simp [PyData.depth, PyData.depthAll]
/-! how many lots -/
theorem sub_flat {α β : Type} (f : α → List β) {l m : List α} (h : l.Sublist m) : (l.flatMap f).length ≤ (m.flatMap f).length := by
  induction h with
  | slnil => exact Nat.le_refl _
  | cons a _ ih =>
    rw [List.flatMap_cons, List.length_append]
    omega
  | cons_cons a _ ih =>
    rw [List.flatMap_cons, List.flatMap_cons, List.length_append, List.length_append]
    omega
theorem mvsM_60 {f : Fd} (ok : OkF f) {c : Nat} (hc : c ≤ 3) : (mvsM f c).length ≤ 60 := by
  refine Nat.le_trans (sub_flat (movesM f.nm c) ok.ds) ?_
  have z : ∀ x : Str, x ∉ oneS → movesM f.nm c x = [] := fun x hx => by
    unfold movesM
    rw [if_neg fun e => hx (by rw [e]; simp [oneS]), if_neg fun e => hx (by rw [e]; simp [oneS]), if_neg fun e => hx (by rw [e]; simp [oneS]), if_neg fun e => hx (by rw [e]; simp [oneS])]
  have h1 := movesM_len hc ok.nz "below"
  have h2 := movesM_len hc ok.nz "same"
  have h3 := movesM_len hc ok.nz "take"
  have h4 := movesM_len hc ok.nz "value"
  unfold deedsS
  simp only [List.flatMap_cons, List.flatMap_nil, List.length_append, List.length_nil]
  rw [z "join" (by decide +kernel), z "less" (by decide +kernel), z "union" (by decide +kernel), z "with" (by decide +kernel), z "without" (by decide +kernel), List.length_nil]
  omega
/-- the name of a name's lot -/
def nmOf (l : QL) : Str := match l.q with
  | .tab nm => nm
  | .one _ nm => nm
def IsTab (l : QL) : Prop := l.q = .tab (nmOf l)
/-- what may be made of lots by one deed more -/
def made2 (f : Fd) (ls : List QL) : List QL := ls.flatMap fun l => oneLs f (nmOf l) l
theorem made2_len {f : Fd} (ok : OkF f) {ls : List QL} (h : ∀ l ∈ ls, OkQL f l) (hz : ls.length ≤ 3) : (made2 f ls).length ≤ 180 := by
  have := flat_len (fun l => oneLs f (nmOf l) l) 60 ls fun l hl => by
    show ((mvsM f l.c).map _).length ≤ 60
    rw [List.length_map]
    exact mvsM_60 ok (h l hl).hi
  unfold made2
  omega
theorem made2_ok {f : Fd} (ok : OkF f) {ls : List QL} (h : ∀ l ∈ ls, OkQL f l ∧ IsTab l) : ∀ m ∈ made2 f ls, OkQL f m := by
  intro m hm
  obtain ⟨l, hl, hm⟩ := List.mem_flatMap.mp hm
  obtain ⟨mv, hmv, rfl⟩ := List.mem_map.mp hm
  obtain ⟨x, _, hx⟩ := List.mem_flatMap.mp hmv
  obtain ⟨okl, tb⟩ := h l hl
  have hq := okl.q
  unfold IsTab at tb
  rw [tb] at hq
  exact oneL_ok okl hq (movesM_ok hx)
section
variable {P : Program} {w : World} {K : PySem.W.Frag} {mg : Str → Option Value} {base : Heap}
theorem bb_setLc2O {i : XI} {ρ : En} {elt tg iter tg1 iter1 : Expr} {ifs ifs1 : List Expr} {scope : Scope} {wi wi1 : TI} {g g1 : TG} {x : Str} {py spos pos : Pos} {rest : List Stmt} {Ψ' : En → Prop} {Φr : Dt → Prop} (j : Nat) (own : List (Str × Nat)) (vs1 : List Nat) (hi : ∀ X, XOk i X → PI X tg iter wi) (hg : ∀ X, XOk (i.blk scope) X → PG X tg g) (hi1 : ∀ X, XOk (i.blk scope) X → PI X tg1 iter1 wi1) (hg1 : ∀ X, XOk (i.blk scope) X → PG X tg1 g1)
    (h : Lc2Ask i wi g wi1 g1 ρ scope elt ifs ifs1 own vs1 fun zs => BB i rest (ρ.set j (some (ldD i.K zs))) Ψ' Φr)
    (ok : blkC i.N i.sc scope own = true := by kernel_rfl) (hv : ∀ i ∈ vs1, i ∈ own.map (·.2) := by decide) (hN : i.N[j]? = some x := by rfl) (hy : i.sc.names.lookup x = some .local := by rfl) (hk : i.sc.kind = .function := by rfl) (hl : (py.line == pos.line) = true := by rfl)
    (ha : (scope.names.any fun (n, k) => n == x && (k == .local || k == .cell)) = false := by decide +kernel) (hll : spos.line = pos.line := by rfl) (hs : ∀ env x, foldedSetIterable iter env x = pure x := by intro _ _; rfl) (hs1 : ∀ env x, foldedSetIterable iter1 env x = pure x := by intro _ _; rfl) : BB i (.Assign [.Name x py] (.ListComp elt [⟨tg, iter, ifs, 0⟩, ⟨tg1, iter1, ifs1, 0⟩] scope pos) spos :: rest) ρ Ψ' Φr := fun σ Hf H D r x qn qr =>
  go_setLc2 j own vs1 hi hg hi1 hg1 (lc2_run (Φ := fun d => BB i rest (ρ.set j (some d)) Ψ' Φr) own vs1 h r x fun v d Hf1 H1 t1 r1 φ => φ (σ.set j (some v)) Hf1 H1 D ((r.mono t1.f).set r1) t1.i (fun σ' ρ' Hf' H' t2 r2 ψ => qn σ' ρ' Hf' H' (t1.trans t2) r2 ψ) fun v d Hf' H' t2 r2 φ2 => qr v d Hf' H' (t1.trans t2) r2 φ2) ok hv hN hy hk hl ha hll hs hs1
/-! made_lots -/
def S_made1 : Sg := fun ds Φ => ∃ (f : Fd) (x : Dt), ds = [fdD f, .py (.int 1), x] ∧ OkF f ∧ Φ (.py (.list ((f.bk.headD []).map fun t => qlD (tabL f t))))
theorem p_made1 (H : Hd K mg) (O : OneOk w K) : Pf P w K mg base "made_lots" 8 ["field", "size", "lots"] 3 S_made1 := pf_of H q_made_lots sc_made_lots rfl fun ds Φ hl hS => by
  obtain ⟨f, x, rfl, ok, φ⟩ := hS
  obtain ⟨b0, hb0, okb0, eh⟩ := ok.bk.fst
  have h3 := okb0.hi
  refine bb_if (et_cmp (ee_var 1 rfl (ee_int (od_eq (pl_int _) (pl_int _) ⟨true, by rw [eqv_int, decide_eq_true rfl], ?_⟩))) (hm := rfl))
  refine iteT (bb_ret (ee_unO (ee_lcO [("name", 7)] wx_tup (gx_name 7) (es_tup (ee_call (p_names_of H).fnc (ea_cons (ee_var 0 rfl (ea_nil ⟨rfl, f, rfl, ok, _, rfl, Tb, fun t => .py (.str t.1), f.bk.headD [], fun _ => true, fun t => qlD (tabL f t), by rw [List.map_map, List.map_map]; rfl, by rw [eh]; omega, fun t ht => ?_, ?_⟩))))))))
  · exact ⟨_, gd_name 7, ei_nil rfl, fun _ => ee_call (p_lot_of H O).fnc (ea_cons (ee_var 0 rfl (ea_cons (ee_var 7 rfl (ea_nil ⟨rfl, f, t, rfl, ok, ht, rfl⟩)))))⟩
  · rw [filter_yes]
    exact ⟨_, rfl, φ⟩
def lsD (ls : List QL) : PyData := .tuple (ls.map qlD)
def S_made2 : Sg := fun ds Φ => ∃ (f : Fd) (ls : List QL), ds = [fdD f, .py (.int 2), .py (lsD ls)] ∧ OkF f ∧ (∀ l ∈ ls, OkQL f l ∧ IsTab l) ∧ ls.length ≤ 3 ∧ Φ (.py (.list ((made2 f ls).map qlD)))
theorem p_made2 (H : Hd K mg) : Pf P w K mg base "made_lots" 9 ["field", "size", "lots"] 3 S_made2 := pf_of H q_made_lots sc_made_lots rfl fun ds Φ hl hS => by
  obtain ⟨f, ls, rfl, ok, okl, hz, φ⟩ := hS
  have hlen := made2_len ok (fun l hl => (okl l hl).1) hz
  refine bb_if (et_cmp (ee_var 1 rfl (ee_int (od_eq (pl_int _) (pl_int _) ⟨false, by rw [eqv_int, decide_eq_false (by decide)], ?_⟩))) (hm := rfl))
  refine iteF (bb_nil (bb_setLc2O 3 [("lot", 4), ("made", 6)] [6] wx_tup (gx_name 4) wx_list (gx_name 6) (es_tup (ee_var 2 rfl ⟨_, rfl, QL, fun l => .py (qlD l), ls, fun _ => true, fun l => (oneLs f (nmOf l) l).map qlD, by rw [List.map_map]; rfl, ?_, fun l hl => ?_, ?_⟩))))
  · rw [flat_all, ← List.map_flatMap, List.length_map]
    show (made2 f ls).length ≤ 40000
    omega
  · obtain ⟨ok1, tb⟩ := okl l hl
    have tb : l.q = .tab (nmOf l) := tb
    have es : szQ l.q = 1 := by rw [tb]; rfl
    refine ⟨_, gd_name 4, ei_one (et_cmp (ee_op (ee_ixT (ee_var 4 rfl (ee_int ⟨_, 0, .int (szQ l.q), rfl, rfl, ixT0, ee_int (od_add (ee_var 1 rfl (od_eq (pl_int _) (pl_int _) ⟨true, ?_, rfl⟩)))⟩)))) (hm := rfl)), fun _ => es_list (ee_call (p_lots_by_one H).fnc (ea_cons (ee_var 0 rfl (ea_cons (ee_var 4 rfl (ea_nil ⟨rfl, f, l, nmOf l, rfl, ok, ok1, tb, _, rfl, QL, fun m => .py (qlD m), oneLs f (nmOf l) l, fun _ => true, qlD, by rw [List.map_map]; rfl, by rw [filter_yes], fun m hm => ?_⟩))))))⟩
    · rw [eqv_int, es]
      rfl
    · exact ⟨_, gd_name 6, ei_nil rfl, fun _ => ee_var 6 rfl rfl⟩
  · rw [flat_all, ← List.map_flatMap]
    refine bb_forJ (Ψi := fun its => its = ls.map fun l => .py (qlD l)) [4] wx_tup (gx_name 4) (es_tup (ee_var 2 rfl ⟨_, rfl, by rw [List.map_map]; rfl⟩)) fun its eits => ?_
    subst eits
    refine ⟨fun _ => wipeE _ [4, 5], sub_wipe _ [4, 5], fun j d hd => ?_, ?_⟩
    · rw [List.getElem?_map] at hd
      obtain ⟨l, hl, rfl⟩ := Option.map_eq_some_iff.mp hd
      have es : szQ l.q = 1 := by
        have tb : l.q = .tab (nmOf l) := (okl l (List.mem_of_getElem? hl)).2
        rw [tb]
        rfl
      refine ⟨_, gd_name 4, bb_forJ (Ψi := fun its => its = ls.map fun l => .py (qlD l)) [5] wx_tup (gx_name 5) (es_tup (ee_var 2 rfl ⟨_, rfl, by rw [List.map_map]; rfl⟩)) fun its eits => ?_⟩
      subst eits
      refine ⟨fun _ => wipeE _ [5], sub_wipe _ [5], fun j2 d2 hd2 => ?_, ?_⟩
      · rw [List.getElem?_map] at hd2
        obtain ⟨l2, hl2, rfl⟩ := Option.map_eq_some_iff.mp hd2
        have es2 : szQ l2.q = 1 := by
          have tb : l2.q = .tab (nmOf l2) := (okl l2 (List.mem_of_getElem? hl2)).2
          rw [tb]
          rfl
        refine ⟨_, gd_name 5, bb_if (et_cmp (ee_op (ee_op (ee_ixT (ee_var 4 rfl (ee_int ⟨_, 0, .int (szQ l.q), rfl, rfl, ixT0, ?_⟩))))) (hm := rfl))⟩
        refine ee_ixT (ee_var 5 rfl (ee_int ⟨_, 0, .int (szQ l2.q), rfl, rfl, ixT0, od_add (ee_int (od_add (ee_var 1 rfl (od_eq (pl_int _) (pl_int _) ⟨false, ?_, ?_⟩))))⟩))
        · rw [eqv_int, es, es2]
          rfl
        · exact iteF (bb_nil (bb_nil (sub_set (by decide))))
      · exact bb_nil (sub_back (ρ := (st0 N_made_lots [fdD f, .py (.int 2), .py (lsD ls)]).set 3 (some (ldD K ((ls.flatMap fun l => oneLs f (nmOf l) l).map qlD)))) (vs := [4, 5]) (js := [4]) (us := [5]) (ds := [qlD l]) (by decide) (by decide))
    · exact bb_ret (ee_unO (ee_var 3 rfl ⟨_, rfl, φ⟩))
end
end Fq
/-! FqP16: the reach gone further by one size. -/
namespace Fq
open PySem PySem.Spec PyProof.Rows L2 Evl
open RZ
open PySem.W (EachIs AllAlike Sortable dataLe alike)
theorem fold_kv (ls : List QL) : ∀ acc : List QL, ((acc ++ ls).map ky).Nodup → ls.foldl (fun a l => putD a (kyD l) (qlD l)) (acc.map kvL) = (acc ++ ls).map kvL := by
  induction ls with
  | nil => intro acc _; rw [List.append_nil]; rfl
  | cons l ls ih =>
    intro acc nd
    have nd2 : ((acc ++ [l] ++ ls).map ky).Nodup := by rw [List.append_assoc]; exact nd
    have hl : ky l ∉ acc.map ky := fun h => by
      rw [List.map_append, List.nodup_append] at nd
      exact nd.2.2 _ h _ (List.mem_map.mpr ⟨l, List.mem_cons_self .., rfl⟩) rfl
    rw [List.foldl_cons, kv_new hl, ih _ nd2, List.append_assoc]
    rfl
theorem de_vals {K : PySem.W.Frag} {H : Hp} {es : NE} {kvs : List (PyData × PyData)} (h : DE K H es kvs) : DpAll K H (es.map fun x => x.2.2) (kvs.map (·.2)) := by
  induction h with
  | nil => exact .nil
  | cons r _ ih => exact .cons r.2.2.2 ih
theorem RpE.re {K : PySem.W.Frag} {H : Hp} {σ : L2.St} {ρ : En} {j : Nat} {v : V} {d : Dt} (h : RpE K H σ ρ) (hj : σ[j]? = some (some v)) (r : Rp K H v d) : RpE K H σ (ρ.set j (some d)) := by
  have e : σ.set j (some v) = σ := by
    apply List.ext_getElem?
    intro k
    by_cases e : j = k
    · subst e
      rw [List.getElem?_set_self', hj]
      rfl
    · rw [List.getElem?_set_ne e]
  have := h.set (j := j) r
  rw [e] at this
  exact this
section
variable {i : XI} {ρ : En} {Φ : Dt → Prop} {o : Expr} {p pos apos cpos : Pos}
theorem EE.run {e : Expr} {σ : L2.St} {Hf H : Hp} {Q : VK} (h : EE i e ρ Φ) (r : RpE i.K Hf σ ρ) (x : Ex Hf H) (q : ∀ v d Hf' H', Tr Hf H Hf' H' → Rp i.K Hf' v d → Φ d → Q v H') : EX i e σ H Q := h σ Hf H Q r x q
theorem cr_listV {X : Cx} {P : Program} {w : World} (ep : X.prog = P) (ew : X.w = w) (hc : X.calm = true) : CallR X (.type "list") fun vs H2 Q2 => ∃ v d es, vs = [V.ref v] ∧ H2 v = some (valsO v d) ∧ H2 d = some (ndO P w d es) ∧ ∀ p, H2 p = none → Q2 (.ref p) (upd H2 p (.lst (es.map fun x => x.2.2))) := by
  subst ep ew
  intro pins s σ H vs us Q I r h
  obtain ⟨v, d, es, rfl, h1, h2, q⟩ := h
  rw [Vals.ref1 r]
  exact nd_listV I hc h2 (I.hok v _ h1).1 q
theorem ee_dvals (hm : i.mg "list" = none) (h : EE i o ρ fun x => ∃ kvs, x = dicD i.P i.w i.K kvs ∧ Φ (.py (.list (kvs.map (·.2))))) (hg : GlS i.sc "list" := by rfl) (hbase : ∀ env, attributeBase o "values" env (eval o env) = eval o env := by intro _; rfl) (hline : (apos.endLine == cpos.line) = true := by rfl)
    (he : ∀ env, starEach [.Call (.Attribute o "values" apos) [] [] cpos] env = (false, eval (.Call (.Attribute o "values" apos) [] [] cpos) env) :: starEach [] env := by intro _; rfl) (hpl : ∀ env, (backTo pos (starEach [] env)).any (·.1) = false := by intro _; rfl) : EE i (.Call (.Name "list" p) [.Call (.Attribute o "values" apos) [] [] cpos] [] pos) ρ Φ := fun σ Hf H Q hρ ex q =>
  ex_callTy (T := "list") (r := fun vs H2 Q2 => ∃ v d es, vs = [V.ref v] ∧ H2 v = some (valsO v d) ∧ H2 d = some (ndO i.P i.w d es) ∧ ∀ p, H2 p = none → Q2 (.ref p) (upd H2 p (.lst (es.map fun x => x.2.2)))) (fun X ok => cr_listV ok.prog ok.w ok.calm) hg hm (by decide +kernel) (ax_cons (ex_ndvals (h σ Hf H _ hρ ex fun v x Hf1 H1 t1 r1 ⟨kvs, e1, φ⟩ => by
    subst e1
    obtain ⟨a, es, rfl, h1, de⟩ := r1
    refine ⟨a, es, rfl, t1.i _ _ h1, fun b hb => ax_nil ⟨b, a, es, rfl, upd_same, ?_, fun l hl => ?_⟩⟩
    · rw [upd_ne (ne_of_none (t1.i _ _ h1) hb)]
      exact t1.i _ _ h1
    · have t2 := t1.trans (.drop (o := valsO b a) t1.i hb)
      exact q _ _ _ _ (t2.trans (.new t2.i hl)) (rpy (dp_lst_new (de_vals de) (fresh_back t2.i hl))) φ) hbase hline) he) (by decide) (by decide) he hpl
/-- len of a dict of ours -/
theorem cr_lenD {X : Cx} {P : Program} {w : World} (ep : X.prog = P) (ew : X.w = w) : CallR X (.builtin "len") fun vs H2 Q2 => ∃ d es, vs = [V.ref d] ∧ H2 d = some (ndO P w d es) ∧ Q2 (.int es.length) H2 := by
  subst ep ew
  intro pins s σ H vs us Q I r h
  obtain ⟨d, es, rfl, h1, q⟩ := h
  rw [Vals.ref1 r]
  exact nd_len I h1 q
end
/-- what may be left of lots, one of each key -/
structure Good (src ls : List QL) (n : Nat) : Prop where
  sub : ∀ l ∈ ls, l ∈ src
  nd : (ls.map ky).Nodup
  len : ls.length ≤ n
section
variable {P : Program} {w : World} {K : PySem.W.Frag} {mg : Str → Option Value} {base : Heap}
/-- the two steps that are made -/
def Step (f : Fd) (n : Nat) (init made : List QL) : Prop := (n = 0 ∧ init = [] ∧ made = (f.bk.headD []).map (tabL f)) ∨ (n = 1 ∧ (∀ l ∈ init, OkQL f l ∧ IsTab l) ∧ init.length ≤ 3 ∧ (init.map ky).Nodup ∧ made = made2 f init)
theorem Step.facts {f : Fd} (ok : OkF f) {n : Nat} {init made : List QL} (h : Step f n init made) : (∀ l ∈ init, OkQL f l) ∧ (∀ l ∈ made, OkQL f l) ∧ init.length ≤ 3 ∧ made.length ≤ 180 ∧ (init.map ky).Nodup := by
  rcases h with ⟨rfl, rfl, rfl⟩ | ⟨rfl, h1, h2, h3, rfl⟩
  · obtain ⟨b0, hb0, okb0, eh⟩ := ok.bk.fst
    refine ⟨(fun l hl => nomatch hl), fun l hl => ?_, by decide, ?_, List.nodup_nil⟩
    · obtain ⟨t, ht, rfl⟩ := List.mem_map.mp hl
      exact tabL_ok ok ht
    · rw [List.length_map, eh]
      have := okb0.hi
      omega
  · exact ⟨fun l hl => (h1 l hl).1, made2_ok ok h1, h2, made2_len ok (fun l hl => (h1 l hl).1) h2, h3⟩
def S_further : Sg := fun ds Φ => ∃ (f : Fd) (n : Nat) (init made : List QL), ds = [fdD f, .py (.int (n : Int)), .py (lsD init)] ∧ OkF f ∧ Step f n init made ∧ ∀ ls, Good (init ++ made) ls (init.length + made.length) → Φ (.py (lsD ls))
theorem p_further (H : Hd K mg) (O : OneOk w K) : Pf P w K mg base "further" 10 ["field", "size", "lots"] 3 S_further := pf_of H q_further sc_further rfl fun ds Φ hl hS => by
  obtain ⟨f, n, init, made, rfl, ok, hst, φ⟩ := hS
  obtain ⟨oki, okm, hi3, hm180, ndi⟩ := hst.facts ok
  intro σ Hf H0 E hρ ex qn qr
  refine go_setDc 3 (dsN P w K) [("lot", 6)] wx_tup (gx_name 6) (dcN_run0 (Φk := fun kvs => kvs = init.map kvL) [("lot", 6)] (es_tup (ee_var 2 rfl ⟨_, rfl, QL, fun l => .py (qlD l), init, kyD, qlD, by rw [List.map_map]; rfl, by omega, fun l hl => ⟨ky_keyD l, _, gd_name 6, ?_, ee_var 6 rfl rfl⟩, ?_⟩)) hρ ex fun D kvs Hf1 H1 Hf2 H2 es t1 hD t2 d1 d2 d3 ek => ?_)
  · exact ee_call (p_key_of H).fnc (ea_cons (ee_var 6 rfl (ea_nil ⟨rfl, l, rfl, rfl⟩)))
  · exact fold_kv init [] (by rw [List.nil_append]; exact ndi)
  subst ek
  have ρ1 := (hρ.mono (t1.f.trans t2.f)).set (j := 3) (v := .ref D) (d := refDt D) rfl
  refine gm_for [4] wx_list (gx_name 4) ρ1 t2.i (es_list (Ψ := fun its => its = made.map fun l => .py (qlD l)) ?_) fun its Hf3 H3 t3 eits => ?_
  · rcases hst with ⟨rfl, rfl, rfl⟩ | ⟨rfl, h1, h2, h3, rfl⟩
    · exact ee_call (p_made1 H O).fnc (ea_cons (ee_var 0 rfl (ea_cons (ee_op (ee_var 1 rfl (ee_int (od_add (ea_cons (ee_var 2 rfl (ea_nil ⟨rfl, f, _, rfl, ok, _, rfl, by rw [List.map_map, List.map_map]; rfl⟩))))))))))
    · exact ee_call (p_made2 H).fnc (ea_cons (ee_var 0 rfl (ea_cons (ee_op (ee_var 1 rfl (ee_int (od_add (ea_cons (ee_var 2 rfl (ea_nil ⟨rfl, f, init, rfl, ok, h1, h2, _, rfl, by rw [List.map_map]; rfl⟩))))))))))
  subst eits
  refine ⟨wipeE _ [4, 5], fun j Hf H => ∃ kept, Good (init ++ made) kept (init.length + j) ∧ DGrow P w K Hf1 H1 D (kept.map kvL) Hf H, (ρ1.mono t3.f).less _, ⟨init, ⟨fun l hl => List.mem_append_left _ hl, ndi, Nat.le_refl _⟩, DGrow.step ⟨es, t2, d1, d2, d3⟩ t3⟩, fun j _ _ _ _ ⟨kept, g, h⟩ t => ⟨kept, g, h.step t⟩, fun j d hd => ?_, ?_⟩
  · rw [List.getElem?_map] at hd
    obtain ⟨m, hm, rfl⟩ := Option.map_eq_some_iff.mp hd
    have hmm : m ∈ made := List.mem_of_getElem? hm
    have okmm := okm m hmm
    have oksrc : ∀ l ∈ init ++ made, OkQL f l := fun l hl => by
      rcases List.mem_append.mp hl with h | h
      · exact oki l h
      · exact okm l h
    refine ⟨_, gd_name 4, fun σ2 Hf4 H4 e1 e2 r2 I2 => ?_⟩
    obtain ⟨kept, hg, es4, u1, u2, u3, u4⟩ := I2
    obtain ⟨vm, hvm, rm⟩ := r2.get 4 (.py (qlD m)) rfl
    have rm : Dp K Hf4 vm (qlD m) := rm
    have klen : kept.length ≤ 183 := by
      have := hg.len
      have := (List.getElem?_eq_some_iff.mp hm).1
      omega
    -- behind the setting of known
    have tail : ∀ (kn : QL) (y : V) (Hf6 H6 : Hp) (kept' : List QL), Ex Hf4 Hf6 → Dp K Hf6 y (qlD kn) → kn ∈ init ++ made → Good (init ++ made) kept' (init.length + (j + 1)) → ky m ∈ kept'.map ky → kept'.length ≤ 184 → DGrow P w K Hf1 H1 D (kept'.map kvL) Hf6 H6 →
        ∀ D' : Ends, (∀ σ' H', Nxt (iOf P w K mg base N_further d_further.scope 9) Hf3 (wipeE ((st0 N_further [fdD f, .py (.int (n : Int)), .py (lsD init)]).set 3 (some (refDt D))) [4, 5]) (fun Hf H => ∃ kept, Good (init ++ made) kept (init.length + (j + 1)) ∧ DGrow P w K Hf1 H1 D (kept.map kvL) Hf H) σ' H' → D'.nx σ' H') →
        GO (iOf P w K mg base N_further d_further.scope 9) ((match d_further.body.getD 1 (.Pass ⟨0, 0, 0, 0⟩) with | .For _ _ b _ _ => b | _ => []).drop 1) D' (σ2.set 5 (some y)) H6 := by
      intro kn y Hf6 H6 kept' f46 ry hkn hg' hmk hl' hI D' hD'
      have okn := oksrc kn hkn
      have r6 := (r2.mono f46).set (j := 5) (v := y) (d := .py (qlD kn)) (rpy ry)
      -- the test of the length, then the turn's end
      have tail2 : ∀ (σ7 : L2.St) (Hf7 H7 : Hp) (kept2 : List QL), Ex Hf6 Hf7 → RpE K Hf7 σ7 ((((wipeE ((st0 N_further [fdD f, .py (.int (n : Int)), .py (lsD init)]).set 3 (some (refDt D))) [4, 5]).set 4 (some (.py (qlD m)))).set 5 (some (.py (qlD kn))))) → Good (init ++ made) kept2 (init.length + (j + 1)) → kept2.length ≤ 184 → DGrow P w K Hf1 H1 D (kept2.map kvL) Hf7 H7 →
          GO (iOf P w K mg base N_further d_further.scope 9) ((match d_further.body.getD 1 (.Pass ⟨0, 0, 0, 0⟩) with | .For _ _ b _ _ => b | _ => []).drop 2) D' σ7 H7 := by
        intro σ7 Hf7 H7 kept2 f67 r7 hg7 hl7 hI7
        obtain ⟨es7, v1, v2, v3, v4⟩ := id hI7
        have l7 := de_len v4
        rw [List.length_map] at l7
        refine go_if (tx_cmp (fun _ _ => op_gt) rfl (ex_callB (id := "len") (r := fun vs H2 Q2 => ∃ d es, vs = [V.ref d] ∧ H2 d = some (ndO P w d es) ∧ Q2 (.int es.length) H2) (fun X ok => cr_lenD ok.prog ok.w) rfl (fr_len H) PySem.boot_len (ax_cons (ex_var 3 (r7.ref rfl) (ax_nil ⟨D, es7, rfl, v3, ?_⟩)) (fun _ => rfl))))
        obtain ⟨tl, hl9⟩ := gi_LOTS H
        refine ex_glob (v := .int 300) rfl hl9 ⟨tl, rfl⟩ ⟨_, _, rfl, rfl, _, rfl, ?_⟩
        rw [decide_eq_false (show ¬ (300 : Int) < (es7.length : Int) by omega)]
        refine iteF (go_nil (go_nil (hD' _ _ ⟨Hf7, (e1.trans f46).trans f67, v1.i, r7.sub ?_, kept2, hg7, hI7⟩)))
        exact sub_back (ρ := (st0 N_further [fdD f, .py (.int (n : Int)), .py (lsD init)]).set 3 (some (refDt D))) (vs := [4, 5]) (js := [4, 5]) (us := []) (ds := [qlD m, qlD kn]) (by decide) (by decide)
      refine gm_if (Φ := fun _ => True) r6 hI.choose_spec.1.i (et_w (ew_and (et_cmp (ee_ixT (ee_var 5 rfl (ee_int ⟨_, 0, .int (szQ kn.q), rfl, rfl, ixT0, ee_op (ee_var 1 rfl (ee_int (od_add (od_eq (pl_int _) (pl_int _) ⟨_, rfl, ?_⟩))))⟩))) (hm := rfl)))) fun b Hf7 H7 t7 _ => ?_
      · split
        · refine ew_and1 (et_cmp (ee_call (p_rank H O).fnc (ea_cons (ee_ixT (ee_var 4 rfl (ee_int ⟨_, 1, qnD m.q, rfl, rfl, atI_nat (j := 1) rfl, ea_nil ⟨rfl, f, m.q, rfl, ok, okmm.q, ?_⟩⟩))))) (hm := rfl))
          refine ee_call (p_rank H O).fnc (ea_cons (ee_ixT (ee_var 5 rfl (ee_int ⟨_, 1, qnD kn.q, rfl, rfl, atI_nat (j := 1) rfl, ea_nil ⟨rfl, f, kn.q, rfl, ok, okn.q, od_ltA (rk_alike _ _) (fun z => nomatch z) (Nat.le_trans (rk_depth _) (by decide)) ⟨_, rfl, trivial⟩⟩⟩))))
        · trivial
      · have r7 := r6.mono t7.f
        cases b with
        | false => exact iteF (go_nil (tail2 _ Hf7 H7 kept' t7.f r7 hg' hl' (hI.step t7)))
        | true =>
          refine iteT ?_
          obtain ⟨es7, v1, v2, v3, v4⟩ := hI.step t7
          obtain ⟨vm7, hvm7, rm7⟩ := r7.get 4 (.py (qlD m)) rfl
          have rm7 : Dp K Hf7 vm7 (qlD m) := rm7
          refine go_ndput (ex_var 4 hvm7 (ex_var 3 (r7.ref rfl) (EE.run (Φ := fun d => d = .py (kyD m)) (ee_call (p_key_of H).fnc (ea_cons (ee_var 4 rfl (ea_nil ⟨rfl, m, rfl, rfl⟩)))) r7 v1.i fun vk dk Hf8 H8 t8 rk ek => ?_)))
          subst ek
          have rk : Dp K Hf8 vk (kyD m) := rk
          obtain ⟨bk, ys, rfl, _, _⟩ := dp_tup rk
          have v4' := de_mono t8.f v4
          have l7 := de_len v4
          rw [List.length_map] at l7
          obtain ⟨ex9, dg9⟩ := DGrow.put (P := P) (w := w) (v1.trans t8) (t8.n D _ v3 v2) (t8.h D _ v3) v4' hD (ky_keyD m) rk (dp_mono t8.f rm7)
          rw [kv_rep hmk] at dg9
          refine ⟨D, es7, nk (kyD m), bk, rfl, rfl, t8.h D _ v3, de_keys (de_mono t8.i v4'), de_key (dp_mono t8.i rk) (ky_keyD m), sz_lt (by omega), go_nil (tail2 _ Hf8 _ (repL kept' m) (t7.f.trans t8.f) (r7.mono t8.f) ⟨fun l hl => ?_, ?_, ?_⟩ (by rw [repL_len]; exact hl') dg9)⟩
          · rcases repL_mem hl with h | h
            · exact hg'.sub l h
            · rw [h]
              exact List.mem_append_right _ hmm
          · rw [repL_ky]
            exact hg'.nd
          · rw [repL_len]
            exact hg'.len
    have hsd : ∀ X, XOk (iOf P w K mg base N_further d_further.scope 9) X → MtR X "dict.setdefault" (rNdSetd P w K) := fun X ok => by
      have e1 : X.prog = P := ok.prog
      have e2 : X.w = w := ok.w
      have e3 : X.K = K := ok.K
      rw [← e1, ← e2, ← e3]
      exact mt_ndSetd (by have := ok.room.units; omega)
    refine go_set 5 (ex_ndm F.slot_dict_setdefault F.type_dict_setdefault hsd (ex_var 3 (r2.ref rfl) ⟨⟨D, es4, rfl, u3⟩, ax_cons (EE.run (Φ := fun d => d = .py (kyD m)) (ee_call (p_key_of H).fnc (ea_cons (ee_var 4 rfl (ea_nil ⟨rfl, m, rfl, rfl⟩)))) r2 e2 fun vk dk Hf5 H5 t5 rk ek => ax_cons (ex_var 4 hvm (ax_nil ?_)))⟩))
    subst ek
    have rk : Dp K Hf5 vk (kyD m) := rk
    obtain ⟨bk, ys, rfl, _, _⟩ := dp_tup rk
    have u4' := de_mono t5.f u4
    have l5 := de_len u4
    rw [List.length_map] at l5
    refine ⟨D, es4, nk (kyD m), bk, vm, rfl, rfl, t5.h D _ u3, de_keys (de_mono t5.i u4'), de_key (dp_mono t5.i rk) (ky_keyD m), sz_lt (by omega), fun y hy => ?_, fun hn => ?_⟩
    · rcases de_get u4' (kyD m) with ⟨_, z⟩ | ⟨v0, y0, z1, z2, z3⟩
      · rw [hy] at z
        cases z
      · rw [hy] at z2
        obtain rfl := Option.some.inj z2
        rw [kv_get] at z1
        obtain ⟨l0, hl0, rfl⟩ := Option.map_eq_some_iff.mp z1
        have hmem : l0 ∈ kept := List.mem_of_find?_eq_some hl0
        have hky : ky l0 = ky m := of_decide_eq_true (List.find?_some (p := fun l : QL => decide (ky l = ky m)) hl0)
        exact tail l0 y Hf5 H5 kept t5.f z3 (hg.sub l0 hmem) ⟨hg.sub, hg.nd, by have := hg.len; omega⟩ (List.mem_map.mpr ⟨l0, hmem, hky⟩) (by omega) (DGrow.step ⟨es4, u1, u2, u3, u4⟩ t5) _ fun _ _ h => h
    · have hnm : ky m ∉ kept.map ky := fun h => by
        rcases de_get u4' (kyD m) with ⟨z, _⟩ | ⟨v0, y0, z1, z2, z3⟩
        · rw [kv_get, Option.map_eq_none_iff] at z
          exact kv_find.mp z h
        · rw [hn] at z2
          cases z2
      obtain ⟨ex9, dg9⟩ := DGrow.put (P := P) (w := w) (u1.trans t5) (t5.n D _ u3 u2) (t5.h D _ u3) u4' hD (ky_keyD m) rk (dp_mono t5.f rm)
      rw [kv_new hnm] at dg9
      refine tail m vm Hf5 _ (kept ++ [m]) t5.f (dp_mono t5.f rm) (List.mem_append_right _ hmm) ⟨fun l hl => ?_, ?_, ?_⟩ ?_ ?_ dg9 _ fun _ _ h => h
      · rcases List.mem_append.mp hl with h | h
        · exact hg.sub l h
        · rw [List.mem_singleton.mp h]
          exact List.mem_append_right _ hmm
      · rw [List.map_append, List.nodup_append]
        exact ⟨hg.nd, by simp, fun a ha b hb z => hnm (by rw [← List.mem_singleton.mp hb, ← z]; exact ha)⟩
      · rw [List.length_append, List.length_singleton]
        have := hg.len
        omega
      · rw [List.map_append]
        exact List.mem_append_right _ (List.mem_singleton_self _)
      · rw [List.length_append, List.length_singleton]
        omega
  · intro σ2 Hf4 H4 e1 e2 r2 ⟨kept, hg, es4, u1, u2, u3, u4⟩
    rw [List.length_map] at hg
    have ta := u1.adopt u2 u3 hD
    have exn : Ex Hf4 (upd Hf4 D (ndO P w D es4)) := Ex.new u2
    have r3 := (r2.mono exn).re (j := 3) (v := .ref D) (d := dicD P w K (kept.map kvL)) (r2.ref rfl) ⟨D, es4, rfl, upd_same, de_mono exn u4⟩
    have hlen := hg.len
    have oksrc : ∀ l ∈ init ++ made, OkQL f l := fun l hl => by
      rcases List.mem_append.mp hl with h | h
      · exact oki l h
      · exact okm l h
    refine go_ret (EE.run (ρ := ((wipeE ((st0 N_further [fdD f, .py (.int (n : Int)), .py (lsD init)]).set 3 (some (refDt D))) [4, 5]).set 3 (some (dicD P w K (kept.map kvL))))) (Φ := Φ) ?_ r3 ta.i fun v d Hf5 H5 t5 r5 φ5 => qr v d Hf5 H5 (t1.trans (ta.trans t5)) r5 φ5)
    refine ee_callTy (T := "tuple") (fr_tuple H) (by decide +kernel) (ea_cons (ee_sortK (p_lot_rank H O).keyF (fr_sorted H) (ee_dvals (fr_list H) (ee_var 3 rfl ⟨_, rfl, _, keyQ, rfl, ?_, ea_nil (ld_tuple ?_)⟩))))
    · have ev : (kept.map kvL).map (·.2) = kept.map qlD := by
        rw [List.map_map]
        rfl
      rw [ev]
      have hk : ∀ d ∈ kept.map qlD, ∃ l ∈ kept, d = qlD l := fun d hd => by
        obtain ⟨l, hl, rfl⟩ := List.mem_map.mp hd
        exact ⟨l, hl, rfl⟩
      refine ⟨by rw [List.length_map]; omega, fun d hd => ?_, fun a ha b hb => ?_, .inl fun d hd => ?_, fun d hd => ?_⟩
      · obtain ⟨l, hl, rfl⟩ := hk d hd
        exact ⟨f, l, rfl, ok, (oksrc l (hg.sub l hl)).q, by rw [keyQ_eq]⟩
      · obtain ⟨a', ha', rfl⟩ := List.mem_map.mp ha
        obtain ⟨b', hb', rfl⟩ := List.mem_map.mp hb
        obtain ⟨l, _, rfl⟩ := hk a' ha'
        obtain ⟨l', _, rfl⟩ := hk b' hb'
        rw [keyQ_eq, keyQ_eq]
        exact rk_alike _ _
      · obtain ⟨d', hd', rfl⟩ := List.mem_map.mp hd
        obtain ⟨l, _, rfl⟩ := hk d' hd'
        rw [keyQ_eq]
        exact ⟨_, _, rfl⟩
      · obtain ⟨l, _, rfl⟩ := hk d hd
        rw [keyQ_eq]
        exact Nat.le_trans (rk_depth _) (by decide)
    · have ev : (kept.map kvL).map (·.2) = kept.map qlD := by
        rw [List.map_map]
        rfl
      rw [ev, sort_data (kk := fun l => rkD l.q) keyQ_eq]
      have pm := sortB_perm (lt := fun a b : QL => PySem.W.dataLt (rkD a.q) (rkD b.q)) kept
      refine φ _ ⟨fun l hl => hg.sub l (pm.mem_iff.mp hl), (pm.map ky).nodup_iff.mpr hg.nd, ?_⟩
      rw [pm.length_eq]
      omega
end
end Fq
/-! FqP17: the reach to size 2. -/
namespace Fq
open PySem PySem.Spec PyProof.Rows L2 Evl
open RZ
section
variable {i : XI} {ρ : En} {D : Ends} {σ : L2.St} {Hf H : Hp} {tg iter : Expr} {pos : Pos} {rest body : List Stmt} {wi : TI} {g : TG}
def NxtS (i : XI) (Hf1 : Hp) (ρw : En) (I : L2.St → Hp → Hp → Prop) : L2.St → Hp → Prop := fun σ' H' => ∃ Hf', Ex Hf1 Hf' ∧ Ex Hf' H' ∧ RpE i.K Hf' σ' ρw ∧ I σ' Hf' H'
/-- a loop told by slots and heaps -/
theorem gm_forS {Ψ : List Dt → Prop} (hi : ∀ X, XOk i X → PI X tg iter wi) (hg : ∀ X, XOk i X → PG X tg g) (hρ : RpE i.K Hf σ ρ) (ex : Ex Hf H) (h : ES i wi ρ Ψ)
    (q : ∀ its Hf1 H1, Tr Hf H Hf1 H1 → Ψ its → ∃ (ρw : En) (I : Nat → L2.St → Hp → Hp → Prop), RpE i.K Hf1 σ ρw ∧ I 0 σ Hf1 H1 ∧
      (∀ j d, its[j]? = some d → ∀ σ2 Hf2 H2 Hf3 H3 x, Ex Hf1 Hf2 → RpE i.K Hf2 σ2 ρw → I j σ2 Hf2 H2 → Tr Hf2 H2 Hf3 H3 → Rp i.K Hf3 x d → g x σ2 H3 fun σ3 H4 => GO i body { D with nx := NxtS i Hf1 ρw (I (j + 1)), ct := NxtS i Hf1 ρw (I (j + 1)), bk := GO i rest D } σ3 H4) ∧
      ∀ σ2 Hf2 H2, Ex Hf1 Hf2 → Ex Hf2 H2 → RpE i.K Hf2 σ2 ρw → I its.length σ2 Hf2 H2 → GO i rest D σ2 H2)
    (hs : ∀ env x, foldedSetIterable iter env x = pure x := by intro _ _; rfl) : GO i (.For tg iter body [] pos :: rest) D σ H := by
  refine go_for hi hg ?_ hs
  refine h σ Hf H _ hρ ex fun J its Hf1 H1 t1 S ψ => ?_
  obtain ⟨ρw, I, hw, h0, turn, fin⟩ := q its Hf1 H1 t1 ψ
  refine ⟨fun j m σ' H' => m = its.length - j ∧ j ≤ its.length ∧ NxtS i Hf1 ρw (I j) σ' H', ⟨its.length, rfl, Nat.zero_le _, Hf1, Ex.refl _, t1.i, hw, h0⟩, ?_⟩
  rintro j m σ2 H2 ⟨rfl, hj, Hf2, e1, e2, r2, I2⟩
  by_cases hlt : j < its.length
  · refine .inr ⟨S.go j H2 hlt (e1.trans e2), NxtS i Hf1 ρw (I (j + 1)), fun σ' H' n => ⟨its.length - (j + 1), by omega, rfl, hlt, n⟩, fun x H3 hy => ?_⟩
    obtain ⟨Hf3, d, hd, t3, r3⟩ := S.yld j H2 x H3 Hf2 hlt e1 e2 hy
    exact turn j d hd σ2 Hf2 H2 Hf3 H3 x e1 r2 I2 t3 r3
  · have ej : j = its.length := by omega
    subst ej
    exact .inl ⟨S.stop H2 (e1.trans e2), fin σ2 Hf2 H2 e1 e2 r2 I2⟩
end
/-- a reach that is well made -/
structure OkRe (f : Fd) (ls : List QL) : Prop where
  ok : ∀ l ∈ ls, OkQL f l
  nd : (ls.map ky).Nodup
  len : ls.length ≤ (f.bk.headD []).length * 61
theorem made2_lenT {f : Fd} (ok : OkF f) {ls : List QL} (h : ∀ l ∈ ls, OkQL f l) : (made2 f ls).length ≤ ls.length * 60 := flat_len (fun l => oneLs f (nmOf l) l) 60 ls fun l hl => by
  show ((mvsM f l.c).map _).length ≤ 60
  rw [List.length_map]
  exact mvsM_60 ok (h l hl).hi
def ReP (f : Fd) : Nat → List QL → Prop
  | 0, ls => ls = []
  | 1, ls => (∀ l ∈ ls, OkQL f l ∧ IsTab l) ∧ (ls.map ky).Nodup ∧ ls.length ≤ (f.bk.headD []).length ∧ ls.length ≤ 3
  | _, ls => OkRe f ls
theorem reP_step {f : Fd} (ok : OkF f) {j : Nat} (hj : j < 2) {ls : List QL} (h : ReP f j ls) : ∃ made, Step f j ls made ∧ ∀ ls', Good (ls ++ made) ls' (ls.length + made.length) → ReP f (j + 1) ls' := by
  obtain ⟨b0, hb0, okb0, eh⟩ := ok.bk.fst
  match j, hj with
  | 0, _ =>
    have h : ls = [] := h
    subst h
    refine ⟨_, .inl ⟨rfl, rfl, rfl⟩, fun ls' g => ⟨fun l hl => ?_, g.nd, ?_, ?_⟩⟩
    · obtain ⟨t, ht, rfl⟩ := List.mem_map.mp (g.sub l hl)
      exact ⟨tabL_ok ok ht, rfl⟩
    · have := g.len
      rw [List.length_map, List.length_nil, Nat.zero_add] at this
      exact this
    · have := g.len
      rw [List.length_map, List.length_nil, Nat.zero_add, eh] at this
      have := okb0.hi
      omega
  | 1, _ =>
    obtain ⟨h1, h2, h3, h4⟩ := h
    refine ⟨_, .inr ⟨rfl, h1, h4, h2, rfl⟩, fun ls' g => ⟨fun l hl => ?_, g.nd, ?_⟩⟩
    · rcases List.mem_append.mp (g.sub l hl) with h | h
      · exact (h1 l h).1
      · exact made2_ok ok h1 l h
    · have e1 := g.len
      have e2 := made2_lenT ok fun l hl => (h1 l hl).1
      omega
section
variable {P : Program} {w : World} {K : PySem.W.Frag} {mg : Str → Option Value} {base : Heap}
def S_reach : Sg := fun ds Φ => ∃ f : Fd, ds = [fdD f, .py (.int 2)] ∧ OkF f ∧ ∀ ls, OkRe f ls → Φ (.py (lsD ls))
theorem p_reach (H : Hd K mg) (O : OneOk w K) : Pf P w K mg base "reach" 11 ["field", "size"] 2 S_reach := pf_of H q_reach sc_reach rfl fun ds Φ hl hS => by
  obtain ⟨f, rfl, ok, φ⟩ := hS
  intro σ Hf H0 E hρ ex qn qr
  refine gm_set (Φ := fun d => d = .py (lsD [])) 2 hρ ex (ee_tup (ea_nil ⟨[], .nil, Nat.le_of_ble_eq_true rfl, rfl⟩)) fun v d Hf1 H1 t1 r1 rv ed => ?_
  subst ed
  refine gm_forS (wx_rng1 rfl (fr_range H)) (gx_name 3) r1 t1.i (es_rng1 (Ψ := fun its => its = rngD 0 2) (ea_cons (ee_var 1 rfl (ea_nil ⟨2, rfl, by decide, rfl⟩)))) fun its Hf2 H2 t2 eits => ?_
  subst eits
  refine ⟨wipeE (st0 N_reach [fdD f, .py (.int 2)]) [2, 3], fun j σ' Hf' H' => Tr Hf H0 Hf' H' ∧ ∃ ls v, ReP f j ls ∧ σ'[2]? = some (some v) ∧ Dp K Hf' v (lsD ls), ?_, ⟨t1.trans t2, [], v, rfl, ?_, dp_mono t2.f rv⟩, fun j d hd σ2 Hf3 H3 Hf4 H4 x e1 r2 ⟨t3, ls, u, hP, hu, du⟩ t4 rx => ?_, fun σ2 Hf3 H3 e1 e2 r2 ⟨t3, ls, u, hP, hu, du⟩ => ?_⟩
  · refine ((hρ.mono (t1.f.trans t2.f)).less [2, 3]).mono (Ex.refl _) |> fun r => ?_
    refine ⟨?_, fun k d hk => ?_⟩
    · rw [List.length_set]
      exact r.len
    · have hk2 : k ≠ 2 := fun z => by
        subst z
        rw [wipeE_get, if_pos (by decide)] at hk
        cases hk
      rw [List.getElem?_set_ne (Ne.symm hk2)]
      exact r.get k d hk
  · rw [List.getElem?_set_self (by rw [hρ.len]; show 2 < 4; decide)]
  · unfold rngD at hd
    rw [List.getElem?_map] at hd
    obtain ⟨j', hj', rfl⟩ := Option.map_eq_some_iff.mp hd
    obtain ⟨hjc, ej⟩ := List.getElem?_eq_some_iff.mp hj'
    rw [List.length_range] at hjc
    rw [List.getElem_range] at ej
    subst ej
    obtain ⟨made, hst, hnext⟩ := reP_step ok hjc hP
    have r4 : RpE K Hf4 (σ2.set 3 (some x)) (((wipeE (st0 N_reach [fdD f, .py (.int 2)]) [2, 3]).set 3 (some (.py (.int (j : Int))))).set 2 (some (.py (lsD ls)))) := by
      have rx : Rp K Hf4 x (.py (.int (0 + (j : Int)))) := rx
      rw [Int.zero_add] at rx
      refine ((r2.mono t4.f).set (j := 3) rx).re (j := 2) (v := u) ?_ (rpy (dp_mono t4.f du))
      rw [List.getElem?_set_ne (by decide)]
      exact hu
    show GO _ _ _ (σ2.set 3 (some x)) H4
    refine gm_set (Φ := fun d => ∃ ls', ReP f (j + 1) ls' ∧ d = .py (lsD ls')) 2 r4 t4.i (ee_call (p_further H O).fnc (ea_cons (ee_var 0 rfl (ea_cons (ee_var 3 rfl (ea_cons (ee_var 2 rfl (ea_nil ⟨rfl, f, j, ls, made, rfl, ok, hst, fun ls' g => ⟨ls', hnext ls' g, rfl⟩⟩)))))))) fun v' d' Hf5 H5 t5 r5 rv5 ⟨ls', hP', ed⟩ => go_nil ⟨Hf5, (e1.trans t4.f).trans t5.f, t5.i, r5.sub ⟨by simp [wipeE, st0], fun k d hk => ?_⟩, (t3.trans t4).trans t5, ls', v', hP', ?_, ?_⟩
    · have hk2 : k ≠ 2 ∧ k ≠ 3 := by
        refine ⟨fun z => ?_, fun z => ?_⟩ <;> (subst z; rw [wipeE_get, if_pos (by decide)] at hk; cases hk)
      rw [List.getElem?_set_ne (Ne.symm hk2.1), List.getElem?_set_ne (Ne.symm hk2.1), List.getElem?_set_ne (Ne.symm hk2.2)]
      exact hk
    · rw [List.getElem?_set_self (by rw [List.length_set, r2.len]; show 2 < 4; decide)]
    · subst ed
      exact rv5
  · have hP : ReP f 2 ls := hP
    exact go_ret (ex_var 2 hu (qr _ (.py (lsD ls)) Hf3 H3 t3 (rpy du) (φ ls hP)))
end
end Fq
/-! FqZ2: tuple * int; stores to fields; new instances; try .. finally. -/
namespace Fq
open PySem PySem.Spec PyProof.Rows L2 Evl
open RZ
theorem tuple_mul1 (l : Addr) (items : Array Value) (n : Nat) (dd : Option Addr) (sl : Array (Option Value)) (u : Tok) : Meets (Builtin.«tuple.__mul__» ⟨[.ref l, .int 1 u], []⟩) (fun _ R s => s.heap.get? l = some { cls := .type "tuple", dict := dd, data := .seq items n, slots := sl } ∧ R (.ok (.ret (Value.ref l))) s) :=
  .of_wp fun prog w A R s h => by
    obtain ⟨hp, g, d, tk, os⟩ := s
    obtain ⟨hl, h⟩ := h
    have f1 := AutoSeq1.idx_int
    wp_walk using wpAny_loadPart' hl
    exact ⟨_, rfl, h⟩
theorem op_repT1 {X : Cx} : OpR X (binaryOp .Mult) fun x y H Q => ∃ l xs, x = .ref l ∧ y = .int 1 ∧ SqT X.K H l xs ∧ Q (.ref l) H := by
  intro pins s σ H x y v u Q I rx ry h
  obtain ⟨l, xs, rfl, rfl, hT, q⟩ := h
  cases rx
  obtain ⟨t, rfl⟩ := ry
  obtain ⟨its, r, ⟨⟨cls, dd, data, sl⟩, ho, hc, n, hd⟩, hs⟩ := I.tuple hT
  simp only at hc hd
  subst hc hd
  exact wpAny_binaryOp_repeat_ref (T := "tuple") (U := "int") (by decide) ⟨_, ho, rfl⟩ (fun s' => typeIs_int s' 1 t) noFill_tuple_mul F.fills_int_mul F.slot_int_rmul repeat_tuple F.slot_int_index.lookup
    (call_meets F.slot_int_rmul (typeIs_int s 1 t) F.entry_int_rmul (F.args_int_rmul_2 _ _) (int_rmul_tuple 1 t l its.toArray n dd sl)
      ⟨ho, rfl, ⟨_, ho, rfl⟩, call_meets F.slot_tuple_mul ⟨_, ho, rfl⟩ F.entry_tuple_mul (F.args_tuple_mul_2 _ _) (tuple_mul1 l its.toArray n dd sl t) ⟨ho, .ref l, H, I, rfl, q⟩⟩)
section
variable {i : XI} {ρ : En} {Φ : Dt → Prop} {σ : L2.St} {H : Hp} {D : Ends} {Q : VK}
theorem od_mulR {ds : List PyData} {n : Nat} (hd : ds ≠ []) (h1 : 1 ≤ n) (h2 : n ≤ 1000) (hz : ds.length ≤ 1000) (h : Φ (.py (.tuple (List.replicate n ds).flatten))) : OpD i (binaryOp .Mult) (.py (.tuple ds)) (.py (.int (n : Int))) Φ := by
  by_cases e : n = 1
  · subst e
    refine opD_of (r := fun x y H Q => ∃ l xs, x = .ref l ∧ y = .int 1 ∧ SqT i.K H l xs ∧ Q (.ref l) H) (fun X ok => by rw [← ok.K]; exact op_repT1) fun Hf H v u Q e r1 r2 q => ?_
    obtain ⟨a, xs, rfl, t1, d1⟩ := dp_tup r1
    cases r2
    refine ⟨a, xs, rfl, rfl, ex_t e t1, q _ _ Hf H (.refl e) r1 ?_⟩
    rw [show (List.replicate 1 ds).flatten = ds by simp] at h
    exact h
  · refine opD_of (r := rRepT i.K) (fun X ok => by rw [← ok.K]; exact op_repT) fun Hf H v u Q e9 r1 r2 q => ?_
    obtain ⟨a, xs, rfl, t1, d1⟩ := dp_tup r1
    cases r2
    have hl := dpAll_len d1
    refine ⟨a, (n : Int), xs, rfl, rfl, ex_t e9 t1, fun z => hd (List.eq_nil_of_length_eq_zero (by rw [← hl, z]; rfl)), by omega, by omega, by omega, fun p hp => q _ _ _ _ (.new e9 hp) (rpy (dp_tup_new ?_ (fresh_back e9 hp))) h⟩
    rw [Int.toNat_natCast]
    exact dpAll_rep d1 n
variable {o e : Expr} {es : List Expr} {pos p p2 apos : Pos} {rest body : List Stmt} {f₀ : Stmt} {fin : List Stmt} {f : Str}
/-- o.f = e -/
theorem go_fld (h : EX i e σ H fun y H1 => EX i o σ H1 fun x H2 => ∃ a C dx fs, x = .ref a ∧ H2 a = some (.ins C dx fs) ∧ Cls i.K C ∧ NoAttr i.K C f ∧ fs.length < 1000 ∧ GO i rest D σ (upd H2 a (.ins C dx (putF f y fs)))) (hs : ∀ env, swapsWith e (some (.Attribute o f p2)) pos.line env = pure false := by intro _; rfl) : GO i (.Assign [.Attribute o f p2] e pos :: rest) D σ H :=
  go_cons (t := sFld i.K (EX i o) (EX i e) f) (fun X ok => by rw [← ok.K]; exact ps_fld (EX.pe ok) (EX.pe ok) (hs _)) h
/-- try: body finally: fin, where nothing raises -/
theorem go_fin (h : GO i body { nx := fun σ1 H1 => GO i (f₀ :: fin) { D with nx := GO i rest D } σ1 H1, rt := fun _ _ => False } σ H) : GO i (.Try body [] [] (f₀ :: fin) pos :: rest) D σ H := by
  have hT : ∀ X, XOk i X → PS X (.Try body [] [] (f₀ :: fin) pos) fun D σ H => GO i body { nx := fun σ1 H1 => GO i (f₀ :: fin) D σ1 H1, rt := fun _ _ => False } σ H := fun X ok => by
    refine ⟨fun pins s σ H D I h => wpAny_Try_finally (wpAny_mono (h.run X ok pins s I) (fun g s1 z => ?_) fun _ _ z => ?_)⟩
    · cases g with
      | ret u => exact z.elim fun _ ⟨_, _, _, _, q⟩ => q.elim
      | brk => exact z.elim fun _ ⟨_, _, q⟩ => q.elim
      | cont => exact z.elim fun _ ⟨_, _, q⟩ => q.elim
      | next =>
        obtain ⟨σ1, H1, J1, q1⟩ := z
        refine wpAny_execs_nil (wpAny_mono ((show GO i (f₀ :: fin) D σ1 H1 from q1).run X ok pins s1 J1) (fun g2 s2 q2 => ?_) fun _ _ e => ?_)
        · cases g2 <;> exact q2
        · rw [ok.xe] at e
          exact e.elim
    · rw [ok.xe] at z
      exact z.elim
  exact go_cons hT h
theorem AX.mono {Qa Qb : List V → Hp → Prop} (h : AX i es σ H Qa) (hq : ∀ vs H', Qa vs H' → Qb vs H') : AX i es σ H Qb := ⟨fun X ok pos pins s I =>
  thn (h.run X ok pos pins s I) fun us s1 ⟨vs, H1, I1, r1, q1⟩ => ⟨vs, H1, I1, r1, hq vs H1 q1⟩⟩
/-- C(e, ..), C a class of the text with an __init__ of its own -/
theorem ex_mk {k : Nat} {C : Str} {ps : List Str} {sp : Sp} {j j2 : Nat} {cpos : Pos} (F : ∃ fd, FnOk i.P i.w i.K i.mg i.base CX0 k (He.ma i.K (He.ga i.K C) "__init__") fd ps sp ∧ Binds i.K fd ps []) (hk : k + 1 ≤ i.k) (H0 : Hd i.K i.mg) (hj : fas[j]? = some (.mkr C)) (hj2 : fas[j2]? = some (.glo C)) (hg : GlS i.sc C)
    (h : AX i (e :: es) σ H fun vs H1 => ∀ x dx, H1 x = none → H1 dx = none → dx ≠ x → sp (.ref x :: vs) (upd (upd H1 dx (.own x)) x (.ins (He.ga i.K C) dx [])) (fun v H2 => v = .non ∧ Q (.ref x) H2) E0) (hdb : (C == ("__debug__" : Str)) = false := by decide)
    (he : ∀ env, starEach (e :: es) env = (false, eval e env) :: starEach es env := by intro _; rfl) (hpl : ∀ env, (backTo cpos (starEach es env)).any (·.1) = false := by intro _; rfl) : EX i (.Call (.Name C p) (e :: es) [] cpos) σ H Q := by
  refine ⟨fun X ok pins s I => ?_⟩
  obtain ⟨fd, F, b⟩ := F
  have M := He.mkr_ok (H0.c.fact j hj)
  refine (pe_make (ds := []) (dvs := []) (by rw [ok.K]; exact M) (ok.fn' F) (ok.room.mono hk) (ok.gl hg) (ok.mgN (H0.glo hj2)) (by rw [ok.K]; exact b) .nil pass0 (AX.pa (i := i) ok) hdb (he _) (hpl _)).run pins s σ H Q I ?_
  refine h.mono fun vs H1 hq x dx h1 h2 h3 => ?_
  rw [List.append_nil]
  exact hq x dx h1 h2 h3
end
end Fq
/-! FqP18: wishes changed; what stands. -/
namespace Fq
open PySem PySem.Spec PyProof.Rows L2 Evl
open RZ
open PySem.W (EachIs AllAlike Sortable dataLe alike alikeAll)
/-! wishes in order -/
def keyWD : PyData → PyData
  | .tuple [b, r, _] => .list [b, keyRD r]
  | _ => .none
theorem keyWD_eq (x : Ws) : keyWD (wsD x) = keyW x := by
  show PyData.list [.int (x.1 : Int), keyRD (rowD x.2.1)] = _
  rw [keyRD_d]
  rfl
theorem keyW_alike (a b : Ws) : alike (keyW a) (keyW b) = true := by
  unfold keyW
  simp [PySem.W.alike, PySem.W.alikeAll, keyR_alike]
theorem keyW_depth (a : Ws) : (keyW a).depth ≤ 3 := by
  have := keyR_depth a.2.1
  unfold keyW
  simp [PyData.depth, PyData.depthAll]
  omega
def atW (b : Nat) (r : Row) (x : Ws) : Bool := decide (x.1 = b) && decide (x.2.1 = r)
section
variable {P : Program} {w : World} {K : PySem.W.Frag} {mg : Str → Option Value} {base : Heap}
def S_check_size : Sg := fun ds Φ => ∃ n : Nat, ds = [.py (.int (n : Int))] ∧ n ≤ 8 ∧ Φ (.py .none)
theorem p_check_size (H : Hd K mg) : Pf P w K mg base "check_size" 2 ["thing"] 1 S_check_size := pf_of H q_check_size sc_check_size rfl fun ds Φ hl hS => by
  obtain ⟨n, rfl, h, φ⟩ := hS
  refine bb_if (et_w (ew_or (et_not (et_val (ee_call (p_is_whole H).fnc (ea_cons (ee_var 0 rfl (ea_nil ⟨rfl, _, rfl, true, rfl, ?_⟩))))))))
  refine iteF (ew_or1 (et_not (et_chainI (fun _ _ => op_le) (fun _ _ => op_le) (ee_int ⟨0, rfl, ee_var 0 rfl ⟨_, rfl, ?_⟩⟩))))
  rw [decide_eq_true (show (0 : Int) ≤ (n : Int) by omega)]
  refine iteT (ee_globInt (gi_FAR H) rfl ⟨8, rfl, ?_⟩)
  rw [decide_eq_true (show (n : Int) ≤ 8 by omega)]
  exact iteF (bb_nil (bb_nil φ))
theorem wss_inj (a b : Ws) (h : Dt.py (wsD a) = Dt.py (wsD b)) : a = b := wsD_inj (Dt.py.inj h)
def S_stands_at : Sg := fun ds Φ => ∃ (ws : List Ws) (b : Nat) (r : Row), ds = [.py (.tuple (ws.map wsD)), .py (.int (b : Int)), .py (rowD r)] ∧ ws.length ≤ 1000 ∧ Φ (.py (.bool (ws.any (atW b r))))
theorem p_stands_at (H : Hd K mg) : Pf P w K mg base "stands_at" 1 ["wishes", "book", "row"] 3 S_stands_at := pf_of H q_stands_at sc_stands_at rfl fun ds Φ hl hS => by
  obtain ⟨ws, b, r, rfl, hz, φ⟩ := hS
  refine bb_ret (ee_callB (id := "any") (fr_any H) (by decide +kernel) (ea_cons (ee_unO (ee_lcO [("wish", 3)] wx_tup (gx_name 3) (es_tup (ee_var 0 rfl ⟨_, rfl, Ws, fun x => .py (wsD x), ws, fun _ => true, fun x => .bool (atW b r x), by rw [List.map_map]; rfl, by omega, fun x hx => ?_, ?_⟩))))))
  · refine ⟨_, gd_name 3, ei_nil rfl, fun _ => ee_and (ee_cmp (ee_ixT (ee_var 3 rfl (ee_int ⟨_, 0, .int (x.1 : Int), rfl, rfl, ixT0, ee_var 1 rfl (od_eq (pl_int _) (pl_int _) ⟨_, rfl, ?_⟩)⟩))) (hm := rfl))⟩
    rw [eqv_int]
    by_cases e : x.1 = b
    · have ea : atW b r x = decide (x.2.1 = r) := by unfold atW; rw [decide_eq_true e, Bool.true_and]
      rw [decide_eq_true (show (x.1 : Int) = (b : Int) by omega)]
      refine iteT (ee_one (ee_cmp (ee_ixT (ee_var 3 rfl (ee_int ⟨_, 1, rowD x.2.1, rfl, rfl, atI_nat (j := 1) rfl, ee_var 2 rfl (od_eq (row_pl _) (row_pl _) ?_)⟩))) (hm := rfl)))
      show Dt.py (.bool _) = Dt.py (.bool (atW b r x))
      rw [row_eqv, ea]
    · have ea : atW b r x = false := by unfold atW; rw [decide_eq_false e, Bool.false_and]
      rw [decide_eq_false (show ¬ (x.1 : Int) = (b : Int) by omega)]
      refine iteF ?_
      show Dt.py (.bool _) = Dt.py (.bool (atW b r x))
      rw [ea]
  · rw [filter_yes]
    have e : (ws.map fun x => PyData.bool (atW b r x)) = (ws.map (atW b r)).map PyData.bool := by rw [List.map_map]; rfl
    refine ⟨_, rfl, ?_⟩
    rw [e]
    refine ea_nil (ld_any ?_)
    rw [List.any_map]
    exact φ
def S_with_wish : Sg := fun ds Φ => ∃ (ws : List Ws) (x : Ws), ds = [.py (.tuple (ws.map wsD)), .py (wsD x)] ∧ ws.length ≤ 900 ∧ (∀ y ∈ ws, y.2.1.length ≤ 3) ∧ x.2.1.length ≤ 3 ∧ ∀ ws' : List Ws, ws'.Perm (ws ++ [x]) → Φ (.py (.tuple (ws'.map wsD)))
theorem p_with_wish (H : Hd K mg) : Pf P w K mg base "with_wish" 5 ["wishes", "wish"] 2 S_with_wish := pf_of H q_with_wish sc_with_wish rfl fun ds Φ hl hS => by
  obtain ⟨ws, x, rfl, hz, hw, hx, φ⟩ := hS
  have hk : ∀ d ∈ (ws ++ [x]).map wsD, ∃ y : Ws, y.2.1.length ≤ 3 ∧ d = wsD y := fun d hd => by
    obtain ⟨y, hy, rfl⟩ := List.mem_map.mp hd
    rcases List.mem_append.mp hy with h | h
    · exact ⟨y, hw y h, rfl⟩
    · rw [List.mem_singleton.mp h]
      exact ⟨x, hx, rfl⟩
  refine bb_ret (ee_callTy (T := "tuple") (fr_tuple H) (by decide +kernel) (ea_cons (ee_sortKS (p_wish_key H).keyF (fr_sorted H) (ee_op (ee_var 0 rfl (ee_tup (ea_cons (ee_var 1 rfl (ea_nil ⟨_, .cons .nil, Nat.le_of_ble_eq_true rfl, od_addT (by rw [List.length_map, List.length_singleton]; omega) ⟨(ws ++ [x]).map wsD, keyWD, .inr (by rw [List.map_append]; rfl), ?_, ea_nil (ld_tuple ?_)⟩⟩)))))))))
  · refine ⟨by rw [List.length_map, List.length_append, List.length_singleton]; omega, fun d hd => ?_, fun a ha b hb => ?_, .inr fun d hd => ?_, fun d hd => ?_⟩
    · obtain ⟨y, hy, rfl⟩ := hk d hd
      exact ⟨y, rfl, by omega, by rw [keyWD_eq]⟩
    · obtain ⟨a', ha', rfl⟩ := List.mem_map.mp ha
      obtain ⟨b', hb', rfl⟩ := List.mem_map.mp hb
      obtain ⟨y, _, rfl⟩ := hk a' ha'
      obtain ⟨z, _, rfl⟩ := hk b' hb'
      rw [keyWD_eq, keyWD_eq]
      exact keyW_alike _ _
    · obtain ⟨d', hd', rfl⟩ := List.mem_map.mp hd
      obtain ⟨y, _, rfl⟩ := hk d' hd'
      rw [keyWD_eq]
      exact ⟨(fun z => nomatch z), fun _ z => nomatch z⟩
    · obtain ⟨y, _, rfl⟩ := hk d hd
      rw [keyWD_eq]
      exact Nat.le_trans (keyW_depth _) (by decide)
  · rw [sort_data (kk := keyW) keyWD_eq]
    exact φ _ (sortB_perm (lt := fun a b : Ws => PySem.W.dataLt (keyW a) (keyW b)) (ws ++ [x]))
def S_without_wish : Sg := fun ds Φ => ∃ (ws : List Ws) (b : Nat) (r : Row), ds = [.py (.tuple (ws.map wsD)), .py (.int (b : Int)), .py (rowD r)] ∧ ws.length ≤ 1000 ∧ Φ (.py (.tuple ((ws.filter fun x => !atW b r x).map wsD)))
theorem p_without_wish (H : Hd K mg) : Pf P w K mg base "without_wish" 1 ["wishes", "book", "row"] 3 S_without_wish := pf_of H q_without_wish sc_without_wish rfl fun ds Φ hl hS => by
  obtain ⟨ws, b, r, rfl, hz, φ⟩ := hS
  refine bb_ret (ee_callTy (T := "tuple") (fr_tuple H) (by decide +kernel) (ea_cons (ee_unO (ee_lcO [("wish", 3)] wx_tup (gx_name 3) (es_tup (ee_var 0 rfl ⟨_, rfl, Ws, fun x => .py (wsD x), ws, fun x => !atW b r x, wsD, by rw [List.map_map]; rfl, by omega, fun x hx => ?_, ⟨_, rfl, ea_nil (ld_tuple φ)⟩⟩))))))
  refine ⟨_, gd_name 3, ei_one (et_w (ew_or (et_cmp (ee_ixT (ee_var 3 rfl (ee_int ⟨_, 0, .int (x.1 : Int), rfl, rfl, ixT0, ee_var 1 rfl (od_ne (pl_int _) (pl_int _) ⟨_, rfl, ?_⟩)⟩))) (hm := rfl)))), fun _ => ee_var 3 rfl rfl⟩
  rw [eqv_int]
  by_cases e : x.1 = b
  · have ea : atW b r x = decide (x.2.1 = r) := by unfold atW; rw [decide_eq_true e, Bool.true_and]
    rw [decide_eq_true (show (x.1 : Int) = (b : Int) by omega)]
    refine iteF (ew_or1 (et_cmp (ee_ixT (ee_var 3 rfl (ee_int ⟨_, 1, rowD x.2.1, rfl, rfl, atI_nat (j := 1) rfl, ee_var 2 rfl (od_ne (row_pl _) (row_pl _) ⟨_, rfl, ?_⟩)⟩))) (hm := rfl)))
    show (!_) = !atW b r x
    rw [row_eqv, ea]
  · have ea : atW b r x = false := by unfold atW; rw [decide_eq_false e, Bool.false_and]
    rw [decide_eq_false (show ¬ (x.1 : Int) = (b : Int) by omega)]
    refine iteT ?_
    show true = !atW b r x
    rw [ea]
    rfl
def S_check_place : Sg := fun ds Φ => ∃ (f : Fd) (far : Nat) (ws : List Ws) (c b : Nat) (r : Row), ds = [stD f far ws, .py (.int (c : Int)), .py (.int (b : Int)), .py (rowD r)] ∧ f.bk.length ≤ 1000 ∧ b < f.bk.length ∧ OkR c r ∧ Φ (.py .none)
theorem p_check_place (H : Hd K mg) : Pf P w K mg base "check_place" 4 ["state", "columns", "book", "row"] 4 S_check_place := pf_of H q_check_place sc_check_place rfl fun ds Φ hl hS => by
  obtain ⟨f, far, ws, c, b, r, rfl, hz, hb, ok, φ⟩ := hS
  have hr := ok.len
  refine bb_expr (ee_call (p_check_number H).fnc (ea_cons (ee_callB (fr_len H) PySem.boot_len (ea_cons (ee_sField H (ee_var 0 rfl ⟨f, far, ws, rfl, ea_nil (ld_lenF H hz (p_Field_len H) (Nat.le_of_ble_eq_true rfl) ?_)⟩))))))
  refine ea_cons (ee_var 2 rfl (ea_nil ⟨rfl, f.bk.length, b, rfl, hb, ?_⟩))
  refine bb_if (et_w (ew_or (et_not (et_val (ee_call (p_is_row H).fnc (ea_cons (ee_var 3 rfl (ea_nil ⟨rfl, r, c, rfl, ok, true, rfl, ?_⟩))))))))
  refine iteF (ew_or1 (et_cmp (ee_callB (fr_len H) PySem.boot_len (ea_cons (ee_var 3 rfl (ea_nil (ld_len (n := r.length) (d := rowD r) (by show _ = _; rw [List.length_map]) (ee_var 1 rfl (od_ne (pl_int _) (pl_int _) ⟨_, rfl, ?_⟩))))))) (hm := rfl)))
  rw [eqv_int, decide_eq_true (by omega)]
  exact iteF (bb_nil (bb_nil φ))
/-! State(..) -/
def spState (K : PySem.W.Frag) : Sp := fun vs H Q _ => ∃ x dx v1 v2 v3, vs = [V.ref x, v1, v2, v3] ∧ H x = some (.ins (He.ga K "State") dx []) ∧ Q .non (upd H x (.ins (He.ga K "State") dx [("field", v1), ("far", v2), ("wishes", v3)]))
theorem p_State_init (H : Hd K mg) : ∃ fd, FnOk P w K mg base CX0 1 (He.ma K (He.ga K "State") "__init__") fd ["self", "field", "far", "wishes"] (spState K) ∧ Binds K fd ["self", "field", "far", "wishes"] [] := by
  obtain ⟨fd, F⟩ := H.c.def_ 65 (d := d_State_init) (by kernel_rfl)
  refine ⟨fd, fn_go F sc_State_init (fun vs H' Q E ⟨x, dx, v1, v2, v3, e, _⟩ => by rw [e]; rfl) (fun vs H' Q E ⟨x, dx, v1, v2, v3, e, hx, q⟩ => ?_), binds_pl F sc_State_init ⟨rfl, rfl, by kernel_rfl, by kernel_rfl, by kernel_rfl, by kernel_rfl, by kernel_rfl⟩⟩
  subst e
  have c := cl_of H (x := "State") (j := 83) (by kernel_rfl)
  refine go_fld (ex_var 1 rfl (ex_var 0 rfl ⟨x, _, dx, [], rfl, hx, c, na_of H (j := 91) (by kernel_rfl), by decide, ?_⟩))
  refine go_fld (ex_var 2 rfl (ex_var 0 rfl ⟨x, _, dx, [("field", v1)], rfl, upd_same, c, na_of H (j := 92) (by kernel_rfl), show 1 < 1000 by decide, ?_⟩))
  refine go_fld (ex_var 3 rfl (ex_var 0 rfl ⟨x, _, dx, [("field", v1), ("far", v2)], rfl, upd_same, c, na_of H (j := 93) (by kernel_rfl), show 2 < 1000 by decide, go_nil ?_⟩))
  show Q .non _
  rw [upd_upd, upd_upd]
  exact q
theorem ee_mkState {i : XI} {ρ : En} {Φ : Dt → Prop} {e : Expr} {es : List Expr} {p cpos : Pos} (H : Hd i.K i.mg) (hk : 2 ≤ i.k) (h : EA i (e :: es) ρ fun ds => ∃ (f : Fd) (far : Nat) (ws : List Ws), ds = [fdD f, .py (.int (far : Int)), .py (.tuple (ws.map wsD))] ∧ Φ (stD f far ws)) (hg : GlS i.sc "State" := by rfl)
    (he : ∀ env, starEach (e :: es) env = (false, eval e env) :: starEach es env := by intro _; rfl) (hpl : ∀ env, (backTo cpos (starEach es env)).any (·.1) = false := by intro _; rfl) : EE i (.Call (.Name "State" p) (e :: es) [] cpos) ρ Φ := fun σ Hf H1 Q hρ ex q => by
  refine ex_mk (j := 84) (j2 := 82) (p_State_init (P := i.P) (w := i.w) (base := i.base) H) hk H (by kernel_rfl) (by kernel_rfl) hg (h σ Hf H1 _ hρ ex fun vs ds Hf2 H2 t r ⟨f, far, ws, eds, φ⟩ x dx hx hdx hne => ?_) (by decide) he hpl
  subst eds
  cases r with
  | cons r1 r =>
    cases r with
    | cons r2 r =>
      cases r with
      | cons r3 r =>
        cases r
        rename_i v1 v2 v3
        refine ⟨x, dx, v1, v2, v3, rfl, upd_same, rfl, ?_⟩
        obtain ⟨a, rfl, A⟩ := r1
        have hxf := fresh_back t.i hx
        have hdf := fresh_back t.i hdx
        have t2 := (t.trans (.new (o := .own x) t.i hdx)).trans (.new (o := .ins (He.ga i.K "State") dx [("field", .ref a), ("far", v2), ("wishes", v3)]) (upd_ex t.i) (by rw [upd_ne hne.symm]; exact hx))
        rw [upd_upd]
        have e12 := (Ex.new (o := .own x) hdf).trans (Ex.new (o := .ins (He.ga i.K "State") dx [("field", V.ref a), ("far", v2), ("wishes", v3)]) (show upd Hf2 dx (.own x) x = none by rw [upd_ne hne.symm]; exact hxf))
        exact q (.ref x) (stD f far ws) _ _ t2 ⟨x, rfl, ⟨dx, _, a, v2, v3, upd_same, rfl, rfl, rfl, A.mono e12, dp_mono e12 r2, dp_mono e12 r3⟩⟩ φ
end
end Fq
/-! FqP19: what stands behind a deed on wishes. -/
namespace Fq
open PySem PySem.Spec PyProof.Rows L2 Evl
open RZ
/-- what a deed on wishes may leave -/
inductive Deed (ws : List Ws) (b : Nat) (r : Row) : Str → List Ws → Prop
  | forget (h : ws.any (atW b r) = true) : Deed ws b r "forget" (ws.filter fun x => !atW b r x)
  | wish (h : ws.any (atW b r) = false) (ws' : List Ws) (p : ws'.Perm (ws ++ [(b, r, true)])) : Deed ws b r "wish" ws'
  | shun (h : ws.any (atW b r) = false) (ws' : List Ws) (p : ws'.Perm (ws ++ [(b, r, false)])) : Deed ws b r "shun" ws'
/-- that the deed can be done -/
def CanDo (ws : List Ws) (b : Nat) (r : Row) (x : Str) : Prop := (x = "forget" ∧ ws.any (atW b r) = true) ∨ ((x = "wish" ∨ x = "shun") ∧ ws.any (atW b r) = false)
section
variable {P : Program} {w : World} {K : PySem.W.Frag} {mg : Str → Option Value} {base : Heap}
def S_wishes_behind : Sg := fun ds Φ => ∃ (f : Fd) (far : Nat) (ws : List Ws) (c b : Nat) (r : Row) (x : Str), ds = [stD f far ws, .py (.int (c : Int)), .py (.str x), .py (plcD (b, r))] ∧ f.bk.length ≤ 1000 ∧ b < f.bk.length ∧ OkR c r ∧ ws.length ≤ 900 ∧ (∀ y ∈ ws, y.2.1.length ≤ 3) ∧ CanDo ws b r x ∧ ∀ ws', Deed ws b r x ws' → Φ (.py (.tuple (ws'.map wsD)))
theorem p_wishes_behind (H : Hd K mg) : Pf P w K mg base "wishes_behind" 6 ["state", "columns", "word", "things"] 4 S_wishes_behind := pf_of H q_wishes_behind sc_wishes_behind rfl fun ds Φ hl hS => by
  obtain ⟨f, far, ws, c, b, r, x, rfl, hz, hb, ok, hw, hw3, hx, φ⟩ := hS
  have hr := ok.len
  have hr3 := ok.hi
  refine bb_asg [5, 6] (gx_tup (n := 2) (t := gsOf [5, 6]) (gxs_cons (gx_name 5) (gxs_cons (gx_name 6) gxs_nil))) (ee_var 3 rfl ⟨_, gd_tup [5, 6] rfl rfl, ?_⟩)
  refine bb_expr (ee_call (p_check_place H).fnc (ea_cons (ee_var 0 rfl (ea_cons (ee_var 1 rfl (ea_cons (ee_var 5 rfl (ea_cons (ee_var 6 rfl (ea_nil ⟨rfl, f, far, ws, c, b, r, rfl, hz, hb, ok, ?_⟩))))))))))
  refine bb_set 4 (ee_call (p_stands_at H).fnc (ea_cons (ee_sWishes H (ee_var 0 rfl ⟨f, far, ws, rfl, ea_cons (ee_var 5 rfl (ea_cons (ee_var 6 rfl (ea_nil ⟨rfl, ws, b, r, rfl, by omega, ?_⟩))))⟩))))
  refine bb_if (et_cmp (ee_var 2 rfl (ee_str (od_eq (pl_str _) (pl_str _) ⟨_, rfl, ?_⟩))) (hm := rfl))
  rw [eqv_str]
  rcases hx with ⟨rfl, hs⟩ | ⟨hx, hs⟩
  · rw [decide_eq_true rfl, hs]
    refine iteT (bb_if (et_not (et_val (ee_var 4 rfl ⟨true, rfl, iteF (bb_nil ?_)⟩))))
    exact bb_ret (ee_call (p_without_wish H).fnc (ea_cons (ee_sWishes H (ee_var 0 rfl ⟨f, far, ws, rfl, ea_cons (ee_var 5 rfl (ea_cons (ee_var 6 rfl (ea_nil ⟨rfl, ws, b, r, rfl, by omega, φ _ (.forget hs)⟩))))⟩))))
  · have e0 : x ≠ "forget" := by
      rcases hx with rfl | rfl
      · decide +kernel
      · decide +kernel
    rw [decide_eq_false e0, hs]
    refine iteF (bb_nil (bb_if (et_val (ee_var 4 rfl ⟨false, rfl, iteF (bb_nil ?_)⟩))))
    refine bb_ret (ee_call (p_with_wish H).fnc (ea_cons (ee_sWishes H (ee_var 0 rfl ⟨f, far, ws, rfl, ea_cons (ee_tup (ea_cons (ee_var 5 rfl (ea_cons (ee_var 6 rfl (ea_cons (ee_cmp (ee_var 2 rfl (ee_str (od_eq (pl_str _) (pl_str _) ?_))) (hm := rfl))))))))⟩))))
    rw [eqv_str]
    refine ea_nil ⟨_, .cons (.cons (.cons .nil)), Nat.le_of_ble_eq_true rfl, ea_nil ⟨rfl, ws, (b, r, decide (x = "wish")), rfl, hw, hw3, by show r.length ≤ 3; omega, fun ws' p => φ ws' ?_⟩⟩
    rcases hx with rfl | rfl
    · rw [decide_eq_true rfl] at p
      exact .wish hs ws' p
    · rw [decide_eq_false (by decide +kernel)] at p
      exact .shun hs ws' p
def S_behind : Sg := fun ds Φ => ∃ (f : Fd) (far : Nat) (ws : List Ws) (c b : Nat) (r : Row) (x : Str), ds = [stD f far ws, .py (.int (c : Int)), .py (.str x), .py (plcD (b, r))] ∧ f.bk.length ≤ 1000 ∧ b < f.bk.length ∧ OkR c r ∧ ws.length ≤ 900 ∧ (∀ y ∈ ws, y.2.1.length ≤ 3) ∧ CanDo ws b r x ∧ ∀ ws', Deed ws b r x ws' → Φ (stD f far ws')
theorem p_behind (H : Hd K mg) : Pf P w K mg base "behind" 7 ["state", "columns", "word", "things"] 4 S_behind := pf_of H q_behind sc_behind rfl fun ds Φ hl hS => by
  obtain ⟨f, far, ws, c, b, r, x, rfl, hz, hb, ok, hw, hw3, hx, φ⟩ := hS
  have e1 : x ≠ "resize" ∧ x ≠ "enter" ∧ x ≠ "strike" := by
    rcases hx with ⟨rfl, _⟩ | ⟨rfl | rfl, _⟩ <;> decide +kernel
  refine bb_if (et_cmp (ee_var 2 rfl (ee_str (od_eq (pl_str _) (pl_str _) ⟨_, rfl, ?_⟩))) (hm := rfl))
  rw [eqv_str, decide_eq_false e1.1]
  refine iteF (bb_nil (bb_if (et_cmp (ee_var 2 rfl (ee_str (od_eq (pl_str _) (pl_str _) ⟨_, rfl, ?_⟩))) (hm := rfl))))
  rw [eqv_str, decide_eq_false e1.2.1]
  refine iteF (bb_nil (bb_if (et_cmp (ee_var 2 rfl (ee_str (od_eq (pl_str _) (pl_str _) ⟨_, rfl, ?_⟩))) (hm := rfl))))
  rw [eqv_str, decide_eq_false e1.2.2]
  refine iteF (bb_nil (bb_ret (ee_mkState H (Nat.le_of_ble_eq_true rfl) (ea_cons (ee_sField H (ee_var 0 rfl ⟨f, far, ws, rfl, ea_cons (ee_sFar H (ee_var 0 rfl ⟨f, far, ws, rfl, ?_⟩))⟩))))))
  refine ea_cons (ee_call (p_wishes_behind H).fnc (ea_cons (ee_var 0 rfl (ea_cons (ee_var 1 rfl (ea_cons (ee_var 2 rfl (ea_cons (ee_var 3 rfl (ea_nil ⟨rfl, f, far, ws, c, b, r, x, rfl, hz, hb, ok, hw, hw3, hx, fun ws' hd => ea_nil ⟨f, far, ws', rfl, φ ws' hd⟩⟩))))))))))
end
end Fq
/-! FqSk: the seeker: how it stands, its methods. -/
namespace Fq
open PySem PySem.Spec PyProof.Rows L2 Evl
open RZ
def kptD (f : Fd) (re : List QL) : PyData := .tuple [.tuple [bksD f.bk, .int 2], lsD re]
/-- a seeker stands at S -/
structure Sk (K : PySem.W.Frag) (f : Fd) (c : Nat) (S : Addr) (m : Nat) (ws : List Ws) (re : Option (List QL)) (Hf H : Hp) : Prop where
  ex : ∃ dx E N st es ns kv, H S = some (.ins (He.ga K "Seeker") dx [("state", .ref st), ("across", .int (c : Int)), ("elder", .ref E), ("kept", kv), ("noted", .ref N)]) ∧ H E = some (.lst es) ∧ H N = some (.lst ns) ∧ es.length ≤ m ∧ ns.length ≤ 40 ∧ E ≠ N ∧
    Hf S = none ∧ Hf E = none ∧ Hf N = none ∧ Rp K Hf (.ref st) (stD f 2 ws) ∧ match re with | none => kv = .non | some ls => Dp K Hf kv (kptD f ls)
theorem Sk.step {K : PySem.W.Frag} {f : Fd} {c : Nat} {S : Addr} {m : Nat} {ws : List Ws} {re : Option (List QL)} {Hf H Hf' H' : Hp} (h : Sk K f c S m ws re Hf H) (t : Tr Hf H Hf' H') : Sk K f c S m ws re Hf' H' := by
  obtain ⟨dx, E, N, st, es, ns, kv, h1, h2, h3, h4, h5, h6, h7, h8, h9, h10, h11⟩ := h.ex
  refine ⟨dx, E, N, st, es, ns, kv, t.h _ _ h1, t.h _ _ h2, t.h _ _ h3, h4, h5, h6, t.n _ _ h1 h7, t.n _ _ h2 h8, t.n _ _ h3 h9, rp_mono t.f h10, ?_⟩
  cases re with
  | none => exact h11
  | some ls => exact dp_mono t.f h11
/-- what a method of a seeker promises: it may change what isn't kept for good -/
def spM (n : Nat) (S : List V → Hp → Hp → (V → Hp → Hp → Prop) → Prop) : Sp := fun vs H Q _ => vs.length = n ∧ ∃ Hf R, Ex Hf H ∧ S vs Hf H R ∧ ∀ v Hf' H', Ex Hf Hf' → Ex Hf' H' → R v Hf' H' → Q v H'
section
variable {i : XI} {σ : L2.St} {Hf H : Hp} {Q : VK}
/-- a binary operator told by data, at a state -/
def rOD (i : XI) (f : Value → Value → Sem Value) : R2 := fun v u H Q => ∃ x y Hf Φ, Ex Hf H ∧ Rp i.K Hf v x ∧ Rp i.K Hf u y ∧ OpD i f x y Φ ∧ ∀ z d Hf' H', Tr Hf H Hf' H' → Rp i.K Hf' z d → Φ d → Q z H'
theorem rOD_ok {f : Value → Value → Sem Value} : ∀ X, XOk i X → OpR X f (rOD i f) := fun X ok pins s σ H v u vv uu Q I rv ru ⟨x, y, Hf, Φ, e, r1, r2, o, q⟩ => o X ok pins s σ Hf H v u vv uu Q I e r1 r2 rv ru q
/-- an attribute of the seeker -/
theorem ex_skA {o : Expr} {g : Str} {pos : Pos} {S dx : Addr} {fs : List (Str × V)} {v : V} (H0 : Hd i.K i.mg) {j : Nat} (hj : fas[j]? = some (.noat "Seeker" g)) (h : EX i o σ H fun x H1 => x = .ref S ∧ H1 S = some (.ins (He.ga i.K "Seeker") dx fs) ∧ fs.lookup g = some v ∧ Q v H1)
    (hb : ∀ env, attributeBase o g env (eval o env) = eval o env := by intro _; rfl) : EX i (.Attribute o g pos) σ H Q :=
  ex_fld (h.mono fun x H1 ⟨e1, e2, e3, q⟩ => ⟨S, _, dx, fs, v, e1, e2, cl_of H0 (x := "Seeker") (j := 86) (by kernel_rfl), na_of H0 hj, e3, q⟩) hb
/-- an attribute of the state -/
theorem ex_stA {o : Expr} {g : Str} {pos : Pos} {f : Fd} {far : Nat} {ws : List Ws} (H0 : Hd i.K i.mg) (h : EX i o σ H fun x H1 => ∃ Hf1, Ex Hf1 H1 ∧ Rp i.K Hf1 x (stD f far ws) ∧ ((g = "field" ∧ ∀ v, Rp i.K Hf1 v (fdD f) → Q v H1) ∨ (g = "far" ∧ Q (.int (far : Int)) H1) ∨ (g = "wishes" ∧ ∀ v, Dp i.K Hf1 v (.tuple (ws.map wsD)) → Q v H1)))
    (hb : ∀ env, attributeBase o g env (eval o env) = eval o env := by intro _; rfl) : EX i (.Attribute o g pos) σ H Q :=
  ex_fld (h.mono fun x H1 ⟨Hf1, e1, r, q⟩ => by
    obtain ⟨a, rfl, A⟩ := r
    obtain ⟨dx, fs, fa, vf, vw, h1, h2, h3, h4, h5, h6, h7⟩ := A.ex
    have c := cl_of H0 (x := "State") (j := 83) (by kernel_rfl)
    rcases q with ⟨rfl, q⟩ | ⟨rfl, q⟩ | ⟨rfl, q⟩
    · exact ⟨a, _, dx, fs, _, rfl, e1 _ _ h1, c, na_of H0 (j := 91) (by kernel_rfl), h2, q _ ⟨fa, rfl, h5⟩⟩
    · cases h6
      exact ⟨a, _, dx, fs, _, rfl, e1 _ _ h1, c, na_of H0 (j := 92) (by kernel_rfl), h3, q⟩
    · exact ⟨a, _, dx, fs, _, rfl, e1 _ _ h1, c, na_of H0 (j := 93) (by kernel_rfl), h4, q _ h7⟩) hb
/-- an attribute of the field: the books -/
theorem ex_fdA {o : Expr} {pos : Pos} {f : Fd} (H0 : Hd i.K i.mg) (h : EX i o σ H fun x H1 => ∃ Hf1, Ex Hf1 H1 ∧ Rp i.K Hf1 x (fdD f) ∧ ∀ v, Dp i.K Hf1 v (bksD f.bk) → Q v H1)
    (hb : ∀ env, attributeBase o "books" env (eval o env) = eval o env := by intro _; rfl) : EX i (.Attribute o "books" pos) σ H Q :=
  ex_fld (h.mono fun x H1 ⟨Hf1, e1, r, q⟩ => by
    obtain ⟨a, rfl, A⟩ := r
    obtain ⟨dx, fs, vb, vn, vd, h1, h2, h3, h4, h5, h6, h7⟩ := A.ex
    exact ⟨a, _, dx, fs, _, rfl, e1 _ _ h1, cl_of H0 (x := "Field") (j := 80) (by kernel_rfl), na_of H0 (j := 88) (by kernel_rfl), h2, q _ h5⟩) hb
/-- a call of a pure def, at a state -/
theorem ex_callP {x : Str} {k n : Nat} {ps : List Str} {S : Sg} {e : Expr} {es : List Expr} {p pos : Pos} (F : Pf i.P i.w i.K i.mg i.base x k ps n S) (hk : k ≤ i.k) (hg : GlS i.sc x) (h : AX i (e :: es) σ H fun vs H1 => ∃ Hf1 ds Φ, Ex Hf1 H1 ∧ RpL i.K Hf1 vs ds ∧ ds.length = n ∧ S ds Φ ∧ ∀ v d Hf' H', Tr Hf1 H1 Hf' H' → Rp i.K Hf' v d → Φ d → Q v H') (hdb : (x == ("__debug__" : Str)) = false := by decide)
    (he : ∀ env, starEach (e :: es) env = (false, eval e env) :: starEach es env := by intro _; rfl) (hpl : ∀ env, (backTo pos (starEach es env)).any (·.1) = false := by intro _; rfl) : EX i (.Call (.Name x p) (e :: es) [] pos) σ H Q :=
  ex_call (i := i) (F.fnc (k' := i.k) (t := i.top) hk) hg (h.mono fun vs H1 ⟨Hf1, ds, Φ, e1, r, hl, hs, q⟩ => by
    rw [List.append_nil]
    exact ⟨Hf1, ds, Φ, r, e1, hl, hs, q⟩) hdb he hpl
end
section
variable {P : Program} {w : World} {K : PySem.W.Frag} {mg : Str → Option Value} {base : Heap}
theorem cut30 (ns : List V) : (cutV ns (some (-30)) none).length ≤ 30 := by
  unfold cutV
  rw [HT.sIx_none, List.length_take, List.length_drop]
  unfold HT.sIx
  simp
  omega
theorem go_callE {i : XI} {e : Expr} {D : Ends} {σ : L2.St} {H : Hp} {pos : Pos} {rest : List Stmt} (h : EX i e σ H fun _ H1 => GO i rest D σ H1) (hs : ∀ env, swapsWith e none pos.line env = pure false := by intro _; rfl) : GO i (.Expr e pos :: rest) D σ H := go_expr h hs

/-! note -/
/-- few rows in the log -/
def Few (H : Hp) (S : Addr) : Prop := ∀ C dx fs N ns, H S = some (HO.ins C dx fs) → fs.lookup ("noted" : Str) = some (V.ref N) → H N = some (HO.lst ns) → ns.length ≤ 31
def M_note (K : PySem.W.Frag) : List V → Hp → Hp → (V → Hp → Hp → Prop) → Prop := fun vs Hf H R => ∃ f c S m ws re v, vs = [.ref S, v] ∧ Sk K f c S m ws re Hf H ∧ ∀ Hf' H', Sk K f c S m ws re Hf' H' → Few H' S → R .non Hf' H'
theorem p_note (H : Hd K mg) : Pmt P w K mg base "Seeker" "note" 1 ["self", "entry"] (spM 2 (M_note K)) := pm_of H 70 99 (by kernel_rfl) (by kernel_rfl) rfl ⟨rfl, rfl, by kernel_rfl, by kernel_rfl, by kernel_rfl, by kernel_rfl, by kernel_rfl⟩ sc_Seeker_note (fun vs H' Q E h => h.1) fun vs H0 Q E h => by
  obtain ⟨_, Hf, R, ex, ⟨f, c, S, m, ws, re, v, rfl, sk, hR⟩, q⟩ := h
  obtain ⟨dx, E, N, st, es, ns, kv, h1, h2, h3, h4, h5, h6, h7, h8, h9, h10, h11⟩ := sk.ex
  obtain ⟨tl, hl9⟩ := gi_LOG H
  refine go_fld (ex_op (fun _ _ => op_cat) (ex_slice (r := rSlL K) (fun X ok => by rw [← show X.K = K from ok.K]; exact sl_list) (ex_skA (S := S) H (j := 98) (by kernel_rfl) (ex_var 0 rfl ⟨rfl, h1, rfl, ex_un (fun _ _ => un_neg) (ex_glob (v := .int 30) rfl hl9 ⟨tl, rfl⟩ ⟨30, rfl, ?_⟩)⟩))))
  refine ⟨-30, rfl, N, ns, rfl, SqL.of h3, fun p hp => ex_lst (ax_cons (ex_var 1 rfl (ax_nil ⟨by rw [sizeLine_eq]; exact Nat.le_of_ble_eq_true rfl, fun p2 hp2 => ?_⟩)) (fun _ => rfl))⟩
  have lc : (cutV ns (some (-30)) none).length ≤ 30 := cut30 ns
  have np : p2 ≠ p := fun z => by rw [z, upd_same] at hp2; cases hp2
  have e2 : Ex H0 (upd (upd H0 p (.lst (cutV ns (some (-30)) none))) p2 (.lst [v])) := (Ex.new hp).trans (Ex.new hp2)
  refine ⟨p, p2, cutV ns (some (-30)) none, [v], rfl, rfl, ?_, upd_same, by rw [sizeLine_eq, List.length_singleton]; omega, fun p3 hp3 => ?_⟩
  · rw [upd_ne np.symm, upd_same]
  generalize hH2 : upd (upd H0 p (.lst (cutV ns (some (-30)) none))) p2 (.lst [v]) = H2 at e2 hp3
  have e3 : Ex H0 (upd H2 p3 (.lst (cutV ns (some (-30)) none ++ [v]))) := e2.trans (Ex.new hp3)
  refine ex_var 0 rfl ⟨S, _, dx, _, rfl, e3 _ _ h1, cl_of H (x := "Seeker") (j := 86) (by kernel_rfl), na_of H (j := 98) (by kernel_rfl), Nat.le_of_ble_eq_true rfl, go_nil ?_⟩
  have hS3 : S ≠ p3 := ne_of_none (e2 _ _ h1) hp3
  have exf : Ex Hf (upd (upd H2 p3 (.lst (cutV ns (some (-30)) none ++ [v]))) S (.ins (He.ga K "Seeker") dx [("state", .ref st), ("across", .int (c : Int)), ("elder", .ref E), ("kept", kv), ("noted", .ref p3)])) := fun a o ha => by
    rw [upd_ne (ne_of_none ha h7)]
    exact e3 _ _ (ex a o ha)
  refine q .non Hf _ (Ex.refl _) exf (hR _ _ ⟨dx, E, p3, st, es, cutV ns (some (-30)) none ++ [v], kv, upd_same, ?_, ?_, h4, ?_, ne_of_none (e2 _ _ h2) hp3, h7, h8, fresh_back ex ?_, h10, h11⟩ fun C' dx' fs' N' ns' g1 g2 g3 => ?_)
  · rw [upd_ne (ne_of h2 h1 (fun z => by cases z))]
    exact e3 _ _ h2
  · rw [upd_ne hS3.symm, upd_same]
  · rw [List.length_append, List.length_singleton]
    omega
  · cases hq : H0 p3 with
    | none => rfl
    | some o => rw [e2 _ _ hq] at hp3; cases hp3
  · rw [upd_same] at g1
    obtain ⟨rfl, rfl, rfl⟩ : _ = C' ∧ _ = dx' ∧ _ = fs' := by
      injection g1 with g1
      injection g1 with a1 a2 a3
      exact ⟨a1, a2, a3⟩
    have eN : p3 = N' := by
      have : some (V.ref p3) = some (.ref N') := g2
      injection this with this
      injection this
    rw [← eN, upd_ne hS3.symm, upd_same] at g3
    injection g3 with g3
    injection g3 with g3
    rw [← g3, List.length_append, List.length_singleton]
    omega
/-! step -/
theorem Sk.ref {K : PySem.W.Frag} {f : Fd} {c : Nat} {S : Addr} {m : Nat} {ws : List Ws} {re : Option (List QL)} {Hf H : Hp} (h : Sk K f c S m ws re Hf H) (m2 : Nat) (hm : m ≤ m2) : Sk K f c S m2 ws re Hf H := by
  obtain ⟨dx, E, N, st, es, ns, kv, h1, h2, h3, h4, h5⟩ := h.ex
  exact ⟨dx, E, N, st, es, ns, kv, h1, h2, h3, by omega, h5⟩
/-- what is asked of a deed's place -/
structure DeedOk (f : Fd) (c : Nat) (ws : List Ws) (b : Nat) (r : Row) (x : Str) : Prop where
  fb : f.bk.length ≤ 1000
  hb : b < f.bk.length
  ok : OkR c r
  hw : ws.length ≤ 900
  h3 : ∀ y ∈ ws, y.2.1.length ≤ 3
  can : CanDo ws b r x
def M_step (K : PySem.W.Frag) : List V → Hp → Hp → (V → Hp → Hp → Prop) → Prop := fun vs Hf H R => ∃ f c S m ws re b r x vt, vs = [.ref S, .str x, vt] ∧ Dp K Hf vt (plcD (b, r)) ∧ DeedOk f c ws b r x ∧ Sk K f c S m ws re Hf H ∧ ∀ ws' Hf' H', Deed ws b r x ws' → Sk K f c S m ws' re Hf' H' → R .non Hf' H'
theorem p_step (H : Hd K mg) : Pmt P w K mg base "Seeker" "step" 8 ["self", "word", "things"] (spM 3 (M_step K)) := pm_of H 71 100 (by kernel_rfl) (by kernel_rfl) rfl ⟨rfl, rfl, by kernel_rfl, by kernel_rfl, by kernel_rfl, by kernel_rfl, by kernel_rfl⟩ sc_Seeker_step (fun vs H' Q E h => h.1) fun vs H0 Q E h => by
  obtain ⟨_, Hf, R, ex, ⟨f, c, S, m, ws, re, b, r, x, vt, rfl, dt, ok, sk, hR⟩, q⟩ := h
  have cS := cl_of H (x := "Seeker") (j := 86) (by kernel_rfl)
  obtain ⟨dx, _, _, _, _, _, _, h1, _⟩ := sk.ex
  refine go_set 3 (ex_bl (go_expr (ex_meth (p_note H) (Nat.le_of_ble_eq_true rfl) cS (ex_var 0 rfl ⟨S, dx, _, rfl, h1, rfl, ax_cons (ex_tup (ax_cons (ex_str (ax_cons (ex_var 1 rfl (ax_nil ⟨by rw [sizeLine_eq]; exact Nat.le_of_ble_eq_true rfl, fun p hp => ax_nil ?_⟩)) (fun _ => rfl))) (fun _ => rfl))) (fun _ => rfl)⟩))))
  have tp := Tr.drop (o := .tup [.str "in", .str x]) ex hp
  refine ⟨rfl, Hf, fun v Hf' H' => Sk K f c S m ws re Hf' H' ∧ Few H' S, tp.i, ⟨f, c, S, m, ws, re, .ref p, rfl, sk.step tp, fun _ _ h h2 => ⟨h, h2⟩⟩, fun v Hf1 H1 e1 e2 ⟨sk1, few⟩ => ?_⟩
  obtain ⟨dx, E, N, st, es, ns, kv, h1, h2, h3, h4, h5, h6, h7, h8, h9, h10, h11⟩ := sk1.ex
  refine go_fin (go_fld (ex_callP (p_behind H) (Nat.le_of_ble_eq_true rfl) rfl (ax_cons (ex_skA H (j := 94) (by kernel_rfl) (ex_var 0 rfl ⟨rfl, h1, rfl, ax_cons (ex_skA H (j := 95) (by kernel_rfl) (ex_var 0 rfl ⟨rfl, h1, rfl, ax_cons (ex_var 1 rfl (ax_cons (ex_var 2 rfl (ax_nil ?_)) (fun _ => rfl))) (fun _ => rfl)⟩)) (fun _ => rfl)⟩)) (fun _ => rfl))))
  refine ⟨Hf1, [stD f 2 ws, .py (.int (c : Int)), .py (.str x), .py (plcD (b, r))], fun d => ∃ ws', Deed ws b r x ws' ∧ d = stD f 2 ws', e2, .cons h10 (.cons (Dp.int _) (.cons (Dp.str _) (.cons (dp_mono e1 dt) .nil))), rfl, ⟨f, 2, ws, c, b, r, x, rfl, ok.fb, ok.hb, ok.ok, ok.hw, ok.h3, ok.can, fun ws' hd => ⟨ws', hd, rfl⟩⟩, fun v d Hf2 H2 t2 rv ⟨ws', hd, ed⟩ => ?_⟩
  subst ed
  obtain ⟨st', rfl, A'⟩ := rv
  have i1 := t2.h _ _ h1
  have i2 := t2.h _ _ h2
  have i3 := t2.h _ _ h3
  have i7 := t2.n _ _ h1 h7
  have i8 := t2.n _ _ h2 h8
  have i9 := t2.n _ _ h3 h9
  refine ex_var 0 rfl ⟨S, _, dx, _, rfl, i1, cS, na_of H (j := 94) (by kernel_rfl), Nat.le_of_ble_eq_true rfl, ?_⟩
  have exf : Ex Hf2 (upd H2 S (.ins (He.ga K "Seeker") dx [("state", .ref st'), ("across", .int (c : Int)), ("elder", .ref E), ("kept", kv), ("noted", .ref N)])) := fun a o ha => by
    rw [upd_ne (ne_of_none ha i7)]
    exact t2.i a o ha
  have nE : E ≠ S := ne_of i2 i1 fun z => by cases z
  have nN : N ≠ S := ne_of i3 i1 fun z => by cases z
  show GO _ _ _ _ (upd H2 S (.ins (He.ga K "Seeker") dx [("state", .ref st'), ("across", .int (c : Int)), ("elder", .ref E), ("kept", kv), ("noted", .ref N)]))
  generalize hH3 : upd H2 S (.ins (He.ga K "Seeker") dx [("state", V.ref st'), ("across", V.int (c : Int)), ("elder", V.ref E), ("kept", kv), ("noted", V.ref N)]) = H3 at exf ⊢
  have g1 : H3 S = some (.ins (He.ga K "Seeker") dx [("state", .ref st'), ("across", .int (c : Int)), ("elder", .ref E), ("kept", kv), ("noted", .ref N)]) := by rw [← hH3]; exact upd_same
  have g2 : H3 E = some (.lst es) := by rw [← hH3, upd_ne nE]; exact i2
  have g3 : H3 N = some (.lst ns) := by rw [← hH3, upd_ne nN]; exact i3
  refine go_set 3 (ex_bl (go_nil ?_))
  refine go_append (ex_skA (S := S) H (j := 98) (by kernel_rfl) (ex_var 0 rfl ⟨rfl, g1, rfl, N, rfl, ⟨ns, g3⟩, ex_tup (ax_cons (ex_str (ax_cons (ex_var 1 rfl (ax_cons (ex_var 3 rfl (ax_nil ⟨by rw [sizeLine_eq]; exact Nat.le_of_ble_eq_true rfl, fun p2 hp2 => ?_⟩)) (fun _ => rfl))) (fun _ => rfl))) (fun _ => rfl))⟩))
  have e4 : Ex H3 (upd H3 p2 (.tup [.str "out", .str x, .bl true])) := Ex.new hp2
  refine ⟨ns, e4 _ _ g3, by rw [sizeLine_eq]; omega, go_nil ?_⟩
  generalize hH4 : upd H3 p2 (.tup [.str "out", .str x, .bl true]) = H4 at e4 ⊢
  have exf5 : Ex Hf2 (upd H4 N (.lst (ns ++ [V.ref p2]))) := fun a o ha => by
    rw [upd_ne (ne_of_none ha i9)]
    exact e4 _ _ (exf a o ha)
  refine go_nil (q .non Hf2 _ (e1.trans t2.f) exf5 (hR ws' Hf2 _ hd ⟨dx, E, N, st', es, ns ++ [.ref p2], kv, ?_, ?_, upd_same, h4, ?_, h6, i7, i8, i9, ⟨st', rfl, A'⟩, ?_⟩))
  · rw [upd_ne nN.symm]
    exact e4 _ _ g1
  · rw [upd_ne h6]
    exact e4 _ _ g2
  · rw [List.length_append, List.length_singleton]
    have := few _ _ _ N ns h1 rfl h3
    omega
  · cases re with
    | none => exact h11
    | some ls => exact dp_mono t2.f h11
end
end Fq
/-! FqSm: more methods of the seeker. -/
namespace Fq
open PySem PySem.Spec PyProof.Rows L2 Evl
open RZ
section
variable {P : Program} {w : World} {K : PySem.W.Frag} {mg : Str → Option Value} {base : Heap}
def M_deed (K : PySem.W.Frag) : List V → Hp → Hp → (V → Hp → Hp → Prop) → Prop := fun vs Hf H R => ∃ f c S m ws re b r x vt, vs = [.ref S, .str x, vt] ∧ Dp K Hf vt (plcD (b, r)) ∧ DeedOk f c ws b r x ∧ m ≤ 900 ∧ Sk K f c S m ws re Hf H ∧ ∀ ws' Hf' H', Deed ws b r x ws' → Sk K f c S (m + 1) ws' re Hf' H' → R .non Hf' H'
theorem p_deed (H : Hd K mg) : Pmt P w K mg base "Seeker" "deed" 9 ["self", "word", "things"] (spM 3 (M_deed K)) := pm_of H 72 101 (by kernel_rfl) (by kernel_rfl) rfl ⟨rfl, rfl, by kernel_rfl, by kernel_rfl, by kernel_rfl, by kernel_rfl, by kernel_rfl⟩ sc_Seeker_deed (fun vs H' Q E h => h.1) fun vs H0 Q E h => by
  obtain ⟨_, Hf, R, ex, ⟨f, c, S, m, ws, re, b, r, x, vt, rfl, dt, ok, hm, sk, hR⟩, q⟩ := h
  have cS := cl_of H (x := "Seeker") (j := 86) (by kernel_rfl)
  obtain ⟨dx, _, _, st0, _, _, _, h1, _⟩ := sk.ex
  refine go_set 3 (ex_skA H (j := 94) (by kernel_rfl) (ex_var 0 rfl ⟨rfl, h1, rfl, ?_⟩))
  refine go_expr (ex_meth (p_step H) (Nat.le_of_ble_eq_true rfl) cS (ex_var 0 rfl ⟨S, dx, _, rfl, h1, rfl, ax_cons (ex_var 1 rfl (ax_cons (ex_var 2 rfl (ax_nil ?_)) (fun _ => rfl))) (fun _ => rfl)⟩))
  refine ⟨rfl, Hf, fun v Hf' H' => ∃ ws', Deed ws b r x ws' ∧ Sk K f c S m ws' re Hf' H' ∧ v = .non, ex, ⟨f, c, S, m, ws, re, b, r, x, vt, rfl, dt, ok, sk, fun ws' _ _ hd h => ⟨ws', hd, h, rfl⟩⟩, fun v Hf1 H1 e1 e2 ⟨ws', hd, sk1, _⟩ => ?_⟩
  obtain ⟨dx, E, N, st, es, ns, kv, h1, h2, h3, h4, h5, h6, h7, h8, h9, h10, h11⟩ := sk1.ex
  refine go_append (ex_skA (S := S) H (j := 96) (by kernel_rfl) (ex_var 0 rfl ⟨rfl, h1, rfl, E, rfl, ⟨es, h2⟩, ex_var 3 rfl ⟨es, h2, by rw [sizeLine_eq]; omega, go_nil ?_⟩⟩))
  have nS : S ≠ E := ne_of h1 h2 fun z => by cases z
  have exf : Ex Hf1 (upd H1 E (.lst (es ++ [.ref st0]))) := fun a o ha => by
    rw [upd_ne (ne_of_none ha h8)]
    exact e2 a o ha
  refine q .non Hf1 _ e1 exf (hR ws' Hf1 _ hd ⟨dx, E, N, st, es ++ [.ref st0], ns, kv, ?_, upd_same, ?_, ?_, h5, h6, h7, h8, h9, h10, h11⟩)
  · rw [upd_ne nS]
    exact h1
  · rw [upd_ne h6.symm]
    exact h3
  · rw [List.length_append, List.length_singleton]
    omega
/-- wish, shun, forget -/
def M_do (K : PySem.W.Frag) (x : Str) : List V → Hp → Hp → (V → Hp → Hp → Prop) → Prop := fun vs Hf H R => ∃ f c S m ws re b r vr, vs = [.ref S, .int ((b : Nat) : Int), vr] ∧ Dp K Hf vr (rowD r) ∧ DeedOk f c ws b r x ∧ m ≤ 900 ∧ Sk K f c S m ws re Hf H ∧ ∀ ws' Hf' H', Deed ws b r x ws' → Sk K f c S (m + 1) ws' re Hf' H' → R .non Hf' H'
theorem p_wish (H : Hd K mg) : Pmt P w K mg base "Seeker" "wish" 10 ["self", "book", "row"] (spM 3 (M_do K "wish")) := pm_of H 73 102 (by kernel_rfl) (by kernel_rfl) rfl ⟨rfl, rfl, by kernel_rfl, by kernel_rfl, by kernel_rfl, by kernel_rfl, by kernel_rfl⟩ sc_Seeker_wish (fun vs H' Q E h => h.1) fun vs H0 Q E h => by
  obtain ⟨_, Hf, R, ex, ⟨f, c, S, m, ws, re, b, r, vr, rfl, dt, ok, hm, sk, hR⟩, q⟩ := h
  have cS := cl_of H (x := "Seeker") (j := 86) (by kernel_rfl)
  obtain ⟨dx, _, _, _, _, _, _, h1, _⟩ := sk.ex
  refine go_expr (ex_meth (p_deed H) (Nat.le_of_ble_eq_true rfl) cS (ex_var 0 rfl ⟨S, dx, _, rfl, h1, rfl, ax_cons (ex_str (ax_cons (ex_tup (ax_cons (ex_var 1 rfl (ax_cons (ex_var 2 rfl (ax_nil ⟨by rw [sizeLine_eq]; exact Nat.le_of_ble_eq_true rfl, fun p hp => ax_nil ?_⟩)) (fun _ => rfl))) (fun _ => rfl))) (fun _ => rfl))) (fun _ => rfl)⟩))
  have t := Tr.new (o := .tup [.int ((b : Nat) : Int), vr]) ex hp
  have nf := fresh_back ex hp
  have dn : Dp K (upd Hf p (.tup [.int ((b : Nat) : Int), vr])) (.ref p) (plcD (b, r)) := dp_tup_new (.cons (Dp.int _) (.cons dt .nil)) nf
  exact ⟨rfl, _, fun v Hf' H' => ∃ ws', Deed ws b r "wish" ws' ∧ Sk K f c S (m + 1) ws' re Hf' H', t.i, ⟨f, c, S, m, ws, re, b, r, _, .ref p, rfl, dn, ok, hm, sk.step t, fun ws' _ _ hd h => ⟨ws', hd, h⟩⟩, fun v Hf1 H1 e1 e2 ⟨ws', hd, sk1⟩ => go_nil (q _ _ _ (t.f.trans e1) e2 (hR ws' _ _ hd sk1))⟩
theorem p_shun (H : Hd K mg) : Pmt P w K mg base "Seeker" "shun" 10 ["self", "book", "row"] (spM 3 (M_do K "shun")) := pm_of H 74 103 (by kernel_rfl) (by kernel_rfl) rfl ⟨rfl, rfl, by kernel_rfl, by kernel_rfl, by kernel_rfl, by kernel_rfl, by kernel_rfl⟩ sc_Seeker_shun (fun vs H' Q E h => h.1) fun vs H0 Q E h => by
  obtain ⟨_, Hf, R, ex, ⟨f, c, S, m, ws, re, b, r, vr, rfl, dt, ok, hm, sk, hR⟩, q⟩ := h
  have cS := cl_of H (x := "Seeker") (j := 86) (by kernel_rfl)
  obtain ⟨dx, _, _, _, _, _, _, h1, _⟩ := sk.ex
  refine go_expr (ex_meth (p_deed H) (Nat.le_of_ble_eq_true rfl) cS (ex_var 0 rfl ⟨S, dx, _, rfl, h1, rfl, ax_cons (ex_str (ax_cons (ex_tup (ax_cons (ex_var 1 rfl (ax_cons (ex_var 2 rfl (ax_nil ⟨by rw [sizeLine_eq]; exact Nat.le_of_ble_eq_true rfl, fun p hp => ax_nil ?_⟩)) (fun _ => rfl))) (fun _ => rfl))) (fun _ => rfl))) (fun _ => rfl)⟩))
  have t := Tr.new (o := .tup [.int ((b : Nat) : Int), vr]) ex hp
  have nf := fresh_back ex hp
  have dn : Dp K (upd Hf p (.tup [.int ((b : Nat) : Int), vr])) (.ref p) (plcD (b, r)) := dp_tup_new (.cons (Dp.int _) (.cons dt .nil)) nf
  exact ⟨rfl, _, fun v Hf' H' => ∃ ws', Deed ws b r "shun" ws' ∧ Sk K f c S (m + 1) ws' re Hf' H', t.i, ⟨f, c, S, m, ws, re, b, r, _, .ref p, rfl, dn, ok, hm, sk.step t, fun ws' _ _ hd h => ⟨ws', hd, h⟩⟩, fun v Hf1 H1 e1 e2 ⟨ws', hd, sk1⟩ => go_nil (q _ _ _ (t.f.trans e1) e2 (hR ws' _ _ hd sk1))⟩
theorem p_forget (H : Hd K mg) : Pmt P w K mg base "Seeker" "forget" 10 ["self", "book", "row"] (spM 3 (M_do K "forget")) := pm_of H 75 104 (by kernel_rfl) (by kernel_rfl) rfl ⟨rfl, rfl, by kernel_rfl, by kernel_rfl, by kernel_rfl, by kernel_rfl, by kernel_rfl⟩ sc_Seeker_forget (fun vs H' Q E h => h.1) fun vs H0 Q E h => by
  obtain ⟨_, Hf, R, ex, ⟨f, c, S, m, ws, re, b, r, vr, rfl, dt, ok, hm, sk, hR⟩, q⟩ := h
  have cS := cl_of H (x := "Seeker") (j := 86) (by kernel_rfl)
  obtain ⟨dx, _, _, _, _, _, _, h1, _⟩ := sk.ex
  refine go_expr (ex_meth (p_deed H) (Nat.le_of_ble_eq_true rfl) cS (ex_var 0 rfl ⟨S, dx, _, rfl, h1, rfl, ax_cons (ex_str (ax_cons (ex_tup (ax_cons (ex_var 1 rfl (ax_cons (ex_var 2 rfl (ax_nil ⟨by rw [sizeLine_eq]; exact Nat.le_of_ble_eq_true rfl, fun p hp => ax_nil ?_⟩)) (fun _ => rfl))) (fun _ => rfl))) (fun _ => rfl))) (fun _ => rfl)⟩))
  have t := Tr.new (o := .tup [.int ((b : Nat) : Int), vr]) ex hp
  have nf := fresh_back ex hp
  have dn : Dp K (upd Hf p (.tup [.int ((b : Nat) : Int), vr])) (.ref p) (plcD (b, r)) := dp_tup_new (.cons (Dp.int _) (.cons dt .nil)) nf
  exact ⟨rfl, _, fun v Hf' H' => ∃ ws', Deed ws b r "forget" ws' ∧ Sk K f c S (m + 1) ws' re Hf' H', t.i, ⟨f, c, S, m, ws, re, b, r, _, .ref p, rfl, dn, ok, hm, sk.step t, fun ws' _ _ hd h => ⟨ws', hd, h⟩⟩, fun v Hf1 H1 e1 e2 ⟨ws', hd, sk1⟩ => go_nil (q _ _ _ (t.f.trans e1) e2 (hR ws' _ _ hd sk1))⟩
/-! standing -/
def M_standing (K : PySem.W.Frag) : List V → Hp → Hp → (V → Hp → Hp → Prop) → Prop := fun vs Hf H R => ∃ f c S m ws re, vs = [.ref S] ∧ Sk K f c S m ws re Hf H ∧ ∀ v, Dp K Hf v (.tuple (ws.map wsD)) → R v Hf H
theorem p_standing (H : Hd K mg) : Pmt P w K mg base "Seeker" "standing" 1 ["self"] (spM 1 (M_standing K)) := pm_of H 76 105 (by kernel_rfl) (by kernel_rfl) rfl ⟨rfl, rfl, by kernel_rfl, by kernel_rfl, by kernel_rfl, by kernel_rfl, by kernel_rfl⟩ sc_Seeker_standing (fun vs H' Q E h => h.1) fun vs H0 Q E h => by
  obtain ⟨_, Hf, R, ex, ⟨f, c, S, m, ws, re, rfl, sk, hR⟩, q⟩ := h
  obtain ⟨dx, E, N, st, es, ns, kv, h1, h2, h3, h4, h5, h6, h7, h8, h9, h10, h11⟩ := sk.ex
  exact go_ret (ex_stA H (ex_skA H (j := 94) (by kernel_rfl) (ex_var 0 rfl ⟨rfl, h1, rfl, Hf, ex, h10, .inr (.inr ⟨rfl, fun v dv => q v _ _ (Ex.refl _) ex (hR v dv)⟩)⟩)))
end
end Fq
/-! FqSn: reached, fitting, least, ask. -/
namespace Fq
open PySem PySem.Spec PyProof.Rows L2 Evl
open RZ
/-! data of books and lots is plain -/
theorem plA {α : Type} (e : α → PyData) : ∀ l : List α, (∀ x ∈ l, (e x).plain = true) → PyData.plainAll (l.map e) = true
  | [], _ => rfl
  | x :: l, h => by
    rw [List.map_cons, PyData.plainAll, h x (List.mem_cons_self ..), plA e l fun y hy => h y (List.mem_cons_of_mem _ hy)]
    rfl
theorem deA {α : Type} (e : α → PyData) (n : Nat) : ∀ l : List α, (∀ x ∈ l, (e x).depth ≤ n) → PyData.depthAll (l.map e) ≤ n
  | [], _ => Nat.zero_le _
  | x :: l, h => by
    rw [List.map_cons, PyData.depthAll]
    have h1 := h x (List.mem_cons_self ..)
    have h2 := deA e n l fun y hy => h y (List.mem_cons_of_mem _ hy)
    omega
theorem bks_pl (bs : List Bk) : Pl (bksD bs) := by
  have d1 : ∀ b : Bk, (bkD b).plain = true := fun b => by
    unfold bkD
    rw [PyData.plain]
    exact plA tbD b fun t _ => tb_plain t
  have d2 : ∀ b : Bk, (bkD b).depth ≤ 5 := fun b => by
    unfold bkD
    rw [PyData.depth]
    have := deA tbD 4 b fun t _ => Nat.le_trans (tb_depth t) (by omega)
    omega
  refine ⟨?_, ?_⟩
  · unfold bksD
    rw [PyData.plain]
    exact plA bkD bs fun b _ => d1 b
  · unfold bksD
    rw [PyData.depth]
    have := deA bkD 5 bs fun b _ => d2 b
    omega
theorem bks_depth (bs : List Bk) : (bksD bs).depth ≤ 10 := by
  have d2 : ∀ b : Bk, (bkD b).depth ≤ 5 := fun b => by
    unfold bkD
    rw [PyData.depth]
    have := deA tbD 4 b fun t _ => Nat.le_trans (tb_depth t) (by omega)
    omega
  unfold bksD
  rw [PyData.depth]
  have := deA bkD 5 bs fun b _ => d2 b
  omega
theorem mv_plain (m : Mv) : PyData.plainAll (mvL m) = true := by
  cases m with
  | same i j => rfl
  | below i j => rfl
  | value i v =>
    simp only [mvL, PyData.plainAll, vl_plain]
    rfl
  | take p =>
    simp only [mvL, PyData.plainAll, (nats_pl p).pl]
    rfl
theorem mv_depth (m : Mv) : PyData.depthAll (mvL m) ≤ 2 := by
  cases m with
  | same i j => simp [mvL, PyData.depthAll, PyData.depth]
  | below i j => simp [mvL, PyData.depthAll, PyData.depth]
  | value i v => simp [mvL, PyData.depthAll, PyData.depth, vl_depth]
  | take p =>
    have := nats_depth p
    simp only [mvL, natsD, PyData.depthAll, PyData.depth, this]
    omega
theorem plainAll_append : ∀ a b : List PyData, PyData.plainAll (a ++ b) = (PyData.plainAll a && PyData.plainAll b)
  | [], _ => rfl
  | x :: a, b => by
    rw [List.cons_append, PyData.plainAll, PyData.plainAll, plainAll_append a b, Bool.and_assoc]
theorem depthAll_append : ∀ a b : List PyData, PyData.depthAll (a ++ b) = max (PyData.depthAll a) (PyData.depthAll b)
  | [], b => by simp [PyData.depthAll]
  | x :: a, b => by
    rw [List.cons_append, PyData.depthAll, PyData.depthAll, depthAll_append a b]
    omega
theorem qn_plain (q : Qn) : (qnD q).plain = true := by
  cases q with
  | tab nm => rfl
  | one m nm =>
    unfold qnD
    rw [PyData.plain, plainAll_append, mv_plain]
    rfl
theorem qn_depth (q : Qn) : (qnD q).depth ≤ 5 := by
  cases q with
  | tab nm => simp [qnD, PyData.depth]
  | one m nm =>
    unfold qnD
    rw [PyData.depth, depthAll_append]
    have := mv_depth m
    simp [PyData.depthAll, PyData.depth]
    omega
theorem okL_of {f : Fd} {l : QL} (ok : OkQL f l) : OkL f.bk.length (qlL l) := ⟨qn_plain _, qn_depth _, ok.an, ok.rs⟩
theorem lsD_eq (ls : List QL) : lsD ls = .tuple ((ls.map qlL).map lotD) := by
  unfold lsD
  rw [List.map_map]
  rfl
section
variable {i : XI} {σ : L2.St} {Hf H : Hp} {Q : VK}
/-- a tuple's part told by data -/
theorem ex_ixTD {a : Expr} {n : Int} {kk : Nat} {p1 pos : Pos} {d : PyData} {ds : List PyData} (h : EX i a σ H fun x H1 => ∃ Hf1, Ex Hf1 H1 ∧ Dp i.K Hf1 x (.tuple ds) ∧ ∀ z, Dp i.K Hf1 z d → Q z H1) (hat : atI ds n = some d) (hs : PlainIx (.Constant (.int n) kk p1) := by intro _ _; rfl) : EX i (.Subscript a (.Constant (.int n) kk p1) pos) σ H Q :=
  ex_ix (r := rIxT i.K) (fun X ok => by rw [← ok.K]; exact ix_tup) (h.mono fun x H1 ⟨Hf1, e, r1, q⟩ => ex_int (by
    obtain ⟨p, xs, rfl, h1, d1⟩ := dp_tup r1
    obtain ⟨j, h2, h3, _⟩ := atI_get hat
    obtain ⟨z, h4, h5⟩ := dpAll_get d1 h3
    refine ⟨p, xs, n, z, rfl, rfl, ex_t e h1, ?_, q z h5⟩
    unfold atI at hat ⊢
    rw [dpAll_len d1]
    cases e9 : ixN ds.length n with
    | none => rw [e9] at hat; cases hat
    | some k =>
      rw [e9] at hat
      have e8 := (ixN_seq e9).1
      rw [h2] at e8
      have e7 := Option.some.inj e8
      rw [← e7]
      exact h4)) hs
end
section
variable {P : Program} {w : World} {K : PySem.W.Frag} {mg : Str → Option Value} {base : Heap}
/-! reached -/
def ReOk (f : Fd) : Option (List QL) → List QL → Prop
  | none, ls => OkRe f ls
  | some l, ls => ls = l
def M_reached (K : PySem.W.Frag) : List V → Hp → Hp → (V → Hp → Hp → Prop) → Prop := fun vs Hf H R => ∃ f c S m ws re, vs = [.ref S] ∧ OkF f ∧ Sk K f c S m ws re Hf H ∧ ∀ ls v Hf' H', ReOk f re ls → Sk K f c S m ws (some ls) Hf' H' → Dp K Hf' v (lsD ls) → R v Hf' H'
theorem p_reached (H : Hd K mg) (O : OneOk w K) : Pmt P w K mg base "Seeker" "reached" 12 ["self"] (spM 1 (M_reached K)) := pm_of H 77 106 (by kernel_rfl) (by kernel_rfl) rfl ⟨rfl, rfl, by kernel_rfl, by kernel_rfl, by kernel_rfl, by kernel_rfl, by kernel_rfl⟩ sc_Seeker_reached (fun vs H' Q E h => h.1) fun vs H0 Q E h => by
  obtain ⟨_, Hf, R, ex, ⟨f, c, S, m, ws, re, rfl, okf, sk, hR⟩, q⟩ := h
  have cS := cl_of H (x := "Seeker") (j := 86) (by kernel_rfl)
  obtain ⟨dx, E, N, st, es, ns, kv, h1, h2, h3, h4, h5, h6, h7, h8, h9, h10, h11⟩ := sk.ex
  refine go_set 1 (ex_tup (ax_cons (ex_fdA (f := f) H (ex_stA H (ex_skA H (j := 94) (by kernel_rfl) (ex_var 0 rfl ⟨rfl, h1, rfl, Hf, ex, h10, .inl ⟨rfl, fun vf rf => ⟨Hf, ex, rf, fun vb db => ?_⟩⟩⟩)))) (fun _ => rfl)))
  refine ax_cons (ex_stA H (ex_skA H (j := 94) (by kernel_rfl) (ex_var 0 rfl ⟨rfl, h1, rfl, Hf, ex, h10, .inr (.inl ⟨rfl, ax_nil ⟨by rw [sizeLine_eq]; exact Nat.le_of_ble_eq_true rfl, fun p hp => ?_⟩⟩)⟩))) (fun _ => rfl)
  have t := Tr.new (o := .tup [vb, .int ((2 : Nat) : Int)]) ex hp
  have dn : Dp K (upd Hf p (.tup [vb, .int ((2 : Nat) : Int)])) (.ref p) (.tuple [bksD f.bk, .int 2]) := dp_tup_new (.cons db (.cons (Dp.int _) .nil)) (fresh_back ex hp)
  have sk1 := sk.step t
  have ex1 := t.i
  have tf := t.f
  clear t
  generalize upd Hf p (.tup [vb, .int ((2 : Nat) : Int)]) = Hf1 at dn sk1 ex1 tf
  generalize upd H0 p (.tup [vb, .int ((2 : Nat) : Int)]) = H1 at sk1 ex1
  clear h1 h2 h3 h5 h7 h8 h9 h10 h11 h4 h6
  obtain ⟨dx, E, N, st, es, ns, kv, h1, h2, h3, h4, h5, h6, h7, h8, h9, h10, h11⟩ := sk1.ex
  refine go_if (tx_w (wx_or (tx_cmp (fun _ _ => op_isN) rfl (ex_skA H (j := 97) (by kernel_rfl) (ex_var 0 rfl ⟨rfl, h1, rfl, ex_non ⟨rfl, _, rfl, ?_⟩⟩)))))
  cases re with
  | none =>
    have h11 : kv = V.non := h11
    subst h11
    refine iteT (iteT (go_fld (ex_tup (ax_cons (ex_var 1 rfl (ax_cons (ex_callP (p_reach H O) (Nat.le_of_ble_eq_true rfl) rfl (ax_cons (ex_stA H (ex_skA H (j := 94) (by kernel_rfl) (ex_var 0 rfl ⟨rfl, h1, rfl, Hf1, ex1, h10, .inl ⟨rfl, fun vf rf => ?_⟩⟩))) (fun _ => rfl))) (fun _ => rfl))) (fun _ => rfl)))))
    refine ax_cons (ex_stA H (ex_skA H (j := 94) (by kernel_rfl) (ex_var 0 rfl ⟨rfl, h1, rfl, Hf1, ex1, h10, .inr (.inl ⟨rfl, ax_nil ?_⟩)⟩))) (fun _ => rfl)
    refine ⟨Hf1, [fdD f, .py (.int 2)], fun d => ∃ ls, OkRe f ls ∧ d = .py (lsD ls), ex1, .cons rf (.cons (Dp.int _) .nil), rfl, ⟨f, rfl, okf, fun ls o => ⟨ls, o, rfl⟩⟩, fun v d Hf2 H2 t2 rv ⟨ls, okl, ed⟩ => ?_⟩
    subst ed
    have rv : Dp K Hf2 v (lsD ls) := rv
    refine ax_nil ⟨by rw [sizeLine_eq]; exact Nat.le_of_ble_eq_true rfl, fun p2 hp2 => ?_⟩
    have t3 := Tr.new (o := .tup [.ref p, v]) t2.i hp2
    have dk : Dp K (upd Hf2 p2 (.tup [.ref p, v])) (.ref p2) (kptD f ls) := dp_tup_new (.cons (dp_mono t2.f dn) (.cons rv .nil)) (fresh_back t2.i hp2)
    have T := t2.trans t3
    have ex3 := t3.i
    have rv3 := dp_mono t3.f rv
    clear t3
    generalize upd Hf2 p2 (.tup [V.ref p, v]) = Hf3 at dk T ex3 rv3
    generalize upd H2 p2 (.tup [V.ref p, v]) = H3 at T ex3
    have i1 := T.h _ _ h1
    have i2 := T.h _ _ h2
    have i3 := T.h _ _ h3
    have i7 := T.n _ _ h1 h7
    have i8 := T.n _ _ h2 h8
    have i9 := T.n _ _ h3 h9
    refine ex_var 0 rfl ⟨S, _, dx, _, rfl, i1, cS, na_of H (j := 97) (by kernel_rfl), Nat.le_of_ble_eq_true rfl, ?_⟩
    show GO _ _ _ _ (upd H3 S (.ins (He.ga K "Seeker") dx [("state", .ref st), ("across", .int (c : Int)), ("elder", .ref E), ("kept", .ref p2), ("noted", .ref N)]))
    have exf : Ex Hf3 (upd H3 S (.ins (He.ga K "Seeker") dx [("state", .ref st), ("across", .int (c : Int)), ("elder", .ref E), ("kept", .ref p2), ("noted", .ref N)])) := fun a o ha => by
      rw [upd_ne (ne_of_none ha i7)]
      exact ex3 a o ha
    have nE : E ≠ S := ne_of i2 i1 fun z => by cases z
    have nN : N ≠ S := ne_of i3 i1 fun z => by cases z
    generalize hH4 : upd H3 S (.ins (He.ga K "Seeker") dx [("state", V.ref st), ("across", V.int (c : Int)), ("elder", V.ref E), ("kept", V.ref p2), ("noted", V.ref N)]) = H4 at exf ⊢
    have g1 : H4 S = some (.ins (He.ga K "Seeker") dx [("state", .ref st), ("across", .int (c : Int)), ("elder", .ref E), ("kept", .ref p2), ("noted", .ref N)]) := by rw [← hH4]; exact upd_same
    have g2 : H4 E = some (.lst es) := by rw [← hH4, upd_ne nE]; exact i2
    have g3 : H4 N = some (.lst ns) := by rw [← hH4, upd_ne nN]; exact i3
    have sk4 : Sk K f c S m ws (some ls) Hf3 H4 := ⟨dx, E, N, st, es, ns, .ref p2, g1, g2, g3, h4, h5, h6, i7, i8, i9, rp_mono T.f h10, dk⟩
    exact go_nil (go_ret (ex_ixTD (d := lsD ls) (ex_skA H (j := 97) (by kernel_rfl) (ex_var 0 rfl ⟨rfl, g1, rfl, Hf3, exf, dk, fun z dz => q z _ _ (tf.trans T.f) exf (hR ls z _ _ okl sk4 dz)⟩)) (atI_nat (j := 1) rfl)))
  | some ls =>
    have h11 : Dp K Hf1 kv (kptD f ls) := h11
    obtain ⟨a, xs, rfl, _, _⟩ := dp_tup h11
    refine iteF (wx_or1 (tx_cmp rOD_ok rfl (ex_ixTD (d := .tuple [bksD f.bk, .int 2]) (ex_skA H (j := 97) (by kernel_rfl) (ex_var 0 rfl ⟨rfl, h1, rfl, Hf1, ex1, h11, fun z dz => ex_var 1 rfl ?_⟩)) (atI_nat (j := 0) rfl))))
    have pn : Pl (.tuple [bksD f.bk, .int 2]) := ⟨by rw [PyData.plain, PyData.plainAll, (bks_pl f.bk).pl]; rfl, by have := bks_depth f.bk; simp only [PyData.depth, PyData.depthAll]; omega⟩
    refine ⟨.py (.tuple [bksD f.bk, .int 2]), .py (.tuple [bksD f.bk, .int 2]), Hf1, fun d => d = .py (.bool false), ex1, dz, dn, od_ne pn pn (by rw [eqv_self _ pn.pl]; rfl), fun z2 d Hf2 H2 t2 r2 ed => ?_⟩
    subst ed
    cases r2
    have sk2 := sk1.step t2
    have i1 := t2.h _ _ h1
    have d2 := dp_mono t2.f h11
    exact ⟨false, rfl, iteF (go_nil (go_ret (ex_ixTD (d := lsD ls) (ex_skA H (j := 97) (by kernel_rfl) (ex_var 0 rfl ⟨rfl, i1, rfl, Hf2, t2.i, d2, fun z dz => q z _ _ (tf.trans t2.f) t2.i (hR ls z _ _ rfl sk2 dz)⟩)) (atI_nat (j := 1) rfl))))⟩
/-! fitting, least, ask -/
theorem reOk_ok {f : Fd} {re : Option (List QL)} {ls : List QL} (h : ∀ l, re = some l → OkRe f l) (r : ReOk f re ls) : OkRe f ls := by
  cases re with
  | none => exact r
  | some l =>
    have r : ls = l := r
    rw [r]
    exact h l rfl
theorem OkRe.len1 {f : Fd} {ls : List QL} (h : OkRe f ls) (ok : OkF f) : ls.length ≤ 183 := by
  obtain ⟨b, hb, okb, eh⟩ := ok.bk.fst
  have h1 := h.len
  rw [eh] at h1
  have h2 := okb.hi
  omega
/-- what is asked of a seeker that tells what fits -/
structure FitOk (f : Fd) (ws : List Ws) (re : Option (List QL)) : Prop where
  ok : OkF f
  hw : ws.length ≤ 900
  hb : ∀ x ∈ ws, x.1 < f.bk.length
  re : ∀ l, re = some l → OkRe f l
def fitL (ls : List QL) (c : Nat) (ws : List Ws) : List Lot := cands (ls.map qlL) c ws
def M_fitting (K : PySem.W.Frag) : List V → Hp → Hp → (V → Hp → Hp → Prop) → Prop := fun vs Hf H R => ∃ f c S m ws re, vs = [.ref S] ∧ FitOk f ws re ∧ Sk K f c S m ws re Hf H ∧ ∀ ls v Hf' H', OkRe f ls → ReOk f re ls → Sk K f c S m ws (some ls) Hf' H' → Dp K Hf' v (.tuple ((fitL ls c ws).map lotD)) → R v Hf' H'
theorem p_fitting (H : Hd K mg) (O : OneOk w K) : Pmt P w K mg base "Seeker" "fitting" 13 ["self"] (spM 1 (M_fitting K)) := pm_of H 78 107 (by kernel_rfl) (by kernel_rfl) rfl ⟨rfl, rfl, by kernel_rfl, by kernel_rfl, by kernel_rfl, by kernel_rfl, by kernel_rfl⟩ sc_Seeker_fitting (fun vs H' Q E h => h.1) fun vs H0 Q E h => by
  obtain ⟨_, Hf, R, ex, ⟨f, c, S, m, ws, re, rfl, ok, sk, hR⟩, q⟩ := h
  have cS := cl_of H (x := "Seeker") (j := 86) (by kernel_rfl)
  obtain ⟨dx, _, _, _, _, _, _, h1, _⟩ := sk.ex
  refine go_ret (ex_callP (p_candidates H) (Nat.le_of_ble_eq_true rfl) rfl (ax_cons (ex_meth0 (p_reached H O) (Nat.le_of_ble_eq_true rfl) cS (ex_var 0 rfl ⟨S, dx, _, rfl, h1, rfl, ?_⟩)) (fun _ => rfl)))
  refine ⟨rfl, Hf, fun v Hf' H' => ∃ ls, ReOk f re ls ∧ Sk K f c S m ws (some ls) Hf' H' ∧ Dp K Hf' v (lsD ls), ex, ⟨f, c, S, m, ws, re, rfl, ok.ok, sk, fun ls v _ _ a b d => ⟨ls, a, b, d⟩⟩, fun v Hf1 H1 e1 e2 ⟨ls, rok, sk1, dv⟩ => ?_⟩
  obtain ⟨dx, E, N, st, es, ns, kv, h1, h2, h3, h4, h5, h6, h7, h8, h9, h10, h11⟩ := sk1.ex
  have okl := reOk_ok ok.re rok
  have hz := okl.len1 ok.ok
  refine ax_cons (ex_skA H (j := 95) (by kernel_rfl) (ex_var 0 rfl ⟨rfl, h1, rfl, ax_cons (ex_stA H (ex_skA H (j := 94) (by kernel_rfl) (ex_var 0 rfl ⟨rfl, h1, rfl, Hf1, e2, h10, .inr (.inr ⟨rfl, fun vw dw => ax_nil ?_⟩)⟩))) (fun _ => rfl)⟩)) (fun _ => rfl)
  refine ⟨Hf1, [.py (lsD ls), .py (.int (c : Int)), .py (.tuple (ws.map wsD))], fun d => d = .py (.tuple ((fitL ls c ws).map lotD)), e2, .cons dv (.cons (Dp.int _) (.cons dw .nil)), rfl, ⟨ls.map qlL, c, ws, by rw [lsD_eq], by rw [List.length_map]; omega, by have := ok.hw; omega, fun l hl x hx => ?_, rfl⟩, fun z d Hf2 H2 t2 r2 ed => ?_⟩
  · obtain ⟨l0, hl0, rfl⟩ := List.mem_map.mp hl
    show x.1 < l0.an.length
    rw [(okl.ok l0 hl0).an]
    exact ok.hb x hx
  · subst ed
    exact q z Hf2 H2 (e1.trans t2.f) t2.i (hR ls z Hf2 H2 okl rok (sk1.step t2) r2)
def M_least (K : PySem.W.Frag) : List V → Hp → Hp → (V → Hp → Hp → Prop) → Prop := fun vs Hf H R => ∃ f c S m ws re, vs = [.ref S] ∧ FitOk f ws re ∧ Sk K f c S m ws re Hf H ∧ ∀ ls v Hf' H', OkRe f ls → ReOk f re ls → Sk K f c S m ws (some ls) Hf' H' → (fitL ls c ws = [] → v = .non) → (∀ l rest, fitL ls c ws = l :: rest → Dp K Hf' v l.q) → R v Hf' H'
theorem fit_ok {f : Fd} {ls : List QL} (h : OkRe f ls) (c : Nat) (ws : List Ws) : ∀ l ∈ fitL ls c ws, OkL f.bk.length l := fun l hl => by
  obtain ⟨l0, hl0, rfl⟩ := List.mem_map.mp (List.mem_filter.mp hl).1
  exact okL_of (h.ok l0 hl0)
theorem fit_len (ls : List QL) (c : Nat) (ws : List Ws) : (fitL ls c ws).length ≤ ls.length := by
  unfold fitL cands
  exact Nat.le_trans (List.length_filter_le _ _) (by rw [List.length_map]; omega)
theorem p_least (H : Hd K mg) (O : OneOk w K) : Pmt P w K mg base "Seeker" "least" 14 ["self"] (spM 1 (M_least K)) := pm_of H 79 108 (by kernel_rfl) (by kernel_rfl) rfl ⟨rfl, rfl, by kernel_rfl, by kernel_rfl, by kernel_rfl, by kernel_rfl, by kernel_rfl⟩ sc_Seeker_least (fun vs H' Q E h => h.1) fun vs H0 Q E h => by
  obtain ⟨_, Hf, R, ex, ⟨f, c, S, m, ws, re, rfl, ok, sk, hR⟩, q⟩ := h
  have cS := cl_of H (x := "Seeker") (j := 86) (by kernel_rfl)
  obtain ⟨dx, _, _, _, _, _, _, h1, _⟩ := sk.ex
  refine go_set 1 (ex_meth0 (p_fitting H O) (Nat.le_of_ble_eq_true rfl) cS (ex_var 0 rfl ⟨S, dx, _, rfl, h1, rfl, ?_⟩))
  refine ⟨rfl, Hf, fun v Hf' H' => ∃ ls, OkRe f ls ∧ ReOk f re ls ∧ Sk K f c S m ws (some ls) Hf' H' ∧ Dp K Hf' v (.tuple ((fitL ls c ws).map lotD)), ex, ⟨f, c, S, m, ws, re, rfl, ok, sk, fun ls v _ _ a b d e => ⟨ls, a, b, d, e⟩⟩, fun v Hf1 H1 e1 e2 ⟨ls, okl, rok, sk1, dv⟩ => ?_⟩
  refine go_if (tx_cmp rOD_ok rfl (ex_var 1 rfl (ex_tup (ax_nil ⟨by rw [sizeLine_eq]; exact Nat.le_of_ble_eq_true rfl, fun p hp => ?_⟩))))
  have t := Tr.new (o := .tup []) e2 hp
  have dn : Dp K (upd Hf1 p (.tup [])) (.ref p) (.tuple []) := dp_tup_new .nil (fresh_back e2 hp)
  refine ⟨.py (.tuple ((fitL ls c ws).map lotD)), .py (.tuple []), _, fun d => d = .py (.bool (decide (fitL ls c ws = []))), t.i, dp_mono t.f dv, dn, od_eq (lots_pl (fit_ok okl c ws)) emp_pl (by rw [eqv_nilT, List.isEmpty_map]; cases fitL ls c ws <;> rfl), fun z d Hf2 H2 t2 r2 ed => ?_⟩
  subst ed
  cases r2
  refine ⟨_, rfl, ?_⟩
  have T := t.trans t2
  cases hc : fitL ls c ws with
  | nil =>
    refine iteT (go_ret (ex_non (q _ _ _ (e1.trans T.f) T.i (hR ls _ _ _ okl rok (sk1.step T) (fun _ => rfl) fun l rest hh => ?_))))
    rw [hc] at hh
    cases hh
  | cons l rest =>
    have dv2 := dp_mono T.f dv
    rw [hc] at dv2
    refine iteF (go_nil (go_ret (ex_ixTD (d := l.q) (ex_ixTD (d := lotD l) (ex_var 1 rfl ⟨_, T.i, dv2, fun z dz => ⟨_, T.i, dz, fun z2 dz2 => q _ _ _ (e1.trans T.f) T.i (hR ls _ _ _ okl rok (sk1.step T) (fun hh => ?_) fun l' rest' hh => ?_)⟩⟩) (atI_nat (j := 0) rfl)) (atI_nat (j := 1) rfl))))
    · rw [hc] at hh
      cases hh
    · rw [hc] at hh
      cases hh
      exact dz2
def M_ask (K : PySem.W.Frag) : List V → Hp → Hp → (V → Hp → Hp → Prop) → Prop := fun vs Hf H R => ∃ f c S m ws re, vs = [.ref S] ∧ FitOk f ws re ∧ (f.bk.headD []).length ≤ 2 ∧ f.bk.length ≤ 3 ∧ Sk K f c S m ws re Hf H ∧ ∀ ls v Hf' H', OkRe f ls → ReOk f re ls → Sk K f c S m ws (some ls) Hf' H' →
  ((asks (fitL ls c ws) = [] ∧ v = .non) ∨ ∃ x ∈ asks (fitL ls c ws), (∀ y ∈ asks (fitL ls c ws), askW x ≤ askW y) ∧ Dp K Hf' v (plcD (x.1, x.2.1))) → R v Hf' H'
theorem p_ask (H : Hd K mg) (O : OneOk w K) : Pmt P w K mg base "Seeker" "ask" 14 ["self"] (spM 1 (M_ask K)) := pm_of H 80 109 (by kernel_rfl) (by kernel_rfl) rfl ⟨rfl, rfl, by kernel_rfl, by kernel_rfl, by kernel_rfl, by kernel_rfl, by kernel_rfl⟩ sc_Seeker_ask (fun vs H' Q E h => h.1) fun vs H0 Q E h => by
  obtain ⟨_, Hf, R, ex, ⟨f, c, S, m, ws, re, rfl, ok, hz2, hz3, sk, hR⟩, q⟩ := h
  have cS := cl_of H (x := "Seeker") (j := 86) (by kernel_rfl)
  obtain ⟨dx, _, _, _, _, _, _, h1, _⟩ := sk.ex
  refine go_ret (ex_callP (p_next_ask H) (Nat.le_of_ble_eq_true rfl) rfl (ax_cons (ex_meth0 (p_fitting H O) (Nat.le_of_ble_eq_true rfl) cS (ex_var 0 rfl ⟨S, dx, _, rfl, h1, rfl, ?_⟩)) (fun _ => rfl)))
  refine ⟨rfl, Hf, fun v Hf' H' => ∃ ls, OkRe f ls ∧ ReOk f re ls ∧ Sk K f c S m ws (some ls) Hf' H' ∧ Dp K Hf' v (.tuple ((fitL ls c ws).map lotD)), ex, ⟨f, c, S, m, ws, re, rfl, ok, sk, fun ls v _ _ a b d e => ⟨ls, a, b, d, e⟩⟩, fun v Hf1 H1 e1 e2 ⟨ls, okl, rok, sk1, dv⟩ => ax_nil ?_⟩
  refine ⟨Hf1, [.py (.tuple ((fitL ls c ws).map lotD))], fun d => (asks (fitL ls c ws) = [] ∧ d = .py .none) ∨ ∃ x ∈ asks (fitL ls c ws), (∀ y ∈ asks (fitL ls c ws), askW x ≤ askW y) ∧ d = .py (plcD (x.1, x.2.1)), e2, .cons dv .nil, rfl, ⟨fitL ls c ws, f.bk.length, rfl, fit_ok okl c ws, hz3, ?_, fun h => .inl ⟨h, rfl⟩, fun x hx hm => .inr ⟨x, hx, hm, rfl⟩⟩, fun z d Hf2 H2 t2 r2 ed => ?_⟩
  · have a1 := fit_len ls c ws
    have a2 := okl.len
    omega
  · refine q z Hf2 H2 (e1.trans t2.f) t2.i (hR ls z Hf2 H2 okl rok (sk1.step t2) ?_)
    rcases ed with ⟨a, rfl⟩ | ⟨x, hx, hm, rfl⟩
    · cases r2
      exact .inl ⟨a, rfl⟩
    · exact .inr ⟨x, hx, hm, r2⟩
end
end Fq
/-! FqI: Field(..) and Seeker(..). -/
namespace Fq
open PySem PySem.Spec PyProof.Rows L2 Evl
open RZ
section
variable {P : Program} {w : World} {K : PySem.W.Frag} {mg : Str → Option Value} {base : Heap}
abbrev psF : List Str := ["self", "books", "named", "deeds"]
abbrev ksF : List Str := ["named", "deeds"]
theorem Tr.own {Hf H0 Hf1 H1 : Hp} {x : Addr} {o : HO} (o' : HO) (t : Tr Hf (upd H0 x o) Hf1 H1) (hx : H0 x = none) (ex : Ex Hf H0) : Tr Hf H0 Hf1 (upd H1 x o') := by
  have hn : Hf x = none := fresh_back ex hx
  have n1 := t.n _ _ upd_same hn
  refine ⟨t.f, fun a u ha => ?_, fun a u ha => ?_, fun a u ha hb => ?_⟩
  · rw [upd_ne (ne_of_none ha n1)]
    exact t.i a u ha
  · have na : a ≠ x := ne_of_none ha hx
    rw [upd_ne na]
    exact t.h a u (by rw [upd_ne na]; exact ha)
  · have na : a ≠ x := ne_of_none ha hx
    exact t.n a u (by rw [upd_ne na]; exact ha) hb
def spField (K : PySem.W.Frag) : Sp := fun vs H Q _ => ∃ x dx vb vn vd Hf H0 bs ns ws, vs = [V.ref x, vb, vn, vd] ∧ H = upd H0 x (.ins (He.ga K "Field") dx []) ∧ H0 x = none ∧ Ex Hf H0 ∧ Dp K Hf vb (bksD bs) ∧ OkBs bs ∧ Dp K Hf vn (nmD ns) ∧ ns.length ≤ 3 ∧ (∀ v ∈ ns, okV v) ∧ Dp K Hf vd (ddD ws) ∧ ws.length ≤ 9 ∧ (∀ x ∈ ws, x ∈ deedsS) ∧
  ∀ Hf' H', Tr Hf H0 Hf' H' → Rp K Hf' (.ref x) (fdD ⟨bs, vrisenM ns, deedsS.filter fun x => decide (x ∈ ws)⟩) → Q .non H'
theorem p_Field_init (H : Hd K mg) : ∃ fd, FnOk P w K mg base CX0 9 (He.ma K (He.ga K "Field") "__init__") fd psF (spField K) ∧ KBn K fd psF 2 ksF (fun us ws => us ++ ws) (fun vs zs => vs ++ zs) := by
  obtain ⟨fd, F⟩ := H.c.def_ 28 (d := d_Field_init) (by kernel_rfl)
  refine ⟨fd, fn_go F sc_Field_init (fun vs H' Q E ⟨x, dx, vb, vn, vd, _, _, _, _, _, e, _⟩ => by rw [e]; rfl) (fun vs H0 Q E ⟨x, dx, vb, vn, vd, Hf, Hb, bs, ns, ws, e, eH, hx, exb, db, okb, dn, nz, okn, dd, dz, okd, q⟩ => ?_), ?_⟩
  · subst e eH
    have c := cl_of H (x := "Field") (j := 80) (by kernel_rfl)
    have hn : Hf x = none := fresh_back exb hx
    have ex : Ex Hf (upd Hb x (.ins (He.ga K "Field") dx [])) := exb.trans (Ex.new hx)
    have hρ : RpE K Hf (L2.start N_Field_init [V.ref x, vb, vn, vd]) (st0 N_Field_init [refDt x, .py (bksD bs), .py (nmD ns), .py (ddD ws)]) := RpE.of_args _ (.cons rfl (.cons db (.cons dn (.cons dd .nil))))
    refine gm_if (Φ := fun b => b = false) hρ ex (et_not (et_val (ee_call (p_are_books H).fnc (ea_cons (ee_var 1 rfl (ea_nil ⟨rfl, bs, rfl, okb, true, rfl, rfl⟩)))))) fun b Hf1 H1 t1 eb => ?_
    subst eb
    refine iteF (go_nil ?_)
    have h1 := t1.h _ _ upd_same
    refine go_fld (ex_var 1 rfl (ex_var 0 rfl ⟨x, _, dx, [], rfl, h1, c, na_of H (j := 88) (by kernel_rfl), by decide, ?_⟩))
    have T1 := Tr.own (.ins (He.ga K "Field") dx [("books", vb)]) t1 hx exb
    have n1 := t1.n _ _ upd_same hn
    show GO _ _ _ _ (upd H1 x (.ins (He.ga K "Field") dx [("books", vb)]))
    refine go_fld ((ee_call (Φ := fun d => d = .py (nmD (vrisenM ns))) (p_named_of H).fnc (ea_cons (ee_var 2 rfl (ea_nil ⟨rfl, ns, rfl, nz, okn, rfl⟩)))) _ Hf1 _ _ (hρ.mono t1.f) T1.i fun v d Hf2 H2 t2 r2 ed => ?_)
    subst ed
    have h2 := t2.h _ _ upd_same
    have n2 := t2.n _ _ upd_same n1
    refine ex_var 0 rfl ⟨x, _, dx, [("books", vb)], rfl, h2, c, na_of H (j := 89) (by kernel_rfl), show 1 < 1000 by decide, ?_⟩
    have T2 : Tr Hf Hb Hf2 (upd H2 x (.ins (He.ga K "Field") dx [("books", vb), ("named", v)])) := ⟨t1.f.trans t2.f, fun a o ha => by
      rw [upd_ne (ne_of_none ha n2)]
      exact t2.i a o ha, fun a o ha => by
      have na : a ≠ x := ne_of_none ha hx
      rw [upd_ne na]
      exact t2.h a o (T1.h a o ha), fun a o ha hb => t2.n a o (T1.h a o ha) (T1.n a o ha hb)⟩
    show GO _ _ _ _ (upd H2 x (.ins (He.ga K "Field") dx [("books", vb), ("named", v)]))
    refine go_fld ((ee_call (Φ := fun d => d = .py (ddD (deedsS.filter fun x => decide (x ∈ ws)))) (p_deeds_of H).fnc (ea_cons (ee_var 3 rfl (ea_nil ⟨rfl, ws, rfl, dz, okd, rfl⟩)))) _ Hf2 _ _ (hρ.mono (t1.f.trans t2.f)) T2.i fun v3 d Hf3 H3 t3 r3 ed => ?_)
    subst ed
    have h3 := t3.h _ _ upd_same
    have n3 := t3.n _ _ upd_same n2
    refine ex_var 0 rfl ⟨x, _, dx, [("books", vb), ("named", v)], rfl, h3, c, na_of H (j := 90) (by kernel_rfl), show 2 < 1000 by decide, go_nil ?_⟩
    have T3 : Tr Hf Hb Hf3 (upd H3 x (.ins (He.ga K "Field") dx [("books", vb), ("named", v), ("deeds", v3)])) := ⟨T2.f.trans t3.f, fun a o ha => by
      rw [upd_ne (ne_of_none ha n3)]
      exact t3.i a o ha, fun a o ha => by
      have na : a ≠ x := ne_of_none ha hx
      rw [upd_ne na]
      exact t3.h a o (T2.h a o ha), fun a o ha hb => t3.n a o (T2.h a o ha) (T2.n a o ha hb)⟩
    have T4 := T3.adopt n3 upd_same hx
    have e3 : Ex Hf3 (upd Hf3 x (.ins (He.ga K "Field") dx [("books", vb), ("named", v), ("deeds", v3)])) := Ex.new n3
    exact q _ _ T4 ⟨x, rfl, ⟨dx, _, vb, v, v3, upd_same, rfl, rfl, rfl, dp_mono (T3.f.trans e3) db, dp_mono (t3.f.trans e3) r2, dp_mono e3 r3⟩⟩
  · obtain ⟨oc, od, dV, kV, doc, pm, an, cdv, ct, osl, rfl, lk, hcd, hD, hK⟩ := F.ex
    rcases hD with ⟨_, rfl⟩ | ⟨e, _⟩
    · refine ⟨fun s us ws X l1 l2 => BindsTo.of_looks fun M => ?_, fun r1 r2 => r1.append r2⟩
      match us, ws, l1, l2 with
      | [a, b], [c, d], _, _ => exact PySem.W.Looks.of_pure rfl
    · exact absurd rfl e
/-- Field(e, named = .., deeds = ..) -/
theorem ex_mkField {i : XI} {σ : L2.St} {H : Hp} {Q : VK} {e e1 e2 : Expr} {p cpos k1 k2 : Pos} (H0 : Hd i.K i.mg) (hk : 10 ≤ i.k) (hg : GlS i.sc "Field")
    (h : AX i [e] σ H fun vs H1 => KX i [⟨some "named", e1, k1⟩, ⟨some "deeds", e2, k2⟩] σ H1 fun zs H2 => ∃ vb vn vd Hf bs ns ws, vs = [vb] ∧ zs = [vn, vd] ∧ Ex Hf H2 ∧ Dp i.K Hf vb (bksD bs) ∧ OkBs bs ∧ Dp i.K Hf vn (nmD ns) ∧ ns.length ≤ 3 ∧ (∀ v ∈ ns, okV v) ∧ Dp i.K Hf vd (ddD ws) ∧ ws.length ≤ 9 ∧ (∀ x ∈ ws, x ∈ deedsS) ∧
      ∀ x Hf' H', Tr Hf H2 Hf' H' → Rp i.K Hf' (.ref x) (fdD ⟨bs, vrisenM ns, deedsS.filter fun x => decide (x ∈ ws)⟩) → Q (.ref x) H')
    (he : ∀ env, starEach [e] env = (false, eval e env) :: starEach [] env := by intro _; rfl) (hpl : ∀ env, ((backTo cpos (starEach [e] env)).any (·.1) || (backToKw cpos (keywordEach [⟨some "named", e1, k1⟩, ⟨some "deeds", e2, k2⟩] env)).any (·.1.isNone)) = false := by intro _; rfl) : EX i (.Call (.Name "Field" p) [e] [⟨some "named", e1, k1⟩, ⟨some "deeds", e2, k2⟩] cpos) σ H Q := by
  refine ⟨fun X ok pins s I => ?_⟩
  obtain ⟨fd, F, b⟩ := p_Field_init (P := i.P) (w := i.w) (base := i.base) H0
  have M := He.mkr_ok (H0.c.fact 81 (show fas[81]? = some (.mkr "Field") by kernel_rfl))
  refine (pe_makeK (n := 1) (ks := ksF) (by rw [ok.K]; exact M) (ok.fn' F) (ok.room.mono hk) (ok.gl hg) (ok.mgN (H0.glo (j := 79) (by kernel_rfl))) (by rw [ok.K]; exact b) pass0 (AX.pa (i := i) ok) (KX.pk (i := i) ok) rfl rfl (by decide) (he _) (hpl _)).run pins s σ H Q I ?_
  refine AX.mono h fun vs H1 h2 => ?_
  refine ⟨fun X' ok' pos pins s I => thn (h2.run X' ok' pos pins s I) fun us s1 ⟨zs, H3, I3, r3, vb, vn, vd, Hf, bs, ns, ws, e1, e2, ex, db, okb, dn, nz, okn, dd, dz, okd, q⟩ => ⟨zs, H3, I3, r3, ?_⟩⟩
  subst e1 e2
  refine ⟨rfl, rfl, fun x dx hx hdx hne => ?_⟩
  have t := Tr.drop (o := .own x) ex hdx
  exact ⟨x, dx, vb, vn, vd, Hf, upd H3 dx (.own x), bs, ns, ws, rfl, rfl, by rw [upd_ne hne.symm]; exact hx, t.i, db, okb, dn, nz, okn, dd, dz, okd, fun Hf' H' t2 r => ⟨rfl, q x Hf' H' (t.trans t2) r⟩⟩
abbrev psS : List Str := ["self", "field", "size", "columns"]
def spSeeker (K : PySem.W.Frag) : Sp := fun vs H Q _ => ∃ x dx vf Hf H0 f c, vs = [V.ref x, vf, .int 2, .int ((c : Nat) : Int)] ∧ H = upd H0 x (.ins (He.ga K "Seeker") dx []) ∧ H0 x = none ∧ Ex Hf H0 ∧ Rp K Hf vf (fdD f) ∧ 1 ≤ c ∧ c ≤ 3 ∧
  ∀ Hf' H', Tr Hf H0 Hf' H' → Sk K f c x 0 [] none Hf' H' → Q .non H'
theorem p_Seeker_init (H : Hd K mg) : ∃ fd, FnOk P w K mg base CX0 3 (He.ma K (He.ga K "Seeker") "__init__") fd psS (spSeeker K) ∧ Binds K fd psS [] := by
  obtain ⟨fd, F⟩ := H.c.def_ 69 (d := d_Seeker_init) (by kernel_rfl)
  refine ⟨fd, fn_go F sc_Seeker_init (fun vs H' Q E ⟨x, dx, vf, _, _, _, _, e, _⟩ => by rw [e]; rfl) (fun vs H0 Q E ⟨x, dx, vf, Hf, Hb, f, cc, e, eH, hx, exb, rf, hc1, hc3, q⟩ => ?_), binds_pl F sc_Seeker_init ⟨rfl, rfl, by kernel_rfl, by kernel_rfl, by kernel_rfl, by kernel_rfl, by kernel_rfl⟩⟩
  subst e eH
  have c := cl_of H (x := "Seeker") (j := 86) (by kernel_rfl)
  have hn : Hf x = none := fresh_back exb hx
  have ex : Ex Hf (upd Hb x (.ins (He.ga K "Seeker") dx [])) := exb.trans (Ex.new hx)
  have hρ : RpE K Hf (L2.start N_Seeker_init [V.ref x, vf, .int 2, .int (cc : Int)]) (st0 N_Seeker_init [refDt x, fdD f, .py (.int ((2 : Nat) : Int)), .py (.int (cc : Int))]) := RpE.of_args _ (.cons rfl (.cons rf (.cons (Dp.int _) (.cons (Dp.int _) .nil))))
  refine go_expr ((ee_call (Φ := fun _ => True) (p_check_size H).fnc (ea_cons (ee_var 2 rfl (ea_nil ⟨rfl, 2, rfl, by decide, trivial⟩)))) _ Hf _ _ hρ ex fun v d Hf1 H1 t1 r1 _ => ?_)
  refine gm_if (Φ := fun b => b = false) (hρ.mono t1.f) t1.i (et_w (ew_or (et_not (et_val (ee_call (p_is_whole H).fnc (ea_cons (ee_var 3 rfl (ea_nil ⟨rfl, _, rfl, true, rfl, ?_⟩)))))))) fun b Hf2 H2 t2 eb => ?_
  · refine iteF (ew_or1 (et_not (et_chainI (fun _ _ => op_le) (fun _ _ => op_le) (ee_int ⟨1, rfl, ee_var 3 rfl ⟨_, rfl, ?_⟩⟩))))
    rw [decide_eq_true (show (1 : Int) ≤ (cc : Int) by omega)]
    refine iteT (ee_globInt (gi_WIDE H) rfl ⟨3, rfl, ?_⟩)
    rw [decide_eq_true (show (cc : Int) ≤ 3 by omega)]
    rfl
  subst eb
  have T2 := t1.trans t2
  refine iteF (go_nil ?_)
  refine go_fld ((ee_mkState (Φ := fun d => d = stD f 2 []) H (Nat.le_of_ble_eq_true rfl) (ea_cons (ee_var 1 rfl (ea_cons (ee_var 2 rfl (ea_cons (ee_tup (ea_nil ⟨[], .nil, Nat.le_of_ble_eq_true rfl, ea_nil ⟨f, 2, [], rfl, rfl⟩⟩)))))))) _ Hf2 _ _ (hρ.mono T2.f) T2.i fun v d Hf3 H3 t3 r3 ed => ?_)
  subst ed
  obtain ⟨st, rfl, A⟩ := r3
  have T3 := T2.trans t3
  have h3 := T3.h _ _ upd_same
  have n3 := T3.n _ _ upd_same hn
  refine ex_var 0 rfl ⟨x, _, dx, [], rfl, h3, c, na_of H (j := 94) (by kernel_rfl), by decide, ?_⟩
  have T4 := Tr.own (.ins (He.ga K "Seeker") dx [("state", .ref st)]) T3 hx exb
  show GO _ _ _ _ (upd H3 x (.ins (He.ga K "Seeker") dx [("state", .ref st)]))
  refine go_fld (ex_var 3 rfl (ex_var 0 rfl ⟨x, _, dx, [("state", .ref st)], rfl, upd_same, c, na_of H (j := 95) (by kernel_rfl), show 1 < 1000 by decide, ?_⟩))
  show GO _ _ _ _ (upd (upd H3 x (.ins (He.ga K "Seeker") dx [("state", .ref st)])) x (.ins (He.ga K "Seeker") dx [("state", .ref st), ("across", .int (cc : Int))]))
  rw [upd_upd]
  refine go_fld (ex_lst (ax_nil ⟨by rw [sizeLine_eq]; exact Nat.le_of_ble_eq_true rfl, fun E0 hE => ?_⟩))
  have xE : x ≠ E0 := ne_of_none upd_same hE
  rw [upd_ne xE.symm] at hE
  refine ex_var 0 rfl ⟨x, _, dx, [("state", .ref st), ("across", .int (cc : Int))], rfl, by rw [upd_ne xE]; exact upd_same, c, na_of H (j := 96) (by kernel_rfl), show 2 < 1000 by decide, ?_⟩
  refine go_fld (ex_non (ex_var 0 rfl ⟨x, _, dx, [("state", .ref st), ("across", .int (cc : Int)), ("elder", .ref E0)], rfl, upd_same, c, na_of H (j := 97) (by kernel_rfl), show 3 < 1000 by decide, ?_⟩))
  refine go_fld (ex_lst (ax_nil ⟨by rw [sizeLine_eq]; exact Nat.le_of_ble_eq_true rfl, fun N0 hN => ?_⟩))
  have xN : x ≠ N0 := ne_of_none upd_same hN
  rw [upd_ne xN.symm, upd_ne xN.symm] at hN
  have EN : E0 ≠ N0 := ne_of_none upd_same hN
  rw [upd_ne EN.symm, upd_ne xN.symm] at hN
  refine ex_var 0 rfl ⟨x, _, dx, [("state", .ref st), ("across", .int (cc : Int)), ("elder", .ref E0), ("kept", .non)], rfl, by rw [upd_ne xN]; exact upd_same, c, na_of H (j := 98) (by kernel_rfl), show 4 < 1000 by decide, go_nil ?_⟩
  have eqH : ∀ o1 o2 o3 o4 : HO, upd (upd (upd (upd (upd (upd H3 x o1) E0 (.lst [])) x o2) x o3) N0 (.lst [])) x o4 = upd (upd (upd H3 E0 (.lst [])) N0 (.lst [])) x o4 := fun o1 o2 o3 o4 => by
    funext a
    by_cases ha : a = x
    · subst ha
      rw [upd_same, upd_same]
    · rw [upd_ne ha, upd_ne ha]
      by_cases hb : a = N0
      · subst hb
        rw [upd_same, upd_same]
      · rw [upd_ne hb, upd_ne hb, upd_ne ha, upd_ne ha]
        by_cases hc : a = E0
        · subst hc
          rw [upd_same, upd_same]
        · rw [upd_ne hc, upd_ne hc, upd_ne ha]
  have d1 := Tr.drop (o := .lst []) T3.i hE
  have d2 := Tr.drop (o := .lst []) d1.i (show upd H3 E0 (.lst []) N0 = none by rw [upd_ne EN.symm]; exact hN)
  have T5 := Tr.own (.ins (He.ga K "Seeker") dx [("state", .ref st), ("across", .int (cc : Int)), ("elder", .ref E0), ("kept", .non), ("noted", .ref N0)]) ((T3.trans d1).trans d2) hx exb
  show Q .non (upd _ x (.ins (He.ga K "Seeker") dx [("state", .ref st), ("across", .int (cc : Int)), ("elder", .ref E0), ("kept", .non), ("noted", .ref N0)]))
  rw [eqH]
  refine q _ _ T5 ⟨dx, E0, N0, st, [], [], .non, upd_same, ?_, ?_, Nat.le_refl _, Nat.zero_le _, EN, n3, fresh_back T3.i hE, fresh_back T3.i hN, ⟨st, rfl, A⟩, rfl⟩
  · rw [upd_ne xE.symm, upd_ne EN, upd_same]
  · rw [upd_ne xN.symm, upd_same]
theorem ex_mkSeeker {i : XI} {σ : L2.St} {H : Hp} {Q : VK} {e : Expr} {es : List Expr} {p cpos : Pos} (H0 : Hd i.K i.mg) (hk : 4 ≤ i.k) (hg : GlS i.sc "Seeker")
    (h : AX i (e :: es) σ H fun vs H1 => ∃ vf Hf f c, vs = [vf, .int 2, .int ((c : Nat) : Int)] ∧ Ex Hf H1 ∧ Rp i.K Hf vf (fdD f) ∧ 1 ≤ c ∧ c ≤ 3 ∧ ∀ x Hf' H', Tr Hf H1 Hf' H' → Sk i.K f c x 0 [] none Hf' H' → Q (.ref x) H')
    (he : ∀ env, starEach (e :: es) env = (false, eval e env) :: starEach es env := by intro _; rfl) (hpl : ∀ env, (backTo cpos (starEach es env)).any (·.1) = false := by intro _; rfl) : EX i (.Call (.Name "Seeker" p) (e :: es) [] cpos) σ H Q :=
  ex_mk (j := 87) (j2 := 85) (p_Seeker_init (P := i.P) (w := i.w) (base := i.base) H0) hk H0 (by kernel_rfl) (by kernel_rfl) hg (h.mono fun vs H1 ⟨vf, Hf, f, c, e, ex, rf, h1, h3, q⟩ x dx hx hdx hne => by
    subst e
    have t := Tr.drop (o := .own x) ex hdx
    exact ⟨x, dx, vf, Hf, upd H1 dx (.own x), f, c, rfl, rfl, by rw [upd_ne hne.symm]; exact hx, t.i, rf, h1, h3, fun Hf' H' t2 sk => ⟨rfl, q x Hf' H' (t.trans t2) sk⟩⟩) (by decide) he hpl
end
end Fq
/-! FqDr: the law's draws: a list that is written, told by what is true of it. -/
namespace Fq
open PySem PySem.Spec PyProof.Rows L2 Evl
open RZ
def bigM : Int := 2305843009213693951
/-- what is true of the plan -/
def dwP (L sc : Addr) : Heap → Prop := fun h => ∃ (a b c : Int) (t1 t2 t3 : Tok) (n : Nat), h.get? L = some { cls := .type "list", data := .seq ([Value.ref sc, .int a t1, .int b t2, .int c t3] : List Value).toArray n } ∧ 0 ≤ c ∧ c < bigM
def dwD (K : PySem.W.Frag) (sc : Addr) (ns : List Int) : Dt := .ob (fun H v => ∃ L, v = .ref L ∧ H L = some (.ext (dwP L sc)) ∧ Dp K H (.ref sc) (.list (ns.map PyData.int))) fun H H' v e h => by
  obtain ⟨L, h1, h2, h3⟩ := h
  exact ⟨L, h1, e _ _ h2, dp_mono e h3⟩
theorem dw_ok {P : Program} {w : World} {H : Hp} {h : Heap} {L sc : Addr} (x : dwP L sc h) : ObjOk P w H h L (.ext (dwP L sc)) := by
  refine ⟨x, ?_, fun h1 h2 x1 k => ?_⟩
  · obtain ⟨a, b, c, t1, t2, t3, n, e, _⟩ := x
    exact ⟨_, e⟩
  · obtain ⟨a, b, c, t1, t2, t3, n, e, r⟩ := x1
    exact ⟨a, b, c, t1, t2, t3, n, k _ e, r⟩
section
variable {X : Cx}
def rDw : R2 := fun x y H Q => ∃ L sc, x = .ref L ∧ H L = some (.ext (dwP L sc)) ∧ ((y = .int 0 ∧ Q (.ref sc) H) ∨ (y = .int 1 ∧ ∀ a, Q (.int a) H) ∨ (y = .int 2 ∧ ∀ a, Q (.int a) H) ∨ (y = .int 3 ∧ ∀ c, 0 ≤ c → c < bigM → Q (.int c) H))
theorem ix_dw : IxR X rDw := by
  intro value slice pins s σ H x y v u Q I rx ry h hs
  obtain ⟨L, sc, rfl, hH, h⟩ := h
  cases rx
  obtain ⟨⟨a, b, c, t1, t2, t3, n, e, c0, c1⟩, _, _⟩ := I.hok L _ hH
  have pl : PlainL s.heap L ([Value.ref sc, .int a t1, .int b t2, .int c t3] : List Value).toArray := ⟨_, n, e, rfl, rfl, rfl⟩
  rcases h with ⟨rfl, q⟩ | ⟨rfl, q⟩ | ⟨rfl, q⟩ | ⟨rfl, q⟩
  · obtain ⟨t, rfl⟩ := ry
    exact item_listR (x := .ref sc) pl.isList (by omega) (by omega) rfl ⟨V.ref sc, H, I, rfl, q⟩ hs
  · obtain ⟨t, rfl⟩ := ry
    exact item_listR (x := .int a t1) pl.isList (by omega) (by omega) rfl ⟨V.int a, H, I, ⟨t1, rfl⟩, q a⟩ hs
  · obtain ⟨t, rfl⟩ := ry
    exact item_listR (x := .int b t2) pl.isList (by omega) (by omega) rfl ⟨V.int b, H, I, ⟨t2, rfl⟩, q b⟩ hs
  · obtain ⟨t, rfl⟩ := ry
    exact item_listR (x := .int c t3) pl.isList (by omega) (by omega) rfl ⟨V.int c, H, I, ⟨t3, rfl⟩, q c c0 c1⟩ hs
def rSetDw : V → V → V → Hp → (Hp → Prop) → Prop := fun o i v H Q => ∃ L sc m, o = .ref L ∧ v = .int m ∧ H L = some (.ext (dwP L sc)) ∧ (i = .int 1 ∨ i = .int 2 ∨ (i = .int 3 ∧ 0 ≤ m ∧ m < bigM)) ∧ Q H
theorem Inv.same {pins : List (Addr × Obj)} {σ : L2.St} {H : Hp} {s : Shared} {L : Addr} {o : HO} {n n' : Nat} {its its' : List Value} {f : Obj → Obj} (I : Inv X pins σ H s) (hH : H L = some o) (mu : Mut (some o)) (e : s.heap.get? L = some { cls := .type "list", data := .seq its.toArray n }) (hf : f { cls := .type "list", data := .seq its.toArray n } = { cls := .type "list", data := .seq its'.toArray n' })
    (new : ∀ h, h.get? L = some { cls := .type "list", data := .seq its'.toArray n' } → ObjOk X.prog X.w (upd H L o) h L o) (t : Nat) : Inv X pins σ H { s with heap := s.heap.update L f, toks := t } := by
  have e2 : (s.heap.update L f).get? L = some { cls := .type "list", data := .seq its'.toArray n' } := by
    rw [Heap.get?_update_self f e (by rw [hf] <;> rfl), hf]
  have I2 := I.write (x := L) (e := L) (o := o) (t' := t) (by rw [hH]; exact mu) (.inl rfl) (fun b u hb q => (Heap.get?_update_other s.heap f (Ne.symm hb)).trans q) ⟨_, e2⟩ (new _ e2)
  have eH : upd H L o = H := by
    funext b
    unfold upd
    split
    · rename_i z
      rw [z, hH]
    · rfl
  rw [eH] at I2
  exact I2
theorem set_dw : PSet X rSetDw := by
  intro pins s σ H o i v ov iv u Q I ro ri rv h
  obtain ⟨L, sc, m, rfl, rfl, hH, hi, q⟩ := h
  cases ro
  obtain ⟨tm, rfl⟩ := rv
  obtain ⟨⟨a, b, c, t1, t2, t3, n, e, c0, c1⟩, _, _⟩ := I.hok L _ hH
  rcases hi with rfl | rfl | ⟨rfl, m0, m1⟩
  · obtain ⟨t, rfl⟩ := ri
    exact PySem.W.ki_setAt e (by omega) (by omega) (by show (1 : Int) < 4; decide) ⟨H, Inv.same I hH trivial e (mapSeq_set _ n 1 _) (fun h eh => dw_ok ⟨m, b, c, tm, t2, t3, n, eh, c0, c1⟩) s.toks, q⟩
  · obtain ⟨t, rfl⟩ := ri
    exact PySem.W.ki_setAt e (by omega) (by omega) (by show (2 : Int) < 4; decide) ⟨H, Inv.same I hH trivial e (mapSeq_set _ n 2 _) (fun h eh => dw_ok ⟨a, m, c, t1, tm, t3, n, eh, c0, c1⟩) s.toks, q⟩
  · obtain ⟨t, rfl⟩ := ri
    exact PySem.W.ki_setAt e (by omega) (by omega) (by show (3 : Int) < 4; decide) ⟨H, Inv.same I hH trivial e (mapSeq_set _ n 3 _) (fun h eh => dw_ok ⟨a, b, m, t1, t2, tm, n, eh, m0, m1⟩) s.toks, q⟩
end
section
variable {i : XI} {ρ : En} {Φ : Dt → Prop} {a o e : Expr} {pos p p2 : Pos} {kk : Nat} {sc : Addr} {ns : List Int} {rest : List Stmt} {Ψ : En → Prop}
theorem ee_dw0 (h : EE i a ρ fun x => x = dwD i.K sc ns ∧ Φ (.py (.list (ns.map PyData.int)))) (hs : PlainIx (.Constant (.int 0) kk p) := by intro _ _; rfl) : EE i (.Subscript a (.Constant (.int 0) kk p) pos) ρ Φ :=
  ee_ix (r := rDw) (fun X ok => ix_dw) (h.imp fun x ⟨ex, φ⟩ => ee_int fun Hf H v u Q e r1 r2 q => by
    subst ex
    cases r2
    obtain ⟨L, rfl, h1, h2⟩ := r1
    exact ⟨L, sc, rfl, e _ _ h1, .inl ⟨rfl, q _ _ Hf H (.refl e) (rpy h2) φ⟩⟩) hs
theorem ee_dw1 (h : EE i a ρ fun x => x = dwD i.K sc ns ∧ ∀ n : Int, Φ (.py (.int n))) (hs : PlainIx (.Constant (.int 1) kk p) := by intro _ _; rfl) : EE i (.Subscript a (.Constant (.int 1) kk p) pos) ρ Φ :=
  ee_ix (r := rDw) (fun X ok => ix_dw) (h.imp fun x ⟨ex, φ⟩ => ee_int fun Hf H v u Q e r1 r2 q => by
    subst ex
    cases r2
    obtain ⟨L, rfl, h1, h2⟩ := r1
    exact ⟨L, sc, rfl, e _ _ h1, .inr (.inl ⟨rfl, fun n => q _ _ Hf H (.refl e) (rpy (Dp.int n)) (φ n)⟩)⟩) hs
theorem ee_dw2 (h : EE i a ρ fun x => x = dwD i.K sc ns ∧ ∀ n : Int, Φ (.py (.int n))) (hs : PlainIx (.Constant (.int 2) kk p) := by intro _ _; rfl) : EE i (.Subscript a (.Constant (.int 2) kk p) pos) ρ Φ :=
  ee_ix (r := rDw) (fun X ok => ix_dw) (h.imp fun x ⟨ex, φ⟩ => ee_int fun Hf H v u Q e r1 r2 q => by
    subst ex
    cases r2
    obtain ⟨L, rfl, h1, h2⟩ := r1
    exact ⟨L, sc, rfl, e _ _ h1, .inr (.inr (.inl ⟨rfl, fun n => q _ _ Hf H (.refl e) (rpy (Dp.int n)) (φ n)⟩))⟩) hs
theorem ee_dw3 (h : EE i a ρ fun x => x = dwD i.K sc ns ∧ ∀ n : Int, 0 ≤ n → n < bigM → Φ (.py (.int n))) (hs : PlainIx (.Constant (.int 3) kk p) := by intro _ _; rfl) : EE i (.Subscript a (.Constant (.int 3) kk p) pos) ρ Φ :=
  ee_ix (r := rDw) (fun X ok => ix_dw) (h.imp fun x ⟨ex, φ⟩ => ee_int fun Hf H v u Q e r1 r2 q => by
    subst ex
    cases r2
    obtain ⟨L, rfl, h1, h2⟩ := r1
    exact ⟨L, sc, rfl, e _ _ h1, .inr (.inr (.inr ⟨rfl, fun n n0 n1 => q _ _ Hf H (.refl e) (rpy (Dp.int n)) (φ n n0 n1)⟩))⟩) hs
/-- plan[k] = e -/
theorem bb_setDw {k : Int} (h : EE i e ρ fun x => ∃ m : Int, x = .py (.int m) ∧ (k = 1 ∨ k = 2 ∨ (k = 3 ∧ 0 ≤ m ∧ m < bigM)) ∧ EE i o ρ fun y => y = dwD i.K sc ns ∧ BB i rest ρ Ψ Φ)
    (ha : ∀ env v, assign (.Subscript o (.Constant (.int k) kk p) p2) env v = (do
      let ov ← holding [v] (eval o env)
      let iv ← holding [v, ov] (eval (.Constant (.int k) kk p) env)
      standAt p2
      holding [v, ov, iv] (setItem ov iv v)
      release [v, ov, iv] []) := by intro _ _; rfl) (hs : ∀ env, swapsWithSole [.Subscript o (.Constant (.int k) kk p) p2] e pos.line env = pure false := by intro _; rfl) (hw : ∀ env, swappedStores [.Subscript o (.Constant (.int k) kk p) p2] e env = pure none := by intro _; rfl)
    (h1 : ∀ env, (assignEach [.Subscript o (.Constant (.int k) kk p) p2] env).map (·.2) = [assign (.Subscript o (.Constant (.int k) kk p) p2) env] := by intro _; rfl) : BB i (.Assign [.Subscript o (.Constant (.int k) kk p) p2] e pos :: rest) ρ Ψ Φ := fun σ Hf H D r x qn qr =>
  go_asg (g := gSub (EX i o) (EX i (.Constant (.int k) kk p)) rSetDw) (fun X ok => pg_sub (EX.pe ok) (EX.pe ok) set_dw (ha _)) (h σ Hf H _ r x fun v d Hf1 H1 t1 r1 ⟨m, ed, hk, φ⟩ => by
    subst ed
    cases r1
    refine φ σ Hf1 H1 _ (r.mono t1.f) t1.i fun v2 d2 Hf2 H2 t2 r2 ⟨ed2, φ2⟩ => ex_int ?_
    subst ed2
    obtain ⟨L, rfl, h1, h2⟩ := r2
    have T := t1.trans t2
    refine ⟨L, sc, m, rfl, rfl, t2.i _ _ h1, ?_, φ2 σ Hf2 H2 D (r.mono T.f) T.i (fun σ' ρ' Hf' H' t' => qn σ' ρ' Hf' H' (T.trans t')) fun v' d' Hf' H' t' => qr v' d' Hf' H' (T.trans t')⟩
    rcases hk with rfl | rfl | ⟨rfl, a, b⟩
    · exact .inl rfl
    · exact .inr (.inl rfl)
    · exact .inr (.inr ⟨rfl, a, b⟩)) hs hw h1
end
end Fq
/-! FqTk: a draw. -/
namespace Fq
open PySem PySem.Spec PyProof.Rows L2 Evl
open RZ
section
variable {P : Program} {w : World} {K : PySem.W.Frag} {mg : Str → Option Value} {base : Heap}
theorem ints_plain (ns : List Int) : Pl (.list (ns.map PyData.int)) := by
  refine ⟨?_, ?_⟩
  · rw [PyData.plain]
    exact plA PyData.int ns fun _ _ => rfl
  · rw [PyData.depth]
    have := deA PyData.int 0 ns fun _ _ => by simp [PyData.depth]
    omega
theorem eqv_nilL (ds : List PyData) : PyData.eqv (.list ds) (.list []) = ds.isEmpty := by
  cases ds <;> simp [PyData.eqv, PyData.eqvAll]
theorem nil_plL : Pl (.list []) := ⟨rfl, by simp [PyData.depth, PyData.depthAll]⟩
theorem mod_nat {n : Int} {m : Nat} (h : 0 < m) : ∃ k : Nat, k < m ∧ n % (m : Int) = (k : Int) := by
  have h0 : 0 ≤ n % (m : Int) := Int.emod_nonneg n (by omega)
  have h1 : n % (m : Int) < (m : Int) := Int.emod_lt_of_pos n (by omega)
  exact ⟨(n % (m : Int)).toNat, by omega, by omega⟩
theorem ite_b {c : Bool} {A B : Prop} (a : A) (b : B) : if c = true then A else B := by
  cases c
  · exact b
  · exact a
theorem ite_bb {c : Bool} {A B : Prop} (a : c = true → A) (b : c = false → B) : if c = true then A else B := by
  cases c
  · exact b rfl
  · exact a rfl
def S_take (K : PySem.W.Frag) : Sg := fun ds Φ => ∃ (sc : Addr) (ns : List Int) (m : Nat), ds = [dwD K sc ns, .py (.int (m : Int))] ∧ 0 < m ∧ m < 1000000 ∧ ∀ n : Nat, n < m → Φ (.py (.int (n : Int)))
theorem p_take (H : Hd K mg) : Pf P w K mg base "_law_take" 1 ["_law_state", "_law_below"] 2 (S_take K) := pf_of H q_law_take sc_law_take rfl fun ds Φ hl hS => by
  obtain ⟨sc, ns, m, rfl, hm, hm2, φ⟩ := hS
  have φm : ∀ n : Int, Φ (.py (.int (n % (m : Int)))) := fun n => by
    obtain ⟨k, hk, e⟩ := mod_nat (n := n) hm
    rw [e]
    exact φ k hk
  have cd : ∀ n : Int, CDiv n (m : Int) := fun n => ⟨by omega, by omega⟩
  have hp : (0 : Int) < (m : Int) := by omega
  refine bb_if (et_cmp (ee_dw2 (ns := ns) (sc := sc) (ee_var 0 rfl ⟨rfl, fun n => ee_int (od_gt ⟨_, rfl, ?_⟩)⟩)) (hm := rfl))
  refine ite_b ?_ ?_
  · refine bb_set 3 (ee_op (ee_dw2 (ns := ns) (sc := sc) (ee_var 0 rfl ⟨rfl, fun n2 => ee_var 1 rfl (od_mod hp ?_)⟩)))
    refine bb_setDw (sc := sc) (ns := ns) (ee_op (ee_dw2 (ns := ns) (sc := sc) (ee_var 0 rfl ⟨rfl, fun n3 => ee_var 1 rfl (od_fdiv (cd _) ⟨_, rfl, .inr (.inl rfl), ee_var 0 rfl ⟨rfl, ?_⟩⟩)⟩)))
    exact bb_ret (ee_var 3 rfl (φm n2))
  refine bb_nil (bb_set 2 (ee_dw1 (ns := ns) (sc := sc) (ee_var 0 rfl ⟨rfl, fun cell => ?_⟩)))
  refine bb_if (et_cmp (ee_dw0 (ns := ns) (sc := sc) (ee_var 0 rfl ⟨rfl, ee_lst (ea_nil ⟨[], .nil, Nat.le_of_ble_eq_true rfl, od_ne (ints_plain ns) nil_plL ⟨_, rfl, ?_⟩⟩)⟩)) (hm := rfl))
  rw [eqv_nilL, List.isEmpty_map]
  refine ite_bb (fun hb2 => ?_) fun _ => bb_nil ?_
  · have hn : 0 < ns.length := by
      cases ns with
      | nil => cases hb2
      | cons a t => exact Nat.succ_pos _
    refine bb_set 2 (ee_ixL (ee_dw0 (ns := ns) (sc := sc) (ee_var 0 rfl ⟨rfl, ee_op (ee_dw1 (ns := ns) (sc := sc) (ee_var 0 rfl ⟨rfl, fun at1 => ee_callB (fr_len H) PySem.boot_len (ea_cons (ee_dw0 (ns := ns) (sc := sc) (ee_var 0 rfl ⟨rfl, ea_nil (ld_len (n := ns.length) (by show _ = _; rw [List.length_map]) (od_mod (by omega) ?_))⟩)))⟩))⟩)))
    obtain ⟨k, hk, e⟩ := mod_nat (n := at1) hn
    rw [e]
    refine ⟨_, (k : Int), .int ns[k], rfl, rfl, atI_nat (by rw [List.getElem?_map, List.getElem?_eq_getElem hk]; rfl), bb_nil ?_⟩
    generalize ns[k] = cell2
    exact (by
    refine bb_setDw (sc := sc) (ns := ns) (ee_op (ee_dw1 (ns := ns) (sc := sc) (ee_var 0 rfl ⟨rfl, fun a => ee_int (od_add ⟨_, rfl, .inl rfl, ee_var 0 rfl ⟨rfl, ?_⟩⟩)⟩)))
    refine bb_if (et_w (ew_and (et_cmp (ee_var 2 rfl (ee_op (ee_int (ee_int (od_pow ⟨by omega, by omega, by decide⟩ (od_ge ⟨_, rfl, ?_⟩)))))) (hm := rfl))))
    refine ite_b (ew_and1 (et_cmp (ee_dw1 (ns := ns) (sc := sc) (ee_var 0 rfl ⟨rfl, fun s1 => ee_callB (fr_len H) PySem.boot_len (ea_cons (ee_dw0 (ns := ns) (sc := sc) (ee_var 0 rfl ⟨rfl, ea_nil (ld_len (n := ns.length) (by show _ = _; rw [List.length_map]) (od_le ⟨_, rfl, ite_b ?_ (bb_nil ?_)⟩))⟩)))⟩)) (hm := rfl))) (iteF (bb_nil ?_))
    · refine bb_setDw (sc := sc) (ns := ns) (ee_op (ee_var 2 rfl (ee_var 1 rfl (od_fdiv (cd _) ⟨_, rfl, .inr (.inl rfl), ee_var 0 rfl ⟨rfl, ?_⟩⟩))))
      exact bb_ret (ee_op (ee_var 2 rfl (ee_var 1 rfl (od_mod hp (φm _)))))
    all_goals
      refine bb_set 2 (ee_op (ee_var 2 rfl (ee_int (od_mod (by decide) ?_))))
      refine bb_setDw (sc := sc) (ns := ns) (ee_op (ee_op (ee_op (ee_op (ee_dw3 (ns := ns) (sc := sc) (ee_var 0 rfl ⟨rfl, fun c c0 c1 => ee_int (od_mul (.inr ⟨by decide, by decide⟩) (ee_op (ee_var 2 rfl (ee_int (od_mul (.inr ⟨by decide, by decide⟩) (od_add (ee_dw1 (ns := ns) (sc := sc) (ee_var 0 rfl ⟨rfl, fun a1 => od_add (ee_int (od_mod (by decide) ⟨_, rfl, .inr (.inr ⟨rfl, Int.emod_nonneg _ (by decide), Int.emod_lt_of_pos _ (by decide)⟩), ee_var 0 rfl ⟨rfl, ?_⟩⟩))⟩))))))))⟩))))))
      refine bb_ret (ee_op (ee_op (ee_op (ee_op (ee_dw3 (ns := ns) (sc := sc) (ee_var 0 rfl ⟨rfl, fun c c0 c1 => ee_dw3 (ns := ns) (sc := sc) (ee_var 0 rfl ⟨rfl, fun c' d0 d1 => od_mul (.inl ⟨by unfold bigM at *; omega, by unfold bigM at *; omega⟩) (ee_int (od_mod (by decide) (ee_int (od_fdiv ⟨by decide, by decide⟩ (ee_var 1 rfl (od_mod hp (φm _)))))))⟩)⟩))))))
    )
  · exact (by
    refine bb_setDw (sc := sc) (ns := ns) (ee_op (ee_dw1 (ns := ns) (sc := sc) (ee_var 0 rfl ⟨rfl, fun a => ee_int (od_add ⟨_, rfl, .inl rfl, ee_var 0 rfl ⟨rfl, ?_⟩⟩)⟩)))
    refine bb_if (et_w (ew_and (et_cmp (ee_var 2 rfl (ee_op (ee_int (ee_int (od_pow ⟨by omega, by omega, by decide⟩ (od_ge ⟨_, rfl, ?_⟩)))))) (hm := rfl))))
    refine ite_b (ew_and1 (et_cmp (ee_dw1 (ns := ns) (sc := sc) (ee_var 0 rfl ⟨rfl, fun s1 => ee_callB (fr_len H) PySem.boot_len (ea_cons (ee_dw0 (ns := ns) (sc := sc) (ee_var 0 rfl ⟨rfl, ea_nil (ld_len (n := ns.length) (by show _ = _; rw [List.length_map]) (od_le ⟨_, rfl, ite_b ?_ (bb_nil ?_)⟩))⟩)))⟩)) (hm := rfl))) (iteF (bb_nil ?_))
    · refine bb_setDw (sc := sc) (ns := ns) (ee_op (ee_var 2 rfl (ee_var 1 rfl (od_fdiv (cd _) ⟨_, rfl, .inr (.inl rfl), ee_var 0 rfl ⟨rfl, ?_⟩⟩))))
      exact bb_ret (ee_op (ee_var 2 rfl (ee_var 1 rfl (od_mod hp (φm _)))))
    all_goals
      refine bb_set 2 (ee_op (ee_var 2 rfl (ee_int (od_mod (by decide) ?_))))
      refine bb_setDw (sc := sc) (ns := ns) (ee_op (ee_op (ee_op (ee_op (ee_dw3 (ns := ns) (sc := sc) (ee_var 0 rfl ⟨rfl, fun c c0 c1 => ee_int (od_mul (.inr ⟨by decide, by decide⟩) (ee_op (ee_var 2 rfl (ee_int (od_mul (.inr ⟨by decide, by decide⟩) (od_add (ee_dw1 (ns := ns) (sc := sc) (ee_var 0 rfl ⟨rfl, fun a1 => od_add (ee_int (od_mod (by decide) ⟨_, rfl, .inr (.inr ⟨rfl, Int.emod_nonneg _ (by decide), Int.emod_lt_of_pos _ (by decide)⟩), ee_var 0 rfl ⟨rfl, ?_⟩⟩))⟩))))))))⟩))))))
      refine bb_ret (ee_op (ee_op (ee_op (ee_op (ee_dw3 (ns := ns) (sc := sc) (ee_var 0 rfl ⟨rfl, fun c c0 c1 => ee_dw3 (ns := ns) (sc := sc) (ee_var 0 rfl ⟨rfl, fun c' d0 d1 => od_mul (.inl ⟨by unfold bigM at *; omega, by unfold bigM at *; omega⟩) (ee_int (od_mod (by decide) (ee_int (od_fdiv ⟨by decide, by decide⟩ (ee_var 1 rfl (od_mod hp (φm _)))))))⟩)⟩))))))
    )
end
end Fq
/-! FqJ: a comprehension whose elements are drawn: told by an invariant. -/
namespace Fq
open PySem PySem.Spec PyProof.Rows L2 Evl
open RZ
section
variable {i : XI} {ρ : En} {Φ : Dt → Prop} {elt tg iter : Expr} {ifs : List Expr} {scope : Scope} {pos p p2 : Pos} {wi : TI} {g : TG}
def LcJ (i : XI) (wi : TI) (g : TG) (ρ : En) (scope : Scope) (elt : Expr) (ifs : List Expr) (own : List (Str × Nat)) (Φl : List PyData → Prop) : Prop :=
  ES i wi ρ fun its => its.length ≤ 40000 ∧ ∃ (I : Nat → List PyData → Prop), I 0 [] ∧
    (∀ j x acc, its[j]? = some x → I j acc → ∃ ρx, GD (i.blk scope) g (own.map (·.2)) (wipeE ρ (own.map (·.2))) ρx x ∧ EI (i.blk scope) ifs ρx (fun b => if b = true then EE (i.blk scope) elt ρx (fun y => ∃ z, y = .py z ∧ I (j + 1) (acc ++ [z])) else I (j + 1) acc)) ∧ ∀ acc, I its.length acc → Φl acc
theorem lc_runJ (own : List (Str × Nat)) (h : LcJ i wi g ρ scope elt ifs own fun zs => Φ (ldD i.K zs))
    {σ : L2.St} {Hf H : Hp} {Q : VK} (hρ : RpE i.K Hf σ ρ) (e : Ex Hf H) (q : ∀ v d Hf' H', Tr Hf H Hf' H' → Rp i.K Hf' v d → Φ d → Q v H') : tLc wi g (IX (i.blk scope) ifs) (EX (i.blk scope) elt) (own.map (·.2)) σ H Q := by
  refine h σ Hf H _ hρ e fun J its Hf1 H1 t1 S ψ => ?_
  obtain ⟨hz, I, I0, turn, fin⟩ := ψ
  intro D hD
  refine ⟨fun j m H => m = its.length - j ∧ j ≤ its.length ∧ ∃ Hf2 acc, acc.length ≤ j ∧ I j acc ∧ LGrow i.K Hf1 H1 D acc Hf2 H, ⟨its.length, rfl, Nat.zero_le _, Hf1, [], Nat.le_refl _, I0, LGrow.new t1.i hD⟩, ?_⟩
  rintro j m H2 ⟨rfl, hj, Hf2, acc, hl, hI, vs, t2, d1, d2, d3⟩
  by_cases hlt : j < its.length
  · refine .inr ⟨S.go j H2 hlt (t2.f.trans t2.i), fun H' => ∃ Hf' acc', acc'.length ≤ j + 1 ∧ I (j + 1) acc' ∧ LGrow i.K Hf1 H1 D acc' Hf' H', fun H' I' => ⟨its.length - (j + 1), by omega, rfl, hlt, I'⟩, fun x H3 hy => ?_⟩
    obtain ⟨Hf3, d, hd, t3, r3⟩ := S.yld j H2 x H3 Hf2 hlt t2.f t2.i hy
    obtain ⟨ρx, hgd, hei⟩ := turn j d acc hd hI
    have hρw : RpE i.K Hf3 (wipe σ (own.map (·.2))) (wipeE ρ (own.map (·.2))) := (hρ.mono ((t1.f.trans t2.f).trans t3.f)).wipe _
    refine hgd (wipe σ (own.map (·.2))) Hf3 H3 x _ hρw t3.i r3 fun σ2 hw hρ2 => ?_
    refine ⟨hw.trans wipe_wipe, hei σ2 Hf3 H3 _ hρ2 t3.i fun b Hf4 H4 t4 hb => ?_⟩
    cases b with
    | true =>
      refine iteT (hb σ2 Hf4 H4 _ (hρ2.mono t4.f) t4.i fun y dz Hf5 H5 t5 r5 ⟨z, hz5, hI5⟩ => ?_)
      subst hz5
      have t35 := (t3.trans t4).trans t5
      refine ⟨vs, t35.h D _ d2, sz_lt ?_, ?_⟩
      · have l1 := dpAll_len d3
        omega
      · exact ⟨Hf5, acc ++ [z], by rw [List.length_append, List.length_singleton]; omega, hI5, (LGrow.push (t2.trans t35) (t35.n D _ d2 d1) (t35.h D _ d2) (dpAll_mono t35.f d3) hD r5).2⟩
    | false =>
      refine iteF ?_
      have t34 := t3.trans t4
      exact ⟨Hf4, acc, by omega, hb, vs, t2.trans t34, t34.n D _ d2 d1, t34.h D _ d2, dpAll_mono t34.f d3⟩
  · have ej : j = its.length := by omega
    subst ej
    exact .inl ⟨S.stop H2 (t2.f.trans t2.i), q _ (ldD i.K _) (upd Hf2 D (.lst vs)) H2 (t1.trans (t2.adopt d1 d2 hD)) (ld_mk upd_same (dpAll_mono (Ex.new d1) d3)) (fin acc hI)⟩
theorem ee_lcJ (own : List (Str × Nat)) (hi : ∀ X, XOk i X → PI X tg iter wi) (hg : ∀ X, XOk (i.blk scope) X → PG X tg g) (h : LcJ i wi g ρ scope elt ifs own fun zs => Φ (ldD i.K zs))
    (ok : blkC i.N i.sc scope own = true := by kernel_rfl) (hs : ∀ env x, foldedSetIterable iter env x = pure x := by intro _ _; rfl) : EE i (.ListComp elt [⟨tg, iter, ifs, 0⟩] scope pos) ρ Φ := fun σ Hf H Q hρ e q => ex_lc own hi hg (lc_runJ own h hρ e q) ok hs
theorem bb_setLcJ {x : Str} {py spos : Pos} {rest : List Stmt} {Ψ' : En → Prop} {Φr : Dt → Prop} (j : Nat) (own : List (Str × Nat)) (hi : ∀ X, XOk i X → PI X tg iter wi) (hg : ∀ X, XOk (i.blk scope) X → PG X tg g)
    (h : LcJ i wi g ρ scope elt ifs own fun zs => BB i rest (ρ.set j (some (ldD i.K zs))) Ψ' Φr)
    (ok : blkC i.N i.sc scope own = true := by kernel_rfl) (hN : i.N[j]? = some x := by rfl) (hy : i.sc.names.lookup x = some .local := by rfl) (hk : i.sc.kind = .function := by rfl) (hl : (py.line == pos.line) = true := by rfl)
    (ha : (scope.names.any fun (n, k) => n == x && (k == .local || k == .cell)) = false := by decide +kernel) (hll : spos.line = pos.line := by rfl) (hs : ∀ env x, foldedSetIterable iter env x = pure x := by intro _ _; rfl) : BB i (.Assign [.Name x py] (.ListComp elt [⟨tg, iter, ifs, 0⟩] scope pos) spos :: rest) ρ Ψ' Φr := fun σ Hf H D r x qn qr =>
  go_setLc j own hi hg (lc_runJ (Φ := fun d => BB i rest (ρ.set j (some d)) Ψ' Φr) own h r x fun v d Hf1 H1 t1 r1 φ => φ (σ.set j (some v)) Hf1 H1 D ((r.mono t1.f).set r1) t1.i (fun σ' ρ' Hf' H' t2 r2 ψ => qn σ' ρ' Hf' H' (t1.trans t2) r2 ψ) fun v d Hf' H' t2 r2 φ2 => qr v d Hf' H' (t1.trans t2) r2 φ2) ok hN hy hk hl ha hll hs
end
end Fq
/-! FqLw: a word that is drawn. -/
namespace Fq
open PySem PySem.Spec PyProof.Rows L2 Evl
open RZ
section
variable {i : XI} {ρ : En} {Φ : Dt → Prop} {a b : Expr} {pos : Pos}
theorem ee_ixS (h : EE i a ρ fun x => EE i b ρ fun y => ∃ (z : Str) (n : Nat) (c : Nat), x = .py (.str z) ∧ y = .py (.int (n : Int)) ∧ z.length ≤ 1000 ∧ z.cps.toList[n]? = some c ∧ Φ (.py (.str ⟨#[c]⟩))) (hs : PlainIx b := by intro _ _; rfl) : EE i (.Subscript a b pos) ρ Φ :=
  ee_ix (r := rIxS) (fun X ok => ix_str) (h.imp fun x hx => hx.imp fun y ⟨z, n, c, e1, e2, hz, hat, φ⟩ Hf H v u Q e r1 r2 q => by
    subst e1 e2
    cases r1
    cases r2
    exact ⟨z, n, c, rfl, rfl, by rw [sizeLine_eq]; omega, atI_nat hat, q _ _ Hf H (.refl e) (rpy (Dp.str _)) φ⟩) hs
end
theorem glued_one (acc : List Nat) : ∀ cs : List Nat, (cs.map fun c => (⟨#[c]⟩ : Str)).foldl (fun (acc : Array Nat) (p : Str) => acc ++ ("" : Str).cps ++ p.cps) acc.toArray = (acc ++ cs).toArray
  | [] => by simp
  | c :: cs => by
    rw [List.map_cons, List.foldl_cons]
    have e : acc.toArray ++ ("" : Str).cps ++ (⟨#[c]⟩ : Str).cps = (acc ++ [c]).toArray := by
      have : ("" : Str).cps = #[] := by decide +kernel
      rw [this]
      simp
    rw [e, glued_one (acc ++ [c]) cs]
    simp
theorem join_one (cs : List Nat) : Txt.join "" (cs.map fun c => (⟨#[c]⟩ : Str)) = ⟨cs.toArray⟩ := by
  cases cs with
  | nil => decide +kernel
  | cons c cs =>
    show Str.mk _ = _
    have := glued_one [c] cs
    rw [List.map_cons]
    exact congrArg Str.mk this
section
variable {P : Program} {w : World} {K : PySem.W.Frag} {mg : Str → Option Value} {base : Heap}
theorem alpha_get : ∀ k : Fin 26, ("abcdefghijklmnopqrstuvwxyz" : Str).cps.toList[k.val]? = some (97 + k.val) := by decide +kernel
/-- a draw told by data -/
theorem ee_take {i : XI} {ρ : En} {Φ : Dt → Prop} {e1 e2 : Expr} {p pos : Pos} {sc : Addr} {ns : List Int} (H : Hd i.K i.mg) (hk : 1 ≤ i.k) (m : Nat) (hm : 0 < m) (hm2 : m < 1000000) (h : EE i e1 ρ fun x => x = dwD i.K sc ns ∧ EE i e2 ρ fun y => y = .py (.int (m : Int)) ∧ ∀ n : Nat, n < m → Φ (.py (.int (n : Int)))) (hg : GlS i.sc "_law_take" := by rfl)
    (h1 : ∀ env, starEach [e1, e2] env = (false, eval e1 env) :: starEach [e2] env := by intro _; rfl) (h2 : ∀ env, starEach [e2] env = (false, eval e2 env) :: starEach [] env := by intro _; rfl) (hpl : ∀ env, (backTo pos (starEach [e2] env)).any (·.1) = false := by intro _; rfl) : EE i (.Call (.Name "_law_take" p) [e1, e2] [] pos) ρ Φ :=
  ee_call ((p_take (P := i.P) (w := i.w) (base := i.base) H).fnc (k' := i.k) (t := i.top) hk) (ea_cons (h.imp fun x ⟨ex, hy⟩ => ea_cons (hy.imp fun y ⟨ey, φ⟩ => ea_nil ⟨rfl, sc, ns, m, by rw [ex, ey], hm, hm2, φ⟩) h2) h1) hg (by decide) h1 hpl
def S_word (K : PySem.W.Frag) : Sg := fun ds Φ => ∃ (sc : Addr) (ns : List Int), ds = [dwD K sc ns] ∧ ∀ s : Str, Wd s → Φ (.py (.str s))
theorem p_word (H : Hd K mg) : Pf P w K mg base "_law_word" 2 ["_law_state"] 1 (S_word K) := pf_of H q_law_word sc_law_word rfl fun ds Φ hl hS => by
  obtain ⟨sc, ns, rfl, φ⟩ := hS
  refine bb_ret (ee_join (ee_str ⟨_, rfl, ee_unO (ee_lcJ [("_law_k", 1)] (wx_rng1 rfl (fr_range H)) (gx_name 1) (es_rng1 (ea_cons (ee_op (ee_int (ee_take (sc := sc) (ns := ns) H (Nat.le_of_ble_eq_true rfl) 8 (by decide) (by decide) (ee_var 0 rfl ⟨rfl, ee_int ⟨rfl, fun n hn => ?_⟩⟩)))))))⟩))
  refine od_add (ea_nil ⟨1 + n, ?_, by omega, ?_, ?_⟩)
  · show [Dt.py (.int (1 + (n : Int)))] = _
    rw [show (1 + (n : Int)) = ((1 + n : Nat) : Int) by omega]
  · unfold rngD
    rw [List.length_map, List.length_range]
    omega
  refine ⟨fun j acc => ∃ cs : List Nat, acc = cs.map (fun c => PyData.str ⟨#[c]⟩) ∧ cs.length = j ∧ ∀ c ∈ cs, 97 ≤ c ∧ c ≤ 122, ⟨[], rfl, rfl, fun _ h => nomatch h⟩, fun j x acc hx ⟨cs, e, hc, ok⟩ => ?_, fun acc ⟨cs, e, hc, ok⟩ => ?_⟩
  · unfold rngD at hx
    obtain ⟨k, hk, rfl⟩ := List.getElem?_map ▸ hx |> Option.map_eq_some_iff.mp
    refine ⟨_, gd_name 1, ei_nil (iteT (ee_ixS (ee_str (ee_take (sc := sc) (ns := ns) H (Nat.le_of_ble_eq_true rfl) 26 (by decide) (by decide) (ee_var 0 rfl ⟨rfl, ee_int ⟨rfl, fun n hn => ?_⟩⟩)))))⟩
    refine ⟨_, n, 97 + n, rfl, rfl, by decide +kernel, alpha_get ⟨n, hn⟩, _, rfl, cs ++ [97 + n], ?_, ?_, ?_⟩
    · rw [e, List.map_append]
      rfl
    · rw [List.length_append, hc]
      rfl
    · intro c hc
      rcases List.mem_append.mp hc with h | h
      · exact ok c h
      · have := List.mem_singleton.mp h
        omega
  · subst e
    unfold rngD at hc
    rw [List.length_map, List.length_range] at hc
    have e1 : cs.map (fun c => PyData.str ⟨#[c]⟩) = (cs.map fun c => (⟨#[c]⟩ : Str)).map PyData.str := by rw [List.map_map]; rfl
    refine ⟨_, rfl, cs.map fun c => (⟨#[c]⟩ : Str), by rw [e1], ?_, ?_⟩
    · have el : ("" : Str).length = 0 := by decide +kernel
      rw [el, Nat.mul_zero, List.map_map]
      have : ∀ l : List Nat, (l.map ((fun s : Str => s.length) ∘ fun c => (⟨#[c]⟩ : Str))).sum = l.length := by
        intro l
        induction l with
        | nil => rfl
        | cons a t ih =>
          rw [List.map_cons, List.sum_cons, ih, List.length_cons]
          show 1 + _ = _
          omega
      rw [this]
      omega
    · rw [join_one]
      have hlen : (⟨cs.toArray⟩ : Str).length = cs.length := rfl
      exact φ _ ⟨by rw [hlen]; omega, by rw [hlen]; omega, ok⟩
end
end Fq
/-! FqLx: lists of ours in tests, drawn things appended; the pool. -/
namespace Fq
open PySem PySem.Spec PyProof.Rows L2 Evl
open RZ
theorem gm_appendJ {i : XI} {ρ : En} {E : Ends} {σ : L2.St} {Hf0 H0 Hf H : Hp} {e : Expr} {x : Str} {pos p apos cpos : Pos} {rest : List Stmt} {D : Addr} {zs : List PyData} (W : PyData → Prop) (j : Nat) (hρ : RpE i.K Hf σ ρ) (hj : ρ[j]? = some (some (refDt D))) (I : LGrow i.K Hf0 H0 D zs Hf H) (hD : H0 D = none) (hz : zs.length ≤ 100000)
    (h : EE i e ρ fun d => ∃ z, d = .py z ∧ W z) (q : ∀ z Hf1 H1, W z → Ex Hf Hf1 → Ex Hf1 H1 → RpE i.K Hf1 σ ρ → LGrow i.K Hf0 H0 D (zs ++ [z]) Hf1 H1 → GO i rest E σ H1) (hN : i.N[j]? = some x := by rfl) (hv : Vis i.sc x := by first | exact Or.inl rfl | exact Or.inr (Or.inl rfl) | exact Or.inr (Or.inr rfl))
    (hd : (x == ("__debug__" : Str)) = false := by decide) (hcd : (x == ("__classdict__" : Str)) = false := by decide) (hbase : ∀ env, attributeBase (.Name x p) "append" env (eval (.Name x p) env) = eval (.Name x p) env := by intro _; rfl) (hs : ∀ env, starEach [e] env = (false, eval e env) :: starEach [] env := by intro _; rfl)
    (hsw : ∀ env, swapsWith (.Call (.Attribute (.Name x p) "append" apos) [e] [] cpos) none pos.line env = pure false := by intro _; rfl)
    (hfew : ∀ env, ((backTo cpos (starEach [e] env)).all (fun x => !x.1) && (backToKw cpos (keywordEach [] env)).all (fun x => x.1.isSome) && decide (([e] : List Expr).length + ([] : List Keyword).length + (if ([] : List Keyword).isEmpty then 0 else 1) < 30)) = true := by intro _; rfl)
    (hline : (apos.endLine == cpos.line) = true := by rfl) : GO i (.Expr (.Call (.Attribute (.Name x p) "append" apos) [e] [] cpos) pos :: rest) E σ H := by
  obtain ⟨vs, h1, h2, h3, h4⟩ := I
  refine go_append (ex_var j (hρ.ref hj) ⟨D, rfl, ⟨vs, h3⟩, h σ Hf H _ hρ h1.i fun v d Hf1 H1 t1 r1 ed => ?_⟩ hN hv hd hcd) hbase hs hsw hfew hline
  obtain ⟨z, ed, wz⟩ := ed
  subst ed
  obtain ⟨ex, g⟩ := LGrow.push (h1.trans t1) (t1.n D _ h3 h2) (t1.h D _ h3) (dpAll_mono t1.f h4) hD r1
  refine ⟨vs, t1.h D _ h3, ?_, q z Hf1 _ wz t1.f ex (hρ.mono t1.f) g⟩
  rw [dpAll_len h4, sizeLine_eq]
  omega
section
variable {i : XI} {ρ : En} {E : Ends} {σ : L2.St} {Hf0 H0 Hf H : Hp} {D : Addr} {zs : List PyData}
/-- the slots with a list of ours told as data -/
theorem LGrow.with {j : Nat} (hρ : RpE i.K Hf σ ρ) (hj : ρ[j]? = some (some (refDt D))) (I : LGrow i.K Hf0 H0 D zs Hf H) : ∃ Hf', Ex Hf' H ∧ RpE i.K Hf' σ (ρ.set j (some (.py (.list zs)))) ∧ ∀ Hf2 H2, Tr Hf' H Hf2 H2 → Tr Hf H Hf H2 := by
  obtain ⟨vs, h1, h2, h3, h4⟩ := I
  have e1 : Ex Hf (upd Hf D (.lst vs)) := Ex.new h2
  have e2 : Ex (upd Hf D (.lst vs)) H := fun q u hq => by
    by_cases e : q = D
    · subst e
      rw [upd_same] at hq
      rw [h3, ← hq]
    · rw [upd_ne e] at hq
      exact h1.i q u hq
  have hs : σ[j]? = some (some (.ref D)) := hρ.ref hj
  have r1 := (hρ.mono e1).set (j := j) (v := .ref D) (d := .py (.list zs)) (dp_lst_new h4 h2)
  have es : σ.set j (some (.ref D)) = σ := by
    obtain ⟨hl, e⟩ := List.getElem?_eq_some_iff.mp hs
    rw [← e]
    exact List.set_getElem_self hl
  rw [es] at r1
  exact ⟨_, e2, r1, fun Hf2 H2 t => ⟨Ex.refl _, (e1.trans t.f).trans t.i, t.h, fun _ _ _ h => h⟩⟩
theorem gm_ifA {c : Expr} {th el rest : List Stmt} {pos : Pos} {Φ : Bool → Prop} (j : Nat) (hρ : RpE i.K Hf σ ρ) (hj : ρ[j]? = some (some (refDt D))) (I : LGrow i.K Hf0 H0 D zs Hf H) (h : ET i c (ρ.set j (some (.py (.list zs)))) Φ)
    (q : ∀ b H1, Tr Hf H Hf H1 → Φ b → if b = true then GO i th { E with nx := GO i rest E } σ H1 else GO i el { E with nx := GO i rest E } σ H1) : GO i (.If c th el pos :: rest) E σ H := by
  obtain ⟨Hf', e, r, back⟩ := LGrow.with hρ hj I
  exact go_if (h σ Hf' H _ r e fun b Hf1 H1 t φ => q b H1 (back _ _ t) φ)
/-- return found, a list of ours -/
theorem gm_retL {x : Str} {p pos : Pos} {rest : List Stmt} (j : Nat) (hρ : RpE i.K Hf σ ρ) (hj : ρ[j]? = some (some (refDt D))) (I : LGrow i.K Hf0 H0 D zs Hf H) (hD : H0 D = none) (q : ∀ Hf', Tr Hf0 H0 Hf' H → Dp i.K Hf' (.ref D) (.list zs) → E.rt (.ref D) H)
    (hN : i.N[j]? = some x := by rfl) (hv : Vis i.sc x := by first | exact Or.inl rfl | exact Or.inr (Or.inl rfl) | exact Or.inr (Or.inr rfl)) (hd : (x == ("__debug__" : Str)) = false := by decide) (hcd : (x == ("__classdict__" : Str)) = false := by decide) : GO i (.Return (some (.Name x p)) pos :: rest) E σ H := by
  obtain ⟨Hf', t, _, d⟩ := I.done hD
  exact go_ret (ex_var j (hρ.ref hj) (q Hf' t d) hN hv hd hcd)
end
theorem wd_lit (s : Str) (h : decide (1 ≤ s.length) && decide (s.length ≤ 8) && s.cps.toList.all (fun c => decide (97 ≤ c) && decide (c ≤ 122)) = true) : Wd s := by
  simp only [Bool.and_eq_true, decide_eq_true_eq, List.all_eq_true] at h
  exact ⟨h.1.1, h.1.2, fun c hc => h.2 c hc⟩
section
variable {P : Program} {w : World} {K : PySem.W.Frag} {mg : Str → Option Value} {base : Heap}
theorem vls_any' (v : Vl) (vs : List Vl) : ((vs.map Vl.d).any fun y => PyData.eqv y v.d) = decide (v ∈ vs) := vls_any v vs
/-- what a pool is -/
structure PoolOk (m : Nat) (vs : List Vl) : Prop where
  lo : 1 ≤ vs.length
  hi : vs.length ≤ m
  ok : ∀ v ∈ vs, okV v
theorem pya_vs : ∀ vs : List Vl, PyAll (vs.map fun v => Dt.py v.d) (vs.map Vl.d)
  | [] => .nil
  | _ :: vs => .cons (pya_vs vs)
/-- a row of values -/
def EV (i : XI) (es : List Expr) (ρ : En) (n : Nat) : Prop := EA i es ρ fun ds => ∃ vs : List Vl, ds = vs.map (fun v => Dt.py v.d) ∧ vs.length = n ∧ ∀ v ∈ vs, okV v
theorem EA.imp {i : XI} {es : List Expr} {ρ : En} {Φ Ψ : List Dt → Prop} (h : EA i es ρ Φ) (k : ∀ d, Φ d → Ψ d) : EA i es ρ Ψ := fun σ Hf H Q r x q => h σ Hf H Q r x fun v d Hf' H' t r1 φ => q v d Hf' H' t r1 (k d φ)
theorem ev_nil {i : XI} {ρ : En} : EV i [] ρ 0 := ea_nil ⟨[], rfl, rfl, fun _ h => nomatch h⟩
theorem ev_cons {i : XI} {ρ : En} {e : Expr} {es : List Expr} {n : Nat} (h : EE i e ρ fun d => ∃ v : Vl, okV v ∧ d = .py v.d) (t : EV i es ρ n) (hs : ∀ env, starEach (e :: es) env = (false, eval e env) :: starEach es env := by intro _; rfl) : EV i (e :: es) ρ (n + 1) :=
  ea_cons (h.imp fun d ⟨v, ok, ed⟩ => EA.imp t fun ds ⟨vs, eds, hl, oks⟩ => ⟨v :: vs, by rw [ed, eds]; rfl, by rw [List.length_cons, hl], fun u hu => by
    rcases List.mem_cons.mp hu with rfl | hu
    · exact ok
    · exact oks u hu⟩) hs
theorem ev_int {i : XI} {ρ : En} {n : Int} {j : Nat} {pos : Pos} (h : 0 ≤ n ∧ n ≤ 1000000000) : EE i (.Constant (.int n) j pos) ρ fun d => ∃ v : Vl, okV v ∧ d = .py v.d := ee_int ⟨.n n, h, rfl⟩
theorem ev_str {i : XI} {ρ : En} {s : Str} {j : Nat} {pos : Pos} (h : Wd s) : EE i (.Constant (.str s) j pos) ρ fun d => ∃ v : Vl, okV v ∧ d = .py v.d := ee_str ⟨.w s, h, rfl⟩
theorem pw {a b : Int} (h : a = b) : Dt.py (.int a) = Dt.py (.int b) := by rw [h]
theorem p5 : (10 : Int) ^ (5 : Int).toNat = ((100000 : Nat) : Int) := by decide
theorem p4 : (10 : Int) ^ (4 : Int).toNat = ((10000 : Nat) : Int) := by decide
theorem p9 : (10 : Int) ^ (9 : Int).toNat = 1000000000 := by decide
def S_pool (K : PySem.W.Frag) : Sg := fun ds Φ => ∃ (sc : Addr) (ns : List Int) (m : Nat), ds = [dwD K sc ns, .py (.int (m : Int))] ∧ 1 ≤ m ∧ m ≤ 3 ∧ ∀ vs : List Vl, PoolOk m vs → Φ (.py (.list (vs.map Vl.d)))
theorem p_pool (H : Hd K mg) : Pf P w K mg base "_law_pool" 3 ["_law_state", "_law_many"] 2 (S_pool K) := pf_of H q_law_pool sc_law_pool rfl fun ds Φ hl hS => by
  obtain ⟨sc, ns, m, rfl, h1, h3, φ⟩ := hS
  refine bb_set 2 (ee_op (ee_op (ee_take (sc := sc) (ns := ns) H (Nat.le_of_ble_eq_true rfl) 100000 (by decide) (by decide) (ee_var 0 rfl ⟨rfl, ee_op (ee_int (ee_int (od_pow ⟨by omega, by omega, by decide⟩ ⟨pw p5, fun n hn => ee_op (ee_int (ee_int (od_pow ⟨by omega, by omega, by decide⟩ (od_mul (.inr ⟨by decide, by decide⟩) (ee_take (sc := sc) (ns := ns) H (Nat.le_of_ble_eq_true rfl) 10000 (by decide) (by decide) (ee_var 0 rfl ⟨rfl, ee_op (ee_int (ee_int (od_pow ⟨by omega, by omega, by decide⟩ ⟨pw p4, fun n2 hn2 => od_add ?_⟩)))⟩))))))⟩)))⟩))))
  have eg : (n : Int) * 10 ^ (4 : Int).toNat + (n2 : Int) = ((n * 10000 + n2 : Nat) : Int) := by
    rw [p4]
    omega
  rw [eg]
  have hg : n * 10000 + n2 ≤ 1000000000 := by omega
  generalize n * 10000 + n2 = g at hg
  refine bb_set 3 (ee_lst (EA.imp (Φ := fun ds => ∃ vs : List Vl, ds = vs.map (fun v => Dt.py v.d) ∧ vs.length = 20 ∧ ∀ v ∈ vs, okV v) ?_ fun ds ⟨L, eds, ln, ok⟩ => ⟨L.map Vl.d, by rw [eds]; exact pya_vs L, by rw [List.length_map]; omega, ?_⟩))
  · exact ev_cons (ev_int (by decide)) (ev_cons (ev_int (by decide)) (ev_cons (ev_str (wd_lit _ (by decide +kernel))) (ev_cons (ev_str (wd_lit _ (by decide +kernel))) (ev_cons (ev_int (by decide)) (ev_cons (ev_int (by decide)) (ev_cons (ee_op (ee_int (ee_int (od_pow ⟨by omega, by omega, by decide⟩ ⟨.n 1000000000, ⟨by decide, by decide⟩, pw p9⟩)))) (ev_cons (ev_str (wd_lit _ (by decide +kernel))) (ev_cons (ee_var 2 rfl ⟨.n (g : Int), ⟨by omega, by omega⟩, rfl⟩) (ev_cons (ee_call (p_word H).fnc (ea_cons (ee_var 0 rfl (ea_nil ⟨rfl, sc, ns, rfl, fun s hs => ⟨.w s, hs, rfl⟩⟩)))) (ev_cons (ev_str (wd_lit _ (by decide +kernel))) (ev_cons (ev_int (by decide)) (ev_cons (ev_int (by decide)) (ev_cons (ev_str (wd_lit _ (by decide +kernel))) (ev_cons (ev_int (by decide)) (ev_cons (ev_int (by decide)) (ev_cons (ev_int (by decide)) (ev_cons (ev_int (by decide)) (ev_cons (ev_int (by decide)) (ev_cons (ev_int (by decide)) (ev_nil))))))))))))))))))))
  intro σ Hf H0 E hρ ex qn qr
  refine go_set 4 (ex_lst (ax_nil ⟨Nat.zero_le _, fun D hD => ?_⟩))
  have hDf : Hf D = none := fresh_back ex hD
  have ρ1 := (hρ.set (j := 4) (v := .ref D) (d := refDt D) rfl)
  refine gm_for [5] (wx_rng2 rfl (fr_range H)) (gx_name 5) ρ1 (Tr.drop ex hD).i (es_rng2 (Ψ := fun its => ∃ k, k ≤ 20 ∧ 16 ≤ k ∧ its = rngD ((20 - k : Nat) : Int) k) (ea_cons (ee_take (sc := sc) (ns := ns) H (Nat.le_of_ble_eq_true rfl) 4 (by decide) (by decide) (ee_var 0 rfl ⟨rfl, ee_int ⟨rfl, fun lo hlo => ?_⟩⟩)))) fun its Hf1 H1 t1 ⟨k, hk, hk2, eits⟩ => ?_
  · refine ea_cons (ee_callB (fr_len H) PySem.boot_len (ea_cons (ee_var 3 rfl (ea_nil (ld_len (n := 20) (by show 20 = (L.map Vl.d).length; rw [List.length_map, ln]) (ea_nil ⟨(lo : Int), 20 - lo, ?_, by omega, by omega, by omega, 20 - lo, by omega, by omega, ?_⟩))))))
    · rw [show (lo : Int) + ((20 - lo : Nat) : Int) = ((20 : Nat) : Int) by omega]
    · rw [show ((20 - (20 - lo) : Nat)) = lo by omega]
  subst eits
  refine ⟨wipeE _ [5], fun j Hx Hy => ∃ vs : List Vl, vs.length ≤ m ∧ (0 < j → 1 ≤ vs.length) ∧ (∀ v ∈ vs, okV v) ∧ LGrow K Hf H0 D (vs.map Vl.d) Hx Hy, (ρ1.mono t1.f).less _, ⟨[], Nat.zero_le _, (fun h => absurd h (by decide)), (fun _ h => nomatch h), (LGrow.new ex hD).step t1⟩, (fun j _ _ _ _ hx t => by obtain ⟨vs, a, b, c, h⟩ := hx; exact ⟨vs, a, b, c, h.step t⟩), fun j d hd => ?_, fun σ2 Hf2 H2 e1 e2 r2 hx => ?_⟩
  · unfold rngD at hd
    rw [List.getElem?_map] at hd
    obtain ⟨j', hj', rfl⟩ := Option.map_eq_some_iff.mp hd
    obtain ⟨hjn, ej⟩ := List.getElem?_eq_some_iff.mp hj'
    rw [List.length_range] at hjn
    rw [List.getElem_range] at ej
    subst ej
    rw [show ((20 - k : Nat) : Int) + (j : Int) = ((20 - k + j : Nat) : Int) by omega]
    have hn : 20 - k + j < L.length := by omega
    generalize 20 - k + j = n0 at hn
    have hat : atI (L.map Vl.d) (n0 : Int) = some L[n0].d := atI_nat (by rw [List.getElem?_map, List.getElem?_eq_getElem hn]; rfl)
    have hok := ok _ (List.getElem_mem hn)
    generalize L[n0] = v0 at hat hok
    refine ⟨_, gd_name 5, fun σ2 Hf2 H2 e1 e2 r2 hx => ?_⟩
    obtain ⟨vs, a, b, c, h⟩ := hx
    have hvl : (vs.map Vl.d).length = vs.length := List.length_map _
    refine gm_ifA (Φ := fun b => (b = true → vs.length < m) ∧ (b = false → 1 ≤ vs.length)) 4 r2 rfl h (et_w (ew_and (et_cmp (ee_ixL (ee_var 3 rfl (ee_var 5 rfl ⟨_, (n0 : Int), v0.d, rfl, rfl, hat, ee_var 4 rfl (od_niL (vl_pl v0) (vls_plain vs) ⟨_, rfl, ?_⟩)⟩))) (hm := rfl)))) fun bb H3 t3 ⟨w1, w2⟩ => ?_
    · rw [vls_any]
      by_cases hv : v0 ∈ vs
      · rw [decide_eq_true hv]
        refine iteF ⟨(fun z => nomatch z), fun _ => ?_⟩
        exact List.length_pos_iff.mpr (List.ne_nil_of_mem hv)
      · rw [decide_eq_false hv]
        refine iteT (ew_and1 (et_cmp (ee_callB (fr_len H) PySem.boot_len (ea_cons (ee_var 4 rfl (ea_nil (ld_len (n := vs.length) hvl.symm (ee_var 1 rfl (od_lt ⟨_, rfl, ?_⟩))))))) (hm := rfl)))
        by_cases hl : vs.length < m
        · rw [decide_eq_true (show (vs.length : Int) < (m : Int) by omega)]
          exact ⟨fun _ => hl, fun z => nomatch z⟩
        · rw [decide_eq_false (show ¬ (vs.length : Int) < (m : Int) by omega)]
          exact ⟨(fun z => nomatch z), fun _ => by omega⟩
    · cases bb with
      | true =>
        have w1 := w1 rfl
        refine iteT (gm_append (z := v0.d) 4 r2 rfl (h.step t3) hD (by omega) (ee_ixL (ee_var 3 rfl (ee_var 5 rfl ⟨_, (n0 : Int), v0.d, rfl, rfl, hat, rfl⟩))) fun Hf4 H4 e4 e5 r4 I4 => go_nil (go_nil ⟨Hf4, e1.trans e4, e5, r4.sub (sub_set (by decide)), vs ++ [v0], ?_, ?_, ?_, ?_⟩))
        · rw [List.length_append, List.length_singleton]
          omega
        · intro _
          rw [List.length_append, List.length_singleton]
          omega
        · intro v hv
          rcases List.mem_append.mp hv with hv | hv
          · exact c v hv
          · rw [List.mem_singleton.mp hv]
            exact hok
        · rw [List.map_append]
          exact I4
      | false =>
        exact iteF (go_nil (go_nil ⟨Hf2, e1, t3.i, r2.sub (sub_set (by decide)), vs, a, fun _ => w2 rfl, c, h.step t3⟩))
  · obtain ⟨vs, a, b, c, h⟩ := hx
    refine gm_retL 4 r2 rfl h hD fun Hf' t d => ?_
    refine qr _ _ Hf' H2 t (rpy d) (φ vs ⟨b ?_, a, c⟩)
    unfold rngD
    rw [List.length_map, List.length_range]
    omega
end
end Fq
/-! FqLt: the tables. -/
namespace Fq
open PySem PySem.Spec PyProof.Rows L2 Evl
open RZ
def namesL : List (List Str) := [["a", "ab", "b"], ["rose", "rosea", "z"], ["b", "ba", "bab"]]
theorem namesL_ok : ∀ l ∈ namesL, l.length = 3 ∧ (∀ s ∈ l, Wd s) ∧ l.Pairwise fun a b => sLt a b = true := by
  intro l hl
  unfold namesL at hl
  simp only [List.mem_cons, List.not_mem_nil, or_false] at hl
  rcases hl with rfl | rfl | rfl
  all_goals
    refine ⟨rfl, fun s hs => ?_, by decide +kernel⟩
    simp only [List.mem_cons, List.not_mem_nil, or_false] at hs
    rcases hs with rfl | rfl | rfl <;> exact wd_lit _ (by decide +kernel)
/-- what the tables are -/
structure HsOk (wide : Nat) (hs : List (Str × Nat)) : Prop where
  lo : 1 ≤ hs.length
  hi : hs.length ≤ 3
  ws : ∀ h ∈ hs, Wd h.1 ∧ 1 ≤ h.2 ∧ h.2 ≤ wide
  up : hs.Pairwise fun a b => sLt a.1 b.1 = true
section
variable {P : Program} {w : World} {K : PySem.W.Frag} {mg : Str → Option Value} {base : Heap}
def S_tables (K : PySem.W.Frag) : Sg := fun ds Φ => ∃ (sc : Addr) (ns : List Int) (m : Nat), ds = [dwD K sc ns, .py (.int (m : Int))] ∧ 1 ≤ m ∧ m ≤ 3 ∧ ∀ hs, HsOk m hs → Φ (.py (.list (hs.map hdD)))
theorem p_tables (H : Hd K mg) : Pf P w K mg base "_law_tables" 2 ["_law_state", "_law_wide"] 2 (S_tables K) := pf_of H q_law_tables sc_law_tables rfl fun ds Φ hl hS => by
  obtain ⟨sc, ns, m, rfl, h1, h3, φ⟩ := hS
  refine bb_set 2 (EE.imp (Φ := fun d => ∃ l ∈ namesL, d = .py (.list (l.map PyData.str))) (ee_ixL (ee_lst ?_)) fun d ⟨l, hl, ed⟩ => ?_)
  · refine ea_cons (ee_lst (ea_cons (ee_str (ea_cons (ee_str (ea_cons (ee_str (ea_nil ⟨_, .cons (.cons (.cons .nil)), Nat.le_of_ble_eq_true rfl, ?_⟩))))))))
    refine ea_cons (ee_lst (ea_cons (ee_str (ea_cons (ee_str (ea_cons (ee_str (ea_nil ⟨_, .cons (.cons (.cons .nil)), Nat.le_of_ble_eq_true rfl, ?_⟩))))))))
    refine ea_cons (ee_lst (ea_cons (ee_str (ea_cons (ee_str (ea_cons (ee_str (ea_nil ⟨_, .cons (.cons (.cons .nil)), Nat.le_of_ble_eq_true rfl, ?_⟩))))))))
    refine ea_nil ⟨_, .cons (.cons (.cons .nil)), Nat.le_of_ble_eq_true rfl, ?_⟩
    refine ee_take (sc := sc) (ns := ns) H (Nat.le_of_ble_eq_true rfl) 3 (by decide) (by decide) (ee_var 0 rfl ⟨rfl, ee_int ⟨rfl, fun n hn => ?_⟩⟩)
    have : n = 0 ∨ n = 1 ∨ n = 2 := by omega
    rcases this with rfl | rfl | rfl
    · exact ⟨_, ((0 : Nat) : Int), _, rfl, rfl, atI_nat (j := 0) rfl, ["a", "ab", "b"], by unfold namesL; simp, rfl⟩
    · exact ⟨_, ((1 : Nat) : Int), _, rfl, rfl, atI_nat (j := 1) rfl, ["rose", "rosea", "z"], by unfold namesL; simp, rfl⟩
    · exact ⟨_, ((2 : Nat) : Int), _, rfl, rfl, atI_nat (j := 2) rfl, ["b", "ba", "bab"], by unfold namesL; simp, rfl⟩
  subst ed
  obtain ⟨l3, lw, lu⟩ := namesL_ok l hl
  clear hl
  intro σ Hf H0 E hρ ex qn qr
  refine go_set 3 (ex_lst (ax_nil ⟨Nat.zero_le _, fun D hD => ?_⟩))
  have hDf : Hf D = none := fresh_back ex hD
  have ρ1 := (hρ.set (j := 3) (v := .ref D) (d := refDt D) rfl)
  refine gm_for [4] wx_list (gx_name 4) ρ1 (Tr.drop ex hD).i (es_list (Ψ := fun its => ∃ k, 1 ≤ k ∧ k ≤ 3 ∧ its = (l.take k).map fun s => .py (.str s)) (ee_sliceL (ee_var 2 rfl ?_))) fun its Hf1 H1 t1 ⟨k, hk, hk2, eits⟩ => ?_
  · refine ee_op (ee_int (ee_take (sc := sc) (ns := ns) H (Nat.le_of_ble_eq_true rfl) 3 (by decide) (by decide) (ee_var 0 rfl ⟨rfl, ee_int ⟨rfl, fun n hn => od_add ?_⟩⟩)))
    refine ⟨1 + (n : Int), rfl, _, rfl, _, rfl, 1 + n, by omega, by omega, ?_⟩
    rw [show (1 + (n : Int)) = ((1 + n : Nat) : Int) by omega, cut_to, ← List.map_take, List.map_map]
    rfl
  subst eits
  refine ⟨wipeE _ [4], fun j Hx Hy => ∃ hs : List (Str × Nat), hs.map (·.1) = l.take j ∧ (∀ h ∈ hs, 1 ≤ h.2 ∧ h.2 ≤ m) ∧ LGrow K Hf H0 D (hs.map hdD) Hx Hy, (ρ1.mono t1.f).less _, ⟨[], rfl, (fun _ h => nomatch h), (LGrow.new ex hD).step t1⟩, (fun j _ _ _ _ hx t => by obtain ⟨hs, a, b, h⟩ := hx; exact ⟨hs, a, b, h.step t⟩), fun j d hd => ?_, fun σ2 Hf2 H2 e1 e2 r2 hx => ?_⟩
  · rw [List.getElem?_map] at hd
    obtain ⟨s, hs', rfl⟩ := Option.map_eq_some_iff.mp hd
    have hlt : j < (l.take k).length := (List.getElem?_eq_some_iff.mp hs').1
    have hjk : j < k := by
      rw [List.length_take] at hlt
      omega
    have hs : l[j]? = some s := by
      rw [List.getElem?_take_of_lt hjk] at hs'
      exact hs'
    refine ⟨_, gd_name 4, fun σ2 Hf2 H2 e1 e2 r2 hx => ?_⟩
    obtain ⟨hs0, a, b, h⟩ := hx
    have hl0 : hs0.length = j := by
      have := congrArg List.length a
      rw [List.length_map, List.length_take] at this
      omega
    refine gm_appendJ (fun z => ∃ n : Nat, 1 ≤ n ∧ n ≤ m ∧ z = hdD (s, n)) 3 r2 rfl h hD (by rw [List.length_map]; omega) (ee_tup (ea_cons (ee_var 4 rfl (ea_cons (ee_op (ee_int (ee_take (sc := sc) (ns := ns) H (Nat.le_of_ble_eq_true rfl) m h1 (by omega) (ee_var 0 rfl ⟨rfl, ee_var 1 rfl ⟨rfl, fun n hn => od_add (ea_nil ⟨_, .cons (.cons .nil), Nat.le_of_ble_eq_true rfl, _, rfl, 1 + n, by omega, by omega, ?_⟩)⟩⟩)))))))) fun z Hf4 H4 ⟨n, n1, n2, ez⟩ e4 e5 r4 I4 => ?_
    · rw [show (1 + (n : Int)) = ((1 + n : Nat) : Int) by omega]
      rfl
    · subst ez
      refine go_nil ⟨Hf4, e1.trans e4, e5, r4.sub (sub_set (by decide)), hs0 ++ [(s, n)], ?_, ?_, ?_⟩
      · rw [List.map_append, a, List.take_add_one, hs]
        rfl
      · intro h hh
        rcases List.mem_append.mp hh with hh | hh
        · exact b h hh
        · rw [List.mem_singleton.mp hh]
          exact ⟨n1, n2⟩
      · rw [List.map_append]
        exact I4
  · obtain ⟨hs, a, b, h⟩ := hx
    rw [List.length_map, List.length_take, l3, Nat.min_eq_left hk2] at a
    refine gm_retL 3 r2 rfl h hD fun Hf' t d => ?_
    have hl0 : hs.length = k := by
      have := congrArg List.length a
      rw [List.length_map, List.length_take] at this
      omega
    refine qr _ _ Hf' H2 t (rpy d) (φ hs ⟨by omega, by omega, fun h hh => ⟨?_, b h hh⟩, ?_⟩)
    · have : h.1 ∈ hs.map (·.1) := List.mem_map.mpr ⟨h, hh, rfl⟩
      rw [a] at this
      exact lw _ (List.mem_of_mem_take this)
    · have : (hs.map (·.1)).Pairwise fun a b => sLt a b = true := by
        rw [a]
        exact lu.sublist (List.take_sublist _ _)
      exact List.pairwise_map.mp this
end
end Fq
/-! FqLh: the lots that have a place, that lack it. -/
namespace Fq
open PySem PySem.Spec PyProof.Rows L2 Evl
open RZ
def hasP (p : Nat × Row) (l : Lot) : Bool := decide (p.2 ∈ l.an.getD p.1 [])
section
variable {P : Program} {w : World} {K : PySem.W.Frag} {mg : Str → Option Value} {base : Heap}
def S_having : Sg := fun ds Φ => ∃ (ls : List Lot) (p : Nat × Row), ds = [.py (.tuple (ls.map lotD)), .py (plcD p)] ∧ ls.length ≤ 1000 ∧ (∀ l ∈ ls, p.1 < l.an.length) ∧ Φ (.py (.tuple ((ls.filter (hasP p)).map lotD)))
theorem p_having (H : Hd K mg) : Pf P w K mg base "_law_having" 1 ["_law_some", "_law_place"] 2 S_having := pf_of H q_law_having sc_law_having rfl fun ds Φ hl hS => by
  obtain ⟨ls, p, rfl, hz, hb, φ⟩ := hS
  refine bb_ret (ee_callTy (T := "tuple") (fr_tuple H) (by decide +kernel) (ea_cons (ee_lcF [("_law_lot", 2)] wx_tup (gx_name 2) (es_tup (ee_var 0 rfl ⟨_, rfl, Lot, fun l => .py (lotD l), ls, hasP p, fun l => lotD l, by rw [List.map_map]; rfl, fun x y h => lotD_inj (Dt.py.inj h), by omega, fun l hl => ?_, ?_⟩)))))
  · have hlt := hb l hl
    refine ⟨_, gd_name 2, ei_one (et_cmp (ee_ixT (ee_var 1 rfl (ee_int ⟨_, 1, rowD p.2, rfl, rfl, atI_nat (j := 1) rfl, ee_ixT (ee_ixT (ee_var 2 rfl (ee_int ⟨_, 3, anD l.an, rfl, rfl, atI_nat (j := 3) rfl, ?_⟩)))⟩))) (hm := rfl)), fun _ => ee_var 2 rfl rfl⟩
    refine ee_ixT (ee_var 1 rfl (ee_int ⟨_, 0, .int (p.1 : Int), rfl, rfl, atI_nat (j := 0) rfl, _, _, rwsD (l.an.getD p.1 []), rfl, rfl, getT (l := l.an) (by rw [List.getD_eq_getElem?_getD, List.getElem?_eq_getElem hlt]; rfl), od_inT (row_pl _) (rows_plain _) ?_⟩))
    rw [rows_any]
    exact ⟨_, rfl, rfl⟩
  · refine ea_nil (ld_tuple φ)
theorem p_lacking (H : Hd K mg) : Pf P w K mg base "_law_lacking" 1 ["_law_some", "_law_place"] 2 (fun ds Φ => ∃ (ls : List Lot) (p : Nat × Row), ds = [.py (.tuple (ls.map lotD)), .py (plcD p)] ∧ ls.length ≤ 1000 ∧ (∀ l ∈ ls, p.1 < l.an.length) ∧ Φ (.py (.tuple ((ls.filter fun l => !hasP p l).map lotD)))) := pf_of H q_law_lacking sc_law_lacking rfl fun ds Φ hl hS => by
  obtain ⟨ls, p, rfl, hz, hb, φ⟩ := hS
  refine bb_ret (ee_callTy (T := "tuple") (fr_tuple H) (by decide +kernel) (ea_cons (ee_lcF [("_law_lot", 2)] wx_tup (gx_name 2) (es_tup (ee_var 0 rfl ⟨_, rfl, Lot, fun l => .py (lotD l), ls, fun l => !hasP p l, fun l => lotD l, by rw [List.map_map]; rfl, fun x y h => lotD_inj (Dt.py.inj h), by omega, fun l hl => ?_, ?_⟩)))))
  · have hlt := hb l hl
    refine ⟨_, gd_name 2, ei_one (et_cmp (ee_ixT (ee_var 1 rfl (ee_int ⟨_, 1, rowD p.2, rfl, rfl, atI_nat (j := 1) rfl, ee_ixT (ee_ixT (ee_var 2 rfl (ee_int ⟨_, 3, anD l.an, rfl, rfl, atI_nat (j := 3) rfl, ?_⟩)))⟩))) (hm := rfl)), fun _ => ee_var 2 rfl rfl⟩
    refine ee_ixT (ee_var 1 rfl (ee_int ⟨_, 0, .int (p.1 : Int), rfl, rfl, atI_nat (j := 0) rfl, _, _, rwsD (l.an.getD p.1 []), rfl, rfl, getT (l := l.an) (by rw [List.getD_eq_getElem?_getD, List.getElem?_eq_getElem hlt]; rfl), od_niT (row_pl _) (rows_plain _) ?_⟩))
    rw [rows_any]
    exact ⟨_, rfl, rfl⟩
  · refine ea_nil (ld_tuple φ)
end
end Fq
/-! FqLb: whether the place to ask about is best. -/
namespace Fq
open PySem PySem.Spec PyProof.Rows L2 Evl
open RZ
theorem Sub.put {ρ ρ' : En} {vs : List Nat} {v : Nat} {x : Option Dt} (s : Sub ρ' (wipeE ρ vs)) (h : v ∈ vs) : Sub (ρ'.set v x) (wipeE ρ vs) := ⟨by rw [List.length_set]; exact s.len, fun j d e => by
  have hj : j ≠ v := fun z => by
    rw [wipeE_get, if_pos (by rw [z]; exact h)] at e
    cases q : ρ[j]? <;> rw [q] at e <;> cases e
  rw [List.getElem?_set_ne fun z => hj z.symm]
  exact s.get j d e⟩
section
variable {P : Program} {w : World} {K : PySem.W.Frag} {mg : Str → Option Value} {base : Heap}
def nHas (ls : List Lot) (p : Nat × Row) : Nat := (ls.filter (hasP p)).length
def S_is_best : Sg := fun ds Φ => ∃ (ls : List Lot) (p : Nat × Row) (ps : List (Nat × Row)), ds = [.py (.tuple (ls.map lotD)), .py (plcD p), .py (.list (ps.map plcD))] ∧ ls.length ≤ 1000 ∧ (∀ l ∈ ls, ∀ q ∈ p :: ps, q.1 < l.an.length) ∧
  max (nHas ls p) (ls.length - nHas ls p) ≠ ls.length ∧ (∀ q ∈ ps, 0 < nHas ls q → nHas ls q < ls.length → max (nHas ls p) (ls.length - nHas ls p) ≤ max (nHas ls q) (ls.length - nHas ls q)) ∧ Φ (.py (.bool true))
theorem lack_len (ls : List Lot) (p : Nat × Row) : (ls.filter fun l => !hasP p l).length = ls.length - nHas ls p := by
  unfold nHas
  induction ls with
  | nil => rfl
  | cons a t ih =>
    have := List.length_filter_le (hasP p) t
    rw [List.filter_cons, List.filter_cons]
    cases hasP p a
    · rw [if_pos (by rfl), if_neg (by decide), List.length_cons, List.length_cons, ih]
      omega
    · rw [if_neg (by decide), if_pos rfl, List.length_cons, List.length_cons, ih]
      omega
theorem has_le (ls : List Lot) (p : Nat × Row) : nHas ls p ≤ ls.length := List.length_filter_le _ _
theorem p_is_best (H : Hd K mg) : Pf P w K mg base "_law_is_best" 2 ["_law_some", "_law_place", "_law_places_here"] 3 S_is_best := pf_of H q_law_is_best sc_law_is_best rfl fun ds Φ hl hS => by
  obtain ⟨ls, p, ps, rfl, hz, hb, h1, h2, φ⟩ := hS
  have nl := has_le ls p
  refine bb_set 3 (ee_callB (id := "max") (fr_max H) (by decide +kernel) (ea_cons (ee_callB (fr_len H) PySem.boot_len (ea_cons (ee_call (p_having H).fnc (ea_cons (ee_var 0 rfl (ea_cons (ee_var 1 rfl (ea_nil ⟨rfl, ls, p, rfl, hz, (fun l hl => hb l hl p (List.mem_cons_self ..)), ?_⟩))))))))))
  refine ea_nil (ld_len (n := nHas ls p) (by show _ = _; rw [List.length_map]; rfl) (ea_cons (ee_callB (fr_len H) PySem.boot_len (ea_cons (ee_call (p_lacking H).fnc (ea_cons (ee_var 0 rfl (ea_cons (ee_var 1 rfl (ea_nil ⟨rfl, ls, p, rfl, hz, (fun l hl => hb l hl p (List.mem_cons_self ..)), ?_⟩))))))))))
  refine ea_nil (ld_len (n := ls.length - nHas ls p) (by show _ = _; rw [List.length_map, lack_len]) (ea_nil (ld_max2 ?_)))
  rw [show max (nHas ls p : Int) ((ls.length - nHas ls p : Nat) : Int) = ((max (nHas ls p) (ls.length - nHas ls p) : Nat) : Int) by omega]
  generalize max (nHas ls p) (ls.length - nHas ls p) = W at h1 h2
  refine bb_if (et_cmp (ee_var 3 rfl (ee_callB (fr_len H) PySem.boot_len (ea_cons (ee_var 0 rfl (ea_nil (ld_len (n := ls.length) (by show _ = _; rw [List.length_map]) (od_eq (pl_int _) (pl_int _) ⟨false, ?_, ?_⟩))))))) (hm := rfl))
  · rw [eqv_int, decide_eq_false (by omega)]
  refine iteF (bb_nil (bb_forJ (Ψi := fun its => its = ps.map fun q => .py (plcD q)) [4] wx_list (gx_name 4) (es_list (ee_var 2 rfl ⟨_, rfl, by rw [List.map_map]; rfl⟩)) fun its eits => ?_))
  subst eits
  refine ⟨fun _ => wipeE _ [4, 5], sub_wipe _ [4, 5], fun j d hd => ?_, ?_⟩
  · rw [List.getElem?_map] at hd
    obtain ⟨q, hq, rfl⟩ := Option.map_eq_some_iff.mp hd
    have hm := List.mem_of_getElem? hq
    have h2 := h2 q hm
    have nq := has_le ls q
    refine ⟨_, gd_name 4, bb_set 5 (ee_callB (fr_len H) PySem.boot_len (ea_cons (ee_call (p_having H).fnc (ea_cons (ee_var 0 rfl (ea_cons (ee_var 4 rfl (ea_nil ⟨rfl, ls, q, rfl, hz, (fun l hl => hb l hl q (List.mem_cons_of_mem _ hm)), ?_⟩))))))))⟩
    refine ea_nil (ld_len (n := nHas ls q) (by show _ = _; rw [List.length_map]; rfl) ?_)
    have fin := ((Sub.refl (wipeE (((st0 N_law_is_best [.py (.tuple (ls.map lotD)), .py (plcD p), .py (.list (ps.map plcD))])).set 3 (some (.py (.int (W : Int))))) [4, 5])).put (v := 4) (x := some (.py (plcD q))) (by decide)).put (v := 5) (x := some (.py (.int (nHas ls q : Int)))) (by decide)
    refine bb_if (et_w (ew_and (et_chainI (fun _ _ => op_lt) (fun _ _ => op_lt) (ee_int ⟨0, rfl, ee_var 5 rfl ⟨_, rfl, ?_⟩⟩))))
    by_cases ha : 0 < nHas ls q
    · rw [decide_eq_true (show (0 : Int) < (nHas ls q : Int) by omega)]
      refine iteT (ee_callB (fr_len H) PySem.boot_len (ea_cons (ee_var 0 rfl (ea_nil (ld_len (n := ls.length) (by show _ = _; rw [List.length_map]) ⟨_, rfl, ?_⟩)))))
      by_cases hb2 : nHas ls q < ls.length
      · rw [decide_eq_true (show (nHas ls q : Int) < (ls.length : Int) by omega)]
        refine iteT (ew_and1 (et_cmp (ee_callB (id := "max") (fr_max H) (by decide +kernel) (ea_cons (ee_var 5 rfl (ea_cons (ee_op (ee_callB (fr_len H) PySem.boot_len (ea_cons (ee_var 0 rfl (ea_nil (ld_len (n := ls.length) (by show _ = _; rw [List.length_map]) ?_)))))))))) (hm := rfl)))
        refine ee_var 5 rfl (od_sub (ea_nil (ld_max2 (ee_var 3 rfl (od_lt ⟨_, rfl, ?_⟩)))))
        have := h2 ha hb2
        rw [decide_eq_false (show ¬ max (nHas ls q : Int) ((ls.length : Int) - (nHas ls q : Int)) < (W : Int) by omega)]
        exact iteF (bb_nil (bb_nil fin))
      · rw [decide_eq_false (show ¬ (nHas ls q : Int) < (ls.length : Int) by omega)]
        exact iteF (iteF (bb_nil (bb_nil fin)))
    · rw [decide_eq_false (show ¬ (0 : Int) < (nHas ls q : Int) by omega)]
      exact iteF (iteF (bb_nil (bb_nil fin)))
  · exact bb_ret (ee_bl φ)
end
end Fq
/-! FqEn: enumerate of a tuple, walked by the hand layer. -/
namespace Fq
open PySem PySem.Spec PyProof.Rows L2 Evl
open RZ
theorem meets_enumOne {v : Value} {o : Obj} {Hh : Heap → Prop} (B : Begins v o Hh) : Meets (Builtin.«enumerate.__new__» ⟨[.type "enumerate", v], []⟩) (fun _ R s => Hh s.heap ∧ R (.ok (.ret (.ref (s.heap.push o).objs.size))) { s with heap := (s.heap.push o).push { cls := .type "enumerate", data := .fields #[.none, .bool false, .ref s.heap.objs.size, rawInt 0, .none, .none] } }) :=
  .of_wp fun prog w A R s hR => by
    obtain ⟨hp, g, d, tk, os⟩ := s; obtain ⟨hh1, hR⟩ := hR
    have hsub := sub_enumerate
    have qi : ∀ {A' : Around} {E : Value → Shared → Prop} {Q : Value → Shared → Prop}, Q (.ref hp.objs.size) ⟨hp.push o, g, d, tk, os⟩ → wpAny (model prog w) A' (pyIter v) Q E ⟨hp, g, d, tk, os⟩ := fun q => B.iter prog w _ _ ⟨hp, g, d, tk, os⟩ _ hh1 q
    wp_walk using qi
    refine wpAny_stack_any fun st => wpAny_pure ?_
    split
    · rename_i c _ _ _ _ _
      cases (c == Value.type "enumerate")
      · wp_walk using qi
        exact ⟨_, rfl, hR⟩
      · wp_walk using qi
        exact ⟨_, rfl, hR⟩
    · wp_walk using qi
      exact ⟨_, rfl, hR⟩
theorem call_enumOne {prog : Program} {w : World} {A : Around} {E : Value → Shared → Prop} {s : Shared} {v : Value} {o : Obj} {Hh : Heap → Prop} {Q : Value → Shared → Prop} (B : Begins v o Hh) (h1 : Hh s.heap)
    (hq : ∀ h', IsEnum h' (s.heap.objs.size + 1) s.heap.objs.size 0 .none → h'.get? s.heap.objs.size = some o → h'.objs.size = s.heap.objs.size + 2 → (∀ b o, s.heap.get? b = some o → h'.get? b = some o) → Q (.ref (s.heap.objs.size + 1)) { s with heap := h' }) : wpAny (model prog w) A (call (.type "enumerate") [v]) Q E s := by
  refine callType_new F.called_enumerate (by decide) (F.typeCall_enumerate_1 _) (F.newCall_enumerate_1 _) (fun obj => F.args_object_init_2 obj _) F.entry_enumerate_new (meets_enumOne B) ⟨h1, ?_⟩
  have hz : (s.heap.push o).objs.size = s.heap.objs.size + 1 := Heap.size_push ..
  show _ ∧ _
  rw [hz]
  have he : IsEnum ((s.heap.push o).push { cls := .type "enumerate", data := .fields #[.none, .bool false, .ref s.heap.objs.size, rawInt 0, .none, .none] }) (s.heap.objs.size + 1) s.heap.objs.size 0 .none := by
    have hx := Heap.get?_push_size (s.heap.push o) (o := { cls := .type "enumerate", data := .fields #[.none, .bool false, .ref s.heap.objs.size, rawInt 0, .none, .none] }) rfl
    rw [hz] at hx
    exact hx
  exact ⟨⟨_, he, rfl⟩, hq _ he (Heap.get?_push_of_some _ (Heap.get?_push_size _ B.free)) (by rw [Heap.size_push, hz]) fun b o x => Heap.get?_push_of_some _ (Heap.get?_push_of_some _ x)⟩
/-- the tuple at a, each item in a new pair -/
def ItT (K : PySem.W.Frag) (a : Addr) : It :=
  ⟨fun i H => ∃ (xs : List V) (x : V), SqT K H a xs ∧ xs[i]? = some x, fun i H v H' => ∃ T x, v = .ref T ∧ H T = none ∧ H' = upd H T (.tup [.int (i : Nat), x]) ∧ ∀ xs, SqT K H a xs → xs[i]? = some x, fun i H => ∃ xs : List V, SqT K H a xs ∧ xs.length = i⟩
theorem turn_enumT {P : Program} {w : World} {K : PySem.W.Frag} {elts : List Expr} {kk : Nat} {tpos : Pos} (a e it : Addr) :
    Turn P w K (.Tuple elts kk tpos) (ItT K a) [e, it] e (fun i h => (∃ old, IsEnum h e it ((i : Nat) : Int) old) ∧ h.IsTupleIter it a i ∧ e ≠ it ∧ a ≠ it ∧ e ≠ a) where
  mem := by simp
  obj := fun i h st b hb => by
    obtain ⟨⟨old, he⟩, ⟨o, ho, hc, hd⟩, _⟩ := st
    have e' : b = e ∨ b = it := by simpa using hb
    rcases e' with rfl | rfl
    · exact ⟨_, he, fun v q => nomatch q⟩
    · exact ⟨o, ho, fun v q => by rw [hd] at q; cases q⟩
  keep := fun i h h' st k => let ⟨⟨old, he⟩, hi, hne⟩ := st; ⟨⟨old, k e (by simp) _ he⟩, hi.at fun o q => k it (by simp) o q, hne⟩
  item := by
    intro X hP hw hK hc i pins s σ H E I hf st hg
    subst hP hw hK
    obtain ⟨⟨old, he⟩, hit, hne, hat, hea⟩ := st
    obtain ⟨xs, x, hq, hx⟩ := hg
    obtain ⟨its, rv, p, hz⟩ := I.tuple hq
    obtain ⟨u, hu, ru⟩ := rv.get hx
    have pt : s.heap.IsTuple a its.toArray := p
    have hel : e < s.heap.objs.size := Heap.lt_size he
    have hil : it < s.heap.objs.size := by obtain ⟨_, q, _⟩ := hit; exact Heap.lt_size q
    have hlt : i < its.toArray.size := by
      have := (List.getElem?_eq_some_iff.mp hu).1
      simpa using this
    refine wpAny_pyNext_enum_itemD (Draws.tuple (A := X.A.in1) (I.ok.hd hc) it a hat its.toArray) he ⟨hit, pt⟩ hlt hne (by simp [hne, hea]) fun y h' tk hy ho hst hT hsz hk => ?_
    have ey : y = u := by
      have : its.toArray[i]? = some u := by simpa using hu
      have hy : its.toArray[i]? = some y := hy
      rw [this] at hy
      exact (Option.some.inj hy).symm
    subst ey
    obtain ⟨hit', pt'⟩ := hst
    refine ⟨_, rfl, wpAny_letOwnedTupleGo_enum (s := { s with heap := h', toks := tk + 1 }) ho fun h'' he' sb => ?_⟩
    have hT2 : h''.get? s.heap.objs.size = some { cls := .type "tuple", data := .seq #[.int i tk, y] } := (sb.2 _ (Nat.ne_of_gt hel)).trans hT
    have new : ObjOk X.prog X.w (upd H s.heap.objs.size (.tup [.int (i : Nat), x])) h'' s.heap.objs.size (.tup [.int (i : Nat), x]) := ⟨by show 2 ≤ sizeLine; decide, [.int i tk, y], .cons ⟨_, rfl⟩ (.cons ru .nil), ⟨_, hT2, rfl, _, rfl⟩⟩
    have I1 : Inv X pins σ (upd H s.heap.objs.size (.tup [.int (i : Nat), x])) { s with heap := h'', toks := tk + 1 } := I.turnedNew (ch := [e, it]) (fun b ob hb q => (sb.2 b (fun z => hb (by simp [z]))).trans (hk b ob (fun z => hb (by simp [z])) (fun z => hb (by simp [z])) q)) hf (Nat.le_refl _) new
    refine ⟨.ref s.heap.objs.size, _, I1, rfl, ⟨_, x, rfl, I.hok.fresh (Nat.le_refl _), rfl, fun ys hy => ?_⟩, ⟨⟨y, ?_⟩, hit'.at fun o q => (sb.2 it (Ne.symm hne)).trans q, hne, hat, hea⟩, fun b hb => ?_⟩
    · rw [I.tuple_inj hy hq]; exact hx
    · have e1 : ((i + 1 : Nat) : Int) = (i : Int) + 1 := by omega
      rw [e1]; exact he'
    · have e' : b = e ∨ b = it := by simpa using hb
      have hb' : b < s.heap.objs.size := by rcases e' with rfl | rfl <;> assumption
      rw [upd_ne (Nat.ne_of_lt hb')]
      exact (hf b hb).1
  done := by
    intro X hP hw hK hc i pins s σ H E I hf st hg
    subst hP hw hK
    obtain ⟨⟨old, he⟩, hit, hne, hat, hea⟩ := st
    obtain ⟨xs, hq, hx⟩ := hg
    obtain ⟨its, rv, p, hz⟩ := I.tuple hq
    obtain ⟨f0, f1, f2, f3, f4, f5⟩ := hf it (by simp)
    have hl := rv.length
    have pt : s.heap.IsTuple a its.toArray := p
    have ei : i = its.toArray.size := by rw [List.size_toArray]; omega
    subst ei
    exact wpAny_pyNext_enum_endD (Draws.tuple (A := X.A.in1) (I.ok.hd hc) it a hat its.toArray) he ⟨hit, pt⟩ fun h' eb => ⟨rfl, I.turned (t' := s.toks) (fun b o hb q => eb b o hb q) f0 f1 f3 f4 f5⟩
  self := fun A i s Q E st h => let ⟨⟨_, he⟩, _⟩ := st; wpAny_pyIter_enum he h
def iEnT (K : PySem.W.Frag) (ta : TA) : TI := fun σ H R => ta σ H fun vs H1 => ∃ a xs, vs = [.ref a] ∧ SqT K H1 a xs ∧ R (ItT K a) H1
theorem pi_enumT {X : Cx} {e : Expr} {ta : TA} {p pos tpos : Pos} {elts : List Expr} {kk : Nat} (hg : Gl X "enumerate") (hm : X.mg "enumerate" = none) (ha : PA X [e] ta) (hs : starEach [e] X.env = [(false, eval e X.env)] := by rfl) :
    PI X (.Tuple elts kk tpos) (.Call (.Name "enumerate" p) [e] [] pos) (iEnT X.K ta) := by
  refine ⟨fun pins s σ H R I h => ?_⟩
  refine Call_ (ld_blt I hg hm boot_enumerate (PyProof.Rows.callWith_type1 (thn (ha.run pos pins s σ H _ I h) fun us s1 ⟨vs, H1, I1, r1, q1⟩ => ?_) hs rfl))
  obtain ⟨a, xs, ex, hq, q⟩ := q1
  subst ex
  obtain rfl := Vals.ref1 r1
  obtain ⟨its, rv, p', hz⟩ := I1.tuple hq
  have pt : s1.heap.IsTuple a its.toArray := p'
  have hal : a < s1.heap.objs.size := by obtain ⟨_, q, _⟩ := pt; exact Heap.lt_size q
  refine call_enumOne (begins_tuple a its.toArray) pt fun h' he hit hsz hk => wpAny_pyIter_enum he ?_
  have I2 : Inv X pins σ H1 { s1 with heap := h' } := I1.kept (t' := s1.toks) hk
  refine ⟨s1.heap.objs.size + 1, [s1.heap.objs.size + 1, s1.heap.objs.size], _, _, H1, rfl, I2, turn_enumT a (s1.heap.objs.size + 1) s1.heap.objs.size, ⟨⟨.none, he⟩, ⟨_, hit, rfl, rfl⟩, Nat.succ_ne_self _, Nat.ne_of_lt hal, Nat.ne_of_gt (Nat.lt_succ_of_lt hal)⟩, fun b hb => ?_, q⟩
  have e' : b = s1.heap.objs.size + 1 ∨ b = s1.heap.objs.size := by simpa using hb
  have hle : s1.heap.objs.size ≤ b := by
    rcases e' with rfl | rfl
    · exact Nat.le_add_right _ _
    · exact Nat.le_refl _
  exact I1.fpOk hle (I1.hok.fresh hle)
theorem srcET {K : PySem.W.Frag} {H0 : Hp} {a : Addr} {xs : List V} {ds : List PyData} (h : SqT K H0 a xs) (d : DpAll K H0 xs ds) : Src K (ItT K a) (ds.zipIdx.map fun p => .py (.tuple [.int (p.2 : Int), p.1])) H0 where
  stop := fun H e => ⟨xs, ex_t e h, by rw [List.length_map, List.length_zipIdx, dpAll_len d]⟩
  go := fun j H hj e => by
    rw [List.length_map, List.length_zipIdx, ← dpAll_len d] at hj
    exact ⟨xs, xs[j], ex_t e h, List.getElem?_eq_getElem hj⟩
  yld := fun j H v H' Hf hj e0 e1 hy => by
    obtain ⟨T, x, rfl, hT, rfl, f1⟩ := hy
    obtain ⟨z, h1, h2⟩ := dpAll_at d (f1 xs (ex_t (e0.trans e1) h))
    refine ⟨upd Hf T (.tup [.int (j : Nat), x]), .py (.tuple [.int ((0 + j : Nat) : Int), z]), by rw [List.getElem?_map, List.getElem?_zipIdx, h1]; rfl, .new e1 hT, rpy (dp_tup_new (.cons ?_ (.cons (dp_mono e0 h2) .nil)) (fresh_back e1 hT))⟩
    rw [Nat.zero_add]
    exact Dp.int _
section
variable {i : XI} {ρ : En} {Ψ : List Dt → Prop} {a e : Expr} {es : List Expr} {pos : Pos}
theorem wx_enumT {p tpos : Pos} {elts : List Expr} {kk : Nat} (hm : i.mg "enumerate" = none) (hg : GlS i.sc "enumerate" := by rfl) (hs : ∀ env, starEach [a] env = [(false, eval a env)] := by intro _; rfl) :
    ∀ X, XOk i X → PI X (.Tuple elts kk tpos) (.Call (.Name "enumerate" p) [a] [] pos) (iEnT i.K (AX i [a])) := fun X ok => by
  rw [← ok.K]
  exact pi_enumT (ok.gl hg) (ok.mgN hm) (AX.pa ok) (hs _)
theorem es_enumT (h : EA i es ρ fun ds => ∃ xs, ds = [.py (.tuple xs)] ∧ Ψ (xs.zipIdx.map fun p => .py (.tuple [.int (p.2 : Int), p.1]))) : ES i (iEnT i.K (AX i es)) ρ Ψ := fun σ Hf H R hρ x q =>
  h σ Hf H _ hρ x fun vs ds Hf1 H1 t1 r1 φ => by
    obtain ⟨xs, rfl, ψ⟩ := φ
    cases r1 with
    | cons r t =>
      cases t
      obtain ⟨a, us, rfl, h1, d1⟩ := dp_tup r
      exact ⟨a, us, rfl, ex_t t1.i h1, q _ _ Hf1 H1 t1 (srcET h1 d1) ψ⟩
end
end Fq
/-! FqDe: what holds no list stands without one; extend. -/
namespace Fq
open PySem PySem.Spec PyProof.Rows L2 Evl
open RZ
mutual
/-- holds no list -/
def noL : PyData → Bool
  | .list _ => false
  | .dict _ => false
  | .tuple ds => noLs ds
  | _ => true
def noLs : List PyData → Bool
  | [] => true
  | d :: ds => noL d && noLs ds
end
/-- a heap without the thing at D -/
def del (H : Hp) (D : Addr) : Hp := fun a => if a = D then none else H a
theorem del_self {H : Hp} {D : Addr} : del H D D = none := by
  unfold del
  rw [if_pos rfl]
theorem del_ne {H : Hp} {D a : Addr} (h : a ≠ D) : del H D a = H a := by
  unfold del
  rw [if_neg h]
theorem sqT_del {K : PySem.W.Frag} {H : Hp} {D a : Addr} {vs xs : List V} (hD : H D = some (.lst vs)) (h : SqT K H a xs) : SqT K (del H D) a xs := by
  rcases h with (h | ⟨o, h⟩) | h
  · exact .inl (.inl (by rw [del_ne (ne_of h hD (fun z => by cases z))]; exact h))
  · exact .inl (.inr ⟨o, by rw [del_ne (ne_of h hD (fun z => by cases z))]; exact h⟩)
  · exact .inr h
mutual
theorem dp_del {K : PySem.W.Frag} {H : Hp} {D : Addr} {vs : List V} (hD : H D = some (.lst vs)) : ∀ {v : V} {d : PyData}, noL d = true → Dp K H v d → Dp K (del H D) v d
  | _, _, _, .non => .non
  | _, _, _, .bl b => .bl b
  | _, _, _, .int n => .int n
  | _, _, _, .str x => .str x
  | _, _, n, .lst h t => by rw [noL] at n; cases n
  | _, _, n, .tup h t => .tup (sqT_del hD h) (dpAll_del hD (by rw [noL] at n; exact n) t)
theorem dpAll_del {K : PySem.W.Frag} {H : Hp} {D : Addr} {vs : List V} (hD : H D = some (.lst vs)) : ∀ {us : List V} {ds : List PyData}, noLs ds = true → DpAll K H us ds → DpAll K (del H D) us ds
  | _, _, _, .nil => .nil
  | _, _, n, .cons h t => by
    rw [noLs, Bool.and_eq_true] at n
    exact .cons (dp_del hD n.1 h) (dpAll_del hD n.2 t)
end
theorem noLs_map {α : Type} (e : α → PyData) : ∀ l : List α, (∀ x ∈ l, noL (e x) = true) → noLs (l.map e) = true
  | [], _ => rfl
  | x :: l, h => by
    rw [List.map_cons, noLs, h x (List.mem_cons_self ..), noLs_map e l fun y hy => h y (List.mem_cons_of_mem _ hy)]
    rfl
theorem noL_row (r : Row) : noL (rowD r) = true := by
  unfold rowD
  rw [noL]
  exact noLs_map _ _ fun v _ => by cases v <;> rfl
theorem noL_plc (p : Nat × Row) : noL (plcD p) = true := by
  unfold plcD
  rw [noL, noLs, noLs, noLs, noL_row]
  rfl
section
variable {i : XI} {ρ : En} {E : Ends} {σ : L2.St} {Hf0 H0 Hf H : Hp} {D : Addr} {zs : List PyData}
/-- xs.extend(e) -/
theorem go_extend {o e : Expr} {D : Ends} {rest : List Stmt} {pos apos cpos : Pos} (h : EX i o σ H fun x H1 => ∃ l, x = .ref l ∧ (∃ xs, H1 l = some (.lst xs)) ∧ EX i e σ H1 fun v H2 => ∃ b xs zs, v = .ref b ∧ H2 l = some (.lst xs) ∧ H2 b = some (.lst zs) ∧ xs.length + zs.length ≤ sizeLine ∧ GO i rest D σ (upd H2 l (.lst (xs ++ zs))))
    (hbase : ∀ env, attributeBase o "extend" env (eval o env) = eval o env := by intro _; rfl) (hs : ∀ env, starEach [e] env = (false, eval e env) :: starEach [] env := by intro _; rfl)
    (hsw : ∀ env, swapsWith (.Call (.Attribute o "extend" apos) [e] [] cpos) none pos.line env = pure false := by intro _; rfl)
    (hfew : ∀ env, ((backTo cpos (starEach [e] env)).all (fun x => !x.1) && (backToKw cpos (keywordEach [] env)).all (fun x => x.1.isSome) && decide (([e] : List Expr).length + ([] : List Keyword).length + (if ([] : List Keyword).isEmpty then 0 else 1) < 30)) = true := by intro _; rfl)
    (hline : (apos.endLine == cpos.line) = true := by rfl) : GO i (.Expr (.Call (.Attribute o "extend" apos) [e] [] cpos) pos :: rest) D σ H := by
  refine go_expr ?_ hsw
  refine .mk (T := tBM i.K "list" rExtend (EX i o) (AX i [e])) (fun X ok => ?_) (h.mono fun x H1 ⟨l, ex, ⟨xs, hx⟩, he⟩ => ?_)
  · rw [← ok.K]
    exact pe_bm PySem.F.plainAttrs_list PySem.F.slot_list_extend PySem.F.type_list_extend mt_extend (EX.pe ok) (AX.pa ok) (hbase _) (hfew _) hline (hs _) (by rfl)
  · subst ex
    refine ⟨.inl ⟨rfl, _, SqL.of hx⟩, ax_cons (he.mono fun v H2 ⟨b, xs2, zs, ev, hx2, hb, hz, q⟩ => ax_nil ?_) hs⟩
    subst ev
    exact ⟨l, b, xs2, zs, rfl, rfl, hx2, hb, hz, q⟩
/-- found.extend([..]), found a list of ours that the comprehension looks at -/
theorem gm_extend {e : Expr} {x : Str} {pos p apos cpos : Pos} {rest : List Stmt} (W : List PyData → Prop) (j : Nat) (hρ : RpE i.K Hf σ ρ) (hj : ρ[j]? = some (some (refDt D))) (I : LGrow i.K Hf0 H0 D zs Hf H) (hD : H0 D = none) (h0 : Hf0 D = none)
    (h : EE i e (ρ.set j (some (.py (.list zs)))) fun d => ∃ ws, d = ldD i.K ws ∧ W ws ∧ noLs ws = true ∧ zs.length + ws.length ≤ 100000) (q : ∀ ws Hf1 H1, W ws → Ex Hf Hf1 → Ex Hf1 H1 → RpE i.K Hf1 σ ρ → LGrow i.K Hf0 H0 D (zs ++ ws) Hf1 H1 → GO i rest E σ H1)
    (hN : i.N[j]? = some x := by rfl) (hv : Vis i.sc x := by first | exact Or.inl rfl | exact Or.inr (Or.inl rfl) | exact Or.inr (Or.inr rfl))
    (hd : (x == ("__debug__" : Str)) = false := by decide) (hcd : (x == ("__classdict__" : Str)) = false := by decide) (hbase : ∀ env, attributeBase (.Name x p) "extend" env (eval (.Name x p) env) = eval (.Name x p) env := by intro _; rfl) (hs : ∀ env, starEach [e] env = (false, eval e env) :: starEach [] env := by intro _; rfl)
    (hsw : ∀ env, swapsWith (.Call (.Attribute (.Name x p) "extend" apos) [e] [] cpos) none pos.line env = pure false := by intro _; rfl)
    (hfew : ∀ env, ((backTo cpos (starEach [e] env)).all (fun x => !x.1) && (backToKw cpos (keywordEach [] env)).all (fun x => x.1.isSome) && decide (([e] : List Expr).length + ([] : List Keyword).length + (if ([] : List Keyword).isEmpty then 0 else 1) < 30)) = true := by intro _; rfl)
    (hline : (apos.endLine == cpos.line) = true := by rfl) : GO i (.Expr (.Call (.Attribute (.Name x p) "extend" apos) [e] [] cpos) pos :: rest) E σ H := by
  obtain ⟨vs, h1, h2, h3, h4⟩ := I
  have e1 : Ex Hf (upd Hf D (.lst vs)) := Ex.new h2
  have e2 : Ex (upd Hf D (.lst vs)) H := fun q u hq => by
    by_cases e : q = D
    · subst e
      rw [upd_same] at hq
      rw [h3, ← hq]
    · rw [upd_ne e] at hq
      exact h1.i q u hq
  have hsl : σ[j]? = some (some (.ref D)) := hρ.ref hj
  have r1 := (hρ.mono e1).set (j := j) (v := .ref D) (d := .py (.list zs)) (dp_lst_new h4 h2)
  have es : σ.set j (some (.ref D)) = σ := by
    obtain ⟨hl, e⟩ := List.getElem?_eq_some_iff.mp hsl
    rw [← e]
    exact List.set_getElem_self hl
  rw [es] at r1
  refine go_extend (ex_var j hsl ⟨D, rfl, ⟨vs, h3⟩, h σ _ H _ r1 e2 fun v d Hf1 H1 t1 rv ed => ?_⟩ hN hv hd hcd) hbase hs hsw hfew hline
  obtain ⟨ws, ed, wz, nl, hz⟩ := ed
  subst ed
  obtain ⟨b, us, rfl, hb, db⟩ := rv
  have d1 : Hf1 D = some (.lst vs) := t1.f _ _ upd_same
  have f2 : Ex Hf (del Hf1 D) := fun a o ha => by
    rw [del_ne (ne_of_none ha h2)]
    exact t1.f _ _ (e1 _ _ ha)
  have i2 : Ex (del Hf1 D) (upd H1 D (.lst (vs ++ us))) := fun a o ha => by
    by_cases ea : a = D
    · subst ea
      rw [del_self] at ha
      cases ha
    · rw [del_ne ea] at ha
      rw [upd_ne ea]
      exact t1.i a o ha
  refine ⟨b, vs, us, rfl, t1.h D _ h3, t1.i _ _ hb, ?_, q ws (del Hf1 D) _ wz f2 i2 (hρ.mono f2) ⟨vs ++ us, ⟨h1.f.trans f2, i2, ?_, ?_⟩, del_self, upd_same, ?_⟩⟩
  · rw [dpAll_len h4, dpAll_len db, sizeLine_eq]
    omega
  · exact fun a o ha => by
      rw [upd_ne (ne_of_none ha hD)]
      exact t1.h a o (h1.h a o ha)
  · exact fun a o ha hb' => by
      have na := ne_of_none ha hD
      rw [del_ne na]
      exact t1.n a o (h1.h a o ha) (by rw [upd_ne na]; exact h1.n a o ha hb')
  · exact dpAll_app (dpAll_mono f2 h4) (dpAll_del d1 nl db)
end
end Fq
/-! FqPl: the places of the lots' answers. -/
namespace Fq
open PySem PySem.Spec PyProof.Rows L2 Evl
open RZ
theorem plc_plain (p : Nat × Row) : (plcD p).plain = true := by
  unfold plcD
  rw [PyData.plain, PyData.plainAll, PyData.plainAll, PyData.plainAll, row_plain]
  rfl
theorem plc_pl (p : Nat × Row) : Pl (plcD p) := ⟨plc_plain p, by
  unfold plcD
  simp only [PyData.depth, PyData.depthAll, row_depth]
  omega⟩
/-- places of lots' answers -/
structure PsOk (ls : List Lot) (ps : List (Nat × Row)) : Prop where
  at' : ∀ q ∈ ps, ∃ l ∈ ls, q.1 < l.an.length ∧ q.2 ∈ l.an.getD q.1 []
  len : ps.length ≤ ls.length * 18
section
variable {P : Program} {w : World} {K : PySem.W.Frag} {mg : Str → Option Value} {base : Heap}
def S_places (K : PySem.W.Frag) : Sg := fun ds Φ => ∃ (ls : List Lot), ds = [.py (.tuple (ls.map lotD))] ∧ ls.length ≤ 200 ∧ (∀ l ∈ ls, l.an.length ≤ 3 ∧ ∀ rs ∈ l.an, rs.length ≤ 6) ∧ ∀ ps, PsOk ls ps → Φ (ldD K (ps.map plcD))
theorem p_places (H : Hd K mg) : Pf P w K mg base "_law_places" 1 ["_law_some"] 1 (S_places K) := pf_of H q_law_places sc_law_places rfl fun ds Φ hl hS => by
  obtain ⟨ls, rfl, hz, ok, φ⟩ := hS
  intro σ Hf H0 E hρ ex qn qr
  refine go_set 1 (ex_lst (ax_nil ⟨Nat.zero_le _, fun D hD => ?_⟩))
  have hDf : Hf D = none := fresh_back ex hD
  have ρ1 := (hρ.set (j := 1) (v := .ref D) (d := refDt D) rfl)
  refine gm_for [2] wx_tup (gx_name 2) ρ1 (Tr.drop ex hD).i (es_tup (Ψ := fun its => its = ls.map fun l => .py (lotD l)) (ee_var 0 rfl ⟨_, rfl, by rw [List.map_map]; rfl⟩)) fun its Hf1 H1 t1 eits => ?_
  subst eits
  refine ⟨[some (.py (.tuple (ls.map lotD))), some (refDt D), none, none, none, none], fun j Hx Hy => ∃ ps : List (Nat × Row), (∀ q ∈ ps, ∃ l ∈ ls, q.1 < l.an.length ∧ q.2 ∈ l.an.getD q.1 []) ∧ ps.length ≤ j * 18 ∧ LGrow K Hf H0 D (ps.map plcD) Hx Hy, (ρ1.mono t1.f).less [2, 3, 4, 5], ⟨[], (fun _ h => nomatch h), Nat.zero_le _, (LGrow.new ex hD).step t1⟩, (fun j _ _ _ _ hx t => by obtain ⟨ps, a, b, h⟩ := hx; exact ⟨ps, a, b, h.step t⟩), fun j d hd => ?_, fun σ2 Hf2 H2 e1 e2 r2 hx => ?_⟩
  · rw [List.getElem?_map] at hd
    obtain ⟨l, hl, rfl⟩ := Option.map_eq_some_iff.mp hd
    have hlm := List.mem_of_getElem? hl
    obtain ⟨an3, an6⟩ := ok l hlm
    have hj : j < ls.length := (List.getElem?_eq_some_iff.mp hl).1
    refine ⟨_, gd_name 2, fun σ2 Hf2 H2 e1 e2 r2 hx => ?_⟩
    obtain ⟨ps0, a0, b0, h0⟩ := hx
    refine gm_for [3, 4] (wx_enumT (fr_enumerate H)) (gx_tup (n := 2) (t := gsOf [3, 4]) (gxs_cons (gx_name 3) (gxs_cons (gx_name 4) gxs_nil))) r2 e2 (es_enumT (Ψ := fun its => its = (l.an.map rwsD).zipIdx.map fun p => .py (.tuple [.int (p.2 : Int), p.1])) (ea_cons (ee_ixT (ee_var 2 rfl (ee_int ⟨_, 3, anD l.an, rfl, rfl, atI_nat (j := 3) rfl, ea_nil ⟨_, rfl, rfl⟩⟩))))) fun its Hf3 H3 t3 eits => ?_
    subst eits
    refine ⟨[some (.py (.tuple (ls.map lotD))), some (refDt D), some (.py (lotD l)), none, none, none], fun k Hx Hy => ∃ ps : List (Nat × Row), (∀ q ∈ ps, ∃ l ∈ ls, q.1 < l.an.length ∧ q.2 ∈ l.an.getD q.1 []) ∧ ps.length ≤ j * 18 + k * 6 ∧ LGrow K Hf H0 D (ps.map plcD) Hx Hy, r2.mono t3.f, ⟨ps0, a0, by omega, h0.step t3⟩, (fun j _ _ _ _ hx t => by obtain ⟨ps, a, b, h⟩ := hx; exact ⟨ps, a, b, h.step t⟩), fun k d hd => ?_, fun σ4 Hf4 H4 e3 e4 r4 hx => ?_⟩
    · rw [List.getElem?_map, List.getElem?_zipIdx, List.getElem?_map] at hd
      cases hrs : l.an[k]? with
      | none => rw [hrs] at hd; cases hd
      | some rs =>
        rw [hrs] at hd
        have ed : Dt.py (.tuple [.int ((0 + k : Nat) : Int), rwsD rs]) = d := Option.some.inj hd
        rw [Nat.zero_add] at ed
        subst ed
        have hk : k < l.an.length := (List.getElem?_eq_some_iff.mp hrs).1
        have hrl := an6 rs (List.mem_of_getElem? hrs)
        refine ⟨_, gd_tup [3, 4] rfl rfl, fun σ5 Hf5 H5 e5 e6 r5 hx => ?_⟩
        obtain ⟨ps, a, b, h⟩ := hx
        have r5 : RpE K Hf5 σ5 [some (.py (.tuple (ls.map lotD))), some (refDt D), some (.py (lotD l)), some (.py (.int (k : Int))), some (.py (rwsD rs)), none] := r5
        refine gm_extend (fun ws => ∃ rs' : List Row, rs'.Sublist rs ∧ ws = rs'.map fun r => plcD (k, r)) 1 r5 rfl h hD hDf (ee_lcO [("_law_row", 5)] wx_tup (gx_name 5) (es_tup (ee_var 4 rfl ⟨_, rfl, Row, fun r => .py (rowD r), rs, fun r => !((ps.map plcD).any fun y => PyData.eqv y (plcD (k, r))), fun r => plcD (k, r), by rw [List.map_map]; rfl, by omega, fun r hr => ?_, ?_⟩))) fun ws Hf6 H6 ⟨rs', sub, ews⟩ e7 e8 r6 I6 => ?_
        · refine ⟨_, gd_name 5, ei_one (et_cmp (ee_tup ?_) (hm := rfl)), fun _ => ee_tup ?_⟩
          · refine ea_cons (ee_var 3 rfl (ea_cons (ee_var 5 rfl ?_)))
            refine ea_nil ⟨_, .cons (.cons .nil), Nat.le_of_ble_eq_true rfl, ?_⟩
            refine ee_var 1 rfl ?_
            exact od_niL (plc_pl (k, r)) (plA plcD ps fun p _ => plc_plain p) ⟨_, rfl, rfl⟩
          · refine ea_cons (ee_var 3 rfl (ea_cons (ee_var 5 rfl ?_)))
            exact ea_nil ⟨_, .cons (.cons .nil), Nat.le_of_ble_eq_true rfl, rfl⟩
        · refine ⟨_, rfl, ⟨_, List.filter_sublist, rfl⟩, noLs_map _ _ fun r _ => noL_plc _, ?_⟩
          have := List.length_filter_le (fun r => !((ps.map plcD).any fun y => PyData.eqv y (plcD (k, r)))) rs
          rw [List.length_map, List.length_map]
          omega
        · subst ews
          refine go_nil ⟨Hf6, e5.trans e7, e8, r6.less [3, 4], ps ++ rs'.map (fun r => (k, r)), ?_, ?_, ?_⟩
          · intro q hq
            rcases List.mem_append.mp hq with hq | hq
            · exact a q hq
            · obtain ⟨r, hr, rfl⟩ := List.mem_map.mp hq
              refine ⟨l, hlm, hk, ?_⟩
              rw [List.getD_eq_getElem?_getD, hrs]
              exact sub.subset hr
          · have := sub.length_le
            rw [List.length_append, List.length_map]
            omega
          · rw [List.map_append, List.map_map]
            exact I6
    · obtain ⟨ps, a, b, h⟩ := hx
      rw [List.length_map, List.length_zipIdx, List.length_map] at b
      exact go_nil ⟨Hf4, (e1.trans t3.f).trans e3, e4, r4.less [2], ps, a, by omega, h⟩
  · obtain ⟨ps, a, b, h⟩ := hx
    rw [List.length_map] at b
    obtain ⟨vs, h1, h2, h3, h4⟩ := h
    exact go_ret (ex_var 1 (r2.ref rfl) (qr _ (ldD K _) (upd Hf2 D (.lst vs)) H2 (h1.adopt h2 h3 hD) (ld_mk upd_same (dpAll_mono (Ex.new h2) h4)) (φ ps ⟨a, b⟩)))
end
end Fq
/-! FqLp: what wishes do to the lots that fit; a place parts them. -/
namespace Fq
open PySem PySem.Spec PyProof.Rows L2 Evl
open RZ
theorem fits_perm {ws ws' : List Ws} (h : ws.Perm ws') (a : Ans) : fits ws a = fits ws' a := by
  unfold fits
  rw [Bool.eq_iff_iff, List.all_eq_true, List.all_eq_true]
  exact ⟨fun g x hx => g x (h.mem_iff.mpr hx), fun g x hx => g x (h.mem_iff.mp hx)⟩
theorem fitL_perm {ws ws' : List Ws} (h : ws.Perm ws') (ls : List QL) (c : Nat) : fitL ls c ws = fitL ls c ws' := by
  unfold fitL cands
  congr 1
  funext l
  rw [fits_perm h]
theorem fits_app (ws : List Ws) (b : Nat) (r : Row) (w : Bool) (a : Ans) : fits (ws ++ [(b, r, w)]) a = (fits ws a && (decide (r ∈ a.getD b []) == w)) := by
  unfold fits
  rw [List.all_append]
  simp
theorem fitL_wish (ls : List QL) (c : Nat) (ws : List Ws) (b : Nat) (r : Row) : fitL ls c (ws ++ [(b, r, true)]) = (fitL ls c ws).filter (hasP (b, r)) := by
  unfold fitL cands
  rw [List.filter_filter]
  congr 1
  funext l
  rw [fits_app]
  unfold hasP
  cases decide (l.c = c) <;> cases fits ws l.an <;> cases decide (r ∈ l.an.getD b []) <;> rfl
theorem fitL_shun (ls : List QL) (c : Nat) (ws : List Ws) (b : Nat) (r : Row) : fitL ls c (ws ++ [(b, r, false)]) = (fitL ls c ws).filter fun l => !hasP (b, r) l := by
  unfold fitL cands
  rw [List.filter_filter]
  congr 1
  funext l
  rw [fits_app]
  unfold hasP
  cases decide (l.c = c) <;> cases fits ws l.an <;> cases decide (r ∈ l.an.getD b []) <;> rfl
/-- forgetting what was put in last -/
theorem forget_perm {ws ws1 : List Ws} {b : Nat} {r : Row} {w : Bool} (hn : ws.any (atW b r) = false) (h : ws1.Perm (ws ++ [(b, r, w)])) : (ws1.filter fun x => !atW b r x).Perm ws := by
  have h2 := h.filter fun x => !atW b r x
  rw [List.filter_append] at h2
  have e1 : ws.filter (fun x => !atW b r x) = ws := by
    rw [List.filter_eq_self]
    intro x hx
    have := List.any_eq_false.mp hn x hx
    simpa using this
  have e2 : [(b, r, w)].filter (fun x => !atW b r x) = [] := by
    rw [List.filter_cons]
    simp [atW]
  rw [e1, e2, List.append_nil] at h2
  exact h2
theorem any_perm {ws ws' : List Ws} (h : ws.Perm ws') (b : Nat) (r : Row) : ws.any (atW b r) = ws'.any (atW b r) := by
  rw [Bool.eq_iff_iff, List.any_eq_true, List.any_eq_true]
  exact ⟨fun ⟨x, hx, g⟩ => ⟨x, h.mem_iff.mp hx, g⟩, fun ⟨x, hx, g⟩ => ⟨x, h.mem_iff.mpr hx, g⟩⟩
theorem any_put (ws : List Ws) (b : Nat) (r : Row) (w : Bool) : (ws ++ [(b, r, w)]).any (atW b r) = true := by
  rw [List.any_append]
  simp [atW]
end Fq
/-! FqLq: whether a place parts the lots that fit. -/
namespace Fq
open PySem PySem.Spec PyProof.Rows L2 Evl
open RZ
section
variable {i : XI} {σ : L2.St} {Hf H : Hp} {Q : VK} {f : Fd} {c m : Nat} {S : Addr} {ws : List Ws} {ls : List QL}
/-- seeker.fitting() -/
theorem ex_fit {o : Expr} {pos apos : Pos} {pl : Env → Sem Bool} (H0 : Hd i.K i.mg) (O : OneOk i.w i.K) (hk : 13 ≤ i.k) (ex : Ex Hf H) (sk : Sk i.K f c S m ws (some ls) Hf H) (ok : FitOk f ws (some ls))
    (ho : ∀ R : VK, R (.ref S) H → EX i o σ H R) (q : ∀ v Hf' H', Ex Hf Hf' → Ex Hf' H' → Sk i.K f c S m ws (some ls) Hf' H' → Dp i.K Hf' v (.tuple ((fitL ls c ws).map lotD)) → Q v H')
    (ht : ∀ env, eval (.Call (.Attribute o "fitting" apos) [] [] pos) env = (do
      let ov ← eval o env
      standAt apos.atName
      let (f, first) ← holding [ov] (getMethod ov "fitting" (pl env))
      callWith pos f first (backTo pos (starEach [] env)) (backToKw pos (keywordEach [] env))) := by intro _; rfl) : EX i (.Call (.Attribute o "fitting" apos) [] [] pos) σ H Q := by
  have cS := cl_of H0 (x := "Seeker") (j := 86) (by kernel_rfl)
  obtain ⟨dx, _, _, _, _, _, _, h1, _⟩ := sk.ex
  refine ex_meth0 (p_fitting H0 O) hk cS (ho _ ⟨S, dx, _, rfl, h1, rfl, ?_⟩) ht
  refine ⟨rfl, Hf, fun v Hf' H' => Sk i.K f c S m ws (some ls) Hf' H' ∧ Dp i.K Hf' v (.tuple ((fitL ls c ws).map lotD)), ex, ⟨f, c, S, m, ws, some ls, rfl, ok, sk, fun ls' v _ _ _ e a d => ?_⟩, fun v Hf1 H1 e1 e2 ⟨a, d⟩ => q v Hf1 H1 e1 e2 a d⟩
  have e : ls' = ls := e
  subst e
  exact ⟨a, d⟩
/-- what is asked of a place that is wished, shunned, forgotten -/
structure PtOk (f : Fd) (c : Nat) (ws : List Ws) (ls : List QL) (b : Nat) (r : Row) : Prop where
  ok : OkF f
  re : OkRe f ls
  hb : b < f.bk.length
  rk : OkR c r
  hw : ws.length ≤ 800
  h3 : ∀ y ∈ ws, y.2.1.length ≤ 3
  hx : ∀ y ∈ ws, y.1 < f.bk.length
theorem PtOk.perm {f : Fd} {c : Nat} {ws ws' : List Ws} {ls : List QL} {b : Nat} {r : Row} (h : PtOk f c ws ls b r) (p : ws'.Perm ws) : PtOk f c ws' ls b r := ⟨h.ok, h.re, h.hb, h.rk, by rw [p.length_eq]; exact h.hw, fun y hy => h.h3 y (p.mem_iff.mp hy), fun y hy => h.hx y (p.mem_iff.mp hy)⟩
theorem PtOk.put {f : Fd} {c : Nat} {ws ws' : List Ws} {ls : List QL} {b : Nat} {r : Row} {w : Bool} (h : PtOk f c ws ls b r) (p : ws'.Perm (ws ++ [(b, r, w)])) : ws'.length ≤ 801 ∧ (∀ y ∈ ws', y.2.1.length ≤ 3) ∧ ∀ y ∈ ws', y.1 < f.bk.length := by
  refine ⟨by rw [p.length_eq, List.length_append, List.length_singleton]; have := h.hw; omega, fun y hy => ?_, fun y hy => ?_⟩
  · rcases List.mem_append.mp (p.mem_iff.mp hy) with hy | hy
    · exact h.h3 y hy
    · rw [List.mem_singleton.mp hy]
      show r.length ≤ 3
      have := h.rk.len
      have := h.rk.hi
      omega
  · rcases List.mem_append.mp (p.mem_iff.mp hy) with hy | hy
    · exact h.hx y hy
    · rw [List.mem_singleton.mp hy]
      exact h.hb
theorem PtOk.fbz {f : Fd} {c : Nat} {ws : List Ws} {ls : List QL} {b : Nat} {r : Row} (h : PtOk f c ws ls b r) : f.bk.length ≤ 3 := h.ok.bk.hi
theorem PtOk.fit {f : Fd} {c : Nat} {ws : List Ws} {ls : List QL} {b : Nat} {r : Row} (h : PtOk f c ws ls b r) : FitOk f ws (some ls) := ⟨h.ok, by have := h.hw; omega, h.hx, fun l e => by cases e; exact h.re⟩
theorem PtOk.fit2 {f : Fd} {c : Nat} {ws ws' : List Ws} {ls : List QL} {b : Nat} {r : Row} {w : Bool} (h : PtOk f c ws ls b r) (p : ws'.Perm (ws ++ [(b, r, w)])) : FitOk f ws' (some ls) := ⟨h.ok, by have := (h.put p).1; omega, (h.put p).2.2, fun l e => by cases e; exact h.re⟩
theorem PtOk.deed {f : Fd} {c : Nat} {ws : List Ws} {ls : List QL} {b : Nat} {r : Row} (h : PtOk f c ws ls b r) {x : Str} (hx : x = "wish" ∨ x = "shun") (hn : ws.any (atW b r) = false) : DeedOk f c ws b r x := ⟨by have := h.fbz; omega, h.hb, h.rk, by have := h.hw; omega, h.h3, .inr ⟨hx, hn⟩⟩
theorem PtOk.undo {f : Fd} {c : Nat} {ws ws' : List Ws} {ls : List QL} {b : Nat} {r : Row} {w : Bool} (h : PtOk f c ws ls b r) (p : ws'.Perm (ws ++ [(b, r, w)])) : DeedOk f c ws' b r "forget" := ⟨by have := h.fbz; omega, h.hb, h.rk, by have := (h.put p).1; omega, (h.put p).2.1, .inl ⟨rfl, by rw [any_perm p]; exact any_put ws b r w⟩⟩
/-- seeker.wish(..), .shun(..), .forget(..) -/
theorem ex_do {o e1 e2 : Expr} {pos apos : Pos} {pl : Env → Sem Bool} {b : Nat} {r : Row} {re : Option (List QL)} (wd : Str) (F : Pmt i.P i.w i.K i.mg i.base "Seeker" wd 10 ["self", "book", "row"] (spM 3 (M_do i.K wd))) (hl : ∀ a b c d e, ([("state", a), ("across", b), ("elder", c), ("kept", d), ("noted", e)] : List (Str × V)).lookup wd = none) (H0 : Hd i.K i.mg) (hk : 10 ≤ i.k) (ex : Ex Hf H) (sk : Sk i.K f c S m ws re Hf H) (ok : DeedOk f c ws b r wd) (hm : m ≤ 900)
    (ho : ∀ R : VK, R (.ref S) H → EX i o σ H R) (ha : ∀ R : List V → Hp → Prop, (∀ vr, Dp i.K Hf vr (rowD r) → R [.int ((b : Nat) : Int), vr] H) → AX i [e1, e2] σ H R) (q : ∀ v ws' Hf' H', Ex Hf Hf' → Ex Hf' H' → Deed ws b r wd ws' → Sk i.K f c S (m + 1) ws' re Hf' H' → Q v H')
    (hst : ∀ env, starEach [e1, e2] env = (false, eval e1 env) :: starEach [e2] env := by intro _; rfl) (hpl : ∀ env, (backTo pos (starEach [e2] env)).any (·.1) = false := by intro _; rfl)
    (ht : ∀ env, eval (.Call (.Attribute o wd apos) [e1, e2] [] pos) env = (do
      let ov ← eval o env
      standAt apos.atName
      let (f, first) ← holding [ov] (getMethod ov wd (pl env))
      callWith pos f first (backTo pos (starEach [e1, e2] env)) (backToKw pos (keywordEach [] env))) := by intro _; rfl) : EX i (.Call (.Attribute o wd apos) [e1, e2] [] pos) σ H Q := by
  have cS := cl_of H0 (x := "Seeker") (j := 86) (by kernel_rfl)
  obtain ⟨dx, E, N, st, es, ns, kv, h1, _⟩ := sk.ex
  have hl' := hl (.ref st) (.int (c : Int)) (.ref E) kv (.ref N)
  refine ex_meth F hk cS (ho _ ⟨S, dx, _, rfl, h1, hl', ha _ fun vr dr => ?_⟩) hst hpl ht
  exact ⟨rfl, Hf, fun v Hf' H' => ∃ ws', Deed ws b r wd ws' ∧ Sk i.K f c S (m + 1) ws' re Hf' H', ex, ⟨f, c, S, m, ws, re, b, r, vr, rfl, dr, ok, hm, sk, fun ws' _ _ hd h => ⟨ws', hd, h⟩⟩, fun v Hf1 H1 e1 e2 ⟨ws', hd, sk1⟩ => q v ws' Hf1 H1 e1 e2 hd sk1⟩
end
section
variable {P : Program} {w : World} {K : PySem.W.Frag} {mg : Str → Option Value} {base : Heap}
def spParts (K : PySem.W.Frag) : Sp := fun vs H Q _ => vs.length = 3 ∧ ∃ Hf f c S m ws ls b r vsm vpl, vs = [.ref S, vsm, vpl] ∧ Ex Hf H ∧ Sk K f c S m ws (some ls) Hf H ∧ Dp K Hf vsm (.tuple ((fitL ls c ws).map lotD)) ∧ Dp K Hf vpl (plcD (b, r)) ∧ PtOk f c ws ls b r ∧ ws.any (atW b r) = false ∧ m ≤ 800 ∧
  ∀ Hf' H' ws', Ex Hf Hf' → Ex Hf' H' → ws'.Perm ws → Sk K f c S (m + 4) ws' (some ls) Hf' H' → Q (.bl true) H'
theorem deed_wish {ws ws' : List Ws} {b : Nat} {r : Row} (h : Deed ws b r "wish" ws') : ws'.Perm (ws ++ [(b, r, true)]) := by
  generalize e : ("wish" : Str) = x at h
  cases h with
  | forget _ => exact absurd e (by decide)
  | wish _ _ p => exact p
  | shun _ _ p => exact absurd e (by decide)
theorem deed_shun {ws ws' : List Ws} {b : Nat} {r : Row} (h : Deed ws b r "shun" ws') : ws'.Perm (ws ++ [(b, r, false)]) := by
  generalize e : ("shun" : Str) = x at h
  cases h with
  | forget _ => exact absurd e (by decide)
  | wish _ _ p => exact absurd e (by decide)
  | shun _ _ p => exact p
theorem deed_forget {ws ws' : List Ws} {b : Nat} {r : Row} (h : Deed ws b r "forget" ws') : ws' = ws.filter fun x => !atW b r x := by
  generalize e : ("forget" : Str) = x at h
  cases h with
  | forget _ => rfl
  | wish _ _ p => exact absurd e (by decide)
  | shun _ _ p => exact absurd e (by decide)
theorem cand_sub {f : Fd} {ls : List QL} (h : OkRe f ls) (c : Nat) (ws : List Ws) (g : Lot → Bool) : ∀ l ∈ (fitL ls c ws).filter g, OkL f.bk.length l := fun l hl => fit_ok h c ws l (List.mem_filter.mp hl).1
theorem p_parts (H : Hd K mg) (O : OneOk w K) : Pg P w K mg base "_law_parts" 14 ["_law_seeker", "_law_some", "_law_place"] (spParts K) := pg_of H q_law_parts sc_law_parts (fun vs H' Q E h => h.1) fun vs H0 Q E h => by
  obtain ⟨_, Hf, f, c, S, m, ws, ls, b, r, vsm, vpl, rfl, ex, sk, dsm, dpl, pt, hn, hm, q⟩ := h
  refine go_expr (ex_do (c := c) (b := b) (r := r) "wish" (p_wish H) (fun _ _ _ _ _ => rfl) H (Nat.le_of_ble_eq_true rfl) ex sk (pt.deed (.inl rfl) hn) (by omega) (fun R h => ex_var 0 rfl h) (fun R h => ax_cons (ex_ixTD (d := .int (b : Int)) (ex_var 2 rfl ⟨Hf, ex, dpl, fun z dz => ?_⟩) (atI_nat (j := 0) rfl)) (fun _ => rfl)) fun v ws1 Hf1 H1 e1 x1 hd1 sk1 => ?_)
  · cases dz
    exact ax_cons (ex_ixTD (d := rowD r) (ex_var 2 rfl ⟨Hf, ex, dpl, fun z2 dz2 => ax_nil (h z2 dz2)⟩) (atI_nat (j := 1) rfl)) (fun _ => rfl)
  have p1 := deed_wish hd1
  have dsm1 := dp_mono e1 dsm
  have dpl1 := dp_mono e1 dpl
  refine go_if (tx_cmp rOD_ok rfl (ex_fit H O (Nat.le_of_ble_eq_true rfl) x1 sk1 (pt.fit2 p1) (fun R h => ex_var 0 rfl h) fun v1 Hf2 H2 e2 x2 sk2 dv2 => ?_))
  have dsm2 := dp_mono e2 dsm1
  have dpl2 := dp_mono e2 dpl1
  refine ex_callP (p_having H) (Nat.le_of_ble_eq_true rfl) rfl (ax_cons (ex_var 1 rfl (ax_cons (ex_var 2 rfl (ax_nil ?_)) (fun _ => rfl))) (fun _ => rfl))
  refine ⟨Hf2, [.py (.tuple ((fitL ls c ws).map lotD)), .py (plcD (b, r))], fun d => d = .py (.tuple (((fitL ls c ws).filter (hasP (b, r))).map lotD)), x2, .cons dsm2 (.cons dpl2 .nil), rfl, ⟨fitL ls c ws, (b, r), rfl, ?_, ?_, rfl⟩, fun z d Hf3 H3 t3 r3 ed => ?_⟩
  · have a1 := fit_len ls c ws
    have a2 := pt.re.len1 pt.ok
    omega
  · intro l hl
    rw [(fit_ok pt.re c ws l hl).an]
    exact pt.hb
  subst ed
  refine ⟨_, _, Hf3, fun d => d = .py (.bool false), t3.i, rpy (dp_mono t3.f dv2), r3, od_ne (lots_pl (fit_ok pt.re c ws1)) (lots_pl (cand_sub pt.re c ws _)) ?_, fun z d Hf4 H4 t4 r4 ed => ?_⟩
  · rw [fitL_perm p1, fitL_wish, eqv_self _ (lots_pl (cand_sub pt.re c ws _)).pl]
    rfl
  subst ed
  cases r4
  have T4 := t3.trans t4
  have sk4 := sk2.step T4
  have F4 : Ex Hf Hf4 := (e1.trans e2).trans T4.f
  refine ⟨false, rfl, iteF (go_nil (go_expr (ex_do (c := c) (b := b) (r := r) "forget" (p_forget H) (fun _ _ _ _ _ => rfl) H (Nat.le_of_ble_eq_true rfl) T4.i sk4 (pt.undo p1) (by omega) (fun R h => ex_var 0 rfl h) (fun R h => ax_cons (ex_ixTD (d := .int (b : Int)) (ex_var 2 rfl ⟨Hf4, T4.i, dp_mono F4 dpl, fun z dz => ?_⟩) (atI_nat (j := 0) rfl)) (fun _ => rfl)) fun v ws5 Hf5 H5 e5 x5 hd5 sk5 => ?_)))⟩
  · cases dz
    exact ax_cons (ex_ixTD (d := rowD r) (ex_var 2 rfl ⟨Hf4, T4.i, dp_mono F4 dpl, fun z2 dz2 => ax_nil (h z2 dz2)⟩) (atI_nat (j := 1) rfl)) (fun _ => rfl)
  have e := deed_forget hd5
  have p5 : ws5.Perm ws := by rw [e]; exact forget_perm hn p1
  have pt5 := pt.perm p5
  have hn5 : ws5.any (atW b r) = false := by rw [any_perm p5]; exact hn
  have F5 := F4.trans e5
  clear e hd5 hd1
  refine go_expr (ex_do (c := c) (b := b) (r := r) "shun" (p_shun H) (fun _ _ _ _ _ => rfl) H (Nat.le_of_ble_eq_true rfl) x5 sk5 (pt5.deed (.inr rfl) hn5) (by omega) (fun R h => ex_var 0 rfl h) (fun R h => ax_cons (ex_ixTD (d := .int (b : Int)) (ex_var 2 rfl ⟨Hf5, x5, dp_mono F5 dpl, fun z dz => ?_⟩) (atI_nat (j := 0) rfl)) (fun _ => rfl)) fun v ws6 Hf6 H6 e6 x6 hd6 sk6 => ?_)
  · cases dz
    exact ax_cons (ex_ixTD (d := rowD r) (ex_var 2 rfl ⟨Hf5, x5, dp_mono F5 dpl, fun z2 dz2 => ax_nil (h z2 dz2)⟩) (atI_nat (j := 1) rfl)) (fun _ => rfl)
  have p6 := deed_shun hd6
  have F6 := F5.trans e6
  refine go_if (tx_cmp rOD_ok rfl (ex_fit H O (Nat.le_of_ble_eq_true rfl) x6 sk6 (pt5.fit2 p6) (fun R h => ex_var 0 rfl h) fun v1 Hf7 H7 e7 x7 sk7 dv7 => ?_))
  have F7 := F6.trans e7
  refine ex_callP (p_lacking H) (Nat.le_of_ble_eq_true rfl) rfl (ax_cons (ex_var 1 rfl (ax_cons (ex_var 2 rfl (ax_nil ?_)) (fun _ => rfl))) (fun _ => rfl))
  refine ⟨Hf7, [.py (.tuple ((fitL ls c ws).map lotD)), .py (plcD (b, r))], fun d => d = .py (.tuple (((fitL ls c ws).filter fun l => !hasP (b, r) l).map lotD)), x7, .cons (dp_mono F7 dsm) (.cons (dp_mono F7 dpl) .nil), rfl, ⟨fitL ls c ws, (b, r), rfl, ?_, ?_, rfl⟩, fun z d Hf8 H8 t8 r8 ed => ?_⟩
  · have a1 := fit_len ls c ws
    have a2 := pt.re.len1 pt.ok
    omega
  · intro l hl
    rw [(fit_ok pt.re c ws l hl).an]
    exact pt.hb
  subst ed
  refine ⟨_, _, Hf8, fun d => d = .py (.bool false), t8.i, rpy (dp_mono t8.f dv7), r8, od_ne (lots_pl (fit_ok pt.re c ws6)) (lots_pl (cand_sub pt.re c ws _)) ?_, fun z d Hf9 H9 t9 r9 ed => ?_⟩
  · rw [fitL_perm p6, fitL_shun, fitL_perm p5, eqv_self _ (lots_pl (cand_sub pt.re c ws _)).pl]
    rfl
  subst ed
  cases r9
  have T9 := t8.trans t9
  have sk9 := sk7.step T9
  have F9 : Ex Hf Hf9 := F7.trans T9.f
  refine ⟨false, rfl, iteF (go_nil (go_expr (ex_do (c := c) (b := b) (r := r) "forget" (p_forget H) (fun _ _ _ _ _ => rfl) H (Nat.le_of_ble_eq_true rfl) T9.i sk9 (pt5.undo p6) (by omega) (fun R h => ex_var 0 rfl h) (fun R h => ax_cons (ex_ixTD (d := .int (b : Int)) (ex_var 2 rfl ⟨Hf9, T9.i, dp_mono F9 dpl, fun z dz => ?_⟩) (atI_nat (j := 0) rfl)) (fun _ => rfl)) fun v wsA HfA HA eA xA hdA skA => ?_)))⟩
  · cases dz
    exact ax_cons (ex_ixTD (d := rowD r) (ex_var 2 rfl ⟨Hf9, T9.i, dp_mono F9 dpl, fun z2 dz2 => ax_nil (h z2 dz2)⟩) (atI_nat (j := 1) rfl)) (fun _ => rfl)
  have eA2 := deed_forget hdA
  have pA : wsA.Perm ws := by rw [eA2]; exact (forget_perm hn5 p6).trans p5
  have FA := F9.trans eA
  refine go_ret (ex_cmp rOD_ok rfl (ex_fit H O (Nat.le_of_ble_eq_true rfl) xA skA (pt.perm pA).fit (fun R h => ex_var 0 rfl h) fun v1 HfB HB eB xB skB dvB => ex_var 1 rfl ?_))
  have FB := FA.trans eB
  refine ⟨_, _, HfB, fun d => d = .py (.bool true), xB, rpy dvB, rpy (dp_mono FB dsm), od_eq (lots_pl (fit_ok pt.re c wsA)) (lots_pl (fit_ok pt.re c ws)) ?_, fun z d HfC HC tC rC ed => ?_⟩
  · rw [fitL_perm pA, eqv_self _ (lots_pl (fit_ok pt.re c ws)).pl]
  subst ed
  cases rC
  exact q HfC HC wsA (FB.trans tC.f) tC.i pA (skB.step tC)
end
end Fq
/-! FqMa: the plain law of the asks. -/
namespace Fq
open PySem PySem.Spec PyProof.Rows L2 Evl
open RZ
/-- how often a row is counted -/
def cnt (acc : List (Row × Nat)) (r : Row) : Nat := match acc.find? fun p => decide (p.1 = r) with
  | some p => p.2
  | none => 0
theorem cnt_cons (p : Row × Nat) (acc : List (Row × Nat)) (r : Row) : cnt (p :: acc) r = if p.1 = r then p.2 else cnt acc r := by
  unfold cnt
  rw [List.find?_cons]
  by_cases e : p.1 = r
  · rw [decide_eq_true e, if_pos e]
  · rw [decide_eq_false e, if_neg e]
theorem cnt_nil (r : Row) : cnt [] r = 0 := rfl
theorem cnt_out {acc : List (Row × Nat)} {r : Row} (h : r ∉ acc.map (·.1)) : cnt acc r = 0 := by
  unfold cnt
  rw [cnt_find.mpr h]
theorem cnt_app (acc : List (Row × Nat)) (r0 r : Row) : cnt (acc ++ [(r0, 1)]) r = if r ∈ acc.map (·.1) then cnt acc r else if r0 = r then 1 else 0 := by
  induction acc with
  | nil =>
    show cnt [(r0, 1)] r = _
    rw [cnt_cons, cnt_nil]
    simp
  | cons p acc ih =>
    rw [List.cons_append, cnt_cons, cnt_cons, ih]
    by_cases e : p.1 = r
    · simp [e]
    · have : (r ∈ (p :: acc).map (·.1)) ↔ r ∈ acc.map (·.1) := by
        rw [List.map_cons, List.mem_cons]
        exact ⟨fun h => h.resolve_left fun z => e z.symm, .inr⟩
      rw [if_neg e, if_neg e]
      by_cases h : r ∈ acc.map (·.1)
      · rw [if_pos h, if_pos (this.mpr h)]
      · rw [if_neg h, if_neg fun z => h (this.mp z)]
theorem cnt_up (acc : List (Row × Nat)) (r0 r : Row) : cnt (acc.map fun p => if p.1 = r0 then (p.1, p.2 + 1) else p) r = if r ∈ acc.map (·.1) then cnt acc r + (if r0 = r then 1 else 0) else 0 := by
  induction acc with
  | nil => rfl
  | cons p acc ih =>
    rw [List.map_cons, cnt_cons, ih, cnt_cons]
    have e1 : (if p.1 = r0 then (p.1, p.2 + 1) else p).1 = p.1 := by split <;> rfl
    rw [e1]
    by_cases e : p.1 = r
    · have hm : r ∈ (p :: acc).map (·.1) := by rw [List.map_cons, e]; exact List.mem_cons_self ..
      rw [if_pos e, if_pos hm, if_pos e]
      by_cases h : p.1 = r0
      · rw [if_pos h, if_pos (by rw [← h, e])]
      · rw [if_neg h, if_neg (by rw [← e]; exact fun z => h z.symm)]
        rfl
    · have : (r ∈ (p :: acc).map (·.1)) ↔ r ∈ acc.map (·.1) := by
        rw [List.map_cons, List.mem_cons]
        exact ⟨fun h => h.resolve_left fun z => e z.symm, .inr⟩
      rw [if_neg e, if_neg e]
      by_cases h : r ∈ acc.map (·.1)
      · rw [if_pos h, if_pos (this.mpr h)]
      · rw [if_neg h, if_neg fun z => h (this.mp z)]
theorem cnt_add (acc : List (Row × Nat)) (r0 r : Row) : cnt (cntAdd acc r0) r = cnt acc r + (if r0 = r then 1 else 0) := by
  unfold cntAdd
  by_cases h0 : r0 ∈ acc.map (·.1)
  · rw [if_pos h0, cnt_up]
    by_cases h : r ∈ acc.map (·.1)
    · rw [if_pos h]
    · rw [if_neg h, cnt_out h, if_neg (fun e => h (by rw [← e]; exact h0))]
  · rw [if_neg h0, cnt_app]
    by_cases h : r ∈ acc.map (·.1)
    · rw [if_pos h, if_neg (fun e => h0 (by rw [e]; exact h))]
      rfl
    · rw [if_neg h, cnt_out h, Nat.zero_add]
theorem cnt_fold (r : Row) : ∀ (rs : List Row) (acc : List (Row × Nat)), cnt (rs.foldl cntAdd acc) r = cnt acc r + rs.count r
  | [], acc => rfl
  | r0 :: rs, acc => by
    rw [List.foldl_cons, cnt_fold r rs, cnt_add, List.count_cons, Nat.add_assoc]
    congr 1
    rw [Nat.add_comm]
    congr 1
    by_cases e : r0 = r <;> simp [e]
theorem cnt_counts {b : Nat} (r : Row) {ls : List Lot} (h : ∀ l ∈ ls, (l.an.getD b []).Nodup) : cnt (counts ls b) r = nHas ls (b, r) := by
  have key : ∀ (l : List Lot) (acc : List (Row × Nat)), (∀ x ∈ l, (x.an.getD b []).Nodup) → cnt (l.foldl (fun acc l => (l.an.getD b []).foldl cntAdd acc) acc) r = cnt acc r + nHas l (b, r) := by
    intro l
    induction l with
    | nil => exact fun acc _ => rfl
    | cons x l ih =>
      intro acc hx
      rw [List.foldl_cons, ih _ (fun y hy => hx y (List.mem_cons_of_mem _ hy)), cnt_fold, Nat.add_assoc]
      congr 1
      unfold nHas
      rw [List.filter_cons]
      have nd := hx x (List.mem_cons_self ..)
      unfold hasP
      by_cases hr : r ∈ x.an.getD b []
      · rw [if_pos (decide_eq_true hr), List.length_cons, List.Nodup.count nd, if_pos hr]
        omega
      · rw [if_neg (by simp only [decide_eq_true_eq]; exact hr), List.Nodup.count nd, if_neg hr, Nat.zero_add]
  have := key ls [] h
  rw [cnt_nil, Nat.zero_add] at this
  exact this
theorem OkL.nd {n : Nat} {l : Lot} (h : OkL n l) (b : Nat) : (l.an.getD b []).Nodup := by
  by_cases hb : b < l.an.length
  · rw [List.getD_eq_getElem?_getD, List.getElem?_eq_getElem hb]
    exact rise_nd rLt_so (h.rs _ (List.getElem_mem hb)).1
  · rw [List.getD_eq_getElem?_getD, List.getElem?_eq_none (by omega)]
    exact List.nodup_nil
theorem nHas_pos {ls : List Lot} {p : Nat × Row} : 0 < nHas ls p ↔ ∃ l ∈ ls, p.2 ∈ l.an.getD p.1 [] := by
  unfold nHas
  rw [List.length_pos_iff_exists_mem]
  constructor
  · rintro ⟨l, hl⟩
    obtain ⟨a, b⟩ := List.mem_filter.mp hl
    exact ⟨l, a, of_decide_eq_true b⟩
  · rintro ⟨l, a, b⟩
    exact ⟨l, List.mem_filter.mpr ⟨a, decide_eq_true b⟩⟩
theorem key_has {ls : List Lot} {b : Nat} {r : Row} : r ∈ (counts ls b).map (·.1) ↔ 0 < nHas ls (b, r) := by
  rw [counts_keys, (fold_ins _ []).1, nHas_pos, List.mem_flatMap]
  simp
theorem askRow_eq {n : Nat} {ls : List Lot} (ok : ∀ l ∈ ls, OkL n l) (b : Nat) (r : Row) : askRow ls b r = if 0 < nHas ls (b, r) ∧ nHas ls (b, r) < ls.length then some (b, r, nHas ls (b, r), ls.length - nHas ls (b, r)) else none := by
  have hc := cnt_counts r fun l hl => (ok l hl).nd b
  unfold askRow
  unfold cnt at hc
  cases e : (counts ls b).find? fun p => decide (p.1 = r) with
  | none =>
    rw [e] at hc
    rw [← hc]
    rfl
  | some p =>
    rw [e] at hc
    have hc : p.2 = nHas ls (b, r) := hc
    have hm : r ∈ (counts ls b).map (·.1) := by
      refine Classical.not_not.mp fun h => ?_
      rw [cnt_find.mpr h] at e
      cases e
    have hp := key_has.mp hm
    show (if p.2 < ls.length then some (b, r, p.2, ls.length - p.2) else none) = _
    rw [hc]
    by_cases h : nHas ls (b, r) < ls.length
    · rw [if_pos h, if_pos ⟨hp, h⟩]
    · rw [if_neg h, if_neg fun z => h z.2]
theorem mem_asks {n : Nat} {ls : List Lot} (ok : ∀ l ∈ ls, OkL n l) (x : Nat × Row × Nat × Nat) : x ∈ asks ls ↔ ∃ b r, b < n ∧ 0 < nHas ls (b, r) ∧ nHas ls (b, r) < ls.length ∧ x = (b, r, nHas ls (b, r), ls.length - nHas ls (b, r)) := by
  cases ls with
  | nil =>
    constructor
    · intro h; cases h
    · rintro ⟨b, r, _, h, h2, _⟩
      exact absurd h2 (Nat.not_lt_zero _)
  | cons l0 rest =>
    have an0 : l0.an.length = n := (ok l0 (List.mem_cons_self ..)).an
    show x ∈ (List.range l0.an.length).flatMap (askRows (l0 :: rest)) ↔ _
    generalize l0 :: rest = L at ok
    rw [List.mem_flatMap, an0]
    constructor
    · rintro ⟨b, hb, hx⟩
      unfold askRows at hx
      obtain ⟨r, hr, e⟩ := List.mem_filterMap.mp hx
      rw [askRow_eq ok] at e
      split at e
      · rename_i h
        exact ⟨b, r, List.mem_range.mp hb, h.1, h.2, (Option.some.inj e).symm⟩
      · cases e
    · rintro ⟨b, r, hb, h1, h2, rfl⟩
      refine ⟨b, List.mem_range.mpr hb, ?_⟩
      unfold askRows
      refine List.mem_filterMap.mpr ⟨r, ((sortB_perm _).mem_iff).mpr (key_has.mpr h1), ?_⟩
      rw [askRow_eq ok, if_pos ⟨h1, h2⟩]
/-- where nothing is asked, at most one lot fits -/
theorem asks_nil {n : Nat} {ls : List Lot} (ok : ∀ l ∈ ls, OkL n l) (nd : (ls.map fun l => l.an).Nodup) (h : asks ls = []) : ls.length ≤ 1 := by
  refine Classical.byContradiction fun hl => ?_
  match ls, ok, nd, h, hl with
  | [], _, _, _, hl => exact hl (Nat.zero_le _)
  | [_], _, _, _, hl => exact hl (Nat.le_refl _)
  | l1 :: l2 :: rest, ok, nd, h, _ =>
    have o1 := ok l1 (by simp)
    have o2 := ok l2 (by simp)
    have ne : l1.an ≠ l2.an := by
      rw [List.map_cons, List.map_cons, List.nodup_cons] at nd
      exact fun e => nd.1 (by rw [e]; exact List.mem_cons_self ..)
    refine ne (List.ext_getElem (by rw [o1.an, o2.an]) fun b h1 h2 => ?_)
    refine rise_eq rLt_so (o1.rs _ (List.getElem_mem h1)).1 (o2.rs _ (List.getElem_mem h2)).1 fun r => ?_
    have g1 : l1.an.getD b [] = l1.an[b] := by rw [List.getD_eq_getElem?_getD, List.getElem?_eq_getElem h1]; rfl
    have g2 : l2.an.getD b [] = l2.an[b] := by rw [List.getD_eq_getElem?_getD, List.getElem?_eq_getElem h2]; rfl
    have none : ∀ x, x ∉ asks (l1 :: l2 :: rest) := fun x hx => by rw [h] at hx; cases hx
    have hn : b < n := by rw [← o1.an]; exact h1
    have both : ∀ la ∈ (l1 :: l2 :: rest), ∀ lb ∈ (l1 :: l2 :: rest), r ∈ la.an.getD b [] → r ∈ lb.an.getD b [] := fun la ha lb hb hr => by
      refine Classical.byContradiction fun hno => ?_
      have p1 : 0 < nHas (l1 :: l2 :: rest) (b, r) := nHas_pos.mpr ⟨la, ha, hr⟩
      have p2 : nHas (l1 :: l2 :: rest) (b, r) < (l1 :: l2 :: rest).length := by
        unfold nHas
        refine Nat.lt_of_le_of_ne (List.length_filter_le _ _) fun e => ?_
        have := (List.length_filter_eq_length_iff.mp e) lb hb
        exact hno (of_decide_eq_true this)
      exact none _ ((mem_asks ok _).mpr ⟨b, r, hn, p1, p2, rfl⟩)
    rw [← g1, ← g2]
    exact ⟨both l1 (by simp) l2 (by simp), both l2 (by simp) l1 (by simp)⟩
/-- what the place to ask about fulfils -/
theorem ask_best {n : Nat} {ls : List Lot} (ok : ∀ l ∈ ls, OkL n l) {x : Nat × Row × Nat × Nat} (hx : x ∈ asks ls) (hm : ∀ y ∈ asks ls, askW x ≤ askW y) :
    x.1 < n ∧ (∃ l ∈ ls, x.2.1 ∈ l.an.getD x.1 []) ∧ max (nHas ls (x.1, x.2.1)) (ls.length - nHas ls (x.1, x.2.1)) ≠ ls.length ∧ ∀ q : Nat × Row, q.1 < n → 0 < nHas ls q → nHas ls q < ls.length → max (nHas ls (x.1, x.2.1)) (ls.length - nHas ls (x.1, x.2.1)) ≤ max (nHas ls q) (ls.length - nHas ls q) := by
  obtain ⟨b, r, hb, h1, h2, rfl⟩ := (mem_asks ok x).mp hx
  refine ⟨hb, nHas_pos.mp h1, ?_, fun q hq g1 g2 => ?_⟩
  · show max (nHas ls (b, r)) (ls.length - nHas ls (b, r)) ≠ ls.length
    omega
  · exact hm (q.1, q.2, nHas ls q, ls.length - nHas ls q) ((mem_asks ok _).mpr ⟨q.1, q.2, hq, g1, g2, rfl⟩)
/-- lots that fit have different answers -/
theorem fit_nd {f : Fd} {ls : List QL} (h : OkRe f ls) (c : Nat) (ws : List Ws) : ((fitL ls c ws).map fun l => l.an).Nodup := by
  have h1 : (ls.filter fun l => decide (l.c = c) && fits ws l.an).map (fun l => l.an) = (fitL ls c ws).map fun l => l.an := by
    unfold fitL cands
    rw [List.filter_map, List.map_map]
    rfl
  have h2 : ((ls.filter fun l => decide (l.c = c) && fits ws l.an).map ky).Nodup := h.nd.sublist (List.filter_sublist.map ky)
  suffices g : (((fitL ls c ws).map fun l => l.an).map fun a => (c, a)).Nodup from (List.pairwise_map.mp g).imp fun hh e => hh (congrArg (fun a => (c, a)) e)
  rw [← h1]
  rw [List.map_map]
  have e : (ls.filter fun l => decide (l.c = c) && fits ws l.an).map ((fun a => (c, a)) ∘ fun l => l.an) = (ls.filter fun l => decide (l.c = c) && fits ws l.an).map ky := by
    refine List.map_congr_left fun l hl => ?_
    have := (List.mem_filter.mp hl).2
    rw [Bool.and_eq_true] at this
    show (c, l.an) = (l.c, l.an)
    rw [of_decide_eq_true this.1]
  rw [e]
  exact h2
end Fq
/-! FqPn: the law's plan of draws begins. -/
namespace Fq
open PySem PySem.Spec PyProof.Rows L2 Evl
open RZ
/-- from now on the list at L is the plan of draws -/
theorem go_plan {i : XI} {sts : List Stmt} {D : Ends} {σ : L2.St} {H : Hp} {L sc : Addr} {a b c : Int} (hL : H L = some (.lst [.ref sc, .int a, .int b, .int c])) (h0 : 0 ≤ c) (h1 : c < bigM) (g : GO i sts D σ (upd H L (.ext (dwP L sc)))) : GO i sts D σ H := by
  refine ⟨fun X ok pins s I => ?_⟩
  obtain ⟨its, n, r, e, _⟩ := I.lst hL
  have hd : dwP L sc s.heap := by
    cases r with
    | cons r1 r =>
      cases r with
      | cons r2 r =>
        cases r with
        | cons r3 r =>
          cases r with
          | cons r4 r =>
            cases r
            cases r1
            obtain ⟨t1, rfl⟩ := r2
            obtain ⟨t2, rfl⟩ := r3
            obtain ⟨t3, rfl⟩ := r4
            exact ⟨a, b, c, t1, t2, t3, n, e, h0, h1⟩
  have I2 := I.write (x := L) (e := L) (o := .ext (dwP L sc)) (h' := s.heap) (t' := s.toks) (by rw [hL]; exact trivial) (.inl rfl) (fun _ _ _ q => q) ⟨_, e⟩ (dw_ok hd)
  exact g.run X ok pins s I2
end Fq
/-! FqBk: the books that the law draws are books. -/
namespace Fq
open PySem PySem.Spec PyProof.Rows L2 Evl
open RZ
/-- a drawn book over the tables hs -/
structure DrB (hs : List (Str × Nat)) (pool : List Vl) (b : Bk) : Prop where
  hd : headsOf b = hs
  rs : ∀ t ∈ b, RiseR t.2.2 ∧ t.2.2.length ≤ 3 ∧ ∀ r ∈ t.2.2, r.length = t.2.1 ∧ ∀ v ∈ r, v ∈ pool
theorem okB_of {hs : List (Str × Nat)} {m : Nat} {pool : List Vl} {b : Bk} (h : HsOk 2 hs) (p : PoolOk m pool) (d : DrB hs pool b) : OkB b := by
  have hl : b.length = hs.length := by
    rw [← d.hd]
    unfold headsOf
    rw [List.length_map]
  have mem : ∀ t ∈ b, (t.1, t.2.1) ∈ hs := fun t ht => by
    rw [← d.hd]
    exact List.mem_map.mpr ⟨t, ht, rfl⟩
  refine ⟨by rw [hl]; exact h.lo, by rw [hl]; exact h.hi, fun t ht => ?_, ?_, ?_⟩
  · obtain ⟨w1, w2, w3⟩ := h.ws _ (mem t ht)
    have w2 : 1 ≤ t.2.1 := w2
    have w3 : t.2.1 ≤ 2 := w3
    obtain ⟨r1, r2, r3⟩ := d.rs t ht
    exact ⟨w1, w2, by omega, fun r hr => ⟨(r3 r hr).1, w2, by omega, fun v hv => p.ok v ((r3 r hr).2 v hv)⟩, r1, by omega⟩
  · have hu := h.up
    rw [← d.hd] at hu
    exact List.pairwise_map.mp hu
  · refine Nat.le_trans (vrisenM_len _) ?_
    have l1 : ∀ t ∈ b, (t.2.2.flatMap id).length ≤ 6 := fun t ht => by
      obtain ⟨_, r2, r3⟩ := d.rs t ht
      have w3 : t.2.1 ≤ 2 := (h.ws _ (mem t ht)).2.2
      have := flatL id 2 t.2.2 fun r hr => by
        show r.length ≤ 2
        rw [(r3 r hr).1]
        exact w3
      omega
    have := flatL (fun t : Tb => t.2.2.flatMap id) 6 b l1
    have := h.hi
    unfold valsOf
    omega
theorem okBs_of {hs : List (Str × Nat)} {m : Nat} {pool : List Vl} {bs : List Bk} (h : HsOk 2 hs) (p : PoolOk m pool) (d : ∀ b ∈ bs, DrB hs pool b) (h1 : 1 ≤ bs.length) (h2 : bs.length ≤ 2) : OkBs bs := by
  refine ⟨h1, by omega, fun b hb => okB_of h p (d b hb), fun b hb => ?_⟩
  cases bs with
  | nil => cases hb
  | cons b0 t =>
    rw [(d b hb).hd]
    exact ((d b0 (List.mem_cons_self ..)).hd).symm
theorem HsOk.two {m : Nat} {hs : List (Str × Nat)} (h : HsOk m hs) : HsOk m (hs.take 2) ∧ (hs.take 2).length ≤ 2 := by
  refine ⟨⟨?_, ?_, fun x hx => h.ws x (List.mem_of_mem_take hx), h.up.sublist (List.take_sublist _ _)⟩, List.length_take_le _ _⟩
  · rw [List.length_take]
    have := h.lo
    omega
  · have := List.length_take_le 2 hs
    omega
end Fq
/-! FqCo: less on lists and tuples, told up to the first place that differs. -/
namespace PySem.SeqAt
open Sem (wp)
open AutoSeq1 (wpAny_loadPart')
open PySem.W
/-- less at the first place that differs -/
def Upto (A : Around) (s : Shared) (us vs : Array Value) (e r : Nat → Bool) : Prop := ∀ j (h1 : j < us.size) (h2 : j < vs.size), (∀ t, t < j → e t = true) → e j = false → RcLt A.in1 s us[j] vs[j] (r j)
def Same (A : Around) (s : Shared) (us vs : Array Value) (e : Nat → Bool) : Prop := ∀ j (h1 : j < us.size) (h2 : j < vs.size), EqAt A.in1 s us[j] vs[j] (e j)
abbrev resUV (us vs : Array Value) (e r : Nat → Bool) (i : Nat) : Bool := firstLt e r (decide (us.size < vs.size)) ((List.range (min us.size vs.size)).drop i)
theorem tuple_upto (l b : Addr) (us vs : Array Value) (n n2 : Nat) (dd dd2 : Option Addr) (sl sl2 : Array (Option Value)) (e r : Nat → Bool) : Meets (Builtin.«tuple.__lt__» ⟨[.ref l, .ref b], []⟩) (fun A R s => s.heap.get? l = some { cls := .type "tuple", dict := dd, data := .seq us n, slots := sl } ∧ s.heap.get? b = some { cls := .type "tuple", dict := dd2, data := .seq vs n2, slots := sl2 } ∧ Same A s us vs e ∧ Upto A s us vs e r ∧ R (.ok (.ret (.bool (resUV us vs e r 0)))) s) :=
  .of_wp fun prog w A R s hh => by
    obtain ⟨hp, g, d, tk, os⟩ := s
    obtain ⟨hl, hb, he, hr, hh⟩ := hh
    have f2 := AutoSeq1.sub_tuple_tuple
    have hZ : (us.toList.zip vs.toList).length = min us.size vs.size := by simp
    wp_walk using wpAny_loadPart' hl, wpAny_loadPart' hb, wpAny_forIn_list _ (fun rest q s' => q.1 = none ∧ s' = ⟨hp, g, d, tk, os⟩ ∧ ∃ i, rest = (us.toList.zip vs.toList).drop i ∧ (∀ t, t < i → e t = true) ∧ R (.ok (.ret (.bool (resUV us vs e r i)))) ⟨hp, g, d, tk, os⟩) _
    case turn =>
      rintro ⟨y, x⟩ rest q s' ⟨hq, rfl, i, hz, hup, hR⟩
      have hlt : i < (us.toList.zip vs.toList).length := by
        refine Nat.lt_of_not_le fun h' => ?_
        rw [List.drop_of_length_le h'] at hz
        cases hz
      have hm : i < min us.size vs.size := hZ ▸ hlt
      have h1 : i < us.size := Nat.lt_of_lt_of_le hm (Nat.min_le_left _ _)
      have h2 : i < vs.size := Nat.lt_of_lt_of_le hm (Nat.min_le_right _ _)
      rw [List.drop_eq_getElem_cons hlt] at hz
      injection hz with hyx hrest
      have hy : y = us[i] := by simpa using congrArg Prod.fst hyx
      have hx : x = vs[i] := by simpa using congrArg Prod.snd hyx
      subst hy hx
      have hd : (List.range (min us.size vs.size)).drop i = i :: (List.range (min us.size vs.size)).drop (i + 1) := by simp [List.drop_eq_getElem_cons, hm]
      unfold resUV at hR
      rw [hd] at hR
      refine wpAny_bind (he i h1 h2 prog w _ _ ?_)
      cases hy : e i with
      | true =>
        rw [firstLt_yes hy] at hR
        wp_walk
        refine ⟨rfl, rfl, i + 1, hrest, fun t ht => ?_, hR⟩
        rcases Nat.lt_succ_iff_lt_or_eq.mp ht with z | rfl
        · exact hup t z
        · exact hy
      | false =>
        rw [firstLt_no hy] at hR
        have hrr := hr i h1 h2 hup hy
        unfold RcLt at hrr
        generalize richCompare CmpOp.Lt us[i] vs[i] = rc at hrr ⊢
        wp_walk
        refine hrr prog w _ _ ?_
        wp_walk
        exact ⟨_, rfl, hR⟩
    case fin =>
      rintro ⟨b1, b2⟩ s' ⟨hq, rfl, i, hz, hup, hR⟩
      simp only at hq
      subst hq
      have hge : min us.size vs.size ≤ i := by
        refine Nat.le_of_not_lt fun h' => ?_
        rw [List.drop_eq_getElem_cons (hZ ▸ h')] at hz
        cases hz
      unfold resUV at hR
      rw [List.drop_of_length_le (by simpa using hge)] at hR
      wp_walk
      exact ⟨_, rfl, by simpa [Builtin.Tuple.tupleCompareSizes, firstLt] using hR⟩
    case h =>
      exact ⟨rfl, rfl, 0, rfl, fun t ht => absurd ht (Nat.not_lt_zero t), by simpa using hh⟩
open MeetsSeq MeetsSeq2 MeetsSeq3 SeqRoads2
theorem loop_upto (l b : Addr) (us vs : Array Value) (n n2 : Nat) (dd dd2 : Option Addr) (sl sl2 : Array (Option Value)) (e r : Nat → Bool) (k : Nat) :
    ∀ i : Nat, min us.size vs.size - i = k → (∀ t, t < i → e t = true) → Meets (Builtin.«list.__eq__.loop» ⟨[.ref l, .ref b, rawInt i, rawInt 0], []⟩) (fun A R s => s.heap.get? l = some { cls := .type "list", dict := dd, data := .seq us n, slots := sl } ∧ s.heap.get? b = some { cls := .type "list", dict := dd2, data := .seq vs n2, slots := sl2 } ∧ Same A s us vs e ∧ Upto A s us vs e r ∧ R (.ok (.ret (.bool (resUV us vs e r i)))) s) := by
  induction k with
  | zero =>
    intro i hk hup prog w A R s hh
    obtain ⟨hp, g, d, tk, os⟩ := s
    obtain ⟨hl, hb, he, hr, hh⟩ := hh
    have hd : (List.range (min us.size vs.size)).drop i = [] := by simp; omega
    unfold resUV at hh
    rw [hd] at hh
    wp_walk using wpAny_loadPart' hl, wpAny_loadPart' hb
    by_cases h1 : us.size ≤ i
    · have z1 : us[((i : Nat) : Int).toNat]? = none := by simp; omega
      rw [z1]
      wp_walk using wpAny_loadPart' hl, wpAny_loadPart' hb
      exact hh
    · have hlt : i < us.size := by omega
      have z1 : us[((i : Nat) : Int).toNat]? = some us[i] := by simp [hlt]
      have z2 : vs[((i : Nat) : Int).toNat]? = none := by simp; omega
      rw [z1, z2]
      wp_walk using wpAny_loadPart' hl, wpAny_loadPart' hb
      exact hh
  | succ k ih =>
    intro i hk hup prog w A R s hh
    obtain ⟨hp, g, d, tk, os⟩ := s
    obtain ⟨hl, hb, he, hr, hh⟩ := hh
    wp_walk using wpAny_loadPart' hl, wpAny_loadPart' hb
    have hm : i < min us.size vs.size := by omega
    have hlt : i < us.size := Nat.lt_of_lt_of_le hm (Nat.min_le_left _ _)
    have hlt2 : i < vs.size := Nat.lt_of_lt_of_le hm (Nat.min_le_right _ _)
    have z1 : us[((i : Nat) : Int).toNat]? = some us[i] := by simp [hlt]
    have z2 : vs[((i : Nat) : Int).toNat]? = some vs[i] := by simp [hlt2]
    have hd : (List.range (min us.size vs.size)).drop i = i :: (List.range (min us.size vs.size)).drop (i + 1) := by simp [List.drop_eq_getElem_cons, hm]
    have hc : ((i : Int) + 1) = ((i + 1 : Nat) : Int) := by omega
    unfold resUV at hh
    rw [hd] at hh
    rw [z1, z2]
    refine wpAny_bind (he i hlt hlt2 prog w _ _ ?_)
    cases hy : e i with
    | true =>
      rw [firstLt_yes hy] at hh
      wp_walk
      rw [hc]
      refine ⟨plainId_quiet plain_eq_loop _, codeAny_builtin entry_eq_loop ?_⟩
      rw [Around.under_plainId plain_eq_loop _]
      refine ih (i + 1) (by omega) (fun t ht => ?_) prog w A R _ ⟨hl, hb, he, hr, hh⟩
      rcases Nat.lt_succ_iff_lt_or_eq.mp ht with z | rfl
      · exact hup t z
      · exact hy
    | false =>
      rw [firstLt_no hy] at hh
      wp_walk using wpAny_loadPart' hl, wpAny_loadPart' hb
      rw [z1, z2]
      show wpAny (model prog w) A.in1 (richCompare CmpOp.Lt us[i] vs[i] >>= fun v => ret v) _ _ _
      refine wpAny_bind (hr i hlt hlt2 hup hy prog w _ _ ?_)
      wp_walk
      exact hh
theorem list_upto (l b : Addr) (us vs : Array Value) (n n2 : Nat) (dd dd2 : Option Addr) (sl sl2 : Array (Option Value)) (e r : Nat → Bool) : Meets (Builtin.«list.__lt__» ⟨[.ref l, .ref b], []⟩) (fun A R s => s.heap.get? l = some { cls := .type "list", dict := dd, data := .seq us n, slots := sl } ∧ s.heap.get? b = some { cls := .type "list", dict := dd2, data := .seq vs n2, slots := sl2 } ∧ Same A s us vs e ∧ Upto A s us vs e r ∧ R (.ok (.ret (.bool (resUV us vs e r 0)))) s) := by
  intro prog w A R s hh
  obtain ⟨hp, g, d, tk, os⟩ := s
  obtain ⟨hl, hb, he, hr, hh⟩ := hh
  have f3 := AutoSeq1.sub_list_list
  wp_walk using wpAny_loadPart' hl, wpAny_loadPart' hb
  refine ⟨plainId_quiet plain_eq_loop _, codeAny_builtin entry_eq_loop ?_⟩
  rw [Around.under_plainId plain_eq_loop _]
  exact loop_upto l b us vs n n2 dd dd2 sl sl2 e r _ 0 rfl (fun t ht => absurd ht (Nat.not_lt_zero t)) prog w A R _ ⟨hl, hb, he, hr, by simpa using hh⟩
section
variable {A : Around} {s : Shared} {l b : Addr} {us vs : Array Value} {e r : Nat → Bool}
theorem rcl_tuples (hl : s.heap.IsTuple l us) (hb : s.heap.IsTuple b vs) (hu : A.units < cLine) (he : Same A s us vs e) (hr : Upto A s us vs e r) : RcLt A s (.ref l) (.ref b) (resUV us vs e r 0) := fun prog w E Q q => by
  obtain ⟨⟨c1, d1, t1, s1⟩, ho, hc, n, hd⟩ := id hl
  obtain ⟨⟨c2, d2, t2, s2⟩, ho2, hc2, n2, hd2⟩ := id hb
  simp only at hc hd hc2 hd2
  subst hc hd hc2 hd2
  exact richCompare_meets_room (op := .Lt) ⟨_, ho, rfl⟩ ⟨_, ho2, rfl⟩ F.slot_tuple_lt F.entry_tuple_lt (F.args_tuple_lt_2 _ _) (tuple_upto l b us vs n n2 d1 d2 s1 s2 e r) ⟨ho, ho2, he, hr, show Value.bool (resUV us vs e r 0) ≠ Value.notImplemented ∧ Q (.bool (resUV us vs e r 0)) s from ⟨(fun x => nomatch x), q⟩⟩ hu
/-- list's own less, as sorting calls it -/
theorem call_list_upto {prog : Program} {w : World} {E : Value → Shared → Prop} {Q : Value → Shared → Prop} (hl : s.heap.IsList l us) (hb : s.heap.IsList b vs) (he : Same A s us vs e) (hr : Upto A s us vs e r) (q : Q (.bool (resUV us vs e r 0)) s) : wpAny (model prog w) A (call (.builtin "list.__lt__") [.ref l, .ref b]) Q E s := by
  obtain ⟨⟨c1, d1, t1, s1⟩, ho, hc, n, hd⟩ := id hl
  obtain ⟨⟨c2, d2, t2, s2⟩, ho2, hc2, n2, hd2⟩ := id hb
  simp only at hc hd hc2 hd2
  subst hc hd hc2 hd2
  exact call_meets F.slot_list_lt ⟨_, ho, rfl⟩ F.entry_list_lt (F.args_list_lt_2 _ _) (list_upto l b us vs n n2 d1 d2 s1 s2 e r) ⟨ho, ho2, he, hr, q⟩
end
end PySem.SeqAt
/-! FqCp: keys [(isinstance(v, str), v), ..] can be sorted. -/
namespace Fq
open PySem PySem.Spec PyProof.Rows L2 Evl
open PySem.W PySem.SeqAt
def isW : Vl → Bool
  | .n _ => false
  | .w _ => true
def pkD (v : Vl) : PyData := .tuple [.bool (isW v), v.d]
def mkD (r : Row) : PyData := .list (r.map pkD)
section
variable {A : Around} {s : Shared}
theorem rng3 : List.range 3 = [0, 1, 2] := rfl
theorem vLt_nn (a b : Int) : vLt (.n a) (.n b) = decide (a < b) := by
  unfold vLt keyV
  rw [dataLt_tuple, ← firstLt_toks _ _ (by simp [alikeAll, alike])]
  show firstLt _ _ _ (List.range 3) = _
  rw [rng3]
  by_cases e : a = b
  · subst e
    simp [firstLt, pairEq, PyData.eqv, dataLt_int, dataLt_str]
  · simp [firstLt, pairEq, PyData.eqv, dataLt_int, dataLt_str, e]
theorem vLt_ww (a b : Str) : vLt (.w a) (.w b) = decide (a.cps.toList < b.cps.toList) := by
  unfold vLt keyV
  rw [dataLt_tuple, ← firstLt_toks _ _ (by simp [alikeAll, alike])]
  show firstLt _ _ _ (List.range 3) = _
  rw [rng3]
  by_cases e : a = b
  · subst e
    simp [firstLt, pairEq, PyData.eqv, dataLt_int, dataLt_str]
  · simp [firstLt, pairEq, PyData.eqv, dataLt_int, dataLt_str, e]
theorem vLt_nw (a : Int) (b : Str) : vLt (.n a) (.w b) = true := by
  unfold vLt keyV
  rw [dataLt_tuple, ← firstLt_toks _ _ (by simp [alikeAll, alike])]
  show firstLt _ _ _ (List.range 3) = _
  rw [rng3]
  simp [firstLt, pairEq, PyData.eqv, dataLt_int]
theorem vLt_wn (a : Str) (b : Int) : vLt (.w a) (.n b) = false := by
  unfold vLt keyV
  rw [dataLt_tuple, ← firstLt_toks _ _ (by simp [alikeAll, alike])]
  show firstLt _ _ _ (List.range 3) = _
  rw [rng3]
  simp [firstLt, pairEq, PyData.eqv, dataLt_int]
theorem pk_shape {h : Heap} {u : Value} {v : Vl} {as : List Addr} (ra : Reads h u (pkD v) as) : ∃ l us y ys, u = .ref l ∧ h.IsTuple l us ∧ us = #[.bool (isW v), y] ∧ Reads h y v.d ys := by
  unfold pkD at ra
  cases ra with
  | @tuple l o vs n _ as1 h1 h2 h3 h4 =>
    obtain ⟨L⟩ := vs
    cases h4 with
    | cons r1 t =>
      cases t with
      | cons r2 t =>
        cases t
        cases r1
        exact ⟨l, _, _, _, rfl, ⟨_, h1, h2, _, h3⟩, rfl, r2⟩
theorem vl_depth' (v : Vl) : v.d.depth = 0 := by cases v <;> simp [Vl.d, PyData.depth]
def eP (v v' : Vl) (j : Nat) : Bool := if j = 0 then PyData.eqv (.bool (isW v)) (.bool (isW v')) else PyData.eqv v.d v'.d
def rP (v v' : Vl) (j : Nat) : Bool := if j = 0 then dataLt (.bool (isW v)) (.bool (isW v')) else dataLt v.d v'.d
theorem vl_flat {h : Heap} {u : Value} {v : Vl} {as : List Addr} (r : Reads h u v.d as) : PyProof.V.Flat u v.d := by
  cases v with
  | n a =>
    cases r
    exact fun h => Reads.int a _
  | w a =>
    cases r
    exact fun h => Reads.str a _
theorem res_pk (v v' : Vl) (y y' : Value) : resUV #[.bool (isW v), y] #[.bool (isW v'), y'] (eP v v') (rP v v') 0 = vLt v v' := by
  show firstLt (eP v v') (rP v v') (decide (2 < 2)) ((List.range 2).drop 0) = _
  have : (List.range 2).drop 0 = [0, 1] := rfl
  rw [this]
  cases v with
  | n a =>
    cases v' with
    | n b =>
      rw [vLt_nn]
      by_cases e : a = b
      · subst e
        simp [firstLt, eP, rP, isW, PyData.eqv, Vl.d, dataLt_int]
      · simp [firstLt, eP, rP, isW, PyData.eqv, Vl.d, dataLt_int, e]
    | w b =>
      rw [vLt_nw]
      simp [firstLt, eP, rP, isW, PyData.eqv, Vl.d, dataLt_bool, b2i]
  | w a =>
    cases v' with
    | n b =>
      rw [vLt_wn]
      simp [firstLt, eP, rP, isW, PyData.eqv, Vl.d, dataLt_bool, b2i]
    | w b =>
      rw [vLt_ww]
      by_cases e : a = b
      · subst e
        simp [firstLt, eP, rP, isW, PyData.eqv, Vl.d, dataLt_str]
      · simp [firstLt, eP, rP, isW, PyData.eqv, Vl.d, dataLt_str, e]
theorem pk_lt {u u' : Value} {v v' : Vl} {as as' : List Addr} (ra : Reads s.heap u (pkD v) as) (rb : Reads s.heap u' (pkD v') as') (hu : A.units + 5 < cLine) : RcLt A s u u' (vLt v v') := by
  obtain ⟨l, us, y, ys, rfl, h1, rfl, r1⟩ := pk_shape ra
  obtain ⟨l', us', y', ys', rfl, h2, rfl, r2⟩ := pk_shape rb
  have hu1 : A.in1.units + 1 < cLine := by show A.units + 1 + 1 < cLine; omega
  rw [← res_pk v v' y y']
  refine rcl_tuples h1 h2 (by omega) (fun j j1 j2 => ?_) fun j j1 j2 hup hj => ?_
  · match j, j1, j2 with
    | 0, _, _ => exact keq_flat (fun h => Reads.bool _) (fun h => Reads.bool _)
    | 1, _, _ => exact keq_flat (vl_flat r1) (vl_flat r2)
  · match j, j1, j2 with
    | 0, _, _ => exact rcLt_alike (.bool (isW v)) (.bool (isW v')) A.in1 s _ _ [] [] (Reads.bool _) (Reads.bool _) (by simp [alike]) (fun z => nomatch z) (by simp [PyData.depth]; omega)
    | 1, _, _ =>
      have e0 := hup 0 (by omega)
      refine rcLt_alike v.d v'.d A.in1 s _ _ ys ys' r1 r2 ?_ ?_ (by rw [vl_depth']; simp; omega)
      · cases v <;> cases v' <;> first | rfl | simp [eP, isW, PyData.eqv] at e0
      · cases v <;> exact fun z => nomatch z
end
end Fq
/-! FqCq: the law's sort keys can be sorted. -/
namespace Fq
open PySem PySem.Spec PyProof.Rows L2 Evl
open PySem.W PySem.SeqAt
theorem reads_at {h : Heap} : ∀ {vs : List Value} {ds : List PyData} {as : List Addr}, ReadsAll h vs ds as → ∀ j (hj : j < vs.length), ∃ d bs, ds[j]? = some d ∧ Reads h vs[j] d bs
  | [], _, _, _, j, hj => absurd hj (Nat.not_lt_zero _)
  | _ :: _, _, _, r, j, hj => by
    cases r with
    | cons a b =>
      cases j with
      | zero => exact ⟨_, _, rfl, a⟩
      | succ j => exact reads_at b j (Nat.lt_of_succ_lt_succ hj)
theorem pk_at {h : Heap} {us : Array Value} {r : Row} {as : List Addr} (ra : ReadsAll h us.toList (r.map pkD) as) (j : Nat) (hj : j < us.size) : ∃ v bs, r[j]? = some v ∧ Reads h us[j] (pkD v) bs := by
  obtain ⟨d, bs, hd, rd⟩ := reads_at ra j (by simpa using hj)
  rw [List.getElem?_map] at hd
  obtain ⟨v, hv, rfl⟩ := Option.map_eq_some_iff.mp hd
  exact ⟨v, bs, hv, by simpa using rd⟩
theorem eqv_pk (v v' : Vl) : PyData.eqv (pkD v) (pkD v') = PyData.eqv (keyV v) (keyV v') := by
  cases v <;> cases v' <;> simp [pkD, keyV, isW, Vl.d, PyData.eqv, PyData.eqvAll]
section
variable {prog : Program} {w : World} {A : Around} {s : Shared}
theorem vl_read {h : Heap} {y : Value} {v v' : Vl} {as bs : List Addr} (r : Reads h y v.d as) (r' : Reads h y v'.d bs) : v = v' := by
  cases v with
  | n a =>
    cases r
    cases v' with
    | n b => cases r'; rfl
    | w b => cases r'
  | w a =>
    cases r
    cases v' with
    | n b => cases r'
    | w b => cases r'; rfl
theorem pk_eq {u u' : Value} {v v' : Vl} {as as' : List Addr} (ra : Reads s.heap u (pkD v) as) (rb : Reads s.heap u' (pkD v') as') (hu : A.units + 5 < cLine) : EqAt A s u u' (PyData.eqv (pkD v) (pkD v')) := by
  obtain ⟨l, us, y, ys, rfl, h1, rfl, r1⟩ := pk_shape ra
  obtain ⟨l', us', y', ys', rfl, h2, rfl, r2⟩ := pk_shape rb
  by_cases hll : l = l'
  · subst hll
    obtain ⟨o1, e1, c1, n1, d1⟩ := h1
    obtain ⟨o2, e2, c2, n2, d2⟩ := h2
    rw [e1] at e2
    obtain rfl := Option.some.inj e2
    rw [d1] at d2
    have ey : y = y' := by
      injection d2 with d2 _
      have := congrArg (fun a : Array Value => a.toList[1]?) d2
      exact Option.some.inj this
    subst ey
    obtain rfl := vl_read r1 r2
    have : PyData.eqv (pkD v) (pkD v) = true := by cases v <;> simp [pkD, Vl.d, PyData.eqv, PyData.eqvAll]
    rw [this]
    exact EqAt.same _
  · show EqAt A s (.ref l) (.ref l') (PyData.eqvAll [.bool (isW v), v.d] [.bool (isW v'), v'.d])
    rw [← eqvAll_eq]
    refine EqAt.of_refs hll (RcAt.tuples h1 h2 (by omega) fun j j1 j2 => ?_)
    match j, j1, j2 with
    | 0, _, _ => exact keq_flat (fun h => Reads.bool _) (fun h => Reads.bool _)
    | 1, _, _ => exact keq_flat (vl_flat r1) (vl_flat r2)
theorem mk_one {u u' : Value} {r r' : Row} {as as' : List Addr} {Q : Bool → Shared → Prop} {E : Value → Shared → Prop} (ra : Reads s.heap u (mkD r) as) (rb : Reads s.heap u' (mkD r') as') (hu : A.units + 100 < cLine) (hq : Q (rLt r r') s) : wpAny (model prog w) A (oneLt' true u u') Q E s := by
  unfold mkD at ra rb
  cases ra with
  | @list l o us n _ as1 h1 h2 h3 h4 =>
    cases rb with
    | @list l' o' us' n' _ as1' k1 k2 k3 k4 =>
      have n1 : us.size = r.length := by simpa using ReadsAll.length _ _ _ h4
      have n2 : us'.size = r'.length := by simpa using ReadsAll.length _ _ _ k4
      have hq2 : Q (resUV us us' (pairEq (r.map keyV) (r'.map keyV)) (fun j => dataLt ((r.map keyV).getD j .none) ((r'.map keyV).getD j .none)) 0) s := by
        have e := firstLt_toks (r.map keyV) (r'.map keyV) (keyR_alikeAll r r')
        rw [List.length_map, List.length_map, ← n1, ← n2] at e
        unfold resUV
        rw [List.drop_zero, e]
        unfold rLt keyR at hq
        rw [dataLt_list] at hq
        exact hq
      rw [oneLt'_eq]
      simp only [if_true]
      refine wpAny_bind (wpAny_cRoomFor (by omega) ?_)
      refine wpAny_bind (wpAny_callSpecialIfBound?_slot (T := "list") ⟨_, h1, h2⟩ F.slot_list_lt (call_list_upto ⟨_, h1, h2, _, h3⟩ ⟨_, k1, k2, _, k3⟩ (fun j j1 j2 => ?_) (fun j j1 j2 hup hj => ?_) (wpAny_truthy_bool hq2)))
      · obtain ⟨v, bs, hv, rv⟩ := pk_at h4 j j1
        obtain ⟨v', bs', hv', rv'⟩ := pk_at k4 j j2
        have e : pairEq (r.map keyV) (r'.map keyV) j = PyData.eqv (pkD v) (pkD v') := by
          rw [eqv_pk]
          simp [pairEq, hv, hv']
        rw [e]
        exact pk_eq rv rv' (by show A.units + 1 + 5 < cLine; omega)
      · obtain ⟨v, bs, hv, rv⟩ := pk_at h4 j j1
        obtain ⟨v', bs', hv', rv'⟩ := pk_at k4 j j2
        have e : dataLt ((r.map keyV).getD j .none) ((r'.map keyV).getD j .none) = vLt v v' := by
          simp [List.getD_eq_getElem?_getD, hv, hv', vLt]
        rw [e]
        exact pk_lt rv rv' (by show A.units + 1 + 5 < cLine; omega)
/-- the kind of keys that read as rows -/
def mkKind (g : Value → Option (List (Int ⊕ List Nat))) : PyProof.Rows.KeyKind where
  toKeyOrd := PyProof.Rows.listOrd PyProof.Rows.itemOrd
  keyOf := g
  dflt := ([] : List (Int ⊕ List Nat))
theorem mkD_inj {r r' : Row} (h : mkD r = mkD r') : r = r' := by
  unfold mkD at h
  have h1 := PyData.list.inj h
  have inj : ∀ a b : Vl, pkD a = pkD b → a = b := fun a b e => by
    cases a <;> cases b <;> simp [pkD, isW, Vl.d] at e
    · rw [e]
    · rw [e]
  have key : ∀ a b : Row, a.map pkD = b.map pkD → a = b := by
    intro a
    induction a with
    | nil =>
      intro b e
      cases b with
      | nil => rfl
      | cons x b => cases e
    | cons x a ih =>
      intro b e
      cases b with
      | nil => cases e
      | cons y b =>
        rw [List.map_cons, List.map_cons] at e
        injection e with e1 e2
        rw [inj x y e1, ih b e2]
  exact key r r' h1
open Classical in
noncomputable def mkG (h : Heap) (rs : List Row) (u : Value) : Option (List (Int ⊕ List Nat)) := if q : ∃ r, r ∈ rs ∧ ∃ as, Reads h u (mkD r) as then some (keyToks (keyR q.choose)) else none
theorem mkG_some {h : Heap} {rs : List Row} {u : Value} {r : Row} {as : List Addr} (hr : r ∈ rs) (ra : Reads h u (mkD r) as) : mkG h rs u = some (keyToks (keyR r)) := by
  have q : ∃ r, r ∈ rs ∧ ∃ as, Reads h u (mkD r) as := ⟨r, hr, as, ra⟩
  unfold mkG
  rw [dif_pos q]
  obtain ⟨_, as', r2⟩ := q.choose_spec
  rw [mkD_inj (PyProof.Rows.reads_det (fun _ _ e _ => e) r2 ra).1]
theorem mkG_inv {h : Heap} {rs : List Row} {u : Value} {k : List (Int ⊕ List Nat)} (e : mkG h rs u = some k) : ∃ r as, r ∈ rs ∧ Reads h u (mkD r) as ∧ k = keyToks (keyR r) := by
  unfold mkG at e
  by_cases q : ∃ r, r ∈ rs ∧ ∃ as, Reads h u (mkD r) as
  · rw [dif_pos q] at e
    obtain ⟨h1, as', r2⟩ := q.choose_spec
    exact ⟨_, as', h1, r2, (Option.some.inj e).symm⟩
  · rw [dif_neg q] at e
    cases e
/-- the law's keys, read as rows, can be sorted -/
theorem mk_sorts {kA : List Value} {rs : List Row} (e : EachIs (fun u r => ∃ as, Reads s.heap u (mkD r) as) kA rs) (hu : A.units + 100 < cLine) : ∃ g, SortsAt prog w A s (mkKind g) kA ∧ EachIs (fun u r => g u = some (keyToks (keyR r))) kA rs := by
  refine ⟨mkG s.heap rs, ⟨fun v hv => ?_, oneType', fun E x y a b Q ha hb hq => ?_, fun h2 E Q hq => ?_⟩, ?_⟩
  · obtain ⟨r, hr, as, ra⟩ := e.left v hv
    exact ⟨_, mkG_some hr ra⟩
  · obtain ⟨r, as, hr, ra, rfl⟩ := mkG_inv ha
    obtain ⟨r', as', hr', rb, rfl⟩ := mkG_inv hb
    rw [keyLt'_oneType]
    exact mk_one ra rb hu hq
  · refine kas_kind (T := Value.type "list") h2 (fun v hv => ?_) (by decide) (beq_self_eq_true _) hq
    obtain ⟨r, hr, as, ra⟩ := e.left v hv
    exact looks_reads ra
  · have key : ∀ (us : List Value) (ts : List Row), EachIs (fun u r => ∃ as, Reads s.heap u (mkD r) as) us ts → (∀ r ∈ ts, r ∈ rs) → EachIs (fun u r => mkG s.heap rs u = some (keyToks (keyR r))) us ts := by
      intro us ts h
      induction h with
      | nil => exact fun _ => .nil
      | cons a b ih =>
        intro hm
        obtain ⟨as, ra⟩ := a
        exact .cons (mkG_some (hm _ (List.mem_cons_self ..)) ra) (ih fun r hr => hm r (List.mem_cons_of_mem _ hr))
    exact key kA rs e fun _ h => h
end
end Fq

/-! FqLa: a lambda of plain parameters as a key: it is made, it is called. -/
namespace Fq
open PySem PySem.Spec PyProof.Rows L2 Evl LamX NdefX
open RZ
/-- the lambda's object at f -/
def LamO (f : Addr) (q : Str) (params : Arguments) (body : Expr) (scope : Scope) (c' : Addr) : HO := .ext fun h => ∃ pm ctv : Value, h.get? f = some (PySem.W.kla_obj "<lambda>" q params body scope [] pm c' ctv)
theorem clo_none {cells : List (Str × Addr)} : ∀ {names : List (Str × NameKind)} {acc : List (Str × Addr)}, (∀ y ∈ names, y.2 ≠ .free) → cloFrom cells names acc = acc
  | [], _, _ => rfl
  | (n, k) :: r, acc, h => by
    have hk : (k == NameKind.free) = false := by
      have := h (n, k) (List.mem_cons_self ..)
      cases k <;> first | rfl | exact absurd rfl this
    rw [cloFrom, hk]
    exact clo_none fun y hy => h y (List.mem_cons_of_mem _ hy)
section
variable {X : Cx} {pins : List (Addr × Obj)} {σ : L2.St} {H : Hp} {s : Shared}
theorem inv_lam {q : Str} {params : Arguments} {body : Expr} {scope : Scope} {c' : Addr} {pm ctv : Value} (t' : Nat) (I : Inv X pins σ H s) :
    Inv X pins σ (upd H s.heap.objs.size (LamO s.heap.objs.size q params body scope c')) { s with heap := s.heap.push (PySem.W.kla_obj "<lambda>" q params body scope [] pm c' ctv), toks := t' } := by
  have at_ := Heap.get?_push_size s.heap (o := PySem.W.kla_obj "<lambda>" q params body scope [] pm c' ctv) rfl
  exact I.laid (a := s.heap.objs.size) (fun b u e => Heap.get?_push_of_some _ e) (Nat.le_refl _) ⟨⟨pm, ctv, at_⟩, ⟨_, at_⟩, fun h1 h2 ⟨p, t, z⟩ st => ⟨p, t, st _ z⟩⟩
/-- it is made; all but the table at P stays as it was -/
theorem lam_mk {c P : Addr} {q : Str} {params : Arguments} {body : Expr} {scope : Scope} {pos : Pos} {E : Value → Shared → Prop} {Q : Value → Shared → Prop} (I : Inv X pins σ H s) (TB : TabB X.base X.mg c P) (hcode : X.env.code = .ref c) (hq : X.env.qual ++ "<lambda>" = q)
    (hT : TabS H P q) (hdef : defaultsOf params X.env = ([], [])) (hfr : ∀ y ∈ scope.names, y.2 ≠ .free)
    (h : ∀ (f c' : Addr) (H1 : Hp) (s' : Shared), Inv X pins σ H1 s' → (∀ b o, b ≠ P → H b = some o → H1 b = some o) → TabS H1 P q → H1 f = some (LamO f q params body scope c') → H1 c' = some (CodeO c' q) → Q (.ref f) s') :
    wpAny (model X.prog X.w) X.A (eval (.Lambda params body scope pos) X.env) Q E s := by
  obtain ⟨ps, hP, ht, ha⟩ := hT
  refine PySem.W.kla_eval hdef ?_
  rw [hq]
  have cl : closureFor scope X.env = pure [] := by
    have := closure_ok (env := X.env) (scope := scope) fun y hy e => absurd e (hfr y hy)
    rw [clo_none hfr] at this
    exact this
  have glob := I.mod.glob.keeps I.bk
  have bP := TB.bm.keeps I.bk
  have cd := TB.code.keeps I.bk
  cases hc : codeAmong pos ps.toList with
  | some cv =>
    obtain ⟨c', e, hco⟩ := ha pos cv hc
    subst e
    refine PySem.W.kla_makeFunctionHit cl I.ok.glob glob hcode cd (I.hok P _ hP) ht hc bP fun ctv h' tk hx hsz => ?_
    have J : Inv X pins σ H { s with heap := h', toks := tk } := I.kept hx
    have nF : H h'.objs.size = none := J.hok.fresh (Nat.le_refl _)
    have st : ∀ b o, H b = some o → upd H h'.objs.size (LamO h'.objs.size q params body scope c') b = some o := fun b o e => by
      rw [upd_ne (ne_of_none e nF)]
      exact e
    exact h _ c' _ _ (inv_lam tk J) (fun b o _ e => st b o e) (TabS.ext ⟨ps, hP, ht, ha⟩ st) upd_same (st _ _ hco)
  | none =>
    refine PySem.W.kla_makeFunction cl I.ok.glob glob hcode cd (I.hok P _ hP) ht hc TB.gP bP fun c' ctv h' tk hx hge hlt hrec htb => ?_
    obtain ⟨c2, oc, vs, t, e2, hoc, hd, hv⟩ := hrec
    cases e2
    have nC : H c' = none := I.hok.fresh hge
    have J := inv_table (q := q) (t' := tk) (more := #[rawInt pos.line, rawInt pos.col, .ref c']) I hP (fun b o hb e => hx b o hb e) htb hge ⟨oc, vs, t, hoc, hd, hv⟩
    have st1 : ∀ b o, b ≠ P → H b = some o → upd (upd H P (.tbl (ps ++ #[rawInt pos.line, rawInt pos.col, .ref c']))) c' (CodeO c' q) b = some o := fun b o hb e => by
      rw [upd_ne (ne_of_none e nC), upd_ne hb]
      exact e
    have at1 : upd (upd H P (.tbl (ps ++ #[rawInt pos.line, rawInt pos.col, .ref c']))) c' (CodeO c' q) P = some (.tbl (ps ++ #[rawInt pos.line, rawInt pos.col, .ref c'])) := by rw [upd_ne (ne_of_none hP nC), upd_same]
    have T1 : TabS (upd (upd H P (.tbl (ps ++ #[rawInt pos.line, rawInt pos.col, .ref c']))) c' (CodeO c' q)) P q := by
      have el : (ps ++ #[rawInt pos.line, rawInt pos.col, .ref c']).toList = ps.toList ++ [rawInt pos.line, rawInt pos.col, .ref c'] := by simp
      refine ⟨_, at1, by rw [el]; exact PySem.TriplesOk_snoc _ _ _ _ ht, fun p' cv z => ?_⟩
      rw [el] at z
      rcases among_app _ ht z with z | z
      · obtain ⟨c0, e1, e2⟩ := ha p' cv z
        exact ⟨c0, e1, st1 _ _ (fun w => by rw [w, hP] at e2; exact codeO_ne ps (Option.some.inj e2).symm) e2⟩
      · exact ⟨c', z, upd_same⟩
    have cd1 : upd (upd H P (.tbl (ps ++ #[rawInt pos.line, rawInt pos.col, .ref c']))) c' (CodeO c' q) c' = some (CodeO c' q) := upd_same
    generalize upd (upd H P (.tbl (ps ++ #[rawInt pos.line, rawInt pos.col, .ref c']))) c' (CodeO c' q) = H1 at J st1 T1 cd1
    have nF : H1 h'.objs.size = none := J.hok.fresh (Nat.le_refl _)
    have st : ∀ b o, H1 b = some o → upd H1 h'.objs.size (LamO h'.objs.size q params body scope c') b = some o := fun b o e => by
      rw [upd_ne (ne_of_none e nF)]
      exact e
    exact h _ c' _ _ (inv_lam tk J) (fun b o hb e => st b o (st1 b o hb e)) (T1.ext st) upd_same (st _ _ cd1)
/-- it is called -/
theorem lam_run {Pr : Program} {w : World} {K : PySem.W.Frag} {mg : Str → Option Value} {base : Heap} {k : Nat} {f c' : Addr} {q : Str} {params : Arguments} {body : Expr} {scope : Scope} {N ps : List Str} {A : Around} {outer : List Env} {us : List Value} {vs : List V} {Q : VK} (S : NScope N ps [] scope)
    (hb : ∀ (pm ctv : Value) (us : List Value), us.length = ps.length → bindArgs (PySem.W.kla_fn "<lambda>" q params body scope [] pm (.ref c') ctv) ⟨us, []⟩ = pure (ps.zip us)) (hr : Room (k + 1) A) (e0 : Env0 Pr w K mg base A outer s H) (hf : H f = some (LamO f q params body scope c')) (hc : H c' = some (CodeO c' q)) (r : Vals vs us) (hl : vs.length = ps.length)
    (h : EX ⟨Pr, w, K, mg, base, N, scope, k, fun _ => false, fun _ => True⟩ body (startF N vs []) H Q) : codeAny (model Pr w) A (.call (.ref f) ⟨us, []⟩) (CR CX0 outer Pr w H s Q E0) s := by
  obtain ⟨⟨pm, ctv, ho⟩, _, _⟩ := e0.hok f _ hf
  have lim : s.heap.NoLimit := e0.mod.nolimit.keeps fun b o e => (e0.bs b o e).1
  refine PySem.W.kla_callFunE hr.depth ho rfl S.co S.gen rfl (codeO_at e0.hok hc) ?_
  rw [hb pm ctv us (by rw [← r.length]; exact hl)]
  refine wpAny_pure (wpAny_newFunctionEnv S.nocell (fun ⟨n, _⟩ hy => S.par n (List.of_mem_zip hy).1) (fun h₁ hns hsb => ⟨lim.fresh _ hsb, ?_⟩) S.kind)
  have kp : ∀ b o, s.heap.get? b = some o → h₁.get? b = some o := fun b o e => hsb.extBut b o (Nat.ne_of_lt (Heap.lt_size e)) (Heap.get?_push_of_some _ e)
  have J : Inv (ncx CX0 Pr w K mg base N ⟨"<lambda>", q, params, [], scope, [], c'⟩ f A outer s H E0) [] (startF N vs []) H { s with heap := h₁, toks := s.toks + (ps.zip us).length } :=
    inv_startN S hr.hd e0 hl r ⟨rfl, fun y c e => (by cases e), fun x y c e => (by cases e), fun i y e => (by cases e)⟩ hns kp
  have ok : XOk ⟨Pr, w, K, mg, base, N, scope, k, fun _ => false, fun _ => True⟩ (ncx CX0 Pr w K mg base N ⟨"<lambda>", q, params, [], scope, [], c'⟩ f A outer s H E0).nox :=
    ⟨rfl, rfl, rfl, rfl, rfl, rfl, S.nd, rfl, rfl, hr.deeper _, rfl, fun _ z => (by cases z), trivial⟩
  show codeAny _ _ (.expr body (envF ⟨"<lambda>", q, params, [], scope, [], c'⟩ f s.heap.objs.size)) _ _
  refine PySem.W.kla_codeExpr (wpAny_mono ((PE.nox (EX.pe ok)).run [] _ _ H Q J h) (fun v s' hq => ?_) fun e s' hq => hq)
  obtain ⟨w', H', J', rv, q'⟩ := hq
  exact ⟨w', H', J'.os, J'.bare, J'.base, J'.hok, rv, q'⟩
/-- .. as a key -/
theorem lam_turn {i : XI} {A0 : Hp} {f c' : Addr} {q : Str} {params : Arguments} {body : Expr} {scope : Scope} {N : List Str} {x : Str} {key : PyData → PyData} {d : PyData} (ok : XOk i X) (S : NScope N [x] [] scope)
    (hb : ∀ (pm ctv : Value) (us : List Value), us.length = 1 → bindArgs (PySem.W.kla_fn "<lambda>" q params body scope [] pm (.ref c') ctv) ⟨us, []⟩ = pure ([x].zip us)) (hk : 2 ≤ i.k) (hf : A0 f = some (LamO f q params body scope c')) (hc : A0 c' = some (CodeO c' q))
    (h : EE ⟨i.P, i.w, i.K, i.mg, i.base, N, scope, 0, fun _ => false, fun _ => True⟩ body (some (.py d) :: List.replicate (N.length - 1) none) fun z => z = .py (key d)) : KeyTurn A0 X (.ref f) key d := fun pins σ s Hf H v u I eA ex r ru => by
  have hr : Room 1 X.A.in1.in1 := room2 (ok.room.mono hk)
  have h' := h (startF N [v] []) Hf H (fun z H2 => ∃ Hf2, Tr Hf H Hf2 H2 ∧ Dp X.K Hf2 z (key d)) ?_ ex (fun z d' Hf' H' t r' e' => ?_)
  · rw [← ok.prog, ← ok.w, ← ok.K, ← ok.mg, ← ok.base] at h'
    refine wpAny_call (codeAny_mono (lam_run S hb hr I.env0.in1.in1 (eA _ _ hf) (eA _ _ hc) (.cons ru .nil) rfl h') fun q s' hq => ?_)
    match q, hq with
    | .error _, hq => exact False.elim hq
    | .ok (.ret u), hq => exact I.after hq
    | .ok .next, hq => exact False.elim hq
    | .ok .brk, hq => exact False.elim hq
    | .ok .cont, hq => exact False.elim hq
  · have e : startF N [v] [] = some v :: List.replicate (N.length - 1) none := rfl
    rw [e]
    have := RpE.of_args (K := i.K) (H := Hf) (vs := [v]) (ds := [.py d]) (N.length - 1) (.cons (rpy (by rw [← ok.K]; exact r)) .nil)
    exact this
  · subst e'
    exact ⟨Hf', t, by rw [ok.K]; exact r'⟩
end
/-! ### a heap of which the table at P grows -/
structure TbA (P : Addr) (q : Str) (Hf H : Hp) : Prop where
  n : Hf P = none
  t : TabS H P q
theorem TbA.step {P : Addr} {q : Str} {Hf H Hf' H' : Hp} (b : TbA P q Hf H) (t : Tr Hf H Hf' H') : TbA P q Hf' H' := by
  obtain ⟨ps, h1, _⟩ := b.t
  exact ⟨t.n P _ h1 b.n, b.t.ext fun b o e => t.h b o e⟩
structure TrN (P : Addr) (q : Str) (Hf H Hf' H' : Hp) : Prop where
  f : Ex Hf Hf'
  i : Ex Hf' H'
  h : ∀ b o, b ≠ P → H b = some o → H' b = some o
  n : ∀ p o, H p = some o → Hf p = none → Hf' p = none
  t : TbA P q Hf' H'
theorem TrN.then {P : Addr} {q : Str} {A0 H0 A1 H1 A2 H2 : Hp} (a : TrN P q A0 H0 A1 H1) (b : Tr A1 H1 A2 H2) : TrN P q A0 H0 A2 H2 := by
  have tb := a.t.step b
  refine ⟨a.f.trans b.f, b.i, fun x o hx e => b.h x o (a.h x o hx e), fun p o h1 h2 => ?_, tb⟩
  by_cases hp : p = P
  · rw [hp]
    exact tb.n
  · exact b.n p o (a.h p o hp h1) (a.n p o h1 h2)
theorem TrN.front {P : Addr} {q : Str} {A0 H0 A1 H1 A2 H2 : Hp} (a : Tr A0 H0 A1 H1) (b : TrN P q A1 H1 A2 H2) : TrN P q A0 H0 A2 H2 :=
  ⟨a.f.trans b.f, b.i, fun x o hx e => b.h x o hx (a.h x o e), fun p o h1 h2 => b.n p o (a.h p o h1) (a.n p o h1 h2), b.t⟩
section
variable {i : XI} {σ : L2.St} {H : Hp} {Q : VK} {e : Expr} {params : Arguments} {body : Expr} {scope : Scope} {pos lpos p kp : Pos} {cc tp : Addr} {q : Str}
theorem ex_lam (hcd : ∀ env, i.cd env → env.code = .ref cc ∧ env.qual ++ "<lambda>" = q) (TB : TabB i.base i.mg cc tp) (hdef : ∀ env, defaultsOf params env = ([], [])) (hfr : ∀ y ∈ scope.names, y.2 ≠ .free) (hT : TabS H tp q)
    (h : ∀ (f c' : Addr) (H1 : Hp), (∀ b o, b ≠ tp → H b = some o → H1 b = some o) → TabS H1 tp q → H1 f = some (LamO f q params body scope c') → H1 c' = some (CodeO c' q) → Q (.ref f) H1) : EX i (.Lambda params body scope pos) σ H Q := by
  refine ⟨fun X ok pins s I => ?_⟩
  obtain ⟨h1, h2⟩ := hcd _ ok.cd
  exact lam_mk I (by rw [ok.base, ok.mg]; exact TB) h1 h2 hT (hdef _) hfr fun f c' H1 s' I' a b c d => ⟨.ref f, H1, I', rfl, h f c' H1 a b c d⟩
/-- a class of the builtins called with one thing -/
theorem ex_callTyD {x : Str} {T : String} {d : Dt} {Φ : Dt → Prop} (hm : i.mg x = none) (hv : bootBuiltins x = some (.type T)) (h : EX i e σ H fun v H1 => ∃ Hf1, Ex Hf1 H1 ∧ Rp i.K Hf1 v d ∧ CallD i (.type T) [d] Φ ∧ ∀ z d' Hf' H', Tr Hf1 H1 Hf' H' → Rp i.K Hf' z d' → Φ d' → Q z H') (hg : GlS i.sc x := by rfl) (hn : x ≠ "__name__" := by decide) (hdb : (x == ("__debug__" : Str)) = false := by decide)
    (he : ∀ env, starEach [e] env = (false, eval e env) :: starEach [] env := by intro _; rfl) (hpl : ∀ env, (backTo pos (starEach [] env)).any (·.1) = false := by intro _; rfl) : EX i (.Call (.Name x p) [e] [] pos) σ H Q :=
  ex_callTy (r := fun vs H2 Q2 => ∃ v Hf2, vs = [v] ∧ Ex Hf2 H2 ∧ Rp i.K Hf2 v d ∧ CallD i (.type T) [d] Φ ∧ ∀ z d' Hf' H', Tr Hf2 H2 Hf' H' → Rp i.K Hf' z d' → Φ d' → Q2 z H') (fun X ok pins s σ H2 vs us Q2 I rv ⟨v, Hf2, ev, e2, r2, c, q2⟩ => by
    subst ev
    exact c X ok pins s σ Hf2 H2 _ us Q2 I e2 (.cons r2 .nil) rv q2) hg hm hv
    (ax_cons (h.mono fun v H1 ⟨Hf1, a, b, c, d⟩ => ax_nil ⟨v, Hf1, rfl, a, b, c, d⟩) he) hn hdb he hpl
end
end Fq
/-! FqLs: rows, rising, each once. -/
namespace Fq
open PySem PySem.Spec PyProof.Rows L2 Evl LamX NdefX
open RZ
open PySem.W (EachIs SortsAt dataLe keyToks)
def mkRD : PyData → PyData
  | .tuple ds => .list (ds.map fun d => .tuple [.bool (match d with | .str _ => true | _ => false), d])
  | d => d
theorem mkRD_d (r : Row) : mkRD (rowD r) = mkD r := by
  unfold rowD mkD mkRD
  show PyData.list _ = PyData.list _
  rw [List.map_map]
  exact congrArg PyData.list (List.map_congr_left fun v _ => by cases v <;> rfl)
theorem each_rowD {α β γ : Type} {R : α → γ → Prop} (f : β → γ) : ∀ {as : List α} {bs : List β}, EachIs (fun a b => R a (f b)) as bs → EachIs R as (bs.map f)
  | [], [], _ => .nil
  | [], _ :: _, h => nomatch h
  | _ :: _, [], h => nomatch h
  | a :: as, b :: bs, h => by
    have t : R a (f b) ∧ EachIs (fun a b => R a (f b)) as bs := by
      cases h with
      | cons x y => exact ⟨x, y⟩
    exact .cons t.1 (each_rowD f t.2)
section
variable {i : XI} {σ : L2.St} {H : Hp} {Q : VK} {e : Expr} {params : Arguments} {body : Expr} {scope : Scope} {pos lpos p kp : Pos} {cc tp : Addr} {q : Str} {N : List Str} {x : Str}
theorem ex_sortLam (hm : i.mg "sorted" = none) (hk : 2 ≤ i.k) (hcd : ∀ env, i.cd env → env.code = .ref cc ∧ env.qual ++ "<lambda>" = q) (TB : TabB i.base i.mg cc tp) (hdef : ∀ env, defaultsOf params env = ([], [])) (hfr : ∀ y ∈ scope.names, y.2 ≠ .free) (S : NScope N [x] [] scope)
    (hb : ∀ (c' : Addr) (pm ctv : Value) (us : List Value), us.length = 1 → bindArgs (PySem.W.kla_fn "<lambda>" q params body scope [] pm (.ref c') ctv) ⟨us, []⟩ = pure ([x].zip us)) (hbody : ∀ r : Row, r.length ≤ 1000 → EE ⟨i.P, i.w, i.K, i.mg, i.base, N, scope, 0, fun _ => false, fun _ => True⟩ body (some (.py (rowD r)) :: List.replicate (N.length - 1) none) fun z => z = .py (mkD r))
    (h : EX i e σ H fun x H1 => ∃ a ws rows Hf1, x = .ref a ∧ Ex Hf1 H1 ∧ SqL i.K Hf1 a ws ∧ DpAll i.K Hf1 ws (rows.map rowD) ∧ TbA tp q Hf1 H1 ∧ rows.length ≤ 1000 ∧ (∀ r ∈ rows, r.length ≤ 1000) ∧ ∀ p Hf' H', TrN tp q Hf1 H1 Hf' H' → Dp i.K Hf' (.ref p) (.list ((sortB rLt rows).map rowD)) → Q (.ref p) H')
    (hg : GlS i.sc "sorted" := by rfl) (he : ∀ env, backTo pos (starEach [e] env) = (false, eval e env) :: backTo pos (starEach [] env) := by intro _; rfl) (he1 : ∀ env, starEach [e] env = (false, eval e env) :: starEach [] env := by intro _; rfl) (hpl : ∀ env, (backTo pos (starEach [e] env)).any (·.1) = false := by intro _; rfl)
    (hall : ∀ env, (backToKw pos (keywordEach [⟨some "key", .Lambda params body scope lpos, kp⟩] env)).all (·.1.isSome) = true := by intro _; rfl) (hnone : ∀ env, (backToKw pos (keywordEach [⟨some "key", .Lambda params body scope lpos, kp⟩] env)).any (·.1.isNone) = false := by intro _; rfl)
    (hks : ∀ env, (backToKw pos (keywordEach [⟨some "key", .Lambda params body scope lpos, kp⟩] env)).filterMap (·.1) = [Str.ofString "key"] := by intro _; rfl) : EX i (.Call (.Name "sorted" p) [e] [⟨some "key", .Lambda params body scope lpos, kp⟩] pos) σ H Q := by
  refine ⟨fun X ok pins s I => ?_⟩
  have hc : CallRK X (.builtin "sorted") [Str.ofString "key"] (fun vs zs H2 Q2 => ∃ a f c' ws rows Hf2, vs = [V.ref a] ∧ zs = [V.ref f] ∧ Ex Hf2 H2 ∧ SqL X.K Hf2 a ws ∧ DpAll X.K Hf2 ws (rows.map rowD) ∧ H2 f = some (LamO f q params body scope c') ∧ H2 c' = some (CodeO c' q) ∧ rows.length ≤ 1000 ∧ (∀ r ∈ rows, r.length ≤ 1000) ∧ ∀ p Hf' H', Tr Hf2 H2 Hf' H' → Dp X.K Hf' (.ref p) (.list ((sortB rLt rows).map rowD)) → Q2 (.ref p) H') := by
    intro pins s σ H2 vs zs us ws' Q2 I2 rv rz hr
    obtain ⟨a, f, c', ws, rows, Hf2, rfl, rfl, e2, h1, d1, hf, hc, hz, hr, q2⟩ := hr
    obtain rfl := Vals.ref1 rv
    obtain ⟨w1, rfl, e1⟩ := vals1 rz
    obtain rfl : w1 = Value.ref f := e1
    refine sorted_run (key := mkRD) (kz := fun d => keyToks (keyRD d)) I2 e2 (.inl h1) d1 (by rw [List.length_map]; omega) (fun d hd => ?_) (fun s' H' Hf' ks kA I' e' rk da => ?_) fun p Hf' H' t d => ?_
    · obtain ⟨r, h2, rfl⟩ := List.mem_map.mp hd
      refine lam_turn (params := params) (body := body) (scope := scope) (q := q) (c' := c') ok S (hb c') hk hf hc ?_
      rw [mkRD_d]
      exact hbody r (hr r h2)
    · rw [List.map_map, show mkRD ∘ rowD = mkD from funext mkRD_d] at da
      obtain ⟨as, ra⟩ := Dp.readsAll I' _ _ _ (dpAll_mono e' da) rk
      have er := PySem.W.readsAll_each (h := s'.heap) mkD ra
      obtain ⟨g, hs, eg⟩ := mk_sorts (prog := X.prog) (w := X.w) (A := X.A.in1.in1) er (by
        have h2 := ok.room.un
        show X.A.units + 1 + 1 + 100 < cLine
        omega)
      refine ⟨g, hs, each_rowD rowD ?_⟩
      have : (fun (u : Value) (r : Row) => g u = some (keyToks (keyRD (rowD r)))) = fun u r => g u = some (keyToks (keyR r)) := by
        funext u r
        rw [keyRD_d]
      rw [this]
      exact eg
    · have d' : Dp X.K Hf' (.ref p) (.list ((rows.map rowD).mergeSort (dataLe false keyRD))) := d
      rw [sort_data keyRD_d] at d'
      exact q2 p Hf' H' t d'
  refine (pe_callBK hc (ok.gl hg) (ok.mgN hm) (by decide +kernel) (AX.pa (i := i) ok) (KX.pk (i := i) ok) (by decide) (by decide) (he _) (hpl _) (hall _) (hnone _) (hks _)).run pins s σ H Q I ?_
  refine ax_cons (h.mono fun v H1 ⟨a, ws, rows, Hf1, ev, ex, h1, d1, tb, hz, hr, q1⟩ => ax_nil ?_) he1
  subst ev
  refine kx_cons (ex_lam hcd TB hdef hfr tb.t fun f c' H2 k1 k2 k3 k4 => kx_nil ?_)
  have t0 : TrN tp q Hf1 H1 Hf1 H2 := ⟨Ex.refl _, fun b o eb => k1 b o (fun z => by rw [z, tb.n] at eb; cases eb) (ex b o eb), k1, fun _ _ _ z => z, tb.n, k2⟩
  exact ⟨a, f, c', ws, rows, Hf1, rfl, rfl, t0.i, by rw [ok.K]; exact h1, by rw [ok.K]; exact d1, k3, k4, hz, hr, fun p Hf' H' t d => q1 p Hf' H' (t0.then t) (by rw [← ok.K]; exact d)⟩
end
/-! ### the def -/
section
variable {P : Program} {w : World} {K : PySem.W.Frag} {mg : Str → Option Value} {base : Heap}
/-- what is known of the frame of a def that makes a lambda -/
def lamEv (cc : Addr) (q : Str) (env : Env) : Prop := env.code = .ref cc ∧ env.qual ++ "<lambda>" = q
theorem fn_goC {x qual : Str} {params : Arguments} {body : List Stmt} {sc : Scope} {dvs : List V} {kws : List (Str × V)} {f : Addr} {fd : FuncData} {N ps : List Str} {k : Nat} {sp : Sp} {cc : Addr} (F : FunD K x qual params body sc dvs kws f fd) (Sc : FnScope N ps sc) (hcc : fd.code = .ref cc) (len : ∀ vs H Q E, sp vs H Q E → vs.length = ps.length)
    (h : ∀ vs H Q E, sp vs H Q E → GO ⟨P, w, K, mg, base, N, sc, k, fun _ => true, lamEv cc (qual ++ ".<locals>." ++ "<lambda>")⟩ body { nx := fun _ H' => Q .non H', rt := Q } (L2.start N vs) H) : FnOk P w K mg base CX0 (k + 1) f fd ps sp := by
  obtain ⟨oc, od, dV, kV, doc, pm, an, cdv, ct, osl, rfl, lk, hcd, _, _⟩ := F.ex
  refine fn_of lk hcd Sc len fun A outer s H vs Q E hr hsp => ⟨_, PSs.nox (GO.pss ?_), h vs H Q E hsp⟩
  exact ⟨rfl, rfl, rfl, rfl, rfl, rfl, Sc.nd, rfl, rfl, hr, rfl, fun _ _ => rfl, hcc, rfl⟩
/-- what stands with the head's heap: a def's code object and its table -/
structure LamAt (K : PySem.W.Frag) (mg : Str → Option Value) (base : Heap) (cc tp : Addr) : Prop where
  b : TabB base mg cc tp
  k : K.In base
  g : base.Ns mainGlobals mg
  t : PySem.W.tabIn K "_law_sorted" = some (cc, tp)
abbrev qLam : Str := "_law_sorted" ++ ".<locals>." ++ "<lambda>"
def sp_sorted (K : PySem.W.Frag) (tp : Addr) : Sp := fun vs H Q _ => ∃ (a : Addr) (Hf : Hp) (rows : List Row), vs = [V.ref a] ∧ Ex Hf H ∧ Dp K Hf (.ref a) (.list (rows.map rowD)) ∧ rows.length ≤ 1000 ∧ (∀ r ∈ rows, r.length ≤ 1000) ∧ TbA tp qLam Hf H ∧
  ∀ (v : V) (Hf' H' : Hp) (out : List Row), TrN tp qLam Hf H Hf' H' → Dp K Hf' v (.tuple (out.map rowD)) → RiseR out → out.length ≤ rows.length → (∀ r ∈ out, r ∈ rows) → Q v H'
theorem p_law_sorted {cc tp : Addr} (H : Hd K mg) (L : LamAt K mg base cc tp) : Pg P w K mg base "_law_sorted" 3 ["_law_rows"] (sp_sorted K tp) := by
  obtain ⟨fd, F⟩ := H.c.def_ 84 (d := d_law_sorted) (by kernel_rfl)
  have ef : He.fAd K d_law_sorted.at_ = He.ga K "_law_sorted" := rfl
  have hm : mg "_law_sorted" = some (.ref (He.ga K "_law_sorted")) := H.glo (j := 69) (by kernel_rfl)
  have hcc : fd.code = .ref cc := by
    obtain ⟨oc, od, dV, kV, doc, pm, an, cdv, ct, osl, e, lk, hcd, _, _⟩ := F.ex
    rw [ef] at lk
    exact PySem.W.law_code L.k L.g L.t hm (L.k _ _ lk) rfl
  refine ⟨He.ga K "_law_sorted", fd, ?_, hm, by rw [← ef]; exact F.kp, ?_⟩
  · rw [← ef]
    refine fn_goC F sc_law_sorted hcc (fun vs H Q E h => by obtain ⟨a, _, _, rfl, _⟩ := h; rfl) fun vs H0 Q E h => ?_
    obtain ⟨a, Hf, rows, rfl, ex, dR, hz, hr, tb, qq⟩ := h
    have ρ0 : RpE K Hf (L2.start N_law_sorted [V.ref a]) [some (.py (.list (rows.map rowD))), none, none, none] := RpE.of_args (vs := [V.ref a]) (ds := [.py (.list (rows.map rowD))]) 3 (.cons (rpy dR) .nil)
    refine go_set 1 (ex_lst (ax_nil ⟨Nat.zero_le _, fun D hD => ?_⟩))
    have hDf : Hf D = none := fresh_back ex hD
    have ρ1 : RpE K Hf ((L2.start N_law_sorted [V.ref a]).set 1 (some (.ref D))) [some (.py (.list (rows.map rowD))), some (refDt D), none, none] := ρ0.set (j := 1) (v := .ref D) (d := refDt D) rfl
    refine gm_for [2] wx_list (gx_name 2) ρ1 (Tr.drop ex hD).i (es_list (Ψ := fun its => its = rows.map fun r => .py (rowD r)) (ee_var 0 rfl ⟨_, rfl, by rw [List.map_map]; rfl⟩)) fun its Hf1 H1 t1 eits => ?_
    subst eits
    refine ⟨[some (.py (.list (rows.map rowD))), some (refDt D), none, none], fun j Hx Hy => ∃ once : List Row, once.Nodup ∧ once.length ≤ j ∧ (∀ r ∈ once, r ∈ rows) ∧ LGrow K Hf H0 D (once.map rowD) Hx Hy, ρ1.mono t1.f, ⟨[], List.nodup_nil, Nat.le_refl _, (fun _ h => nomatch h), (LGrow.new ex hD).step t1⟩, (fun j _ _ _ _ hx t => by obtain ⟨vs, a, b, c, h⟩ := hx; exact ⟨vs, a, b, c, h.step t⟩), fun j d hd => ?_, fun σ2 Hf2 H2 e1 e2 r2 hx => ?_⟩
    · rw [List.getElem?_map] at hd
      obtain ⟨r, hr', rfl⟩ := Option.map_eq_some_iff.mp hd
      have hjr : j < rows.length := (List.getElem?_eq_some_iff.mp hr').1
      have hmem := List.mem_of_getElem? hr'
      refine ⟨[some (.py (.list (rows.map rowD))), some (refDt D), some (.py (rowD r)), none], gd_name 2, fun σ2 Hf2 H2 e1 e2 r2 hx => ?_⟩
      obtain ⟨once, nd, hl, sub, g⟩ := hx
      refine gm_ifA (Φ := fun b => b = !decide (r ∈ once)) 1 r2 rfl g (et_cmp (ee_var 2 rfl (ee_var 1 rfl (od_niL (row_pl r) (rows_plain once) ⟨_, rfl, by rw [rows_any]⟩))) (hm := rfl)) fun b H3 t3 eb => ?_
      · subst eb
        by_cases hin : r ∈ once
        · rw [decide_eq_true hin]
          exact iteF (go_nil (go_nil ⟨Hf2, e1, t3.i, r2.sub (by repeat (first | exact sub_nil | refine sub_same ?_ | refine sub_drop ?_)), once, nd, by omega, sub, g.step t3⟩))
        · rw [decide_eq_false hin]
          refine iteT (gm_append (z := rowD r) 1 r2 rfl (g.step t3) hD (by rw [List.length_map]; omega) (ee_var 2 rfl rfl) fun Hf4 H4 e4 e5 r4 I4 => go_nil (go_nil ⟨Hf4, e1.trans e4, e5, r4.sub (by repeat (first | exact sub_nil | refine sub_same ?_ | refine sub_drop ?_)), once ++ [r], ?_, ?_, ?_, ?_⟩))
          · exact List.nodup_append.mpr ⟨nd, List.nodup_cons.mpr ⟨(fun h => nomatch h), List.nodup_nil⟩, fun x hx y hy => by
              rw [List.mem_singleton.mp hy]
              exact fun z => hin (z ▸ hx)⟩
          · rw [List.length_append, List.length_singleton]
            omega
          · intro x hx
            rcases List.mem_append.mp hx with hx | hx
            · exact sub x hx
            · rw [List.mem_singleton.mp hx]
              exact hmem
          · rw [List.map_append]
            exact I4
    · obtain ⟨once, nd, hl, sub, g⟩ := hx
      rw [List.length_map] at hl
      obtain ⟨Hf3, t3, e3, dD⟩ := g.done hD
      obtain ⟨D', ws, eD, hS, dW⟩ := dp_lst dD
      cases eD
      refine go_ret (ex_callTyD (d := .py (.list ((sortB rLt once).map rowD))) (Φ := fun z => z = .py (.tuple ((sortB rLt once).map rowD))) (fr_tuple H) boot_tuple (ex_sortLam (N := ["_law_row", "_law_v"]) (x := "_law_row") (q := qLam) (fr_sorted H) (by show 2 ≤ 2; decide) (fun env z => z) L.b (fun _ => rfl) (by decide) (nscope_by (by decide +kernel)) (fun c' pm ctv us hl => match us, hl with | [_], _ => rfl) (fun r hr => ?_) (ex_var 1 (r2.ref rfl) ⟨D, ws, once, Hf3, rfl, t3.i, hS, dW, tb.step t3, by omega, fun r h => hr r (sub r h), fun p Hf4 H4 t4 d4 => ⟨Hf4, t4.i, rpy d4, ld_tuple rfl, fun z d' Hf5 H5 t5 r5 e5 => ?_⟩⟩)))
      · refine ee_lcF [("_law_v", 1)] wx_tup (gx_name 1) (es_tup (ee_var 0 rfl ⟨_, rfl, Vl, fun v => .py v.d, r, fun _ => true, pkD, by rw [List.map_map]; rfl, vlD_inj, by omega, fun v hv => ?_, ?_⟩))
        · refine ⟨_, gd_name 1, ei_nil rfl, fun _ => ?_⟩
          refine ee_tup (ea_cons (ee_isi (T := "str") (fr_isinstance H) (fr_str H) boot_str kit_str (ee_var 1 rfl ⟨_, rfl, ?_⟩)))
          cases v with
          | n m => exact ea_cons (ee_var 1 rfl (ea_nil ⟨_, .cons (.cons .nil), Nat.le_of_ble_eq_true rfl, rfl⟩))
          | w m => exact ea_cons (ee_var 1 rfl (ea_nil ⟨_, .cons (.cons .nil), Nat.le_of_ble_eq_true rfl, rfl⟩))
        · rw [filter_yes]
          rfl
      · subst e5
        refine qq z Hf5 H5 (sortB rLt once) ?_ r5 (sortB_lt rLt_so nd) ?_ fun r h => sub r ((sortB_perm _).mem_iff.mp h)
        · exact TrN.front t3 (t4.then t5)
        · rw [(sortB_perm once).length_eq]
          exact hl
  · exact binds_pl F sc_law_sorted ⟨rfl, rfl, by kernel_rfl, by kernel_rfl, by kernel_rfl, by kernel_rfl, by kernel_rfl⟩
end
end Fq
/-! FqBo: the books. -/
namespace Fq
open PySem PySem.Spec PyProof.Rows L2 Evl LamX NdefX
open RZ
/-- a heap in which the things of B alone may be written -/
structure TrB (B : Addr → Prop) (Hf H Hf' H' : Hp) : Prop where
  f : Ex Hf Hf'
  i : Ex Hf' H'
  h : ∀ b o, ¬ B b → H b = some o → H' b = some o
  n : ∀ p o, ¬ B p → H p = some o → Hf p = none → Hf' p = none
theorem Tr.toB {B : Addr → Prop} {Hf H Hf' H' : Hp} (t : Tr Hf H Hf' H') : TrB B Hf H Hf' H' := ⟨t.f, t.i, fun b o _ e => t.h b o e, fun p o _ a b => t.n p o a b⟩
theorem TrN.toB {P : Addr} {q : Str} {Hf H Hf' H' : Hp} (t : TrN P q Hf H Hf' H') : TrB (fun b => b = P) Hf H Hf' H' := ⟨t.f, t.i, fun b o hb e => t.h b o hb e, fun p o _ a b => t.n p o a b⟩
/-- a list of ours that stands apart from what stands for good -/
def GL (K : PySem.W.Frag) (D : Addr) (zs : List PyData) (Hf H : Hp) : Prop := ∃ vs, Hf D = none ∧ H D = some (.lst vs) ∧ DpAll K Hf vs zs
theorem GL.stepB {K : PySem.W.Frag} {B : Addr → Prop} {D : Addr} {zs : List PyData} {Hf H Hf' H' : Hp} (g : GL K D zs Hf H) (t : TrB B Hf H Hf' H') (h : ¬ B D) : GL K D zs Hf' H' := by
  obtain ⟨vs, h1, h2, h3⟩ := g
  exact ⟨vs, t.n D _ h h2 h1, t.h D _ h h2, dpAll_mono t.f h3⟩
theorem GL.step {K : PySem.W.Frag} {D : Addr} {zs : List PyData} {Hf H Hf' H' : Hp} (g : GL K D zs Hf H) (t : Tr Hf H Hf' H') : GL K D zs Hf' H' := g.stepB (B := fun _ => False) t.toB id
theorem GL.ne {K : PySem.W.Frag} {D D' : Addr} {zs : List PyData} {Hf H : Hp} (g : GL K D zs Hf H) (h : H D' = none) : D ≠ D' := by
  obtain ⟨vs, _, h2, _⟩ := g
  exact ne_of_none h2 h
theorem GL.ne' {K : PySem.W.Frag} {D D' : Addr} {zs : List PyData} {Hf H : Hp} (g : GL K D zs Hf H) {q : Str} (h : TbA D' q Hf H) : D ≠ D' := by
  obtain ⟨vs, _, h2, _⟩ := g
  obtain ⟨ps, h3, _⟩ := h.t
  exact ne_of h2 h3 (fun z => by cases z)
/-- .. stands for good from now on -/
theorem GL.adopt {K : PySem.W.Frag} {D : Addr} {zs : List PyData} {Hf H : Hp} (g : GL K D zs Hf H) (ex : Ex Hf H) : ∃ Hf', TrB (fun b => b = D) Hf H Hf' H ∧ Dp K Hf' (.ref D) (.list zs) := by
  obtain ⟨vs, h1, h2, h3⟩ := g
  refine ⟨upd Hf D (.lst vs), ⟨Ex.new h1, fun a o ha => ?_, fun _ _ _ e => e, fun p o hp _ h => ?_⟩, dp_lst_new h3 h1⟩
  · by_cases e : a = D
    · subst e
      rw [upd_same] at ha
      rw [h2, ← ha]
    · rw [upd_ne e] at ha
      exact ex a o ha
  · rw [upd_ne hp]
    exact h
theorem TbA.stepB {P : Addr} {q : Str} {B : Addr → Prop} {Hf H Hf' H' : Hp} (b : TbA P q Hf H) (t : TrB B Hf H Hf' H') (h : ¬ B P) (hc : ∀ c, B c → ∀ φ, H c ≠ some (.ext φ)) : TbA P q Hf' H' := by
  obtain ⟨ps, h1, h2, h3⟩ := b.t
  refine ⟨t.n P _ h h1 b.n, ps, t.h P _ h h1, h2, fun pos cv z => ?_⟩
  obtain ⟨c, e1, e2⟩ := h3 pos cv z
  exact ⟨c, e1, t.h c _ (fun w => hc c w _ e2) e2⟩
theorem GL.noext {K : PySem.W.Frag} {D : Addr} {zs : List PyData} {Hf H : Hp} (g : GL K D zs Hf H) : ∀ c, c = D → ∀ φ, H c ≠ some (.ext φ) := fun c e φ z => by
  obtain ⟨vs, _, h2, _⟩ := g
  rw [e, h2] at z
  cases z
/-- the table stands while the list at D is written -/
theorem TbA.wr {K : PySem.W.Frag} {P D : Addr} {q : Str} {zs : List PyData} {Hf H Hf' H' : Hp} (b : TbA P q Hf H) (g : GL K D zs Hf H) (t : TrB (fun b => b = D) Hf H Hf' H') : TbA P q Hf' H' := b.stepB t (fun e => g.ne' b e.symm) g.noext
theorem GL.new {K : PySem.W.Frag} {D : Addr} {Hf H : Hp} (ex : Ex Hf H) (hD : H D = none) : GL K D [] Hf (upd H D (.lst [])) := ⟨[], fresh_back ex hD, upd_same, .nil⟩
theorem GL.push {K : PySem.W.Frag} {D : Addr} {zs : List PyData} {Hf H : Hp} {y : V} {z : PyData} (g : GL K D zs Hf H) (ex : Ex Hf H) (hy : Dp K Hf y z) :
    ∃ vs, H D = some (.lst vs) ∧ vs.length = zs.length ∧ TrB (fun b => b = D) Hf H Hf (upd H D (.lst (vs ++ [y]))) ∧ GL K D (zs ++ [z]) Hf (upd H D (.lst (vs ++ [y]))) := by
  obtain ⟨vs, h1, h2, h3⟩ := g
  refine ⟨vs, h2, dpAll_len h3, ⟨Ex.refl _, fun a o ha => ?_, fun b o hb e => ?_, fun _ _ _ _ h => h⟩, vs ++ [y], h1, upd_same, dpAll_app h3 (.cons hy .nil)⟩
  · rw [upd_ne (ne_of_none ha h1)]
    exact ex a o ha
  · rw [upd_ne hb]
    exact e
/-- more is known of a slot -/
theorem RpE.know {K : PySem.W.Frag} {H : Hp} {σ : L2.St} {ρ : En} {j : Nat} {v : V} {d : Dt} (h : RpE K H σ ρ) (hs : σ[j]? = some (some v)) (r : Rp K H v d) : RpE K H σ (ρ.set j (some d)) := by
  have r1 := h.set (j := j) r
  have es : σ.set j (some v) = σ := by
    obtain ⟨hl, e⟩ := List.getElem?_eq_some_iff.mp hs
    rw [← e]
    exact List.set_getElem_self hl
  rw [es] at r1
  exact r1
section
variable {i : XI} {ρ : En} {E : Ends} {σ : L2.St} {Hf H : Hp} {D : Addr} {zs : List PyData}
theorem gl_append {e : Expr} {x : Str} {pos p apos cpos : Pos} {rest : List Stmt} (W : PyData → Prop) (j : Nat) (hρ : RpE i.K Hf σ ρ) (ex : Ex Hf H) (hj : ρ[j]? = some (some (refDt D))) (g : GL i.K D zs Hf H) (hz : zs.length ≤ 100000)
    (h : EE i e ρ fun d => ∃ z, d = .py z ∧ W z) (q : ∀ z Hf1 H1, W z → TrB (fun b => b = D) Hf H Hf1 H1 → RpE i.K Hf1 σ ρ → GL i.K D (zs ++ [z]) Hf1 H1 → GO i rest E σ H1) (hN : i.N[j]? = some x := by rfl) (hv : Vis i.sc x := by first | exact Or.inl rfl | exact Or.inr (Or.inl rfl) | exact Or.inr (Or.inr rfl))
    (hd : (x == ("__debug__" : Str)) = false := by decide) (hcd : (x == ("__classdict__" : Str)) = false := by decide) (hbase : ∀ env, attributeBase (.Name x p) "append" env (eval (.Name x p) env) = eval (.Name x p) env := by intro _; rfl) (hs : ∀ env, starEach [e] env = (false, eval e env) :: starEach [] env := by intro _; rfl)
    (hsw : ∀ env, swapsWith (.Call (.Attribute (.Name x p) "append" apos) [e] [] cpos) none pos.line env = pure false := by intro _; rfl)
    (hfew : ∀ env, ((backTo cpos (starEach [e] env)).all (fun x => !x.1) && (backToKw cpos (keywordEach [] env)).all (fun x => x.1.isSome) && decide (([e] : List Expr).length + ([] : List Keyword).length + (if ([] : List Keyword).isEmpty then 0 else 1) < 30)) = true := by intro _; rfl)
    (hline : (apos.endLine == cpos.line) = true := by rfl) : GO i (.Expr (.Call (.Attribute (.Name x p) "append" apos) [e] [] cpos) pos :: rest) E σ H := by
  obtain ⟨vs, h2, h3, h4⟩ := g
  refine go_append (ex_var j (hρ.ref hj) ⟨D, rfl, ⟨vs, h3⟩, h σ Hf H _ hρ ex fun v d Hf1 H1 t1 r1 ed => ?_⟩ hN hv hd hcd) hbase hs hsw hfew hline
  obtain ⟨z, ed, wz⟩ := ed
  subst ed
  have nD := t1.n D _ h3 h2
  refine ⟨vs, t1.h D _ h3, ?_, q z Hf1 _ wz ⟨t1.f, fun a o ha => ?_, fun b o hb e => ?_, fun p o _ a b => t1.n p o a b⟩ (hρ.mono t1.f) ⟨vs ++ [v], nD, upd_same, dpAll_app (dpAll_mono t1.f h4) (.cons r1 .nil)⟩⟩
  · rw [dpAll_len h4, sizeLine_eq]
    omega
  · rw [upd_ne (ne_of_none ha nD)]
    exact t1.i a o ha
  · rw [upd_ne hb]
    exact t1.h b o e
end
section
variable {P : Program} {w : World} {K : PySem.W.Frag} {mg : Str → Option Value} {base : Heap}
abbrev bEn (K : PySem.W.Frag) (sc : Addr) (ns : List Int) (hs : List (Str × Nat)) (pool : List Vl) (a4 a5 a6 a7 a8 a9 : Option Dt) : En := [some (dwD K sc ns), some (.py (.list (hs.map hdD))), some (.py (.list (pool.map Vl.d))), some (.py (.int 3)), a4, a5, a6, a7, a8, a9, none, none]
def sp_books (K : PySem.W.Frag) (tp : Addr) : Sp := fun vs H Q _ => ∃ (Hf : Hp) (sc : Addr) (ns : List Int) (hs : List (Str × Nat)) (pool : List Vl), RpL K Hf vs [dwD K sc ns, .py (.list (hs.map hdD)), .py (.list (pool.map Vl.d)), .py (.int 3)] ∧ Ex Hf H ∧ HsOk 2 hs ∧ 1 ≤ pool.length ∧ pool.length ≤ 1000 ∧ TbA tp qLam Hf H ∧
  ∀ (v : V) (Hf' H' : Hp) (bs : List Bk), Ex Hf Hf' → Ex Hf' H' → Dp K Hf' v (bksD bs) → 1 ≤ bs.length → bs.length ≤ 2 → (∀ b ∈ bs, DrB hs pool b) → Q v H'
/-- rows of a pool's values -/
def RwOk (pool : List Vl) (c : Nat) (r : Row) : Prop := r.length = c ∧ ∀ v ∈ r, v ∈ pool
theorem p_law_books {cc tp : Addr} (H : Hd K mg) (L : LamAt K mg base cc tp) : Pg P w K mg base "_law_books" 4 ["_law_state", "_law_tables_here", "_law_pool_here", "_law_most"] (sp_books K tp) := pg_of H q_law_books sc_law_books (fun vs H0 Q E h => by obtain ⟨Hf, sc, ns, hs, pool, hv, _⟩ := h; exact hv.length) fun vs H0 Q E h => by
  obtain ⟨Hf, sc, ns, hs, pool, hv, ex, ho, hp1, hp2, tb, qq⟩ := h
  have hol := ho.hi
  have ρ0 : RpE K Hf (L2.start N_law_books vs) (bEn K sc ns hs pool none none none none none none) := by
    have e : L2.start N_law_books vs = vs.map some ++ List.replicate 8 none := by
      unfold L2.start
      rw [hv.length]
      rfl
    rw [e]
    exact RpE.of_args 8 hv
  refine go_set 4 (ex_lst (ax_nil ⟨Nat.zero_le _, fun D hD => ?_⟩))
  have ρ1 : RpE K Hf ((L2.start N_law_books vs).set 4 (some (.ref D))) (bEn K sc ns hs pool (some (refDt D)) none none none none none) := ρ0.set (j := 4) (v := .ref D) (d := refDt D) rfl
  have tD := Tr.drop (o := .lst []) ex hD
  refine gm_for [5] (wx_rng1 rfl (fr_range H)) (gx_name 5) ρ1 tD.i (es_rng1 (Ψ := fun its => ∃ n : Nat, 1 ≤ n ∧ n ≤ 2 ∧ its = rngD 0 n) (ea_cons (ee_op (ee_int (ee_take (sc := sc) (ns := ns) H (Nat.le_of_ble_eq_true rfl) 2 (by decide) (by decide) (ee_var 0 rfl ⟨rfl, ee_int ⟨rfl, fun n hn => ?_⟩⟩)))))) fun its Hf1 H1 t1 ⟨n, n1, n2, eits⟩ => ?_
  · refine od_add (ea_nil ⟨1 + n, ?_, by omega, 1 + n, by omega, by omega, rfl⟩)
    show [Dt.py (.int (1 + (n : Int)))] = _
    rw [show (1 + (n : Int)) = ((1 + n : Nat) : Int) by omega]
  subst eits
  refine ⟨bEn K sc ns hs pool (some (refDt D)) none none none none none, fun j Hx Hy => ∃ bs : List Bk, bs.length = j ∧ (∀ b ∈ bs, DrB hs pool b) ∧ GL K D (bs.map bkD) Hx Hy ∧ TbA tp qLam Hx Hy, ρ1.mono t1.f, ⟨[], rfl, (fun _ h => nomatch h), (GL.new ex hD).step t1, (tb.step tD).step t1⟩,
    (fun j _ _ _ _ hx t => by obtain ⟨vs, a, b, c, d⟩ := hx; exact ⟨vs, a, b, c.step t, d.step t⟩), fun j d hd => ?_, fun σ2 Hf2 H2 e1 e2 r2 hx => ?_⟩
  · have hj : j < n := by
      have := (List.getElem?_eq_some_iff.mp hd).1
      unfold rngD at this
      rw [List.length_map, List.length_range] at this
      exact this
    refine ⟨bEn K sc ns hs pool (some (refDt D)) (some d) none none none none, gd_name 5, fun σ2 Hf2 H2 e1 e2 r2 hx => ?_⟩
    obtain ⟨bs, bl, bok, gD, tb2⟩ := hx
    refine go_set 6 (ex_lst (ax_nil ⟨Nat.zero_le _, fun D2 hD2 => ?_⟩))
    have ne2 : D ≠ D2 := gD.ne hD2
    have tD2 := Tr.drop (o := .lst []) e2 hD2
    have ρ2 : RpE K Hf2 (σ2.set 6 (some (.ref D2))) (bEn K sc ns hs pool (some (refDt D)) (some d) (some (refDt D2)) none none none) := r2.set (j := 6) (v := .ref D2) (d := refDt D2) rfl
    refine gm_for [7, 8] wx_list (gx_tup (n := 2) (t := gsOf [7, 8]) (gxs_cons (gx_name 7) (gxs_cons (gx_name 8) gxs_nil))) ρ2 tD2.i (es_list (Ψ := fun its => its = hs.map fun h => .py (hdD h)) (ee_var 1 rfl ⟨_, rfl, by rw [List.map_map]; rfl⟩)) fun its Hf3 H3 t3 eits => ?_
    subst eits
    refine ⟨bEn K sc ns hs pool (some (refDt D)) (some d) (some (refDt D2)) none none none, fun k Hx Hy => ∃ bk : Bk, headsOf bk = hs.take k ∧ (∀ t ∈ bk, RiseR t.2.2 ∧ t.2.2.length ≤ 3 ∧ ∀ r ∈ t.2.2, RwOk pool t.2.1 r) ∧ GL K D2 (bk.map tbD) Hx Hy ∧ GL K D (bs.map bkD) Hx Hy ∧ TbA tp qLam Hx Hy, ρ2.mono t3.f,
      ⟨[], rfl, (fun _ h => nomatch h), (GL.new e2 hD2).step t3, (gD.step tD2).step t3, (tb2.step tD2).step t3⟩, (fun j _ _ _ _ hx t => by obtain ⟨vs, a, b, c, d, e⟩ := hx; exact ⟨vs, a, b, c.step t, d.step t, e.step t⟩), fun k d2 hd2 => ?_, fun σ4 Hf4 H4 e3 e4 r4 hx => ?_⟩
    · rw [List.getElem?_map] at hd2
      obtain ⟨⟨s, c⟩, hsc, rfl⟩ := Option.map_eq_some_iff.mp hd2
      have hk : k < hs.length := (List.getElem?_eq_some_iff.mp hsc).1
      have hw := ho.ws _ (List.mem_of_getElem? hsc)
      have hw2 : 1 ≤ c := hw.2.1
      have hw3 : c ≤ 2 := hw.2.2
      refine ⟨bEn K sc ns hs pool (some (refDt D)) (some d) (some (refDt D2)) (some (.py (.str s))) (some (.py (.int (c : Int)))) none, gd_tup (ds := [.str s, .int (c : Int)]) [7, 8] rfl rfl, fun σ4 Hf4 H4 e3 e4 r4 hx => ?_⟩
      obtain ⟨bk, bh, bt, g2, g1, tb4⟩ := hx
      refine go_set 9 (ex_lst (ax_nil ⟨Nat.zero_le _, fun D3 hD3 => ?_⟩))
      have ne13 : D ≠ D3 := g1.ne hD3
      have ne23 : D2 ≠ D3 := g2.ne hD3
      have tD3 := Tr.drop (o := .lst []) e4 hD3
      have ρ4 : RpE K Hf4 (σ4.set 9 (some (.ref D3))) (bEn K sc ns hs pool (some (refDt D)) (some d) (some (refDt D2)) (some (.py (.str s))) (some (.py (.int (c : Int)))) (some (refDt D3))) := r4.set (j := 9) (v := .ref D3) (d := refDt D3) rfl
      refine gm_for [10] (wx_rng1 rfl (fr_range H)) (gx_name 10) ρ4 tD3.i (es_rng1 (Ψ := fun its => ∃ n : Nat, n ≤ 3 ∧ its = rngD 0 n) (ea_cons (ee_take (sc := sc) (ns := ns) H (Nat.le_of_ble_eq_true rfl) 4 (by decide) (by decide) (ee_var 0 rfl ⟨rfl, ee_op (ee_var 3 rfl (ee_int (od_add ⟨rfl, fun n hn => ea_nil ⟨n, rfl, by omega, n, by omega, rfl⟩⟩)))⟩)))) fun its Hf5 H5 t5 ⟨m, hm, eits⟩ => ?_
      subst eits
      refine ⟨bEn K sc ns hs pool (some (refDt D)) (some d) (some (refDt D2)) (some (.py (.str s))) (some (.py (.int (c : Int)))) (some (refDt D3)), fun l Hx Hy => ∃ rows : List Row, rows.length = l ∧ (∀ r ∈ rows, RwOk pool c r) ∧ GL K D3 (rows.map rowD) Hx Hy ∧ GL K D2 (bk.map tbD) Hx Hy ∧ GL K D (bs.map bkD) Hx Hy ∧ TbA tp qLam Hx Hy, ρ4.mono t5.f,
        ⟨[], rfl, (fun _ h => nomatch h), (GL.new e4 hD3).step t5, (g2.step tD3).step t5, (g1.step tD3).step t5, (tb4.step tD3).step t5⟩, (fun j _ _ _ _ hx t => by obtain ⟨vs, a, b, c, d, e, f⟩ := hx; exact ⟨vs, a, b, c.step t, d.step t, e.step t, f.step t⟩), fun l d3 hd3 => ?_, fun σ6 Hf6 H6 e5 e6 r6 hx => ?_⟩
      · have hl : l < m := by
          have := (List.getElem?_eq_some_iff.mp hd3).1
          unfold rngD at this
          rw [List.length_map, List.length_range] at this
          exact this
        refine ⟨[some (dwD K sc ns), some (.py (.list (hs.map hdD))), some (.py (.list (pool.map Vl.d))), some (.py (.int 3)), some (refDt D), some d, some (refDt D2), some (.py (.str s)), some (.py (.int (c : Int))), some (refDt D3), some d3, none], gd_name 10, fun σ6 Hf6 H6 e5 e6 r6 hx => ?_⟩
        obtain ⟨rows, rl, rok, g3, g2, g1, tb6⟩ := hx
        refine gl_append (fun z => ∃ r : Row, z = rowD r ∧ RwOk pool c r) 9 r6 e6 rfl g3 (by rw [List.length_map]; omega) ?_ fun z Hf7 H7 ⟨r, ez, rk⟩ t7 r7 g7 => go_nil ⟨Hf7, e5.trans t7.f, t7.i, r7.sub (by repeat (first | exact sub_nil | refine sub_same ?_ | refine sub_drop ?_)), rows ++ [r], ?_, ?_, ?_, g2.stepB t7 ne23, g1.stepB t7 ne13, tb6.wr g3 t7⟩
        · refine ee_callTy (fr_tuple H) boot_tuple (ea_cons (ee_unO (ee_lcJ [("_law_c", 11)] (wx_rng1 rfl (fr_range H)) (gx_name 11) (es_rng1 (ea_cons (ee_var 8 rfl (ea_nil ⟨c, rfl, by omega, ?_, ?_⟩)))))))
          · unfold rngD
            rw [List.length_map, List.length_range]
            omega
          · refine ⟨fun j acc => ∃ ws : List Vl, acc = ws.map Vl.d ∧ ws.length = j ∧ ∀ v ∈ ws, v ∈ pool, ⟨[], rfl, rfl, fun _ h => nomatch h⟩, fun j x acc hx ⟨ws, ea, wl, wok⟩ => ?_, fun acc ⟨ws, ea, wl, wok⟩ => ?_⟩
            · refine ⟨_, gd_name 11, ei_nil (iteT (ee_ixL (ee_var 2 rfl (ee_take (sc := sc) (ns := ns) H (Nat.le_of_ble_eq_true rfl) pool.length (by omega) (by omega) (ee_var 0 rfl ⟨rfl, ee_callB (fr_len H) PySem.boot_len (ea_cons (ee_var 2 rfl (ea_nil (ld_len (n := pool.length) (by show _ = _; rw [List.length_map]) ⟨rfl, fun n hn => ?_⟩))))⟩)))))⟩
              refine ⟨_, (n : Int), pool[n].d, rfl, rfl, atI_nat (by rw [List.getElem?_map, List.getElem?_eq_getElem hn]; rfl), _, rfl, ws ++ [pool[n]], ?_, ?_, ?_⟩
              · rw [List.map_append, ea]
                rfl
              · rw [List.length_append, wl]
                rfl
              · intro v hv
                rcases List.mem_append.mp hv with hv | hv
                · exact wok v hv
                · rw [List.mem_singleton.mp hv]
                  exact List.getElem_mem hn
            · subst ea
              unfold rngD at wl
              rw [List.length_map, List.length_range] at wl
              exact ⟨_, rfl, ea_nil (ld_tuple ⟨_, rfl, ws, rfl, wl, wok⟩)⟩
        · rw [List.length_append, rl]
          rfl
        · intro x hx
          rcases List.mem_append.mp hx with hx | hx
          · exact rok x hx
          · rw [List.mem_singleton.mp hx]
            exact rk
        · subst ez
          rw [List.map_append]
          exact g7
      · obtain ⟨rows, rl, rok, g3, g2, g1, tb6⟩ := hx
        have rl3 : rows.length ≤ 3 := by
          unfold rngD at rl
          rw [List.length_map, List.length_range] at rl
          omega
        obtain ⟨Hf7, t7, d7⟩ := g3.adopt e6
        have h2 := g2.stepB t7 ne23
        have h1 := g1.stepB t7 ne13
        have tb7 := tb6.wr g3 t7
        have r7 := r6.mono t7.f
        obtain ⟨vs2, _, b2, _⟩ := id h2
        obtain ⟨v7, hv7, dv7⟩ := r7.get 7 _ rfl
        obtain ⟨v8, hv8, dv8⟩ := r7.get 8 _ rfl
        have dv7 : Dp K Hf7 v7 (.str s) := dv7
        have dv8 : Dp K Hf7 v8 (.int (c : Int)) := dv8
        refine go_append (ex_var 6 (r7.ref rfl) ⟨D2, rfl, ⟨vs2, b2⟩, ex_tup (ax_cons (ex_var 7 hv7 (ax_cons (ex_var 8 hv8 (ax_cons (ex_call (p_law_sorted H L).fnc rfl (ax_cons (ex_var 9 (r7.ref rfl) (ax_nil ⟨D3, Hf7, rows, rfl, t7.i, d7, by omega, fun r hr => by rw [(rok r hr).1]; omega, tb7, fun v Hf8 H8 out tn dv rise ol om => ax_nil ⟨Nat.le_of_ble_eq_true rfl, fun p hp => ?_⟩⟩)))))))))⟩)
        have t9 := Tr.new (o := .tup [v7, v8, v]) tn.i hp
        have dp := dp_tup_new (K := K) (p := p) (.cons (dp_mono tn.f dv7) (.cons (dp_mono tn.f dv8) (.cons dv .nil))) (fresh_back tn.i hp)
        generalize upd Hf8 p (.tup [v7, v8, v]) = Hf9 at t9 dp
        show ∃ xs, (upd H8 p (.tup [v7, v8, v])) D2 = some (.lst xs) ∧ _
        generalize upd H8 p (.tup [v7, v8, v]) = H9 at t9
        have k2 := (h2.stepB tn.toB (h2.ne' tb7)).step t9
        have k1 := (h1.stepB tn.toB (h1.ne' tb7)).step t9
        have tb9 := tn.t.step t9
        obtain ⟨vs9, q1, q2, q3, q4⟩ := k2.push t9.i (y := .ref p) (z := tbD (s, c, out)) dp
        have hbk : bk.length = k := by
          have := congrArg List.length bh
          unfold headsOf at this
          rw [List.length_map, List.length_take] at this
          omega
        refine ⟨vs9, q1, ?_, go_nil ⟨Hf9, e3.trans (t5.f.trans (e5.trans (t7.f.trans (tn.f.trans t9.f)))), q3.i, (r7.mono (tn.f.trans t9.f)).sub (by repeat (first | exact sub_nil | refine sub_same ?_ | refine sub_drop ?_)), bk ++ [(s, c, out)], ?_, ?_, ?_, k1.stepB q3 ne2, tb9.wr k2 q3⟩⟩
        · rw [q2, List.length_map, sizeLine_eq]
          omega
        · unfold headsOf at bh ⊢
          rw [List.map_append, bh, List.take_add_one, hsc]
          rfl
        · intro t ht
          rcases List.mem_append.mp ht with ht | ht
          · exact bt t ht
          · rw [List.mem_singleton.mp ht]
            exact ⟨rise, by show out.length ≤ 3; omega, fun r hr => rok r (om r hr)⟩
        · rw [List.map_append]
          exact q4
    · obtain ⟨bk, bh, bt, g2, g1, tb4⟩ := hx
      rw [List.length_map, List.take_length] at bh
      obtain ⟨Hf5, t5, d5⟩ := g2.adopt e4
      have h1 := g1.stepB t5 ne2
      have tb5 := tb4.wr g2 t5
      have r5 : RpE K Hf5 σ4 (bEn K sc ns hs pool (some (refDt D)) (some d) (some (.py (.list (bk.map tbD)))) none none none) := (r4.mono t5.f).know (j := 6) (r4.ref rfl) (rpy d5)
      refine gl_append (fun z => z = bkD bk) 4 r5 t5.i rfl h1 (by rw [List.length_map]; omega) (ee_callTy (fr_tuple H) boot_tuple (ea_cons (ee_var 6 rfl (ea_nil (ld_tuple ⟨_, rfl, rfl⟩))))) fun z Hf6 H6 ez t6 r6 g6 => go_nil ⟨Hf6, e1.trans (t3.f.trans (e3.trans (t5.f.trans t6.f))), t6.i, r6.sub (by repeat (first | exact sub_nil | refine sub_same ?_ | refine sub_drop ?_)), bs ++ [bk], ?_, ?_, ?_, tb5.wr h1 t6⟩
      · rw [List.length_append, bl]
        rfl
      · intro b hb
        rcases List.mem_append.mp hb with hb | hb
        · exact bok b hb
        · rw [List.mem_singleton.mp hb]
          exact ⟨bh, fun t ht => bt t ht⟩
      · subst ez
        rw [List.map_append]
        exact g6
  · obtain ⟨bs, bl, bok, gD, tb2⟩ := hx
    unfold rngD at bl
    rw [List.length_map, List.length_range] at bl
    obtain ⟨Hf3, t3, d3⟩ := gD.adopt e2
    have r3 : RpE K Hf3 σ2 (bEn K sc ns hs pool (some (.py (.list (bs.map bkD)))) none none none none none) := (r2.mono t3.f).know (j := 4) (r2.ref rfl) (rpy d3)
    exact gm_ret r3 t3.i (ee_callTy (Φ := fun d => d = .py (bksD bs)) (fr_tuple H) boot_tuple (ea_cons (ee_var 4 rfl (ea_nil (ld_tuple rfl))))) fun v d Hf4 H4 t4 r4 ed => by
      subst ed
      exact qq v Hf4 H4 bs (t1.f.trans (e1.trans (t3.f.trans t4.f))) t4.i r4 (by omega) (by omega) bok
end
end Fq
/-! FqSa: a small field's data. -/
namespace Fq
open PySem PySem.Spec PyProof.Rows L2 Evl LamX NdefX
open RZ
theorem dp_strs2 {K : PySem.W.Frag} {H : Hp} : ∀ {ws : List V} {xs : List Str}, DpAll K H ws (xs.map PyData.str) → ws = xs.map V.str
  | [], [], _ => rfl
  | [], _ :: _, h => nomatch h
  | _ :: _, [], h => nomatch h
  | w :: ws, x :: xs, h => by
    have t : Dp K H w (.str x) ∧ DpAll K H ws (xs.map PyData.str) := by
      cases h with
      | cons a b => exact ⟨a, b⟩
    obtain ⟨a, b⟩ := t
    cases a
    rw [dp_strs2 b]
    rfl
theorem strs_dp {K : PySem.W.Frag} {H : Hp} : ∀ xs : List Str, DpAll K H (xs.map V.str) (xs.map PyData.str)
  | [] => .nil
  | x :: xs => .cons (.str x) (strs_dp xs)
section
variable {i : XI} {ρ : En} {Φ : Dt → Prop} {D : Ends} {σ : L2.St} {Hf H : Hp}
/-- sorted(texts) -/
theorem ld_sortedS {xs : List Str} (hz : xs.length < 64) (h : ∀ ys : List Str, ys.Perm xs → Φ (.py (.list (ys.map PyData.str)))) : CallD i (.builtin "sorted") [.py (.list (xs.map PyData.str))] Φ :=
  callD_of (r := rSortedS i.K) (fun X ok => by rw [← ok.K]; exact cr_sortedS) fun Hf H vs Q ex r q => by
    cases r with
    | cons r t =>
      cases t
      obtain ⟨a, ws, e, h1, d1⟩ := dp_lst r
      subst e
      have e := dp_strs2 d1
      subst e
      exact ⟨a, xs, rfl, ex_l ex h1, hz, fun ys p hp _ hpn => q _ _ _ _ (.new ex hpn) (rpy (dp_lst_new (strs_dp ys) (fresh_back ex hpn))) (h ys hp)⟩
theorem EA.go {es : List Expr} {Φ : List Dt → Prop} {Q : List V → Hp → Prop} (hρ : RpE i.K Hf σ ρ) (ex : Ex Hf H) (h : EA i es ρ Φ) (q : ∀ vs ds Hf' H', Tr Hf H Hf' H' → RpL i.K Hf' vs ds → Φ ds → Q vs H') : AX i es σ H Q := h σ Hf H Q hρ ex q
/-- name = [..] on one line, its things drawn -/
theorem gm_setLcJ {elt tg iter : Expr} {ifs : List Expr} {scope : Scope} {wi : TI} {g : TG} {x : Str} {py pos spos : Pos} {rest : List Stmt} (j : Nat) (own : List (Str × Nat)) (hi : ∀ X, XOk i X → PI X tg iter wi) (hg : ∀ X, XOk (i.blk scope) X → PG X tg g)
    (hρ : RpE i.K Hf σ ρ) (ex : Ex Hf H) (Φl : List PyData → Prop) (h : LcJ i wi g ρ scope elt ifs own Φl) (q : ∀ v zs Hf1 H1, Tr Hf H Hf1 H1 → RpE i.K Hf1 (σ.set j (some v)) (ρ.set j (some (.py (.list zs)))) → Φl zs → GO i rest D (σ.set j (some v)) H1)
    (ok : blkC i.N i.sc scope own = true := by kernel_rfl) (hN : i.N[j]? = some x := by rfl) (hy : i.sc.names.lookup x = some .local := by rfl) (hk : i.sc.kind = .function := by rfl) (hl : (py.line == pos.line) = true := by rfl)
    (ha : (scope.names.any fun (n, k) => n == x && (k == .local || k == .cell)) = false := by decide +kernel) (hll : spos.line = pos.line := by rfl) (hs : ∀ env x, foldedSetIterable iter env x = pure x := by intro _ _; rfl) : GO i (.Assign [.Name x py] (.ListComp elt [⟨tg, iter, ifs, 0⟩] scope pos) spos :: rest) D σ H :=
  go_setLc j own hi hg (lc_runJ (Φ := fun d => ∃ zs, d = ldD i.K zs ∧ Φl zs) own (fun σ Hf H R r e k => h σ Hf H R r e fun J its Hf' H' t S ⟨hz, I, a, b, c⟩ => k J its Hf' H' t S ⟨hz, I, a, b, fun acc e => ⟨acc, rfl, c acc e⟩⟩) hρ ex fun v d Hf1 H1 t1 r1 ⟨zs, ed, φ⟩ => by
    subst ed
    exact q v zs Hf1 H1 t1 ((hρ.mono t1.f).set (ld_py r1)) φ) ok hN hy hk hl ha hll hs
end
section
variable {P : Program} {w : World} {K : PySem.W.Frag} {mg : Str → Option Value} {base : Heap}
/-- what the law draws for its field -/
structure SmOk (bs : List Bk) (nm : List Vl) (dd : List Str) : Prop where
  bk : OkBs bs
  b2 : bs.length ≤ 2
  h2 : (bs.headD []).length ≤ 2
  nz : nm.length ≤ 3
  nm : ∀ v ∈ nm, okV v
  dz : dd.length ≤ 9
  dd : ∀ x ∈ dd, x ∈ deedsS
theorem smOk_of {hs : List (Str × Nat)} {m : Nat} {pool nm : List Vl} {bs : List Bk} {dd : List Str} (h : HsOk 2 hs) (hl : hs.length ≤ 2) (p : PoolOk m pool) (d : ∀ b ∈ bs, DrB hs pool b) (h1 : 1 ≤ bs.length) (h2 : bs.length ≤ 2) (nz : nm.length ≤ 3) (ok : ∀ v ∈ nm, v ∈ pool) (dz : dd.length ≤ 9) (okd : ∀ x ∈ dd, x ∈ deedsS) : SmOk bs nm dd := by
  refine ⟨okBs_of h p d h1 h2, h2, ?_, nz, fun v hv => p.ok v (ok v hv), dz, okd⟩
  cases bs with
  | nil => exact absurd h1 (by decide)
  | cons b bs =>
    have e := congrArg List.length (d b (List.mem_cons_self ..)).hd
    unfold headsOf at e
    rw [List.length_map] at e
    show b.length ≤ 2
    omega
def sp_small (K : PySem.W.Frag) (tp : Addr) : Sp := fun vs H Q _ => ∃ (Hf : Hp) (sc : Addr) (ns : List Int) (ws : List Str), RpL K Hf vs [dwD K sc ns, .py (.list (ws.map PyData.str))] ∧ Ex Hf H ∧ ws.length ≤ 9 ∧ (∀ x ∈ ws, x ∈ deedsS) ∧ TbA tp qLam Hf H ∧
  ∀ (v : V) (Hf' H' : Hp) (bs : List Bk) (nm : List Vl) (dd : List Str) (z : PyData), Ex Hf Hf' → Ex Hf' H' → Dp K Hf' v (.list [bksD bs, nmD nm, ddD dd, z]) → SmOk bs nm dd → Q v H'
theorem p_law_small {cc tp : Addr} (H : Hd K mg) (L : LamAt K mg base cc tp) : Pg P w K mg base "_law_small" 5 ["_law_state", "_law_words"] (sp_small K tp) := pg_of H q_law_small sc_law_small (fun vs H0 Q E h => by obtain ⟨Hf, sc, ns, ws, hv, _⟩ := h; exact hv.length) fun vs H0 Q E h => by
  obtain ⟨Hf, sc, ns, ws, hv, ex, hz, hw, tb, qq⟩ := h
  have ρ0 : RpE K Hf (L2.start N_law_small vs) [some (dwD K sc ns), some (.py (.list (ws.map PyData.str))), none, none, none, none, none, none] := by
    have e : L2.start N_law_small vs = vs.map some ++ List.replicate 6 none := by
      unfold L2.start
      rw [hv.length]
      rfl
    rw [e]
    exact RpE.of_args 6 hv
  generalize L2.start N_law_small vs = σ0 at ρ0
  refine gm_set (Φ := fun d => ∃ hs, HsOk 2 hs ∧ hs.length ≤ 2 ∧ d = .py (.list (hs.map hdD))) 2 ρ0 ex (ee_sliceL (ee_call (p_tables H).fnc (ea_cons (ee_var 0 rfl (ea_cons (ee_int (ea_nil ⟨rfl, sc, ns, 2, rfl, by decide, by decide, fun hs oh => ?_⟩))))))) fun v d Hf1 H1 t1 r1 rv ⟨hs, oh, hl, ed⟩ => ?_
  · refine ee_int ⟨2, rfl, _, rfl, ?_⟩
    rw [show (2 : Int) = ((2 : Nat) : Int) from rfl, cut_to, ← List.map_take]
    exact ⟨hs.take 2, oh.two.1, oh.two.2, rfl⟩
  subst ed
  have ρ1 : RpE K Hf1 (σ0.set 2 (some v)) [some (dwD K sc ns), some (.py (.list (ws.map PyData.str))), some (.py (.list (hs.map hdD))), none, none, none, none, none] := r1
  have tb1 := tb.step t1
  generalize σ0.set 2 (some v) = σ1 at ρ1 r1
  refine gm_set (Φ := fun d => ∃ m pool, m ≤ 3 ∧ PoolOk m pool ∧ d = .py (.list (pool.map Vl.d))) 3 ρ1 t1.i (ee_call (p_pool H).fnc (ea_cons (ee_var 0 rfl (ea_cons (ee_op (ee_int (ee_take (sc := sc) (ns := ns) H (Nat.le_of_ble_eq_true rfl) 3 (by decide) (by decide) (ee_var 0 rfl ⟨rfl, ee_int ⟨rfl, fun n hn => od_add (ea_nil ⟨rfl, sc, ns, 1 + n, ?_, by omega, by omega, fun pool op => ⟨1 + n, pool, by omega, op, rfl⟩⟩)⟩⟩))))))) ) fun v d Hf2 H2 t2 r2 rv ⟨m, pool, hm, op, ed⟩ => ?_
  · rw [show (1 + (n : Int)) = ((1 + n : Nat) : Int) by omega]
  subst ed
  have hp1 := op.lo
  have hp2 := op.hi
  have ρ2 : RpE K Hf2 (σ1.set 3 (some v)) [some (dwD K sc ns), some (.py (.list (ws.map PyData.str))), some (.py (.list (hs.map hdD))), some (.py (.list (pool.map Vl.d))), none, none, none, none] := r2
  have tb2 := tb1.step t2
  generalize σ1.set 3 (some v) = σ2 at ρ2 r2
  refine gm_setLcJ 4 [("_law_value", 6)] wx_list (gx_name 6) ρ2 t2.i (fun zs => ∃ nm : List Vl, zs = nm.map Vl.d ∧ nm.length ≤ 3 ∧ ∀ v ∈ nm, v ∈ pool) (es_list (ee_var 3 rfl ⟨_, rfl, ?_, ?_⟩)) fun v zs Hf3 H3 t3 r3 ⟨nm, ez, nz, nok⟩ => ?_
  · rw [List.length_map, List.length_map]
    omega
  · refine ⟨fun j acc => ∃ nm : List Vl, acc = nm.map Vl.d ∧ nm.length ≤ j ∧ ∀ v ∈ nm, v ∈ pool, ⟨[], rfl, Nat.le_refl _, fun _ h => nomatch h⟩, fun j x acc hx ⟨nm, ea, nl, nok⟩ => ?_, fun acc ⟨nm, ea, nl, nok⟩ => ⟨nm, ea, ?_, nok⟩⟩
    · rw [List.getElem?_map, List.getElem?_map, Option.map_map] at hx
      obtain ⟨v, hv, rfl⟩ := Option.map_eq_some_iff.mp hx
      have hmem := List.mem_of_getElem? hv
      refine ⟨_, gd_name 6, ei_one (et_cmp (ee_take (sc := sc) (ns := ns) H (Nat.le_of_ble_eq_true rfl) 3 (by decide) (by decide) (ee_var 0 rfl ⟨rfl, ee_int ⟨rfl, fun n hn => ee_int (od_eq (pl_int _) (pl_int _) ⟨_, rfl, ite_b ?_ ⟨nm, ea, by omega, nok⟩⟩)⟩⟩)) (hm := rfl))⟩
      refine ee_var 6 rfl ⟨_, rfl, nm ++ [v], by rw [List.map_append, ea]; rfl, by rw [List.length_append, List.length_singleton]; omega, fun u hu => ?_⟩
      rcases List.mem_append.mp hu with hu | hu
      · exact nok u hu
      · rw [List.mem_singleton.mp hu]
        exact hmem
    · rw [List.length_map, List.length_map] at nl
      omega
  subst ez
  have ρ3 : RpE K Hf3 (σ2.set 4 (some v)) [some (dwD K sc ns), some (.py (.list (ws.map PyData.str))), some (.py (.list (hs.map hdD))), some (.py (.list (pool.map Vl.d))), some (.py (.list (nm.map Vl.d))), none, none, none] := r3
  have tb3 := tb2.step t3
  generalize σ2.set 4 (some v) = σ3 at ρ3 r3
  refine gm_setLcJ 5 [("_law_word_here", 7)] wx_list (gx_name 7) ρ3 t3.i (fun zs => ∃ dd : List Str, zs = dd.map PyData.str ∧ dd.length ≤ 9 ∧ ∀ v ∈ dd, v ∈ ws) (es_list (ee_var 1 rfl ⟨_, rfl, ?_, ?_⟩)) fun v zs Hf4 H4 t4 r4 ⟨dd, ez, dz, dok⟩ => ?_
  · rw [List.length_map, List.length_map]
    omega
  · refine ⟨fun j acc => ∃ dd : List Str, acc = dd.map PyData.str ∧ dd.length ≤ j ∧ ∀ v ∈ dd, v ∈ ws, ⟨[], rfl, Nat.le_refl _, fun _ h => nomatch h⟩, fun j x acc hx ⟨nm, ea, nl, nok⟩ => ?_, fun acc ⟨nm, ea, nl, nok⟩ => ⟨nm, ea, ?_, nok⟩⟩
    · rw [List.getElem?_map, List.getElem?_map, Option.map_map] at hx
      obtain ⟨v, hv, rfl⟩ := Option.map_eq_some_iff.mp hx
      have hmem := List.mem_of_getElem? hv
      refine ⟨_, gd_name 7, ei_one (et_cmp (ee_take (sc := sc) (ns := ns) H (Nat.le_of_ble_eq_true rfl) 2 (by decide) (by decide) (ee_var 0 rfl ⟨rfl, ee_int ⟨rfl, fun n hn => ee_int (od_eq (pl_int _) (pl_int _) ⟨_, rfl, ite_b ?_ ⟨nm, ea, by omega, nok⟩⟩)⟩⟩)) (hm := rfl))⟩
      refine ee_var 7 rfl ⟨_, rfl, nm ++ [v], by rw [List.map_append, ea]; rfl, by rw [List.length_append, List.length_singleton]; omega, fun u hu => ?_⟩
      rcases List.mem_append.mp hu with hu | hu
      · exact nok u hu
      · rw [List.mem_singleton.mp hu]
        exact hmem
    · rw [List.length_map, List.length_map] at nl
      omega
  subst ez
  have ρ4 : RpE K Hf4 (σ3.set 5 (some v)) [some (dwD K sc ns), some (.py (.list (ws.map PyData.str))), some (.py (.list (hs.map hdD))), some (.py (.list (pool.map Vl.d))), some (.py (.list (nm.map Vl.d))), some (.py (.list (dd.map PyData.str))), none, none] := r4
  have tb4 := tb3.step t4
  generalize σ3.set 5 (some v) = σ4 at ρ4 r4
  obtain ⟨v0, hv0, d0⟩ := ρ4.get 0 _ rfl
  obtain ⟨v2, hv2, d2⟩ := ρ4.get 2 _ rfl
  obtain ⟨v3, hv3, d3⟩ := ρ4.get 3 _ rfl
  refine go_ret (ex_lst (ax_cons ?_))
  refine ex_call (p_law_books H L).fnc rfl (ax_cons (ex_var 0 hv0 (ax_cons (ex_var 2 hv2 (ax_cons (ex_var 3 hv3 (ax_cons (ex_int (ax_nil ?_)))))))))
  refine ⟨Hf4, sc, ns, hs, pool, .cons d0 (.cons d2 (.cons d3 (.cons (Dp.int 3) .nil))), t4.i, oh, hp1, by omega, tb4, fun v5 Hf5 H5 bs e5 x5 d5 b1 b2 bok => ?_⟩
  refine EA.go (Φ := fun ds => ∃ ys : List Str, ys.Perm dd ∧ ds = [.py (nmD nm), .py (ddD ys), .py (.list (pool.map Vl.d))]) (ρ4.mono e5) x5 ?_ fun us ds Hf6 H6 t6 r6 ⟨ys, hp, eds⟩ => ?_
  · refine ea_cons (ee_callTy (fr_tuple H) boot_tuple (ea_cons (ee_var 4 rfl (ea_nil (ld_tuple ?_)))))
    refine ea_cons (ee_callTy (fr_tuple H) boot_tuple (ea_cons (ee_callB (id := "sorted") (fr_sorted H) (by decide +kernel) (ea_cons (ee_var 5 rfl (ea_nil (ld_sortedS (by omega) fun ys hp => ea_nil (ld_tuple ?_))))))))
    exact ea_cons (ee_var 3 rfl (ea_nil ⟨ys, hp, rfl⟩))
  subst eds
  cases r6 with
  | cons ra r6 =>
    cases r6 with
    | cons rb r6 =>
      cases r6 with
      | cons rc r6 =>
        cases r6
        rename_i va vb vc
        refine ⟨Nat.le_of_ble_eq_true rfl, fun p hpn => ?_⟩
        have tn := Tr.new (o := .lst [v5, va, vb, vc]) t6.i hpn
        have hok := smOk_of (dd := ys) oh hl op bok b1 b2 nz nok (by rw [hp.length_eq]; exact dz) fun x hx => hw x (dok x (hp.mem_iff.mp hx))
        exact qq _ _ _ bs nm ys _ (t1.f.trans (t2.f.trans (t3.f.trans (t4.f.trans (e5.trans (t6.f.trans tn.f)))))) tn.i (dp_lst_new (.cons (dp_mono t6.f d5) (.cons ra (.cons rb (.cons rc .nil)))) (fresh_back t6.i hpn)) hok
end
end Fq
/-! FqLe: what the law's own walk needs besides. -/
namespace Fq
open PySem PySem.Spec PyProof.Rows L2 Evl LamX NdefX
open RZ
theorem GL.adopt2 {K : PySem.W.Frag} {D : Addr} {zs : List PyData} {Hf H : Hp} (g : GL K D zs Hf H) (ex : Ex Hf H) : ∃ vs Hf', Hf' D = some (.lst vs) ∧ TrB (fun b => b = D) Hf H Hf' H ∧ DpAll K Hf' vs zs := by
  obtain ⟨vs, h1, h2, h3⟩ := g
  refine ⟨vs, upd Hf D (.lst vs), upd_same, ⟨Ex.new h1, fun a o ha => ?_, fun _ _ _ e => e, fun p o hp _ h => ?_⟩, dpAll_mono (Ex.new h1) h3⟩
  · by_cases e : a = D
    · subst e
      rw [upd_same] at ha
      rw [h2, ← ha]
    · rw [upd_ne e] at ha
      exact ex a o ha
  · rw [upd_ne hp]
    exact h
section
variable {i : XI} {ρ : En} {σ : L2.St} {Hf H : Hp} {Q : VK} {elt tg iter l : Expr} {ifs : List Expr} {scope : Scope} {g : TG}
/-- a comprehension over what is given: told by an invariant; the new list stands apart -/
theorem lc_rest {J : It} {its : List Dt} (own : List (Str × Nat)) (hρ : RpE i.K Hf σ ρ) (ex : Ex Hf H) (S : Src i.K J its Hf) (hz : its.length ≤ 40000) (I : Nat → List PyData → Prop) (I0 : I 0 [])
    (turn : ∀ j x acc, its[j]? = some x → I j acc → ∃ ρx, GD (i.blk scope) g (own.map (·.2)) (wipeE ρ (own.map (·.2))) ρx x ∧ EI (i.blk scope) ifs ρx (fun b => if b = true then EE (i.blk scope) elt ρx (fun y => ∃ z, y = .py z ∧ I (j + 1) (acc ++ [z])) else I (j + 1) acc))
    (q : ∀ D zs Hf' H', H D = none → Tr Hf H Hf' H' → GL i.K D zs Hf' H' → I its.length zs → Q (.ref D) H') : tLc (fun _ H R => R J H) g (IX (i.blk scope) ifs) (EX (i.blk scope) elt) (own.map (·.2)) σ H Q := by
  intro D hD
  refine ⟨fun j m H' => m = its.length - j ∧ j ≤ its.length ∧ ∃ Hf2 acc, acc.length ≤ j ∧ I j acc ∧ LGrow i.K Hf H D acc Hf2 H', ⟨its.length, rfl, Nat.zero_le _, Hf, [], Nat.le_refl _, I0, LGrow.new ex hD⟩, ?_⟩
  rintro j m H2 ⟨rfl, hj, Hf2, acc, hl, hI, vs, t2, d1, d2, d3⟩
  by_cases hlt : j < its.length
  · refine .inr ⟨S.go j H2 hlt (t2.f.trans t2.i), fun H' => ∃ Hf' acc', acc'.length ≤ j + 1 ∧ I (j + 1) acc' ∧ LGrow i.K Hf H D acc' Hf' H', fun H' I' => ⟨its.length - (j + 1), by omega, rfl, hlt, I'⟩, fun x H3 hy => ?_⟩
    obtain ⟨Hf3, d, hd, t3, r3⟩ := S.yld j H2 x H3 Hf2 hlt t2.f t2.i hy
    obtain ⟨ρx, hgd, hei⟩ := turn j d acc hd hI
    refine hgd (wipe σ (own.map (·.2))) Hf3 H3 x _ ((hρ.mono (t2.f.trans t3.f)).wipe _) t3.i r3 fun σ2 hw hρ2 => ?_
    refine ⟨hw.trans wipe_wipe, hei σ2 Hf3 H3 _ hρ2 t3.i fun b Hf4 H4 t4 hb => ?_⟩
    cases b with
    | true =>
      refine iteT (hb σ2 Hf4 H4 _ (hρ2.mono t4.f) t4.i fun y dz Hf5 H5 t5 r5 ⟨z, hz5, hI5⟩ => ?_)
      subst hz5
      have t35 := (t3.trans t4).trans t5
      refine ⟨vs, t35.h D _ d2, sz_lt ?_, Hf5, acc ++ [z], by rw [List.length_append, List.length_singleton]; omega, hI5, (LGrow.push (t2.trans t35) (t35.n D _ d2 d1) (t35.h D _ d2) (dpAll_mono t35.f d3) hD r5).2⟩
      have l1 := dpAll_len d3
      omega
    | false =>
      have t34 := t3.trans t4
      exact iteF ⟨Hf4, acc, by omega, hb, vs, t2.trans t34, t34.n D _ d2 d1, t34.h D _ d2, dpAll_mono t34.f d3⟩
  · have ej : j = its.length := by omega
    subst ej
    exact .inl ⟨S.stop H2 (t2.f.trans t2.i), q D acc Hf2 H2 hD t2 ⟨vs, d1, d2, d3⟩ hI⟩
theorem lc_es {wi : TI} {Ψ : List Dt → Prop} {tt : TT} {te : TE} {vs : List Nat} (hρ : RpE i.K Hf σ ρ) (ex : Ex Hf H) (h : ES i wi ρ Ψ) (k : ∀ J its Hf1 H1, Tr Hf H Hf1 H1 → Src i.K J its Hf1 → Ψ its → tLc (fun _ H R => R J H) g tt te vs σ H1 Q) : tLc wi g tt te vs σ H Q := h σ Hf H _ hρ ex k
theorem lc_tup {tt : TT} {te : TE} {vs : List Nat} (h : EX i l σ H fun v H1 => ∃ a, v = .ref a ∧ (∃ xs, SqT i.K H1 a xs) ∧ tLc (fun _ H R => R (Itt i.K a) H) g tt te vs σ H1 Q) : tLc (iTup i.K (EX i l)) g tt te vs σ H Q := h
/-- name, .. = e -/
theorem gm_asg {e tg : Expr} {g : TG} {Φ : Dt → Prop} {D : Ends} {rest : List Stmt} {pos : Pos} (vs : List Nat) (hg : ∀ X, XOk i X → PG X tg g) (hρ : RpE i.K Hf σ ρ) (ex : Ex Hf H) (h : EE i e ρ fun d => ∃ ρx, GD i g vs ρ ρx d ∧ Φ d ∧ ∀ σ2 Hf1 H1, Tr Hf H Hf1 H1 → RpE i.K Hf1 σ2 ρx → GO i rest D σ2 H1) (hs : ∀ env, swapsWithSole [tg] e pos.line env = pure false := by intro _; rfl) (hw : ∀ env, swappedStores [tg] e env = pure none := by intro _; rfl)
    (h1 : ∀ env, (assignEach [tg] env).map (·.2) = [assign tg env] := by intro _; rfl) : GO i (.Assign [tg] e pos :: rest) D σ H :=
  go_asg hg (h σ Hf H _ hρ ex fun v d Hf1 H1 t1 r1 ⟨ρx, hgd, _, k⟩ => hgd σ Hf1 H1 v _ (hρ.mono t1.f) t1.i r1 fun σ2 _ r2 => k σ2 Hf1 H1 t1 r2) hs hw h1
end
theorem eqv_plc (b b' : Nat) (r r' : Row) : PyData.eqv (plcD (b, r)) (plcD (b', r')) = (decide (b = b') && decide (r = r')) := by
  unfold plcD
  rw [PyData.eqv, PyData.eqvAll, PyData.eqvAll, PyData.eqvAll, eqv_int, row_eqv, Bool.and_true]
  congr 1
  exact decide_eq_decide.mpr ⟨fun h => Int.ofNat.inj h, fun h => by rw [h]⟩
theorem cut2_ws (x : Ws) : cutD [.int (x.1 : Int), rowD x.2.1, .bool x.2.2] none (some 2) = [.int (x.1 : Int), rowD x.2.1] := by
  rw [show (2 : Int) = ((2 : Nat) : Int) from rfl, cut_to]
  rfl
/-! ### a list is written: what holds no list stands -/
section
variable {K : PySem.W.Frag} {H : Hp} {D : Addr} {vs : List V}
theorem noL_int (n : Int) : noL (.int n) = true := rfl
theorem noL_str (n : Str) : noL (.str n) = true := rfl
theorem noL_bool (n : Bool) : noL (.bool n) = true := rfl
theorem noL_tup (ds : List PyData) : noL (.tuple ds) = noLs ds := by rw [noL]
theorem noLs_nil : noLs [] = true := rfl
theorem noLs_cons (d : PyData) (ds : List PyData) : noLs (d :: ds) = (noL d && noLs ds) := by rw [noLs]
theorem noL_vl (v : Vl) : noL v.d = true := by cases v <;> rfl
theorem noL_bks (bs : List Bk) : noL (bksD bs) = true := by
  unfold bksD
  rw [noL]
  refine noLs_map _ _ fun b _ => ?_
  unfold bkD
  rw [noL]
  refine noLs_map _ _ fun t _ => ?_
  unfold tbD
  rw [noL_tup, noLs_cons, noLs_cons, noLs_cons, noLs_nil, noL_str, noL_int, noL_tup, noLs_map rowD _ fun r _ => noL_row r]
  rfl
theorem noL_nm (l : List Vl) : noL (nmD l) = true := by
  unfold nmD
  rw [noL]
  exact noLs_map _ _ fun v _ => noL_vl v
theorem noL_dd (l : List Str) : noL (ddD l) = true := by
  unfold ddD
  rw [noL]
  exact noLs_map _ _ fun v _ => rfl
theorem noL_ws (l : List Ws) : noL (.tuple (l.map wsD)) = true := by
  rw [noL]
  refine noLs_map _ _ fun x _ => ?_
  unfold wsD
  rw [noL_tup, noLs_cons, noLs_cons, noLs_cons, noLs_nil, noL_int, noL_row, noL_bool]
  rfl
theorem noL_an (a : Ans) : noL (anD a) = true := by
  unfold anD
  rw [noL]
  refine noLs_map _ _ fun x _ => ?_
  unfold rwsD
  rw [noL]
  exact noLs_map _ _ fun r _ => noL_row r
theorem noLs_app : ∀ a b : List PyData, noLs (a ++ b) = (noLs a && noLs b)
  | [], _ => rfl
  | x :: a, b => by rw [List.cons_append, noLs, noLs, noLs_app a b, Bool.and_assoc]
theorem noL_qn (q : Qn) : noL (qnD q) = true := by
  cases q with
  | tab nm => rfl
  | one m nm =>
    unfold qnD
    rw [noL, noLs_app]
    have : noLs (mvL m) = true := by
      cases m with
      | same i j => rfl
      | below i j => rfl
      | value i v =>
        unfold mvL
        rw [noLs, noLs, noLs, noLs, noL_vl]
        rfl
      | take p =>
        unfold mvL natsD
        rw [noLs_cons, noLs_cons, noLs_nil, noL_str, noL_tup, noLs_map _ _ fun _ _ => rfl]
        rfl
    rw [this]
    rfl
theorem noL_lot (l : QL) : noL (lotD (qlL l)) = true := by
  unfold lotD
  rw [noL_tup, noLs_cons, noLs_cons, noLs_cons, noLs_cons, noLs_nil, noL_int, noL_int, noL_an]
  show (true && (noL (qnD l.q) && (true && (true && true)))) = true
  rw [noL_qn]
  rfl
theorem noL_lots {ls : List Lot} (h : ∀ l ∈ ls, ∃ l0, l = qlL l0) : noL (.tuple (ls.map lotD)) = true := by
  rw [noL]
  refine noLs_map _ _ fun l hl => ?_
  obtain ⟨l0, rfl⟩ := h l hl
  exact noL_lot l0
theorem noL_kpt (f : Fd) (re : List QL) : noL (kptD f re) = true := by
  have h : noL (lsD re) = true := by
    rw [lsD_eq]
    exact noL_lots fun l hl => by
      obtain ⟨l0, _, rfl⟩ := List.mem_map.mp hl
      exact ⟨l0, rfl⟩
  unfold kptD
  rw [noL_tup, noLs_cons, noLs_cons, noLs_nil, h, noL_tup, noLs_cons, noLs_cons, noLs_nil, noL_bks, noL_int]
  rfl
theorem fld_del {a : Addr} {b n d : PyData} (hD : H D = some (.lst vs)) (hb : noL b = true) (hn : noL n = true) (hd : noL d = true) (h : FldAt K H a b n d) : FldAt K (del H D) a b n d := by
  obtain ⟨dx, fs, vb, vn, vd, h1, h2, h3, h4, h5, h6, h7⟩ := h.ex
  exact ⟨dx, fs, vb, vn, vd, by rw [del_ne (ne_of h1 hD (fun z => by cases z))]; exact h1, h2, h3, h4, dp_del hD hb h5, dp_del hD hn h6, dp_del hD hd h7⟩
theorem sta_del {a : Addr} {f : Fd} {far : Nat} {ws : List Ws} {v : V} (hD : H D = some (.lst vs)) (h : Rp K H v (stD f far ws)) : Rp K (del H D) v (stD f far ws) := by
  obtain ⟨a, rfl, A⟩ := h
  obtain ⟨dx, fs, fa, vf, vw, h1, h2, h3, h4, h5, h6, h7⟩ := A.ex
  exact ⟨a, rfl, dx, fs, fa, vf, vw, by rw [del_ne (ne_of h1 hD (fun z => by cases z))]; exact h1, h2, h3, h4, fld_del hD (noL_bks _) (noL_nm _) (noL_dd _) h5, dp_del hD rfl h6, dp_del hD (noL_ws _) h7⟩
theorem del_upd {vs' : List V} : Ex (del H D) (upd H D (.lst vs')) := fun a o ha => by
  by_cases e : a = D
  · rw [e, del_self] at ha
    cases ha
  · rw [del_ne e] at ha
    rw [upd_ne e]
    exact ha
end
theorem Sk.repl {K : PySem.W.Frag} {f : Fd} {c : Nat} {S D : Addr} {m : Nat} {ws : List Ws} {ls : List QL} {Hf H : Hp} {vs vs' : List V} (h : Sk K f c S m ws (some ls) Hf H) (hD : Hf D = some (.lst vs)) : Sk K f c S m ws (some ls) (upd Hf D (.lst vs')) (upd H D (.lst vs')) := by
  obtain ⟨dx, E, N, st, es, ns, kv, h1, h2, h3, h4, h5, h6, h7, h8, h9, h10, h11⟩ := h.ex
  have nS : S ≠ D := fun z => by rw [z, hD] at h7; cases h7
  have nE : E ≠ D := fun z => by rw [z, hD] at h8; cases h8
  have nN : N ≠ D := fun z => by rw [z, hD] at h9; cases h9
  refine ⟨dx, E, N, st, es, ns, kv, by rw [upd_ne nS]; exact h1, by rw [upd_ne nE]; exact h2, by rw [upd_ne nN]; exact h3, h4, h5, h6, by rw [upd_ne nS]; exact h7, by rw [upd_ne nE]; exact h8, by rw [upd_ne nN]; exact h9, ?_, ?_⟩
  · exact rp_mono del_upd (sta_del (a := S) hD h10)
  · exact dp_mono del_upd (dp_del hD (noL_kpt f ls) h11)
/-- .. while a new list begins to stand for good -/
theorem Sk.adopt {K : PySem.W.Frag} {f : Fd} {c : Nat} {S D : Addr} {m : Nat} {ws : List Ws} {re : Option (List QL)} {Hf0 H0 Hf H Hf' H' : Hp} (h : Sk K f c S m ws re Hf0 H0) (hD : H0 D = none) (t1 : Tr Hf0 H0 Hf H) (t2 : TrB (fun b => b = D) Hf H Hf' H') : Sk K f c S m ws re Hf' H' := by
  obtain ⟨dx, E, N, st, es, ns, kv, h1, h2, h3, h4, h5, h6, h7, h8, h9, h10, h11⟩ := h.ex
  have nS := ne_of_none h1 hD
  have nE := ne_of_none h2 hD
  have nN := ne_of_none h3 hD
  have f := t1.f.trans t2.f
  refine ⟨dx, E, N, st, es, ns, kv, t2.h _ _ nS (t1.h _ _ h1), t2.h _ _ nE (t1.h _ _ h2), t2.h _ _ nN (t1.h _ _ h3), h4, h5, h6, t2.n _ _ nS (t1.h _ _ h1) (t1.n _ _ h1 h7), t2.n _ _ nE (t1.h _ _ h2) (t1.n _ _ h2 h8), t2.n _ _ nN (t1.h _ _ h3) (t1.n _ _ h3 h9), rp_mono f h10, ?_⟩
  cases re with
  | none => exact h11
  | some ls => exact dp_mono f h11
theorem RpE.part {K : PySem.W.Frag} {Hf Hf' : Hp} {σ : L2.St} {ρ ρ' : En} (h : RpE K Hf σ ρ) (hl : ρ'.length = ρ.length) (k : ∀ (j : Nat) (d : Dt), ρ'[j]? = some (some d) → ∃ d0 : Dt, ρ[j]? = some (some d0) ∧ ∀ v, Rp K Hf v d0 → Rp K Hf' v d) : RpE K Hf' σ ρ' := ⟨by rw [h.len, hl], fun j d e => by
  obtain ⟨d0, h1, h2⟩ := k j d e
  obtain ⟨v, h3, h4⟩ := h.get j d0 h1
  exact ⟨v, h3, h2 v h4⟩⟩
/-! ### the seeker's methods, called -/
section
variable {i : XI} {σ : L2.St} {Hf H : Hp} {Q : VK} {f : Fd} {c m : Nat} {S : Addr} {ws : List Ws} {re : Option (List QL)}
theorem ex_standing {o : Expr} {pos apos : Pos} {pl : Env → Sem Bool} (H0 : Hd i.K i.mg) (hk : 1 ≤ i.k) (ex : Ex Hf H) (sk : Sk i.K f c S m ws re Hf H) (ho : ∀ R : VK, R (.ref S) H → EX i o σ H R) (q : ∀ v, Dp i.K Hf v (.tuple (ws.map wsD)) → Q v H)
    (ht : ∀ env, eval (.Call (.Attribute o "standing" apos) [] [] pos) env = (do
      let ov ← eval o env
      standAt apos.atName
      let (f, first) ← holding [ov] (getMethod ov "standing" (pl env))
      callWith pos f first (backTo pos (starEach [] env)) (backToKw pos (keywordEach [] env))) := by intro _; rfl) : EX i (.Call (.Attribute o "standing" apos) [] [] pos) σ H Q := by
  have cS := cl_of H0 (x := "Seeker") (j := 86) (by kernel_rfl)
  obtain ⟨dx, _, _, _, _, _, _, h1, _⟩ := sk.ex
  refine ex_meth0 (p_standing H0) hk cS (ho _ ⟨S, dx, _, rfl, h1, rfl, ?_⟩) ht
  exact ⟨rfl, Hf, fun v Hf' H' => Hf' = Hf ∧ H' = H ∧ Dp i.K Hf v (.tuple (ws.map wsD)), ex, ⟨f, c, S, m, ws, re, rfl, sk, fun v dv => ⟨rfl, rfl, dv⟩⟩, fun v Hf1 H1 _ _ ⟨a, b, d⟩ => by rw [b]; exact q v d⟩
theorem ex_fitG {o : Expr} {pos apos : Pos} {pl : Env → Sem Bool} (H0 : Hd i.K i.mg) (O : OneOk i.w i.K) (hk : 13 ≤ i.k) (ex : Ex Hf H) (sk : Sk i.K f c S m ws re Hf H) (ok : FitOk f ws re)
    (ho : ∀ R : VK, R (.ref S) H → EX i o σ H R) (q : ∀ ls v Hf' H', OkRe f ls → Ex Hf Hf' → Ex Hf' H' → Sk i.K f c S m ws (some ls) Hf' H' → Dp i.K Hf' v (.tuple ((fitL ls c ws).map lotD)) → Q v H')
    (ht : ∀ env, eval (.Call (.Attribute o "fitting" apos) [] [] pos) env = (do
      let ov ← eval o env
      standAt apos.atName
      let (f, first) ← holding [ov] (getMethod ov "fitting" (pl env))
      callWith pos f first (backTo pos (starEach [] env)) (backToKw pos (keywordEach [] env))) := by intro _; rfl) : EX i (.Call (.Attribute o "fitting" apos) [] [] pos) σ H Q := by
  have cS := cl_of H0 (x := "Seeker") (j := 86) (by kernel_rfl)
  obtain ⟨dx, _, _, _, _, _, _, h1, _⟩ := sk.ex
  refine ex_meth0 (p_fitting H0 O) hk cS (ho _ ⟨S, dx, _, rfl, h1, rfl, ?_⟩) ht
  exact ⟨rfl, Hf, fun v Hf' H' => ∃ ls, OkRe f ls ∧ Sk i.K f c S m ws (some ls) Hf' H' ∧ Dp i.K Hf' v (.tuple ((fitL ls c ws).map lotD)), ex, ⟨f, c, S, m, ws, re, rfl, ok, sk, fun ls v _ _ a _ b d => ⟨ls, a, b, d⟩⟩, fun v Hf1 H1 e1 e2 ⟨ls, a, b, d⟩ => q ls v Hf1 H1 a e1 e2 b d⟩
theorem ex_ask {ls : List QL} {o : Expr} {pos apos : Pos} {pl : Env → Sem Bool} (H0 : Hd i.K i.mg) (O : OneOk i.w i.K) (hk : 14 ≤ i.k) (ex : Ex Hf H) (sk : Sk i.K f c S m ws (some ls) Hf H) (ok : FitOk f ws (some ls)) (h2 : (f.bk.headD []).length ≤ 2)
    (ho : ∀ R : VK, R (.ref S) H → EX i o σ H R) (q : ∀ v Hf' H', Ex Hf Hf' → Ex Hf' H' → Sk i.K f c S m ws (some ls) Hf' H' → ((asks (fitL ls c ws) = [] ∧ v = .non) ∨ ∃ x ∈ asks (fitL ls c ws), (∀ y ∈ asks (fitL ls c ws), askW x ≤ askW y) ∧ Dp i.K Hf' v (plcD (x.1, x.2.1))) → Q v H')
    (ht : ∀ env, eval (.Call (.Attribute o "ask" apos) [] [] pos) env = (do
      let ov ← eval o env
      standAt apos.atName
      let (f, first) ← holding [ov] (getMethod ov "ask" (pl env))
      callWith pos f first (backTo pos (starEach [] env)) (backToKw pos (keywordEach [] env))) := by intro _; rfl) : EX i (.Call (.Attribute o "ask" apos) [] [] pos) σ H Q := by
  have cS := cl_of H0 (x := "Seeker") (j := 86) (by kernel_rfl)
  obtain ⟨dx, _, _, _, _, _, _, h1, _⟩ := sk.ex
  refine ex_meth0 (p_ask H0 O) hk cS (ho _ ⟨S, dx, _, rfl, h1, rfl, ?_⟩) ht
  exact ⟨rfl, Hf, fun v Hf' H' => Sk i.K f c S m ws (some ls) Hf' H' ∧ ((asks (fitL ls c ws) = [] ∧ v = .non) ∨ ∃ x ∈ asks (fitL ls c ws), (∀ y ∈ asks (fitL ls c ws), askW x ≤ askW y) ∧ Dp i.K Hf' v (plcD (x.1, x.2.1))), ex,
    ⟨f, c, S, m, ws, some ls, rfl, ok, h2, ok.ok.bk.hi, sk, fun ls' v _ _ _ e a d => by have e : ls' = ls := e; subst e; exact ⟨a, d⟩⟩, fun v Hf1 H1 e1 e2 ⟨a, d⟩ => q v Hf1 H1 e1 e2 a d⟩
theorem ex_least {ls : List QL} {o : Expr} {pos apos : Pos} {pl : Env → Sem Bool} (H0 : Hd i.K i.mg) (O : OneOk i.w i.K) (hk : 14 ≤ i.k) (ex : Ex Hf H) (sk : Sk i.K f c S m ws (some ls) Hf H) (ok : FitOk f ws (some ls))
    (ho : ∀ R : VK, R (.ref S) H → EX i o σ H R) (q : ∀ v Hf' H', Ex Hf Hf' → Ex Hf' H' → Sk i.K f c S m ws (some ls) Hf' H' → (fitL ls c ws = [] → v = .non) → (∀ l rest, fitL ls c ws = l :: rest → Dp i.K Hf' v l.q) → Q v H')
    (ht : ∀ env, eval (.Call (.Attribute o "least" apos) [] [] pos) env = (do
      let ov ← eval o env
      standAt apos.atName
      let (f, first) ← holding [ov] (getMethod ov "least" (pl env))
      callWith pos f first (backTo pos (starEach [] env)) (backToKw pos (keywordEach [] env))) := by intro _; rfl) : EX i (.Call (.Attribute o "least" apos) [] [] pos) σ H Q := by
  have cS := cl_of H0 (x := "Seeker") (j := 86) (by kernel_rfl)
  obtain ⟨dx, _, _, _, _, _, _, h1, _⟩ := sk.ex
  refine ex_meth0 (p_least H0 O) hk cS (ho _ ⟨S, dx, _, rfl, h1, rfl, ?_⟩) ht
  exact ⟨rfl, Hf, fun v Hf' H' => Sk i.K f c S m ws (some ls) Hf' H' ∧ (fitL ls c ws = [] → v = .non) ∧ ∀ l rest, fitL ls c ws = l :: rest → Dp i.K Hf' v l.q, ex,
    ⟨f, c, S, m, ws, some ls, rfl, ok, sk, fun ls' v _ _ _ e a b d => by have e : ls' = ls := e; subst e; exact ⟨a, b, d⟩⟩, fun v Hf1 H1 e1 e2 ⟨a, b, d⟩ => q v Hf1 H1 e1 e2 a b d⟩
/-- [one for one in seeker.standing() if one[:2] == place] -/
theorem lc_stand {ρ : En} {o : Expr} {ifs : List Expr} {scope : Scope} {pos apos xpos : Pos} {pl : Env → Sem Bool} {g : TG} {b : Nat} {r : Row} {x : Str} (own : List (Str × Nat)) (H0 : Hd i.K i.mg) (hk : 1 ≤ i.k) (hρ : RpE i.K Hf σ ρ) (ex : Ex Hf H) (sk : Sk i.K f c S m ws re Hf H) (hw : ws.length ≤ 1000) (ho : ∀ R : VK, R (.ref S) H → EX i o σ H R)
    (turn : ∀ y ∈ ws, ∃ ρx, GD (i.blk scope) g (own.map (·.2)) (wipeE ρ (own.map (·.2))) ρx (.py (wsD y)) ∧ EI (i.blk scope) ifs ρx (fun t => t = atW b r y) ∧ EE (i.blk scope) (.Name x xpos) ρx (fun z => z = .py (wsD y)))
    (q : ∀ D Hf' H', H D = none → Tr Hf H Hf' H' → GL i.K D ((ws.filter (atW b r)).map wsD) Hf' H' → Q (.ref D) H')
    (ht : ∀ env, eval (.Call (.Attribute o "standing" apos) [] [] pos) env = (do
      let ov ← eval o env
      standAt apos.atName
      let (f, first) ← holding [ov] (getMethod ov "standing" (pl env))
      callWith pos f first (backTo pos (starEach [] env)) (backToKw pos (keywordEach [] env))) := by intro _; rfl) :
    tLc (iTup i.K (EX i (.Call (.Attribute o "standing" apos) [] [] pos))) g (IX (i.blk scope) ifs) (EX (i.blk scope) (.Name x xpos)) (own.map (·.2)) σ H Q := by
  refine lc_tup (ex_standing H0 hk ex sk ho (fun v dv => ?_) ht)
  obtain ⟨a, xs, rfl, h1, d1⟩ := dp_tup dv
  refine ⟨a, rfl, ⟨xs, ex_t ex h1⟩, lc_rest own hρ ex (srcT h1 d1) (by rw [List.length_map, List.length_map]; omega) (fun k acc => acc = ((ws.take k).filter (atW b r)).map wsD) (by rw [List.take_zero]; rfl) (fun k d acc hd ea => ?_) fun D zs Hf' H' hD t g ez => ?_⟩
  · rw [List.getElem?_map, List.getElem?_map, Option.map_map] at hd
    obtain ⟨y, hy, rfl⟩ := Option.map_eq_some_iff.mp hd
    obtain ⟨ρx, h1, h2, h3⟩ := turn y (List.mem_of_getElem? hy)
    refine ⟨ρx, h1, fun σ' Hf' H' Q' r' e' q' => h2 σ' Hf' H' Q' r' e' fun t Hf2 H2 tr et => q' t Hf2 H2 tr ?_⟩
    subst et
    subst ea
    rw [List.take_add_one, hy, Option.toList_some, List.filter_append]
    cases hc : atW b r y with
    | true =>
      refine iteT (h3.imp fun z ez => ⟨_, ez, ?_⟩)
      rw [List.filter_cons, if_pos hc, List.filter_nil, List.map_append]
      rfl
    | false =>
      refine iteF ?_
      rw [List.filter_cons, hc, List.filter_nil]
      simp
  · rw [List.length_map, List.length_map, List.take_length] at ez
    subst ez
    exact q D Hf' H' hD t g
end
end Fq
/-! FqLf: the law. -/
namespace Fq
open PySem PySem.Spec PyProof.Rows L2 Evl LamX NdefX
open RZ
theorem yesT {A B : Prop} (h : if true = true then A else B) : A := by
  rw [if_pos rfl] at h
  exact h
theorem noF {A B : Prop} (h : if false = true then A else B) : B := by
  rw [if_neg (by decide)] at h
  exact h
section
variable {i : XI} {D : Ends} {σ : L2.St} {H : Hp} {pos : Pos} {rest : List Stmt}
theorem go_ifZ {c : Expr} {th el : List Stmt} (Z : L2.St → Hp → Prop) (h : TX i c σ H fun k H1 => if k = true then GO i th { D with nx := Z } σ H1 else GO i el { D with nx := Z } σ H1) (z : ∀ σ' H', Z σ' H' → GO i rest D σ' H') : GO i (.If c th el pos :: rest) D σ H :=
  go_if (h.mono fun k H1 hh => by
    cases k with
    | true => exact iteT (GO.mono (yesT hh) (fun σ' H' q => z σ' H' q) (fun _ _ q => q) (fun _ _ q => q) (fun _ _ q => q))
    | false => exact iteF (GO.mono (noF hh) (fun σ' H' q => z σ' H' q) (fun _ _ q => q) (fun _ _ q => q) (fun _ _ q => q)))
end
theorem EE.go {i : XI} {ρ : En} {σ : L2.St} {Hf H : Hp} {e : Expr} {Φ : Dt → Prop} {Q : VK} (hρ : RpE i.K Hf σ ρ) (ex : Ex Hf H) (h : EE i e ρ Φ) (q : ∀ v d Hf' H', Tr Hf H Hf' H' → Rp i.K Hf' v d → Φ d → Q v H') : EX i e σ H Q := h σ Hf H Q hρ ex q
theorem sqL_delT {K : PySem.W.Frag} {H : Hp} {D a : Addr} {ps : Array Value} {xs : List V} (hD : H D = some (.tbl ps)) (h : SqL K H a xs) : SqL K (del H D) a xs := by
  rcases h with (h | ⟨o, h⟩) | h
  · exact .inl (.inl (by rw [del_ne (ne_of h hD (fun z => by cases z))]; exact h))
  · exact .inl (.inr ⟨o, by rw [del_ne (ne_of h hD (fun z => by cases z))]; exact h⟩)
  · exact .inr h
theorem ints_dp {K : PySem.W.Frag} {H : Hp} : ∀ ns : List Int, DpAll K H (ns.map V.int) (ns.map PyData.int)
  | [] => .nil
  | n :: ns => .cons (.int n) (ints_dp ns)
def wordsL : List (List Str) := [["join", "less", "same", "take"], ["take", "union", "with"], ["below", "value", "without", "take"]]
theorem wordsL_ok : ∀ l ∈ wordsL, l.length ≤ 9 ∧ ∀ x ∈ l, x ∈ deedsS := by
  intro l hl
  unfold wordsL at hl
  simp only [List.mem_cons, List.not_mem_nil, or_false] at hl
  rcases hl with rfl | rfl | rfl
  all_goals
    refine ⟨by decide, fun x hx => ?_⟩
    simp only [List.mem_cons, List.not_mem_nil, or_false] at hx
    unfold deedsS
    rcases hx with rfl | rfl | rfl | rfl <;> simp
/-- wishes that are put in -/
structure WsOk (f : Fd) (ws : List Ws) (n : Nat) : Prop where
  len : ws.length ≤ n
  h3 : ∀ y ∈ ws, y.2.1.length ≤ 3
  hb : ∀ y ∈ ws, y.1 < f.bk.length
/-- a place of a field -/
def PlOk (f : Fd) (c : Nat) (q : Nat × Row) : Prop := q.1 < f.bk.length ∧ OkR c q.2
theorem fit_200 {f : Fd} {ls : List QL} (h : OkRe f ls) (ok : OkF f) (c : Nat) (ws : List Ws) : (fitL ls c ws).length ≤ 200 := by
  have a1 := fit_len ls c ws
  have a2 := h.len1 ok
  omega
theorem fit_an {f : Fd} {ls : List QL} (h : OkRe f ls) (ok : OkF f) (c : Nat) (ws : List Ws) : ∀ l ∈ fitL ls c ws, l.an.length ≤ 3 ∧ ∀ rs ∈ l.an, rs.length ≤ 6 := fun l hl => by
  have o := fit_ok h c ws l hl
  exact ⟨by rw [o.an]; exact ok.bk.hi, fun rs hrs => (o.rs rs hrs).2.1⟩
theorem lot_at {f : Fd} {ls : List QL} (h : OkRe f ls) {c : Nat} {ws : List Ws} {l : Lot} (hl : l ∈ fitL ls c ws) {q : Nat × Row} (h2 : q.2 ∈ l.an.getD q.1 []) : PlOk f c q := by
  have o := fit_ok h c ws l hl
  have hc : l.c = c := by
    have := (List.mem_filter.mp hl).2
    rw [Bool.and_eq_true] at this
    exact of_decide_eq_true this.1
  have hb : q.1 < l.an.length := by
    refine Classical.byContradiction fun z => ?_
    rw [List.getD_eq_getElem?_getD, List.getElem?_eq_none (by omega)] at h2
    cases h2
  rw [List.getD_eq_getElem?_getD, List.getElem?_eq_getElem hb] at h2
  have := (o.rs _ (List.getElem_mem hb)).2.2 q.2 h2
  rw [hc] at this
  exact ⟨by rw [← o.an]; exact hb, this⟩
theorem ps_ok {f : Fd} {ls : List QL} (h : OkRe f ls) {c : Nat} {ws : List Ws} {ps : List (Nat × Row)} (p : PsOk (fitL ls c ws) ps) : ∀ q ∈ ps, PlOk f c q := fun q hq => by
  obtain ⟨l, hl, _, h2⟩ := p.at' q hq
  exact lot_at h hl h2
theorem ps_len {f : Fd} {ls : List QL} (h : OkRe f ls) (ok : OkF f) {c : Nat} {ws : List Ws} {ps : List (Nat × Row)} (p : PsOk (fitL ls c ws) ps) : ps.length ≤ 3600 := by
  have a1 := p.len
  have a2 := fit_200 h ok c ws
  omega
theorem wss_pl (l : List Ws) : Pl (.list (l.map wsD)) := by
  have h1 : ∀ x : Ws, (wsD x).plain = true := fun x => by
    unfold wsD
    rw [PyData.plain, PyData.plainAll, PyData.plainAll, PyData.plainAll, PyData.plainAll, row_plain]
    rfl
  have h2 : ∀ x : Ws, (wsD x).depth ≤ 5 := fun x => by
    unfold wsD
    simp only [PyData.depth, PyData.depthAll, row_depth]
    omega
  refine ⟨?_, ?_⟩
  · rw [PyData.plain]
    exact plA wsD l fun x _ => h1 x
  · rw [PyData.depth]
    have := deA wsD 5 l fun x _ => h2 x
    omega
theorem filter_none {α : Type} (p : α → Bool) (l : List α) : (l.filter p).isEmpty = !(l.any p) := by
  induction l with
  | nil => rfl
  | cons x l ih =>
    rw [List.filter_cons, List.any_cons]
    cases p x
    · rw [if_neg (by decide), ih]
      rfl
    · rw [if_pos rfl]
      rfl
def askO : Option (Nat × Row) → PyData
  | none => .none
  | some q => plcD q
/-- what is asked about -/
def AskOk (f : Fd) (c : Nat) (ls : List Lot) (o : Option (Nat × Row)) : Prop := (o = none → ls.length ≤ 1) ∧ ∀ q, o = some q → PlOk f c q ∧ max (nHas ls q) (ls.length - nHas ls q) ≠ ls.length ∧ ∀ q' : Nat × Row, q'.1 < f.bk.length → 0 < nHas ls q' → nHas ls q' < ls.length → max (nHas ls q) (ls.length - nHas ls q) ≤ max (nHas ls q') (ls.length - nHas ls q')
theorem RpE.bare {K : PySem.W.Frag} {Hf : Hp} {σ : L2.St} {ρ : En} (h : RpE K Hf σ ρ) (Hf' : Hp) : RpE K Hf' σ (ρ.map fun _ => none) := ⟨by rw [List.length_map, h.len], fun j d e => by
  rw [List.getElem?_map] at e
  cases q : ρ[j]? <;> rw [q] at e <;> cases e⟩
theorem ET.go {i : XI} {ρ : En} {σ : L2.St} {Hf H : Hp} {e : Expr} {Φ : Bool → Prop} {Q : Bool → Hp → Prop} (hρ : RpE i.K Hf σ ρ) (ex : Ex Hf H) (h : ET i e ρ Φ) (q : ∀ b Hf' H', Tr Hf H Hf' H' → Φ b → Q b H') : TX i e σ H Q := h σ Hf H Q hρ ex q
def nines (c : Nat) : Row := List.replicate c (.n 9)
theorem nines_eq (c : Nat) : PyData.tuple (List.replicate c [PyData.int 9]).flatten = rowD (nines c) := by
  unfold rowD nines
  rw [List.map_replicate, List.flatten_replicate_singleton]
  rfl
theorem nines_ok {c : Nat} (h1 : 1 ≤ c) (h3 : c ≤ 3) : OkR c (nines c) := ⟨List.length_replicate, h1, h3, fun v hv => by
  rw [List.eq_of_mem_replicate hv]
  exact ⟨by decide, by decide⟩⟩
section
variable {P : Program} {w : World} {K : PySem.W.Frag} {mg : Str → Option Value} {base : Heap}
def sp_law (K : PySem.W.Frag) (tp : Addr) : Sp := fun vs H Q _ => ∃ (a : Addr) (ns : List Int), vs = [V.ref a] ∧ H tp = some (.tbl #[]) ∧ SqL K H a (ns.map V.int) ∧ ∀ H', Q (.bl true) H'
theorem law_go {cc tp : Addr} (H : Hd K mg) (O : OneOk w K) (L : LamAt K mg base cc tp) (vs : List V) (H0 : Hp) (Q : VK) (E : XK) (h : sp_law K tp vs H0 Q E) : GO (iOf P w K mg base N_law d_law.scope 14) d_law.body { nx := fun _ H' => Q .non H', rt := Q } (L2.start N_law vs) H0 := by
  obtain ⟨a, ns, rfl, hT, hS, qq⟩ := h
  have ex0 : Ex (del H0 tp) H0 := fun b o hb => by
    by_cases e : b = tp
    · rw [e, del_self] at hb
      cases hb
    · rw [del_ne e] at hb
      exact hb
  have tb0 : TbA tp qLam (del H0 tp) H0 := ⟨del_self, TabS.nil hT⟩
  have d0 : Dp K (del H0 tp) (.ref a) (.list (ns.map PyData.int)) := .lst (sqL_delT hT hS) (ints_dp ns)
  have ρ0 : RpE K (del H0 tp) (L2.start N_law [V.ref a]) [some (.py (.list (ns.map PyData.int))), none, none, none, none, none, none, none, none, none, none, none, none, none, none, none, none] := RpE.of_args (vs := [V.ref a]) (ds := [.py (.list (ns.map PyData.int))]) 16 (.cons (rpy d0) .nil)
  generalize del H0 tp = Hf0 at ex0 tb0 d0 ρ0
  refine go_set 1 (ex_lst (ax_cons (ex_var 0 rfl (ax_cons (ex_int (ax_cons (ex_int (ax_cons (ex_int (ax_nil ⟨Nat.le_of_ble_eq_true rfl, fun LA hL => ?_⟩))))))))))
  refine go_plan (L := LA) (sc := a) upd_same (by decide) (by decide) ?_
  rw [upd_upd]
  have t0 := Tr.new (o := .ext (dwP LA a)) ex0 hL
  have tb1 := tb0.step t0
  have ρ1 : RpE K (upd Hf0 LA (.ext (dwP LA a))) ((L2.start N_law [V.ref a]).set 1 (some (.ref LA))) [none, some (dwD K a ns), none, none, none, none, none, none, none, none, none, none, none, none, none, none, none] := ((ρ0.mono t0.f).set (j := 1) (v := .ref LA) (d := dwD K a ns) ⟨LA, rfl, upd_same, dp_mono t0.f d0⟩).sub (by repeat (first | exact sub_nil | refine sub_same ?_ | refine sub_drop ?_))
  have ex1 := t0.i
  generalize (L2.start N_law [V.ref a]).set 1 (some (V.ref LA)) = σ1 at ρ1
  generalize upd Hf0 LA (.ext (dwP LA a)) = Hf1 at tb1 ρ1 ex1
  generalize upd H0 LA (.ext (dwP LA a)) = H1 at tb1 ex1
  clear ρ0 d0 tb0 ex0 t0 hL hT hS
  refine gm_set (Φ := fun d => d = .py (.list (wordsL.map fun l => PyData.list (l.map PyData.str)))) 2 ρ1 ex1 (ee_lst ?_) fun v d Hf2 H2 t2 r2 _ ed => ?_
  · refine ea_cons (ee_lst (ea_cons (ee_str (ea_cons (ee_str (ea_cons (ee_str (ea_cons (ee_str (ea_nil ⟨_, .cons (.cons (.cons (.cons .nil))), Nat.le_of_ble_eq_true rfl, ?_⟩))))))))))
    refine ea_cons (ee_lst (ea_cons (ee_str (ea_cons (ee_str (ea_cons (ee_str (ea_nil ⟨_, .cons (.cons (.cons .nil)), Nat.le_of_ble_eq_true rfl, ?_⟩))))))))
    refine ea_cons (ee_lst (ea_cons (ee_str (ea_cons (ee_str (ea_cons (ee_str (ea_cons (ee_str (ea_nil ⟨_, .cons (.cons (.cons (.cons .nil))), Nat.le_of_ble_eq_true rfl, ?_⟩))))))))))
    exact ea_nil ⟨_, .cons (.cons (.cons .nil)), Nat.le_of_ble_eq_true rfl, rfl⟩
  subst ed
  have ρ2 : RpE K Hf2 (σ1.set 2 (some v)) [none, some (dwD K a ns), some (.py (.list (wordsL.map fun l => PyData.list (l.map PyData.str)))), none, none, none, none, none, none, none, none, none, none, none, none, none, none] := r2
  have tb2 := tb1.step t2
  have ex2 := t2.i
  generalize σ1.set 2 (some v) = σ2 at ρ2 r2
  clear r2 ρ1 tb1 t2 ex1
  refine go_set 3 (ex_call (p_law_small H L).fnc rfl (EA.go (Φ := fun ds => ∃ ws ∈ wordsL, ds = [dwD K a ns, .py (.list (ws.map PyData.str))]) ρ2 ex2 (ea_cons (ee_var 1 rfl (ea_cons (ee_ixL (ee_var 2 rfl (ee_take (sc := a) (ns := ns) H (Nat.le_of_ble_eq_true rfl) 3 (by decide) (by decide) (ee_var 1 rfl ⟨rfl, ee_int ⟨rfl, fun n hn => ?_⟩⟩))))))) fun vs ds Hf3 H3 t3 r3 ⟨ws, hws, eds⟩ => ?_))
  · have hl : wordsL.length = 3 := rfl
    exact ⟨_, (n : Int), .list ((wordsL[n]'(by omega)).map PyData.str), rfl, rfl, atI_nat (by rw [List.getElem?_map, List.getElem?_eq_getElem (by omega : n < wordsL.length)]; rfl), ea_nil ⟨_, List.getElem_mem _, rfl⟩⟩
  subst eds
  obtain ⟨w1, w2⟩ := wordsL_ok ws hws
  refine ⟨Hf3, a, ns, ws, by rw [List.append_nil]; exact r3, t3.i, w1, w2, tb2.step t3, fun v Hf4 H4 bs nm dd z e4 ex4 dv sm => ?_⟩
  have ρ4 : RpE K Hf4 (σ2.set 3 (some v)) [none, some (dwD K a ns), none, some (.py (.list [bksD bs, nmD nm, ddD dd, z])), none, none, none, none, none, none, none, none, none, none, none, none, none] := ((ρ2.mono (t3.f.trans e4)).set (j := 3) (v := v) (d := .py (.list [bksD bs, nmD nm, ddD dd, z])) (rpy dv)).sub (by repeat (first | exact sub_nil | refine sub_same ?_ | refine sub_drop ?_))
  show GO _ _ _ (σ2.set 3 (some v)) _
  generalize σ2.set 3 (some v) = σ4 at ρ4 ⊢
  clear ρ2 tb2 ex2 e4 dv r3 t3 hws w1 w2
  refine gm_set (Φ := fun d => ∃ c : Nat, 1 ≤ c ∧ c ≤ 2 ∧ d = .py (.int (c : Int))) 4 ρ4 ex4 (ee_op (ee_int (ee_take (sc := a) (ns := ns) H (Nat.le_of_ble_eq_true rfl) 2 (by decide) (by decide) (ee_var 1 rfl ⟨rfl, ee_int ⟨rfl, fun n hn => od_add ⟨1 + n, by omega, by omega, ?_⟩⟩⟩)))) fun v d Hf5 H5 t5 r5 _ ⟨c, c1, c2, ed⟩ => ?_
  · rw [show (1 + (n : Int)) = ((1 + n : Nat) : Int) by omega]
  subst ed
  have ρ5 : RpE K Hf5 (σ4.set 4 (some v)) [none, some (dwD K a ns), none, some (.py (.list [bksD bs, nmD nm, ddD dd, z])), some (.py (.int (c : Int))), none, none, none, none, none, none, none, none, none, none, none, none] := r5
  have ex5 := t5.i
  generalize σ4.set 4 (some v) = σ5 at ρ5 r5
  clear r5 ρ4 t5 ex4
  refine go_set 5 (ex_mkSeeker H (Nat.le_of_ble_eq_true rfl) rfl (ax_cons (ex_mkField H (Nat.le_of_ble_eq_true rfl) rfl (ax_cons (EE.go (Φ := fun d => d = .py (bksD bs)) ρ5 ex5 (ee_ixL (ee_var 3 rfl (ee_int ⟨_, 0, bksD bs, rfl, rfl, atI_nat (j := 0) rfl, rfl⟩))) fun va da Hf6 H6 t6 ra ea => ax_nil ?_)))))
  · subst ea
    have ρ6 := ρ5.mono t6.f
    refine kx_cons (EE.go (Φ := fun d => d = .py (nmD nm)) ρ6 t6.i (ee_ixL (ee_var 3 rfl (ee_int ⟨_, 1, nmD nm, rfl, rfl, atI_nat (j := 1) rfl, rfl⟩))) fun vb db Hf7 H7 t7 rb eb => ?_)
    subst eb
    have ρ7 := ρ6.mono t7.f
    refine kx_cons (EE.go (Φ := fun d => d = .py (ddD dd)) ρ7 t7.i (ee_ixL (ee_var 3 rfl (ee_int ⟨_, 2, ddD dd, rfl, rfl, atI_nat (j := 2) rfl, rfl⟩))) fun vc dc Hf8 H8 t8 rc ec => kx_nil ?_)
    subst ec
    have ρ8 := ρ7.mono t8.f
    obtain ⟨v4, hv4, d4⟩ := ρ8.get 4 _ rfl
    have d4 : Dp K Hf8 v4 (.int (c : Int)) := d4
    refine ⟨va, vb, vc, Hf8, bs, nm, dd, rfl, rfl, t8.i, dp_mono (t7.f.trans t8.f) ra, sm.bk, dp_mono t8.f rb, sm.nz, sm.nm, rc, sm.dz, sm.dd, fun x Hf9 H9 t9 rf => ?_⟩
    refine ax_cons (ex_int (ax_cons (ex_var 4 hv4 (ax_nil ?_))))
    cases d4
    refine ⟨.ref x, Hf9, ⟨bs, vrisenM nm, deedsS.filter fun x => decide (x ∈ dd)⟩, c, rfl, t9.i, rf, c1, by omega, fun S Hf10 H10 t10 sk => ?_⟩
    have okf : OkF ⟨bs, vrisenM nm, deedsS.filter fun x => decide (x ∈ dd)⟩ := ⟨sm.bk, fun v hv => sm.nm v ((vrisenM_mem nm v).mp hv), Nat.le_trans (vrisenM_len nm) sm.nz, fun x hx => (List.mem_filter.mp hx).1, List.filter_sublist, List.length_filter_le _ _⟩
    have ρ10 : RpE K Hf10 (σ5.set 5 (some (.ref S))) [none, some (dwD K a ns), none, none, some (.py (.int (c : Int))), some (refDt S), none, none, none, none, none, none, none, none, none, none, none] := ((ρ8.mono (t9.f.trans t10.f)).set (j := 5) (v := .ref S) (d := refDt S) rfl).sub (by repeat (first | exact sub_nil | refine sub_same ?_ | refine sub_drop ?_))
    have hbk : (({ bk := bs, nm := vrisenM nm, dd := deedsS.filter fun x => decide (x ∈ dd) } : Fd).bk.headD []).length ≤ 2 := sm.h2
    have ex10 := t10.i
    show GO _ _ _ (σ5.set 5 (some (.ref S))) _
    generalize σ5.set 5 (some (V.ref S)) = σA at ρ10 ⊢
    generalize ({ bk := bs, nm := vrisenM nm, dd := deedsS.filter fun x => decide (x ∈ dd) } : Fd) = f at okf sk hbk rf
    clear rf t10 t9 ρ8 ρ7 ρ6 ρ5 ra rb rc hv4 ex5 t6 t7 t8 sm
    refine gm_for [6] (wx_rng1 rfl (fr_range H)) (gx_name 6) ρ10 ex10 (es_rng1 (Ψ := fun its => ∃ n : Nat, n ≤ 2 ∧ its = rngD 0 n) (ea_cons (ee_take (sc := a) (ns := ns) H (Nat.le_of_ble_eq_true rfl) 3 (by decide) (by decide) (ee_var 1 rfl ⟨rfl, ee_int ⟨rfl, fun n hn => ea_nil ⟨n, rfl, by omega, n, by omega, rfl⟩⟩⟩)))) fun its Hf11 H11 t11 ⟨n, hn, eits⟩ => ?_
    subst eits
    refine ⟨[none, some (dwD K a ns), none, none, some (.py (.int (c : Int))), some (refDt S), none, none, none, none, none, none, none, none, none, none, none], fun j Hx Hy => ∃ ws re, Sk K f c S j ws re Hx Hy ∧ WsOk f ws j ∧ ∀ l, re = some l → OkRe f l, ρ10.mono t11.f, ⟨[], none, sk.step t11, ⟨Nat.le_refl _, (fun _ h => nomatch h), fun _ h => nomatch h⟩, fun _ h => nomatch h⟩,
      (fun j _ _ _ _ hx t => by obtain ⟨ws, re, a, b, c⟩ := hx; exact ⟨ws, re, a.step t, b, c⟩), fun j d hd => ?_, fun σB HfB HB e1 e2 rB hx => ?_⟩
    · have hj : j < n := by
        have := (List.getElem?_eq_some_iff.mp hd).1
        unfold rngD at this
        rw [List.length_map, List.length_range] at this
        exact this
      refine ⟨[none, some (dwD K a ns), none, none, some (.py (.int (c : Int))), some (refDt S), some d, none, none, none, none, none, none, none, none, none, none], gd_name 6, fun σ2 Hf2 H2 e1 e2 r2 hx => ?_⟩
      obtain ⟨ws, re, sk2, wok, rok⟩ := hx
      have fok : FitOk f ws re := ⟨okf, by have := wok.len; omega, wok.hb, rok⟩
      refine go_set 8 (ex_callP (p_places H) (Nat.le_of_ble_eq_true rfl) rfl (ax_cons (ex_fitG H O (Nat.le_of_ble_eq_true rfl) e2 sk2 fok (fun R h => ex_var 5 (r2.ref rfl) h) fun ls v Hf3 H3 okl f3 e3 sk3 dv => ax_nil ⟨Hf3, [.py (.tuple ((fitL ls c ws).map lotD))], fun d => ∃ ps, PsOk (fitL ls c ws) ps ∧ d = ldD K (ps.map plcD), e3, .cons dv .nil, rfl, ⟨fitL ls c ws, rfl, fit_200 okl okf c ws, fit_an okl okf c ws, fun ps h => ⟨ps, h, rfl⟩⟩, fun z d' Hf4 H4 t4 r4 ⟨ps, pok, ed⟩ => ?_⟩)))
      subst ed
      have hps := ps_ok okl pok
      have hpl := ps_len okl okf pok
      have ρ4 : RpE K Hf4 (σ2.set 8 (some z)) [none, some (dwD K a ns), none, none, some (.py (.int (c : Int))), some (refDt S), none, none, some (.py (.list (ps.map plcD))), none, none, none, none, none, none, none, none] := ((r2.mono (f3.trans t4.f)).set (j := 8) (v := z) (d := .py (.list (ps.map plcD))) (ld_py r4)).sub (by repeat (first | exact sub_nil | refine sub_same ?_ | refine sub_drop ?_))
      have ex4 := t4.i
      have sk4 := sk3.step t4
      have F4 : Ex Hf11 Hf4 := e1.trans (f3.trans t4.f)
      show GO _ _ _ (σ2.set 8 (some z)) _
      generalize σ2.set 8 (some z) = σ4 at ρ4 ⊢
      clear r4 t4 sk3 dv e3 f3 r2 sk2 e2 e1 pok
      refine gm_if (Φ := fun b => b = decide (0 < ps.length)) ρ4 ex4 (et_cmp (ee_callB (fr_len H) PySem.boot_len (ea_cons (ee_var 8 rfl (ea_nil (ld_len (n := ps.length) (by show _ = _; rw [List.length_map]) (ee_int (od_gt ⟨_, rfl, ?_⟩)))))) ) (hm := rfl)) fun b Hf5 H5 t5 eb => ?_
      · exact decide_eq_decide.mpr (by omega)
      subst eb
      have ρ5 := ρ4.mono t5.f
      have sk5 := sk4.step t5
      have wok1 : WsOk f ws (j + 1) := ⟨by have := wok.len; omega, wok.h3, wok.hb⟩
      have rok1 : ∀ l, some ls = some l → OkRe f l := fun l e => by cases e; exact okl
      by_cases hp0 : 0 < ps.length
      · rw [decide_eq_true hp0]
        refine iteT (gm_asg (Φ := fun _ => True) [14, 15] (gx_tup (n := 2) (t := gsOf [14, 15]) (gxs_cons (gx_name 14) (gxs_cons (gx_name 15) gxs_nil))) ρ5 t5.i (ee_ixL (ee_var 8 rfl (ee_take (sc := a) (ns := ns) H (Nat.le_of_ble_eq_true rfl) ps.length hp0 (by omega) (ee_var 1 rfl ⟨rfl, ee_callB (fr_len H) PySem.boot_len (ea_cons (ee_var 8 rfl (ea_nil (ld_len (n := ps.length) (by show _ = _; rw [List.length_map]) ⟨rfl, fun n hn => ?_⟩))))⟩)))))
        obtain ⟨q, hq⟩ : ∃ q, q = ps[n] := ⟨_, rfl⟩
        refine ⟨_, (n : Int), plcD q, rfl, rfl, atI_nat (by rw [List.getElem?_map, List.getElem?_eq_getElem hn, ← hq]; rfl), ?_⟩
        have pk := hps q (by rw [hq]; exact List.getElem_mem hn)
        clear hq hn
        obtain ⟨qb, qr⟩ := q
        refine ⟨[none, some (dwD K a ns), none, none, some (.py (.int (c : Int))), some (refDt S), none, none, some (.py (.list (ps.map plcD))), none, none, none, none, none, some (.py (.int (qb : Int))), some (.py (rowD qr)), none], gd_tup (ds := [.int (qb : Int), rowD qr]) [14, 15] rfl rfl, trivial, fun σ6 Hf6 H6 t6 r6 => ?_⟩
        have sk6 := sk5.step t6
        refine go_setLc 12 [("_law_one", 16)] wx_tup (gx_name 16) (lc_stand (b := qb) (r := qr) [("_law_one", 16)] H (Nat.le_of_ble_eq_true rfl) r6 t6.i sk6 (by have := wok.len; omega) (fun R h => ex_var 5 (r6.ref rfl) h) (fun y hy => ⟨_, gd_name 16, ei_one (et_cmp (ee_sliceT (ee_var 16 rfl (ee_int ⟨2, rfl, _, rfl, ?_⟩))) (hm := rfl)), ee_var 16 rfl rfl⟩) fun D Hf7 H7 hD7 t7 g7 => ?_)
        · rw [cut2_ws]
          exact ee_tup (ea_cons (ee_var 14 rfl (ea_cons (ee_var 15 rfl (ea_nil ⟨_, .cons (.cons .nil), Nat.le_of_ble_eq_true rfl, od_eq (plc_pl (y.1, y.2.1)) (plc_pl (qb, qr)) ⟨_, rfl, eqv_plc _ _ _ _⟩⟩)))))
        obtain ⟨Hf8, t8, d8⟩ := g7.adopt t7.i
        have r8 : RpE K Hf8 (σ6.set 12 (some (.ref D))) [none, some (dwD K a ns), none, none, some (.py (.int (c : Int))), some (refDt S), none, none, none, none, none, none, some (.py (.list ((ws.filter (atW qb qr)).map wsD))), none, some (.py (.int (qb : Int))), some (.py (rowD qr)), none] := ((r6.mono (t7.f.trans t8.f)).set (j := 12) (v := .ref D) (rpy d8)).sub (by repeat (first | exact sub_nil | refine sub_same ?_ | refine sub_drop ?_))
        have sk8 : Sk K f c S j ws (some ls) Hf8 H7 := sk6.adopt hD7 t7 t8
        have F8 : Ex Hf11 Hf8 := F4.trans (t5.f.trans (t6.f.trans (t7.f.trans t8.f)))
        have ex8 := t8.i
        show GO _ _ _ (σ6.set 12 (some (.ref D))) _
        generalize σ6.set 12 (some (V.ref D)) = σ8 at r8 ⊢
        clear t8 t7 g7 t6 t5 d8 sk6 sk5 sk4 r6 ρ5 ρ4
        refine gm_if (Φ := fun b => b = !(ws.any (atW qb qr))) r8 ex8 (et_cmp (ee_var 12 rfl (ee_lst (ea_nil ⟨[], .nil, Nat.le_of_ble_eq_true rfl, od_eq (wss_pl _) nil_plL ⟨_, rfl, ?_⟩⟩))) (hm := rfl)) fun b Hf9 H9 t9 eb => ?_
        · rw [eqv_nilL, List.isEmpty_map, filter_none]
        subst eb
        have r9 := r8.mono t9.f
        have sk9 := sk8.step t9
        cases hany : ws.any (atW qb qr) with
        | true => exact iteF (go_nil (go_nil (go_nil ⟨Hf9, F8.trans t9.f, t9.i, r9.sub (by repeat (first | exact sub_nil | refine sub_same ?_ | refine sub_drop ?_)), ws, some ls, sk9.ref _ (by omega), wok1, rok1⟩)))
        | false =>
          obtain ⟨v14, hv14, d14⟩ := r9.get 14 _ rfl
          obtain ⟨v15, hv15, d15⟩ := r9.get 15 _ rfl
          have d14 : Dp K Hf9 v14 (.int (qb : Int)) := d14
          cases d14
          have := wok.len
          have := okf.bk.hi
          refine iteT (go_expr (ex_do (c := c) (b := qb) (r := qr) "wish" (p_wish H) (fun _ _ _ _ _ => rfl) H (Nat.le_of_ble_eq_true rfl) t9.i sk9 ⟨by omega, pk.1, pk.2, by omega, wok.h3, .inr ⟨.inl rfl, hany⟩⟩ (by omega) (fun R h => ex_var 5 (r9.ref rfl) h) (fun R h => ax_cons (ex_var 14 hv14 (ax_cons (ex_var 15 hv15 (ax_nil (h _ d15))))) (fun _ => rfl)) fun v ws' Hf10 H10 e10 x10 hd sk10 => go_nil (go_nil (go_nil ⟨Hf10, F8.trans (t9.f.trans e10), x10, (r9.mono e10).sub (by repeat (first | exact sub_nil | refine sub_same ?_ | refine sub_drop ?_)), ws', some ls, sk10, ?_, rok1⟩))))
          have pm := deed_wish hd
          refine ⟨by rw [pm.length_eq, List.length_append, List.length_singleton]; omega, fun y hy => ?_, fun y hy => ?_⟩
          · rcases List.mem_append.mp (pm.mem_iff.mp hy) with hy | hy
            · exact wok.h3 y hy
            · rw [List.mem_singleton.mp hy]
              show qr.length ≤ 3
              have h1 : qr.length = c := pk.2.len
              omega
          · rcases List.mem_append.mp (pm.mem_iff.mp hy) with hy | hy
            · exact wok.hb y hy
            · rw [List.mem_singleton.mp hy]
              exact pk.1
      · rw [decide_eq_false hp0]
        exact iteF (go_nil (go_nil ⟨Hf5, F4.trans t5.f, t5.i, ρ5.sub (by repeat (first | exact sub_nil | refine sub_same ?_ | refine sub_drop ?_)), ws, some ls, sk5.ref _ (by omega), wok1, rok1⟩))
    · obtain ⟨ws, re, sk, wok, rok⟩ := hx
      have hn2 : (rngD 0 n).length ≤ 2 := by
        unfold rngD
        rw [List.length_map, List.length_range]
        exact hn
      have wok : WsOk f ws 2 := ⟨Nat.le_trans wok.len hn2, wok.h3, wok.hb⟩
      have sk : Sk K f c S 2 ws re HfB HB := sk.ref _ hn2
      have fok : FitOk f ws re := ⟨okf, by have := wok.len; omega, wok.hb, rok⟩
      refine go_set 7 (ex_fitG H O (Nat.le_of_ble_eq_true rfl) e2 sk fok (fun R h => ex_var 5 (rB.ref rfl) h) fun ls v Hf3 H3 okl f3 e3 sk3 dv => ?_)
      have r3 : RpE K Hf3 (σB.set 7 (some v)) [none, some (dwD K a ns), none, none, some (.py (.int (c : Int))), some (refDt S), none, some (.py (.tuple ((fitL ls c ws).map lotD))), none, none, none, none, none, none, none, none, none] := (rB.mono f3).set (j := 7) (v := v) (d := .py (.tuple ((fitL ls c ws).map lotD))) (rpy dv)
      show GO _ _ _ (σB.set 7 (some v)) _
      generalize σB.set 7 (some v) = σ3 at r3 ⊢
      have hfit := fit_ok okl c ws
      have hf200 := fit_200 okl okf c ws
      have hfan := fit_an okl okf c ws
      clear dv f3 sk rB e2 e1 ρ10 ex10 rok t11 fok
      refine gm_set (Φ := fun d => ∃ ps, PsOk (fitL ls c ws) ps ∧ d = ldD K ((ps ++ [(0, nines c)]).map plcD)) 8 r3 e3 (ee_op (ee_call (p_places H).fnc (ea_cons (ee_var 7 rfl (ea_nil ⟨rfl, fitL ls c ws, rfl, hf200, hfan, fun ps pok => ?_⟩))))) fun v d Hf4 H4 t4 r4 rv4 ⟨ps, pok, ed⟩ => ?_
      · have hpl := ps_len okl okf pok
        refine ee_lstO (ea_cons (ee_tup (ea_cons (ee_int (ea_cons (ee_op (ee_tup (ea_cons (ee_int (ea_nil ⟨[.int 9], .cons .nil, Nat.le_of_ble_eq_true rfl, ee_var 4 rfl (od_mulR (fun h => nomatch h) c1 (by omega) (Nat.le_of_ble_eq_true rfl) ?_)⟩))))))))))
        rw [nines_eq]
        refine ea_nil ⟨[.int 0, rowD (nines c)], .cons (.cons .nil), Nat.le_of_ble_eq_true rfl, ea_nil ⟨[plcD (0, nines c)], .cons .nil, Nat.le_of_ble_eq_true rfl, od_addLO (by rw [List.length_map, List.length_singleton]; omega) ⟨ps, pok, ?_⟩⟩⟩
        rw [List.map_append]
        rfl
      subst ed
      have hps : ∀ q ∈ ps ++ [(0, nines c)], PlOk f c q := fun q hq => by
        rcases List.mem_append.mp hq with hq | hq
        · exact ps_ok okl pok q hq
        · rw [List.mem_singleton.mp hq]
          exact ⟨okf.bk.lo, nines_ok c1 (by omega)⟩
      have hpl := ps_len okl okf pok
      have hpn : 0 < (ps ++ [(0, nines c)]).length := by rw [List.length_append]; exact Nat.succ_pos _
      have hpz : (ps ++ [(0, nines c)]).length ≤ 3601 := by rw [List.length_append, List.length_singleton]; omega
      have ρ4 : RpE K Hf4 (σ3.set 8 (some v)) [none, some (dwD K a ns), none, none, some (.py (.int (c : Int))), some (refDt S), none, some (.py (.tuple ((fitL ls c ws).map lotD))), some (.py (.list ((ps ++ [(0, nines c)]).map plcD))), none, none, none, none, none, none, none, none] := (r3.mono t4.f).set (j := 8) (v := v) (ld_py rv4)
      have sk4 := sk3.step t4
      have ex4 := t4.i
      generalize ps ++ [(0, nines c)] = ps at hps ρ4 hpn hpz
      generalize σ3.set 8 (some v) = σ4 at r4 ρ4 ⊢
      clear r4 t4 sk3 r3 e3 pok
      refine go_setLc 9 [("_law_k", 13)] (wx_rng1 rfl (fr_range H)) (gx_name 13) (lc_es ρ4 ex4 (es_rng1 (Ψ := fun its => its = rngD 0 2) (ea_cons (ee_int (ea_nil ⟨2, rfl, by decide, rfl⟩)))) fun J its Hf5 H5 t5 S5 eits => lc_rest [("_law_k", 13)] (ρ4.mono t5.f) t5.i S5 (by rw [eits]; decide) (fun j acc => ∃ qs : List (Nat × Row), acc = qs.map plcD ∧ qs.length = j ∧ ∀ q ∈ qs, q ∈ ps) ⟨[], rfl, rfl, fun _ h => nomatch h⟩ (fun j x acc hx ⟨qs, ea, ql, qok⟩ => ?_) fun D9 zs Hf6 H6 hD t6 g6 ⟨qs, ez, ql, qok⟩ => ?_)
      · refine ⟨_, gd_name 13, ei_nil (iteT (ee_ixL (ee_var 8 rfl (ee_take (sc := a) (ns := ns) H (Nat.le_of_ble_eq_true rfl) ps.length hpn (by omega) (ee_var 1 rfl ⟨rfl, ee_callB (fr_len H) PySem.boot_len (ea_cons (ee_var 8 rfl (ea_nil (ld_len (n := ps.length) (by show _ = _; rw [List.length_map]) ⟨rfl, fun n hn => ?_⟩))))⟩)))))⟩
        refine ⟨_, (n : Int), plcD ps[n], rfl, rfl, atI_nat (by rw [List.getElem?_map, List.getElem?_eq_getElem hn]; rfl), _, rfl, qs ++ [ps[n]], ?_, ?_, ?_⟩
        · rw [ea, List.map_append]
          rfl
        · rw [List.length_append, ql]
          rfl
        · intro q hq
          rcases List.mem_append.mp hq with hq | hq
          · exact qok q hq
          · rw [List.mem_singleton.mp hq]
            exact List.getElem_mem hn
      subst eits ez
      have ql : qs.length = 2 := ql
      obtain ⟨vs, Hf7, hD7, t7, da7⟩ := g6.adopt2 t6.i
      have r7 : RpE K Hf7 (σ4.set 9 (some (.ref D9))) [none, none, none, none, none, some (refDt S), none, some (.py (.tuple ((fitL ls c ws).map lotD))), some (.py (.list (ps.map plcD))), some (refDt D9), none, none, none, none, none, none, none] := ((ρ4.mono (t5.f.trans (t6.f.trans t7.f))).set (j := 9) (v := .ref D9) (d := refDt D9) rfl).sub (by repeat (first | exact sub_nil | refine sub_same ?_ | refine sub_drop ?_))
      have sk7 : Sk K f c S 2 ws (some ls) Hf7 H6 := (sk4.step t5).adopt hD t6 t7
      have hps2 : ∀ q ∈ qs, PlOk f c q := fun q hq => hps q (qok q hq)
      have ex7 := t7.i
      show GO _ _ _ (σ4.set 9 (some (.ref D9))) _
      generalize σ4.set 9 (some (V.ref D9)) = σ7 at r7 ⊢
      clear t7 t6 t5 g6 ρ4 sk4 ex4 S5 hD qok
      have fok : FitOk f ws (some ls) := ⟨okf, by have := wok.len; omega, wok.hb, fun l e => by cases e; exact okl⟩
      refine go_set 10 (ex_ask H O (Nat.le_of_ble_eq_true rfl) ex7 sk7 fok hbk (fun R h => ex_var 5 (r7.ref rfl) h) fun v Hf8 H8 f8 ex8 sk8 hv => ?_)
      obtain ⟨o, dv, ho⟩ : ∃ o : Option (Nat × Row), Dp K Hf8 v (askO o) ∧ AskOk f c (fitL ls c ws) o := by
        rcases hv with ⟨h1, rfl⟩ | ⟨x, hx, hm, dx⟩
        · exact ⟨none, Dp.non, fun _ => asks_nil hfit (fit_nd okl c ws) h1, fun q e => by cases e⟩
        · obtain ⟨b1, ⟨l, b2, b3⟩, b4, b5⟩ := ask_best hfit hx hm
          exact ⟨some (x.1, x.2.1), dx, (fun e => by cases e), fun q e => by cases e; exact ⟨lot_at okl b2 b3, b4, b5⟩⟩
      have r8 : RpE K Hf8 (σ7.set 10 (some v)) [none, none, none, none, none, some (refDt S), none, some (.py (.tuple ((fitL ls c ws).map lotD))), some (.py (.list (ps.map plcD))), some (refDt D9), some (.py (askO o)), none, none, none, none, none, none] := (r7.mono f8).set (j := 10) (v := v) (d := .py (askO o)) (rpy dv)
      have hD8 := f8 _ _ hD7
      have da8 := dpAll_mono f8 da7
      show GO _ _ _ (σ7.set 10 (some v)) _
      generalize σ7.set 10 (some v) = σ8 at r8 ⊢
      clear hv f8 hD7 da7 r7 sk7 ex7 dv
      refine go_ifZ (fun σ' H' => ∃ (Hf' : Hp) (qs' : List (Nat × Row)), Ex Hf' H' ∧ RpE K Hf' σ' [none, none, none, none, none, some (refDt S), none, some (.py (.tuple ((fitL ls c ws).map lotD))), none, some (.py (.list (qs'.map plcD))), some (.py (askO o)), none, none, none, none, none, none] ∧ Sk K f c S 2 ws (some ls) Hf' H' ∧ qs'.length ≤ 3 ∧ ∀ q ∈ qs', PlOk f c q) (ET.go (Φ := fun b => b = !isNone (askO o)) r8 ex8 (et_cmp (ee_var 10 rfl (ee_non (od_notN isN_py ⟨_, rfl, rfl⟩))) (hm := rfl)) fun b Hf9 H9 t9 eb => ?_) fun σ' H' ⟨HfZ, qz, exZ, rZ, skZ, qzl, qzok⟩ => ?_
      · subst eb
        have r9 := r8.mono t9.f
        have sk9 := sk8.step t9
        have hD9 := t9.f _ _ hD8
        have da9 := dpAll_mono t9.f da8
        cases o with
        | none => exact iteF (go_nil ⟨Hf9, qs, t9.i, (r9.know (j := 9) (v := .ref D9) (d := .py (.list (qs.map plcD))) (r9.ref rfl) (rpy (.lst (SqL.of hD9) da9))).sub (by repeat (first | exact sub_nil | refine sub_same ?_ | refine sub_drop ?_)), sk9, by omega, hps2⟩)
        | some q =>
          obtain ⟨pk, b4, b5⟩ := ho.2 q rfl
          refine iteT (gm_if (Φ := fun b => b = false) r9 t9.i (et_not (et_val (ee_call (p_is_best H).fnc (ea_cons (ee_var 7 rfl (ea_cons (ee_var 10 rfl (ea_cons (ee_var 8 rfl (ea_nil ⟨rfl, fitL ls c ws, q, ps, rfl, by omega, fun l hl q' hq' => ?_, b4, fun q' hq' => b5 q' (hps q' hq').1, true, rfl, rfl⟩)))))))))) fun b Hf10 H10 t10 eb => ?_)
          · rw [(hfit l hl).an]
            rcases List.mem_cons.mp hq' with rfl | hq'
            · exact pk.1
            · exact (hps q' hq').1
          · subst eb
            have r10 := r9.mono t10.f
            have sk10 := sk9.step t10
            have hD10 := t10.f _ _ hD9
            have da10 := dpAll_mono t10.f da9
            obtain ⟨v7, hv7, dv7⟩ := r10.get 7 _ rfl
            obtain ⟨v10, hv10, dv10⟩ := r10.get 10 _ rfl
            have dv7 : Dp K Hf10 v7 (.tuple ((fitL ls c ws).map lotD)) := dv7
            have dv10 : Dp K Hf10 v10 (plcD q) := dv10
            refine iteF (go_nil (go_append (ex_var 9 (r10.ref rfl) ⟨D9, rfl, ⟨vs, t10.i _ _ hD10⟩, ex_var 10 hv10 ⟨vs, t10.i _ _ hD10, ?_, go_nil ⟨upd Hf10 D9 (.lst (vs ++ [v10])), qs ++ [q], upd_ex t10.i, ?_, sk10.repl hD10, ?_, ?_⟩⟩⟩)))
            · rw [dpAll_len da10, List.length_map, sizeLine_eq]
              omega
            · have n7 : noL (.tuple ((fitL ls c ws).map lotD)) = true := noL_lots fun l hl => by
                obtain ⟨l0, _, e⟩ := List.mem_map.mp (List.mem_filter.mp hl).1
                exact ⟨l0, e.symm⟩
              have dz := dpAll_app (dpAll_del hD10 (noLs_map plcD qs fun q _ => noL_plc q) da10) (.cons (dp_del hD10 (noL_plc q) dv10) .nil)
              have e9 : (qs ++ [q]).map plcD = qs.map plcD ++ [plcD q] := by rw [List.map_append]; rfl
              have k9 : Rp K (upd Hf10 D9 (.lst (vs ++ [v10]))) (.ref D9) (.py (.list ((qs ++ [q]).map plcD))) := by
                rw [e9]
                exact rpy (.lst (SqL.of upd_same) (dpAll_mono del_upd dz))
              exact ((((r10.bare (upd Hf10 D9 (.lst (vs ++ [v10])))).know (j := 5) (v := .ref S) (d := refDt S) (r10.ref rfl) rfl).know (j := 7) hv7 (rpy (dp_mono del_upd (dp_del hD10 n7 dv7)))).know (j := 9) (v := .ref D9) (r10.ref rfl) k9).know (j := 10) hv10 (rpy (dp_mono del_upd (dp_del hD10 (noL_plc q) dv10)))
            · rw [List.length_append, List.length_singleton]
              omega
            · intro q' hq'
              rcases List.mem_append.mp hq' with hq' | hq'
              · exact hps2 q' hq'
              · rw [List.mem_singleton.mp hq']
                exact pk
      · clear ex8 r8 sk8 hD8 da8 hps2 ql hps hpn hpz hpl
        refine gm_if (Φ := fun b => b = false) rZ exZ (et_w (ew_and (et_cmp (ee_var 10 rfl (ee_non (od_isN isN_py ⟨_, rfl, ?_⟩))) (hm := rfl)))) fun b HfY HY tY eb => ?_
        · cases o with
          | some q => exact iteF rfl
          | none =>
            have h1 := ho.1 rfl
            refine iteT (ew_and1 (et_cmp (ee_callB (fr_len H) PySem.boot_len (ea_cons (ee_var 7 rfl (ea_nil (ld_len (n := (fitL ls c ws).length) (by show _ = _; rw [List.length_map]) (ee_int (od_gt ⟨_, rfl, ?_⟩))))))) (hm := rfl)))
            exact decide_eq_false (by omega)
        subst eb
        refine iteF (go_nil ?_)
        have rY := rZ.mono tY.f
        have skY := skZ.step tY
        have exY := tY.i
        clear rZ skZ tY exZ
        obtain ⟨v7, hv7, d7⟩ := rY.get 7 _ rfl
        have d7 : Dp K HfY v7 (.tuple ((fitL ls c ws).map lotD)) := d7
        refine go_ifZ (fun σ2 H2 => σ2 = σ' ∧ ∃ Hf2, Ex HfY Hf2 ∧ Ex Hf2 H2 ∧ Sk K f c S 2 ws (some ls) Hf2 H2) (tx_w (wx_or (tx_w (wx_and (ET.go (Φ := fun b => b = !((fitL ls c ws).isEmpty)) rY exY (et_cmp (ee_var 7 rfl (ee_tup (ea_nil ⟨[], .nil, Nat.le_of_ble_eq_true rfl, od_ne (lots_pl hfit) emp_pl ⟨_, rfl, ?_⟩⟩))) (hm := rfl)) fun b Hf2 H2 t2 eb => ?_))))) ?_
        · rw [eqv_nilT, List.isEmpty_map]
        · subst eb
          have sk2 := skY.step t2
          have r2 := rY.mono t2.f
          cases hL : fitL ls c ws with
          | nil =>
            refine iteF (iteF (wx_or1 (tx_w (wx_and (ET.go (Φ := fun b => b = true) r2 t2.i (et_cmp (ee_var 7 rfl (ee_tup (ea_nil ⟨[], .nil, Nat.le_of_ble_eq_true rfl, od_eq (lots_pl hfit) emp_pl ⟨_, rfl, ?_⟩⟩))) (hm := rfl)) fun b Hf3 H3 t3 eb => ?_)))))
            · rw [eqv_nilT, List.isEmpty_map, hL]
              rfl
            · subst eb
              refine iteT (wx_and1 (tx_cmp (fun _ _ => op_notN) rfl (ex_least H O (Nat.le_of_ble_eq_true rfl) t3.i (sk2.step t3) fok (fun R h => ex_var 5 (rY.ref rfl) h) fun v Hf4 H4 f4 ex4 sk4 h1 _ => ex_non ⟨rfl, false, ?_, ?_⟩)))
              · rw [h1 hL]
                rfl
              · exact iteF (go_nil ⟨rfl, Hf4, t2.f.trans (t3.f.trans f4), ex4, sk4⟩)
          | cons l rest =>
            have dl : Dp K Hf2 v7 (.tuple ((l :: rest).map lotD)) := by rw [← hL]; exact dp_mono t2.f d7
            refine iteT (wx_and1 (tx_cmp rOD_ok rfl (ex_least H O (Nat.le_of_ble_eq_true rfl) t2.i sk2 fok (fun R h => ex_var 5 (rY.ref rfl) h) fun v Hf4 H4 f4 ex4 sk4 _ h1 => ex_ixTD (d := l.q) (ex_ixTD (d := lotD l) (ex_var 7 hv7 ⟨Hf4, ex4, dp_mono f4 dl, fun z dz => ⟨Hf4, ex4, dz, fun z2 dz2 => ?_⟩⟩) (atI_nat (j := 0) rfl)) (atI_nat (j := 1) rfl))))
            have ol := hfit l (by rw [hL]; exact List.mem_cons_self ..)
            have pq : Pl l.q := ⟨ol.qp, by have := ol.qd; omega⟩
            refine ⟨.py l.q, .py l.q, Hf4, fun d => d = .py (.bool false), ex4, rpy (h1 l rest hL), rpy dz2, od_ne pq pq (by rw [eqv_self _ pq.pl]; rfl), fun z3 d3 Hf5 H5 t5 r5 ed => ?_⟩
            subst ed
            cases r5
            refine ⟨false, rfl, iteF (wx_or1 (tx_w (wx_and (ET.go (Φ := fun b => b = false) ((r2.mono f4).mono t5.f) t5.i (et_cmp (ee_var 7 rfl (ee_tup (ea_nil ⟨[], .nil, Nat.le_of_ble_eq_true rfl, od_eq (lots_pl hfit) emp_pl ⟨_, rfl, ?_⟩⟩))) (hm := rfl)) fun b Hf6 H6 t6 eb => ?_))))⟩
            · rw [eqv_nilT, List.isEmpty_map, hL]
              rfl
            · subst eb
              exact iteF (iteF (go_nil ⟨rfl, Hf6, t2.f.trans (f4.trans (t5.f.trans t6.f)), t6.i, (sk4.step t5).step t6⟩))
        rintro σ2 H2 ⟨rfl, Hf2, f2, ex2, sk2⟩
        have r2 := rY.mono f2
        clear rY skY exY d7 hv7
        refine gm_for [11] wx_list (gx_name 11) r2 ex2 (es_list (Ψ := fun its => its = qz.map fun q => .py (plcD q)) (ee_var 9 rfl ⟨_, rfl, by rw [List.map_map]; rfl⟩)) fun its Hf3 H3 t3 eits => ?_
        subst eits
        refine ⟨[none, none, none, none, none, some (refDt S), none, some (.py (.tuple ((fitL ls c ws).map lotD))), none, some (.py (.list (qz.map plcD))), none, none, none, none, none, none, none], fun j Hx Hy => ∃ ws', ws'.Perm ws ∧ Sk K f c S (2 + 4 * j) ws' (some ls) Hx Hy, (r2.mono t3.f).sub (by repeat (first | exact sub_nil | refine sub_same ?_ | refine sub_drop ?_)), ⟨ws, .refl _, sk2.step t3⟩, (fun j _ _ _ _ hx t => by obtain ⟨ws', a, b⟩ := hx; exact ⟨ws', a, b.step t⟩), fun j d hd => ?_, fun σ4 Hf4 H4 e3 e4 r4 hx => go_ret (ex_bl (qq _))⟩
        rw [List.getElem?_map] at hd
        obtain ⟨q, hq, rfl⟩ := Option.map_eq_some_iff.mp hd
        have hj : j < qz.length := (List.getElem?_eq_some_iff.mp hq).1
        have pk := qzok q (List.mem_of_getElem? hq)
        obtain ⟨qb, qr⟩ := q
        refine ⟨[none, none, none, none, none, some (refDt S), none, some (.py (.tuple ((fitL ls c ws).map lotD))), none, some (.py (.list (qz.map plcD))), none, some (.py (plcD (qb, qr))), none, none, none, none, none], gd_name 11, fun σ4 Hf4 H4 e3 e4 r4 hx => ?_⟩
        obtain ⟨ws', pm, sk4⟩ := hx
        have wok' : WsOk f ws' 2 := ⟨by rw [pm.length_eq]; exact wok.len, fun y hy => wok.h3 y (pm.mem_iff.mp hy), fun y hy => wok.hb y (pm.mem_iff.mp hy)⟩
        have wl := wok'.len
        refine go_if (tx_cmp rOD_ok rfl (ex_lc [("_law_one", 16)] wx_tup (gx_name 16) (lc_stand (b := qb) (r := qr) [("_law_one", 16)] H (Nat.le_of_ble_eq_true rfl) r4 e4 sk4 (by omega) (fun R h => ex_var 5 (r4.ref rfl) h) (fun y hy => ⟨_, gd_name 16, ei_one (et_cmp (ee_sliceT (ee_var 16 rfl (ee_int ⟨2, rfl, _, rfl, ?_⟩))) (hm := rfl)), ee_var 16 rfl rfl⟩) fun D Hf5 H5 hD t5 g5 => ?_)))
        · rw [cut2_ws]
          exact ee_var 11 rfl (od_eq (plc_pl (y.1, y.2.1)) (plc_pl (qb, qr)) ⟨_, rfl, eqv_plc _ _ _ _⟩)
        obtain ⟨Hf6, t6, d6⟩ := g5.adopt t5.i
        have sk6 := sk4.adopt hD t5 t6
        refine ex_lst (ax_nil ⟨Nat.le_of_ble_eq_true rfl, fun p hp => ?_⟩)
        have t7 := Tr.new (o := .lst []) t6.i hp
        have d7 : Dp K (upd Hf6 p (.lst [])) (.ref p) (.list []) := dp_lst_new .nil (fresh_back t6.i hp)
        refine ⟨.py (.list ((ws'.filter (atW qb qr)).map wsD)), .py (.list []), upd Hf6 p (.lst []), fun d => d = .py (.bool (!(ws'.any (atW qb qr)))), t7.i, rpy (dp_mono t7.f d6), rpy d7, od_eq (wss_pl _) nil_plL ?_, fun z dz Hf8 H8 t8 r8 ed => ?_⟩
        · rw [eqv_nilL, List.isEmpty_map, filter_none]
        subst ed
        cases r8
        have sk8 := (sk6.step t7).step t8
        have F8 : Ex Hf4 Hf8 := t5.f.trans (t6.f.trans (t7.f.trans t8.f))
        have ex8 := t8.i
        have ρ8 := r4.mono F8
        refine ⟨_, rfl, ?_⟩
        cases hany : ws'.any (atW qb qr) with
        | true => exact iteF (go_nil (go_nil ⟨Hf8, e3.trans F8, ex8, ρ8.sub (by repeat (first | exact sub_nil | refine sub_same ?_ | refine sub_drop ?_)), ws', pm, sk8.ref _ (by omega)⟩))
        | false =>
          obtain ⟨v7, hv7, d7'⟩ := ρ8.get 7 _ rfl
          obtain ⟨v11, hv11, d11⟩ := ρ8.get 11 _ rfl
          have d7' : Dp K Hf8 v7 (.tuple ((fitL ls c ws).map lotD)) := d7'
          have d11 : Dp K Hf8 v11 (plcD (qb, qr)) := d11
          rw [← fitL_perm pm] at d7'
          refine iteT (go_if (tx_not (tx_val (ex_call (p_parts H O).fnc rfl (ax_cons (ex_var 5 (ρ8.ref rfl) (ax_cons (ex_var 7 hv7 (ax_cons (ex_var 11 hv11 (ax_nil ?_)))))))))))
          refine ⟨rfl, Hf8, f, c, S, 2 + 4 * j, ws', ls, qb, qr, v7, v11, rfl, ex8, sk8, d7', d11, ⟨okf, okl, pk.1, pk.2, by omega, wok'.h3, wok'.hb⟩, hany, by omega, fun Hf9 H9 ws9 f9 ex9 pm9 sk9 => ⟨true, rfl, ?_⟩⟩
          exact iteF (go_nil (go_nil (go_nil ⟨Hf9, e3.trans (F8.trans f9), ex9, (ρ8.mono f9).sub (by repeat (first | exact sub_nil | refine sub_same ?_ | refine sub_drop ?_)), ws9, pm9.trans pm, sk9⟩)))
end
end Fq
/-! FqZz: the end. -/
namespace Fq
open PySem PySem.Spec PyProof.Rows L2 LamX
open RZ
theorem law_at {w : World} {K : PySem.W.Frag} {h : Heap} {mg : Str → Option Value} {fa : Addr} (S : Says w h K) (G : h.Ns mainGlobals mg) (hmg : mg ("law" : Str) = some (.ref fa)) : LawAtS PySem.Challenge.rw_findquestion_k69_whole_a_wish_parts_the w K CX0 15 63 "_law_script" mg fa h := by
  have H : Hd K mg := ⟨⟨h, S.k, G⟩, S.d, S.x⟩
  have O : OneOk w K := ⟨He.dicW_ok S.o, S.v⟩
  obtain ⟨cc, tp, l1, l2, l3, l4⟩ := S.l
  obtain ⟨fd, F⟩ := H.c.def_ 93 (d := d_law) (by kernel_rfl)
  have e : fa = He.ga K "law" := by
    have h2 := H.glo (x := "law") (j := 78) (by kernel_rfl)
    rw [hmg] at h2
    injection h2 with h2
    injection h2
  have ef : He.fAd K d_law.at_ = fa := by
    rw [e]
    rfl
  rw [ef] at F
  have one : ∀ p : Addr × Addr, p ∈ [(cc, tp)] → p = (cc, tp) := fun p hp => List.mem_singleton.mp hp
  have b := FunD.bindsA (ps := ["_law_script"]) F fun _ _ _ _ _ _ us hl => match us, hl with | [_], _ => rfl
  refine ⟨fd, [(cc, tp)], sp_law K tp, fun p hp => by rw [one p hp]; exact l4, fun p hp => by rw [one p hp]; exact l3, fun p hp => by rw [one p hp]; exact PySem.W.codeHd_of_K S.k l2, fun s u => b s [u] rfl, fun H' a ns _ _ hT hS => ?_, fun base kb gb tb => ?_⟩
  · exact ⟨a, ns, rfl, hT (cc, tp) (List.mem_singleton.mpr rfl), hS, fun _ => rfl⟩
  · exact fn_go F sc_law (fun vs H0 Q E z => by obtain ⟨a, ns, rfl, _⟩ := z; rfl) (law_go H O ⟨tb (cc, tp) (List.mem_singleton.mpr rfl), kb, gb, l1⟩)
end Fq
open PySem PySem.W PySem.Calls PyProof.Rows
theorem PySem.Challenge.cw_findquestion_k69_whole_a_wish_parts_the_holds : PySem.Challenge.rw_findquestion_k69_whole_a_wish_parts_the.Holds := by
  w_on; o_law
  refine HandSHeadRun.head_any (r := Fq.Rw) (q := Fq.qv) (H := Fq.hkH) (ob := Fq.obH) (M := 15000) (loose := Fq.loo) (d := HandSHeadRun.topDef Fq.Rw.prog 140) (kwd := []) Fq.ob_eq (by kernel_rfl) (fun s => by kernel_rfl) Fq.run (by kernel_rfl) (by kernel_rfl) (by kernel_rfl) (by rfl) (by first | assumption | decide +kernel) (by decide +kernel) ⟨rfl, rfl, rfl, rfl, rfl, by decide +kernel⟩ ?hw ?hc
  case hw => w_witness2
  case hc =>
    refine LamX.walk_ofTsE (l := PySem.Challenge.rw_findquestion_k69_whole_a_wish_parts_the) (n := 63) (k := 15) (x := "_law_script") (CX := fun _ => L2.CX0) rfl (by decide) (by kernel_rfl) ⟨rfl, by decide, by decide⟩ ?F (fun _ _ _ _ _ z => z)
    intro w mg fa h Y G hmg0
    obtain ⟨K, S⟩ := Y
    have hmg : mg ("law" : PySem.Str) = some (.ref fa) := by
      have e : (HandSHeadRun.topDef Fq.Rw.prog 140).name = ("law" : PySem.Str) := by kernel_rfl
      rw [← e]
      exact hmg0
    exact ⟨K, S.k, Fq.law_at S G hmg⟩
