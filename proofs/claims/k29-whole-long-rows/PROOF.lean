import PyProof.Rows.All
import Wide.All
import OpenK.AllK
import Wide.FinOn
import HandS.ForMost
import HandS.Codes
import HandS.StrMore
import HandS.IsInst
import HandS.More
import HandS.RaiseMore
import PySem.Challenge.RW_leafround_k29_whole_long_rows
import HandS.Walk
set_option Elab.async false
set_option linter.all false
set_option maxRecDepth 100000
set_option maxHeartbeats 4200000
namespace Lr
open PySem PySem.Spec L2
/-! ### the text by places -/
def topS (i : Nat) : Stmt := PySem.Challenge.pw_leafround_k29_whole_long_rows.main.body.getD i (.Pass ⟨0, 0, 0, 0⟩)
abbrev s_is_sign : Stmt := topS 12
abbrev n_is_sign : List Str := ["sign"]
abbrev p_is_sign : List Str := ["sign"]
theorem sc_is_sign : FnScope n_is_sign p_is_sign (C8.fnScope s_is_sign) := C8.fnScope_by (by decide +kernel)
abbrev s_is_text : Stmt := topS 13
abbrev n_is_text : List Str := ["thing", "sign"]
abbrev p_is_text : List Str := ["thing"]
theorem sc_is_text : FnScope n_is_text p_is_text (C8.fnScope s_is_text) := C8.fnScope_by (by decide +kernel)
abbrev s_run_of : Stmt := topS 14
abbrev n_run_of : List Str := ["text", "at", "signs"]
abbrev p_run_of : List Str := ["text", "at", "signs"]
theorem sc_run_of : FnScope n_run_of p_run_of (C8.fnScope s_run_of) := C8.fnScope_by (by decide +kernel)
abbrev s_number_at : Stmt := topS 15
abbrev n_number_at : List Str := ["text", "at", "end", "figures"]
abbrev p_number_at : List Str := ["text", "at"]
theorem sc_number_at : FnScope n_number_at p_number_at (C8.fnScope s_number_at) := C8.fnScope_by (by decide +kernel)
abbrev s_name_at : Stmt := topS 16
abbrev n_name_at : List Str := ["text", "at", "end", "word"]
abbrev p_name_at : List Str := ["text", "at"]
theorem sc_name_at : FnScope n_name_at p_name_at (C8.fnScope s_name_at) := C8.fnScope_by (by decide +kernel)
abbrev s_quoted_at : Stmt := topS 17
abbrev n_quoted_at : List Str := ["text", "at", "end"]
abbrev p_quoted_at : List Str := ["text", "at"]
theorem sc_quoted_at : FnScope n_quoted_at p_quoted_at (C8.fnScope s_quoted_at) := C8.fnScope_by (by decide +kernel)
abbrev s_word_at : Stmt := topS 18
abbrev n_word_at : List Str := ["text", "at", "sign"]
abbrev p_word_at : List Str := ["text", "at"]
theorem sc_word_at : FnScope n_word_at p_word_at (C8.fnScope s_word_at) := C8.fnScope_by (by decide +kernel)
abbrev s_Reader___init__ : Stmt := inClass (topS 24) 0
abbrev n_Reader___init__ : List Str := ["self", "text", "at"]
abbrev p_Reader___init__ : List Str := ["self", "text", "at"]
theorem sc_Reader___init__ : FnScope n_Reader___init__ p_Reader___init__ (C8.fnScope s_Reader___init__) := C8.fnScope_by (by decide +kernel)
abbrev s_Reader_go : Stmt := inClass (topS 24) 2
abbrev n_Reader_go : List Str := ["self", "word"]
abbrev p_Reader_go : List Str := ["self"]
theorem sc_Reader_go : FnScope n_Reader_go p_Reader_go (C8.fnScope s_Reader_go) := C8.fnScope_by (by decide +kernel)
abbrev s_Reader_sees : Stmt := inClass (topS 24) 3
abbrev n_Reader_sees : List Str := ["self", "word"]
abbrev p_Reader_sees : List Str := ["self", "word"]
theorem sc_Reader_sees : FnScope n_Reader_sees p_Reader_sees (C8.fnScope s_Reader_sees) := C8.fnScope_by (by decide +kernel)
abbrev s_Reader_opens : Stmt := inClass (topS 24) 4
abbrev n_Reader_opens : List Str := ["self"]
abbrev p_Reader_opens : List Str := ["self"]
theorem sc_Reader_opens : FnScope n_Reader_opens p_Reader_opens (C8.fnScope s_Reader_opens) := C8.fnScope_by (by decide +kernel)
abbrev s_Reader_needs : Stmt := inClass (topS 24) 5
abbrev n_Reader_needs : List Str := ["self", "word"]
abbrev p_Reader_needs : List Str := ["self", "word"]
theorem sc_Reader_needs : FnScope n_Reader_needs p_Reader_needs (C8.fnScope s_Reader_needs) := C8.fnScope_by (by decide +kernel)
abbrev s_Reader_needs_name : Stmt := inClass (topS 24) 6
abbrev n_Reader_needs_name : List Str := ["self"]
abbrev p_Reader_needs_name : List Str := ["self"]
theorem sc_Reader_needs_name : FnScope n_Reader_needs_name p_Reader_needs_name (C8.fnScope s_Reader_needs_name) := C8.fnScope_by (by decide +kernel)
abbrev s_Reader_shuts : Stmt := inClass (topS 24) 7
abbrev n_Reader_shuts : List Str := ["self", "word"]
abbrev p_Reader_shuts : List Str := ["self", "word"]
theorem sc_Reader_shuts : FnScope n_Reader_shuts p_Reader_shuts (C8.fnScope s_Reader_shuts) := C8.fnScope_by (by decide +kernel)
abbrev s_Reader_any_tree : Stmt := inClass (topS 24) 8
abbrev n_Reader_any_tree : List Str := ["self", "at", "ask", "yes", "no", "name", "one", "two"]
abbrev p_Reader_any_tree : List Str := ["self"]
theorem sc_Reader_any_tree : FnScope n_Reader_any_tree p_Reader_any_tree (C8.fnScope s_Reader_any_tree) := C8.fnScope_by (by decide +kernel)
abbrev s_Reader_either : Stmt := inClass (topS 24) 9
abbrev n_Reader_either : List Str := ["self", "one"]
abbrev p_Reader_either : List Str := ["self"]
theorem sc_Reader_either : FnScope n_Reader_either p_Reader_either (C8.fnScope s_Reader_either) := C8.fnScope_by (by decide +kernel)
abbrev s_Reader_both : Stmt := inClass (topS 24) 10
abbrev n_Reader_both : List Str := ["self", "one"]
abbrev p_Reader_both : List Str := ["self"]
theorem sc_Reader_both : FnScope n_Reader_both p_Reader_both (C8.fnScope s_Reader_both) := C8.fnScope_by (by decide +kernel)
abbrev s_Reader_turned : Stmt := inClass (topS 24) 11
abbrev n_Reader_turned : List Str := ["self", "at", "one"]
abbrev p_Reader_turned : List Str := ["self"]
theorem sc_Reader_turned : FnScope n_Reader_turned p_Reader_turned (C8.fnScope s_Reader_turned) := C8.fnScope_by (by decide +kernel)
abbrev s_Reader_compared : Stmt := inClass (topS 24) 12
abbrev n_Reader_compared : List Str := ["self", "one", "sign"]
abbrev p_Reader_compared : List Str := ["self"]
theorem sc_Reader_compared : FnScope n_Reader_compared p_Reader_compared (C8.fnScope s_Reader_compared) := C8.fnScope_by (by decide +kernel)
abbrev s_Reader_joined : Stmt := inClass (topS 24) 13
abbrev n_Reader_joined : List Str := ["self", "signs", "one", "sign"]
abbrev p_Reader_joined : List Str := ["self", "signs"]
theorem sc_Reader_joined : FnScope n_Reader_joined p_Reader_joined (C8.fnScope s_Reader_joined) := C8.fnScope_by (by decide +kernel)
abbrev s_Reader_operand : Stmt := inClass (topS 24) 14
abbrev n_Reader_operand : List Str := ["self", "signs"]
abbrev p_Reader_operand : List Str := ["self", "signs"]
theorem sc_Reader_operand : FnScope n_Reader_operand p_Reader_operand (C8.fnScope s_Reader_operand) := C8.fnScope_by (by decide +kernel)
abbrev s_Reader_lessened : Stmt := inClass (topS 24) 15
abbrev n_Reader_lessened : List Str := ["self", "at", "one"]
abbrev p_Reader_lessened : List Str := ["self"]
theorem sc_Reader_lessened : FnScope n_Reader_lessened p_Reader_lessened (C8.fnScope s_Reader_lessened) := C8.fnScope_by (by decide +kernel)
abbrev s_Reader_picked : Stmt := inClass (topS 24) 16
abbrev n_Reader_picked : List Str := ["self", "one", "place"]
abbrev p_Reader_picked : List Str := ["self"]
theorem sc_Reader_picked : FnScope n_Reader_picked p_Reader_picked (C8.fnScope s_Reader_picked) := C8.fnScope_by (by decide +kernel)
abbrev s_Reader_closed : Stmt := inClass (topS 24) 17
abbrev n_Reader_closed : List Str := ["self", "kind", "at", "worth", "end", "one"]
abbrev p_Reader_closed : List Str := ["self"]
theorem sc_Reader_closed : FnScope n_Reader_closed p_Reader_closed (C8.fnScope s_Reader_closed) := C8.fnScope_by (by decide +kernel)
abbrev s_ended : Stmt := topS 25
abbrev n_ended : List Str := ["reader", "tree"]
abbrev p_ended : List Str := ["reader", "tree"]
theorem sc_ended : FnScope n_ended p_ended (C8.fnScope s_ended) := C8.fnScope_by (by decide +kernel)
abbrev s_params_of : Stmt := topS 26
abbrev n_params_of : List Str := ["reader", "params", "at"]
abbrev p_params_of : List Str := ["reader"]
theorem sc_params_of : FnScope n_params_of p_params_of (C8.fnScope s_params_of) := C8.fnScope_by (by decide +kernel)
abbrev s_is_word : Stmt := topS 27
abbrev n_is_word : List Str := ["word", "told"]
abbrev p_is_word : List Str := ["word", "told"]
theorem sc_is_word : FnScope n_is_word p_is_word (C8.fnScope s_is_word) := C8.fnScope_by (by decide +kernel)
abbrev s_head_of : Stmt := topS 28
abbrev n_head_of : List Str := ["text", "first", "second"]
abbrev p_head_of : List Str := ["text"]
theorem sc_head_of : FnScope n_head_of p_head_of (C8.fnScope s_head_of) := C8.fnScope_by (by decide +kernel)
abbrev s_gives_args : Stmt := topS 29
abbrev n_gives_args : List Str := ["text", "at", "word", "turn"]
abbrev p_gives_args : List Str := ["text", "at"]
theorem sc_gives_args : FnScope n_gives_args p_gives_args (C8.fnScope s_gives_args) := C8.fnScope_by (by decide +kernel)
abbrev s_told_as : Stmt := topS 30
abbrev n_told_as : List Str := ["text", "bare", "head", "reader", "name", "params"]
abbrev p_told_as : List Str := ["text"]
theorem sc_told_as : FnScope n_told_as p_told_as (C8.fnScope s_told_as) := C8.fnScope_by (by decide +kernel)
abbrev s_inner : Stmt := topS 31
abbrev n_inner : List Str := ["tree", "kind", "at", "body", "name", "source", "test", "found", "one"]
abbrev p_inner : List Str := ["tree"]
theorem sc_inner : FnScope n_inner p_inner (C8.fnScope s_inner) := C8.fnScope_by (by decide +kernel)
abbrev s_free : Stmt := topS 32
abbrev n_free : List Str := ["tree", "params", "found", "name", "one", "known", "word"]
abbrev p_free : List Str := ["tree", "params"]
theorem sc_free : FnScope n_free p_free (C8.fnScope s_free) := C8.fnScope_by (by decide +kernel)
abbrev s_looseness : Stmt := topS 35
abbrev n_looseness : List Str := ["tree"]
abbrev p_looseness : List Str := ["tree"]
theorem sc_looseness : FnScope n_looseness p_looseness (C8.fnScope s_looseness) := C8.fnScope_by (by decide +kernel)
abbrev s_written : Stmt := topS 36
abbrev n_written : List Str := ["tree", "least", "text"]
abbrev p_written : List Str := ["tree", "least"]
theorem sc_written : FnScope n_written p_written (C8.fnScope s_written) := C8.fnScope_by (by decide +kernel)
abbrev s_show_signs : Stmt := topS 37
abbrev n_show_signs : List Str := ["tree", "kind", "sign", "one", "other", "level"]
abbrev p_show_signs : List Str := ["tree"]
theorem sc_show_signs : FnScope n_show_signs p_show_signs (C8.fnScope s_show_signs) := C8.fnScope_by (by decide +kernel)
abbrev s_show_closed : Stmt := topS 38
abbrev n_show_closed : List Str := ["tree", "kind", "one"]
abbrev p_show_closed : List Str := ["tree"]
theorem sc_show_closed : FnScope n_show_closed p_show_closed (C8.fnScope s_show_closed) := C8.fnScope_by (by decide +kernel)
abbrev s_shown_tree : Stmt := topS 39
abbrev n_shown_tree : List Str := ["tree", "kind", "at", "body", "name", "source", "test", "text"]
abbrev p_shown_tree : List Str := ["tree"]
theorem sc_shown_tree : FnScope n_shown_tree p_shown_tree (C8.fnScope s_shown_tree) := C8.fnScope_by (by decide +kernel)
abbrev s__law_tape : Stmt := topS 41
abbrev n__law_tape : List Str := ["_law_script", "_law_start", "_law_cell"]
abbrev p__law_tape : List Str := ["_law_script", "_law_start"]
theorem sc__law_tape : FnScope n__law_tape p__law_tape (C8.fnScope s__law_tape) := C8.fnScope_by (by decide +kernel)
abbrev s__law_digit : Stmt := topS 42
abbrev n__law_digit : List Str := ["_law_tape_here", "_law_many", "_law_found", "_law_more"]
abbrev p__law_digit : List Str := ["_law_tape_here", "_law_many"]
theorem sc__law_digit : FnScope n__law_digit p__law_digit (C8.fnScope s__law_digit) := C8.fnScope_by (by decide +kernel)
abbrev s__law_row : Stmt := topS 43
abbrev n__law_row : List Str := ["_law_tape_here", "_law_signs", "_law_many", "_law_found", "_law_k"]
abbrev p__law_row : List Str := ["_law_tape_here"]
theorem sc__law_row : FnScope n__law_row p__law_row (C8.fnScope s__law_row) := C8.fnScope_by (by decide +kernel)
abbrev s__law_leaf : Stmt := topS 44
abbrev n__law_leaf : List Str := ["_law_text", "_law_at", "_law_kinds"]
abbrev p__law_leaf : List Str := ["_law_text", "_law_at"]
theorem sc__law_leaf : FnScope n__law_leaf p__law_leaf (C8.fnScope s__law_leaf) := C8.fnScope_by (by decide +kernel)
abbrev s__law_built : Stmt := topS 45
abbrev n__law_built : List Str := ["_law_row_here", "_law_text", "_law_tree", "_law_word", "_law_sign", "_law_blank", "_law_one"]
abbrev p__law_built : List Str := ["_law_row_here"]
theorem sc__law_built : FnScope n__law_built p__law_built (C8.fnScope s__law_built) := C8.fnScope_by (by decide +kernel)
abbrev s__law_moved : Stmt := topS 46
abbrev n__law_moved : List Str := ["_law_tree", "_law_by", "_law_found", "_law_part"]
abbrev p__law_moved : List Str := ["_law_tree", "_law_by"]
theorem sc__law_moved : FnScope n__law_moved p__law_moved (C8.fnScope s__law_moved) := C8.fnScope_by (by decide +kernel)
abbrev s_law : Stmt := topS 47
abbrev n_law : List Str := ["_law_script", "_law_start", "_law_tape_here", "_law_row_here", "_law_text", "_law_tree", "_law_word", "_law_sign", "_law_names", "_law_due", "_law_again", "_law_k", "_law_name"]
abbrev p_law : List Str := ["_law_script"]
theorem sc_law : FnScope n_law p_law (C8.fnScope s_law) := C8.fnScope_by (by decide +kernel)
/-! ### room, counted a frame a level -/
structure Rm (j : Nat) (A : Around) : Prop where
  hd : A.handled = none
  dp : A.depth + j + 5 < recursionLimit
  un : A.units + 4 * j + 200 < cLine
section
variable {i j k : Nat} {A : Around}
theorem Rm.mono (r : Rm j A) (h : i ≤ j) : Rm i A := by
  obtain ⟨h1, h2, h3⟩ := r
  exact ⟨h1, by omega, by omega⟩
theorem Rm.deeper (r : Rm (k + 1) A) (env : Env) : Rm k (A.deeper env) := by
  obtain ⟨h1, h2, h3⟩ := r
  refine ⟨h1, ?_, ?_⟩
  · show A.depth + 1 + k + 5 < recursionLimit
    omega
  · show A.units + 3 + 4 * k + 200 < cLine
    omega
theorem Rm.make (r : Rm (k + 1) A) (C : Addr) (us : List Value) (kw : List (Str × Value)) : Rm k (A.under (.builtin "type.__call__" ⟨.ref C :: us, kw⟩)) := by
  obtain ⟨h1, h2, h3⟩ := r
  refine ⟨h1, ?_, ?_⟩
  · rw [make_depth]
    omega
  · rw [make_units]
    omega
theorem Rm.depth (r : Rm k A) : A.depth < recursionLimit := Nat.lt_of_le_of_lt (Nat.le_trans (Nat.le_add_right _ k) (Nat.le_add_right _ 5)) r.dp
theorem Rm.hu (r : Rm k A) : A.units + 1 < cLine := by
  obtain ⟨_, _, h⟩ := r
  omega
theorem Rm.of_room (r : Room k A) (h : j ≤ 3 * k) : Rm (j - 30) A := by
  obtain ⟨h1, h2, h3⟩ := r
  exact ⟨h1, by omega, by omega⟩
end

/-! ### a def's promise over this room -/
section
variable (P : Program) (w : World) (K : PySem.W.Frag) (mg : Str → Option Value) (base : Heap)
/-- called with values that fit sp, the def at f answers as sp says, where k frames are left -/
structure Fn (k : Nat) (f : Addr) (fd : FuncData) (ps : List Str) (sp : Sp) : Prop where
  many : ∀ (vs : List V) (H : Hp) (Q : VK) (E : XK), sp vs H Q E → vs.length = ps.length
  run : ∀ (A : Around) (outer : List Env) (s : Shared) (H : Hp) (args : Args) (us : List Value) (vs : List V) (Q : VK) (E : XK),
    Rm k A → Env0 P w K mg base A outer s H → BindsTo s fd args (ps.zip us) → Vals vs us → sp vs H Q E →
      codeAny (model P w) A (.call (.ref f) args) (CR CX0 outer P w H s Q E) s
end
section
variable {P : Program} {w : World} {K : PySem.W.Frag} {mg : Str → Option Value} {base : Heap} {j k : Nat} {f : Addr} {fd : FuncData} {ps : List Str} {sp : Sp}
theorem Fn.mono (F : Fn P w K mg base j f fd ps sp) (h : j ≤ k) : Fn P w K mg base k f fd ps sp :=
  ⟨F.many, fun A outer s H args us vs Q E hr => F.run A outer s H args us vs Q E (hr.mono h)⟩
/-- over to the library's promise -/
theorem Fn.ok (F : Fn P w K mg base (j - 30) f fd ps sp) (h : j ≤ 3 * k) : FnOk P w K mg base CX0 k f fd ps sp :=
  ⟨F.many, fun A outer s H args us vs Q E hr => F.run A outer s H args us vs Q E (Rm.of_room hr h)⟩
/-- what a promise without exceptions leaves is an answer -/
theorem cr_ret {outer : List Env} {H : Hp} {s s' : Shared} {Q : VK} {E : XK} : ∀ {r : Result}, CR CX0 outer P w H s Q E r s' → ∃ u, r = .ok (.ret u) ∧ CE outer P w H s Q u s'
  | .ok (.ret u), c => ⟨u, rfl, c⟩
  | .ok .next, c => False.elim c
  | .ok .brk, c => False.elim c
  | .ok .cont, c => False.elim c
  | .error _, c => False.elim c
theorem binds_here {s : Shared} {us : List Value} (hb : Binds K fd ps []) (KX : K.In s.heap) (hl : us.length = ps.length) : BindsTo s fd ⟨us, []⟩ (ps.zip us) := by
  have b := hb s us KX ((congrArg List.length (List.append_nil us)).trans hl)
  rwa [List.append_nil] at b
end
/-- the value g may be called, as sp says -/
abbrev Runs (X : Cx) (g : Value) (sp : Sp) : Prop := CallR X g fun vs H Q => sp vs H Q E0
/-- what a class promises whose __init__ keeps sp -/
def spNew (C : Addr) (sp : Sp) : Sp := fun vs H Q _ => ∀ x dx, H x = none → H dx = none → dx ≠ x → sp (.ref x :: vs) (upd (upd H dx (.own x)) x (.ins C dx [])) (fun v H2 => v = .non ∧ Q (.ref x) H2) E0
section
variable {X : Cx} {k : Nat} {f C : Addr} {fd : FuncData} {ps : List Str} {sp : Sp}
theorem Fn.runs (F : Fn X.prog X.w X.K X.mg X.base k f fd ps sp) (hr : Rm k X.A) (hb : Binds X.K fd ps []) : Runs X (.ref f) sp :=
  fun _ s _ H vs us Q I r h => wpAny_call (codeAny_mono (F.run X.A X.stack s H ⟨us, []⟩ us vs Q E0 hr I.env0 (binds_here hb I.kIn (r.length.symm.trans (F.many vs H Q E0 h))) r h) fun _ _ c => by
    obtain ⟨u, rfl, c⟩ := cr_ret c
    exact I.after c)
theorem Fn.makes (F : Fn X.prog X.w X.K X.mg X.base k f fd ps sp) (M : Mk X.K C f) (hr : Rm (k + 1) X.A) (hb : Binds X.K fd ps []) : Runs X (.ref C) (spNew C sp) := fun _ s _ H vs us Q I r h => by
  have h := h (s.heap.objs.size + 1) s.heap.objs.size (I.hok.fresh (by omega)) (I.hok.fresh (by omega)) (Nat.ne_of_lt (Nat.lt_succ_self _))
  have J := I.made (C := C)
  have rs : Vals (.ref (s.heap.objs.size + 1) :: vs) (.ref (s.heap.objs.size + 1) :: us) := .cons rfl r
  have bd := binds_here hb J.kIn (rs.length.symm.trans (F.many _ _ _ _ h))
  refine wpAny_call (make_map (f := f) I.kIn M.makes M.init (beq_iff_eq.mp M.fn) (codeAny_mono (F.run _ X.stack _ _ _ _ _ _ E0 (hr.make C us []) (J.env0.make C us []) bd rs h) fun _ _ c => ?_))
  obtain ⟨u, rfl, c⟩ := cr_ret c
  obtain ⟨v, H3, J3, rv, rfl, q⟩ := J.after c
  exact ⟨rv, .ref (s.heap.objs.size + 1), H3, J3, rfl, q⟩
end
section
variable (P : Program) (w : World) (K : PySem.W.Frag) (mg : Str → Option Value) (base : Heap)
/-- a name of the module that stands for such a def -/
structure Cal (k : Nat) (x : Str) (sp : Sp) : Prop where
  ex : ∃ (f : Addr) (fd : FuncData) (ps : List Str), Fn P w K mg base k f fd ps sp ∧ mg x = some (.ref f) ∧ PySem.W.keepIn K (.ref f) = true ∧ Binds K fd ps []
/-- the method m of the instances of C -/
structure Met (k : Nat) (C : Addr) (m : Str) (sp : Sp) : Prop where
  ex : ∃ (f : Addr) (fd : FuncData) (ps : List Str), Cls K C ∧ Meth K C m f ∧ Fn P w K mg base k f fd ps sp ∧ Binds K fd ps []
/-- a name of the module that stands for a class; sp: its __init__ -/
structure Mak (k : Nat) (x : Str) (C : Addr) (sp : Sp) : Prop where
  ex : ∃ (f : Addr) (fd : FuncData) (ps : List Str), Mk K C f ∧ Fn P w K mg base k f fd ps sp ∧ mg x = some (.ref C) ∧ Binds K fd ps []
end
section
variable {P : Program} {w : World} {K : PySem.W.Frag} {mg : Str → Option Value} {base : Heap} {k j : Nat} {x m : Str} {C : Addr} {sp : Sp}
theorem Cal.mono (c : Cal P w K mg base j x sp) (h : j ≤ k) : Cal P w K mg base k x sp := by
  obtain ⟨f, fd, ps, F, r⟩ := c.ex
  exact ⟨f, fd, ps, F.mono h, r⟩
theorem Met.mono (c : Met P w K mg base j C m sp) (h : j ≤ k) : Met P w K mg base k C m sp := by
  obtain ⟨f, fd, ps, c, me, F, r⟩ := c.ex
  exact ⟨f, fd, ps, c, me, F.mono h, r⟩
end
/-- the value of `o.m(es)`, as the model takes it apart -/
abbrev AsksM (pl : Sem Bool) (o : Expr) (m : Str) (es : List Expr) (apos pos : Pos) (env : Env) : Prop :=
  eval (.Call (.Attribute o m apos) es [] pos) env = (do let own ← eval o env; standAt apos.atName; let (g, self) ← holding [own] (getMethod own m pl); callWith pos g self (backTo pos (starEach es env)) (backToKw pos (keywordEach [] env)))
section
variable {X : Cx} {k j : Nat} {f C : Addr} {g : Value} {x m : Str} {sp : Sp} {p pos apos : Pos} {e o : Expr} {es : List Expr} {ta : TE} {t : TA}
def tCal (sp : Sp) (t : TA) : TE := fun σ H Q => t σ H fun vs H1 => sp vs H1 Q E0
def tMet (C : Addr) (m : Str) (sp : Sp) (ta : TE) (t : TA) : TE := fun σ H Q => ta σ H fun x H1 => ∃ a dx fs, x = .ref a ∧ H1 a = some (.ins C dx fs) ∧ fs.lookup m = none ∧ t σ H1 fun vs H2 => sp (.ref a :: vs) H2 Q E0
def tMak (C : Addr) (sp : Sp) (t : TA) : TE := tCal (spNew C sp) t
/-- a call of a global whose value may be called -/
theorem pe_runs (R : Runs X g sp) (hm : X.mg x = some g) (kp : PySem.W.keepIn X.K g = true) (hg : Gl X x) (ha : PA X (e :: es) t)
    (nd : (x == ("__debug__" : Str)) = false) (st : starEach (e :: es) X.env = (false, eval e X.env) :: starEach es X.env) (pn : (backTo pos (starEach es X.env)).any (·.1) = false) : PE X (.Call (.Name x p) (e :: es) [] pos) (tCal sp t) :=
  ⟨fun pins s σ H Q I h => wpAny_Call_Name_kw (ld_glob I hg hm (PySem.W.callWith_K (h₀ := X.base) I.ok.mod.kin kp
    (thn (ha.run pos pins s σ H _ I h) fun us s1 ⟨vs, H1, I1, r, q⟩ => ⟨I1.kIn, R pins s1 σ H1 vs us Q I1 r q⟩) st pn) nd)⟩
theorem pe_c (c : Cal X.prog X.w X.K X.mg X.base k x sp) (hr : Rm j X.A) (hk : k ≤ j) (hg : Gl X x) (ha : PA X (e :: es) t)
    (nd : (x == ("__debug__" : Str)) = false := by decide) (st : starEach (e :: es) X.env = (false, eval e X.env) :: starEach es X.env := by rfl) (pn : (backTo pos (starEach es X.env)).any (·.1) = false := by rfl) :
    PE X (.Call (.Name x p) (e :: es) [] pos) (tCal sp t) := by
  obtain ⟨_, _, _, F, hm, kp, b⟩ := c.ex
  exact pe_runs (F.runs (hr.mono hk) b) hm kp hg ha nd st pn
theorem pe_mk (c : Mak X.prog X.w X.K X.mg X.base k x C sp) (hr : Rm j X.A) (hk : k + 1 ≤ j) (hg : Gl X x) (ha : PA X (e :: es) t)
    (nd : (x == ("__debug__" : Str)) = false := by decide) (st : starEach (e :: es) X.env = (false, eval e X.env) :: starEach es X.env := by rfl) (pn : (backTo pos (starEach es X.env)).any (·.1) = false := by rfl) :
    PE X (.Call (.Name x p) (e :: es) [] pos) (tMak C sp t) := by
  obtain ⟨_, _, _, M, F, hm, b⟩ := c.ex
  exact pe_runs (F.makes M (hr.mono hk) b) hm M.kp hg ha nd st pn
/-- the first half of a method's call: the object, then the function of its class -/
theorem pe_meth {pl : Sem Bool} {R : Addr → St → Hp → VK → Prop} (hc : Cls X.K C) (hm : Meth X.K C m f) (he : PE X o ta) (ht : AsksM pl o m es apos pos X.env)
    (go : ∀ (a : Addr) (pins : List (Addr × Obj)) (s : Shared) (σ : St) (H : Hp) (Q : VK), Inv X pins σ H s → R a σ H Q →
      wpAny (model X.prog X.w) X.A (callWith pos (.ref f) [.ref a] (backTo pos (starEach es X.env)) (backToKw pos (keywordEach [] X.env))) (EP X pins σ Q) X.xe s) :
    PE X (.Call (.Attribute o m apos) es [] pos) (fun σ H Q => ta σ H fun x H1 => ∃ a dx fs, x = .ref a ∧ H1 a = some (.ins C dx fs) ∧ fs.lookup m = none ∧ R a σ H1 Q) :=
  ⟨fun pins s σ H Q I h => PySem.W.methodCall_KW (pl := pl) (thn (he.run pins s σ H _ I h) fun u s1 ⟨x, H1, I1, rx, a, dx, fs, ex, ea, l, q⟩ => by
    subst ex
    cases (id rx : u = Value.ref a)
    exact getmeth_ok I1 ea hc hm l (go a pins s1 σ H1 Q I1 q)) ht⟩
theorem pe_mt {pl : Sem Bool} (c : Met X.prog X.w X.K X.mg X.base k C m sp) (hr : Rm j X.A) (hk : k ≤ j) (he : PE X o ta) (ha : PA X (e :: es) t)
    (st : starEach (e :: es) X.env = (false, eval e X.env) :: starEach es X.env := by rfl) (pn : (backTo pos (starEach es X.env)).any (·.1) = false := by rfl) (ht : AsksM pl o m (e :: es) apos pos X.env := by rfl) :
    PE X (.Call (.Attribute o m apos) (e :: es) [] pos) (tMet C m sp ta t) := by
  obtain ⟨f, _, _, hc, hm, F, b⟩ := c.ex
  refine pe_meth hc hm he ht fun a pins s σ H Q I h => ?_
  refine PySem.W.callWith_K (h₀ := X.base) (first := [.ref a]) I.ok.mod.kin hm.kp (thn (ha.run pos pins s σ H _ I h) fun us s2 ⟨vs, H2, I2, r, q⟩ => ⟨I2.kIn, ?_⟩) st pn
  exact F.runs (hr.mono hk) b pins s2 σ H2 (.ref a :: vs) (.ref a :: us) Q I2 (.cons rfl r) q
theorem pe_mt0 {pl : Sem Bool} (c : Met X.prog X.w X.K X.mg X.base k C m sp) (hr : Rm j X.A) (hk : k ≤ j) (he : PE X o ta) (ht : AsksM pl o m [] apos pos X.env := by rfl) :
    PE X (.Call (.Attribute o m apos) [] [] pos) (tMet C m sp ta tNil) := by
  obtain ⟨f, _, _, hc, hm, F, b⟩ := c.ex
  exact pe_meth hc hm he ht fun a pins s σ H Q I h => PySem.W.callWith_K0 (first := [.ref a]) I.kIn hm.kp (F.runs (hr.mono hk) b pins s σ H [.ref a] [.ref a] Q I (.cons rfl .nil) h)
end

/-! ### defs and methods as they stand behind the top -/
section
variable (K : PySem.W.Frag) (mg : Str → Option Value)
structure Df (x : Str) (st : Stmt) : Prop where
  ex : ∃ (f : Addr) (fd : FuncData), C8.Fun K x x st f fd ∧ fd.defaults = .none ∧ mg x = some (.ref f) ∧ PySem.W.keepIn K (.ref f) = true
structure Mf (C : Addr) (m qual : Str) (st : Stmt) : Prop where
  ex : ∃ (f : Addr) (fd : FuncData), C8.Fun K m qual st f fd ∧ fd.defaults = .none ∧ Meth K C m f
end
section
variable {P : Program} {w : World} {K : PySem.W.Frag} {mg : Str → Option Value} {base : Heap} {x m qual : Str} {C : Addr} {st : Stmt} {N ps : List Str} {k : Nat} {sp : Sp}
/-- each parameter stands in a slot or in a cell -/
theorem par_kind {sc : Scope} (S : FnScope N ps sc) (us : List Value) (n : Nat) : ∀ y ∈ ps.zip us, sc.names.lookup y.1 = some .local ∨ (sc.names.lookup y.1 = some .cell ∧ ((cellsFrom n sc.names []).lookup y.1).isSome = true) := by
  rintro ⟨y, u⟩ hy
  have hp := S.par y (List.of_mem_zip hy).1
  exact hp.imp id fun c => ⟨c, PySem.W.cellsFrom_some _ _ _ (.inl c)⟩
/-- a def of the text by its body -/
theorem fn_by {f : Addr} {fd : FuncData} (F : C8.Fun K x qual st f fd) (S : FnScope N ps (C8.fnScope st)) (len : ∀ vs H Q E, sp vs H Q E → vs.length = ps.length)
    (hbody : ∀ (f : Addr) (cdv : Value) (A : Around) (outer : List Env) (s : Shared) (H : Hp) (vs : List V) (Q : VK) (E : XK), Rm k (A.deeper (PyProof.Rows.envOfC qual (C8.fnScope st) s.heap.objs.size f cdv)) → sp vs H Q E →
      ∃ t, PSs (cxOf CX0 P w K mg base N qual (C8.fnScope st) f cdv A outer s H E).nox (C8.fnBody st) t ∧ t { nx := fun _ H' => Q .non H', rt := Q } (start N vs) H) : Fn P w K mg base (k + 1) f fd ps sp := by
  obtain ⟨_, _, _, _, _, _, _, cdv, _, _, rfl, at_, code⟩ := F.ex
  refine ⟨len, fun A outer s H args us vs Q E room before bound rel asked => ?_⟩
  have same := fun b o e => (before.bs b o e).1
  have KX : K.In s.heap := before.mod.kin.keeps same
  refine codeAny_call_function room.depth (KX f _ at_) rfl S.co S.gen rfl (PySem.W.codeRec_of KX code) (bound _ _ _ _ (wpAny_newFunctionEnv_cells S.kind (par_kind S us _) fun env he s1 into => ?_))
  subst he
  refine ⟨(before.mod.nolimit.keeps same).keeps into.toInCall.keep, codeAny_func ?_⟩
  obtain ⟨t, ht, hq⟩ := hbody f cdv A outer s H vs Q E (room.deeper _) asked
  have I0 : Inv (cxOf CX0 P w K mg base N qual (C8.fnScope st) f cdv A outer s H E) [] (start N vs) H s1 := inv_start S room.hd before (len vs H Q E asked) rel into
  refine wpAny_mono (ht.nox.run [] s1 _ H _ I0 hq) ?_ fun _ _ z => z
  rintro (_ | _ | _ | u) s2 out
  · obtain ⟨σ2, H2, J, q⟩ := out
    exact ⟨.non, H2, J.os, J.bare, J.base, J.hok, rfl, q⟩
  · exact False.elim (out.elim fun _ a => a.elim fun _ b => b.2)
  · exact False.elim (out.elim fun _ a => a.elim fun _ b => b.2)
  · obtain ⟨v, σ2, H2, J, rv, q⟩ := out
    exact ⟨v, H2, J.os, J.bare, J.base, J.hok, rv, q⟩
/-- how arguments bind -/
abbrev Bind (x qual : Str) (st : Stmt) (ps : List Str) : Prop := ∀ (kV doc pm : Value) (an : Option Addr) (cdv ct : Value) (us : List Value), us.length = ps.length → bindArgs (PySem.W.fnOf x qual (C8.fnArgs st) (C8.fnBody st) (C8.fnScope st) .none kV doc pm an cdv ct) ⟨us, []⟩ = pure (ps.zip us)
theorem cal_by (F : Df K mg x st) (S : FnScope N ps (C8.fnScope st)) (hb : Bind x x st ps) (len : ∀ vs H Q E, sp vs H Q E → vs.length = ps.length)
    (hbody : ∀ (f : Addr) (cdv : Value) (A : Around) (outer : List Env) (s : Shared) (H : Hp) (vs : List V) (Q : VK) (E : XK), Rm k (A.deeper (PyProof.Rows.envOfC x (C8.fnScope st) s.heap.objs.size f cdv)) → sp vs H Q E →
      ∃ t, PSs (cxOf CX0 P w K mg base N x (C8.fnScope st) f cdv A outer s H E).nox (C8.fnBody st) t ∧ t { nx := fun _ H' => Q .non H', rt := Q } (start N vs) H) : Cal P w K mg base (k + 1) x sp := by
  obtain ⟨f, fd, F, df, mgf, kp⟩ := F.ex
  exact ⟨f, fd, ps, fn_by F S len hbody, mgf, kp, F.binds df hb⟩
theorem met_by (c : Cls K C) (F : Mf K C m qual st) (S : FnScope N ps (C8.fnScope st)) (hb : Bind m qual st ps) (len : ∀ vs H Q E, sp vs H Q E → vs.length = ps.length)
    (hbody : ∀ (f : Addr) (cdv : Value) (A : Around) (outer : List Env) (s : Shared) (H : Hp) (vs : List V) (Q : VK) (E : XK), Rm k (A.deeper (PyProof.Rows.envOfC qual (C8.fnScope st) s.heap.objs.size f cdv)) → sp vs H Q E →
      ∃ t, PSs (cxOf CX0 P w K mg base N qual (C8.fnScope st) f cdv A outer s H E).nox (C8.fnBody st) t ∧ t { nx := fun _ H' => Q .non H', rt := Q } (start N vs) H) : Met P w K mg base (k + 1) C m sp := by
  obtain ⟨f, fd, F, df, me⟩ := F.ex
  exact ⟨f, fd, ps, c, me, fn_by F S len hbody, F.binds df hb⟩
theorem mak_by (mk : PySem.W.makesIn K C = true) (kc : PySem.W.keepIn K (.ref C) = true) (hm : mg x = some (.ref C)) (F : Mf K C "__init__" qual st) (S : FnScope N ps (C8.fnScope st)) (hb : Bind "__init__" qual st ps) (len : ∀ vs H Q E, sp vs H Q E → vs.length = ps.length)
    (hbody : ∀ (f : Addr) (cdv : Value) (A : Around) (outer : List Env) (s : Shared) (H : Hp) (vs : List V) (Q : VK) (E : XK), Rm k (A.deeper (PyProof.Rows.envOfC qual (C8.fnScope st) s.heap.objs.size f cdv)) → sp vs H Q E →
      ∃ t, PSs (cxOf CX0 P w K mg base N qual (C8.fnScope st) f cdv A outer s H E).nox (C8.fnBody st) t ∧ t { nx := fun _ H' => Q .non H', rt := Q } (start N vs) H) : Mak P w K mg base (k + 1) x C sp := by
  obtain ⟨f, fd, F, df, me⟩ := F.ex
  exact ⟨f, fd, ps, ⟨mk, me.at_, me.fn, kc⟩, fn_by F S len hbody, hm, F.binds df hb⟩
end

/-! ### rules of our own -/
section
variable {X : Cx}
theorem pe_never {e : Expr} : PE X e (fun _ _ _ => False) := ⟨fun _ _ _ _ _ _ h => h.elim⟩
theorem pt_never {e : Expr} : PT X e (fun _ _ _ => False) := ⟨fun _ _ _ _ _ _ h => h.elim⟩
/-- != of data of any depth that there is room for -/
def rNeX (K : PySem.W.Frag) : R2 := fun x y H Q => ∃ d e, Dp K H x d ∧ Dp K H y e ∧ d.canLay0 = true ∧ e.canLay0 = true ∧ d.depth ≤ 190 ∧ Q (.bl (!PyData.eqv d e)) H
theorem op_neX {j : Nat} (hr : Rm j X.A) : OpR X (compareOp .NotEq) (rNeX X.K) := by
  rintro pins s σ H x y v u Q I rx ry ⟨d, e, hd, he, sd, se, dd, q⟩
  obtain ⟨_, r1⟩ := Dp.reads I d x v hd rx
  obtain ⟨_, r2⟩ := Dp.reads I e y u he ry
  refine SeqAt.compareNe_reads r1 r2 sd se ?_ ⟨.bl _, H, I, rfl, q⟩
  have h1 : min d.depth e.depth ≤ d.depth := Nat.min_le_left _ _
  have := hr.un
  omega
theorem opI {K : PySem.W.Frag} (h : X.K = K := by rfl) : OpR X (compareOp .In) (rIn K false) := h ▸ op_in_seq
theorem opNI {K : PySem.W.Frag} (h : X.K = K := by rfl) : OpR X (compareOp .NotIn) (rIn K true) := h ▸ op_notIn_seq
def rLenS (K : PySem.W.Frag) (us : List V) (H : Hp) (Q : VK) : Prop := ∃ (a : Addr) (vs : List V), us = [.ref a] ∧ (SqL K H a vs ∨ SqT K H a vs) ∧ Q (.int vs.length) H
theorem callLen {K : PySem.W.Frag} (h : X.K = K := by rfl) : CallR X (.builtin "len") (rLenS K) := by subst h; exact call_len_seq
theorem callIsi {K : PySem.W.Frag} (h : X.K = K := by rfl) : CallR X (.builtin "isinstance") (rIsi K) := by subst h; exact call_isi
theorem ixL {K : PySem.W.Frag} (h : X.K = K := by rfl) : IxR X (rIxL K) := by subst h; exact ix_list
theorem ixT {K : PySem.W.Frag} (h : X.K = K := by rfl) : IxR X (rIxT K) := by subst h; exact ix_tup
theorem slL {K : PySem.W.Frag} (h : X.K = K := by rfl) : SlR X (rSlL K) := by subst h; exact sl_list
theorem slT {K : PySem.W.Frag} (h : X.K = K := by rfl) : SlR X (rSlT K) := by subst h; exact sl_tup
/-- d.get(k, x) of a written dict -/
def tKGet2 (K : PySem.W.Frag) (d : Addr) (td ty tx : TE) : TE := fun σ H Q => td σ H fun x H1 => x = .ref d ∧ ty σ H1 fun y H2 => tx σ H2 fun z H3 => ∃ k : Str, y = .str k ∧
  ((∃ (u0 : Value) (v0 : V), PySem.W.nsIn K d k = some (some u0) ∧ RelV v0 u0 ∧ Q v0 H3) ∨ (PySem.W.nsIn K d k = some none ∧ Q z H3))
theorem pe_kget2 {d : Addr} {es : Array DictEntry} {n : Nat} {o e f : Expr} {td ty tx : TE} {apos cpos : Pos} (D : KDict X.K X.w d es n) (ho : PE X o td) (he : PE X e ty) (hf : PE X f tx) (m : M2 X o "get" apos e f cpos := by exact ⟨rfl, rfl, rfl, rfl⟩) :
    PE X (.Call (.Attribute o "get" apos) [e, f] [] cpos) (tKGet2 X.K d td ty tx) := by
  refine ⟨fun pins s σ H Q I h => ?_⟩
  refine wpAny_Call_method m.base m.few m.line PySem.F.plainAttrs_dict PySem.F.slot_dict_get PySem.F.type_dict_get (thn (ho.run pins s σ H _ I h) fun u s1 ⟨x, H1, I1, rx, ex, q1⟩ => ?_)
  subst ex
  cases (show u = Value.ref d from rx)
  have hm1 := PySem.W.mapOf_K (prog := X.prog) (w := X.w) I1.kIn D.at_ D.lit
  refine ⟨hm1.typeIs, fun b q => ?_, ?_⟩
  · cases q
    exact ⟨_, I1.kIn d _ D.at_, rfl⟩
  rw [m.trees]
  refine Calls.callWith_builtin rfl (Calls.evalArgs_plain (Calls.spliced_cons ?_))
  refine thn (he.run pins s1 σ H1 _ I1 q1) fun iv s2 ⟨y, H2, I2, ry, q2⟩ => Calls.spliced_cons ?_
  refine thn (hf.run pins s2 σ H2 _ I2 q2) fun fv s3 ⟨z, H3, I3, rz, k, ek, q3⟩ => Calls.spliced_nil ?_
  subst ek
  obtain ⟨t, rfl⟩ := ry
  have hm3 := PySem.W.mapOf_K (prog := X.prog) (w := X.w) I3.kIn D.at_ D.lit
  refine call_meetsIn PySem.F.slot_dict_get hm3.typeIs PySem.F.entry_dict_get (PySem.F.args_dict_get_3 _ _ _) (meets_dict_get_default (PySem.strKind X.prog X.w) d (PySem.strKind_is X.prog X.w k t) D.low fv) ⟨_, hm3, ?_⟩
  rcases q3 with ⟨u0, v0, en, rv, q⟩ | ⟨en, q⟩
  · show EP X pins σ Q ((PySem.findBy Value.isStrOf es k).getD fv) _
    rw [PySem.W.find_K D.at_ en]
    exact ⟨v0, H3, I3.tok _, rv, q⟩
  · show EP X pins σ Q ((PySem.findBy Value.isStrOf es k).getD fv) _
    rw [PySem.W.find_K D.at_ en]
    exact ⟨z, H3, I3.tok _, rz, q⟩
/-- str(x) of a number or a text -/
theorem call_strX : CallR X (.type "str") (fun xs H Q => (∃ i, xs = [.int i] ∧ i.natAbs.log2 < 1920 ∧ Q (.str (Str.ofString (toString i))) H) ∨ (∃ a, xs = [.str a] ∧ Q (.str a) H)) := by
  rintro pins s σ H xs us Q I r (h | h)
  · exact call_str_int pins s σ H xs us Q I r h
  · exact SkE.call_str_str pins s σ H xs us Q I r h
end
end Lr

set_option maxRecDepth 100000
set_option maxHeartbeats 4200000
namespace Lr
open PySem PySem.Spec PyProof.Rows L2
structure Top (w : World) (K : PySem.W.Frag) (mg : Str → Option Value) (C aKEPT aPAIRS aLOOSE aSIGNS : Addr) : Prop where
  cl : Cls K C
  nsource : NoAttr K C "source"
  nopened : NoAttr K C "opened"
  nnext : NoAttr K C "next"
  mkC : PySem.W.makesIn K C = true
  kc : PySem.W.keepIn K (.ref C) = true
  gReader : mg "Reader" = some (.ref C)
  n_len : mg "len" = none
  n_isinstance : mg "isinstance" = none
  n_str : mg "str" = none
  n_all : mg "all" = none
  n_int : mg "int" = none
  n_abs : mg "abs" = none
  n_min : mg "min" = none
  n_max : mg "max" = none
  n_range : mg "range" = none
  n_enumerate : mg "enumerate" = none
  n_tuple : mg "tuple" = none
  gMOST_SIGNS : ∃ u, mg "MOST_SIGNS" = some u ∧ RelV (.int 400) u
  gMOST_LETTERS : ∃ u, mg "MOST_LETTERS" = some u ∧ RelV (.int 8) u
  gMOST_FIGURES : ∃ u, mg "MOST_FIGURES" = some u ∧ RelV (.int 60) u
  gMOST_OPEN : ∃ u, mg "MOST_OPEN" = some u ∧ RelV (.int 12) u
  gMOST_ARGS : ∃ u, mg "MOST_ARGS" = some u ∧ RelV (.int 4) u
  gLETTERS : ∃ u, mg "LETTERS" = some u ∧ RelV (.str "abcdefghijklmnopqrstuvwxyz") u
  gFIGURES : ∃ u, mg "FIGURES" = some u ∧ RelV (.str "0123456789") u
  gSINGLES : ∃ u, mg "SINGLES" = some u ∧ RelV (.str "+-*<=()[],") u
  gKEPT : ∃ u, mg "KEPT" = some u ∧ RelV (.ref aKEPT) u
  sKEPT : ∀ H : Hp, SqT K H aKEPT [V.str "if", V.str "then", V.str "else", V.str "let", V.str "in", V.str "and", V.str "or", V.str "not", V.str "for", V.str "true", V.str "false", V.str "len", V.str "sum", V.str "text", V.str "rest"]
  gPAIRS : ∃ u, mg "PAIRS" = some u ∧ RelV (.ref aPAIRS) u
  sPAIRS : ∀ H : Hp, SqT K H aPAIRS [V.str "//", V.str "==", V.str "!=", V.str "<="]
  gLOOSE : ∃ u, mg "LOOSE" = some u ∧ RelV (.ref aLOOSE) u
  dLOOSE : ∃ es n, KDict K w aLOOSE es n
  iLOOSE_or : ∃ u0, PySem.W.nsIn K aLOOSE "or" = some (some u0) ∧ RelV (.int 1) u0
  iLOOSE_and : ∃ u0, PySem.W.nsIn K aLOOSE "and" = some (some u0) ∧ RelV (.int 2) u0
  iLOOSE_pick : PySem.W.nsIn K aLOOSE "pick" = some none
  iLOOSE_number : PySem.W.nsIn K aLOOSE "number" = some none
  iLOOSE_name : PySem.W.nsIn K aLOOSE "name" = some none
  iLOOSE_words : PySem.W.nsIn K aLOOSE "words" = some none
  gSIGNS : ∃ u, mg "SIGNS" = some u ∧ RelV (.ref aSIGNS) u
  dSIGNS : ∃ es n, KDict K w aSIGNS es n
  iSIGNS_plus : ∃ u0, PySem.W.nsIn K aSIGNS "+" = some (some u0) ∧ RelV (.int 5) u0
  iSIGNS_minus : ∃ u0, PySem.W.nsIn K aSIGNS "-" = some (some u0) ∧ RelV (.int 5) u0
  iSIGNS_times : ∃ u0, PySem.W.nsIn K aSIGNS "*" = some (some u0) ∧ RelV (.int 6) u0
  iSIGNS_floor : ∃ u0, PySem.W.nsIn K aSIGNS "//" = some (some u0) ∧ RelV (.int 6) u0
  iSIGNS_rest : ∃ u0, PySem.W.nsIn K aSIGNS "rest" = some (some u0) ∧ RelV (.int 6) u0
  d_is_sign : Df K mg "is_sign" s_is_sign
  d_is_text : Df K mg "is_text" s_is_text
  d_run_of : Df K mg "run_of" s_run_of
  d_number_at : Df K mg "number_at" s_number_at
  d_name_at : Df K mg "name_at" s_name_at
  d_quoted_at : Df K mg "quoted_at" s_quoted_at
  d_word_at : Df K mg "word_at" s_word_at
  d_ended : Df K mg "ended" s_ended
  d_params_of : Df K mg "params_of" s_params_of
  d_is_word : Df K mg "is_word" s_is_word
  d_head_of : Df K mg "head_of" s_head_of
  d_gives_args : Df K mg "gives_args" s_gives_args
  d_told_as : Df K mg "told_as" s_told_as
  d_inner : Df K mg "inner" s_inner
  d_free : Df K mg "free" s_free
  d_looseness : Df K mg "looseness" s_looseness
  d_written : Df K mg "written" s_written
  d_show_signs : Df K mg "show_signs" s_show_signs
  d_show_closed : Df K mg "show_closed" s_show_closed
  d_shown_tree : Df K mg "shown_tree" s_shown_tree
  d__law_tape : Df K mg "_law_tape" s__law_tape
  d__law_digit : Df K mg "_law_digit" s__law_digit
  d__law_row : Df K mg "_law_row" s__law_row
  d__law_leaf : Df K mg "_law_leaf" s__law_leaf
  d__law_built : Df K mg "_law_built" s__law_built
  d__law_moved : Df K mg "_law_moved" s__law_moved
  d_law : Df K mg "law" s_law
  d_Reader___init__ : Mf K C "__init__" "Reader.__init__" s_Reader___init__
  d_Reader_go : Mf K C "go" "Reader.go" s_Reader_go
  d_Reader_sees : Mf K C "sees" "Reader.sees" s_Reader_sees
  d_Reader_opens : Mf K C "opens" "Reader.opens" s_Reader_opens
  d_Reader_needs : Mf K C "needs" "Reader.needs" s_Reader_needs
  d_Reader_needs_name : Mf K C "needs_name" "Reader.needs_name" s_Reader_needs_name
  d_Reader_shuts : Mf K C "shuts" "Reader.shuts" s_Reader_shuts
  d_Reader_any_tree : Mf K C "any_tree" "Reader.any_tree" s_Reader_any_tree
  d_Reader_either : Mf K C "either" "Reader.either" s_Reader_either
  d_Reader_both : Mf K C "both" "Reader.both" s_Reader_both
  d_Reader_turned : Mf K C "turned" "Reader.turned" s_Reader_turned
  d_Reader_compared : Mf K C "compared" "Reader.compared" s_Reader_compared
  d_Reader_joined : Mf K C "joined" "Reader.joined" s_Reader_joined
  d_Reader_operand : Mf K C "operand" "Reader.operand" s_Reader_operand
  d_Reader_lessened : Mf K C "lessened" "Reader.lessened" s_Reader_lessened
  d_Reader_picked : Mf K C "picked" "Reader.picked" s_Reader_picked
  d_Reader_closed : Mf K C "closed" "Reader.closed" s_Reader_closed
theorem top_mk {w : World} {K : PySem.W.Frag} {h : Heap} {mg : Str → Option Value} {C aKEPT aPAIRS aLOOSE aSIGNS : Addr} (X : K.In h) (G : h.Ns mainGlobals mg)
    {t_MOST_SIGNS : Tok}
    {t_MOST_LETTERS : Tok}
    {t_MOST_FIGURES : Tok}
    {t_MOST_OPEN : Tok}
    {t_MOST_ARGS : Tok}
    {t_LETTERS : Tok}
    {t_FIGURES : Tok}
    {t_SINGLES : Tok}
    {tk_KEPT_0 tk_KEPT_1 tk_KEPT_2 tk_KEPT_3 tk_KEPT_4 tk_KEPT_5 tk_KEPT_6 tk_KEPT_7 tk_KEPT_8 tk_KEPT_9 tk_KEPT_10 tk_KEPT_11 tk_KEPT_12 tk_KEPT_13 tk_KEPT_14 : Tok} {nn_KEPT : Nat} {dd_KEPT : Option Addr} {sl_KEPT : Array (Option Value)}
    {tk_PAIRS_0 tk_PAIRS_1 tk_PAIRS_2 tk_PAIRS_3 : Tok} {nn_PAIRS : Nat} {dd_PAIRS : Option Addr} {sl_PAIRS : Array (Option Value)}
    {es_LOOSE : Array DictEntry} {en_LOOSE : Nat}
    {tk_LOOSE_or : Tok}
    {tk_LOOSE_and : Tok}
    {es_SIGNS : Array DictEntry} {en_SIGNS : Nat}
    {tk_SIGNS_plus : Tok}
    {tk_SIGNS_minus : Tok}
    {tk_SIGNS_times : Tok}
    {tk_SIGNS_floor : Tok}
    {tk_SIGNS_rest : Tok}
    {f0 : Addr} {od0 an0 : Option Addr} {sl0 : Array (Option Value)} {oc0 kV0 dc0 pm0 cd0 ct0 : Value}
    {f1 : Addr} {od1 an1 : Option Addr} {sl1 : Array (Option Value)} {oc1 kV1 dc1 pm1 cd1 ct1 : Value}
    {f2 : Addr} {od2 an2 : Option Addr} {sl2 : Array (Option Value)} {oc2 kV2 dc2 pm2 cd2 ct2 : Value}
    {f3 : Addr} {od3 an3 : Option Addr} {sl3 : Array (Option Value)} {oc3 kV3 dc3 pm3 cd3 ct3 : Value}
    {f4 : Addr} {od4 an4 : Option Addr} {sl4 : Array (Option Value)} {oc4 kV4 dc4 pm4 cd4 ct4 : Value}
    {f5 : Addr} {od5 an5 : Option Addr} {sl5 : Array (Option Value)} {oc5 kV5 dc5 pm5 cd5 ct5 : Value}
    {f6 : Addr} {od6 an6 : Option Addr} {sl6 : Array (Option Value)} {oc6 kV6 dc6 pm6 cd6 ct6 : Value}
    {f7 : Addr} {od7 an7 : Option Addr} {sl7 : Array (Option Value)} {oc7 kV7 dc7 pm7 cd7 ct7 : Value}
    {f8 : Addr} {od8 an8 : Option Addr} {sl8 : Array (Option Value)} {oc8 kV8 dc8 pm8 cd8 ct8 : Value}
    {f9 : Addr} {od9 an9 : Option Addr} {sl9 : Array (Option Value)} {oc9 kV9 dc9 pm9 cd9 ct9 : Value}
    {f10 : Addr} {od10 an10 : Option Addr} {sl10 : Array (Option Value)} {oc10 kV10 dc10 pm10 cd10 ct10 : Value}
    {f11 : Addr} {od11 an11 : Option Addr} {sl11 : Array (Option Value)} {oc11 kV11 dc11 pm11 cd11 ct11 : Value}
    {f12 : Addr} {od12 an12 : Option Addr} {sl12 : Array (Option Value)} {oc12 kV12 dc12 pm12 cd12 ct12 : Value}
    {f13 : Addr} {od13 an13 : Option Addr} {sl13 : Array (Option Value)} {oc13 kV13 dc13 pm13 cd13 ct13 : Value}
    {f14 : Addr} {od14 an14 : Option Addr} {sl14 : Array (Option Value)} {oc14 kV14 dc14 pm14 cd14 ct14 : Value}
    {f15 : Addr} {od15 an15 : Option Addr} {sl15 : Array (Option Value)} {oc15 kV15 dc15 pm15 cd15 ct15 : Value}
    {f16 : Addr} {od16 an16 : Option Addr} {sl16 : Array (Option Value)} {oc16 kV16 dc16 pm16 cd16 ct16 : Value}
    {f17 : Addr} {od17 an17 : Option Addr} {sl17 : Array (Option Value)} {oc17 kV17 dc17 pm17 cd17 ct17 : Value}
    {f18 : Addr} {od18 an18 : Option Addr} {sl18 : Array (Option Value)} {oc18 kV18 dc18 pm18 cd18 ct18 : Value}
    {f19 : Addr} {od19 an19 : Option Addr} {sl19 : Array (Option Value)} {oc19 kV19 dc19 pm19 cd19 ct19 : Value}
    {f20 : Addr} {od20 an20 : Option Addr} {sl20 : Array (Option Value)} {oc20 kV20 dc20 pm20 cd20 ct20 : Value}
    {f21 : Addr} {od21 an21 : Option Addr} {sl21 : Array (Option Value)} {oc21 kV21 dc21 pm21 cd21 ct21 : Value}
    {f22 : Addr} {od22 an22 : Option Addr} {sl22 : Array (Option Value)} {oc22 kV22 dc22 pm22 cd22 ct22 : Value}
    {f23 : Addr} {od23 an23 : Option Addr} {sl23 : Array (Option Value)} {oc23 kV23 dc23 pm23 cd23 ct23 : Value}
    {f24 : Addr} {od24 an24 : Option Addr} {sl24 : Array (Option Value)} {oc24 kV24 dc24 pm24 cd24 ct24 : Value}
    {f25 : Addr} {od25 an25 : Option Addr} {sl25 : Array (Option Value)} {oc25 kV25 dc25 pm25 cd25 ct25 : Value}
    {f26 : Addr} {od26 an26 : Option Addr} {sl26 : Array (Option Value)} {oc26 kV26 dc26 pm26 cd26 ct26 : Value}
    {fm0 : Addr} {odm0 anm0 : Option Addr} {slm0 : Array (Option Value)} {ocm0 kVm0 dcm0 pmm0 cdm0 ctm0 : Value}
    {fm1 : Addr} {odm1 anm1 : Option Addr} {slm1 : Array (Option Value)} {ocm1 kVm1 dcm1 pmm1 cdm1 ctm1 : Value}
    {fm2 : Addr} {odm2 anm2 : Option Addr} {slm2 : Array (Option Value)} {ocm2 kVm2 dcm2 pmm2 cdm2 ctm2 : Value}
    {fm3 : Addr} {odm3 anm3 : Option Addr} {slm3 : Array (Option Value)} {ocm3 kVm3 dcm3 pmm3 cdm3 ctm3 : Value}
    {fm4 : Addr} {odm4 anm4 : Option Addr} {slm4 : Array (Option Value)} {ocm4 kVm4 dcm4 pmm4 cdm4 ctm4 : Value}
    {fm5 : Addr} {odm5 anm5 : Option Addr} {slm5 : Array (Option Value)} {ocm5 kVm5 dcm5 pmm5 cdm5 ctm5 : Value}
    {fm6 : Addr} {odm6 anm6 : Option Addr} {slm6 : Array (Option Value)} {ocm6 kVm6 dcm6 pmm6 cdm6 ctm6 : Value}
    {fm7 : Addr} {odm7 anm7 : Option Addr} {slm7 : Array (Option Value)} {ocm7 kVm7 dcm7 pmm7 cdm7 ctm7 : Value}
    {fm8 : Addr} {odm8 anm8 : Option Addr} {slm8 : Array (Option Value)} {ocm8 kVm8 dcm8 pmm8 cdm8 ctm8 : Value}
    {fm9 : Addr} {odm9 anm9 : Option Addr} {slm9 : Array (Option Value)} {ocm9 kVm9 dcm9 pmm9 cdm9 ctm9 : Value}
    {fm10 : Addr} {odm10 anm10 : Option Addr} {slm10 : Array (Option Value)} {ocm10 kVm10 dcm10 pmm10 cdm10 ctm10 : Value}
    {fm11 : Addr} {odm11 anm11 : Option Addr} {slm11 : Array (Option Value)} {ocm11 kVm11 dcm11 pmm11 cdm11 ctm11 : Value}
    {fm12 : Addr} {odm12 anm12 : Option Addr} {slm12 : Array (Option Value)} {ocm12 kVm12 dcm12 pmm12 cdm12 ctm12 : Value}
    {fm13 : Addr} {odm13 anm13 : Option Addr} {slm13 : Array (Option Value)} {ocm13 kVm13 dcm13 pmm13 cdm13 ctm13 : Value}
    {fm14 : Addr} {odm14 anm14 : Option Addr} {slm14 : Array (Option Value)} {ocm14 kVm14 dcm14 pmm14 cdm14 ctm14 : Value}
    {fm15 : Addr} {odm15 anm15 : Option Addr} {slm15 : Array (Option Value)} {ocm15 kVm15 dcm15 pmm15 cdm15 ctm15 : Value}
    {fm16 : Addr} {odm16 anm16 : Option Addr} {slm16 : Array (Option Value)} {ocm16 kVm16 dcm16 pmm16 cdm16 ctm16 : Value}
    (aC : PySem.W.nsIn K mainGlobals "Reader" = some (some (.ref C)))
    (pg : PySem.W.plainGet K C Str.empty = true)
    (hd : PySem.W.hasDictIn K C = true)
    (po : PySem.W.plainOver K C = true)
    (sa : PySem.W.findIn K (.ref C) "__setattr__" = some (some (.builtin "object.__setattr__")))
    (nAsource : PySem.W.findIn K (.ref C) "source" = some none)
    (nAopened : PySem.W.findIn K (.ref C) "opened" = some none)
    (nAnext : PySem.W.findIn K (.ref C) "next" = some none)
    (mkC : PySem.W.makesIn K C = true)
    (kc : PySem.W.keepIn K (.ref C) = true)
    (z_len : PySem.W.nsIn K mainGlobals "len" = some none)
    (z_isinstance : PySem.W.nsIn K mainGlobals "isinstance" = some none)
    (z_str : PySem.W.nsIn K mainGlobals "str" = some none)
    (z_all : PySem.W.nsIn K mainGlobals "all" = some none)
    (z_int : PySem.W.nsIn K mainGlobals "int" = some none)
    (z_abs : PySem.W.nsIn K mainGlobals "abs" = some none)
    (z_min : PySem.W.nsIn K mainGlobals "min" = some none)
    (z_max : PySem.W.nsIn K mainGlobals "max" = some none)
    (z_range : PySem.W.nsIn K mainGlobals "range" = some none)
    (z_enumerate : PySem.W.nsIn K mainGlobals "enumerate" = some none)
    (z_tuple : PySem.W.nsIn K mainGlobals "tuple" = some none)
    (v_MOST_SIGNS : PySem.W.nsIn K mainGlobals "MOST_SIGNS" = some (some (.int 400 t_MOST_SIGNS)))
    (v_MOST_LETTERS : PySem.W.nsIn K mainGlobals "MOST_LETTERS" = some (some (.int 8 t_MOST_LETTERS)))
    (v_MOST_FIGURES : PySem.W.nsIn K mainGlobals "MOST_FIGURES" = some (some (.int 60 t_MOST_FIGURES)))
    (v_MOST_OPEN : PySem.W.nsIn K mainGlobals "MOST_OPEN" = some (some (.int 12 t_MOST_OPEN)))
    (v_MOST_ARGS : PySem.W.nsIn K mainGlobals "MOST_ARGS" = some (some (.int 4 t_MOST_ARGS)))
    (v_LETTERS : PySem.W.nsIn K mainGlobals "LETTERS" = some (some (.str "abcdefghijklmnopqrstuvwxyz" t_LETTERS)))
    (v_FIGURES : PySem.W.nsIn K mainGlobals "FIGURES" = some (some (.str "0123456789" t_FIGURES)))
    (v_SINGLES : PySem.W.nsIn K mainGlobals "SINGLES" = some (some (.str "+-*<=()[]," t_SINGLES)))
    (v_KEPT : PySem.W.nsIn K mainGlobals "KEPT" = some (some (.ref aKEPT)))
    (l_KEPT : K.lookup aKEPT = some ⟨.type "tuple", dd_KEPT, .seq #[.str "if" tk_KEPT_0, .str "then" tk_KEPT_1, .str "else" tk_KEPT_2, .str "let" tk_KEPT_3, .str "in" tk_KEPT_4, .str "and" tk_KEPT_5, .str "or" tk_KEPT_6, .str "not" tk_KEPT_7, .str "for" tk_KEPT_8, .str "true" tk_KEPT_9, .str "false" tk_KEPT_10, .str "len" tk_KEPT_11, .str "sum" tk_KEPT_12, .str "text" tk_KEPT_13, .str "rest" tk_KEPT_14] nn_KEPT, sl_KEPT⟩)
    (v_PAIRS : PySem.W.nsIn K mainGlobals "PAIRS" = some (some (.ref aPAIRS)))
    (l_PAIRS : K.lookup aPAIRS = some ⟨.type "tuple", dd_PAIRS, .seq #[.str "//" tk_PAIRS_0, .str "==" tk_PAIRS_1, .str "!=" tk_PAIRS_2, .str "<=" tk_PAIRS_3] nn_PAIRS, sl_PAIRS⟩)
    (v_LOOSE : PySem.W.nsIn K mainGlobals "LOOSE" = some (some (.ref aLOOSE)))
    (l_LOOSE : K.lookup aLOOSE = some ⟨.type "dict", none, .dict es_LOOSE en_LOOSE, #[]⟩)
    (k_LOOSE : PySem.W.KeysLit w.params es_LOOSE.toList)
    (o_LOOSE : (aLOOSE == sysModules) = false)
    (i_LOOSE_or : PySem.W.nsIn K aLOOSE "or" = some (some (.int 1 tk_LOOSE_or)))
    (i_LOOSE_and : PySem.W.nsIn K aLOOSE "and" = some (some (.int 2 tk_LOOSE_and)))
    (i_LOOSE_pick : PySem.W.nsIn K aLOOSE "pick" = some none)
    (i_LOOSE_number : PySem.W.nsIn K aLOOSE "number" = some none)
    (i_LOOSE_name : PySem.W.nsIn K aLOOSE "name" = some none)
    (i_LOOSE_words : PySem.W.nsIn K aLOOSE "words" = some none)
    (v_SIGNS : PySem.W.nsIn K mainGlobals "SIGNS" = some (some (.ref aSIGNS)))
    (l_SIGNS : K.lookup aSIGNS = some ⟨.type "dict", none, .dict es_SIGNS en_SIGNS, #[]⟩)
    (k_SIGNS : PySem.W.KeysLit w.params es_SIGNS.toList)
    (o_SIGNS : (aSIGNS == sysModules) = false)
    (i_SIGNS_plus : PySem.W.nsIn K aSIGNS "+" = some (some (.int 5 tk_SIGNS_plus)))
    (i_SIGNS_minus : PySem.W.nsIn K aSIGNS "-" = some (some (.int 5 tk_SIGNS_minus)))
    (i_SIGNS_times : PySem.W.nsIn K aSIGNS "*" = some (some (.int 6 tk_SIGNS_times)))
    (i_SIGNS_floor : PySem.W.nsIn K aSIGNS "//" = some (some (.int 6 tk_SIGNS_floor)))
    (i_SIGNS_rest : PySem.W.nsIn K aSIGNS "rest" = some (some (.int 6 tk_SIGNS_rest)))
    (a0 : PySem.W.nsIn K mainGlobals "is_sign" = some (some (.ref f0)))
    (l0 : K.lookup f0 = some ⟨oc0, od0, .func (PySem.W.fnOf "is_sign" "is_sign" (C8.fnArgs s_is_sign) (C8.fnBody s_is_sign) (C8.fnScope s_is_sign) .none kV0 dc0 pm0 an0 cd0 ct0), sl0⟩)
    (c0 : PySem.W.codeIn K cd0 "is_sign" = true)
    (k0 : PySem.W.keepIn K (.ref f0) = true)
    (a1 : PySem.W.nsIn K mainGlobals "is_text" = some (some (.ref f1)))
    (l1 : K.lookup f1 = some ⟨oc1, od1, .func (PySem.W.fnOf "is_text" "is_text" (C8.fnArgs s_is_text) (C8.fnBody s_is_text) (C8.fnScope s_is_text) .none kV1 dc1 pm1 an1 cd1 ct1), sl1⟩)
    (c1 : PySem.W.codeIn K cd1 "is_text" = true)
    (k1 : PySem.W.keepIn K (.ref f1) = true)
    (a2 : PySem.W.nsIn K mainGlobals "run_of" = some (some (.ref f2)))
    (l2 : K.lookup f2 = some ⟨oc2, od2, .func (PySem.W.fnOf "run_of" "run_of" (C8.fnArgs s_run_of) (C8.fnBody s_run_of) (C8.fnScope s_run_of) .none kV2 dc2 pm2 an2 cd2 ct2), sl2⟩)
    (c2 : PySem.W.codeIn K cd2 "run_of" = true)
    (k2 : PySem.W.keepIn K (.ref f2) = true)
    (a3 : PySem.W.nsIn K mainGlobals "number_at" = some (some (.ref f3)))
    (l3 : K.lookup f3 = some ⟨oc3, od3, .func (PySem.W.fnOf "number_at" "number_at" (C8.fnArgs s_number_at) (C8.fnBody s_number_at) (C8.fnScope s_number_at) .none kV3 dc3 pm3 an3 cd3 ct3), sl3⟩)
    (c3 : PySem.W.codeIn K cd3 "number_at" = true)
    (k3 : PySem.W.keepIn K (.ref f3) = true)
    (a4 : PySem.W.nsIn K mainGlobals "name_at" = some (some (.ref f4)))
    (l4 : K.lookup f4 = some ⟨oc4, od4, .func (PySem.W.fnOf "name_at" "name_at" (C8.fnArgs s_name_at) (C8.fnBody s_name_at) (C8.fnScope s_name_at) .none kV4 dc4 pm4 an4 cd4 ct4), sl4⟩)
    (c4 : PySem.W.codeIn K cd4 "name_at" = true)
    (k4 : PySem.W.keepIn K (.ref f4) = true)
    (a5 : PySem.W.nsIn K mainGlobals "quoted_at" = some (some (.ref f5)))
    (l5 : K.lookup f5 = some ⟨oc5, od5, .func (PySem.W.fnOf "quoted_at" "quoted_at" (C8.fnArgs s_quoted_at) (C8.fnBody s_quoted_at) (C8.fnScope s_quoted_at) .none kV5 dc5 pm5 an5 cd5 ct5), sl5⟩)
    (c5 : PySem.W.codeIn K cd5 "quoted_at" = true)
    (k5 : PySem.W.keepIn K (.ref f5) = true)
    (a6 : PySem.W.nsIn K mainGlobals "word_at" = some (some (.ref f6)))
    (l6 : K.lookup f6 = some ⟨oc6, od6, .func (PySem.W.fnOf "word_at" "word_at" (C8.fnArgs s_word_at) (C8.fnBody s_word_at) (C8.fnScope s_word_at) .none kV6 dc6 pm6 an6 cd6 ct6), sl6⟩)
    (c6 : PySem.W.codeIn K cd6 "word_at" = true)
    (k6 : PySem.W.keepIn K (.ref f6) = true)
    (a7 : PySem.W.nsIn K mainGlobals "ended" = some (some (.ref f7)))
    (l7 : K.lookup f7 = some ⟨oc7, od7, .func (PySem.W.fnOf "ended" "ended" (C8.fnArgs s_ended) (C8.fnBody s_ended) (C8.fnScope s_ended) .none kV7 dc7 pm7 an7 cd7 ct7), sl7⟩)
    (c7 : PySem.W.codeIn K cd7 "ended" = true)
    (k7 : PySem.W.keepIn K (.ref f7) = true)
    (a8 : PySem.W.nsIn K mainGlobals "params_of" = some (some (.ref f8)))
    (l8 : K.lookup f8 = some ⟨oc8, od8, .func (PySem.W.fnOf "params_of" "params_of" (C8.fnArgs s_params_of) (C8.fnBody s_params_of) (C8.fnScope s_params_of) .none kV8 dc8 pm8 an8 cd8 ct8), sl8⟩)
    (c8 : PySem.W.codeIn K cd8 "params_of" = true)
    (k8 : PySem.W.keepIn K (.ref f8) = true)
    (a9 : PySem.W.nsIn K mainGlobals "is_word" = some (some (.ref f9)))
    (l9 : K.lookup f9 = some ⟨oc9, od9, .func (PySem.W.fnOf "is_word" "is_word" (C8.fnArgs s_is_word) (C8.fnBody s_is_word) (C8.fnScope s_is_word) .none kV9 dc9 pm9 an9 cd9 ct9), sl9⟩)
    (c9 : PySem.W.codeIn K cd9 "is_word" = true)
    (k9 : PySem.W.keepIn K (.ref f9) = true)
    (a10 : PySem.W.nsIn K mainGlobals "head_of" = some (some (.ref f10)))
    (l10 : K.lookup f10 = some ⟨oc10, od10, .func (PySem.W.fnOf "head_of" "head_of" (C8.fnArgs s_head_of) (C8.fnBody s_head_of) (C8.fnScope s_head_of) .none kV10 dc10 pm10 an10 cd10 ct10), sl10⟩)
    (c10 : PySem.W.codeIn K cd10 "head_of" = true)
    (k10 : PySem.W.keepIn K (.ref f10) = true)
    (a11 : PySem.W.nsIn K mainGlobals "gives_args" = some (some (.ref f11)))
    (l11 : K.lookup f11 = some ⟨oc11, od11, .func (PySem.W.fnOf "gives_args" "gives_args" (C8.fnArgs s_gives_args) (C8.fnBody s_gives_args) (C8.fnScope s_gives_args) .none kV11 dc11 pm11 an11 cd11 ct11), sl11⟩)
    (c11 : PySem.W.codeIn K cd11 "gives_args" = true)
    (k11 : PySem.W.keepIn K (.ref f11) = true)
    (a12 : PySem.W.nsIn K mainGlobals "told_as" = some (some (.ref f12)))
    (l12 : K.lookup f12 = some ⟨oc12, od12, .func (PySem.W.fnOf "told_as" "told_as" (C8.fnArgs s_told_as) (C8.fnBody s_told_as) (C8.fnScope s_told_as) .none kV12 dc12 pm12 an12 cd12 ct12), sl12⟩)
    (c12 : PySem.W.codeIn K cd12 "told_as" = true)
    (k12 : PySem.W.keepIn K (.ref f12) = true)
    (a13 : PySem.W.nsIn K mainGlobals "inner" = some (some (.ref f13)))
    (l13 : K.lookup f13 = some ⟨oc13, od13, .func (PySem.W.fnOf "inner" "inner" (C8.fnArgs s_inner) (C8.fnBody s_inner) (C8.fnScope s_inner) .none kV13 dc13 pm13 an13 cd13 ct13), sl13⟩)
    (c13 : PySem.W.codeIn K cd13 "inner" = true)
    (k13 : PySem.W.keepIn K (.ref f13) = true)
    (a14 : PySem.W.nsIn K mainGlobals "free" = some (some (.ref f14)))
    (l14 : K.lookup f14 = some ⟨oc14, od14, .func (PySem.W.fnOf "free" "free" (C8.fnArgs s_free) (C8.fnBody s_free) (C8.fnScope s_free) .none kV14 dc14 pm14 an14 cd14 ct14), sl14⟩)
    (c14 : PySem.W.codeIn K cd14 "free" = true)
    (k14 : PySem.W.keepIn K (.ref f14) = true)
    (a15 : PySem.W.nsIn K mainGlobals "looseness" = some (some (.ref f15)))
    (l15 : K.lookup f15 = some ⟨oc15, od15, .func (PySem.W.fnOf "looseness" "looseness" (C8.fnArgs s_looseness) (C8.fnBody s_looseness) (C8.fnScope s_looseness) .none kV15 dc15 pm15 an15 cd15 ct15), sl15⟩)
    (c15 : PySem.W.codeIn K cd15 "looseness" = true)
    (k15 : PySem.W.keepIn K (.ref f15) = true)
    (a16 : PySem.W.nsIn K mainGlobals "written" = some (some (.ref f16)))
    (l16 : K.lookup f16 = some ⟨oc16, od16, .func (PySem.W.fnOf "written" "written" (C8.fnArgs s_written) (C8.fnBody s_written) (C8.fnScope s_written) .none kV16 dc16 pm16 an16 cd16 ct16), sl16⟩)
    (c16 : PySem.W.codeIn K cd16 "written" = true)
    (k16 : PySem.W.keepIn K (.ref f16) = true)
    (a17 : PySem.W.nsIn K mainGlobals "show_signs" = some (some (.ref f17)))
    (l17 : K.lookup f17 = some ⟨oc17, od17, .func (PySem.W.fnOf "show_signs" "show_signs" (C8.fnArgs s_show_signs) (C8.fnBody s_show_signs) (C8.fnScope s_show_signs) .none kV17 dc17 pm17 an17 cd17 ct17), sl17⟩)
    (c17 : PySem.W.codeIn K cd17 "show_signs" = true)
    (k17 : PySem.W.keepIn K (.ref f17) = true)
    (a18 : PySem.W.nsIn K mainGlobals "show_closed" = some (some (.ref f18)))
    (l18 : K.lookup f18 = some ⟨oc18, od18, .func (PySem.W.fnOf "show_closed" "show_closed" (C8.fnArgs s_show_closed) (C8.fnBody s_show_closed) (C8.fnScope s_show_closed) .none kV18 dc18 pm18 an18 cd18 ct18), sl18⟩)
    (c18 : PySem.W.codeIn K cd18 "show_closed" = true)
    (k18 : PySem.W.keepIn K (.ref f18) = true)
    (a19 : PySem.W.nsIn K mainGlobals "shown_tree" = some (some (.ref f19)))
    (l19 : K.lookup f19 = some ⟨oc19, od19, .func (PySem.W.fnOf "shown_tree" "shown_tree" (C8.fnArgs s_shown_tree) (C8.fnBody s_shown_tree) (C8.fnScope s_shown_tree) .none kV19 dc19 pm19 an19 cd19 ct19), sl19⟩)
    (c19 : PySem.W.codeIn K cd19 "shown_tree" = true)
    (k19 : PySem.W.keepIn K (.ref f19) = true)
    (a20 : PySem.W.nsIn K mainGlobals "_law_tape" = some (some (.ref f20)))
    (l20 : K.lookup f20 = some ⟨oc20, od20, .func (PySem.W.fnOf "_law_tape" "_law_tape" (C8.fnArgs s__law_tape) (C8.fnBody s__law_tape) (C8.fnScope s__law_tape) .none kV20 dc20 pm20 an20 cd20 ct20), sl20⟩)
    (c20 : PySem.W.codeIn K cd20 "_law_tape" = true)
    (k20 : PySem.W.keepIn K (.ref f20) = true)
    (a21 : PySem.W.nsIn K mainGlobals "_law_digit" = some (some (.ref f21)))
    (l21 : K.lookup f21 = some ⟨oc21, od21, .func (PySem.W.fnOf "_law_digit" "_law_digit" (C8.fnArgs s__law_digit) (C8.fnBody s__law_digit) (C8.fnScope s__law_digit) .none kV21 dc21 pm21 an21 cd21 ct21), sl21⟩)
    (c21 : PySem.W.codeIn K cd21 "_law_digit" = true)
    (k21 : PySem.W.keepIn K (.ref f21) = true)
    (a22 : PySem.W.nsIn K mainGlobals "_law_row" = some (some (.ref f22)))
    (l22 : K.lookup f22 = some ⟨oc22, od22, .func (PySem.W.fnOf "_law_row" "_law_row" (C8.fnArgs s__law_row) (C8.fnBody s__law_row) (C8.fnScope s__law_row) .none kV22 dc22 pm22 an22 cd22 ct22), sl22⟩)
    (c22 : PySem.W.codeIn K cd22 "_law_row" = true)
    (k22 : PySem.W.keepIn K (.ref f22) = true)
    (a23 : PySem.W.nsIn K mainGlobals "_law_leaf" = some (some (.ref f23)))
    (l23 : K.lookup f23 = some ⟨oc23, od23, .func (PySem.W.fnOf "_law_leaf" "_law_leaf" (C8.fnArgs s__law_leaf) (C8.fnBody s__law_leaf) (C8.fnScope s__law_leaf) .none kV23 dc23 pm23 an23 cd23 ct23), sl23⟩)
    (c23 : PySem.W.codeIn K cd23 "_law_leaf" = true)
    (k23 : PySem.W.keepIn K (.ref f23) = true)
    (a24 : PySem.W.nsIn K mainGlobals "_law_built" = some (some (.ref f24)))
    (l24 : K.lookup f24 = some ⟨oc24, od24, .func (PySem.W.fnOf "_law_built" "_law_built" (C8.fnArgs s__law_built) (C8.fnBody s__law_built) (C8.fnScope s__law_built) .none kV24 dc24 pm24 an24 cd24 ct24), sl24⟩)
    (c24 : PySem.W.codeIn K cd24 "_law_built" = true)
    (k24 : PySem.W.keepIn K (.ref f24) = true)
    (a25 : PySem.W.nsIn K mainGlobals "_law_moved" = some (some (.ref f25)))
    (l25 : K.lookup f25 = some ⟨oc25, od25, .func (PySem.W.fnOf "_law_moved" "_law_moved" (C8.fnArgs s__law_moved) (C8.fnBody s__law_moved) (C8.fnScope s__law_moved) .none kV25 dc25 pm25 an25 cd25 ct25), sl25⟩)
    (c25 : PySem.W.codeIn K cd25 "_law_moved" = true)
    (k25 : PySem.W.keepIn K (.ref f25) = true)
    (a26 : PySem.W.nsIn K mainGlobals "law" = some (some (.ref f26)))
    (l26 : K.lookup f26 = some ⟨oc26, od26, .func (PySem.W.fnOf "law" "law" (C8.fnArgs s_law) (C8.fnBody s_law) (C8.fnScope s_law) .none kV26 dc26 pm26 an26 cd26 ct26), sl26⟩)
    (c26 : PySem.W.codeIn K cd26 "law" = true)
    (k26 : PySem.W.keepIn K (.ref f26) = true)
    (am0 : PySem.W.findIn K (.ref C) "__init__" = some (some (.ref fm0)))
    (im0 : PySem.W.isFn K (.ref fm0) = true)
    (lm0 : K.lookup fm0 = some ⟨ocm0, odm0, .func (PySem.W.fnOf "__init__" "Reader.__init__" (C8.fnArgs s_Reader___init__) (C8.fnBody s_Reader___init__) (C8.fnScope s_Reader___init__) .none kVm0 dcm0 pmm0 anm0 cdm0 ctm0), slm0⟩)
    (cm0 : PySem.W.codeIn K cdm0 "Reader.__init__" = true)
    (km0 : PySem.W.keepIn K (.ref fm0) = true)
    (am1 : PySem.W.findIn K (.ref C) "go" = some (some (.ref fm1)))
    (im1 : PySem.W.isFn K (.ref fm1) = true)
    (lm1 : K.lookup fm1 = some ⟨ocm1, odm1, .func (PySem.W.fnOf "go" "Reader.go" (C8.fnArgs s_Reader_go) (C8.fnBody s_Reader_go) (C8.fnScope s_Reader_go) .none kVm1 dcm1 pmm1 anm1 cdm1 ctm1), slm1⟩)
    (cm1 : PySem.W.codeIn K cdm1 "Reader.go" = true)
    (km1 : PySem.W.keepIn K (.ref fm1) = true)
    (am2 : PySem.W.findIn K (.ref C) "sees" = some (some (.ref fm2)))
    (im2 : PySem.W.isFn K (.ref fm2) = true)
    (lm2 : K.lookup fm2 = some ⟨ocm2, odm2, .func (PySem.W.fnOf "sees" "Reader.sees" (C8.fnArgs s_Reader_sees) (C8.fnBody s_Reader_sees) (C8.fnScope s_Reader_sees) .none kVm2 dcm2 pmm2 anm2 cdm2 ctm2), slm2⟩)
    (cm2 : PySem.W.codeIn K cdm2 "Reader.sees" = true)
    (km2 : PySem.W.keepIn K (.ref fm2) = true)
    (am3 : PySem.W.findIn K (.ref C) "opens" = some (some (.ref fm3)))
    (im3 : PySem.W.isFn K (.ref fm3) = true)
    (lm3 : K.lookup fm3 = some ⟨ocm3, odm3, .func (PySem.W.fnOf "opens" "Reader.opens" (C8.fnArgs s_Reader_opens) (C8.fnBody s_Reader_opens) (C8.fnScope s_Reader_opens) .none kVm3 dcm3 pmm3 anm3 cdm3 ctm3), slm3⟩)
    (cm3 : PySem.W.codeIn K cdm3 "Reader.opens" = true)
    (km3 : PySem.W.keepIn K (.ref fm3) = true)
    (am4 : PySem.W.findIn K (.ref C) "needs" = some (some (.ref fm4)))
    (im4 : PySem.W.isFn K (.ref fm4) = true)
    (lm4 : K.lookup fm4 = some ⟨ocm4, odm4, .func (PySem.W.fnOf "needs" "Reader.needs" (C8.fnArgs s_Reader_needs) (C8.fnBody s_Reader_needs) (C8.fnScope s_Reader_needs) .none kVm4 dcm4 pmm4 anm4 cdm4 ctm4), slm4⟩)
    (cm4 : PySem.W.codeIn K cdm4 "Reader.needs" = true)
    (km4 : PySem.W.keepIn K (.ref fm4) = true)
    (am5 : PySem.W.findIn K (.ref C) "needs_name" = some (some (.ref fm5)))
    (im5 : PySem.W.isFn K (.ref fm5) = true)
    (lm5 : K.lookup fm5 = some ⟨ocm5, odm5, .func (PySem.W.fnOf "needs_name" "Reader.needs_name" (C8.fnArgs s_Reader_needs_name) (C8.fnBody s_Reader_needs_name) (C8.fnScope s_Reader_needs_name) .none kVm5 dcm5 pmm5 anm5 cdm5 ctm5), slm5⟩)
    (cm5 : PySem.W.codeIn K cdm5 "Reader.needs_name" = true)
    (km5 : PySem.W.keepIn K (.ref fm5) = true)
    (am6 : PySem.W.findIn K (.ref C) "shuts" = some (some (.ref fm6)))
    (im6 : PySem.W.isFn K (.ref fm6) = true)
    (lm6 : K.lookup fm6 = some ⟨ocm6, odm6, .func (PySem.W.fnOf "shuts" "Reader.shuts" (C8.fnArgs s_Reader_shuts) (C8.fnBody s_Reader_shuts) (C8.fnScope s_Reader_shuts) .none kVm6 dcm6 pmm6 anm6 cdm6 ctm6), slm6⟩)
    (cm6 : PySem.W.codeIn K cdm6 "Reader.shuts" = true)
    (km6 : PySem.W.keepIn K (.ref fm6) = true)
    (am7 : PySem.W.findIn K (.ref C) "any_tree" = some (some (.ref fm7)))
    (im7 : PySem.W.isFn K (.ref fm7) = true)
    (lm7 : K.lookup fm7 = some ⟨ocm7, odm7, .func (PySem.W.fnOf "any_tree" "Reader.any_tree" (C8.fnArgs s_Reader_any_tree) (C8.fnBody s_Reader_any_tree) (C8.fnScope s_Reader_any_tree) .none kVm7 dcm7 pmm7 anm7 cdm7 ctm7), slm7⟩)
    (cm7 : PySem.W.codeIn K cdm7 "Reader.any_tree" = true)
    (km7 : PySem.W.keepIn K (.ref fm7) = true)
    (am8 : PySem.W.findIn K (.ref C) "either" = some (some (.ref fm8)))
    (im8 : PySem.W.isFn K (.ref fm8) = true)
    (lm8 : K.lookup fm8 = some ⟨ocm8, odm8, .func (PySem.W.fnOf "either" "Reader.either" (C8.fnArgs s_Reader_either) (C8.fnBody s_Reader_either) (C8.fnScope s_Reader_either) .none kVm8 dcm8 pmm8 anm8 cdm8 ctm8), slm8⟩)
    (cm8 : PySem.W.codeIn K cdm8 "Reader.either" = true)
    (km8 : PySem.W.keepIn K (.ref fm8) = true)
    (am9 : PySem.W.findIn K (.ref C) "both" = some (some (.ref fm9)))
    (im9 : PySem.W.isFn K (.ref fm9) = true)
    (lm9 : K.lookup fm9 = some ⟨ocm9, odm9, .func (PySem.W.fnOf "both" "Reader.both" (C8.fnArgs s_Reader_both) (C8.fnBody s_Reader_both) (C8.fnScope s_Reader_both) .none kVm9 dcm9 pmm9 anm9 cdm9 ctm9), slm9⟩)
    (cm9 : PySem.W.codeIn K cdm9 "Reader.both" = true)
    (km9 : PySem.W.keepIn K (.ref fm9) = true)
    (am10 : PySem.W.findIn K (.ref C) "turned" = some (some (.ref fm10)))
    (im10 : PySem.W.isFn K (.ref fm10) = true)
    (lm10 : K.lookup fm10 = some ⟨ocm10, odm10, .func (PySem.W.fnOf "turned" "Reader.turned" (C8.fnArgs s_Reader_turned) (C8.fnBody s_Reader_turned) (C8.fnScope s_Reader_turned) .none kVm10 dcm10 pmm10 anm10 cdm10 ctm10), slm10⟩)
    (cm10 : PySem.W.codeIn K cdm10 "Reader.turned" = true)
    (km10 : PySem.W.keepIn K (.ref fm10) = true)
    (am11 : PySem.W.findIn K (.ref C) "compared" = some (some (.ref fm11)))
    (im11 : PySem.W.isFn K (.ref fm11) = true)
    (lm11 : K.lookup fm11 = some ⟨ocm11, odm11, .func (PySem.W.fnOf "compared" "Reader.compared" (C8.fnArgs s_Reader_compared) (C8.fnBody s_Reader_compared) (C8.fnScope s_Reader_compared) .none kVm11 dcm11 pmm11 anm11 cdm11 ctm11), slm11⟩)
    (cm11 : PySem.W.codeIn K cdm11 "Reader.compared" = true)
    (km11 : PySem.W.keepIn K (.ref fm11) = true)
    (am12 : PySem.W.findIn K (.ref C) "joined" = some (some (.ref fm12)))
    (im12 : PySem.W.isFn K (.ref fm12) = true)
    (lm12 : K.lookup fm12 = some ⟨ocm12, odm12, .func (PySem.W.fnOf "joined" "Reader.joined" (C8.fnArgs s_Reader_joined) (C8.fnBody s_Reader_joined) (C8.fnScope s_Reader_joined) .none kVm12 dcm12 pmm12 anm12 cdm12 ctm12), slm12⟩)
    (cm12 : PySem.W.codeIn K cdm12 "Reader.joined" = true)
    (km12 : PySem.W.keepIn K (.ref fm12) = true)
    (am13 : PySem.W.findIn K (.ref C) "operand" = some (some (.ref fm13)))
    (im13 : PySem.W.isFn K (.ref fm13) = true)
    (lm13 : K.lookup fm13 = some ⟨ocm13, odm13, .func (PySem.W.fnOf "operand" "Reader.operand" (C8.fnArgs s_Reader_operand) (C8.fnBody s_Reader_operand) (C8.fnScope s_Reader_operand) .none kVm13 dcm13 pmm13 anm13 cdm13 ctm13), slm13⟩)
    (cm13 : PySem.W.codeIn K cdm13 "Reader.operand" = true)
    (km13 : PySem.W.keepIn K (.ref fm13) = true)
    (am14 : PySem.W.findIn K (.ref C) "lessened" = some (some (.ref fm14)))
    (im14 : PySem.W.isFn K (.ref fm14) = true)
    (lm14 : K.lookup fm14 = some ⟨ocm14, odm14, .func (PySem.W.fnOf "lessened" "Reader.lessened" (C8.fnArgs s_Reader_lessened) (C8.fnBody s_Reader_lessened) (C8.fnScope s_Reader_lessened) .none kVm14 dcm14 pmm14 anm14 cdm14 ctm14), slm14⟩)
    (cm14 : PySem.W.codeIn K cdm14 "Reader.lessened" = true)
    (km14 : PySem.W.keepIn K (.ref fm14) = true)
    (am15 : PySem.W.findIn K (.ref C) "picked" = some (some (.ref fm15)))
    (im15 : PySem.W.isFn K (.ref fm15) = true)
    (lm15 : K.lookup fm15 = some ⟨ocm15, odm15, .func (PySem.W.fnOf "picked" "Reader.picked" (C8.fnArgs s_Reader_picked) (C8.fnBody s_Reader_picked) (C8.fnScope s_Reader_picked) .none kVm15 dcm15 pmm15 anm15 cdm15 ctm15), slm15⟩)
    (cm15 : PySem.W.codeIn K cdm15 "Reader.picked" = true)
    (km15 : PySem.W.keepIn K (.ref fm15) = true)
    (am16 : PySem.W.findIn K (.ref C) "closed" = some (some (.ref fm16)))
    (im16 : PySem.W.isFn K (.ref fm16) = true)
    (lm16 : K.lookup fm16 = some ⟨ocm16, odm16, .func (PySem.W.fnOf "closed" "Reader.closed" (C8.fnArgs s_Reader_closed) (C8.fnBody s_Reader_closed) (C8.fnScope s_Reader_closed) .none kVm16 dcm16 pmm16 anm16 cdm16 ctm16), slm16⟩)
    (cm16 : PySem.W.codeIn K cdm16 "Reader.closed" = true)
    (km16 : PySem.W.keepIn K (.ref fm16) = true)
    : ∃ C aKEPT aPAIRS aLOOSE aSIGNS, Top w K mg C aKEPT aPAIRS aLOOSE aSIGNS :=
  ⟨C, aKEPT, aPAIRS, aLOOSE, aSIGNS, ⟨pg, hd, po, sa⟩,
    nAsource,
    nAopened,
    nAnext,
    mkC,
    kc,
    (PySem.W.mg_of X G aC),
    (PySem.W.mg_none_of X G z_len),
    (PySem.W.mg_none_of X G z_isinstance),
    (PySem.W.mg_none_of X G z_str),
    (PySem.W.mg_none_of X G z_all),
    (PySem.W.mg_none_of X G z_int),
    (PySem.W.mg_none_of X G z_abs),
    (PySem.W.mg_none_of X G z_min),
    (PySem.W.mg_none_of X G z_max),
    (PySem.W.mg_none_of X G z_range),
    (PySem.W.mg_none_of X G z_enumerate),
    (PySem.W.mg_none_of X G z_tuple),
    ⟨_, PySem.W.mg_of X G v_MOST_SIGNS, _, rfl⟩,
    ⟨_, PySem.W.mg_of X G v_MOST_LETTERS, _, rfl⟩,
    ⟨_, PySem.W.mg_of X G v_MOST_FIGURES, _, rfl⟩,
    ⟨_, PySem.W.mg_of X G v_MOST_OPEN, _, rfl⟩,
    ⟨_, PySem.W.mg_of X G v_MOST_ARGS, _, rfl⟩,
    ⟨_, PySem.W.mg_of X G v_LETTERS, _, rfl⟩,
    ⟨_, PySem.W.mg_of X G v_FIGURES, _, rfl⟩,
    ⟨_, PySem.W.mg_of X G v_SINGLES, _, rfl⟩,
    ⟨_, PySem.W.mg_of X G v_KEPT, rfl⟩,
    (fun _ => .inr ⟨_, _, _, l_KEPT, rfl, rfl, by show 15 ≤ sizeLine; decide, .cons ⟨_, rfl⟩ (.cons ⟨_, rfl⟩ (.cons ⟨_, rfl⟩ (.cons ⟨_, rfl⟩ (.cons ⟨_, rfl⟩ (.cons ⟨_, rfl⟩ (.cons ⟨_, rfl⟩ (.cons ⟨_, rfl⟩ (.cons ⟨_, rfl⟩ (.cons ⟨_, rfl⟩ (.cons ⟨_, rfl⟩ (.cons ⟨_, rfl⟩ (.cons ⟨_, rfl⟩ (.cons ⟨_, rfl⟩ (.cons ⟨_, rfl⟩ (.nil)))))))))))))))⟩),
    ⟨_, PySem.W.mg_of X G v_PAIRS, rfl⟩,
    (fun _ => .inr ⟨_, _, _, l_PAIRS, rfl, rfl, by show 4 ≤ sizeLine; decide, .cons ⟨_, rfl⟩ (.cons ⟨_, rfl⟩ (.cons ⟨_, rfl⟩ (.cons ⟨_, rfl⟩ (.nil))))⟩),
    ⟨_, PySem.W.mg_of X G v_LOOSE, rfl⟩,
    ⟨_, _, l_LOOSE, k_LOOSE, o_LOOSE⟩,
    ⟨_, i_LOOSE_or, _, rfl⟩,
    ⟨_, i_LOOSE_and, _, rfl⟩,
    i_LOOSE_pick,
    i_LOOSE_number,
    i_LOOSE_name,
    i_LOOSE_words,
    ⟨_, PySem.W.mg_of X G v_SIGNS, rfl⟩,
    ⟨_, _, l_SIGNS, k_SIGNS, o_SIGNS⟩,
    ⟨_, i_SIGNS_plus, _, rfl⟩,
    ⟨_, i_SIGNS_minus, _, rfl⟩,
    ⟨_, i_SIGNS_times, _, rfl⟩,
    ⟨_, i_SIGNS_floor, _, rfl⟩,
    ⟨_, i_SIGNS_rest, _, rfl⟩,
    ⟨_, _, ⟨⟨_, _, _, _, _, _, _, _, _, _, rfl, l0, c0⟩⟩, rfl, PySem.W.mg_of X G a0, k0⟩,
    ⟨_, _, ⟨⟨_, _, _, _, _, _, _, _, _, _, rfl, l1, c1⟩⟩, rfl, PySem.W.mg_of X G a1, k1⟩,
    ⟨_, _, ⟨⟨_, _, _, _, _, _, _, _, _, _, rfl, l2, c2⟩⟩, rfl, PySem.W.mg_of X G a2, k2⟩,
    ⟨_, _, ⟨⟨_, _, _, _, _, _, _, _, _, _, rfl, l3, c3⟩⟩, rfl, PySem.W.mg_of X G a3, k3⟩,
    ⟨_, _, ⟨⟨_, _, _, _, _, _, _, _, _, _, rfl, l4, c4⟩⟩, rfl, PySem.W.mg_of X G a4, k4⟩,
    ⟨_, _, ⟨⟨_, _, _, _, _, _, _, _, _, _, rfl, l5, c5⟩⟩, rfl, PySem.W.mg_of X G a5, k5⟩,
    ⟨_, _, ⟨⟨_, _, _, _, _, _, _, _, _, _, rfl, l6, c6⟩⟩, rfl, PySem.W.mg_of X G a6, k6⟩,
    ⟨_, _, ⟨⟨_, _, _, _, _, _, _, _, _, _, rfl, l7, c7⟩⟩, rfl, PySem.W.mg_of X G a7, k7⟩,
    ⟨_, _, ⟨⟨_, _, _, _, _, _, _, _, _, _, rfl, l8, c8⟩⟩, rfl, PySem.W.mg_of X G a8, k8⟩,
    ⟨_, _, ⟨⟨_, _, _, _, _, _, _, _, _, _, rfl, l9, c9⟩⟩, rfl, PySem.W.mg_of X G a9, k9⟩,
    ⟨_, _, ⟨⟨_, _, _, _, _, _, _, _, _, _, rfl, l10, c10⟩⟩, rfl, PySem.W.mg_of X G a10, k10⟩,
    ⟨_, _, ⟨⟨_, _, _, _, _, _, _, _, _, _, rfl, l11, c11⟩⟩, rfl, PySem.W.mg_of X G a11, k11⟩,
    ⟨_, _, ⟨⟨_, _, _, _, _, _, _, _, _, _, rfl, l12, c12⟩⟩, rfl, PySem.W.mg_of X G a12, k12⟩,
    ⟨_, _, ⟨⟨_, _, _, _, _, _, _, _, _, _, rfl, l13, c13⟩⟩, rfl, PySem.W.mg_of X G a13, k13⟩,
    ⟨_, _, ⟨⟨_, _, _, _, _, _, _, _, _, _, rfl, l14, c14⟩⟩, rfl, PySem.W.mg_of X G a14, k14⟩,
    ⟨_, _, ⟨⟨_, _, _, _, _, _, _, _, _, _, rfl, l15, c15⟩⟩, rfl, PySem.W.mg_of X G a15, k15⟩,
    ⟨_, _, ⟨⟨_, _, _, _, _, _, _, _, _, _, rfl, l16, c16⟩⟩, rfl, PySem.W.mg_of X G a16, k16⟩,
    ⟨_, _, ⟨⟨_, _, _, _, _, _, _, _, _, _, rfl, l17, c17⟩⟩, rfl, PySem.W.mg_of X G a17, k17⟩,
    ⟨_, _, ⟨⟨_, _, _, _, _, _, _, _, _, _, rfl, l18, c18⟩⟩, rfl, PySem.W.mg_of X G a18, k18⟩,
    ⟨_, _, ⟨⟨_, _, _, _, _, _, _, _, _, _, rfl, l19, c19⟩⟩, rfl, PySem.W.mg_of X G a19, k19⟩,
    ⟨_, _, ⟨⟨_, _, _, _, _, _, _, _, _, _, rfl, l20, c20⟩⟩, rfl, PySem.W.mg_of X G a20, k20⟩,
    ⟨_, _, ⟨⟨_, _, _, _, _, _, _, _, _, _, rfl, l21, c21⟩⟩, rfl, PySem.W.mg_of X G a21, k21⟩,
    ⟨_, _, ⟨⟨_, _, _, _, _, _, _, _, _, _, rfl, l22, c22⟩⟩, rfl, PySem.W.mg_of X G a22, k22⟩,
    ⟨_, _, ⟨⟨_, _, _, _, _, _, _, _, _, _, rfl, l23, c23⟩⟩, rfl, PySem.W.mg_of X G a23, k23⟩,
    ⟨_, _, ⟨⟨_, _, _, _, _, _, _, _, _, _, rfl, l24, c24⟩⟩, rfl, PySem.W.mg_of X G a24, k24⟩,
    ⟨_, _, ⟨⟨_, _, _, _, _, _, _, _, _, _, rfl, l25, c25⟩⟩, rfl, PySem.W.mg_of X G a25, k25⟩,
    ⟨_, _, ⟨⟨_, _, _, _, _, _, _, _, _, _, rfl, l26, c26⟩⟩, rfl, PySem.W.mg_of X G a26, k26⟩,
    ⟨_, _, ⟨⟨_, _, _, _, _, _, _, _, _, _, rfl, lm0, cm0⟩⟩, rfl, am0, im0, km0⟩,
    ⟨_, _, ⟨⟨_, _, _, _, _, _, _, _, _, _, rfl, lm1, cm1⟩⟩, rfl, am1, im1, km1⟩,
    ⟨_, _, ⟨⟨_, _, _, _, _, _, _, _, _, _, rfl, lm2, cm2⟩⟩, rfl, am2, im2, km2⟩,
    ⟨_, _, ⟨⟨_, _, _, _, _, _, _, _, _, _, rfl, lm3, cm3⟩⟩, rfl, am3, im3, km3⟩,
    ⟨_, _, ⟨⟨_, _, _, _, _, _, _, _, _, _, rfl, lm4, cm4⟩⟩, rfl, am4, im4, km4⟩,
    ⟨_, _, ⟨⟨_, _, _, _, _, _, _, _, _, _, rfl, lm5, cm5⟩⟩, rfl, am5, im5, km5⟩,
    ⟨_, _, ⟨⟨_, _, _, _, _, _, _, _, _, _, rfl, lm6, cm6⟩⟩, rfl, am6, im6, km6⟩,
    ⟨_, _, ⟨⟨_, _, _, _, _, _, _, _, _, _, rfl, lm7, cm7⟩⟩, rfl, am7, im7, km7⟩,
    ⟨_, _, ⟨⟨_, _, _, _, _, _, _, _, _, _, rfl, lm8, cm8⟩⟩, rfl, am8, im8, km8⟩,
    ⟨_, _, ⟨⟨_, _, _, _, _, _, _, _, _, _, rfl, lm9, cm9⟩⟩, rfl, am9, im9, km9⟩,
    ⟨_, _, ⟨⟨_, _, _, _, _, _, _, _, _, _, rfl, lm10, cm10⟩⟩, rfl, am10, im10, km10⟩,
    ⟨_, _, ⟨⟨_, _, _, _, _, _, _, _, _, _, rfl, lm11, cm11⟩⟩, rfl, am11, im11, km11⟩,
    ⟨_, _, ⟨⟨_, _, _, _, _, _, _, _, _, _, rfl, lm12, cm12⟩⟩, rfl, am12, im12, km12⟩,
    ⟨_, _, ⟨⟨_, _, _, _, _, _, _, _, _, _, rfl, lm13, cm13⟩⟩, rfl, am13, im13, km13⟩,
    ⟨_, _, ⟨⟨_, _, _, _, _, _, _, _, _, _, rfl, lm14, cm14⟩⟩, rfl, am14, im14, km14⟩,
    ⟨_, _, ⟨⟨_, _, _, _, _, _, _, _, _, _, rfl, lm15, cm15⟩⟩, rfl, am15, im15, km15⟩,
    ⟨_, _, ⟨⟨_, _, _, _, _, _, _, _, _, _, rfl, lm16, cm16⟩⟩, rfl, am16, im16, km16⟩⟩
end Lr

set_option maxRecDepth 100000
set_option maxHeartbeats 4200000
namespace Lr
open PySem PySem.Spec L2 SX
/-! ### letters of texts -/
theorem sl {n : Nat} (h : n ≤ 100000) : n ≤ sizeLine := Nat.le_trans h (by decide)
theorem slt {n : Nat} (h : n ≤ 100000) : n < sizeLine := Nat.lt_of_le_of_lt h (by decide)
theorem lit_sp : (" " : Str).cps.toList = [32] := by decide +kernel
theorem lit_tilde : ("~" : Str).cps.toList = [126] := by decide +kernel
theorem not_lt1 {c d : Nat} (h : d ≤ c) : (!decide ([c] < [d])) = true := by
  have n : ¬ ([c] < [d]) := fun z => by
    rcases List.cons_lt_cons_iff.mp z with z | ⟨_, z⟩
    · omega
    · exact absurd z (List.not_lt_nil _)
  rw [decide_eq_false n]
  rfl
def figs : List Nat := [48, 49, 50, 51, 52, 53, 54, 55, 56, 57]
def lets : List Nat := [97, 98, 99, 100, 101, 102, 103, 104, 105, 106, 107, 108, 109, 110, 111, 112, 113, 114, 115, 116, 117, 118, 119, 120, 121, 122]
def sings : List Nat := [43, 45, 42, 60, 61, 40, 41, 91, 93, 44]
def prs : List (List Nat) := [[47, 47], [61, 61], [33, 61], [60, 61]]
def kept : List Str := ["if", "then", "else", "let", "in", "and", "or", "not", "for", "true", "false", "len", "sum", "text", "rest"]
theorem lit_figs : ("0123456789" : Str).cps.toList = figs := by decide +kernel
theorem lit_lets : ("abcdefghijklmnopqrstuvwxyz" : Str).cps.toList = lets := by decide +kernel
theorem lit_sings : ("+-*<=()[]," : Str).cps.toList = sings := by decide +kernel
theorem lit_zero : ("0" : Str) = S [48] := by decide +kernel
theorem lit_quote : ("'" : Str) = S [39] := by decide +kernel
theorem lit_empty : ("" : Str) = S [] := by decide +kernel
/-- where a run of signs ends -/
def runOf (l : List Nat) (n : Nat) (cs : List Nat) : Nat := n + ((l.drop n).takeWhile (fun c => decide (c ∈ cs))).length
theorem run_stop {l : List Nat} {n : Nat} {cs : List Nat} (h : l.length ≤ n) : runOf l n cs = n := by
  unfold runOf
  rw [List.drop_eq_nil_of_le h]
  rfl
theorem run_no {l : List Nat} {n c : Nat} {cs : List Nat} (h : l[n]? = some c) (hc : c ∉ cs) : runOf l n cs = n := by
  unfold runOf
  obtain ⟨h1, h2⟩ := List.getElem?_eq_some_iff.mp h
  rw [List.drop_eq_getElem_cons h1, h2, List.takeWhile_cons, if_neg (by simpa using hc)]
  rfl
theorem run_yes {l : List Nat} {n c : Nat} {cs : List Nat} (h : l[n]? = some c) (hc : c ∈ cs) : runOf l (n + 1) cs = runOf l n cs := by
  unfold runOf
  obtain ⟨h1, h2⟩ := List.getElem?_eq_some_iff.mp h
  rw [List.drop_eq_getElem_cons h1, h2, List.takeWhile_cons, if_pos (by simpa using hc), List.length_cons]
  omega
theorem run_le {l : List Nat} {n : Nat} {cs : List Nat} (h : n ≤ l.length) : runOf l n cs ≤ l.length := by
  unfold runOf
  have := (List.takeWhile_sublist (fun c => decide (c ∈ cs)) (l := l.drop n)).length_le
  rw [List.length_drop] at this
  omega
theorem run_ge {l : List Nat} {n : Nat} {cs : List Nat} : n ≤ runOf l n cs := by unfold runOf; omega
theorem sl_mid {a : List Nat} {i j : Nat} (h : i ≤ j) (hj : j ≤ a.length) : Txt.slice (S a) (some (i : Int)) (some (j : Int)) = S ((a.drop i).take (j - i)) := by
  have e := beq_iff_eq.mp (PyProof.Rows.slice_closesL (x := S a) (i := (i : Int)) (j := (j : Int)) (by omega) (by omega) (by rw [S_len]; omega))
  refine e.trans (TL.ext_tl ?_)
  show (a.drop (i : Int).toNat).take ((j : Int) - (i : Int)).toNat = (a.drop i).take (j - i)
  rw [Int.toNat_natCast, show ((j : Int) - (i : Int)).toNat = j - i by omega]
theorem sl_clip {a : List Nat} {i j : Nat} (h : i ≤ a.length) (hj : a.length ≤ j) : Txt.slice (S a) (some (i : Int)) (some (j : Int)) = S (a.drop i) := by
  have e2 : Txt.slice (S a) (some (i : Int)) (some (j : Int)) = Txt.slice (S a) (some (i : Int)) (some (a.length : Int)) := by
    unfold Txt.slice
    rw [S_len, idx_hi (by omega)]
  rw [e2, sl_mid h (Nat.le_refl _), List.take_of_length_le (by rw [List.length_drop]; omega)]
theorem sl_both {a : List Nat} {i j : Nat} (h : i ≤ a.length) (hij : i ≤ j) : Txt.slice (S a) (some (i : Int)) (some (j : Int)) = S ((a.drop i).take (j - i)) := by
  by_cases hj : j ≤ a.length
  · exact sl_mid hij hj
  · rw [sl_clip h (by omega), List.take_of_length_le (by rw [List.length_drop]; omega)]

/-! ### words -/
structure Tk where
  kind : Str
  pos : Nat
  worth : V
  fin : Nat
def Tk.vs (t : Tk) : List V := [.str t.kind, .int t.pos, t.worth, .int t.fin]
def noHead (cs : List Nat) : List Nat → Bool
  | [] => true
  | c :: _ => !decide (c ∈ cs)
def lexQ (r : List Nat) (i : Nat) : Option Tk := match r with
  | 39 :: _ => some ⟨"words", i, .str "", i + 2⟩
  | _ => none
/-- the word at the beginning of s, which stands at i and begins with no blank -/
def lexB (s : List Nat) (i : Nat) : Option Tk := match s with
  | [] => some ⟨"end", i, .str "", i⟩
  | c :: r =>
    if c ∈ figs then (if c = 55 ∧ noHead figs r = true ∧ noHead lets r = true then some ⟨"number", i, .int 7, i + 1⟩ else none)
    else if c ∈ lets then
      (let w := (c :: r).takeWhile (fun c => decide (c ∈ lets))
       if w.length ≤ 8 ∧ noHead figs ((c :: r).drop w.length) = true then some ⟨if S w ∈ kept then "word" else "name", i, .str (S w), i + w.length⟩ else none)
    else if c = 39 then lexQ r i
    else if (c :: r).take 2 ∈ prs then some ⟨"word", i, .str (S ((c :: r).take 2)), i + 2⟩
    else if c ∈ sings then some ⟨"word", i, .str (S [c]), i + 1⟩ else none
theorem lexQ_some {r : List Nat} {i : Nat} {t : Tk} (h : lexQ r i = some t) : ∃ r', r = 39 :: r' ∧ t = ⟨"words", i, .str "", i + 2⟩ := by
  unfold lexQ at h
  split at h
  · exact ⟨_, rfl, (Option.some.inj h).symm⟩
  · cases h
theorem lex_fig {c i : Nat} {r : List Nat} (h : c ∈ figs) : lexB (c :: r) i = if c = 55 ∧ noHead figs r = true ∧ noHead lets r = true then some ⟨"number", i, .int 7, i + 1⟩ else none := by
  exact if_pos h
theorem lex_let {c i : Nat} {r : List Nat} (h1 : c ∉ figs) (h : c ∈ lets) : lexB (c :: r) i = if ((c :: r).takeWhile (fun c => decide (c ∈ lets))).length ≤ 8 ∧ noHead figs ((c :: r).drop ((c :: r).takeWhile (fun c => decide (c ∈ lets))).length) = true then
    some ⟨if S ((c :: r).takeWhile (fun c => decide (c ∈ lets))) ∈ kept then "word" else "name", i, .str (S ((c :: r).takeWhile (fun c => decide (c ∈ lets)))), i + ((c :: r).takeWhile (fun c => decide (c ∈ lets))).length⟩ else none := by
  exact (if_neg h1).trans (if_pos h)
theorem lex_other {c i : Nat} {r : List Nat} (h1 : c ∉ figs) (h2 : c ∉ lets) : lexB (c :: r) i = if c = 39 then lexQ r i else if (c :: r).take 2 ∈ prs then some ⟨"word", i, .str (S ((c :: r).take 2)), i + 2⟩
    else if c ∈ sings then some ⟨"word", i, .str (S [c]), i + 1⟩ else none := by
  exact (if_neg h1).trans (if_neg h2)
def wordAt (l : List Nat) (n : Nat) : Option Tk := lexB (l.drop (runOf l n [32])) (runOf l n [32])

/-! ### promises -/
def spSign : Sp := fun vs H Q _ => ∃ c : Nat, vs = [.str ⟨#[c]⟩] ∧ 32 ≤ c ∧ c ≤ 126 ∧ Q (.bl true) H
def spText : Sp := fun vs H Q _ => ∃ l : List Nat, vs = [.str (S l)] ∧ (∀ c ∈ l, 32 ≤ c ∧ c ≤ 126) ∧ l.length ≤ 1000 ∧ ∀ H', Same H H' → Q (.bl true) H'
def spRun : Sp := fun vs H Q _ => ∃ (l : List Nat) (n : Nat) (sg : Str), vs = [.str (S l), .int n, .str sg] ∧ n ≤ l.length ∧ l.length ≤ 1000 ∧ Q (.int (runOf l n sg.cps.toList)) H
def spNum : Sp := fun vs H Q _ => ∃ (l r : List Nat) (n : Nat), vs = [.str (S l), .int n] ∧ l.drop n = 55 :: r ∧ l.length ≤ 1000 ∧ noHead figs r = true ∧ noHead lets r = true ∧
  ∀ H' a, Same H H' → H' a = some (.tup (Tk.vs ⟨"number", n, .int 7, n + 1⟩)) → Q (.ref a) H'
def spName : Sp := fun vs H Q _ => ∃ (l : List Nat) (n : Nat) (t : Tk), vs = [.str (S l), .int n] ∧ n < l.length ∧ l.length ≤ 1000 ∧ (∃ c, l[n]? = some c ∧ c ∈ lets ∧ c ∉ figs) ∧ lexB (l.drop n) n = some t ∧
  ∀ H' a, Same H H' → H' a = some (.tup t.vs) → Q (.ref a) H'
def spQuote : Sp := fun vs H Q _ => ∃ (l r : List Nat) (n : Nat), vs = [.str (S l), .int n] ∧ l.drop n = 39 :: 39 :: r ∧ l.length ≤ 1000 ∧
  ∀ H' a, Same H H' → H' a = some (.tup (Tk.vs ⟨"words", n, .str "", n + 2⟩)) → Q (.ref a) H'
def spWord : Sp := fun vs H Q _ => ∃ (l : List Nat) (n : Nat) (t : Tk), vs = [.str (S l), .int n] ∧ n ≤ l.length ∧ l.length ≤ 1000 ∧ wordAt l n = some t ∧
  ∀ H' a, Same H H' → H' a = some (.tup t.vs) → Q (.ref a) H'
theorem same_new {H : Hp} {p : Addr} (h : H p = none) (o : HO) : Same H (upd H p o) := fun b u q => by rw [upd_ne (ne_of_none q h)]; exact q
theorem drop_get {l r : List Nat} {n c : Nat} (h : l.drop n = c :: r) : n < l.length ∧ l[n]? = some c ∧ l.drop (n + 1) = r := by
  have hn : n < l.length := by
    have this := congrArg List.length h
    rw [List.length_drop, List.length_cons] at this
    omega
  rw [List.drop_eq_getElem_cons hn] at h
  obtain ⟨h1, h2⟩ := List.cons.inj h
  exact ⟨hn, by rw [List.getElem?_eq_getElem hn, h1], h2⟩
theorem at_nat {α : Type} {xs : List α} {n : Nat} {c : α} (h : xs[n]? = some c) : atI xs (n : Int) = some c := atI_nat h

section
variable {P : Program} {w : World} {K : PySem.W.Frag} {mg : Str → Option Value} {base : Heap} {C aKEPT aPAIRS aLOOSE aSIGNS : Addr}
theorem c_is_sign (T : Top w K mg C aKEPT aPAIRS aLOOSE aSIGNS) : Cal P w K mg base 1 "is_sign" spSign := by
  refine cal_by (ps := ["sign"]) T.d_is_sign sc_is_sign (fun _ _ _ _ _ _ us hl => match us, hl with | [_], _ => rfl) (fun vs H Q E h => ?_) (fun f cdv A outer s H vs Q E hr h => ?_)
  · obtain ⟨c, rfl, _⟩ := h
    rfl
  obtain ⟨c, rfl, h1, h2, q⟩ := h
  refine ⟨_, (pss_one (ps_ret (pe_chain op_le_str op_le_str pe_str (pv 0) pe_str))), ?_⟩
  refine ⟨_, rfl, _, _, rfl, rfl, true, ?_, ?_⟩
  · refine congrArg V.bl ?_
    rw [lit_sp]
    exact not_lt1 (by omega)
  · refine iteT ⟨_, _, rfl, rfl, ?_⟩
    have e : (!decide (("~" : Str).cps.toList < (⟨#[c]⟩ : Str).cps.toList)) = true := by
      rw [lit_tilde]
      exact not_lt1 (by omega)
    show Q (.bl (!decide (("~" : Str).cps.toList < (⟨#[c]⟩ : Str).cps.toList))) H
    rw [e]
    exact q
theorem c_is_text (T : Top w K mg C aKEPT aPAIRS aLOOSE aSIGNS) : Cal P w K mg base 2 "is_text" spText := by
  have c_is_sign := c_is_sign (P := P) (base := base) T
  refine cal_by (ps := ["thing"]) T.d_is_text sc_is_text (fun _ _ _ _ _ _ us hl => match us, hl with | [_], _ => rfl) (fun vs H Q E h => ?_) (fun f cdv A outer s H vs Q E hr h => ?_)
  · obtain ⟨c, rfl, _⟩ := h
    rfl
  obtain ⟨l, rfl, h1, h2, q⟩ := h
  refine ⟨_, (pss_one (ps_ret (pe_and (pe_callB call_isi rfl T.n_isinstance (by decide +kernel) (pa_cons (pv 0) (pa_cons (pe_bltn (v := .ty "str") rfl T.n_str (by decide +kernel) rfl) pa_nil))) (pe_one (pe_callB (cr_all rfl) rfl T.n_all (by decide +kernel) (pa_cons (pe_lc (own := [("sign", 1)]) (g := gName 1) (tt := tYes) rfl sc_is_text.nd (pi_str (pv 0)) (blkOk_by (own := [("sign", 1)]) (N := n_is_text) (sc := C8.fnScope s_is_text) (by decide +kernel)) (fun _ _ _ _ _ => (pg_name (i := 1) sc_is_text.nd rfl (Or.inl rfl))) (fun _ _ _ _ _ => pts_nil) (fun _ _ _ _ _ => (pe_c c_is_sign hr (by decide) rfl (pa_cons (pv 1) pa_nil)))) pa_nil)))))), ?_⟩
  refine ⟨_, rfl, _, _, _, _, true, rfl, .ty _, .base (.str _), kit_ty (by decide +kernel), true, rfl, iteT ?_⟩
  refine ⟨_, rfl, _, rfl, fun D hD => lc_it (walk_str (z := S l)) (fun i H' => Same H H' ∧ H' D = some (.lst (List.replicate i (V.bl true)))) ⟨same_new hD _, upd_same⟩ (fun _ _ _ _ => trivial) ?_ ?_⟩
  · rintro i x H1 H2 hi ⟨s1, hl⟩ ⟨rfl, c, hc, rfl⟩
    refine ⟨rfl, ?_⟩
    have hm : c ∈ l := by
      have e : l[i]? = some c := by simpa using hc
      exact List.mem_of_getElem? e
    obtain ⟨ha, hb⟩ := h1 c hm
    have hil : i < l.length := by simpa using hi
    refine ⟨_, rfl, c, rfl, ha, hb, _, hl, ?_, fun b o e => ?_, ?_⟩
    · rw [List.length_replicate]
      exact slt (by omega)
    · rw [upd_ne (ne_of_none e hD)]
      exact s1 b o e
    · rw [upd_same, List.replicate_succ']
  · rintro H1 ⟨s1, hl⟩
    refine ⟨D, List.replicate (S l).cps.size true, rfl, SqL.of (by rw [List.map_replicate]; exact hl), ?_⟩
    have e : ((List.replicate (S l).cps.size true).all id) = true := by simp
    show Q (.bl _) H1
    rw [e]
    exact q _ s1
theorem c_run_of (T : Top w K mg C aKEPT aPAIRS aLOOSE aSIGNS) : Cal P w K mg base 1 "run_of" spRun := by
  refine cal_by (ps := ["text", "at", "signs"]) T.d_run_of sc_run_of (fun _ _ _ _ _ _ us hl => match us, hl with | [_, _, _], _ => rfl) (fun vs H Q E h => ?_) (fun f cdv A outer s H vs Q E hr h => ?_)
  · obtain ⟨_, _, _, rfl, _⟩ := h
    rfl
  obtain ⟨l, n, sg, rfl, h1, h2, q⟩ := h
  refine ⟨_, (pss_cons (ps_while PassesOwn.never (PW.pt (pw_and (pt_cmpR op_lt (pv 1) (pe_callB call_len_str rfl T.n_len (by decide +kernel) (pa_cons (pv 0) pa_nil)) (nomark _)) (pw_and1 (pt_cmpR op_in_sign (pe_ix ix_str (pv 0) (pv 1) (fun _ _ => rfl)) (pv 2) rfl)))) (pss_one (ps_aug (i := 1) sc_run_of.nd rfl (Or.inl rfl) pe_int ip_add)))
      (pss_one (ps_ret (pv 1)))), ?_⟩
  refine ⟨fun m σ H' => ∃ j : Nat, σ = [some (.str (S l)), some (.int j), some (.str sg)] ∧ j ≤ l.length ∧ runOf l j sg.cps.toList = runOf l n sg.cps.toList ∧ m = l.length - j ∧ H' = H, ⟨_, n, rfl, h1, rfl, rfl, rfl⟩, ?_⟩
  rintro m σ H' ⟨j, rfl, hj, hrun, rfl, rfl⟩
  refine ⟨_, rfl, _, rfl, _, rfl, ?_, _, _, rfl, rfl, _, rfl, ?_⟩
  · rw [S_len]
    exact sl (by omega)
  rw [S_len]
  refine ite2 (fun c => ?_) (fun c => ?_)
  · have hjl : j < l.length := by
      have := of_decide_eq_true c
      omega
    have hg : l[j]? = some l[j] := List.getElem?_eq_getElem hjl
    refine ⟨_, rfl, _, rfl, _, _, l[j], rfl, rfl, ?_, at_nat hg, _, rfl, _, _, rfl, rfl, _, rfl, ?_⟩
    · rw [S_len]
      exact sl (by omega)
    refine ite2 (fun c2 => ?_) (fun c2 => ?_)
    · have hm := of_decide_eq_true c2
      refine ⟨fun σ' H'' => ∃ k : Nat, σ' = [some (.str (S l)), some (.int k), some (.str sg)] ∧ k = j + 1 ∧ H'' = H', ?_, ?_⟩
      · rintro σ' H'' ⟨k, rfl, rfl, rfl⟩
        exact ⟨l.length - (j + 1), by omega, j + 1, rfl, hjl, by rw [run_yes hg hm]; exact hrun, rfl, rfl⟩
      · exact ⟨_, rfl, _, _, rfl, rfl, j + 1, rfl, rfl, rfl⟩
    · have hm : l[j] ∉ sg.cps.toList := by
        intro e
        exact c2 (decide_eq_true e)
      refine ⟨_, rfl, ?_⟩
      have e : j = runOf l n sg.cps.toList := by rw [← hrun, run_no hg hm]
      show Q (.int (j : Int)) _
      rw [e]
      exact q
  · have hjl : l.length ≤ j := by
      have h : ¬ ((j : Int) < (l.length : Int)) := fun z => c (decide_eq_true z)
      omega
    refine iteF ?_
    refine ⟨_, rfl, ?_⟩
    have e : j = runOf l n sg.cps.toList := by rw [← hrun, run_stop hjl]
    show Q (.int (j : Int)) _
    rw [e]
    exact q
end
end Lr

set_option maxRecDepth 100000
set_option maxHeartbeats 4200000
namespace Lr
open PySem PySem.Spec L2 SX
theorem run_one {l r : List Nat} {n c : Nat} {cs : List Nat} (h : l.drop n = c :: r) (hc : c ∈ cs) (hr : noHead cs r = true) : runOf l n cs = n + 1 := by
  obtain ⟨h1, h2, h3⟩ := drop_get h
  rw [← run_yes h2 hc]
  cases r with
  | nil =>
    refine run_stop ?_
    have := congrArg List.length h3
    rw [List.length_drop, List.length_nil] at this
    omega
  | cons d r =>
    obtain ⟨_, g2, _⟩ := drop_get h3
    refine run_no g2 ?_
    intro e
    have : (!decide (d ∈ cs)) = true := hr
    rw [decide_eq_true e] at this
    cases this
theorem no_head {cs r : List Nat} (h : noHead cs r = true) {c : Nat} (e : r[0]? = some c) : c ∉ cs := by
  cases r with
  | nil => simp at e
  | cons d r =>
    have : d = c := Option.some.inj e
    subst this
    intro e
    have q : (!decide (d ∈ cs)) = true := h
    rw [decide_eq_true e] at q
    cases q
theorem int_seven : PySem.intText? (S [55]) = some 7 := by decide +kernel
section
variable {P : Program} {w : World} {K : PySem.W.Frag} {mg : Str → Option Value} {base : Heap} {C aKEPT aPAIRS aLOOSE aSIGNS : Addr}
theorem c_number_at (T : Top w K mg C aKEPT aPAIRS aLOOSE aSIGNS) : Cal P w K mg base 2 "number_at" spNum := by
  have c_run_of := c_run_of (P := P) (base := base) T
  refine cal_by (ps := ["text", "at"]) T.d_number_at sc_number_at (fun _ _ _ _ _ _ us hl => match us, hl with | [_, _], _ => rfl) (fun vs H Q E h => ?_) (fun f cdv A outer s H vs Q E hr h => ?_)
  · obtain ⟨_, _, _, rfl, _⟩ := h
    rfl
  obtain ⟨l, r, n, rfl, hd, h2, hf, hl, q⟩ := h
  obtain ⟨hn, hg, hd1⟩ := drop_get hd
  refine ⟨_, (pss_cons (ps_set (i := 2) sc_number_at.nd rfl (Or.inl rfl) (pe_c c_run_of hr (by decide) rfl (pa_cons (pv 0) (pa_cons (pv 1) (pa_cons (C8.pe_gc rfl T.gFIGURES) pa_nil)))))
      (pss_cons (ps_set (i := 3) sc_number_at.nd rfl (Or.inl rfl) (pe_slice C8.sl_txt (pv 0) (po_some (pv 1)) (po_some (pv 2))))
      (pss_cons (ps_if (PW.pt (pw_or (pt_cmpR op_gt (pe_callB call_len_str rfl T.n_len (by decide +kernel) (pa_cons (pv 3) pa_nil)) (C8.pe_gc rfl T.gMOST_FIGURES) (nomark _)) (pw_or (PW.pt (pw_and (pt_cmpR op_eq (pe_ix ix_str (pv 3) pe_int (fun _ _ => rfl)) pe_str (nomark _)) (pw_and1 (pt_cmpR op_ne (pv 3) pe_str (nomark _))))) (pw_or1 (PW.pt (pw_and (pt_cmpR op_lt (pv 2) (pe_callB call_len_str rfl T.n_len (by decide +kernel) (pa_cons (pv 0) pa_nil)) (nomark _)) (pw_and1 (pt_cmpR op_in_sign (pe_ix ix_str (pv 0) (pv 2) (fun _ _ => rfl)) (C8.pe_gc rfl T.gLETTERS) rfl)))))))) pss_never pss_nil)
      (pss_one (ps_ret (pe_tup (pa_cons pe_str (pa_cons (pv 1) (pa_cons (pe_callTy call_int_str rfl T.n_int (by decide +kernel) (pa_cons (pv 3) pa_nil)) (pa_cons (pv 2) pa_nil)))))))))), ?_⟩
  refine ⟨_, rfl, _, rfl, l, n, _, rfl, Nat.le_of_lt hn, h2, ?_⟩
  have e1 : runOf l n ("0123456789" : Str).cps.toList = n + 1 := by
    rw [lit_figs]
    exact run_one hd (by decide) hf
  rw [e1]
  have le : (S l).length ≤ sizeLine := by
    rw [S_len]
    exact sl (by omega)
  refine ⟨_, rfl, _, rfl, _, rfl, _, rfl, _, rfl, _, rfl, le, ?_⟩
  have e2 : Txt.slice (S l) (some (n : Int)) (some ((n + 1 : Nat) : Int)) = S [55] := by
    rw [sl_mid (Nat.le_succ n) hn, hd, show n + 1 - n = 1 by omega]
    rfl
  rw [e2]
  refine ⟨_, rfl, _, rfl, by decide, _, _, rfl, rfl, _, rfl, ?_⟩
  refine ite2 (fun c => absurd (of_decide_eq_true c) (by decide)) (fun _ => ?_)
  refine ⟨_, rfl, _, _, 55, rfl, rfl, by decide, rfl, rfl, _, rfl, ?_⟩
  refine ite2 (fun c => absurd (of_decide_eq_true c) (by decide +kernel)) (fun _ => ?_)
  refine iteF ?_
  have fin : ∀ c : Bool, c = false → (if c = true then False else
      (tRet (tTup (tCons (tC (.str "number")) (tCons (tVar 1) (tCons (tCB (fun xs H Q => ∃ (a : Str) (n : Int), xs = [.str a] ∧ PySem.intText? a = some n ∧ a.length ≤ 640 ∧ Q (.int n) H) (tCons (tVar 3) tNil)) (tCons (tVar 2) tNil)))))) { nx := fun _ H' => Q .non H', rt := Q } [some (.str (S l)), some (.int n), some (.int ((n + 1 : Nat) : Int)), some (.str (S [55]))] H) := fun c hc => by
    subst hc
    refine iteF ?_
    refine ⟨_, rfl, _, rfl, _, _, rfl, int_seven, by decide, _, rfl, (by show 4 ≤ sizeLine; decide), fun p hp => ?_⟩
    exact q _ p (same_new hp _) upd_same
  refine ⟨_, rfl, _, rfl, _, rfl, le, _, _, rfl, rfl, _, rfl, ?_⟩
  refine ite2 (fun c => ?_) (fun c => ?_)
  · have c' := of_decide_eq_true c
    rw [S_len] at c'
    have hn1 : n + 1 < l.length := by omega
    have hg1 : l[n + 1]? = some l[n + 1] := List.getElem?_eq_getElem hn1
    refine ⟨_, rfl, _, rfl, _, _, l[n + 1], rfl, rfl, le, at_nat hg1, _, _, rfl, rfl, _, rfl, ?_⟩
    refine fin _ ?_
    rw [lit_lets]
    refine decide_eq_false (no_head hl ?_)
    rw [← hd1, List.getElem?_drop]
    exact hg1
  · exact fin false rfl
theorem eqV_str (a b : Str) : eqV (.str a) (.str b) = decide (a = b) := by
  show (a == b) = decide (a = b)
  by_cases e : a = b
  · rw [decide_eq_true e, e]
    exact beq_self_eq_true _
  · rw [decide_eq_false e]
    exact beq_eq_false_iff_ne.mpr e
theorem in_strs (z : Str) : ∀ ks : List Str, inV (.str z) (ks.map V.str) = decide (z ∈ ks)
  | [] => rfl
  | k :: ks => by
    have ih := in_strs z ks
    unfold inV at ih ⊢
    rw [List.map_cons, List.any_cons, ih, eqV_str]
    by_cases e : k = z
    · subst e
      rw [decide_eq_true (rfl : k = k), decide_eq_true (List.mem_cons_self ..)]
      rfl
    · rw [decide_eq_false e, Bool.false_or]
      refine decide_eq_decide.mpr ⟨fun h => List.mem_cons_of_mem _ h, fun h => ?_⟩
      obtain h | h := List.mem_cons.mp h
      · exact absurd h.symm e
      · exact h
theorem flat_strs : ∀ ks : List Str, (ks.map V.str).all flatV = true
  | [] => rfl
  | k :: ks => by rw [List.map_cons, List.all_cons, flat_strs ks]; rfl
theorem take_tw (l : List Nat) (p : Nat → Bool) : l.take (l.takeWhile p).length = l.takeWhile p :=
  (List.prefix_iff_eq_take.mp (List.takeWhile_prefix p)).symm
theorem c_name_at (T : Top w K mg C aKEPT aPAIRS aLOOSE aSIGNS) : Cal P w K mg base 2 "name_at" spName := by
  have c_run_of := c_run_of (P := P) (base := base) T
  refine cal_by (ps := ["text", "at"]) T.d_name_at sc_name_at (fun _ _ _ _ _ _ us hl => match us, hl with | [_, _], _ => rfl) (fun vs H Q E h => ?_) (fun f cdv A outer s H vs Q E hr h => ?_)
  · obtain ⟨_, _, _, rfl, _⟩ := h
    rfl
  obtain ⟨l, n, t, rfl, hn, h2, ⟨c0, hg, hc, hnf⟩, hx, q⟩ := h
  refine ⟨_, (pss_cons (ps_set (i := 2) sc_name_at.nd rfl (Or.inl rfl) (pe_c c_run_of hr (by decide) rfl (pa_cons (pv 0) (pa_cons (pv 1) (pa_cons (C8.pe_gc rfl T.gLETTERS) pa_nil)))))
      (pss_cons (ps_set (i := 3) sc_name_at.nd rfl (Or.inl rfl) (pe_slice C8.sl_txt (pv 0) (po_some (pv 1)) (po_some (pv 2))))
      (pss_cons (ps_if (PW.pt (pw_or (pt_cmpR op_gt (pe_callB call_len_str rfl T.n_len (by decide +kernel) (pa_cons (pv 3) pa_nil)) (C8.pe_gc rfl T.gMOST_LETTERS) (nomark _)) (pw_or1 (PW.pt (pw_and (pt_cmpR op_lt (pv 2) (pe_callB call_len_str rfl T.n_len (by decide +kernel) (pa_cons (pv 0) pa_nil)) (nomark _)) (pw_and1 (pt_cmpR op_in_sign (pe_ix ix_str (pv 0) (pv 2) (fun _ _ => rfl)) (C8.pe_gc rfl T.gFIGURES) rfl))))))) pss_never pss_nil)
      (pss_one (ps_ret (pe_tup (pa_cons (pe_ifExp (pt_cmpR (opI (K := K)) (pv 3) (C8.pe_gc rfl T.gKEPT) rfl) pe_str pe_str) (pa_cons (pv 1) (pa_cons (pv 3) (pa_cons (pv 2) pa_nil)))))))))), ?_⟩
  refine ⟨_, rfl, _, rfl, l, n, _, rfl, Nat.le_of_lt hn, h2, ?_⟩
  obtain ⟨wd, hw⟩ : ∃ wd, wd = (l.drop n).takeWhile (fun c => decide (c ∈ lets)) := ⟨_, rfl⟩
  have e1 : runOf l n ("abcdefghijklmnopqrstuvwxyz" : Str).cps.toList = n + wd.length := by
    rw [lit_lets, hw]
    rfl
  have hle : n + wd.length ≤ l.length := by
    rw [← e1]
    exact run_le (Nat.le_of_lt hn)
  have e2 : Txt.slice (S l) (some (n : Int)) (some ((n + wd.length : Nat) : Int)) = S wd := by
    rw [sl_mid (Nat.le_add_right _ _) hle, Nat.add_sub_cancel_left, hw, take_tw]
  have hdr : l.drop n = c0 :: l.drop (n + 1) := by
    obtain ⟨h3, h4⟩ := List.getElem?_eq_some_iff.mp hg
    rw [List.drop_eq_getElem_cons h3, h4]
  have hx2 : wd.length ≤ 8 ∧ noHead figs ((l.drop n).drop wd.length) = true ∧ t = ⟨if S wd ∈ kept then "word" else "name", n, .str (S wd), n + wd.length⟩ := by
    rw [hw]
    rw [hdr] at hx ⊢
    rw [lex_let hnf hc] at hx
    split at hx
    · rename_i hcond
      exact ⟨hcond.1, hcond.2, (Option.some.inj hx).symm⟩
    · cases hx
  obtain ⟨hw8, hnh, rfl⟩ := hx2
  rw [e1]
  have le : (S l).length ≤ sizeLine := by
    rw [S_len]
    exact sl (by omega)
  refine ⟨_, rfl, _, rfl, _, rfl, _, rfl, _, rfl, _, rfl, le, ?_⟩
  rw [e2]
  refine ⟨_, rfl, _, rfl, (by rw [S_len]; exact sl (by omega)), _, _, rfl, rfl, _, rfl, ?_⟩
  refine ite2 (fun c => absurd (of_decide_eq_true c) (by rw [S_len]; omega)) (fun _ => ?_)
  have fin : ∀ c : Bool, c = false → (if c = true then False else
      (tRet (tTup (tCons (tIf (tTest (tOp (rIn K false) (tVar 3) (tC (.ref aKEPT)))) (tC (.str "word")) (tC (.str "name"))) (tCons (tVar 1) (tCons (tVar 3) (tCons (tVar 2) tNil)))))) { nx := fun _ H' => Q .non H', rt := Q } [some (.str (S l)), some (.int n), some (.int ((n + wd.length : Nat) : Int)), some (.str (S wd))] H) := fun c hc => by
    subst hc
    refine iteF ?_
    refine ⟨_, rfl, aKEPT, _, rfl, .inr (T.sKEPT H), rfl, rfl, _, rfl, ?_⟩
    have ein : inV (.str (S wd)) (kept.map V.str) = decide (S wd ∈ kept) := in_strs _ _
    refine ite2 (fun c => ?_) (fun c => ?_)
    · have hm : S wd ∈ kept := of_decide_eq_true (ein.symm.trans c)
      refine ⟨_, rfl, _, rfl, _, rfl, (by show 4 ≤ sizeLine; decide), fun p hp => q _ p (same_new hp _) ?_⟩
      rw [upd_same, if_pos hm]
      rfl
    · have hm : ¬ S wd ∈ kept := fun e => c (ein.trans (decide_eq_true e))
      refine ⟨_, rfl, _, rfl, _, rfl, (by show 4 ≤ sizeLine; decide), fun p hp => q _ p (same_new hp _) ?_⟩
      rw [upd_same, if_neg hm]
      rfl
  refine ⟨_, rfl, _, rfl, _, rfl, le, _, _, rfl, rfl, _, rfl, ?_⟩
  refine ite2 (fun c => ?_) (fun c => ?_)
  · have c' := of_decide_eq_true c
    rw [S_len] at c'
    have hn1 : n + wd.length < l.length := by omega
    have hg1 : l[n + wd.length]? = some l[n + wd.length] := List.getElem?_eq_getElem hn1
    refine ⟨_, rfl, _, rfl, _, _, l[n + wd.length], rfl, rfl, le, at_nat hg1, _, _, rfl, rfl, _, rfl, ?_⟩
    refine fin _ ?_
    rw [lit_figs]
    refine decide_eq_false (no_head hnh ?_)
    rw [List.getElem?_drop, List.getElem?_drop]
    exact hg1
  · exact fin false rfl
theorem find_quote {l r : List Nat} {n : Nat} (h : l.drop n = 39 :: 39 :: r) : Txt.find3 (S l) "'" ((n : Int) + 1) = ((n + 1 : Nat) : Int) := by
  obtain ⟨hn, hg, hd1⟩ := drop_get h
  obtain ⟨hn1, hg1, hd2⟩ := drop_get hd1
  have hfi : fromIndex (S l).length ((n : Int) + 1) = n + 1 := by
    unfold fromIndex
    rw [if_neg (by omega)]
    omega
  have hgd : (S l).cps.getD (n + 1) 0 = 39 := by
    have e : (S l).cps[n + 1]? = some 39 := by simpa using hg1
    rw [Array.getD_eq_getD_getElem?, e]
    rfl
  have hl : (S l).length = l.length := S_len l
  rw [lit_quote]
  rcases StrLaws.find3_spec (S l) 39 ((n : Int) + 1) with ⟨_, h2⟩ | ⟨k, hk, h1, h2, h3, h4⟩
  · exact absurd hgd (h2 (n + 1) (by rw [hfi]; exact Nat.le_refl _) (by rw [hl]; exact hn1))
  · rw [hfi] at h1 h4
    have e : k = n + 1 := by
      by_cases hlt : n + 1 < k
      · exact absurd hgd (h4 (n + 1) (Nat.le_refl _) hlt)
      · omega
    rw [e] at hk
    exact hk
theorem c_quoted_at (T : Top w K mg C aKEPT aPAIRS aLOOSE aSIGNS) : Cal P w K mg base 2 "quoted_at" spQuote := by
  refine cal_by (ps := ["text", "at"]) T.d_quoted_at sc_quoted_at (fun _ _ _ _ _ _ us hl => match us, hl with | [_, _], _ => rfl) (fun vs H Q E h => ?_) (fun f cdv A outer s H vs Q E hr h => ?_)
  · obtain ⟨_, _, _, rfl, _⟩ := h
    rfl
  obtain ⟨l, r, n, rfl, hd, h2, q⟩ := h
  obtain ⟨hn, hg, hd1⟩ := drop_get hd
  obtain ⟨hn1, hg1, hd2⟩ := drop_get hd1
  refine ⟨_, (pss_cons (ps_set (i := 2) sc_quoted_at.nd rfl (Or.inl rfl) (pe_bm PySem.F.plainAttrs_str PySem.F.slot_str_find PySem.F.type_str_find mt_find3 (pv 0) (pa_cons pe_str (pa_cons (pe_op op_add (pv 1) pe_int) pa_nil))))
      (pss_cons (ps_if (pt_cmpR op_lt (pv 2) pe_int (nomark _)) pss_never pss_nil)
      (pss_one (ps_ret (pe_tup (pa_cons pe_str (pa_cons (pv 1) (pa_cons (pe_slice C8.sl_txt (pv 0) (po_some (pe_op op_add (pv 1) pe_int)) (po_some (pv 2))) (pa_cons (pe_op op_add (pv 2) pe_int) pa_nil))))))))), ?_⟩
  refine ⟨_, rfl, rfl, _, rfl, _, _, rfl, rfl, _, _, _, rfl, rfl, ?_⟩
  rw [find_quote hd]
  have le : (S l).length ≤ sizeLine := by
    rw [S_len]
    exact sl (by omega)
  refine ⟨_, rfl, _, _, rfl, rfl, _, rfl, ?_⟩
  refine ite2 (fun c => absurd (of_decide_eq_true c) (by omega)) (fun _ => ?_)
  refine ⟨_, rfl, _, rfl, _, rfl, _, _, rfl, rfl, _, rfl, _, rfl, _, rfl, _, rfl, le, ?_⟩
  have e2 : Txt.slice (S l) (some ((n : Int) + 1)) (some ((n + 1 : Nat) : Int)) = ("" : Str) := by
    have e3 : Txt.slice (S l) (some ((n + 1 : Nat) : Int)) (some ((n + 1 : Nat) : Int)) = ("" : Str) := by
      rw [sl_mid (Nat.le_refl _) hn, Nat.sub_self, List.take_zero, lit_empty]
    exact e3
  rw [e2]
  refine ⟨_, rfl, _, _, rfl, rfl, (by show 4 ≤ sizeLine; decide), fun p hp => ?_⟩
  exact q _ p (same_new hp _) upd_same
theorem lit_prs : (["//", "==", "!=", "<="] : List Str) = prs.map S := by decide +kernel
theorem in_prs (s : List Nat) : inV (.str (S s)) ([V.str "//", V.str "==", V.str "!=", V.str "<="]) = decide (s ∈ prs) := by
  have e : inV (.str (S s)) ((["//", "==", "!=", "<="] : List Str).map V.str) = decide (S s ∈ (["//", "==", "!=", "<="] : List Str)) := in_strs _ _
  refine e.trans ?_
  rw [lit_prs]
  refine decide_eq_decide.mpr ⟨fun h => ?_, fun h => List.mem_map_of_mem h⟩
  obtain ⟨a, ha, he⟩ := List.mem_map.mp h
  rw [← S_inj he]
  exact ha
theorem c_word_at (T : Top w K mg C aKEPT aPAIRS aLOOSE aSIGNS) : Cal P w K mg base 3 "word_at" spWord := by
  have c_run_of := c_run_of (P := P) (base := base) T
  have c_number_at := c_number_at (P := P) (base := base) T
  have c_name_at := c_name_at (P := P) (base := base) T
  have c_quoted_at := c_quoted_at (P := P) (base := base) T
  refine cal_by (ps := ["text", "at"]) T.d_word_at sc_word_at (fun _ _ _ _ _ _ us hl => match us, hl with | [_, _], _ => rfl) (fun vs H Q E h => ?_) (fun f cdv A outer s H vs Q E hr h => ?_)
  · obtain ⟨_, _, _, rfl, _⟩ := h
    rfl
  obtain ⟨l, n, t, rfl, hn, h2, hx, q⟩ := h
  refine ⟨_, (pss_cons (ps_set (i := 1) sc_word_at.nd rfl (Or.inl rfl) (pe_c c_run_of hr (by decide) rfl (pa_cons (pv 0) (pa_cons (pv 1) (pa_cons pe_str pa_nil)))))
      (pss_cons (ps_if (pt_cmpR op_eq (pv 1) (pe_callB call_len_str rfl T.n_len (by decide +kernel) (pa_cons (pv 0) pa_nil)) (nomark _)) (pss_one (ps_ret (pe_tup (pa_cons pe_str (pa_cons (pv 1) (pa_cons pe_str (pa_cons (pv 1) pa_nil))))))) pss_nil)
      (pss_cons (ps_set (i := 2) sc_word_at.nd rfl (Or.inl rfl) (pe_ix ix_str (pv 0) (pv 1) (fun _ _ => rfl)))
      (pss_cons (ps_if (pt_cmpR op_in_sign (pv 2) (C8.pe_gc rfl T.gFIGURES) rfl) (pss_one (ps_ret (pe_c c_number_at hr (by decide) rfl (pa_cons (pv 0) (pa_cons (pv 1) pa_nil))))) pss_nil)
      (pss_cons (ps_if (pt_cmpR op_in_sign (pv 2) (C8.pe_gc rfl T.gLETTERS) rfl) (pss_one (ps_ret (pe_c c_name_at hr (by decide) rfl (pa_cons (pv 0) (pa_cons (pv 1) pa_nil))))) pss_nil)
      (pss_cons (ps_if (pt_cmpR op_eq (pv 2) pe_str (nomark _)) (pss_one (ps_ret (pe_c c_quoted_at hr (by decide) rfl (pa_cons (pv 0) (pa_cons (pv 1) pa_nil))))) pss_nil)
      (pss_cons (ps_if (pt_cmpR (opI (K := K)) (pe_slice C8.sl_txt (pv 0) (po_some (pv 1)) (po_some (pe_op op_add (pv 1) pe_int))) (C8.pe_gc rfl T.gPAIRS) rfl) (pss_one (ps_ret (pe_tup (pa_cons pe_str (pa_cons (pv 1) (pa_cons (pe_slice C8.sl_txt (pv 0) (po_some (pv 1)) (po_some (pe_op op_add (pv 1) pe_int))) (pa_cons (pe_op op_add (pv 1) pe_int) pa_nil))))))) pss_nil)
      (pss_cons (ps_if (pt_cmpR op_notIn_sign (pv 2) (C8.pe_gc rfl T.gSINGLES) rfl) pss_never pss_nil)
      (pss_one (ps_ret (pe_tup (pa_cons pe_str (pa_cons (pv 1) (pa_cons (pv 2) (pa_cons (pe_op op_add (pv 1) pe_int) pa_nil))))))))))))))), ?_⟩
  refine ⟨_, rfl, _, rfl, l, n, _, rfl, hn, h2, ?_⟩
  unfold wordAt at hx
  rw [lit_sp]
  have ha := run_le (cs := [32]) hn
  revert hx ha
  generalize runOf l n [32] = a
  intro hx ha
  have le : (S l).length ≤ sizeLine := by
    rw [S_len]
    exact sl (by omega)
  refine ⟨_, rfl, _, rfl, _, rfl, le, rfl, _, rfl, ?_⟩
  rw [S_len]
  refine ite2 (fun c => ?_) (fun c => ?_)
  · have e : (a : Int) = (l.length : Int) := V.int.inj (of_decide_eq_true c)
    have e' : a = l.length := by omega
    rw [List.drop_eq_nil_of_le (by omega)] at hx
    have ht : t = ⟨"end", a, .str "", a⟩ := (Option.some.inj hx).symm
    subst ht
    exact ⟨_, rfl, _, rfl, (by show 4 ≤ sizeLine; decide), fun p hp => q _ p (same_new hp _) upd_same⟩
  have hal : a < l.length := by
    have : ¬ a = l.length := fun e => c (decide_eq_true (by rw [e]))
    omega
  obtain ⟨d, r, hd⟩ : ∃ d r, l.drop a = d :: r := ⟨_, _, List.drop_eq_getElem_cons hal⟩
  obtain ⟨_, hg, hd1⟩ := drop_get hd
  rw [hd] at hx
  refine ⟨_, rfl, _, rfl, _, _, d, rfl, rfl, le, at_nat hg, ?_⟩
  refine ⟨_, rfl, _, _, rfl, rfl, _, rfl, ?_⟩
  rw [lit_figs]
  refine ite2 (fun c => ?_) (fun c => ?_)
  · have hm : d ∈ figs := of_decide_eq_true c
    rw [lex_fig hm] at hx
    split at hx
    · rename_i hc
      obtain ⟨rfl, hf, hl⟩ := hc
      have ht := (Option.some.inj hx).symm
      subst ht
      exact ⟨_, rfl, _, rfl, l, r, a, rfl, hd, h2, hf, hl, q⟩
    · cases hx
  have hnf : d ∉ figs := fun e => c (decide_eq_true e)
  refine ⟨_, rfl, _, _, rfl, rfl, _, rfl, ?_⟩
  rw [lit_lets]
  refine ite2 (fun c => ?_) (fun c => ?_)
  · have hm : d ∈ lets := of_decide_eq_true c
    exact ⟨_, rfl, _, rfl, l, a, t, rfl, hal, h2, ⟨d, hg, hm, hnf⟩, by rw [hd]; exact hx, q⟩
  have hnl : d ∉ lets := fun e => c (decide_eq_true e)
  rw [lex_other hnf hnl] at hx
  refine ⟨_, rfl, rfl, _, rfl, ?_⟩
  have eq39 : (V.str ⟨#[d]⟩ = V.str "'") ↔ d = 39 := by
    rw [lit_quote]
    constructor
    · intro e
      have e1 : (⟨#[d]⟩ : Str) = S [39] := V.str.inj e
      have e2 : S [d] = S [39] := e1
      exact (List.cons.inj (S_inj e2)).1
    · intro e
      rw [e]
  refine ite2 (fun c => ?_) (fun c => ?_)
  · have hm : d = 39 := eq39.mp (of_decide_eq_true c)
    rw [if_pos hm] at hx
    subst hm
    obtain ⟨r', rfl, rfl⟩ := lexQ_some hx
    exact ⟨_, rfl, _, rfl, l, _, a, rfl, hd, h2, q⟩
  have hnq : d ≠ 39 := fun e => c (decide_eq_true (eq39.mpr e))
  rw [if_neg hnq] at hx
  have e2 : Txt.slice (S l) (some (a : Int)) (some ((a : Int) + 2)) = S ((d :: r).take 2) := by
    have e3 := sl_both (a := l) (i := a) (j := a + 2) ha (by omega)
    rw [hd, show a + 2 - a = 2 by omega] at e3
    exact e3
  refine ⟨_, rfl, _, rfl, _, rfl, _, rfl, _, _, rfl, rfl, _, rfl, _, rfl, le, ?_⟩
  rw [e2]
  refine ⟨aPAIRS, _, rfl, .inr (T.sPAIRS H), rfl, rfl, _, rfl, ?_⟩
  have ein := in_prs ((d :: r).take 2)
  refine ite2 (fun c => ?_) (fun c => ?_)
  · have hm : (d :: r).take 2 ∈ prs := of_decide_eq_true (ein.symm.trans c)
    rw [if_pos hm] at hx
    have ht := (Option.some.inj hx).symm
    subst ht
    refine ⟨_, rfl, _, rfl, _, rfl, _, rfl, _, rfl, _, _, rfl, rfl, _, rfl, _, rfl, le, ?_⟩
    rw [e2]
    exact ⟨_, rfl, _, _, rfl, rfl, (by show 4 ≤ sizeLine; decide), fun p hp => q _ p (same_new hp _) upd_same⟩
  have hnp : ¬ (d :: r).take 2 ∈ prs := fun e => c (ein.trans (decide_eq_true e))
  rw [if_neg hnp] at hx
  split at hx
  · rename_i hm
    have ht := (Option.some.inj hx).symm
    subst ht
    refine ⟨_, rfl, _, _, rfl, rfl, _, rfl, ?_⟩
    rw [lit_sings]
    refine ite2 (fun c => ?_) (fun c => ?_)
    · rw [decide_eq_true hm] at c
      cases c
    · exact ⟨_, rfl, _, rfl, _, rfl, _, _, rfl, rfl, (by show 4 ≤ sizeLine; decide), fun p hp => q _ p (same_new hp _) upd_same⟩
  · cases hx
end
end Lr

set_option maxRecDepth 100000
set_option maxHeartbeats 4200000
namespace Lr
open PySem PySem.Spec L2 SX
/-! ### the reader's attributes -/
def rf (z : Str) (n : Int) (a : Addr) : List (Str × V) := [("source", .str z), ("opened", .int n), ("next", .ref a)]
theorem b_os : (("opened" : Str) == "source") = false := by decide +kernel
theorem b_ns : (("next" : Str) == "source") = false := by decide +kernel
theorem b_no : (("next" : Str) == "opened") = false := by decide +kernel
theorem n_so : ¬ (("source" : Str) = "opened") := by decide +kernel
theorem n_sn : ¬ (("source" : Str) = "next") := by decide +kernel
theorem n_on : ¬ (("opened" : Str) = "next") := by decide +kernel
section
variable (z : Str) (n m : Int) (a b : Addr)
theorem rf_source : (rf z n a).lookup ("source" : Str) = some (V.str z) := by simp [rf, List.lookup]
theorem rf_opened : (rf z n a).lookup ("opened" : Str) = some (V.int n) := by simp [rf, List.lookup, b_os]
theorem rf_next : (rf z n a).lookup ("next" : Str) = some (V.ref a) := by simp [rf, List.lookup, b_ns, b_no]
theorem rf_no {x : Str} (h1 : (x == "source") = false) (h2 : (x == "opened") = false) (h3 : (x == "next") = false) : (rf z n a).lookup x = none := by simp [rf, List.lookup, h1, h2, h3]
theorem rf_put_next : putF "next" (.ref b) (rf z n a) = rf z n b := by
  show (if ("source" : Str) = "next" then _ else (("source" : Str), V.str z) :: (if ("opened" : Str) = "next" then _ else (("opened" : Str), V.int n) :: (if ("next" : Str) = "next" then [(("next" : Str), V.ref b)] else _))) = rf z n b
  rw [if_neg n_sn, if_neg n_on, if_pos rfl]
  rfl
theorem rf_put_opened : putF "opened" (.int m) (rf z n a) = rf z m a := by
  show (if ("source" : Str) = "opened" then _ else (("source" : Str), V.str z) :: (if ("opened" : Str) = "opened" then (("opened" : Str), V.int m) :: [(("next" : Str), V.ref a)] else _)) = rf z m a
  rw [if_neg n_so, if_pos rfl]
  rfl
theorem rf_made : putF "next" (.ref a) (putF "opened" (.int n) (putF "source" (.str z) [])) = rf z n a := by
  show putF "next" (.ref a) (if ("source" : Str) = "opened" then _ else (("source" : Str), V.str z) :: [(("opened" : Str), V.int n)]) = rf z n a
  rw [if_neg n_so]
  show (if ("source" : Str) = "next" then _ else (("source" : Str), V.str z) :: (if ("opened" : Str) = "next" then _ else (("opened" : Str), V.int n) :: [(("next" : Str), V.ref a)])) = rf z n a
  rw [if_neg n_sn, if_neg n_on]
  rfl
end
def Tk.ok (t : Tk) : Prop := (∃ x, t.worth = .str x) ∨ ∃ i, t.worth = .int i
theorem lexB_ok {s : List Nat} {i : Nat} {t : Tk} (h : lexB s i = some t) : t.ok ∧ i ≤ t.fin := by
  cases s with
  | nil =>
    have := (Option.some.inj h).symm
    subst this
    exact ⟨.inl ⟨_, rfl⟩, Nat.le_refl _⟩
  | cons c r =>
    by_cases h1 : c ∈ figs
    · rw [lex_fig h1] at h
      split at h
      · have := (Option.some.inj h).symm
        subst this
        exact ⟨.inr ⟨_, rfl⟩, Nat.le_succ _⟩
      · cases h
    by_cases h2 : c ∈ lets
    · rw [lex_let h1 h2] at h
      split at h
      · have := (Option.some.inj h).symm
        subst this
        exact ⟨.inl ⟨_, rfl⟩, Nat.le_add_right _ _⟩
      · cases h
    rw [lex_other h1 h2] at h
    split at h
    · obtain ⟨_, _, rfl⟩ := lexQ_some h
      exact ⟨.inl ⟨_, rfl⟩, Nat.le_add_right _ _⟩
    split at h
    · have := (Option.some.inj h).symm
      subst this
      exact ⟨.inl ⟨_, rfl⟩, Nat.le_add_right _ _⟩
    split at h
    · have := (Option.some.inj h).symm
      subst this
      exact ⟨.inl ⟨_, rfl⟩, Nat.le_add_right _ _⟩
    · cases h
theorem word_ok {l : List Nat} {n : Nat} {t : Tk} (h : wordAt l n = some t) : t.ok := (lexB_ok h).1
/-- all but what stands at p is as it was -/
def Kp (p : Addr) (H H' : Hp) : Prop := ∀ b o, b ≠ p → H b = some o → H' b = some o
theorem Kp.refl (p : Addr) (H : Hp) : Kp p H H := fun _ _ _ h => h
theorem Kp.trans {p : Addr} {H H1 H2 : Hp} (a : Kp p H H1) (b : Kp p H1 H2) : Kp p H H2 := fun c o n h => b c o n (a c o n h)
theorem Kp.of {p : Addr} {H H' : Hp} (a : Same H H') : Kp p H H' := fun c o _ h => a c o h
theorem Kp.put (p : Addr) (H : Hp) (o : HO) : Kp p H (upd H p o) := fun c u n h => by rw [upd_ne n]; exact h
theorem Kp.new {p q : Addr} {H : Hp} (h : H q = none) (o : HO) : Kp p H (upd H q o) := .of (same_new h o)
/-- the reader at p, of the text l, so many opened, its next word t -/
def Rd (C p : Addr) (l : List Nat) (n : Int) (t : Tk) (H : Hp) : Prop := t.ok ∧ ∃ dx a, H p = some (.ins C dx (rf (S l) n a)) ∧ H a = some (.tup t.vs)
theorem Rd.keep {C p : Addr} {l : List Nat} {n : Int} {t : Tk} {H H' : Hp} (r : Rd C p l n t H) (s : Same H H') : Rd C p l n t H' := by
  obtain ⟨o, dx, a, h1, h2⟩ := r
  exact ⟨o, dx, a, s _ _ h1, s _ _ h2⟩
def isW (wd : Str) (t : Tk) : Bool := decide (t.kind = "word") && decide (t.worth = .str wd)
/-- the words from a place on -/
def Lexes (l : List Nat) : List Tk → Prop
  | [] => False
  | [_] => True
  | t :: t' :: r => t.fin ≤ l.length ∧ wordAt l t.fin = some t' ∧ Lexes l (t' :: r)
def spInit (C : Addr) : Sp := fun vs H Q _ => ∃ (p dx : Addr) (l : List Nat) (n : Nat) (t : Tk), vs = [.ref p, .str (S l), .int n] ∧ H p = some (.ins C dx []) ∧ n ≤ l.length ∧ l.length ≤ 1000 ∧ wordAt l n = some t ∧
  ∀ H', Kp p H H' → Rd C p l 0 t H' → Q .non H'
def spGo (C : Addr) : Sp := fun vs H Q _ => ∃ (p : Addr) (l : List Nat) (n : Int) (t t' : Tk), vs = [.ref p] ∧ Rd C p l n t H ∧ t.fin ≤ l.length ∧ l.length ≤ 1000 ∧ wordAt l t.fin = some t' ∧
  ∀ H' a, Kp p H H' → Rd C p l n t' H' → H' a = some (.tup t.vs) → Q (.ref a) H'
def spSees (C : Addr) : Sp := fun vs H Q _ => ∃ (p : Addr) (l : List Nat) (n : Int) (t : Tk) (wd : Str), vs = [.ref p, .str wd] ∧ Rd C p l n t H ∧ Q (.bl (isW wd t)) H
def spOpens (C : Addr) : Sp := fun vs H Q _ => ∃ (p : Addr) (l : List Nat) (n : Int) (t t' : Tk), vs = [.ref p] ∧ Rd C p l n t H ∧ n ≠ 12 ∧ t.fin ≤ l.length ∧ l.length ≤ 1000 ∧ wordAt l t.fin = some t' ∧
  ∀ H' a, Kp p H H' → Rd C p l (n + 1) t' H' → H' a = some (.tup t.vs) → Q (.ref a) H'
def spNeeds (C : Addr) : Sp := fun vs H Q _ => ∃ (p : Addr) (l : List Nat) (n : Int) (t t' : Tk) (wd : Str), vs = [.ref p, .str wd] ∧ Rd C p l n t H ∧ isW wd t = true ∧ t.fin ≤ l.length ∧ l.length ≤ 1000 ∧ wordAt l t.fin = some t' ∧
  ∀ H', Kp p H H' → Rd C p l n t' H' → Q .non H'
def spShuts (C : Addr) : Sp := fun vs H Q _ => ∃ (p : Addr) (l : List Nat) (n : Int) (t t' : Tk) (wd : Str), vs = [.ref p, .str wd] ∧ Rd C p l n t H ∧ isW wd t = true ∧ t.fin ≤ l.length ∧ l.length ≤ 1000 ∧ wordAt l t.fin = some t' ∧
  ∀ H', Kp p H H' → Rd C p l (n - 1) t' H' → Q .non H'
def spNeedsName (C : Addr) : Sp := fun vs H Q _ => ∃ (p : Addr) (l : List Nat) (n : Int) (t t' : Tk) (x : Str), vs = [.ref p] ∧ Rd C p l n t H ∧ t.kind = "name" ∧ t.worth = .str x ∧ t.fin ≤ l.length ∧ l.length ≤ 1000 ∧ wordAt l t.fin = some t' ∧
  ∀ H', Kp p H H' → Rd C p l n t' H' → Q (.str x) H'
theorem vs_at0 (t : Tk) : atI t.vs 0 = some (.str t.kind) := rfl
theorem vs_at1 (t : Tk) : atI t.vs 1 = some (.int t.pos) := rfl
theorem vs_at2 (t : Tk) : atI t.vs 2 = some t.worth := rfl
theorem vs_at3 (t : Tk) : atI t.vs 3 = some (.int t.fin) := rfl
theorem worth_scal {t : Tk} (h : t.ok) (x : Str) : scal t.worth (.str x) = true := by
  rcases h with ⟨y, e⟩ | ⟨i, e⟩ <;> rw [e] <;> rfl
theorem worth_flat {t : Tk} (h : t.ok) : flatV t.worth = true := by
  rcases h with ⟨y, e⟩ | ⟨i, e⟩ <;> rw [e] <;> rfl
theorem str_inj {a b : Str} : (V.str a = V.str b) ↔ a = b := ⟨fun h => V.str.inj h, fun h => by rw [h]⟩

section
variable {P : Program} {w : World} {K : PySem.W.Frag} {mg : Str → Option Value} {base : Heap} {C aKEPT aPAIRS aLOOSE aSIGNS : Addr}
theorem k_Reader (T : Top w K mg C aKEPT aPAIRS aLOOSE aSIGNS) : Mak P w K mg base 4 "Reader" C (spInit C) := by
  have c_word_at := c_word_at (P := P) (base := base) T
  refine mak_by (ps := ["self", "text", "at"]) T.mkC T.kc T.gReader T.d_Reader___init__ sc_Reader___init__ (fun _ _ _ _ _ _ us hl => match us, hl with | [_, _, _], _ => rfl) (fun vs H Q E h => ?_) (fun f cdv A outer s H vs Q E hr h => ?_)
  · obtain ⟨_, _, _, _, _, rfl, _⟩ := h
    rfl
  obtain ⟨p, dx, l, n, t, rfl, hp, hn, hl, hx, q⟩ := h
  refine ⟨_, (pss_cons (ps_fld (pv 0) (pv 1) rfl)
      (pss_cons (ps_fld (pv 0) pe_int rfl)
      (pss_one (ps_fld (pv 0) (pe_c c_word_at hr (by decide) rfl (pa_cons (pv 1) (pa_cons (pv 2) pa_nil))) rfl)))), ?_⟩
  refine ⟨_, rfl, _, rfl, p, C, dx, _, rfl, hp, T.cl, T.nsource, (by show 0 < 1000; decide), ?_⟩
  refine ⟨_, rfl, p, C, dx, _, rfl, upd_same, T.cl, T.nopened, (by show 1 < 1000; decide), ?_⟩
  refine ⟨_, rfl, _, rfl, l, n, t, rfl, hn, hl, hx, fun H1 a s1 h1 => ?_⟩
  refine ⟨_, rfl, p, C, dx, _, rfl, s1 _ _ upd_same, T.cl, T.nnext, (by show (if ("source" : Str) = "opened" then _ else _ : List (Str × V)).length < 1000; rw [if_neg n_so]; show 2 < 1000; decide), ?_⟩
  have k1 : Kp p H H1 := ((Kp.put p H _).trans (Kp.put p _ _)).trans (.of s1)
  refine q _ (k1.trans (Kp.put p _ _)) ⟨word_ok hx, dx, a, by rw [upd_same, rf_made], ?_⟩
  have na : a ≠ p := ne_of h1 (s1 _ _ upd_same) (by intro z; cases z)
  rw [upd_ne na]
  exact h1
theorem m_go (T : Top w K mg C aKEPT aPAIRS aLOOSE aSIGNS) : Met P w K mg base 4 C "go" (spGo C) := by
  have c_word_at := c_word_at (P := P) (base := base) T
  refine met_by (ps := ["self"]) T.cl T.d_Reader_go sc_Reader_go (fun _ _ _ _ _ _ us hl => match us, hl with | [_], _ => rfl) (fun vs H Q E h => ?_) (fun f cdv A outer s H vs Q E hr h => ?_)
  · obtain ⟨_, _, _, _, _, rfl, _⟩ := h
    rfl
  obtain ⟨p, l, n, t, t', rfl, ⟨ot, dx, a, hp, ha⟩, hf, hl, hx, q⟩ := h
  refine ⟨_, (pss_cons (ps_set (i := 1) sc_Reader_go.nd rfl (Or.inl rfl) (pe_fld (pv 0) rfl))
      (pss_cons (ps_fld (pv 0) (pe_c c_word_at hr (by decide) rfl (pa_cons (pe_fld (pv 0) rfl) (pa_cons (pe_ix ix_tup (pv 1) pe_int (fun _ _ => rfl)) pa_nil))) rfl)
      (pss_one (ps_ret (pv 1))))), ?_⟩
  refine ⟨_, rfl, p, C, dx, _, _, rfl, hp, T.cl, T.nnext, rf_next _ _ _, ?_⟩
  refine ⟨_, rfl, p, C, dx, _, _, rfl, hp, T.cl, T.nsource, rf_source _ _ _, _, rfl, a, _, _, _, rfl, rfl, SqT.of ha, vs_at3 t, l, t.fin, t', rfl, hf, hl, hx, fun H1 b s1 h1 => ?_⟩
  refine ⟨_, rfl, p, C, dx, _, rfl, s1 _ _ hp, T.cl, T.nnext, (by show 3 < 1000; decide), ?_⟩
  have nb : b ≠ p := ne_of h1 (s1 _ _ hp) (by intro z; cases z)
  have na : a ≠ p := ne_of ha hp (by intro z; cases z)
  refine ⟨_, rfl, ?_⟩
  refine q _ a ((Kp.of s1).trans (Kp.put p _ _)) ⟨word_ok hx, dx, b, by rw [upd_same, rf_put_next], ?_⟩ ?_
  · rw [upd_ne nb]
    exact h1
  · rw [upd_ne na]
    exact s1 _ _ ha
theorem m_sees (T : Top w K mg C aKEPT aPAIRS aLOOSE aSIGNS) : Met P w K mg base 1 C "sees" (spSees C) := by
  refine met_by (ps := ["self", "word"]) T.cl T.d_Reader_sees sc_Reader_sees (fun _ _ _ _ _ _ us hl => match us, hl with | [_, _], _ => rfl) (fun vs H Q E h => ?_) (fun f cdv A outer s H vs Q E hr h => ?_)
  · obtain ⟨_, _, _, _, _, rfl, _⟩ := h
    rfl
  obtain ⟨p, l, n, t, wd, rfl, ⟨ot, dx, a, hp, ha⟩, q⟩ := h
  refine ⟨_, (pss_one (ps_ret (pe_and (pe_cmpR op_eq (pe_ix ix_tup (pe_fld (pv 0) rfl) pe_int (fun _ _ => rfl)) pe_str (nomark _)) (pe_one (pe_cmpR op_eq (pe_ix ix_tup (pe_fld (pv 0) rfl) pe_int (fun _ _ => rfl)) (pv 1) (nomark _)))))), ?_⟩
  refine ⟨_, rfl, p, C, dx, _, _, rfl, hp, T.cl, T.nnext, rf_next _ _ _, a, _, _, _, rfl, rfl, SqT.of ha, vs_at0 t, rfl, _, rfl, ?_⟩
  refine ite2 (fun c => ?_) (fun c => ?_)
  · refine ⟨_, rfl, p, C, dx, _, _, rfl, hp, T.cl, T.nnext, rf_next _ _ _, a, _, _, _, rfl, rfl, SqT.of ha, vs_at2 t, _, rfl, worth_scal ot _, ?_⟩
    have e : isW wd t = decide (t.worth = .str wd) := by
      unfold isW
      rw [decide_eq_true (str_inj.mp (of_decide_eq_true c)), Bool.true_and]
    rw [e] at q
    exact q
  · have e : isW wd t = false := by
      unfold isW
      rw [decide_eq_false (fun z => c (decide_eq_true (str_inj.mpr z))), Bool.false_and]
    rw [e] at q
    exact q
theorem m_opens (T : Top w K mg C aKEPT aPAIRS aLOOSE aSIGNS) : Met P w K mg base 5 C "opens" (spOpens C) := by
  have m_go := m_go (P := P) (base := base) T
  refine met_by (ps := ["self"]) T.cl T.d_Reader_opens sc_Reader_opens (fun _ _ _ _ _ _ us hl => match us, hl with | [_], _ => rfl) (fun vs H Q E h => ?_) (fun f cdv A outer s H vs Q E hr h => ?_)
  · obtain ⟨_, _, _, _, _, rfl, _⟩ := h
    rfl
  obtain ⟨p, l, n, t, t', rfl, ⟨ot, dx, a, hp, ha⟩, hn, hf, hl, hx, q⟩ := h
  refine ⟨_, (pss_cons (ps_if (pt_cmpR op_eq (pe_fld (pv 0) rfl) (C8.pe_gc rfl T.gMOST_OPEN) (nomark _)) pss_never pss_nil)
      (pss_cons (ps_fldaug (pv 0) pe_int in_add)
      (pss_one (ps_ret (pe_mt0 (pl := _) m_go hr (by decide) (pv 0)))))), ?_⟩
  refine ⟨_, rfl, p, C, dx, _, _, rfl, hp, T.cl, T.nopened, rf_opened _ _ _, rfl, _, rfl, ?_⟩
  refine ite2 (fun c => absurd (V.int.inj (of_decide_eq_true c)) hn) (fun _ => ?_)
  refine ⟨_, rfl, p, C, dx, _, _, rfl, hp, T.cl, T.nopened, rf_opened _ _ _, _, _, rfl, rfl, dx, _, hp, (by show 3 < 1000; decide), ?_⟩
  have na : a ≠ p := ne_of ha hp (by intro z; cases z)
  rw [rf_put_opened]
  refine ⟨_, rfl, p, dx, _, rfl, upd_same, rf_no _ _ _ (by decide +kernel) (by decide +kernel) (by decide +kernel), p, l, n + 1, t, t', rfl, ⟨ot, dx, a, upd_same, by rw [upd_ne na]; exact ha⟩, hf, hl, hx, fun H1 b k1 r1 h1 => ?_⟩
  exact q _ b ((Kp.put p H _).trans k1) r1 h1
theorem m_needs (T : Top w K mg C aKEPT aPAIRS aLOOSE aSIGNS) : Met P w K mg base 5 C "needs" (spNeeds C) := by
  have m_go := m_go (P := P) (base := base) T
  have m_sees := m_sees (P := P) (base := base) T
  refine met_by (ps := ["self", "word"]) T.cl T.d_Reader_needs sc_Reader_needs (fun _ _ _ _ _ _ us hl => match us, hl with | [_, _], _ => rfl) (fun vs H Q E h => ?_) (fun f cdv A outer s H vs Q E hr h => ?_)
  · obtain ⟨_, _, _, _, _, _, rfl, _⟩ := h
    rfl
  obtain ⟨p, l, n, t, t', wd, rfl, hR, hw, hf, hl, hx, q⟩ := h
  obtain ⟨ot, dx, a, hp, ha⟩ := id hR
  refine ⟨_, (pss_cons (ps_if (pt_not (pt_val (pe_mt (pl := _) m_sees hr (by decide) (pv 0) (pa_cons (pv 1) pa_nil)))) pss_never pss_nil)
      (pss_one (ps_expr (pe_mt0 (pl := _) m_go hr (by decide) (pv 0))))), ?_⟩
  refine ⟨_, rfl, p, dx, _, rfl, hp, rf_no _ _ _ (by decide +kernel) (by decide +kernel) (by decide +kernel), _, rfl, p, l, n, t, wd, rfl, hR, _, rfl, ?_⟩
  rw [hw]
  refine iteF ?_
  refine ⟨_, rfl, p, dx, _, rfl, hp, rf_no _ _ _ (by decide +kernel) (by decide +kernel) (by decide +kernel), p, l, n, t, t', rfl, hR, hf, hl, hx, fun H1 b k1 r1 h1 => ?_⟩
  exact q _ k1 r1
theorem m_shuts (T : Top w K mg C aKEPT aPAIRS aLOOSE aSIGNS) : Met P w K mg base 6 C "shuts" (spShuts C) := by
  have m_needs := m_needs (P := P) (base := base) T
  refine met_by (ps := ["self", "word"]) T.cl T.d_Reader_shuts sc_Reader_shuts (fun _ _ _ _ _ _ us hl => match us, hl with | [_, _], _ => rfl) (fun vs H Q E h => ?_) (fun f cdv A outer s H vs Q E hr h => ?_)
  · obtain ⟨_, _, _, _, _, _, rfl, _⟩ := h
    rfl
  obtain ⟨p, l, n, t, t', wd, rfl, hR, hw, hf, hl, hx, q⟩ := h
  obtain ⟨ot, dx, a, hp, ha⟩ := id hR
  refine ⟨_, (pss_cons (ps_expr (pe_mt (pl := _) m_needs hr (by decide) (pv 0) (pa_cons (pv 1) pa_nil)))
      (pss_one (ps_fldaug (pv 0) pe_int in_sub))), ?_⟩
  refine ⟨_, rfl, p, dx, _, rfl, hp, rf_no _ _ _ (by decide +kernel) (by decide +kernel) (by decide +kernel), _, rfl, p, l, n, t, t', wd, rfl, hR, hw, hf, hl, hx, fun H1 k1 r1 => ?_⟩
  obtain ⟨ot1, dx1, a1, hp1, ha1⟩ := id r1
  have na : a1 ≠ p := ne_of ha1 hp1 (by intro z; cases z)
  refine ⟨_, rfl, p, C, dx1, _, _, rfl, hp1, T.cl, T.nopened, rf_opened _ _ _, _, _, rfl, rfl, dx1, _, hp1, (by show 3 < 1000; decide), ?_⟩
  rw [rf_put_opened]
  exact q _ (k1.trans (Kp.put p _ _)) ⟨ot1, dx1, a1, upd_same, by rw [upd_ne na]; exact ha1⟩
theorem m_needs_name (T : Top w K mg C aKEPT aPAIRS aLOOSE aSIGNS) : Met P w K mg base 5 C "needs_name" (spNeedsName C) := by
  have m_go := m_go (P := P) (base := base) T
  refine met_by (ps := ["self"]) T.cl T.d_Reader_needs_name sc_Reader_needs_name (fun _ _ _ _ _ _ us hl => match us, hl with | [_], _ => rfl) (fun vs H Q E h => ?_) (fun f cdv A outer s H vs Q E hr h => ?_)
  · obtain ⟨_, _, _, _, _, _, rfl, _⟩ := h
    rfl
  obtain ⟨p, l, n, t, t', x, rfl, hR, hk, hw, hf, hl, hx, q⟩ := h
  obtain ⟨ot, dx, a, hp, ha⟩ := id hR
  refine ⟨_, (pss_cons (ps_if (pt_cmpR op_ne (pe_ix ix_tup (pe_fld (pv 0) rfl) pe_int (fun _ _ => rfl)) pe_str (nomark _)) pss_never pss_nil)
      (pss_one (ps_ret (pe_ix ix_tup (pe_mt0 (pl := _) m_go hr (by decide) (pv 0)) pe_int (fun _ _ => rfl))))), ?_⟩
  refine ⟨_, rfl, p, C, dx, _, _, rfl, hp, T.cl, T.nnext, rf_next _ _ _, a, _, _, _, rfl, rfl, SqT.of ha, vs_at0 t, rfl, _, rfl, ?_⟩
  refine iteNS (str_inj.mpr hk) ?_
  refine ⟨_, rfl, p, dx, _, rfl, hp, rf_no _ _ _ (by decide +kernel) (by decide +kernel) (by decide +kernel), p, l, n, t, t', rfl, hR, hf, hl, hx, fun H1 b k1 r1 h1 => ?_⟩
  refine ⟨b, _, _, _, rfl, rfl, SqT.of h1, vs_at2 t, ?_⟩
  rw [hw]
  exact q _ k1 r1
end
end Lr

set_option maxRecDepth 100000
set_option maxHeartbeats 4200000
namespace Lr
open PySem PySem.Spec L2 SX
/-! ### data that stand still -/
structure KeepSeq (H H' : Hp) : Prop where
  tup : ∀ b xs, H b = some (.tup xs) → H' b = some (.tup xs)
  lst : ∀ b xs, H b = some (.lst xs) → H' b = some (.lst xs)
  frz : ∀ b o u, H b = some (.frz o u) → H' b = some (.frz o u)
theorem KeepSeq.of {H H' : Hp} (s : Same H H') : KeepSeq H H' := ⟨fun _ _ h => s _ _ h, fun _ _ h => s _ _ h, fun _ _ _ h => s _ _ h⟩
theorem KeepSeq.kp {p C dx : Addr} {fs : List (Str × V)} {H H' : Hp} (k : Kp p H H') (hp : H p = some (.ins C dx fs)) : KeepSeq H H' :=
  ⟨fun b _ h => k b _ (ne_of h hp (by intro z; cases z)) h, fun b _ h => k b _ (ne_of h hp (by intro z; cases z)) h, fun b _ _ h => k b _ (ne_of h hp (by intro z; cases z)) h⟩
theorem KeepSeq.sqt {K : PySem.W.Frag} {H H' : Hp} {a : Addr} {xs : List V} (k : KeepSeq H H') (h : SqT K H a xs) : SqT K H' a xs := by
  obtain (h | ⟨o, h⟩) | h := h
  · exact .inl (.inl (k.tup _ _ h))
  · exact .inl (.inr ⟨o, k.frz _ _ _ h⟩)
  · exact .inr h
theorem KeepSeq.sql {K : PySem.W.Frag} {H H' : Hp} {a : Addr} {xs : List V} (k : KeepSeq H H') (h : SqL K H a xs) : SqL K H' a xs := by
  obtain (h | ⟨o, h⟩) | h := h
  · exact .inl (.inl (k.lst _ _ h))
  · exact .inl (.inr ⟨o, k.frz _ _ _ h⟩)
  · exact .inr h
section
variable {K : PySem.W.Frag} {H H' : Hp}
mutual
theorem dp_mono (k : KeepSeq H H') : ∀ (d : PyData) (v : V), Dp K H v d → Dp K H' v d
  | .none, _, h => by cases h; exact .non
  | .bool b, _, h => by cases h; exact .bl b
  | .int i, _, h => by cases h; exact .int i
  | .str x, _, h => by cases h; exact .str x
  | .list ds, _, h => by
    cases h with
    | lst hs ha => exact .lst (k.sql hs) (dpa_mono k ds _ ha)
  | .tuple ds, _, h => by
    cases h with
    | tup hs ha => exact .tup (k.sqt hs) (dpa_mono k ds _ ha)
  | .dict _, _, h => by cases h
theorem dpa_mono (k : KeepSeq H H') : ∀ (ds : List PyData) (vs : List V), DpAll K H vs ds → DpAll K H' vs ds
  | [], _, h => by cases h; exact .nil
  | d :: ds, _, h => by
    cases h with
    | cons h1 h2 => exact .cons (dp_mono k d _ h1) (dpa_mono k ds _ h2)
end
theorem dp_tup_inv {v : V} {ds : List PyData} (h : Dp K H v (.tuple ds)) : ∃ q xs, v = .ref q ∧ SqT K H q xs ∧ DpAll K H xs ds := by
  cases h with
  | tup hs ha => exact ⟨_, _, rfl, hs, ha⟩
theorem dpa_inv {vs : List V} {d : PyData} {ds : List PyData} (h : DpAll K H vs (d :: ds)) : ∃ v r, vs = v :: r ∧ Dp K H v d ∧ DpAll K H r ds := by
  cases h with
  | cons h1 h2 => exact ⟨_, _, rfl, h1, h2⟩
theorem dpa_nil {vs : List V} (h : DpAll K H vs []) : vs = [] := by
  cases h
  rfl
end
def toD : V → PyData
  | .int i => .int i
  | .str x => .str x
  | _ => .none
theorem dp_worth {K : PySem.W.Frag} {H : Hp} {t : Tk} (h : t.ok) : Dp K H t.worth (toD t.worth) := by
  rcases h with ⟨x, e⟩ | ⟨i, e⟩ <;> rw [e]
  · exact .str x
  · exact .int i
/-- the sign at which a tree's told text begins -/
def atOf : PyData → Option Int
  | .tuple (_ :: .int a :: _) => some a
  | _ => none
theorem atOf_inv {d : PyData} {a : Int} (h : atOf d = some a) : ∃ k r, d = .tuple (k :: .int a :: r) := by
  unfold atOf at h
  split at h
  · cases h
    exact ⟨_, _, rfl⟩
  · cases h
theorem dp_at {K : PySem.W.Frag} {H : Hp} {v : V} {d : PyData} {a : Int} (h : Dp K H v d) (ha : atOf d = some a) : ∃ q xs, v = .ref q ∧ SqT K H q xs ∧ atI xs 1 = some (.int a) := by
  obtain ⟨k, r, rfl⟩ := atOf_inv ha
  obtain ⟨q, xs, rfl, hs, hd⟩ := dp_tup_inv h
  obtain ⟨x0, r0, rfl, _, h1⟩ := dpa_inv hd
  obtain ⟨x1, r1, rfl, h2, _⟩ := dpa_inv h1
  cases h2
  refine ⟨q, _, rfl, hs, ?_⟩
  exact at_nat (n := 1) rfl

/-! ### what is told of words, by plain relations -/
abbrev Rel := List Tk → PyData → List Tk → Prop
inductive Loop (sg : Tk → Bool) (mk : Tk → Int → PyData → PyData → PyData) (B : Rel) : Nat → PyData → List Tk → PyData → List Tk → Prop
  | stop {one : PyData} {t : Tk} {ts : List Tk} : sg t = false → Loop sg mk B 0 one (t :: ts) one (t :: ts)
  | step {k : Nat} {one o d : PyData} {a : Int} {t : Tk} {ts ts' rs : List Tk} : sg t = true → atOf one = some a → B ts o ts' → Loop sg mk B k (mk t a one o) ts' d rs → Loop sg mk B (k + 1) one (t :: ts) d rs
def Level (sg : Tk → Bool) (mk : Tk → Int → PyData → PyData → PyData) (B P : Rel) : Rel := fun ts d rs => ∃ k one ts1, P ts one ts1 ∧ Loop sg mk B k one ts1 d rs
def hdNot (wd : Str) (ts : List Tk) : Prop := ∀ t r, ts = t :: r → isW wd t = false
def Leaf : Rel := fun ts d rs => ∃ t t' r, ts = t :: t' :: r ∧ rs = t' :: r ∧ d = .tuple [.str t.kind, .int t.pos, toD t.worth] ∧ (t.kind = "number" ∨ t.kind = "words" ∨ (t.kind = "name" ∧ isW "(" t' = false))
def mkPick (_ : Tk) (a : Int) (one o : PyData) : PyData := .tuple [.str "pick", .int a, one, o]
def mkSign (t : Tk) (a : Int) (one o : PyData) : PyData := .tuple [.str "sign", .int a, toD t.worth, one, o]
def mkJunc (wd : Str) (_ : Tk) (a : Int) (one o : PyData) : PyData := .tuple [.str wd, .int a, one, o]
def Shut (Any : Rel) : Rel := fun ts o rs => ∃ tc, Any ts o (tc :: rs) ∧ isW "]" tc = true
def Picked (Any : Rel) : Rel := Level (isW "[") mkPick (Shut Any) Leaf
def Lessened (Any : Rel) : Rel := fun ts d rs => hdNot "-" ts ∧ Picked Any ts d rs
def inSg (ks : List Str) (t : Tk) : Bool := decide (t.kind = "word") && inV t.worth (ks.map V.str)
def ksT : List Str := ["*", "//", "rest"]
def ksP : List Str := ["+", "-"]
def JoinT (Any : Rel) : Rel := Level (inSg ksT) mkSign (Lessened Any) (Lessened Any)
def JoinP (Any : Rel) : Rel := Level (inSg ksP) mkSign (JoinT Any) (JoinT Any)
def Compared (Any : Rel) : Rel := fun ts d rs => JoinP Any ts d rs ∧ hdNot "==" rs ∧ hdNot "!=" rs ∧ hdNot "<" rs ∧ hdNot "<=" rs
def Turned (Any : Rel) : Rel := fun ts d rs => hdNot "not" ts ∧ Compared Any ts d rs
def Both (Any : Rel) : Rel := Level (isW "and") (mkJunc "and") (Turned Any) (Turned Any)
def Either (Any : Rel) : Rel := Level (isW "or") (mkJunc "or") (Both Any) (Both Any)
def AnyOf (Any : Rel) : Rel := fun ts d rs => hdNot "if" ts ∧ hdNot "let" ts ∧ Either Any ts d rs
def Any : Nat → Rel
  | 0 => fun _ _ _ => False
  | m + 1 => AnyOf (Any m)

/-! ### promises -/
def RdL (C p : Addr) (l : List Nat) (n : Int) (ts : List Tk) (H : Hp) : Prop := l.length ≤ 1000 ∧ Lexes l ts ∧ ∃ t r, ts = t :: r ∧ Rd C p l n t H
theorem RdL.keep {C p : Addr} {l : List Nat} {n : Int} {ts : List Tk} {H H' : Hp} (r : RdL C p l n ts H) (s : Same H H') : RdL C p l n ts H' := by
  obtain ⟨h1, h2, t, r', e, h3⟩ := r
  exact ⟨h1, h2, t, r', e, h3.keep s⟩
def spLvl (C : Addr) (K : PySem.W.Frag) (m : Nat) (R : Rel) : Sp := fun vs H Q _ => ∃ (p : Addr) (l : List Nat) (n : Int) (ts rs : List Tk) (d : PyData), vs = [.ref p] ∧ n + m ≤ 12 ∧ RdL C p l n ts H ∧ R ts d rs ∧
  ∀ H' v, Kp p H H' → RdL C p l n rs H' → Dp K H' v d → Q v H'
def spSg (C : Addr) (K : PySem.W.Frag) (m : Nat) (ks : List Str) (R : Rel) : Sp := fun vs H Q _ => ∃ (p g : Addr) (l : List Nat) (n : Int) (ts rs : List Tk) (d : PyData), vs = [.ref p, .ref g] ∧ H g = some (.tup (ks.map V.str)) ∧ n + m ≤ 12 ∧ RdL C p l n ts H ∧ R ts d rs ∧
  ∀ H' v, Kp p H H' → RdL C p l n rs H' → Dp K H' v d → Q v H'
section
variable (z : Str) (n : Int) (a : Addr)
theorem no_go : (rf z n a).lookup ("go" : Str) = none := rf_no _ _ _ (by decide +kernel) (by decide +kernel) (by decide +kernel)
theorem no_sees : (rf z n a).lookup ("sees" : Str) = none := rf_no _ _ _ (by decide +kernel) (by decide +kernel) (by decide +kernel)
theorem no_opens : (rf z n a).lookup ("opens" : Str) = none := rf_no _ _ _ (by decide +kernel) (by decide +kernel) (by decide +kernel)
theorem no_needs : (rf z n a).lookup ("needs" : Str) = none := rf_no _ _ _ (by decide +kernel) (by decide +kernel) (by decide +kernel)
theorem no_needs_name : (rf z n a).lookup ("needs_name" : Str) = none := rf_no _ _ _ (by decide +kernel) (by decide +kernel) (by decide +kernel)
theorem no_shuts : (rf z n a).lookup ("shuts" : Str) = none := rf_no _ _ _ (by decide +kernel) (by decide +kernel) (by decide +kernel)
theorem no_any_tree : (rf z n a).lookup ("any_tree" : Str) = none := rf_no _ _ _ (by decide +kernel) (by decide +kernel) (by decide +kernel)
theorem no_either : (rf z n a).lookup ("either" : Str) = none := rf_no _ _ _ (by decide +kernel) (by decide +kernel) (by decide +kernel)
theorem no_both : (rf z n a).lookup ("both" : Str) = none := rf_no _ _ _ (by decide +kernel) (by decide +kernel) (by decide +kernel)
theorem no_turned : (rf z n a).lookup ("turned" : Str) = none := rf_no _ _ _ (by decide +kernel) (by decide +kernel) (by decide +kernel)
theorem no_compared : (rf z n a).lookup ("compared" : Str) = none := rf_no _ _ _ (by decide +kernel) (by decide +kernel) (by decide +kernel)
theorem no_joined : (rf z n a).lookup ("joined" : Str) = none := rf_no _ _ _ (by decide +kernel) (by decide +kernel) (by decide +kernel)
theorem no_operand : (rf z n a).lookup ("operand" : Str) = none := rf_no _ _ _ (by decide +kernel) (by decide +kernel) (by decide +kernel)
theorem no_lessened : (rf z n a).lookup ("lessened" : Str) = none := rf_no _ _ _ (by decide +kernel) (by decide +kernel) (by decide +kernel)
theorem no_picked : (rf z n a).lookup ("picked" : Str) = none := rf_no _ _ _ (by decide +kernel) (by decide +kernel) (by decide +kernel)
theorem no_closed : (rf z n a).lookup ("closed" : Str) = none := rf_no _ _ _ (by decide +kernel) (by decide +kernel) (by decide +kernel)
end
section
variable {P : Program} {w : World} {K : PySem.W.Frag} {mg : Str → Option Value} {base : Heap} {C aKEPT aPAIRS aLOOSE aSIGNS : Addr} {k m : Nat}
theorem m_closed (T : Top w K mg C aKEPT aPAIRS aLOOSE aSIGNS) : Met P w K mg base 5 C "closed" (spLvl C K m Leaf) := by
  have m_go := m_go (P := P) (base := base) T
  have m_sees := m_sees (P := P) (base := base) T
  refine met_by (ps := ["self"]) T.cl T.d_Reader_closed sc_Reader_closed (fun _ _ _ _ _ _ us hl => match us, hl with | [_], _ => rfl) (fun vs H Q E h => ?_) (fun f cdv A outer s H vs Q E hr h => ?_)
  · obtain ⟨_, _, _, _, _, _, rfl, _⟩ := h
    rfl
  obtain ⟨p, l, n, ts, rs, d, rfl, hn, ⟨hl, hx, t0, r0, e0, hR⟩, ⟨t, t', r, e1, rfl, rfl, hk⟩, q⟩ := h
  rw [e1] at e0
  obtain ⟨rfl, rfl⟩ := List.cons.inj e0
  subst e1
  obtain ⟨hf, hw, hx'⟩ := hx
  obtain ⟨ot, dx, a, hp, ha⟩ := id hR
  refine ⟨_, (pss_cons (ps_asg (pe_fld (pv 0) rfl) (pg_tup (by rfl) (pgs_cons (pg_name (i := 1) sc_Reader_closed.nd rfl (Or.inl rfl)) (pgs_cons (pg_name (i := 2) sc_Reader_closed.nd rfl (Or.inl rfl)) (pgs_cons (pg_name (i := 3) sc_Reader_closed.nd rfl (Or.inl rfl)) (pgs_cons (pg_name (i := 4) sc_Reader_closed.nd rfl (Or.inl rfl)) pgs_nil))))))
      (pss_cons (ps_if (pt_cmpR (opI (K := K)) (pv 1) (pe_tup (pa_cons pe_str (pa_cons pe_str pa_nil))) rfl) (pss_cons (ps_expr (pe_mt0 (pl := _) m_go hr (by decide) (pv 0)))
      (pss_one (ps_ret (pe_tup (pa_cons (pv 1) (pa_cons (pv 2) (pa_cons (pv 3) pa_nil))))))) pss_nil)
      (pss_cons (ps_if (pt_cmpR op_eq (pv 1) pe_str (nomark _)) (pss_cons (ps_expr (pe_mt0 (pl := _) m_go hr (by decide) (pv 0)))
      (pss_one (ps_ret (pe_ifExp (pt_val (pe_mt (pl := _) m_sees hr (by decide) (pv 0) (pa_cons pe_str pa_nil))) pe_never (pe_tup (pa_cons pe_str (pa_cons (pv 2) (pa_cons (pv 3) pa_nil)))))))) pss_nil)
      pss_never))), ?_⟩
  refine ⟨_, rfl, p, C, dx, _, _, rfl, hp, T.cl, T.nnext, rf_next _ _ _, a, _, rfl, SqT.of ha, rfl, _, _, rfl, _, _, rfl, _, _, rfl, _, _, rfl, rfl, ?_⟩
  refine ⟨_, rfl, (by show 2 ≤ sizeLine; decide), fun g hg => ⟨g, _, rfl, .inr (SqT.of upd_same), rfl, rfl, _, rfl, ?_⟩⟩
  have s1 : Same H (upd H g (.tup [V.str "number", V.str "words"])) := same_new hg _
  have hp1 := s1 _ _ hp
  have ein : inV (.str t.kind) [V.str "number", V.str "words"] = decide (t.kind ∈ (["number", "words"] : List Str)) := in_strs _ ["number", "words"]
  refine ite2 (fun c => ?_) (fun c => ?_)
  · refine ⟨_, rfl, p, dx, _, rfl, hp1, no_go _ _ _, p, l, n, t, t', rfl, hR.keep s1, hf, hl, hw, fun H1 b k1 R1 _ => ?_⟩
    refine ⟨_, rfl, _, rfl, _, rfl, (by show 3 ≤ sizeLine; decide), fun y hy => ?_⟩
    refine q _ _ (((Kp.of s1).trans k1).trans (Kp.new hy _)) ⟨hl, hx', t', r, rfl, R1.keep (same_new hy _)⟩ (.tup (SqT.of upd_same) (.cons (.str _) (.cons (.int _) (.cons (dp_worth ot) .nil))))
  · have hkn : t.kind = "name" ∧ isW "(" t' = false := by
      have hnot : ¬ t.kind ∈ (["number", "words"] : List Str) := fun e => c (ein.trans (decide_eq_true e))
      rcases hk with e | e | e
      · exact absurd (by rw [e]; exact List.mem_cons_self ..) hnot
      · exact absurd (by rw [e]; exact List.mem_cons_of_mem _ (List.mem_cons_self ..)) hnot
      · exact e
    refine ⟨_, rfl, rfl, _, rfl, ?_⟩
    refine ite2 (fun _ => ?_) (fun c2 => absurd (decide_eq_true (str_inj.mpr hkn.1)) c2)
    refine ⟨_, rfl, p, dx, _, rfl, hp1, no_go _ _ _, p, l, n, t, t', rfl, hR.keep s1, hf, hl, hw, fun H1 b k1 R1 _ => ?_⟩
    obtain ⟨ot1, dx1, a1, hp2, ha2⟩ := id R1
    refine ⟨_, rfl, p, dx1, _, rfl, hp2, no_sees _ _ _, p, l, n, t', _, rfl, R1, _, rfl, ?_⟩
    rw [hkn.2]
    refine iteF ?_
    refine ⟨_, rfl, _, rfl, (by show 3 ≤ sizeLine; decide), fun y hy => ?_⟩
    refine q _ _ (((Kp.of s1).trans k1).trans (Kp.new hy _)) ⟨hl, hx', t', r, rfl, R1.keep (same_new hy _)⟩ (.tup (SqT.of upd_same) (.cons (by rw [hkn.1]; exact .str _) (.cons (.int _) (.cons (dp_worth ot) .nil))))
theorem m_either (T : Top w K mg C aKEPT aPAIRS aLOOSE aSIGNS) {B : Rel} (m_both : Met P w K mg base k C "both" (spLvl C K m B)) (hk : 5 ≤ k) (hnil : ∀ d rs, ¬ B [] d rs) :
    Met P w K mg base (k + 1) C "either" (spLvl C K m (Level (isW "or") (mkJunc "or") B B)) := by
  have m_go := (m_go (P := P) (base := base) T).mono (show 4 ≤ k by omega)
  have m_sees := (m_sees (P := P) (base := base) T).mono (show 1 ≤ k by omega)
  refine met_by (ps := ["self"]) T.cl T.d_Reader_either sc_Reader_either (fun _ _ _ _ _ _ us hl => match us, hl with | [_], _ => rfl) (fun vs H Q E h => ?_) (fun f cdv A outer s H vs Q E hr h => ?_)
  · obtain ⟨_, _, _, _, _, _, rfl, _⟩ := h
    rfl
  obtain ⟨p, l, n, ts, rs, d, rfl, hn, hR, ⟨kk, one, ts1, hB, hL⟩, q⟩ := h
  obtain ⟨hl, hx, t0, r0, rfl, R0⟩ := id hR
  obtain ⟨ot, dx, a, hp, ha⟩ := id R0
  refine ⟨_, (pss_cons (ps_set (i := 1) sc_Reader_either.nd rfl (Or.inl rfl) (pe_mt0 (pl := _) m_both hr (by omega) (pv 0)))
      (pss_cons (ps_while PassesOwn.never (pt_val (pe_mt (pl := _) m_sees hr (by omega) (pv 0) (pa_cons pe_str pa_nil))) (pss_cons (ps_expr (pe_mt0 (pl := _) m_go hr (by omega) (pv 0)))
      (pss_one (ps_set (i := 1) sc_Reader_either.nd rfl (Or.inl rfl) (pe_tup (pa_cons pe_str (pa_cons (pe_ix ix_tup (pv 1) pe_int (fun _ _ => rfl)) (pa_cons (pv 1) (pa_cons (pe_mt0 (pl := _) m_both hr (by omega) (pv 0)) pa_nil)))))))))
      (pss_one (ps_ret (pv 1))))), ?_⟩
  refine ⟨_, rfl, p, dx, _, rfl, hp, no_both _ _ _, p, l, n, _, ts1, one, rfl, hn, hR, hB, fun H1 v1 k1 R1 D1 => ?_⟩
  refine ⟨fun j σ H' => ∃ v one' ts', σ = [some (.ref p), some v] ∧ Kp p H H' ∧ RdL C p l n ts' H' ∧ Dp K H' v one' ∧ Loop (isW "or") (mkJunc "or") B j one' ts' d rs,
    ⟨kk, v1, one, ts1, rfl, k1, R1, D1, hL⟩, ?_⟩
  rintro j σ H2 ⟨v, one', ts', rfl, k2, R2, D2, L2⟩
  obtain ⟨_, hx2, t, r, rfl, R2'⟩ := id R2
  obtain ⟨ot2, dx2, a2, hp2, ha2⟩ := id R2'
  refine ⟨_, rfl, p, dx2, _, rfl, hp2, no_sees _ _ _, p, l, n, t, _, rfl, R2', _, rfl, ?_⟩
  cases L2 with
  | stop h0 =>
    rw [h0]
    refine iteF ⟨_, rfl, ?_⟩
    exact q H2 v k2 R2 D2
  | @step j' _ o _ at1 _ _ ts2 _ h1 hat hB2 hL2 =>
    rw [h1]
    refine iteT ?_
    have hne : ∃ t' r', r = t' :: r' := by
      cases r with
      | nil => exact absurd hB2 (hnil _ _)
      | cons t' r' => exact ⟨t', r', rfl⟩
    obtain ⟨t', r', rfl⟩ := hne
    obtain ⟨hf2, hw2, hx2'⟩ := hx2
    refine ⟨fun σ' H'' => ∃ v' H3, H'' = H3 ∧ σ' = [some (.ref p), some v'] ∧ Kp p H H3 ∧ RdL C p l n ts2 H3 ∧ Dp K H3 v' (mkJunc "or" t at1 one' o), ?_, ?_⟩
    · rintro σ' H'' ⟨v', H3, rfl, rfl, k3, R3, D3⟩
      exact ⟨j', Nat.lt_succ_self _, v', _, ts2, rfl, k3, R3, D3, hL2⟩
    refine ⟨_, rfl, p, dx2, _, rfl, hp2, no_go _ _ _, p, l, n, t, t', rfl, R2', hf2, hl, hw2, fun H3 b k3 R3 h3 => ?_⟩
    have ks3 : KeepSeq H2 H3 := .kp k3 hp2
    have D3 := dp_mono ks3 _ _ D2
    obtain ⟨y, ys, ev, hy, hy1⟩ := dp_at D3 hat
    obtain ⟨ot3, dx3, a3, hp3, ha3⟩ := id R3
    refine ⟨_, rfl, y, ys, _, _, ev, rfl, hy, hy1, _, rfl, ?_⟩
    refine ⟨_, rfl, p, dx3, _, rfl, hp3, no_both _ _ _, p, l, n, _, ts2, o, rfl, hn, ⟨hl, hx2', t', r', rfl, R3⟩, hB2, fun H4 v4 k4 R4 D4 => ?_⟩
    refine ⟨(by show 4 ≤ sizeLine; decide), fun g hg => ?_⟩
    have D4' := dp_mono (.kp k4 hp3) _ _ D3
    have s4 : Same H4 (upd H4 g (.tup [V.str "or", V.int at1, v, v4])) := same_new hg _
    refine ⟨_, _, rfl, rfl, ((k2.trans k3).trans k4).trans (.of s4), R4.keep s4, ?_⟩
    exact .tup (SqT.of upd_same) (.cons (.str _) (.cons (.int _) (.cons (dp_mono (.of s4) _ _ D4') (.cons (dp_mono (.of s4) _ _ D4) .nil))))
theorem m_both (T : Top w K mg C aKEPT aPAIRS aLOOSE aSIGNS) {B : Rel} (m_turned : Met P w K mg base k C "turned" (spLvl C K m B)) (hk : 5 ≤ k) (hnil : ∀ d rs, ¬ B [] d rs) :
    Met P w K mg base (k + 1) C "both" (spLvl C K m (Level (isW "and") (mkJunc "and") B B)) := by
  have m_go := (m_go (P := P) (base := base) T).mono (show 4 ≤ k by omega)
  have m_sees := (m_sees (P := P) (base := base) T).mono (show 1 ≤ k by omega)
  refine met_by (ps := ["self"]) T.cl T.d_Reader_both sc_Reader_both (fun _ _ _ _ _ _ us hl => match us, hl with | [_], _ => rfl) (fun vs H Q E h => ?_) (fun f cdv A outer s H vs Q E hr h => ?_)
  · obtain ⟨_, _, _, _, _, _, rfl, _⟩ := h
    rfl
  obtain ⟨p, l, n, ts, rs, d, rfl, hn, hR, ⟨kk, one, ts1, hB, hL⟩, q⟩ := h
  obtain ⟨hl, hx, t0, r0, rfl, R0⟩ := id hR
  obtain ⟨ot, dx, a, hp, ha⟩ := id R0
  refine ⟨_, (pss_cons (ps_set (i := 1) sc_Reader_both.nd rfl (Or.inl rfl) (pe_mt0 (pl := _) m_turned hr (by omega) (pv 0)))
      (pss_cons (ps_while PassesOwn.never (pt_val (pe_mt (pl := _) m_sees hr (by omega) (pv 0) (pa_cons pe_str pa_nil))) (pss_cons (ps_expr (pe_mt0 (pl := _) m_go hr (by omega) (pv 0)))
      (pss_one (ps_set (i := 1) sc_Reader_both.nd rfl (Or.inl rfl) (pe_tup (pa_cons pe_str (pa_cons (pe_ix ix_tup (pv 1) pe_int (fun _ _ => rfl)) (pa_cons (pv 1) (pa_cons (pe_mt0 (pl := _) m_turned hr (by omega) (pv 0)) pa_nil)))))))))
      (pss_one (ps_ret (pv 1))))), ?_⟩
  refine ⟨_, rfl, p, dx, _, rfl, hp, no_turned _ _ _, p, l, n, _, ts1, one, rfl, hn, hR, hB, fun H1 v1 k1 R1 D1 => ?_⟩
  refine ⟨fun j σ H' => ∃ v one' ts', σ = [some (.ref p), some v] ∧ Kp p H H' ∧ RdL C p l n ts' H' ∧ Dp K H' v one' ∧ Loop (isW "and") (mkJunc "and") B j one' ts' d rs,
    ⟨kk, v1, one, ts1, rfl, k1, R1, D1, hL⟩, ?_⟩
  rintro j σ H2 ⟨v, one', ts', rfl, k2, R2, D2, L2⟩
  obtain ⟨_, hx2, t, r, rfl, R2'⟩ := id R2
  obtain ⟨ot2, dx2, a2, hp2, ha2⟩ := id R2'
  refine ⟨_, rfl, p, dx2, _, rfl, hp2, no_sees _ _ _, p, l, n, t, _, rfl, R2', _, rfl, ?_⟩
  cases L2 with
  | stop h0 =>
    rw [h0]
    refine iteF ⟨_, rfl, ?_⟩
    exact q H2 v k2 R2 D2
  | @step j' _ o _ at1 _ _ ts2 _ h1 hat hB2 hL2 =>
    rw [h1]
    refine iteT ?_
    have hne : ∃ t' r', r = t' :: r' := by
      cases r with
      | nil => exact absurd hB2 (hnil _ _)
      | cons t' r' => exact ⟨t', r', rfl⟩
    obtain ⟨t', r', rfl⟩ := hne
    obtain ⟨hf2, hw2, hx2'⟩ := hx2
    refine ⟨fun σ' H'' => ∃ v' H3, H'' = H3 ∧ σ' = [some (.ref p), some v'] ∧ Kp p H H3 ∧ RdL C p l n ts2 H3 ∧ Dp K H3 v' (mkJunc "and" t at1 one' o), ?_, ?_⟩
    · rintro σ' H'' ⟨v', H3, rfl, rfl, k3, R3, D3⟩
      exact ⟨j', Nat.lt_succ_self _, v', _, ts2, rfl, k3, R3, D3, hL2⟩
    refine ⟨_, rfl, p, dx2, _, rfl, hp2, no_go _ _ _, p, l, n, t, t', rfl, R2', hf2, hl, hw2, fun H3 b k3 R3 h3 => ?_⟩
    have ks3 : KeepSeq H2 H3 := .kp k3 hp2
    have D3 := dp_mono ks3 _ _ D2
    obtain ⟨y, ys, ev, hy, hy1⟩ := dp_at D3 hat
    obtain ⟨ot3, dx3, a3, hp3, ha3⟩ := id R3
    refine ⟨_, rfl, y, ys, _, _, ev, rfl, hy, hy1, _, rfl, ?_⟩
    refine ⟨_, rfl, p, dx3, _, rfl, hp3, no_turned _ _ _, p, l, n, _, ts2, o, rfl, hn, ⟨hl, hx2', t', r', rfl, R3⟩, hB2, fun H4 v4 k4 R4 D4 => ?_⟩
    refine ⟨(by show 4 ≤ sizeLine; decide), fun g hg => ?_⟩
    have D4' := dp_mono (.kp k4 hp3) _ _ D3
    have s4 : Same H4 (upd H4 g (.tup [V.str "and", V.int at1, v, v4])) := same_new hg _
    refine ⟨_, _, rfl, rfl, ((k2.trans k3).trans k4).trans (.of s4), R4.keep s4, ?_⟩
    exact .tup (SqT.of upd_same) (.cons (.str _) (.cons (.int _) (.cons (dp_mono (.of s4) _ _ D4') (.cons (dp_mono (.of s4) _ _ D4) .nil))))
end
end Lr

set_option maxRecDepth 100000
set_option maxHeartbeats 4200000
namespace Lr
open PySem PySem.Spec L2 SX
theorem loop_ne {sg : Tk → Bool} {mk : Tk → Int → PyData → PyData → PyData} {B : Rel} {k : Nat} {one d : PyData} {ts rs : List Tk} (h : Loop sg mk B k one ts d rs) : ∃ t r, ts = t :: r := by
  cases h with
  | stop _ => exact ⟨_, _, rfl⟩
  | step _ _ _ _ => exact ⟨_, _, rfl⟩
section
variable {P : Program} {w : World} {K : PySem.W.Frag} {mg : Str → Option Value} {base : Heap} {C aKEPT aPAIRS aLOOSE aSIGNS : Addr} {k m : Nat}
theorem m_picked (T : Top w K mg C aKEPT aPAIRS aLOOSE aSIGNS) {B : Rel} (m_any_tree : Met P w K mg base k C "any_tree" (spLvl C K m B)) (hk : 6 ≤ k) (hnil : ∀ d rs, ¬ B [] d rs) :
    Met P w K mg base (k + 1) C "picked" (spLvl C K (m + 1) (Picked B)) := by
  have m_closed := (m_closed (P := P) (base := base) (m := m + 1) T).mono (show 5 ≤ k by omega)
  have m_opens := (m_opens (P := P) (base := base) T).mono (show 5 ≤ k by omega)
  have m_shuts := (m_shuts (P := P) (base := base) T).mono (show 6 ≤ k by omega)
  have m_sees := (m_sees (P := P) (base := base) T).mono (show 1 ≤ k by omega)
  refine met_by (ps := ["self"]) T.cl T.d_Reader_picked sc_Reader_picked (fun _ _ _ _ _ _ us hl => match us, hl with | [_], _ => rfl) (fun vs H Q E h => ?_) (fun f cdv A outer s H vs Q E hr h => ?_)
  · obtain ⟨_, _, _, _, _, _, rfl, _⟩ := h
    rfl
  obtain ⟨p, l, n, ts, rs, d, rfl, hn, hR, ⟨kk, one, ts1, hB, hL⟩, q⟩ := h
  obtain ⟨hl, hx, t0, r0, rfl, R0⟩ := id hR
  obtain ⟨ot, dx, a, hp, ha⟩ := id R0
  refine ⟨_, (pss_cons (ps_set (i := 1) sc_Reader_picked.nd rfl (Or.inl rfl) (pe_mt0 (pl := _) m_closed hr (by omega) (pv 0)))
      (pss_cons (ps_while PassesOwn.never (pt_val (pe_mt (pl := _) m_sees hr (by omega) (pv 0) (pa_cons pe_str pa_nil))) (pss_cons (ps_expr (pe_mt0 (pl := _) m_opens hr (by omega) (pv 0)))
      (pss_cons (ps_set (i := 2) sc_Reader_picked.nd rfl (Or.inl rfl) (pe_mt0 (pl := _) m_any_tree hr (by omega) (pv 0)))
      (pss_cons (ps_expr (pe_mt (pl := _) m_shuts hr (by omega) (pv 0) (pa_cons pe_str pa_nil)))
      (pss_one (ps_set (i := 1) sc_Reader_picked.nd rfl (Or.inl rfl) (pe_tup (pa_cons pe_str (pa_cons (pe_ix ix_tup (pv 1) pe_int (fun _ _ => rfl)) (pa_cons (pv 1) (pa_cons (pv 2) pa_nil)))))))))))
      (pss_one (ps_ret (pv 1))))), ?_⟩
  refine ⟨_, rfl, p, dx, _, rfl, hp, no_closed _ _ _, p, l, n, _, ts1, one, rfl, hn, hR, hB, fun H1 v1 k1 R1 D1 => ?_⟩
  refine ⟨fun j σ H' => ∃ v o one' ts', σ = [some (.ref p), some v, o] ∧ Kp p H H' ∧ RdL C p l n ts' H' ∧ Dp K H' v one' ∧ Loop (isW "[") mkPick (Shut B) j one' ts' d rs,
    ⟨kk, v1, none, one, ts1, rfl, k1, R1, D1, hL⟩, ?_⟩
  rintro j σ H2 ⟨v, o, one', ts', rfl, k2, R2, D2, L2⟩
  obtain ⟨_, hx2, t, r, rfl, R2'⟩ := id R2
  obtain ⟨ot2, dx2, a2, hp2, ha2⟩ := id R2'
  refine ⟨_, rfl, p, dx2, _, rfl, hp2, no_sees _ _ _, p, l, n, t, _, rfl, R2', _, rfl, ?_⟩
  cases L2 with
  | stop h0 =>
    rw [h0]
    refine iteF ⟨_, rfl, ?_⟩
    exact q H2 v k2 R2 D2
  | @step j' _ od _ at1 _ _ ts2 _ h1 hat hB2 hL2 =>
    rw [h1]
    refine iteT ?_
    obtain ⟨tc, hB2, hc⟩ := hB2
    obtain ⟨te, re, rfl⟩ := loop_ne hL2
    have hne : ∃ t' r', r = t' :: r' := by
      cases r with
      | nil => exact absurd hB2 (hnil _ _)
      | cons t' r' => exact ⟨t', r', rfl⟩
    obtain ⟨t', r', rfl⟩ := hne
    obtain ⟨hf2, hw2, hx2'⟩ := hx2
    refine ⟨fun σ' H'' => ∃ v' o' H3, H'' = H3 ∧ σ' = [some (.ref p), some v', o'] ∧ Kp p H H3 ∧ RdL C p l n (te :: re) H3 ∧ Dp K H3 v' (mkPick t at1 one' od), ?_, ?_⟩
    · rintro σ' H'' ⟨v', o', H3, rfl, rfl, k3, R3, D3⟩
      exact ⟨j', Nat.lt_succ_self _, v', o', _, _, rfl, k3, R3, D3, hL2⟩
    refine ⟨_, rfl, p, dx2, _, rfl, hp2, no_opens _ _ _, p, l, n, t, t', rfl, R2', by omega, hf2, hl, hw2, fun H3 b k3 R3 h3 => ?_⟩
    obtain ⟨ot3, dx3, a3, hp3, ha3⟩ := id R3
    refine ⟨_, rfl, p, dx3, _, rfl, hp3, no_any_tree _ _ _, p, l, n + 1, _, _, od, rfl, by omega, ⟨hl, hx2', t', r', rfl, R3⟩, hB2, fun H4 v4 k4 R4 D4 => ?_⟩
    obtain ⟨_, hx4, tc', rc', ec, R4'⟩ := R4
    obtain ⟨rfl, rfl⟩ := List.cons.inj ec
    obtain ⟨hf4, hw4, hx4'⟩ := hx4
    obtain ⟨ot4, dx4, a4, hp4, ha4⟩ := id R4'
    refine ⟨_, rfl, p, dx4, _, rfl, hp4, no_shuts _ _ _, p, l, n + 1, tc, te, _, rfl, R4', hc, hf4, hl, hw4, fun H5 k5 R5 => ?_⟩
    have D5 := dp_mono (.kp k5 hp4) _ _ D4
    have E5 := dp_mono (.kp k5 hp4) _ _ (dp_mono (.kp k4 hp3) _ _ (dp_mono (.kp k3 hp2) _ _ D2))
    rw [show n + 1 - 1 = n by omega] at R5
    obtain ⟨y, ys, ev, hy, hy1⟩ := dp_at E5 hat
    refine ⟨_, rfl, y, ys, _, _, ev, rfl, hy, hy1, _, rfl, _, rfl, ?_⟩
    refine ⟨(by show 4 ≤ sizeLine; decide), fun g hg => ?_⟩
    have s5 : Same H5 (upd H5 g (.tup [V.str "pick", V.int at1, v, v4])) := same_new hg _
    refine ⟨_, _, _, rfl, rfl, (((k2.trans k3).trans k4).trans k5).trans (.of s5), ⟨hl, hx4', te, re, rfl, R5.keep s5⟩, ?_⟩
    exact .tup (SqT.of upd_same) (.cons (.str _) (.cons (.int _) (.cons (dp_mono (.of s5) _ _ E5) (.cons (dp_mono (.of s5) _ _ D5) .nil))))
theorem m_lessened (T : Top w K mg C aKEPT aPAIRS aLOOSE aSIGNS) {B : Rel} (m_picked : Met P w K mg base k C "picked" (spLvl C K m B)) (hk : 1 ≤ k) :
    Met P w K mg base (k + 1) C "lessened" (spLvl C K m (fun ts d rs => hdNot "-" ts ∧ B ts d rs)) := by
  have m_sees := (m_sees (P := P) (base := base) T).mono (show 1 ≤ k by omega)
  refine met_by (ps := ["self"]) T.cl T.d_Reader_lessened sc_Reader_lessened (fun _ _ _ _ _ _ us hl => match us, hl with | [_], _ => rfl) (fun vs H Q E h => ?_) (fun f cdv A outer s H vs Q E hr h => ?_)
  · obtain ⟨_, _, _, _, _, _, rfl, _⟩ := h
    rfl
  obtain ⟨p, l, n, ts, rs, d, rfl, hn, hR, ⟨hno, hB⟩, q⟩ := h
  obtain ⟨hl, hx, t0, r0, rfl, R0⟩ := id hR
  obtain ⟨ot, dx, a, hp, ha⟩ := id R0
  refine ⟨_, (pss_cons (ps_if (pt_val (pe_mt (pl := _) m_sees hr (by omega) (pv 0) (pa_cons pe_str pa_nil))) pss_never pss_nil)
      (pss_one (ps_ret (pe_mt0 (pl := _) m_picked hr (by omega) (pv 0))))), ?_⟩
  refine ⟨_, rfl, p, dx, _, rfl, hp, no_sees _ _ _, p, l, n, t0, _, rfl, R0, _, rfl, ?_⟩
  rw [hno _ _ rfl]
  refine iteF ?_
  exact ⟨_, rfl, p, dx, _, rfl, hp, no_picked _ _ _, p, l, n, _, rs, d, rfl, hn, hR, hB, q⟩
theorem m_turned (T : Top w K mg C aKEPT aPAIRS aLOOSE aSIGNS) {B : Rel} (m_compared : Met P w K mg base k C "compared" (spLvl C K m B)) (hk : 1 ≤ k) :
    Met P w K mg base (k + 1) C "turned" (spLvl C K m (fun ts d rs => hdNot "not" ts ∧ B ts d rs)) := by
  have m_sees := (m_sees (P := P) (base := base) T).mono (show 1 ≤ k by omega)
  refine met_by (ps := ["self"]) T.cl T.d_Reader_turned sc_Reader_turned (fun _ _ _ _ _ _ us hl => match us, hl with | [_], _ => rfl) (fun vs H Q E h => ?_) (fun f cdv A outer s H vs Q E hr h => ?_)
  · obtain ⟨_, _, _, _, _, _, rfl, _⟩ := h
    rfl
  obtain ⟨p, l, n, ts, rs, d, rfl, hn, hR, ⟨hno, hB⟩, q⟩ := h
  obtain ⟨hl, hx, t0, r0, rfl, R0⟩ := id hR
  obtain ⟨ot, dx, a, hp, ha⟩ := id R0
  refine ⟨_, (pss_cons (ps_if (pt_val (pe_mt (pl := _) m_sees hr (by omega) (pv 0) (pa_cons pe_str pa_nil))) pss_never pss_nil)
      (pss_one (ps_ret (pe_mt0 (pl := _) m_compared hr (by omega) (pv 0))))), ?_⟩
  refine ⟨_, rfl, p, dx, _, rfl, hp, no_sees _ _ _, p, l, n, t0, _, rfl, R0, _, rfl, ?_⟩
  rw [hno _ _ rfl]
  refine iteF ?_
  exact ⟨_, rfl, p, dx, _, rfl, hp, no_compared _ _ _, p, l, n, _, rs, d, rfl, hn, hR, hB, q⟩
theorem m_any_tree (T : Top w K mg C aKEPT aPAIRS aLOOSE aSIGNS) {B : Rel} (m_either : Met P w K mg base k C "either" (spLvl C K m B)) (hk : 1 ≤ k) :
    Met P w K mg base (k + 1) C "any_tree" (spLvl C K m (fun ts d rs => hdNot "if" ts ∧ hdNot "let" ts ∧ B ts d rs)) := by
  have m_sees := (m_sees (P := P) (base := base) T).mono (show 1 ≤ k by omega)
  refine met_by (ps := ["self"]) T.cl T.d_Reader_any_tree sc_Reader_any_tree (fun _ _ _ _ _ _ us hl => match us, hl with | [_], _ => rfl) (fun vs H Q E h => ?_) (fun f cdv A outer s H vs Q E hr h => ?_)
  · obtain ⟨_, _, _, _, _, _, rfl, _⟩ := h
    rfl
  obtain ⟨p, l, n, ts, rs, d, rfl, hn, hR, ⟨hno, hno2, hB⟩, q⟩ := h
  obtain ⟨hl, hx, t0, r0, rfl, R0⟩ := id hR
  obtain ⟨ot, dx, a, hp, ha⟩ := id R0
  refine ⟨_, (pss_cons (ps_if (pt_val (pe_mt (pl := _) m_sees hr (by omega) (pv 0) (pa_cons pe_str pa_nil))) pss_never pss_nil)
      (pss_cons (ps_if (pt_val (pe_mt (pl := _) m_sees hr (by omega) (pv 0) (pa_cons pe_str pa_nil))) pss_never pss_nil)
      (pss_one (ps_ret (pe_mt0 (pl := _) m_either hr (by omega) (pv 0)))))), ?_⟩
  refine ⟨_, rfl, p, dx, _, rfl, hp, no_sees _ _ _, p, l, n, t0, _, rfl, R0, _, rfl, ?_⟩
  rw [hno _ _ rfl]
  refine iteF ?_
  refine ⟨_, rfl, p, dx, _, rfl, hp, no_sees _ _ _, p, l, n, t0, _, rfl, R0, _, rfl, ?_⟩
  rw [hno2 _ _ rfl]
  refine iteF ?_
  exact ⟨_, rfl, p, dx, _, rfl, hp, no_either _ _ _, p, l, n, _, rs, d, rfl, hn, hR, hB, q⟩
theorem m_joined (T : Top w K mg C aKEPT aPAIRS aLOOSE aSIGNS) {B : Rel} {ks : List Str} (m_operand : Met P w K mg base k C "operand" (spSg C K m ks B)) (hk : 5 ≤ k) (hnil : ∀ d rs, ¬ B [] d rs) :
    Met P w K mg base (k + 1) C "joined" (spSg C K m ks (Level (inSg ks) mkSign B B)) := by
  have m_go := (m_go (P := P) (base := base) T).mono (show 4 ≤ k by omega)
  refine met_by (ps := ["self", "signs"]) T.cl T.d_Reader_joined sc_Reader_joined (fun _ _ _ _ _ _ us hl => match us, hl with | [_, _], _ => rfl) (fun vs H Q E h => ?_) (fun f cdv A outer s H vs Q E hr h => ?_)
  · obtain ⟨_, _, _, _, _, _, _, rfl, _⟩ := h
    rfl
  obtain ⟨p, g, l, n, ts, rs, d, rfl, hg, hn, hR, ⟨kk, one, ts1, hB, hL⟩, q⟩ := h
  obtain ⟨hl, hx, t0, r0, rfl, R0⟩ := id hR
  obtain ⟨ot, dx, a, hp, ha⟩ := id R0
  have ngp : g ≠ p := ne_of hg hp (by intro z; cases z)
  refine ⟨_, (pss_cons (ps_set (i := 2) sc_Reader_joined.nd rfl (Or.inl rfl) (pe_mt (pl := _) m_operand hr (by omega) (pv 0) (pa_cons (pv 1) pa_nil)))
      (pss_cons (ps_while PassesOwn.never (PW.pt (pw_and (pt_cmpR op_eq (pe_ix ix_tup (pe_fld (pv 0) rfl) pe_int (fun _ _ => rfl)) pe_str (nomark _)) (pw_and1 (pt_cmpR (opI (K := K)) (pe_ix ix_tup (pe_fld (pv 0) rfl) pe_int (fun _ _ => rfl)) (pv 1) rfl)))) (pss_cons (ps_set (i := 3) sc_Reader_joined.nd rfl (Or.inl rfl) (pe_ix ix_tup (pe_mt0 (pl := _) m_go hr (by omega) (pv 0)) pe_int (fun _ _ => rfl)))
      (pss_one (ps_set (i := 2) sc_Reader_joined.nd rfl (Or.inl rfl) (pe_tup (pa_cons pe_str (pa_cons (pe_ix ix_tup (pv 2) pe_int (fun _ _ => rfl)) (pa_cons (pv 3) (pa_cons (pv 2) (pa_cons (pe_mt (pl := _) m_operand hr (by omega) (pv 0) (pa_cons (pv 1) pa_nil)) pa_nil))))))))))
      (pss_one (ps_ret (pv 2))))), ?_⟩
  refine ⟨_, rfl, p, dx, _, rfl, hp, no_operand _ _ _, _, rfl, p, g, l, n, _, ts1, one, rfl, hg, hn, hR, hB, fun H1 v1 k1 R1 D1 => ?_⟩
  refine ⟨fun j σ H' => ∃ v o one' ts', σ = [some (.ref p), some (.ref g), some v, o] ∧ Kp p H H' ∧ RdL C p l n ts' H' ∧ Dp K H' v one' ∧ Loop (inSg ks) mkSign B j one' ts' d rs,
    ⟨kk, v1, none, one, ts1, rfl, k1, R1, D1, hL⟩, ?_⟩
  rintro j σ H2 ⟨v, o, one', ts', rfl, k2, R2, D2, L2⟩
  obtain ⟨_, hx2, t, r, rfl, R2'⟩ := id R2
  obtain ⟨ot2, dx2, a2, hp2, ha2⟩ := id R2'
  have hg2 := k2 g _ ngp hg
  refine ⟨_, rfl, p, C, dx2, _, _, rfl, hp2, T.cl, T.nnext, rf_next _ _ _, a2, _, _, _, rfl, rfl, SqT.of ha2, vs_at0 t, rfl, _, rfl, ?_⟩
  have sg0 : ∀ b : Bool, decide (V.str t.kind = V.str "word") = b → decide (t.kind = "word") = b := fun b hb => by
    rw [← hb]
    exact (decide_eq_decide.mpr str_inj).symm
  have stop : inSg ks t = false → D2 = D2 → Q v H2 := fun h0 _ => by
    cases L2 with
    | stop _ => exact q H2 v k2 R2 D2
    | step h1 _ _ _ =>
      rw [h1] at h0
      cases h0
  refine ite2 (fun c => ?_) (fun c => ?_)
  · refine ⟨_, rfl, p, C, dx2, _, _, rfl, hp2, T.cl, T.nnext, rf_next _ _ _, a2, _, _, _, rfl, rfl, SqT.of ha2, vs_at2 t, _, rfl, g, _, rfl, .inr (SqT.of hg2), worth_flat ot2, flat_strs ks, _, rfl, ?_⟩
    have esg : inSg ks t = inV t.worth (ks.map V.str) := by
      unfold inSg
      rw [sg0 _ c, Bool.true_and]
    refine ite2 (fun c2 => ?_) (fun c2 => ?_)
    · have c3 : inSg ks t = true := esg.trans c2
      cases L2 with
      | stop h0 =>
        rw [h0] at c3
        cases c3
      | @step j' _ od _ at1 _ _ ts2 _ h1 hat hB2 hL2 =>
        have hne : ∃ t' r', r = t' :: r' := by
          cases r with
          | nil => exact absurd hB2 (hnil _ _)
          | cons t' r' => exact ⟨t', r', rfl⟩
        obtain ⟨t', r', rfl⟩ := hne
        obtain ⟨hf2, hw2, hx2'⟩ := hx2
        refine ⟨fun σ' H'' => ∃ v' o' H3, H'' = H3 ∧ σ' = [some (.ref p), some (.ref g), some v', o'] ∧ Kp p H H3 ∧ RdL C p l n ts2 H3 ∧ Dp K H3 v' (mkSign t at1 one' od), ?_, ?_⟩
        · rintro σ' H'' ⟨v', o', H3, rfl, rfl, k3, R3, D3⟩
          exact ⟨j', Nat.lt_succ_self _, v', o', _, ts2, rfl, k3, R3, D3, hL2⟩
        refine ⟨_, rfl, p, dx2, _, rfl, hp2, no_go _ _ _, p, l, n, t, t', rfl, R2', hf2, hl, hw2, fun H3 b k3 R3 h3 => ?_⟩
        refine ⟨b, _, _, _, rfl, rfl, SqT.of h3, vs_at2 t, ?_⟩
        have ks3 : KeepSeq H2 H3 := .kp k3 hp2
        have D3 := dp_mono ks3 _ _ D2
        obtain ⟨y, ys, ev, hy, hy1⟩ := dp_at D3 hat
        obtain ⟨ot3, dx3, a3, hp3, ha3⟩ := id R3
        refine ⟨_, rfl, y, ys, _, _, ev, rfl, hy, hy1, _, rfl, _, rfl, ?_⟩
        refine ⟨_, rfl, p, dx3, _, rfl, hp3, no_operand _ _ _, _, rfl, p, g, l, n, _, ts2, od, rfl, k3 g _ ngp hg2, hn, ⟨hl, hx2', t', r', rfl, R3⟩, hB2, fun H4 v4 k4 R4 D4 => ?_⟩
        refine ⟨(by show 5 ≤ sizeLine; decide), fun e he => ?_⟩
        have D4' := dp_mono (.kp k4 hp3) _ _ D3
        have s4 : Same H4 (upd H4 e (.tup [V.str "sign", V.int at1, t.worth, v, v4])) := same_new he _
        refine ⟨_, _, _, rfl, rfl, ((k2.trans k3).trans k4).trans (.of s4), R4.keep s4, ?_⟩
        exact .tup (SqT.of upd_same) (.cons (.str _) (.cons (.int _) (.cons (dp_worth ot2) (.cons (dp_mono (.of s4) _ _ D4') (.cons (dp_mono (.of s4) _ _ D4) .nil)))))
    · have c3 : inSg ks t = false := esg.trans (Bool.eq_false_iff.mpr c2)
      exact ⟨_, rfl, stop c3 rfl⟩
  · have c3 : inSg ks t = false := by
      unfold inSg
      rw [sg0 _ (Bool.eq_false_iff.mpr c), Bool.false_and]
    exact ⟨_, rfl, stop c3 rfl⟩
theorem m_operandT (T : Top w K mg C aKEPT aPAIRS aLOOSE aSIGNS) {B : Rel} (m_lessened : Met P w K mg base k C "lessened" (spLvl C K m B)) :
    Met P w K mg base (k + 1) C "operand" (spSg C K m ksT B) := by
  refine met_by (ps := ["self", "signs"]) T.cl T.d_Reader_operand sc_Reader_operand (fun _ _ _ _ _ _ us hl => match us, hl with | [_, _], _ => rfl) (fun vs H Q E h => ?_) (fun f cdv A outer s H vs Q E hr h => ?_)
  · obtain ⟨_, _, _, _, _, _, _, rfl, _⟩ := h
    rfl
  obtain ⟨p, g, l, n, ts, rs, d, rfl, hg, hn, hR, hB, q⟩ := h
  obtain ⟨hl, hx, t0, r0, rfl, R0⟩ := id hR
  obtain ⟨ot, dx, a, hp, ha⟩ := id R0
  refine ⟨_, (pss_cons (ps_if (pt_cmpR op_in_seq pe_str (pv 1) rfl) pss_never pss_nil) (pss_one (ps_ret (pe_mt0 (pl := _) m_lessened hr (by omega) (pv 0))))), ?_⟩
  refine ⟨_, rfl, g, _, rfl, .inr (SqT.of hg), rfl, flat_strs _, _, rfl, ?_⟩
  have e : inV (.str "+") (ksT.map V.str) = false := by
    rw [in_strs]
    decide +kernel
  show if inV (.str "+") (ksT.map V.str) = true then _ else _
  rw [e]
  refine iteF ?_
  exact ⟨_, rfl, p, dx, _, rfl, hp, no_lessened _ _ _, p, l, n, _, rs, d, rfl, hn, hR, hB, q⟩
theorem m_operandP (T : Top w K mg C aKEPT aPAIRS aLOOSE aSIGNS) {B : Rel} (m_joined : Met P w K mg base k C "joined" (spSg C K m ksT B)) :
    Met P w K mg base (k + 1) C "operand" (spSg C K m ksP B) := by
  refine met_by (ps := ["self", "signs"]) T.cl T.d_Reader_operand sc_Reader_operand (fun _ _ _ _ _ _ us hl => match us, hl with | [_, _], _ => rfl) (fun vs H Q E h => ?_) (fun f cdv A outer s H vs Q E hr h => ?_)
  · obtain ⟨_, _, _, _, _, _, _, rfl, _⟩ := h
    rfl
  obtain ⟨p, g, l, n, ts, rs, d, rfl, hg, hn, hR, hB, q⟩ := h
  obtain ⟨hl, hx, t0, r0, rfl, R0⟩ := id hR
  obtain ⟨ot, dx, a, hp, ha⟩ := id R0
  refine ⟨_, (pss_cons (ps_if (pt_cmpR op_in_seq pe_str (pv 1) rfl) (pss_one (ps_ret (pe_mt (pl := _) m_joined hr (by omega) (pv 0) (pa_cons (pe_tup (pa_cons pe_str (pa_cons pe_str (pa_cons pe_str pa_nil)))) pa_nil)))) pss_nil) pss_never), ?_⟩
  refine ⟨_, rfl, g, _, rfl, .inr (SqT.of hg), rfl, flat_strs _, _, rfl, ?_⟩
  have e : inV (.str "+") (ksP.map V.str) = true := by
    rw [in_strs]
    decide +kernel
  show if inV (.str "+") (ksP.map V.str) = true then _ else _
  rw [e]
  refine iteT ?_
  refine ⟨_, rfl, p, dx, _, rfl, hp, no_joined _ _ _, (by show 3 ≤ sizeLine; decide), fun e he => ?_⟩
  have s1 : Same H (upd H e (.tup (ksT.map V.str))) := same_new he _
  exact ⟨p, e, l, n, _, rs, d, rfl, upd_same, hn, hR.keep s1, hB, fun H' v k' R' D' => q H' v ((Kp.of s1).trans k') R' D'⟩
theorem m_compared (T : Top w K mg C aKEPT aPAIRS aLOOSE aSIGNS) {B : Rel} (m_joined : Met P w K mg base k C "joined" (spSg C K m ksP B)) (hk : 1 ≤ k) :
    Met P w K mg base (k + 1) C "compared" (spLvl C K m (fun ts d rs => B ts d rs ∧ hdNot "==" rs ∧ hdNot "!=" rs ∧ hdNot "<" rs ∧ hdNot "<=" rs)) := by
  have m_sees := (m_sees (P := P) (base := base) T).mono (show 1 ≤ k by omega)
  refine met_by (ps := ["self"]) T.cl T.d_Reader_compared sc_Reader_compared (fun _ _ _ _ _ _ us hl => match us, hl with | [_], _ => rfl) (fun vs H Q E h => ?_) (fun f cdv A outer s H vs Q E hr h => ?_)
  · obtain ⟨_, _, _, _, _, _, rfl, _⟩ := h
    rfl
  obtain ⟨p, l, n, ts, rs, d, rfl, hn, hR, ⟨hB, h1, h2, h3, h4⟩, q⟩ := h
  obtain ⟨hl, hx, t0, r0, rfl, R0⟩ := id hR
  obtain ⟨ot, dx, a, hp, ha⟩ := id R0
  refine ⟨_, (pss_cons (ps_set (i := 1) sc_Reader_compared.nd rfl (Or.inl rfl) (pe_mt (pl := _) m_joined hr (by omega) (pv 0) (pa_cons (pe_tup (pa_cons pe_str (pa_cons pe_str pa_nil))) pa_nil)))
      (pss_cons (ps_for PassesOwn.never rfl (pi_tup (pe_tup (pa_cons pe_str (pa_cons pe_str (pa_cons pe_str (pa_cons pe_str pa_nil)))))) (pg_name (i := 2) sc_Reader_compared.nd rfl (Or.inl rfl)) (pss_one (ps_if (pt_val (pe_mt (pl := _) m_sees hr (by omega) (pv 0) (pa_cons (pv 2) pa_nil))) pss_never pss_nil)))
      (pss_one (ps_ret (pv 1))))), ?_⟩
  refine ⟨_, rfl, p, dx, _, rfl, hp, no_joined _ _ _, (by show 2 ≤ sizeLine; decide), fun e he => ?_⟩
  have s1 : Same H (upd H e (.tup (ksP.map V.str))) := same_new he _
  refine ⟨p, e, l, n, _, rs, d, rfl, upd_same, hn, hR.keep s1, hB, fun H1 v k1 R1 D1 => ?_⟩
  refine ⟨(by show 4 ≤ sizeLine; decide), fun g hg => ⟨g, rfl, ⟨_, SqT.of upd_same⟩, ?_⟩⟩
  have s2 : Same H1 (upd H1 g (.tup [V.str "==", V.str "!=", V.str "<", V.str "<="])) := same_new hg _
  have R2 := R1.keep s2
  obtain ⟨_, hx2, t, r, rfl, R2'⟩ := id R2
  obtain ⟨ot2, dx2, a2, hp2, ha2⟩ := id R2'
  refine for_tup (K := K) (a := g) (xs := [V.str "==", V.str "!=", V.str "<", V.str "<="]) (fun i σ H' => ∃ o, σ = [some (.ref p), some v, o] ∧ H' = upd H1 g (.tup [V.str "==", V.str "!=", V.str "<", V.str "<="])) ⟨none, rfl, rfl⟩ ?_ ?_ ?_
  · rintro i σ H' _ ⟨o, rfl, rfl⟩
    exact SqT.of upd_same
  · rintro i x σ H' hi ⟨o, rfl, rfl⟩
    have hm : ∃ wd, x = .str wd ∧ isW wd t = false := by
      have hmem := List.mem_of_getElem? hi
      obtain rfl | hmem := List.mem_cons.mp hmem
      · exact ⟨_, rfl, h1 _ _ rfl⟩
      obtain rfl | hmem := List.mem_cons.mp hmem
      · exact ⟨_, rfl, h2 _ _ rfl⟩
      obtain rfl | hmem := List.mem_cons.mp hmem
      · exact ⟨_, rfl, h3 _ _ rfl⟩
      obtain rfl | hmem := List.mem_cons.mp hmem
      · exact ⟨_, rfl, h4 _ _ rfl⟩
      cases hmem
    obtain ⟨wd, rfl, hno⟩ := hm
    refine ⟨_, rfl, p, dx2, _, rfl, hp2, no_sees _ _ _, _, rfl, p, l, n, t, wd, rfl, R2', _, rfl, ?_⟩
    rw [hno]
    exact iteF ⟨_, rfl, rfl⟩
  · rintro σ H' ⟨o, rfl, rfl⟩
    exact ⟨_, rfl, q _ v (((Kp.of s1).trans k1).trans (.of s2)) R2 (dp_mono (.of s2) _ _ D1)⟩
end
end Lr

set_option maxRecDepth 100000
set_option maxHeartbeats 4200000
namespace Lr
open PySem PySem.Spec L2 SX
/-! ### no relation speaks of no words -/
theorem nil_leaf : ∀ d rs, ¬ Leaf [] d rs := fun d rs ⟨_, _, _, e, _⟩ => by cases e
theorem nil_level {sg : Tk → Bool} {mk : Tk → Int → PyData → PyData → PyData} {B P : Rel} (h : ∀ d rs, ¬ P [] d rs) : ∀ d rs, ¬ Level sg mk B P [] d rs := fun _ _ ⟨_, _, _, hp, _⟩ => h _ _ hp
theorem nil_less (A : Rel) : ∀ d rs, ¬ Lessened A [] d rs := fun d rs h => nil_level nil_leaf d rs h.2
theorem nil_joinT (A : Rel) : ∀ d rs, ¬ JoinT A [] d rs := nil_level (nil_less A)
theorem nil_joinP (A : Rel) : ∀ d rs, ¬ JoinP A [] d rs := nil_level (nil_joinT A)
theorem nil_turned (A : Rel) : ∀ d rs, ¬ Turned A [] d rs := fun d rs h => nil_joinP A d rs h.2.1
theorem nil_both (A : Rel) : ∀ d rs, ¬ Both A [] d rs := nil_level (nil_turned A)
theorem nil_either (A : Rel) : ∀ d rs, ¬ Either A [] d rs := nil_level (nil_both A)
theorem nil_any : ∀ m d rs, ¬ Any m [] d rs
  | 0, _, _, h => h
  | m + 1, d, rs, h => nil_either (Any m) d rs h.2.2
def spEnded (C : Addr) : Sp := fun vs H Q _ => ∃ (p : Addr) (v : V) (l : List Nat) (n : Int) (t : Tk), vs = [.ref p, v] ∧ Rd C p l n t H ∧ t.kind = "end" ∧ Q v H
def spIsW : Sp := fun vs H Q _ => ∃ (a : Addr) (t : Tk) (wd : Str), vs = [.ref a, .str wd] ∧ H a = some (.tup t.vs) ∧ t.ok ∧ Q (.bl (isW wd t)) H
def spParams (C : Addr) : Sp := fun vs H Q _ => ∃ (p : Addr) (l : List Nat) (n : Int) (t1 t2 t3 t4 : Tk) (r : List Tk) (x : Str), vs = [.ref p] ∧ RdL C p l n (t1 :: t2 :: t3 :: t4 :: r) H ∧ isW "(" t1 = true ∧ t2.kind = "name" ∧ t2.worth = .str x ∧ isW "," t3 = false ∧ isW ")" t3 = true ∧
  ∀ H' a, Kp p H H' → RdL C p l n (t4 :: r) H' → H' a = some (.tup [.str x]) → Q (.ref a) H'
def spArgs : Sp := fun vs H Q _ => ∃ (l : List Nat) (n : Nat) (t3 t4 t5 : Tk), vs = [.str (S l), .int n] ∧ l.length ≤ 1000 ∧ n ≤ l.length ∧ wordAt l n = some t3 ∧ t3.kind = "name" ∧ t3.fin ≤ l.length ∧ wordAt l t3.fin = some t4 ∧ isW ")" t4 = true ∧ t4.fin ≤ l.length ∧ wordAt l t4.fin = some t5 ∧ isW "=" t5 = true ∧
  ∀ H', Same H H' → Q (.bl true) H'
def HeadNo (l : List Nat) : Prop := ∃ t1, wordAt l 0 = some t1 ∧ (t1.kind ≠ "name" ∨ (t1.kind = "name" ∧ ∃ t2, t1.fin ≤ l.length ∧ wordAt l t1.fin = some t2 ∧ isW "=" t2 = false ∧ isW "(" t2 = false))
def HeadMany (l : List Nat) : Prop := ∃ t1 t2 t3 t4 t5, wordAt l 0 = some t1 ∧ t1.kind = "name" ∧ t1.fin ≤ l.length ∧ wordAt l t1.fin = some t2 ∧ isW "=" t2 = false ∧ isW "(" t2 = true ∧ t2.fin ≤ l.length ∧ wordAt l t2.fin = some t3 ∧ t3.kind = "name" ∧ t3.fin ≤ l.length ∧ wordAt l t3.fin = some t4 ∧ isW ")" t4 = true ∧ t4.fin ≤ l.length ∧ wordAt l t4.fin = some t5 ∧ isW "=" t5 = true
def spHead : Sp := fun vs H Q _ => ∃ l : List Nat, vs = [.str (S l)] ∧ l.length ≤ 1000 ∧ ((HeadNo l ∧ ∀ H', Same H H' → Q .non H') ∨ (HeadMany l ∧ ∀ H', Same H H' → Q (.str "many") H'))
def Good (l : List Nat) : Prop := l.length ≤ 400 ∧ (∀ c ∈ l, 32 ≤ c ∧ c ≤ 126) ∧ ∃ c r, l = c :: r ∧ c ≠ 32 ∧ c ≠ 35
def spTold (K : PySem.W.Frag) : Sp := fun vs H Q _ => ∃ l : List Nat, vs = [.str (S l)] ∧ Good l ∧
  ((∃ (t1 te : Tk) (ts : List Tk) (d : PyData), HeadNo l ∧ wordAt l 0 = some t1 ∧ Lexes l (t1 :: ts) ∧ Any 2 (t1 :: ts) d [te] ∧ te.kind = "end" ∧ ∀ H' v, Same H H' → Dp K H' v (.tuple [.str "shows", d]) → Q v H') ∨
   (∃ (t1 t2 t3 t4 t5 t6 te : Tk) (ts : List Tk) (x y : Str) (d : PyData), HeadMany l ∧ wordAt l 0 = some t1 ∧ Lexes l (t1 :: t2 :: t3 :: t4 :: t5 :: t6 :: ts) ∧ t1.worth = .str x ∧ isW "(" t2 = true ∧ t3.kind = "name" ∧ t3.worth = .str y ∧ isW "," t4 = false ∧ isW ")" t4 = true ∧ isW "=" t5 = true ∧
      Any 2 (t6 :: ts) d [te] ∧ te.kind = "end" ∧ ∀ H' v, Same H H' → Dp K H' v (.tuple [.str "gives", .str x, .tuple [.str y], d]) → Q v H'))
theorem lstrip_same {c : Nat} {r : List Nat} (h : c ≠ 32) : Txt.lstripChars (S (c :: r)) " " = S (c :: r) := by
  have hc : (" " : Str).cps.contains c = false := by
    have e : (" " : Str).cps = #[32] := by decide +kernel
    rw [e]
    simp
    exact fun e => h e
  have e1 : stripLo (" " : Str).cps.contains true (S (c :: r)) = 0 := by
    unfold stripLo
    rw [if_pos rfl]
    show ((c :: r).takeWhile (" " : Str).cps.contains).length = 0
    rw [List.takeWhile_cons, if_neg (by rw [hc]; exact Bool.false_ne_true)]
    rfl
  unfold Txt.lstripChars Txt.stripBy stripSame
  rw [e1]
  exact if_pos (by simp [stripHi])
section
variable {P : Program} {w : World} {K : PySem.W.Frag} {mg : Str → Option Value} {base : Heap} {C aKEPT aPAIRS aLOOSE aSIGNS : Addr} {k m : Nat}
theorem m_any (T : Top w K mg C aKEPT aPAIRS aLOOSE aSIGNS) : ∀ m : Nat, Met P w K mg base (6 + 11 * m) C "any_tree" (spLvl C K m (Any m))
  | 0 => by
    obtain ⟨f, fd, F, df, me⟩ := T.d_Reader_any_tree.ex
    have no : ∀ vs H Q E, ¬ spLvl C K 0 (Any 0) vs H Q E := fun vs H Q E ⟨_, _, _, _, _, _, _, _, _, h, _⟩ => h
    exact ⟨f, fd, ["self"], T.cl, me, ⟨fun vs H Q E h => absurd h (no vs H Q E), fun A outer s H args us vs Q E _ _ _ _ h => absurd h (no vs H Q E)⟩,
      F.binds df (fun _ _ _ _ _ _ us hl => match us, hl with | [_], _ => rfl)⟩
  | m + 1 => by
    have ih := m_any T m
    have h1 := m_picked T ih (by omega) (nil_any m)
    have h2 := m_lessened T h1 (by omega)
    have h3 := m_operandT T h2
    have h4 := m_joined T h3 (by omega) (nil_less _)
    have h5 := m_operandP T h4
    have h6 := m_joined T h5 (by omega) (nil_joinT _)
    have h7 := m_compared T h6 (by omega)
    have h8 := m_turned T h7 (by omega)
    have h9 := m_both T h8 (by omega) (nil_turned _)
    have h10 := m_either T h9 (by omega) (nil_both _)
    exact (m_any_tree T h10 (by omega)).mono (by omega)
theorem c_ended (T : Top w K mg C aKEPT aPAIRS aLOOSE aSIGNS) : Cal P w K mg base 1 "ended" (spEnded C) := by
  refine cal_by (ps := ["reader", "tree"]) T.d_ended sc_ended (fun _ _ _ _ _ _ us hl => match us, hl with | [_, _], _ => rfl) (fun vs H Q E h => ?_) (fun f cdv A outer s H vs Q E hr h => ?_)
  · obtain ⟨_, _, _, _, _, rfl, _⟩ := h
    rfl
  obtain ⟨p, v, l, n, t, rfl, ⟨ot, dx, a, hp, ha⟩, hk, q⟩ := h
  refine ⟨_, (pss_cons (ps_if (pt_cmpR op_ne (pe_ix ix_tup (pe_fld (pv 0) rfl) pe_int (fun _ _ => rfl)) pe_str (nomark _)) pss_never pss_nil)
      (pss_one (ps_ret (pv 1)))), ?_⟩
  refine ⟨_, rfl, p, C, dx, _, _, rfl, hp, T.cl, T.nnext, rf_next _ _ _, a, _, _, _, rfl, rfl, SqT.of ha, vs_at0 t, rfl, _, rfl, ?_⟩
  refine iteNS (str_inj.mpr hk) ?_
  exact ⟨_, rfl, q⟩
theorem c_is_word (T : Top w K mg C aKEPT aPAIRS aLOOSE aSIGNS) : Cal P w K mg base 1 "is_word" spIsW := by
  refine cal_by (ps := ["word", "told"]) T.d_is_word sc_is_word (fun _ _ _ _ _ _ us hl => match us, hl with | [_, _], _ => rfl) (fun vs H Q E h => ?_) (fun f cdv A outer s H vs Q E hr h => ?_)
  · obtain ⟨_, _, _, rfl, _⟩ := h
    rfl
  obtain ⟨a, t, wd, rfl, ha, ot, q⟩ := h
  refine ⟨_, (pss_one (ps_ret (pe_and (pe_cmpR op_eq (pe_ix ix_tup (pv 0) pe_int (fun _ _ => rfl)) pe_str (nomark _)) (pe_one (pe_cmpR op_eq (pe_ix ix_tup (pv 0) pe_int (fun _ _ => rfl)) (pv 1) (nomark _)))))), ?_⟩
  refine ⟨_, rfl, a, _, _, _, rfl, rfl, SqT.of ha, vs_at0 t, rfl, _, rfl, ?_⟩
  refine ite2 (fun c => ?_) (fun c => ?_)
  · refine ⟨_, rfl, a, _, _, _, rfl, rfl, SqT.of ha, vs_at2 t, _, rfl, worth_scal ot _, ?_⟩
    have e : isW wd t = decide (t.worth = .str wd) := by
      unfold isW
      rw [decide_eq_true (str_inj.mp (of_decide_eq_true c)), Bool.true_and]
    rw [e] at q
    exact q
  · have e : isW wd t = false := by
      unfold isW
      rw [decide_eq_false (fun z => c (decide_eq_true (str_inj.mpr z))), Bool.false_and]
    rw [e] at q
    exact q
theorem c_params_of (T : Top w K mg C aKEPT aPAIRS aLOOSE aSIGNS) : Cal P w K mg base 6 "params_of" (spParams C) := by
  have m_needs := m_needs (P := P) (base := base) T
  have m_needs_name := m_needs_name (P := P) (base := base) T
  have m_sees := m_sees (P := P) (base := base) T
  refine cal_by (ps := ["reader"]) T.d_params_of sc_params_of (fun _ _ _ _ _ _ us hl => match us, hl with | [_], _ => rfl) (fun vs H Q E h => ?_) (fun f cdv A outer s H vs Q E hr h => ?_)
  · obtain ⟨_, _, _, _, _, _, _, _, _, rfl, _⟩ := h
    rfl
  obtain ⟨p, l, n, t1, t2, t3, t4, r, x, rfl, ⟨hl, ⟨f1, w1, f2, w2, f3, w3, hx⟩, t0, r0, e0, R0⟩, i1, k2, x2, i3, j3, q⟩ := h
  obtain ⟨rfl, rfl⟩ := List.cons.inj e0
  obtain ⟨ot, dx, a, hp, ha⟩ := id R0
  refine ⟨_, (pss_cons (ps_expr (pe_mt (pl := _) m_needs hr (by decide) (pv 0) (pa_cons pe_str pa_nil)))
      (pss_cons (ps_set (i := 1) sc_params_of.nd rfl (Or.inl rfl) (pe_lst (pa_cons (pe_mt0 (pl := _) m_needs_name hr (by decide) (pv 0)) pa_nil)))
      (pss_cons (ps_while PassesOwn.never (PW.pt (pw_and (pt_val (pe_mt (pl := _) m_sees hr (by decide) (pv 0) (pa_cons pe_str pa_nil))) (pw_and1 (pt_cmpR op_lt (pe_callB call_len_seq rfl T.n_len (by decide +kernel) (pa_cons (pv 1) pa_nil)) (C8.pe_gc rfl T.gMOST_ARGS) (nomark _))))) pss_never)
      (pss_cons (ps_expr (pe_mt (pl := _) m_needs hr (by decide) (pv 0) (pa_cons pe_str pa_nil)))
      (pss_one (ps_ret (pe_callTy call_tuple_of rfl T.n_tuple (by decide +kernel) (pa_cons (pv 1) pa_nil)))))))), ?_⟩
  refine ⟨_, rfl, p, dx, _, rfl, hp, no_needs _ _ _, p, l, n, t1, t2, _, rfl, R0, i1, f1, hl, w1, fun H1 kp1 R1 => ?_⟩
  obtain ⟨ot1, dx1, a1, hp1, ha1⟩ := id R1
  refine ⟨_, rfl, p, dx1, _, rfl, hp1, no_needs_name _ _ _, p, l, n, t2, t3, x, rfl, R1, k2, x2, f2, hl, w2, fun H2 kp2 R2 => ?_⟩
  refine ⟨(by show 1 ≤ sizeLine; decide), fun g hg => ?_⟩
  have s2 : Same H2 (upd H2 g (.lst [.str x])) := same_new hg _
  have R2s := R2.keep s2
  obtain ⟨ot2, dx2, a2, hp2, ha2⟩ := id R2s
  refine ⟨fun j σ H' => σ = [some (.ref p), some (.ref g), none] ∧ H' = upd H2 g (.lst [.str x]), ⟨0, rfl, rfl⟩, ?_⟩
  rintro j σ H' ⟨rfl, rfl⟩
  refine ⟨_, rfl, p, dx2, _, rfl, hp2, no_sees _ _ _, p, l, n, t3, _, rfl, R2s, _, rfl, ?_⟩
  rw [i3]
  refine iteF ?_
  refine ⟨_, rfl, p, dx2, _, rfl, hp2, no_needs _ _ _, p, l, n, t3, t4, _, rfl, R2s, j3, f3, hl, w3, fun H3 kp3 R3 => ?_⟩
  have ng : g ≠ p := ne_of upd_same hp2 (by intro z; cases z)
  have hg3 := kp3 g _ ng upd_same
  refine ⟨_, rfl, g, _, rfl, .inl ⟨SqL.of hg3, fun y hy => ?_⟩⟩
  exact q _ y ((((kp1.trans kp2).trans (.of s2)).trans kp3).trans (.new hy _)) ⟨hl, hx, t4, r, rfl, R3.keep (same_new hy _)⟩ upd_same
theorem c_gives_args (T : Top w K mg C aKEPT aPAIRS aLOOSE aSIGNS) : Cal P w K mg base 4 "gives_args" spArgs := by
  have c_word_at := c_word_at (P := P) (base := base) T
  have c_is_word := c_is_word (P := P) (base := base) T
  refine cal_by (ps := ["text", "at"]) T.d_gives_args sc_gives_args (fun _ _ _ _ _ _ us hl => match us, hl with | [_, _], _ => rfl) (fun vs H Q E h => ?_) (fun f cdv A outer s H vs Q E hr h => ?_)
  · obtain ⟨_, _, _, _, _, rfl, _⟩ := h
    rfl
  obtain ⟨l, n, t3, t4, t5, rfl, hl, hn, w3, k3, f3, w4, i4, f4, w5, i5, q⟩ := h
  refine ⟨_, (pss_cons (ps_set (i := 2) sc_gives_args.nd rfl (Or.inl rfl) (pe_c c_word_at hr (by decide) rfl (pa_cons (pv 0) (pa_cons (pv 1) pa_nil))))
      (pss_cons (ps_for PassesOwn.never rfl (pi_range1 rfl T.n_range (pa_cons (C8.pe_gc rfl T.gMOST_ARGS) pa_nil)) (pg_name (i := 3) sc_gives_args.nd rfl (Or.inl rfl)) (pss_cons (ps_if (pt_cmpR op_ne (pe_ix ix_tup (pv 2) pe_int (fun _ _ => rfl)) pe_str (nomark _)) (pss_one (ps_ret pe_bl)) pss_nil)
      (pss_cons (ps_set (i := 2) sc_gives_args.nd rfl (Or.inl rfl) (pe_c c_word_at hr (by decide) rfl (pa_cons (pv 0) (pa_cons (pe_ix ix_tup (pv 2) pe_int (fun _ _ => rfl)) pa_nil))))
      (pss_cons (ps_if (pt_val (pe_c c_is_word hr (by decide) rfl (pa_cons (pv 2) (pa_cons pe_str pa_nil)))) (pss_one (ps_ret (pe_c c_is_word hr (by decide) rfl (pa_cons (pe_c c_word_at hr (by decide) rfl (pa_cons (pv 0) (pa_cons (pe_ix ix_tup (pv 2) pe_int (fun _ _ => rfl)) pa_nil))) (pa_cons pe_str pa_nil))))) pss_nil)
      pss_never))))
      (pss_one (ps_ret pe_bl)))), ?_⟩
  refine ⟨_, rfl, _, rfl, l, n, t3, rfl, hn, hl, w3, fun H1 a1 s1 h1 => ?_⟩
  refine ⟨4, rfl, by decide, by decide, for_range (n := 4) (fun i σ H' => i = 0 ∧ σ = [some (.str (S l)), some (.int n), some (.ref a1), none] ∧ H' = H1) ⟨rfl, rfl, rfl⟩ ?_ ?_⟩
  · rintro i σ H' _ ⟨rfl, rfl, rfl⟩
    refine ⟨_, rfl, a1, _, _, _, rfl, rfl, SqT.of h1, vs_at0 t3, rfl, _, rfl, ?_⟩
    refine iteNS (str_inj.mpr k3) ?_
    refine ⟨_, rfl, _, rfl, a1, _, _, _, rfl, rfl, SqT.of h1, vs_at3 t3, l, t3.fin, t4, rfl, f3, hl, w4, fun H2 a2 s2 h2 => ?_⟩
    refine ⟨_, rfl, a2, t4, _, rfl, h2, word_ok w4, _, rfl, ?_⟩
    rw [i4]
    refine iteT ?_
    refine ⟨_, rfl, _, rfl, a2, _, _, _, rfl, rfl, SqT.of h2, vs_at3 t4, l, t4.fin, t5, rfl, f4, hl, w5, fun H3 a3 s3 h3 => ?_⟩
    refine ⟨a3, t5, _, rfl, h3, word_ok w5, ?_⟩
    rw [i5]
    exact q _ ((s1.trans s2).trans s3)
  · rintro σ H' ⟨h4, _⟩
    cases h4
theorem c_head_of (T : Top w K mg C aKEPT aPAIRS aLOOSE aSIGNS) : Cal P w K mg base 5 "head_of" spHead := by
  have c_word_at := c_word_at (P := P) (base := base) T
  have c_is_word := c_is_word (P := P) (base := base) T
  have c_gives_args := c_gives_args (P := P) (base := base) T
  refine cal_by (ps := ["text"]) T.d_head_of sc_head_of (fun _ _ _ _ _ _ us hl => match us, hl with | [_], _ => rfl) (fun vs H Q E h => ?_) (fun f cdv A outer s H vs Q E hr h => ?_)
  · obtain ⟨_, rfl, _⟩ := h
    rfl
  obtain ⟨l, rfl, hl, q⟩ := h
  refine ⟨_, (pss_cons (ps_set (i := 1) sc_head_of.nd rfl (Or.inl rfl) (pe_c c_word_at hr (by decide) rfl (pa_cons (pv 0) (pa_cons pe_int pa_nil))))
      (pss_cons (ps_if (pt_cmpR op_ne (pe_ix ix_tup (pv 1) pe_int (fun _ _ => rfl)) pe_str (nomark _)) (pss_one (ps_ret pe_non)) pss_nil)
      (pss_cons (ps_set (i := 2) sc_head_of.nd rfl (Or.inl rfl) (pe_c c_word_at hr (by decide) rfl (pa_cons (pv 0) (pa_cons (pe_ix ix_tup (pv 1) pe_int (fun _ _ => rfl)) pa_nil))))
      (pss_cons (ps_if (pt_val (pe_c c_is_word hr (by decide) rfl (pa_cons (pv 2) (pa_cons pe_str pa_nil)))) (pss_one (ps_ret pe_str)) pss_nil)
      (pss_one (ps_ret (pe_ifExp (PW.pt (pw_and (pt_val (pe_c c_is_word hr (by decide) rfl (pa_cons (pv 2) (pa_cons pe_str pa_nil)))) (pw_and1 (pt_val (pe_c c_gives_args hr (by decide) rfl (pa_cons (pv 0) (pa_cons (pe_ix ix_tup (pv 2) pe_int (fun _ _ => rfl)) pa_nil))))))) pe_str pe_non))))))), ?_⟩
  rcases q with ⟨⟨t1, w1, h1⟩, q⟩ | ⟨⟨t1, t2, t3, t4, t5, w1, k1, f1, w2, i2, j2, f2, w3, k3, f3, w4, i4, f4, w5, i5⟩, q⟩
  · refine ⟨_, rfl, l, 0, t1, rfl, Nat.zero_le _, hl, w1, fun H1 a1 s1 ha1 => ?_⟩
    refine ⟨_, rfl, a1, _, _, _, rfl, rfl, SqT.of ha1, vs_at0 t1, rfl, _, rfl, ?_⟩
    rcases h1 with h1 | ⟨k1, t2, f1, w2, i2, j2⟩
    · have e : (!decide (V.str t1.kind = V.str "name")) = true := by
        rw [decide_eq_false (fun z => h1 (str_inj.mp z))]
        rfl
      rw [e]
      exact iteT (q _ s1)
    · refine iteNS (str_inj.mpr k1) ?_
      refine ⟨_, rfl, _, rfl, a1, _, _, _, rfl, rfl, SqT.of ha1, vs_at3 t1, l, t1.fin, t2, rfl, f1, hl, w2, fun H2 a2 s2 ha2 => ?_⟩
      refine ⟨_, rfl, a2, t2, _, rfl, ha2, word_ok w2, _, rfl, ?_⟩
      rw [i2]
      refine iteF ?_
      refine ⟨_, rfl, a2, t2, _, rfl, ha2, word_ok w2, _, rfl, ?_⟩
      rw [j2]
      exact iteF (iteF (q _ (s1.trans s2)))
  · refine ⟨_, rfl, l, 0, t1, rfl, Nat.zero_le _, hl, w1, fun H1 a1 s1 ha1 => ?_⟩
    refine ⟨_, rfl, a1, _, _, _, rfl, rfl, SqT.of ha1, vs_at0 t1, rfl, _, rfl, ?_⟩
    refine iteNS (str_inj.mpr k1) ?_
    refine ⟨_, rfl, _, rfl, a1, _, _, _, rfl, rfl, SqT.of ha1, vs_at3 t1, l, t1.fin, t2, rfl, f1, hl, w2, fun H2 a2 s2 ha2 => ?_⟩
    refine ⟨_, rfl, a2, t2, _, rfl, ha2, word_ok w2, _, rfl, ?_⟩
    rw [i2]
    refine iteF ?_
    refine ⟨_, rfl, a2, t2, _, rfl, ha2, word_ok w2, _, rfl, ?_⟩
    rw [j2]
    refine iteT ?_
    refine ⟨_, rfl, _, rfl, a2, _, _, _, rfl, rfl, SqT.of ha2, vs_at3 t2, l, t2.fin, t3, t4, t5, rfl, hl, f2, w3, k3, f3, w4, i4, f4, w5, i5, fun H3 s3 => ?_⟩
    exact ⟨_, rfl, iteT (q _ ((s1.trans s2).trans s3))⟩
theorem same_of_kp {p : Addr} {H H' : Hp} (h : H p = none) (k : Kp p H H') : Same H H' := fun b o e => k b o (ne_of_none e h) e
theorem c_told_as (T : Top w K mg C aKEPT aPAIRS aLOOSE aSIGNS) : Cal P w K mg base 29 "told_as" (spTold K) := by
  have c_is_text := (c_is_text (P := P) (base := base) T)
  have c_head_of := (c_head_of (P := P) (base := base) T)
  have k_Reader := (k_Reader (P := P) (base := base) T)
  have m_any_tree := (m_any (P := P) (base := base) T 2)
  have c_ended := (c_ended (P := P) (base := base) T)
  have c_params_of := (c_params_of (P := P) (base := base) T)
  have m_go := (m_go (P := P) (base := base) T)
  have m_needs := (m_needs (P := P) (base := base) T)
  refine cal_by (ps := ["text"]) T.d_told_as sc_told_as (fun _ _ _ _ _ _ us hl => match us, hl with | [_], _ => rfl) (fun vs H Q E h => ?_) (fun f cdv A outer s H vs Q E hr h => ?_)
  · obtain ⟨_, rfl, _⟩ := h
    rfl
  obtain ⟨l, rfl, ⟨hl4, hgood, c0, r0, el, h32, h35⟩, q⟩ := h
  have hl : l.length ≤ 1000 := by omega
  have le : (S l).length ≤ sizeLine := by
    rw [S_len]
    exact sl (by omega)
  refine ⟨_, (pss_cons (ps_if (pt_not (pt_val (pe_c c_is_text hr (by decide) rfl (pa_cons (pv 0) pa_nil)))) pss_never pss_nil)
      (pss_cons (ps_if (pt_cmpR op_gt (pe_callB call_len_str rfl T.n_len (by decide +kernel) (pa_cons (pv 0) pa_nil)) (C8.pe_gc rfl T.gMOST_SIGNS) (nomark _)) pss_never pss_nil)
      (pss_cons (ps_set (i := 1) sc_told_as.nd rfl (Or.inl rfl) (pe_bm PySem.F.plainAttrs_str PySem.F.slot_str_lstrip PySem.F.type_str_lstrip mt_lstripChars (pv 0) (pa_cons pe_str pa_nil)))
      (pss_cons (ps_if (pt_cmpR op_eq (pv 1) pe_str (nomark _)) pss_never pss_nil)
      (pss_cons (ps_if (pt_cmpR op_eq (pe_ix ix_str (pv 1) pe_int (fun _ _ => rfl)) pe_str (nomark _)) pss_never pss_nil)
      (pss_cons (ps_set (i := 2) sc_told_as.nd rfl (Or.inl rfl) (pe_c c_head_of hr (by decide) rfl (pa_cons (pv 0) pa_nil)))
      (pss_cons (ps_set (i := 3) sc_told_as.nd rfl (Or.inl rfl) (pe_mk k_Reader hr (by decide) rfl (pa_cons (pv 0) (pa_cons pe_int pa_nil))))
      (pss_cons (ps_if (pt_cmpR op_isN (pv 2) pe_non (nomark _)) (pss_one (ps_ret (pe_tup (pa_cons pe_str (pa_cons (pe_c c_ended hr (by decide) rfl (pa_cons (pv 3) (pa_cons (pe_mt0 (pl := _) m_any_tree hr (by decide) (pv 3)) pa_nil))) pa_nil))))) pss_nil)
      (pss_cons (ps_set (i := 4) sc_told_as.nd rfl (Or.inl rfl) (pe_ix ix_tup (pe_mt0 (pl := _) m_go hr (by decide) (pv 3)) pe_int (fun _ _ => rfl)))
      (pss_cons (ps_set (i := 5) sc_told_as.nd rfl (Or.inl rfl) (pe_ifExp (pt_cmpR op_eq (pv 2) pe_str (nomark _)) (pe_c c_params_of hr (by decide) rfl (pa_cons (pv 3) pa_nil)) (pe_tup pa_nil)))
      (pss_cons (ps_expr (pe_mt (pl := _) m_needs hr (by decide) (pv 3) (pa_cons pe_str pa_nil)))
      (pss_one (ps_ret (pe_tup (pa_cons pe_str (pa_cons (pv 4) (pa_cons (pv 5) (pa_cons (pe_c c_ended hr (by decide) rfl (pa_cons (pv 3) (pa_cons (pe_mt0 (pl := _) m_any_tree hr (by decide) (pv 3)) pa_nil))) pa_nil)))))))))))))))))), ?_⟩
  refine ⟨_, rfl, l, rfl, hgood, hl, fun H1 s1 => ⟨_, rfl, iteF ?_⟩⟩
  refine ⟨_, rfl, _, rfl, le, _, _, rfl, rfl, _, rfl, ?_⟩
  refine ite2 (fun c => absurd (of_decide_eq_true c) (by rw [S_len]; omega)) (fun _ => ?_)
  refine ⟨_, rfl, rfl, _, _, rfl, rfl, le, ?_⟩
  have ebare : Txt.lstripChars (S l) " " = S l := by
    rw [el]
    exact lstrip_same h32
  rw [ebare]
  refine ⟨_, rfl, rfl, _, rfl, ?_⟩
  refine ite2 (fun c => ?_) (fun _ => ?_)
  · have e1 : S l = ("" : Str) := V.str.inj (of_decide_eq_true c)
    rw [lit_empty, el] at e1
    cases S_inj e1
  refine ⟨_, rfl, _, _, c0, rfl, rfl, le, ?_, rfl, _, rfl, ?_⟩
  · exact at_nat (n := 0) (by rw [el]; rfl)
  refine ite2 (fun c => ?_) (fun _ => ?_)
  · have e1 : (⟨#[c0]⟩ : Str) = ("#" : Str) := V.str.inj (of_decide_eq_true c)
    have e2 : ("#" : Str) = S [35] := by decide +kernel
    rw [e2] at e1
    have e3 : S [c0] = S [35] := e1
    exact absurd (List.cons.inj (S_inj e3)).1 h35
  have kp0 : ∀ (H2 : Hp) (x dx : Addr), H2 x = none → H2 dx = none → Kp x H2 (upd (upd H2 dx (.own x)) x (.ins C dx [])) := fun H2 x dx nx ndx => (Kp.new ndx _).trans (Kp.put x _ _)
  rcases q with ⟨t1, te, ts, d, hno, w1, hx, hA, hte, q⟩ | ⟨t1, t2, t3, t4, t5, t6, te, ts, x, y, d, hmany, w1, hx, hx1, i2, k3, hy3, i4, j4, i5, hA, hte, q⟩
  · refine ⟨_, rfl, l, rfl, hl, .inl ⟨hno, fun H2 s2 => ?_⟩⟩
    refine ⟨_, rfl, ?_⟩
    intro x dx nx ndx nex
    refine ⟨x, dx, l, 0, t1, rfl, upd_same, Nat.zero_le _, hl, w1, fun H3 k3 R3 => ⟨rfl, ?_⟩⟩
    refine ⟨_, rfl, rfl, _, rfl, iteT ?_⟩
    obtain ⟨ot3, dx3, a3, hp3, ha3⟩ := id R3
    refine ⟨_, rfl, _, rfl, x, dx3, _, rfl, hp3, no_any_tree _ _ _, x, l, 0, _, _, d, rfl, by decide, ⟨hl, hx, t1, ts, rfl, R3⟩, hA, fun H4 v4 k4 R4 D4 => ?_⟩
    obtain ⟨_, _, te', re', ee, R4'⟩ := R4
    obtain ⟨rfl, rfl⟩ := List.cons.inj ee
    refine ⟨x, v4, l, _, te, rfl, R4', hte, (by show 2 ≤ sizeLine; decide), fun g hg => ?_⟩
    have s4 : Same H4 (upd H4 g (.tup [.str "shows", v4])) := same_new hg _
    refine q _ _ ((s1.trans s2).trans (same_of_kp nx ((((kp0 H2 x dx nx ndx).trans k3).trans k4).trans (.of s4)))) (.tup (SqT.of upd_same) (.cons (.str _) (.cons (dp_mono (.of s4) _ _ D4) .nil)))
  · refine ⟨_, rfl, l, rfl, hl, .inr ⟨hmany, fun H2 s2 => ?_⟩⟩
    refine ⟨_, rfl, ?_⟩
    intro z dx nx ndx nex
    refine ⟨z, dx, l, 0, t1, rfl, upd_same, Nat.zero_le _, hl, w1, fun H3 kp3 R3 => ⟨rfl, ?_⟩⟩
    refine ⟨_, rfl, rfl, _, rfl, iteF ?_⟩
    obtain ⟨ot3, dx3, a3, hp3, ha3⟩ := id R3
    obtain ⟨f1, w2, hx2⟩ := hx
    refine ⟨_, rfl, z, dx3, _, rfl, hp3, no_go _ _ _, z, l, 0, t1, t2, rfl, R3, f1, hl, w2, fun H4 b k4 R4 h4 => ?_⟩
    refine ⟨b, _, _, _, rfl, rfl, SqT.of h4, vs_at2 t1, ?_⟩
    rw [hx1]
    obtain ⟨ot4, dx4, a4, hp4, ha4⟩ := id R4
    refine ⟨_, rfl, rfl, _, rfl, iteT ?_⟩
    refine ⟨_, rfl, z, l, 0, t2, t3, t4, t5, (t6 :: ts), y, rfl, ⟨hl, hx2, t2, _, rfl, R4⟩, i2, k3, hy3, i4, j4, fun H5 a5 k5 R5 h5 => ?_⟩
    obtain ⟨_, ⟨f5, w6, hx6⟩, t5', r5', e5, R5'⟩ := R5
    obtain ⟨rfl, rfl⟩ := List.cons.inj e5
    obtain ⟨ot5, dx5, a6, hp5, ha5⟩ := id R5'
    refine ⟨_, rfl, z, dx5, _, rfl, hp5, no_needs _ _ _, z, l, 0, t5, t6, _, rfl, R5', i5, f5, hl, w6, fun H6 k6 R6 => ?_⟩
    obtain ⟨ot6, dx6, a7, hp6, ha6⟩ := id R6
    refine ⟨_, rfl, _, rfl, _, rfl, _, rfl, z, dx6, _, rfl, hp6, no_any_tree _ _ _, z, l, 0, _, _, d, rfl, by decide, ⟨hl, hx6, t6, ts, rfl, R6⟩, hA, fun H7 v7 k7 R7 D7 => ?_⟩
    obtain ⟨_, _, te', re', ee, R7'⟩ := R7
    obtain ⟨rfl, rfl⟩ := List.cons.inj ee
    refine ⟨z, v7, l, _, te, rfl, R7', hte, (by show 4 ≤ sizeLine; decide), fun g hg => ?_⟩
    have s7 : Same H7 (upd H7 g (.tup [.str "gives", .str x, .ref a5, v7])) := same_new hg _
    have n5 : a5 ≠ z := ne_of h5 hp5 (by intro z; cases z)
    have h6 := k6 _ _ n5 h5
    have h7 := k7 _ _ n5 h6
    refine q _ _ ((s1.trans s2).trans (same_of_kp nx (((((((kp0 H2 z dx nx ndx).trans kp3).trans k4).trans k5).trans k6).trans k7).trans (.of s7)))) (.tup (SqT.of upd_same) (.cons (.str _) (.cons (.str _) (.cons (.tup (SqT.of (s7 _ _ h7)) (.cons (.str _) .nil)) (.cons (dp_mono (.of s7) _ _ D7) .nil)))))
end
end Lr

set_option maxRecDepth 100000
set_option maxHeartbeats 4200000
namespace Lr
open PySem PySem.Spec L2 SX
/-! ### rows of operands and their trees -/
inductive Opd where
  | a | b | seven | quote
  deriving DecidableEq
inductive Sg where
  | plus | minus | times | floor | rest | or | and | pick
  deriving DecidableEq
def Opd.codes : Opd → List Nat
  | .a => [97] | .b => [98] | .seven => [55] | .quote => [39, 39]
def Opd.text : Opd → Str
  | .a => "a" | .b => "b" | .seven => "7" | .quote => "''"
def Opd.kind : Opd → Str
  | .a => "name" | .b => "name" | .seven => "number" | .quote => "words"
def Opd.worth : Opd → V
  | .a => .str "a" | .b => .str "b" | .seven => .int 7 | .quote => .str ""
def Sg.codes : Sg → List Nat
  | .plus => [43] | .minus => [45] | .times => [42] | .floor => [47, 47] | .rest => [114, 101, 115, 116] | .or => [111, 114] | .and => [97, 110, 100] | .pick => [91]
def Sg.text : Sg → Str
  | .plus => "+" | .minus => "-" | .times => "*" | .floor => "//" | .rest => "rest" | .or => "or" | .and => "and" | .pick => "["
def Sg.kind : Sg → Str
  | .or => "or" | .and => "and" | .pick => "pick" | _ => "sign"
def Sg.mid : Sg → List V
  | .or => [] | .and => [] | .pick => [] | s => [.str s.text]
def Sg.lev : Sg → Int
  | .plus => 5 | .minus => 5 | .times => 6 | .floor => 6 | .rest => 6 | .or => 1 | .and => 2 | .pick => 8
theorem opd_text (o : Opd) : o.text = S o.codes := by cases o <;> decide +kernel
theorem sg_text (s : Sg) : s.text = S s.codes := by cases s <;> decide +kernel
inductive Tr where
  | one (o : Opd) (p : Nat)
  | more (t : Tr) (s : Sg) (o : Opd) (p : Nat)
def Tr.pos : Tr → Nat
  | .one _ p => p
  | .more t _ _ _ => t.pos
def Tr.size : Tr → Nat
  | .one _ _ => 1
  | .more t _ _ _ => t.size + 1
def leafL (o : Opd) (p : Nat) : List V := [.str o.kind, .int p, o.worth]
def nodeL (s : Sg) (a : Nat) (v1 v2 : V) : List V := .str s.kind :: .int a :: (s.mid ++ [v1, v2])
def LeafAt (K : PySem.W.Frag) (H : Hp) (v : V) (o : Opd) (p : Nat) : Prop := ∃ q, v = .ref q ∧ SqT K H q (leafL o p)
def TrAt (K : PySem.W.Frag) (H : Hp) (v : V) : Tr → Prop
  | .one o p => LeafAt K H v o p
  | .more t s o p => ∃ q v1 v2, v = .ref q ∧ SqT K H q (nodeL s t.pos v1 v2) ∧ TrAt K H v1 t ∧ LeafAt K H v2 o p
/-- what tuples are stays -/
structure KeepT (H H' : Hp) : Prop where
  tup : ∀ b xs, H b = some (.tup xs) → H' b = some (.tup xs)
  frz : ∀ b o u, H b = some (.frz o u) → H' b = some (.frz o u)
theorem KeepT.of {H H' : Hp} (s : Same H H') : KeepT H H' := ⟨fun _ _ h => s _ _ h, fun _ _ _ h => s _ _ h⟩
theorem KeepT.refl (H : Hp) : KeepT H H := .of (Same.refl H)
theorem KeepT.trans {H H1 H2 : Hp} (a : KeepT H H1) (b : KeepT H1 H2) : KeepT H H2 := ⟨fun c x h => b.tup c x (a.tup c x h), fun c x y h => b.frz c x y (a.frz c x y h)⟩
theorem KeepT.new {H : Hp} {p : Addr} (h : H p = none) (o : HO) : KeepT H (upd H p o) := .of (same_new h o)
/-- a list is stored anew -/
theorem KeepT.put {H : Hp} {p : Addr} {xs : List V} (h : H p = some (.lst xs)) (o : HO) : KeepT H (upd H p o) :=
  ⟨fun b ys e => by rw [upd_ne (ne_of e h (by intro z; cases z))]; exact e, fun b x y e => by rw [upd_ne (ne_of e h (by intro z; cases z))]; exact e⟩
theorem KeepT.sqt {K : PySem.W.Frag} {H H' : Hp} {a : Addr} {xs : List V} (k : KeepT H H') (h : SqT K H a xs) : SqT K H' a xs := by
  obtain (h | ⟨o, h⟩) | h := h
  · exact .inl (.inl (k.tup _ _ h))
  · exact .inl (.inr ⟨o, k.frz _ _ _ h⟩)
  · exact .inr h
theorem LeafAt.keep {K : PySem.W.Frag} {H H' : Hp} {v : V} {o : Opd} {p : Nat} (h : LeafAt K H v o p) (k : KeepT H H') : LeafAt K H' v o p := by
  obtain ⟨q, e, hs⟩ := h
  exact ⟨q, e, k.sqt hs⟩
theorem TrAt.keep {K : PySem.W.Frag} {H H' : Hp} (k : KeepT H H') : ∀ {t : Tr} {v : V}, TrAt K H v t → TrAt K H' v t
  | .one _ _, _, h => LeafAt.keep h k
  | .more t s o p, v, ⟨q, v1, v2, e, hs, h1, h2⟩ => ⟨q, v1, v2, e, k.sqt hs, TrAt.keep k h1, h2.keep k⟩
theorem TrAt.ref {K : PySem.W.Frag} {H : Hp} : ∀ {t : Tr} {v : V}, TrAt K H v t → ∃ q xs, v = .ref q ∧ SqT K H q xs
  | .one _ _, _, ⟨q, e, hs⟩ => ⟨q, _, e, hs⟩
  | .more _ _ _ _, _, ⟨q, _, _, e, hs, _, _⟩ => ⟨q, _, e, hs⟩
theorem tyx_tup {K : PySem.W.Frag} {H : Hp} {q : Addr} {xs : List V} (h : SqT K H q xs) : TyX K H (.ref q) (.type "tuple") := by
  rcases h with (h | ⟨o, h⟩) | ⟨o, its, n, h, hc, _⟩
  · exact .base (.tup h)
  · exact .fTuple h
  · exact .kTuple h hc
theorem neS {a b : Str} (h : a ≠ b) : decide (V.str a = V.str b) = false := decide_eq_false fun e => h (V.str.inj e)
theorem eqS {a b : Str} (h : a = b) : decide (V.str a = V.str b) = true := decide_eq_true (by rw [h])
/-- pairs (None, one) of the ones -/
def PairsAt (H : Hp) : List V → List V → Prop
  | [], [] => True
  | y :: ys, v :: vs => (∃ q, y = .ref q ∧ H q = some (.tup [.non, v])) ∧ PairsAt H ys vs
  | _, _ => False
theorem PairsAt.keep {H H' : Hp} (k : KeepT H H') : ∀ {ys vs : List V}, PairsAt H ys vs → PairsAt H' ys vs
  | [], [], _ => trivial
  | y :: ys, v :: vs, ⟨⟨q, e, h⟩, r⟩ => ⟨⟨q, e, k.tup _ _ h⟩, PairsAt.keep k r⟩
  | [], _ :: _, h => h.elim
  | _ :: _, [], h => h.elim
theorem PairsAt.snoc {H : Hp} {q : Addr} {v : V} (h : H q = some (.tup [.non, v])) : ∀ {ys vs : List V}, PairsAt H ys vs → PairsAt H (ys ++ [.ref q]) (vs ++ [v])
  | [], [], _ => ⟨⟨q, rfl, h⟩, trivial⟩
  | y :: ys, w :: vs, ⟨e, r⟩ => ⟨e, PairsAt.snoc h r⟩
  | [], _ :: _, h => h.elim
  | _ :: _, [], h => h.elim
theorem PairsAt.len {H : Hp} : ∀ {ys vs : List V}, PairsAt H ys vs → ys.length = vs.length
  | [], [], _ => rfl
  | y :: ys, w :: vs, ⟨_, r⟩ => congrArg Nat.succ (PairsAt.len r)
  | [], _ :: _, h => h.elim
  | _ :: _, [], h => h.elim
theorem PairsAt.two {H : Hp} {ys : List V} {v1 v2 : V} (h : PairsAt H ys [v1, v2]) : ∃ q1 q2, ys = [.ref q1, .ref q2] ∧ H q1 = some (.tup [.non, v1]) ∧ H q2 = some (.tup [.non, v2]) := by
  match ys, h with
  | [y1, y2], ⟨⟨q1, e1, h1⟩, ⟨q2, e2, h2⟩, _⟩ => exact ⟨q1, q2, by rw [e1, e2], h1, h2⟩
def isRef : V → Bool
  | .ref _ => true
  | _ => false
def kids (v : V) : Tr → V → V → List V
  | .one _ _, _, _ => []
  | .more _ _ _ _, v1, v2 => [v1, v2]
def spInner (K : PySem.W.Frag) : Sp := fun vs H Q _ => ∃ (v : V) (t : Tr), vs = [v] ∧ TrAt K H v t ∧
  ((∃ o p, t = .one o p ∧ ∀ H' a, Same H H' → H a = none → H' a = some (.lst []) → Q (.ref a) H') ∨
   (∃ t' s o p q v1 v2, t = .more t' s o p ∧ v = .ref q ∧ SqT K H q (nodeL s t'.pos v1 v2) ∧ TrAt K H v1 t' ∧ LeafAt K H v2 o p ∧
      ∀ H' a ys, Same H H' → H a = none → H' a = some (.lst ys) → PairsAt H' ys [v1, v2] → Q (.ref a) H'))
theorem node_at0 (s : Sg) (a : Nat) (v1 v2 : V) : atI (nodeL s a v1 v2) 0 = some (.str s.kind) := by cases s <;> rfl
theorem node_cut (s : Sg) (a : Nat) (v1 v2 : V) : cutV (nodeL s a v1 v2) (some 2) none = s.mid ++ [v1, v2] := by cases s <;> rfl
theorem node_part (s : Sg) (a : Nat) (v1 v2 : V) : ¬ (HT.sIx (nodeL s a v1 v2).length 0 (some 2) = 0 ∧ HT.sIx (nodeL s a v1 v2).length (nodeL s a v1 v2).length none = (nodeL s a v1 v2).length) := by
  rintro ⟨h, _⟩
  have e : HT.sIx (nodeL s a v1 v2).length 0 (some 2) = 2 := by cases s <;> rfl
  rw [e] at h
  cases h
theorem mid_str (s : Sg) : s.mid = [] ∨ s.mid = [.str s.text] := by cases s <;> first | exact .inl rfl | exact .inr rfl
theorem leaf_part (o : Opd) (p : Nat) : ¬ (HT.sIx (leafL o p).length 0 (some 2) = 0 ∧ HT.sIx (leafL o p).length (leafL o p).length none = (leafL o p).length) := by
  rintro ⟨h, _⟩
  cases h
section
variable {P : Program} {w : World} {K : PySem.W.Frag} {mg : Str → Option Value} {base : Heap} {C aKEPT aPAIRS aLOOSE aSIGNS : Addr} {k m : Nat}
theorem c_inner (T : Top w K mg C aKEPT aPAIRS aLOOSE aSIGNS) : Cal P w K mg base 1 "inner" (spInner K) := by
  refine cal_by (ps := ["tree"]) T.d_inner sc_inner (fun _ _ _ _ _ _ us hl => match us, hl with | [_], _ => rfl) (fun vs H Q E h => ?_) (fun f cdv A outer s H vs Q E hr h => ?_)
  · obtain ⟨_, _, rfl, _⟩ := h
    rfl
  obtain ⟨v, t, rfl, hT, q⟩ := h
  refine ⟨_, (pss_cons (ps_set (i := 1) sc_inner.nd rfl (Or.inl rfl) (pe_ix ix_tup (pv 0) pe_int (fun _ _ => rfl)))
      (pss_cons (ps_if (pt_cmpR op_eq (pv 1) pe_str (nomark _)) pss_never pss_nil)
      (pss_cons (ps_if (pt_cmpR op_eq (pv 1) pe_str (nomark _)) pss_never pss_nil)
      (pss_cons (ps_if (pt_cmpR op_eq (pv 1) pe_str (nomark _)) pss_never pss_nil)
      (pss_cons (ps_if (pt_cmpR op_eq (pv 1) pe_str (nomark _)) pss_never pss_nil)
      (pss_cons (ps_if (pt_cmpR (opI (K := K)) (pv 1) (pe_tup (pa_cons pe_str (pa_cons pe_str (pa_cons pe_str (pa_cons pe_str pa_nil))))) rfl) (pss_one (ps_ret (pe_lst pa_nil))) pss_nil)
      (pss_one (ps_ret (pe_lc (own := [("one", 8)]) (g := gName 8) (tt := _) rfl sc_inner.nd (pi_tup (pe_slice sl_tup (pv 0) (po_some pe_int) po_none)) (blkOk_by (own := [("one", 8)]) (N := n_inner) (sc := C8.fnScope s_inner) (by decide +kernel)) (fun _ _ _ _ _ => (pg_name (i := 8) sc_inner.nd rfl (Or.inl rfl))) (fun _ _ _ _ _ => (pts_one (pt_val (pe_callB (id := "isinstance") (callIsi (K := K)) rfl T.n_isinstance (by decide +kernel) (pa_cons (pv 8) (pa_cons (pe_bltn (v := .ty "tuple") rfl T.n_tuple (by decide +kernel) rfl) pa_nil)))))) (fun _ _ _ _ _ => (pe_tup (pa_cons pe_non (pa_cons (pv 8) pa_nil))))))))))))), ?_⟩
  rcases q with ⟨o, p, rfl, q⟩ | ⟨t', sg, o, p, qa, v1, v2, rfl, rfl, hs, h1, h2, q⟩
  · obtain ⟨qa, rfl, hs⟩ := hT
    have hk : o.kind ≠ "each" ∧ o.kind ≠ "let" ∧ o.kind ≠ "call" ∧ o.kind ≠ "list" ∧ o.kind ∈ (["number", "truth", "words", "name"] : List Str) := by cases o <;> decide +kernel
    refine ⟨_, rfl, qa, _, _, _, rfl, rfl, hs, (show atI (leafL o p) 0 = some (.str o.kind) from rfl), ?_⟩
    refine ⟨_, rfl, rfl, _, rfl, ?_⟩
    rw [neS hk.1]
    refine iteF ⟨_, rfl, rfl, _, rfl, ?_⟩
    rw [neS hk.2.1]
    refine iteF ⟨_, rfl, rfl, _, rfl, ?_⟩
    rw [neS hk.2.2.1]
    refine iteF ⟨_, rfl, rfl, _, rfl, ?_⟩
    rw [neS hk.2.2.2.1]
    refine iteF ⟨_, rfl, (by show 4 ≤ sizeLine; decide), fun g hg => ⟨g, _, rfl, .inr (SqT.of upd_same), rfl, rfl, _, rfl, ?_⟩⟩
    have ein : inV (.str o.kind) [V.str "number", V.str "truth", V.str "words", V.str "name"] = true := (in_strs o.kind ["number", "truth", "words", "name"]).trans (decide_eq_true hk.2.2.2.2)
    show if inV (.str o.kind) [V.str "number", V.str "truth", V.str "words", V.str "name"] = true then _ else _
    rw [ein]
    refine iteT ⟨(by show 0 ≤ sizeLine; decide), fun a ha => ?_⟩
    exact q _ a ((same_new hg _).trans (same_new ha _)) ((same_new hg _).free ha) upd_same
  · have hk : sg.kind ≠ "each" ∧ sg.kind ≠ "let" ∧ sg.kind ≠ "call" ∧ sg.kind ≠ "list" ∧ sg.kind ∉ (["number", "truth", "words", "name"] : List Str) := by cases sg <;> decide +kernel
    refine ⟨_, rfl, qa, _, _, _, rfl, rfl, hs, node_at0 _ _ _ _, ?_⟩
    refine ⟨_, rfl, rfl, _, rfl, ?_⟩
    rw [neS hk.1]
    refine iteF ⟨_, rfl, rfl, _, rfl, ?_⟩
    rw [neS hk.2.1]
    refine iteF ⟨_, rfl, rfl, _, rfl, ?_⟩
    rw [neS hk.2.2.1]
    refine iteF ⟨_, rfl, rfl, _, rfl, ?_⟩
    rw [neS hk.2.2.2.1]
    refine iteF ⟨_, rfl, (by show 4 ≤ sizeLine; decide), fun g hg => ⟨g, _, rfl, .inr (SqT.of upd_same), rfl, rfl, _, rfl, ?_⟩⟩
    have ein : inV (.str sg.kind) [V.str "number", V.str "truth", V.str "words", V.str "name"] = false := (in_strs sg.kind ["number", "truth", "words", "name"]).trans (decide_eq_false hk.2.2.2.2)
    show if inV (.str sg.kind) [V.str "number", V.str "truth", V.str "words", V.str "name"] = true then _ else _
    rw [ein]
    have s1 : Same H (upd H g (.tup [V.str "number", V.str "truth", V.str "words", V.str "name"])) := same_new hg _
    refine iteF ⟨_, rfl, _, rfl, qa, _, rfl, (KeepT.of s1).sqt hs, node_part _ _ _ _, fun x hx => ?_⟩
    rw [node_cut]
    have s2 := s1.trans (same_new hx (.tup (sg.mid ++ [v1, v2])))
    refine ⟨x, rfl, ⟨_, SqT.of upd_same⟩, fun D hD => ?_⟩
    have hmid : ∀ y ∈ sg.mid, ∃ z, y = .str z := by
      intro y hy
      rcases mid_str sg with e | e
      · rw [e] at hy
        exact absurd hy (List.not_mem_nil)
      · rw [e] at hy
        exact ⟨_, List.mem_singleton.mp hy⟩
    obtain ⟨q1, xs1, rfl, hq1⟩ := h1.ref
    obtain ⟨q2, rfl, hq2⟩ := h2
    refine lc_tup (K := K) (a := x) (xs := sg.mid ++ [.ref q1, .ref q2]) (fun i H' => Same H H' ∧ H' x = some (.tup (sg.mid ++ [.ref q1, .ref q2])) ∧ ∃ ys, H' D = some (.lst ys) ∧ PairsAt H' ys (((sg.mid ++ [V.ref q1, V.ref q2]).take i).filter isRef))
      ⟨s2.trans (same_new hD _), by rw [upd_ne (ne_of_none upd_same hD)]; exact upd_same, [], upd_same, trivial⟩ ?_ ?_ ?_
    · rintro i H' _ ⟨_, hx', _⟩
      exact SqT.of hx'
    · rintro i y H' hi ⟨s3, hx', ys, hD', hP⟩
      have htake : (sg.mid ++ [V.ref q1, V.ref q2]).take (i + 1) = (sg.mid ++ [V.ref q1, V.ref q2]).take i ++ [y] := by
        obtain ⟨hi', e⟩ := List.getElem?_eq_some_iff.mp hi
        rw [← e, List.take_append_getElem]
      rw [htake, List.filter_append]
      have hcase : (∃ z, y = .str z) ∨ ∃ q xs, y = .ref q ∧ SqT K H q xs := by
        have hmem := List.mem_of_getElem? hi
        obtain hm | hm := List.mem_append.mp hmem
        · exact .inl (hmid y hm)
        · obtain rfl | hm := List.mem_cons.mp hm
          · exact .inr ⟨q1, _, rfl, hq1⟩
          · obtain rfl | hm := List.mem_cons.mp hm
            · exact .inr ⟨q2, _, rfl, hq2⟩
            · cases hm
      have hl2 : ys.length ≤ 100 := by
        rw [hP.len]
        refine Nat.le_trans (List.length_filter_le _ _) ?_
        rw [List.length_take]
        have : (sg.mid ++ [V.ref q1, V.ref q2]).length ≤ 3 := by rcases mid_str sg with e | e <;> rw [e] <;> simp
        omega
      rcases hcase with ⟨z, rfl⟩ | ⟨q', xs', rfl, hq'⟩
      · refine ⟨rfl, _, rfl, _, _, _, _, false, rfl, .ty _, .base (.str _), kit_ty (by decide +kernel), _, rfl, ?_⟩
        refine iteF ⟨s3, hx', ys, hD', ?_⟩
        have e0 : [V.str z].filter isRef = [] := rfl
        rw [e0, List.append_nil]
        exact hP
      · refine ⟨rfl, _, rfl, _, _, _, _, true, rfl, .ty _, tyx_tup ((KeepT.of s3).sqt hq'), kit_ty (by decide +kernel), _, rfl, ?_⟩
        refine iteT ⟨_, rfl, (by show 2 ≤ sizeLine; decide), fun y hy => ?_⟩
        have nD : D ≠ y := ne_of_none hD' hy
        have nx : x ≠ y := ne_of_none hx' hy
        have nxD : x ≠ D := ne_of hx' hD' (by intro z; cases z)
        have hD2 : (upd H' y (.tup [.non, .ref q'])) D = some (.lst ys) := by rw [upd_ne nD]; exact hD'
        refine ⟨ys, hD2, slt (by omega), fun b u e => ?_, by rw [upd_ne nxD, upd_ne nx]; exact hx', ys ++ [.ref y], upd_same, ?_⟩
        · have nb : b ≠ D := fun z => by
            rw [z] at e
            have h0 : (upd (upd H g (.tup [V.str "number", V.str "truth", V.str "words", V.str "name"])) x (.tup (sg.mid ++ [.ref q1, .ref q2]))) D = none := hD
            rw [s2 D _ e] at h0
            cases h0
          rw [upd_ne nb, upd_ne (ne_of_none (s3 b u e) hy)]
          exact s3 b u e
        · have e0 : [V.ref q'].filter isRef = [.ref q'] := rfl
          rw [e0]
          have kk : KeepT H' (upd (upd H' y (.tup [.non, .ref q'])) D (.lst (ys ++ [.ref y]))) := (KeepT.new hy _).trans (KeepT.put hD2 _)
          refine PairsAt.snoc ?_ (hP.keep kk)
          rw [upd_ne nD.symm]
          exact upd_same
    · rintro H' ⟨s3, hx', ys, hD', hP⟩
      refine q H' D ys s3 (s2.free hD) hD' ?_
      have e0 : ((sg.mid ++ [V.ref q1, V.ref q2]).take (sg.mid ++ [V.ref q1, V.ref q2]).length).filter isRef = [.ref q1, .ref q2] := by
        rw [List.take_length]
        cases sg <;> rfl
      rw [e0] at hP
      exact hP
def freeLeaf (ps : List Str) (o : Opd) : List Str := if o.kind = "name" ∧ o.text ∉ ps then [o.text] else []
def addF (acc xs : List Str) : List Str := acc ++ xs.filter (fun w => decide (w ∉ acc))
def freeM (ps : List Str) : Tr → List Str
  | .one o _ => freeLeaf ps o
  | .more t _ o _ => addF (freeM ps t) (freeLeaf ps o)
theorem addF_nil (xs : List Str) : addF [] xs = xs := by simp [addF]
theorem addF_len (acc xs : List Str) : (addF acc xs).length ≤ acc.length + xs.length := by
  unfold addF
  rw [List.length_append]
  have := List.length_filter_le (fun w => decide (w ∉ acc)) xs
  omega
theorem freeLeaf_len (ps : List Str) (o : Opd) : (freeLeaf ps o).length ≤ 1 := by
  unfold freeLeaf
  split <;> simp
theorem freeM_len (ps : List Str) : ∀ t : Tr, (freeM ps t).length ≤ t.size
  | .one o _ => freeLeaf_len ps o
  | .more t _ o _ => by
    have h1 := freeM_len ps t
    have h2 := freeLeaf_len ps o
    have h3 := addF_len (freeM ps t) (freeLeaf ps o)
    show (addF (freeM ps t) (freeLeaf ps o)).length ≤ t.size + 1
    omega
def spFree (K : PySem.W.Frag) (n : Nat) : Sp := fun vs H Q _ => ∃ (v : V) (g : Addr) (t : Tr) (ps : List Str), vs = [v, .ref g] ∧ TrAt K H v t ∧ SqT K H g (ps.map V.str) ∧ t.size ≤ n ∧ t.size ≤ 1000 ∧
  ∀ H' a, Same H H' → H' a = some (.lst ((freeM ps t).map V.str)) → Q (.ref a) H'
def acc0 (ps : List Str) : Tr → List Str
  | .one o p => freeM ps (.one o p)
  | .more _ _ _ _ => []
def accI (ps : List Str) (t : Tr) (o : Opd) : Nat → List Str
  | 0 => []
  | 1 => freeM ps t
  | _ => addF (freeM ps t) (freeLeaf ps o)
theorem node_at2 (o : Opd) (p : Nat) : atI (leafL o p) 2 = some o.worth := rfl
theorem c_free0 (T : Top w K mg C aKEPT aPAIRS aLOOSE aSIGNS) : Cal P w K mg base 2 "free" (spFree K 0) := by
  obtain ⟨f, fd, F, df, hm, kp⟩ := T.d_free.ex
  have no : ∀ vs H Q E, ¬ spFree K 0 vs H Q E := fun vs H Q E ⟨_, _, t, _, _, _, _, h, _⟩ => by
    cases t <;> exact absurd h (Nat.not_succ_le_zero _)
  exact ⟨f, fd, ["tree", "params"], ⟨fun vs H Q E h => absurd h (no vs H Q E), fun A outer s H args us vs Q E _ _ _ _ h => absurd h (no vs H Q E)⟩, hm, kp,
    F.binds df (fun _ _ _ _ _ _ us hl => match us, hl with | [_, _], _ => rfl)⟩
theorem c_freeS (T : Top w K mg C aKEPT aPAIRS aLOOSE aSIGNS) {n : Nat} (c_free : Cal P w K mg base k "free" (spFree K n)) (hk : 1 ≤ k) : Cal P w K mg base (k + 1) "free" (spFree K (n + 1)) := by
  have c_inner := (c_inner (P := P) (base := base) T).mono hk
  refine cal_by (ps := ["tree", "params"]) T.d_free sc_free (fun _ _ _ _ _ _ us hl => match us, hl with | [_, _], _ => rfl) (fun vs H Q E h => ?_) (fun f cdv A outer s H vs Q E hr h => ?_)
  · obtain ⟨_, _, _, _, rfl, _⟩ := h
    rfl
  obtain ⟨v, gp, t, ps, rfl, hT, hps, hn, hn2, q⟩ := h
  refine ⟨_, (pss_cons (ps_set (i := 2) sc_free.nd rfl (Or.inr rfl) (pe_lst pa_nil))
      (C8.pss_cut (ps_if (PW.pt (pw_and (pt_cmpR (opI (K := K)) (pe_ix ix_tup (pv 0) pe_int (fun _ _ => rfl)) (pe_tup (pa_cons pe_str (pa_cons pe_str pa_nil))) rfl) (pw_and1 (pt_cmpR (opNI (K := K)) (pe_ix ix_tup (pv 0) pe_int (fun _ _ => rfl)) (pv 1) rfl)))) (pss_one (ps_expr (pe_bm PySem.F.plainAttrs_list PySem.F.slot_list_append PySem.F.type_list_append mt_append (pv 2) (pa_cons (pe_ix ix_tup (pv 0) pe_int (fun _ _ => rfl)) pa_nil)))) pss_nil)
      (pss_cons (ps_for PassesOwn.never rfl (pi_list (pe_c c_inner hr (by omega) rfl (pa_cons (pv 0) pa_nil))) (pg_tup (by rfl) (pgs_cons (pg_name (i := 3) sc_free.nd rfl (Or.inl rfl)) (pgs_cons (pg_name (i := 4) sc_free.nd rfl (Or.inl rfl)) pgs_nil))) (pss_cons (ps_set (i := 5) sc_free.nd rfl (Or.inl rfl) (pe_ifExp (pt_cmpR op_isN (pv 3) pe_non (nomark _)) (pv 1) pe_never))
      (pss_one (ps_expr (pe_bm PySem.F.plainAttrs_list PySem.F.slot_list_extend PySem.F.type_list_extend mt_extend (pv 2) (pa_cons (pe_lc (own := [("word", 6)]) (g := gName 6) (tt := _) rfl sc_free.nd (pi_list (pe_c c_free hr (by omega) rfl (pa_cons (pv 4) (pa_cons (pv 5) pa_nil)))) (blkOk_by (own := [("word", 6)]) (N := n_free) (sc := C8.fnScope s_free) (by decide +kernel)) (fun _ _ _ _ _ => (pg_name (i := 6) sc_free.nd rfl (Or.inl rfl))) (fun _ _ _ _ _ => (pts_one (pt_cmpR (opNI (K := K)) (pv 6) (pv 2) rfl))) (fun _ _ _ _ _ => (pv 6))) pa_nil))))))
      (pss_one (ps_ret (pv 2)))))), ?_⟩
  refine ⟨(by show 0 ≤ sizeLine; decide), fun F hF => ?_⟩
  have s1 : Same H (upd H F (.lst [])) := same_new hF _
  refine ⟨fun σ' H' => σ' = [some v, some (.ref gp), some (.ref F), none, none, none, none] ∧ Same H H' ∧ H' F = some (.lst ((acc0 ps t).map V.str)), ?_, ?_⟩
  · cases t with
    | one o p =>
      obtain ⟨qa, rfl, hs⟩ := id hT
      refine ⟨_, rfl, qa, _, _, _, rfl, rfl, (KeepT.of s1).sqt hs, (show atI (leafL o p) 0 = some (.str o.kind) from rfl), ?_⟩
      refine ⟨(by show 2 ≤ sizeLine; decide), fun g hg => ⟨g, _, rfl, .inr (SqT.of upd_same), rfl, rfl, _, rfl, ?_⟩⟩
      have s2 := s1.trans (same_new hg (.tup [V.str "name", V.str "call"]))
      have nF : F ≠ g := ne_of_none upd_same hg
      have hF2 : (upd (upd H F (.lst [])) g (.tup [V.str "name", V.str "call"])) F = some (.lst []) := by rw [upd_ne nF]; exact upd_same
      have ein : inV (.str o.kind) [V.str "name", V.str "call"] = decide (o.kind ∈ (["name", "call"] : List Str)) := in_strs o.kind ["name", "call"]
      refine ite2 (fun c => ?_) (fun c => ?_)
      · have hk : o.kind = "name" ∧ o.worth = .str o.text := by
          have hm : o.kind ∈ (["name", "call"] : List Str) := of_decide_eq_true (ein.symm.trans c)
          revert hm
          cases o <;> decide +kernel
        refine ⟨_, rfl, qa, _, _, _, rfl, rfl, (KeepT.of s2).sqt hs, node_at2 o p, _, rfl, gp, _, rfl, .inr ((KeepT.of s2).sqt hps), ?_, flat_strs ps, _, rfl, ?_⟩
        · rw [hk.2]
          rfl
        rw [hk.2]
        have ein2 : inV (.str o.text) (ps.map V.str) = decide (o.text ∈ ps) := in_strs o.text ps
        refine ite2 (fun c2 => ?_) (fun c2 => ?_)
        · have hnm : o.text ∉ ps := fun e => by
            have c3 : (!inV (.str o.text) (ps.map V.str)) = true := c2
            rw [ein2, decide_eq_true e] at c3
            cases c3
          refine ⟨_, rfl, .inl ⟨rfl, _, SqL.of hF2⟩, _, rfl, qa, _, _, _, rfl, rfl, (KeepT.of s2).sqt hs, node_at2 o p, F, _, _, rfl, rfl, hF2, (by show 0 < sizeLine; decide), rfl, fun b u e => ?_, ?_⟩
          · rw [upd_ne (ne_of_none e hF)]
            exact s2 b u e
          · rw [upd_same, hk.2]
            show some (HO.lst [V.str o.text]) = some (.lst ((freeLeaf ps o).map V.str))
            unfold freeLeaf
            rw [if_pos ⟨hk.1, hnm⟩]
            rfl
        · have hmm : o.text ∈ ps := by
            refine Classical.byContradiction fun e => c2 ?_
            show (!inV (.str o.text) (ps.map V.str)) = true
            rw [ein2, decide_eq_false e]
            rfl
          refine ⟨rfl, s2, ?_⟩
          rw [hF2]
          show some (HO.lst []) = some (.lst ((freeLeaf ps o).map V.str))
          unfold freeLeaf
          rw [if_neg (fun e => e.2 hmm)]
          rfl
      · have hk : o.kind ≠ "name" := fun e => by
          refine c (ein.trans (decide_eq_true ?_))
          rw [e]
          exact List.mem_cons_self ..
        refine ⟨rfl, s2, ?_⟩
        rw [hF2]
        show some (HO.lst []) = some (.lst ((freeLeaf ps o).map V.str))
        unfold freeLeaf
        rw [if_neg (fun e => hk e.1)]
        rfl
    | more t sg o p =>
      obtain ⟨qa, v1, v2, rfl, hs, h1, h2⟩ := id hT
      refine ⟨_, rfl, qa, _, _, _, rfl, rfl, (KeepT.of s1).sqt hs, node_at0 _ _ _ _, ?_⟩
      refine ⟨(by show 2 ≤ sizeLine; decide), fun g hg => ⟨g, _, rfl, .inr (SqT.of upd_same), rfl, rfl, _, rfl, ?_⟩⟩
      have s2 := s1.trans (same_new hg (.tup [V.str "name", V.str "call"]))
      have nF : F ≠ g := ne_of_none upd_same hg
      have ein : inV (.str sg.kind) [V.str "name", V.str "call"] = false := (in_strs sg.kind ["name", "call"]).trans (decide_eq_false (by cases sg <;> decide +kernel))
      show if inV (.str sg.kind) [V.str "name", V.str "call"] = true then _ else _
      rw [ein]
      refine iteF (iteF ⟨rfl, s2, ?_⟩)
      rw [upd_ne nF]
      exact upd_same
  rintro σ0 H2 ⟨rfl, s2, hF2⟩
  cases t with
  | one o p =>
    refine ⟨_, rfl, _, .one o p, rfl, hT.keep (.of s2), .inl ⟨o, p, rfl, fun H3 a s4 _ h4 => ?_⟩⟩
    refine ⟨a, rfl, ⟨_, SqL.of h4⟩, for_list (K := K) (a := a) (xs := []) (fun i σ H' => σ = [some v, some (.ref gp), some (.ref F), none, none, none, none] ∧ H' = H3) ⟨rfl, rfl⟩ ?_ ?_ ?_⟩
    · rintro i σ H' _ ⟨_, rfl⟩
      exact SqL.of h4
    · intro i y σ H' hi
      simp at hi
    · rintro σ H' ⟨rfl, rfl⟩
      exact ⟨_, rfl, q _ F (s2.trans s4) (s4 _ _ hF2)⟩
  | more t sg o p =>
    obtain ⟨qa, v1, v2, rfl, hs, h1, h2⟩ := id hT
    refine ⟨_, rfl, _, .more t sg o p, rfl, hT.keep (.of s2), .inr ⟨t, sg, o, p, qa, v1, v2, rfl, rfl, (KeepT.of s2).sqt hs, h1.keep (.of s2), h2.keep (.of s2), fun H3 a ys s4 na h4 hP => ?_⟩⟩
    have s3 := s2.trans s4
    have hF3 := s4 _ _ hF2
    have nFa : a ≠ F := (ne_of_none hF2 na).symm
    obtain ⟨q1, q2, rfl, hq1, hq2⟩ := hP.two
    refine ⟨a, rfl, ⟨_, SqL.of h4⟩, for_list (K := K) (a := a) (xs := [.ref q1, .ref q2]) (fun i σ H' => ∃ o3 o4 o5, σ = [some (.ref qa), some (.ref gp), some (.ref F), o3, o4, o5, none] ∧ Same H H' ∧ KeepT H3 H' ∧ H' a = some (.lst [.ref q1, .ref q2]) ∧ H' F = some (.lst ((accI ps t o i).map V.str)))
      ⟨none, none, none, rfl, s3, KeepT.refl _, h4, hF3⟩ ?_ ?_ ?_⟩
    · rintro i σ H' _ ⟨_, _, _, _, _, _, h5, _⟩
      exact SqL.of h5
    · rintro i y σ H' hi ⟨o3, o4, o5, rfl, s5, k5, ha5, hF5⟩
      have hcase : ∃ (qi : Addr) (vi : V) (ti : Tr), y = .ref qi ∧ H3 qi = some (.tup [.non, vi]) ∧ TrAt K H vi ti ∧ ti.size ≤ n ∧ ti.size ≤ 1000 ∧ accI ps t o (i + 1) = addF (accI ps t o i) (freeM ps ti) ∧ (accI ps t o i).length ≤ 1000 := by
        have ht : t.size ≤ n := Nat.le_of_succ_le_succ hn
        have ht2 : t.size ≤ 1000 := Nat.le_of_succ_le hn2
        have ht1 : 1 ≤ t.size := by cases t <;> exact Nat.succ_le_succ (Nat.zero_le _)
        match i, hi with
        | 0, hi => exact ⟨q1, v1, t, (Option.some.inj hi).symm, hq1, h1, ht, ht2, (addF_nil _).symm, Nat.zero_le _⟩
        | 1, hi => exact ⟨q2, v2, .one o p, (Option.some.inj hi).symm, hq2, h2, Nat.le_trans ht1 ht, by show 1 ≤ 1000; decide, rfl, Nat.le_trans (freeM_len ps t) ht2⟩
        | i + 2, hi => cases hi
      obtain ⟨qi, vi, ti, rfl, hqi, hTi, hni, hni2, hacc, hal⟩ := hcase
      rw [hacc]
      clear hacc
      revert hF5 hal
      generalize accI ps t o i = acc
      intro hF5 hal
      refine ⟨qi, _, rfl, SqT.of (k5.tup _ _ hqi), rfl, _, _, rfl, _, _, rfl, rfl, ?_⟩
      refine ⟨_, rfl, rfl, _, rfl, iteT ⟨_, rfl, ?_⟩⟩
      refine ⟨_, rfl, .inl ⟨rfl, _, SqL.of hF5⟩, ?_⟩
      refine ⟨_, rfl, _, rfl, vi, gp, ti, ps, rfl, hTi.keep (.of s5), (KeepT.of s5).sqt hps, hni, hni2, fun H6 b s6 h6 => ?_⟩
      refine ⟨b, rfl, ⟨_, SqL.of h6⟩, fun D hD => ?_⟩
      have hF6 := s6 _ _ hF5
      have nFD : F ≠ D := ne_of_none hF6 hD
      have nbD : b ≠ D := ne_of_none h6 hD
      refine lc_list (K := K) (a := b) (xs := (freeM ps ti).map V.str) (fun j H' => Same H6 H' ∧ H' D = some (.lst ((((freeM ps ti).take j).filter (fun w => decide (w ∉ acc))).map V.str))) ⟨same_new hD _, upd_same⟩ ?_ ?_ ?_
      · rintro j H' _ ⟨s7, _⟩
        exact SqL.of (s7 _ _ h6)
      · rintro j x H' hj ⟨s7, hD7⟩
        obtain ⟨wd, hw, rfl⟩ : ∃ wd, (freeM ps ti)[j]? = some wd ∧ x = .str wd := by
          rw [List.getElem?_map] at hj
          cases e : (freeM ps ti)[j]? with
          | none =>
            rw [e] at hj
            cases hj
          | some wd =>
            rw [e] at hj
            exact ⟨wd, rfl, (Option.some.inj hj).symm⟩
        have htake : (freeM ps ti).take (j + 1) = (freeM ps ti).take j ++ [wd] := by
          obtain ⟨hj', e⟩ := List.getElem?_eq_some_iff.mp hw
          rw [← e, List.take_append_getElem]
        rw [htake, List.filter_append, List.map_append]
        have ein2 : inV (.str wd) (acc.map V.str) = decide (wd ∈ acc) := in_strs wd acc
        refine ⟨rfl, _, rfl, _, rfl, F, _, rfl, .inl (SqL.of (s7 _ _ hF6)), rfl, flat_strs acc, _, rfl, ?_⟩
        show if (!inV (.str wd) (acc.map V.str)) = true then _ else _
        rw [ein2]
        by_cases hm : wd ∈ acc
        · rw [decide_eq_true hm]
          refine iteF ⟨s7, ?_⟩
          have e0 : [wd].filter (fun w => decide (w ∉ acc)) = [] := by
            rw [List.filter_cons, if_neg (by simpa using hm)]
            rfl
          rw [e0, List.map_nil, List.append_nil]
          exact hD7
        · rw [decide_eq_false hm]
          refine iteT ⟨_, rfl, _, hD7, ?_, fun b u e => ?_, ?_⟩
          · rw [List.length_map]
            refine slt ?_
            have h1 := List.length_filter_le (fun w => decide (w ∉ acc)) ((freeM ps ti).take j)
            have h2 := freeM_len ps ti
            rw [List.length_take] at h1
            omega
          · rw [upd_ne (ne_of_none e hD)]
            exact s7 b u e
          · rw [upd_same]
            have e0 : [wd].filter (fun w => decide (w ∉ acc)) = [wd] := by
              rw [List.filter_cons, if_pos (by simpa using hm)]
              rfl
            rw [e0]
            rfl
      · rintro H' ⟨s7, hD7⟩
        rw [List.length_map, List.take_length] at hD7
        have hF7 := s7 _ _ hF6
        refine ⟨F, D, _, _, rfl, rfl, hF7, hD7, ?_, ?_⟩
        · rw [List.length_map, List.length_map]
          refine sl ?_
          have h1 := List.length_filter_le (fun w => decide (w ∉ acc)) (freeM ps ti)
          have h2 := freeM_len ps ti
          omega
        · refine ⟨_, _, _, rfl, fun b u e => ?_, (k5.trans (KeepT.of (s6.trans s7))).trans (KeepT.put hF7 _), ?_, ?_⟩
          · rw [upd_ne (ne_of_none e hF)]
            exact s7 _ _ (s6 _ _ (s5 _ _ e))
          · rw [upd_ne nFa]
            exact s7 _ _ (s6 _ _ ha5)
          · rw [upd_same, ← List.map_append]
            rfl
    · rintro σ H' ⟨o3, o4, o5, rfl, s5, k5, ha5, hF5⟩
      exact ⟨_, rfl, q _ F s5 hF5⟩
end
end Lr

set_option maxRecDepth 100000
set_option maxHeartbeats 4200000
namespace Lr
open PySem PySem.Spec L2 SX
def Tr.loose : Tr → Int
  | .one _ _ => 8
  | .more _ s _ _ => s.lev
def Tr.even : Tr → Prop
  | .one _ _ => True
  | .more t s _ _ => t.even ∧ s.lev ≤ t.loose
def showS (s : Sg) (x y : List Nat) : List Nat := if s = .pick then x ++ [91] ++ y ++ [93] else x ++ [32] ++ s.codes ++ [32] ++ y
def showM : Tr → List Nat
  | .one o _ => o.codes
  | .more t s o _ => showS s (showM t) o.codes
theorem showM_len : ∀ t : Tr, (showM t).length ≤ 10 * t.size
  | .one o _ => by show o.codes.length ≤ 10; cases o <;> decide
  | .more t s o _ => by
    have ih := showM_len t
    have h1 : o.codes.length ≤ 2 := by cases o <;> decide
    have h2 : s.codes.length ≤ 4 := by cases s <;> decide
    show (showS s (showM t) o.codes).length ≤ 10 * (t.size + 1)
    unfold showS
    split <;> simp only [List.length_append, List.length_cons, List.length_nil] <;> omega
theorem lit_b : (" " : Str) = S [32] := by decide +kernel
theorem lit_br : ("[" : Str) = S [91] := by decide +kernel
theorem lit_bl : ("]" : Str) = S [93] := by decide +kernel
theorem node_at2' (s : Sg) (a : Nat) (v1 v2 : V) (h : s.mid = [.str s.text]) : atI (nodeL s a v1 v2) 2 = some (.str s.text) := by
  unfold nodeL
  rw [h]
  rfl
theorem node_at2'' (s : Sg) (a : Nat) (v1 v2 : V) (h : s.mid = []) : atI (nodeL s a v1 v2) 2 = some v1 ∧ atI (nodeL s a v1 v2) 3 = some v2 := by
  unfold nodeL
  rw [h]
  exact ⟨rfl, rfl⟩
theorem mid_kind (s : Sg) : (s.mid = [.str s.text] ∧ s.kind = "sign") ∨ (s.mid = [] ∧ s.kind = "or" ∧ s = .or) ∨ (s.mid = [] ∧ s.kind = "and" ∧ s = .and) ∨ (s.mid = [] ∧ s.kind = "pick" ∧ s = .pick) := by
  cases s <;> first | exact .inl ⟨rfl, rfl⟩ | exact .inr (.inl ⟨rfl, rfl, rfl⟩) | exact .inr (.inr (.inl ⟨rfl, rfl, rfl⟩)) | exact .inr (.inr (.inr ⟨rfl, rfl, rfl⟩))
def spLoose (K : PySem.W.Frag) : Sp := fun vs H Q _ => ∃ (v : V) (t : Tr), vs = [v] ∧ TrAt K H v t ∧ Q (.int t.loose) H
def spShown (K : PySem.W.Frag) (n : Nat) : Sp := fun vs H Q _ => ∃ (v : V) (t : Tr), vs = [v] ∧ TrAt K H v t ∧ t.even ∧ t.size ≤ n ∧ t.size ≤ 1000 ∧ ∀ H', Same H H' → Q (.str (S (showM t))) H'
def spWritten (K : PySem.W.Frag) (n : Nat) : Sp := fun vs H Q _ => ∃ (v : V) (t : Tr) (i : Int), vs = [v, .int i] ∧ TrAt K H v t ∧ t.even ∧ i ≤ t.loose ∧ t.size ≤ n ∧ t.size ≤ 1000 ∧ ∀ H', Same H H' → Q (.str (S (showM t))) H'
def spSigns (K : PySem.W.Frag) (n : Nat) : Sp := fun vs H Q _ => ∃ (v : V) (t : Tr) (s : Sg) (o : Opd) (p : Nat), vs = [v] ∧ TrAt K H v (.more t s o p) ∧ s ≠ .pick ∧ (Tr.more t s o p).even ∧ t.size ≤ n ∧ 1 ≤ n ∧ t.size ≤ 1000 ∧ ∀ H', Same H H' → Q (.str (S (showM (.more t s o p)))) H'
def spClosed (K : PySem.W.Frag) : Sp := fun vs H Q _ => ∃ (v : V) (o : Opd) (p : Nat), vs = [v] ∧ LeafAt K H v o p ∧ Q (.str (S o.codes)) H
section
variable {P : Program} {w : World} {K : PySem.W.Frag} {mg : Str → Option Value} {base : Heap} {C aKEPT aPAIRS aLOOSE aSIGNS : Addr} {k m n : Nat}
theorem c_looseness (T : Top w K mg C aKEPT aPAIRS aLOOSE aSIGNS) : Cal P w K mg base 1 "looseness" (spLoose K) := by
  obtain ⟨_, _, dSIGNS⟩ := T.dSIGNS
  obtain ⟨_, _, dLOOSE⟩ := T.dLOOSE
  refine cal_by (ps := ["tree"]) T.d_looseness sc_looseness (fun _ _ _ _ _ _ us hl => match us, hl with | [_], _ => rfl) (fun vs H Q E h => ?_) (fun f cdv A outer s H vs Q E hr h => ?_)
  · obtain ⟨_, _, rfl, _⟩ := h
    rfl
  obtain ⟨v, t, rfl, hT, q⟩ := h
  refine ⟨_, (pss_cons (ps_if (pt_cmpR op_eq (pe_ix ix_tup (pv 0) pe_int (fun _ _ => rfl)) pe_str (nomark _)) (pss_one (ps_ret (pe_kget2 dSIGNS (C8.pe_gc rfl T.gSIGNS) (pe_ix ix_tup (pv 0) pe_int (fun _ _ => rfl)) pe_int))) pss_nil)
      (pss_one (ps_ret (pe_kget2 dLOOSE (C8.pe_gc rfl T.gLOOSE) (pe_ix ix_tup (pv 0) pe_int (fun _ _ => rfl)) pe_int)))), ?_⟩
  cases t with
  | one o p =>
    obtain ⟨qa, rfl, hs⟩ := hT
    refine ⟨_, rfl, qa, _, _, _, rfl, rfl, hs, (show atI (leafL o p) 0 = some (.str o.kind) from rfl), rfl, _, rfl, ?_⟩
    rw [neS (show o.kind ≠ "sign" by cases o <;> decide +kernel)]
    refine iteF ⟨rfl, _, rfl, qa, _, _, _, rfl, rfl, hs, (show atI (leafL o p) 0 = some (.str o.kind) from rfl), _, rfl, .inr ⟨?_, q⟩⟩
    cases o
    · exact T.iLOOSE_name
    · exact T.iLOOSE_name
    · exact T.iLOOSE_number
    · exact T.iLOOSE_words
  | more t sg o p =>
    obtain ⟨qa, v1, v2, rfl, hs, _, _⟩ := hT
    refine ⟨_, rfl, qa, _, _, _, rfl, rfl, hs, node_at0 _ _ _ _, rfl, _, rfl, ?_⟩
    rcases mid_kind sg with ⟨hm, hk⟩ | ⟨hm, hk, rfl⟩ | ⟨hm, hk, rfl⟩ | ⟨hm, hk, rfl⟩
    · rw [eqS hk]
      refine iteT ⟨rfl, _, rfl, qa, _, _, _, rfl, rfl, hs, node_at2' _ _ _ _ hm, _, rfl, .inl ?_⟩
      have h : ∃ u0, PySem.W.nsIn K aSIGNS sg.text = some (some u0) ∧ RelV (.int sg.lev) u0 := by
        cases sg
        · exact T.iSIGNS_plus
        · exact T.iSIGNS_minus
        · exact T.iSIGNS_times
        · exact T.iSIGNS_floor
        · exact T.iSIGNS_rest
        all_goals cases hm
      obtain ⟨u0, h1, h2⟩ := h
      exact ⟨u0, _, h1, h2, q⟩
    · rw [neS (show Sg.or.kind ≠ "sign" by decide +kernel)]
      obtain ⟨u0, h1, h2⟩ := T.iLOOSE_or
      exact iteF ⟨rfl, _, rfl, qa, _, _, _, rfl, rfl, hs, node_at0 _ _ _ _, _, rfl, .inl ⟨u0, _, h1, h2, q⟩⟩
    · rw [neS (show Sg.and.kind ≠ "sign" by decide +kernel)]
      obtain ⟨u0, h1, h2⟩ := T.iLOOSE_and
      exact iteF ⟨rfl, _, rfl, qa, _, _, _, rfl, rfl, hs, node_at0 _ _ _ _, _, rfl, .inl ⟨u0, _, h1, h2, q⟩⟩
    · rw [neS (show Sg.pick.kind ≠ "sign" by decide +kernel)]
      exact iteF ⟨rfl, _, rfl, qa, _, _, _, rfl, rfl, hs, node_at0 _ _ _ _, _, rfl, .inr ⟨T.iLOOSE_pick, q⟩⟩
theorem c_show_closed (T : Top w K mg C aKEPT aPAIRS aLOOSE aSIGNS) : Cal P w K mg base 1 "show_closed" (spClosed K) := by
  refine cal_by (ps := ["tree"]) T.d_show_closed sc_show_closed (fun _ _ _ _ _ _ us hl => match us, hl with | [_], _ => rfl) (fun vs H Q E h => ?_) (fun f cdv A outer s H vs Q E hr h => ?_)
  · obtain ⟨_, _, _, rfl, _⟩ := h
    rfl
  obtain ⟨v, o, p, rfl, ⟨qa, rfl, hs⟩, q⟩ := h
  refine ⟨_, (pss_cons (ps_set (i := 1) sc_show_closed.nd rfl (Or.inl rfl) (pe_ix ix_tup (pv 0) pe_int (fun _ _ => rfl)))
      (pss_cons (ps_if (pt_cmpR op_eq (pv 1) pe_str (nomark _)) (pss_one (ps_ret (pe_op op_add_str (pe_op op_add_str pe_str (pe_ix ix_tup (pv 0) pe_int (fun _ _ => rfl))) pe_str))) pss_nil)
      (pss_cons (ps_if (pt_cmpR op_eq (pv 1) pe_str (nomark _)) pss_never pss_nil)
      (pss_cons (ps_if (pt_cmpR op_eq (pv 1) pe_str (nomark _)) pss_never pss_nil)
      (pss_cons (ps_if (pt_cmpR op_eq (pv 1) pe_str (nomark _)) pss_never pss_nil)
      (pss_cons (ps_if (pt_cmpR op_eq (pv 1) pe_str (nomark _)) pss_never pss_nil)
      (pss_one (ps_ret (pe_callTy call_strX rfl T.n_str (by decide +kernel) (pa_cons (pe_ix ix_tup (pv 0) pe_int (fun _ _ => rfl)) pa_nil)))))))))), ?_⟩
  refine ⟨_, rfl, qa, _, _, _, rfl, rfl, hs, (show atI (leafL o p) 0 = some (.str o.kind) from rfl), ?_⟩
  refine ⟨_, rfl, rfl, _, rfl, ?_⟩
  have hk : o.kind ≠ "truth" ∧ o.kind ≠ "call" ∧ o.kind ≠ "own" ∧ o.kind ≠ "list" := by cases o <;> decide +kernel
  by_cases hw : o.kind = "words"
  · rw [eqS hw]
    refine iteT ⟨_, rfl, qa, _, _, _, rfl, rfl, hs, node_at2 o p, ?_⟩
    have ho : o = .quote := by
      revert hw
      cases o <;> decide +kernel
    subst ho
    refine ⟨_, _, rfl, rfl, by decide +kernel, _, _, rfl, rfl, by decide +kernel, ?_⟩
    have e : ("'" : Str) ++ "" ++ "'" = S [39, 39] := by decide +kernel
    show Q (.str (("'" : Str) ++ "" ++ "'")) H
    rw [e]
    exact q
  · rw [neS hw]
    refine iteF ⟨_, rfl, rfl, _, rfl, ?_⟩
    rw [neS hk.1]
    refine iteF ⟨_, rfl, rfl, _, rfl, ?_⟩
    rw [neS hk.2.1]
    refine iteF ⟨_, rfl, rfl, _, rfl, ?_⟩
    rw [neS hk.2.2.1]
    refine iteF ⟨_, rfl, rfl, _, rfl, ?_⟩
    rw [neS hk.2.2.2]
    refine iteF ⟨_, rfl, qa, _, _, _, rfl, rfl, hs, node_at2 o p, ?_⟩
    cases o with
    | a =>
      refine .inr ⟨_, rfl, ?_⟩
      have e : ("a" : Str) = S [97] := by decide +kernel
      rw [e]
      exact q
    | b =>
      refine .inr ⟨_, rfl, ?_⟩
      have e : ("b" : Str) = S [98] := by decide +kernel
      rw [e]
      exact q
    | seven =>
      refine .inl ⟨7, rfl, by decide, ?_⟩
      have e : Str.ofString (toString (7 : Int)) = S [55] := by decide +kernel
      rw [e]
      exact q
    | quote => exact absurd rfl hw
theorem c_written (T : Top w K mg C aKEPT aPAIRS aLOOSE aSIGNS) (c_shown_tree : Cal P w K mg base k "shown_tree" (spShown K n)) (hk : 1 ≤ k) : Cal P w K mg base (k + 1) "written" (spWritten K n) := by
  have c_looseness := (c_looseness (P := P) (base := base) T).mono hk
  refine cal_by (ps := ["tree", "least"]) T.d_written sc_written (fun _ _ _ _ _ _ us hl => match us, hl with | [_, _], _ => rfl) (fun vs H Q E h => ?_) (fun f cdv A outer s H vs Q E hr h => ?_)
  · obtain ⟨_, _, _, rfl, _⟩ := h
    rfl
  obtain ⟨v, t, i, rfl, hT, he, hi, hn, hn2, q⟩ := h
  refine ⟨_, (pss_cons (ps_set (i := 2) sc_written.nd rfl (Or.inl rfl) (pe_c c_shown_tree hr (by omega) rfl (pa_cons (pv 0) pa_nil)))
      (pss_one (ps_ret (pe_ifExp (pt_cmpR op_ge (pe_c c_looseness hr (by omega) rfl (pa_cons (pv 0) pa_nil)) (pv 1) (nomark _)) (pv 2) pe_never)))), ?_⟩
  refine ⟨_, rfl, v, t, rfl, hT, he, hn, hn2, fun H1 s1 => ?_⟩
  refine ⟨_, rfl, v, t, rfl, hT.keep (.of s1), _, rfl, _, _, rfl, rfl, _, rfl, ?_⟩
  have e : decide (t.loose ≥ i) = true := decide_eq_true hi
  show if decide (t.loose ≥ i) = true then _ else _
  rw [e]
  exact iteT ⟨_, rfl, q _ s1⟩
theorem c_show_signs (T : Top w K mg C aKEPT aPAIRS aLOOSE aSIGNS) (c_written : Cal P w K mg base k "written" (spWritten K n)) (hk : 1 ≤ k) : Cal P w K mg base (k + 1) "show_signs" (spSigns K n) := by
  have c_looseness := (c_looseness (P := P) (base := base) T).mono hk
  refine cal_by (ps := ["tree"]) T.d_show_signs sc_show_signs (fun _ _ _ _ _ _ us hl => match us, hl with | [_], _ => rfl) (fun vs H Q E h => ?_) (fun f cdv A outer s H vs Q E hr h => ?_)
  · obtain ⟨_, _, _, _, _, rfl, _⟩ := h
    rfl
  obtain ⟨v, t, sg, o, p, rfl, hT, hp, ⟨he, hlev⟩, hn, hn1, hn2, q⟩ := h
  obtain ⟨qa, v1, v2, rfl, hs, h1, h2⟩ := id hT
  have e0 : (S (showM t) ++ " " ++ sg.text ++ " " ++ S o.codes) = S (showM (.more t sg o p)) := by
    rw [lit_b, sg_text, S_cat, S_cat, S_cat, S_cat]
    show S _ = S (showS sg (showM t) o.codes)
    unfold showS
    rw [if_neg hp]
  have l0 := showM_len t
  have l1 : o.codes.length ≤ 2 := by cases o <;> decide
  have l2 : sg.codes.length ≤ 4 := by cases sg <;> decide
  have z1 : (S (showM t)).length + (" " : Str).length ≤ sizeLine := by
    rw [lit_b, S_len, S_len]
    exact sl (by show (showM t).length + 1 ≤ 100000; omega)
  have z2 : (S (showM t) ++ " ").length + sg.text.length ≤ sizeLine := by
    rw [lit_b, sg_text, S_cat, S_len, S_len, List.length_append]
    exact sl (by show (showM t).length + 1 + sg.codes.length ≤ 100000; omega)
  have z3 : (S (showM t) ++ " " ++ sg.text).length + (" " : Str).length ≤ sizeLine := by
    rw [lit_b, sg_text, S_cat, S_cat, S_len, S_len, List.length_append, List.length_append]
    exact sl (by show (showM t).length + 1 + sg.codes.length + 1 ≤ 100000; omega)
  have z4 : (S (showM t) ++ " " ++ sg.text ++ " ").length + (S o.codes).length ≤ sizeLine := by
    rw [lit_b, sg_text, S_cat, S_cat, S_cat, S_len, S_len, List.length_append, List.length_append, List.length_append]
    exact sl (by show (showM t).length + 1 + sg.codes.length + 1 + o.codes.length ≤ 100000; omega)
  have hlo : sg.lev + 1 ≤ (Tr.one o p).loose := by
    show sg.lev + 1 ≤ 8
    revert hp
    cases sg <;> decide
  have h2' : TrAt K H v2 (.one o p) := h2
  refine ⟨_, (pss_cons (ps_set (i := 1) sc_show_signs.nd rfl (Or.inl rfl) (pe_ix ix_tup (pv 0) pe_int (fun _ _ => rfl)))
      (pss_cons (ps_if (pt_cmpR op_eq (pv 1) pe_str (nomark _)) pss_never pss_nil)
      (pss_cons (ps_if (pt_cmpR op_eq (pv 1) pe_str (nomark _)) pss_never pss_nil)
      (pss_cons (ps_if (pt_cmpR op_eq (pv 1) pe_str (nomark _)) (pss_cons (ps_asg (pe_slice sl_tup (pv 0) (po_some pe_int) po_none) (pg_tup (by rfl) (pgs_cons (pg_name (i := 2) sc_show_signs.nd rfl (Or.inl rfl)) (pgs_cons (pg_name (i := 3) sc_show_signs.nd rfl (Or.inl rfl)) (pgs_cons (pg_name (i := 4) sc_show_signs.nd rfl (Or.inl rfl)) pgs_nil)))))
      (pss_cons (ps_set (i := 5) sc_show_signs.nd rfl (Or.inl rfl) (pe_c c_looseness hr (by omega) rfl (pa_cons (pv 0) pa_nil)))
      (pss_cons (ps_if (pt_cmpR op_eq (pv 5) pe_int (nomark _)) pss_never pss_nil)
      (pss_one (ps_ret (pe_op op_add_str (pe_op op_add_str (pe_op op_add_str (pe_op op_add_str (pe_c c_written hr (by omega) rfl (pa_cons (pv 3) (pa_cons (pv 5) pa_nil))) pe_str) (pv 2)) pe_str) (pe_c c_written hr (by omega) rfl (pa_cons (pv 4) (pa_cons (pe_op op_add (pv 5) pe_int) pa_nil))))))))) pss_nil)
      (pss_cons (ps_set (i := 5) sc_show_signs.nd rfl (Or.inl rfl) (pe_c c_looseness hr (by omega) rfl (pa_cons (pv 0) pa_nil)))
      (pss_one (ps_ret (pe_op op_add_str (pe_op op_add_str (pe_op op_add_str (pe_op op_add_str (pe_c c_written hr (by omega) rfl (pa_cons (pe_ix ix_tup (pv 0) pe_int (fun _ _ => rfl)) (pa_cons (pv 5) pa_nil))) pe_str) (pv 1)) pe_str) (pe_c c_written hr (by omega) rfl (pa_cons (pe_ix ix_tup (pv 0) pe_int (fun _ _ => rfl)) (pa_cons (pe_op op_add (pv 5) pe_int) pa_nil))))))))))), ?_⟩
  refine ⟨_, rfl, qa, _, _, _, rfl, rfl, hs, node_at0 _ _ _ _, ?_⟩
  have hk1 : sg.kind ≠ "minus" ∧ sg.kind ≠ "not" := by cases sg <;> decide +kernel
  refine ⟨_, rfl, rfl, _, rfl, ?_⟩
  rw [neS hk1.1]
  refine iteF ⟨_, rfl, rfl, _, rfl, ?_⟩
  rw [neS hk1.2]
  refine iteF ⟨_, rfl, rfl, _, rfl, ?_⟩
  rcases mid_kind sg with ⟨hm, hkd⟩ | hm3
  · rw [eqS hkd]
    refine iteT ⟨_, rfl, _, rfl, qa, _, rfl, hs, node_part _ _ _ _, fun x hx => ?_⟩
    rw [node_cut, hm]
    have s1 : Same H (upd H x (.tup ([V.str sg.text] ++ [v1, v2]))) := same_new hx _
    refine ⟨x, _, rfl, SqT.of upd_same, rfl, _, _, rfl, _, _, rfl, _, _, rfl, rfl, ?_⟩
    refine ⟨_, rfl, _, _, rfl, hT.keep (.of s1), ?_⟩
    refine ⟨_, rfl, rfl, _, rfl, ?_⟩
    have hl4 : decide (V.int (Tr.more t sg o p).loose = V.int 4) = false := by
      refine decide_eq_false fun e => ?_
      have e' : sg.lev = 4 := V.int.inj e
      revert e'
      cases sg <;> decide
    rw [hl4]
    refine iteF ?_
    refine ⟨_, rfl, _, rfl, v1, t, _, rfl, h1.keep (.of s1), he, hlev, hn, hn2, fun H2 s2 => ?_⟩
    refine ⟨_, _, rfl, rfl, z1, _, rfl, _, _, rfl, rfl, z2, _, _, rfl, rfl, z3, ?_⟩
    refine ⟨_, rfl, _, rfl, _, _, rfl, rfl, v2, .one o p, _, rfl, h2'.keep (.of (s1.trans s2)), trivial, hlo, hn1, by show 1 ≤ 1000; decide, fun H3 s3 => ?_⟩
    refine ⟨_, _, rfl, rfl, z4, ?_⟩
    have qq := q _ ((s1.trans s2).trans s3)
    rw [← e0] at qq
    exact qq
  · have hm : sg.mid = [] := by rcases hm3 with h | h | h <;> exact h.1
    have hks : sg.kind ≠ "sign" := by
      rcases hm3 with h | h | h <;> rw [h.2.1] <;> decide +kernel
    have hkt : sg.kind = sg.text := by
      rcases hm3 with h | h | h
      · rw [h.2.2]
        rfl
      · rw [h.2.2]
        rfl
      · exact absurd h.2.2 hp
    rw [neS hks]
    refine iteF ?_
    refine ⟨_, rfl, _, _, rfl, hT, ?_⟩
    obtain ⟨a2, a3⟩ := node_at2'' sg t.pos v1 v2 hm
    refine ⟨_, rfl, qa, _, _, _, rfl, rfl, hs, a2, _, rfl, v1, t, _, rfl, h1, he, hlev, hn, hn2, fun H2 s2 => ?_⟩
    rw [hkt]
    refine ⟨_, _, rfl, rfl, z1, _, rfl, _, _, rfl, rfl, z2, _, _, rfl, rfl, z3, ?_⟩
    refine ⟨_, rfl, qa, _, _, _, rfl, rfl, (KeepT.of s2).sqt hs, a3, _, rfl, _, _, rfl, rfl, v2, .one o p, _, rfl, h2'.keep (.of s2), trivial, hlo, hn1, by show 1 ≤ 1000; decide, fun H3 s3 => ?_⟩
    refine ⟨_, _, rfl, rfl, z4, ?_⟩
    have qq := q _ (s2.trans s3)
    rw [← e0] at qq
    exact qq
theorem c_shown0 (T : Top w K mg C aKEPT aPAIRS aLOOSE aSIGNS) : Cal P w K mg base 2 "shown_tree" (spShown K 0) := by
  obtain ⟨f, fd, F, df, hm, kp⟩ := T.d_shown_tree.ex
  have no : ∀ vs H Q E, ¬ spShown K 0 vs H Q E := fun vs H Q E ⟨_, t, _, _, _, h, _⟩ => by
    cases t <;> exact absurd h (Nat.not_succ_le_zero _)
  exact ⟨f, fd, ["tree"], ⟨fun vs H Q E h => absurd h (no vs H Q E), fun A outer s H args us vs Q E _ _ _ _ h => absurd h (no vs H Q E)⟩, hm, kp,
    F.binds df (fun _ _ _ _ _ _ us hl => match us, hl with | [_], _ => rfl)⟩
theorem c_shownS (T : Top w K mg C aKEPT aPAIRS aLOOSE aSIGNS) (c_shown_tree : Cal P w K mg base k "shown_tree" (spShown K n)) (hk : 2 ≤ k) : Cal P w K mg base (k + 3) "shown_tree" (spShown K (n + 1)) := by
  have c_written0 := c_written T c_shown_tree (by omega)
  have c_show_signs := (c_show_signs T c_written0 (by omega))
  have c_written := c_written0.mono (show k + 1 ≤ k + 2 by omega)
  have c_shown_tree := c_shown_tree.mono (show k ≤ k + 2 by omega)
  have c_show_closed := (c_show_closed (P := P) (base := base) T).mono (show 1 ≤ k + 2 by omega)
  refine cal_by (ps := ["tree"]) T.d_shown_tree sc_shown_tree (fun _ _ _ _ _ _ us hl => match us, hl with | [_], _ => rfl) (fun vs H Q E h => ?_) (fun f cdv A outer s H vs Q E hr h => ?_)
  · obtain ⟨_, _, rfl, _⟩ := h
    rfl
  obtain ⟨v, t, rfl, hT, he, hn, hn2, q⟩ := h
  refine ⟨_, (pss_cons (ps_set (i := 1) sc_shown_tree.nd rfl (Or.inl rfl) (pe_ix ix_tup (pv 0) pe_int (fun _ _ => rfl)))
      (pss_cons (ps_if (pt_cmpR op_eq (pv 1) pe_str (nomark _)) pss_never pss_nil)
      (pss_cons (ps_if (pt_cmpR op_eq (pv 1) pe_str (nomark _)) pss_never pss_nil)
      (pss_cons (ps_if (pt_cmpR op_eq (pv 1) pe_str (nomark _)) (pss_one (ps_ret (pe_op op_add_str (pe_op op_add_str (pe_op op_add_str (pe_c c_written hr (by omega) rfl (pa_cons (pe_ix ix_tup (pv 0) pe_int (fun _ _ => rfl)) (pa_cons pe_int pa_nil))) pe_str) (pe_c c_shown_tree hr (by omega) rfl (pa_cons (pe_ix ix_tup (pv 0) pe_int (fun _ _ => rfl)) pa_nil))) pe_str))) pss_nil)
      (pss_cons (ps_if (pt_cmpR op_eq (pv 1) pe_str (nomark _)) pss_never pss_nil)
      (pss_cons (ps_if (pt_cmpR (opI (K := K)) (pv 1) (pe_tup (pa_cons pe_str (pa_cons pe_str (pa_cons pe_str (pa_cons pe_str (pa_cons pe_str pa_nil)))))) rfl) (pss_one (ps_ret (pe_c c_show_signs hr (by omega) rfl (pa_cons (pv 0) pa_nil)))) pss_nil)
      (pss_one (ps_ret (pe_c c_show_closed hr (by omega) rfl (pa_cons (pv 0) pa_nil)))))))))), ?_⟩
  cases t with
  | one o p =>
    obtain ⟨qa, rfl, hs⟩ := id hT
    refine ⟨_, rfl, qa, _, _, _, rfl, rfl, hs, (show atI (leafL o p) 0 = some (.str o.kind) from rfl), ?_⟩
    have hk1 : o.kind ≠ "if" ∧ o.kind ≠ "let" ∧ o.kind ≠ "pick" ∧ o.kind ≠ "each" ∧ o.kind ∉ (["minus", "not", "sign", "and", "or"] : List Str) := by cases o <;> decide +kernel
    refine ⟨_, rfl, rfl, _, rfl, ?_⟩
    rw [neS hk1.1]
    refine iteF ⟨_, rfl, rfl, _, rfl, ?_⟩
    rw [neS hk1.2.1]
    refine iteF ⟨_, rfl, rfl, _, rfl, ?_⟩
    rw [neS hk1.2.2.1]
    refine iteF ⟨_, rfl, rfl, _, rfl, ?_⟩
    rw [neS hk1.2.2.2.1]
    refine iteF ⟨_, rfl, (by show 5 ≤ sizeLine; decide), fun g hg => ⟨g, _, rfl, .inr (SqT.of upd_same), rfl, rfl, _, rfl, ?_⟩⟩
    have ein : inV (.str o.kind) [V.str "minus", V.str "not", V.str "sign", V.str "and", V.str "or"] = false := (in_strs o.kind ["minus", "not", "sign", "and", "or"]).trans (decide_eq_false hk1.2.2.2.2)
    show if inV (.str o.kind) [V.str "minus", V.str "not", V.str "sign", V.str "and", V.str "or"] = true then _ else _
    rw [ein]
    have s1 : Same H (upd H g (.tup [V.str "minus", V.str "not", V.str "sign", V.str "and", V.str "or"])) := same_new hg _
    exact iteF ⟨_, rfl, _, o, p, rfl, LeafAt.keep hT (.of s1), q _ s1⟩
  | more t sg o p =>
    obtain ⟨qa, v1, v2, rfl, hs, h1, h2⟩ := id hT
    have ht : t.size ≤ n := Nat.le_of_succ_le_succ hn
    have ht2 : t.size ≤ 1000 := Nat.le_of_succ_le hn2
    have ht1 : 1 ≤ t.size := by cases t <;> exact Nat.succ_le_succ (Nat.zero_le _)
    refine ⟨_, rfl, qa, _, _, _, rfl, rfl, hs, node_at0 _ _ _ _, ?_⟩
    have hk1 : sg.kind ≠ "if" ∧ sg.kind ≠ "let" ∧ sg.kind ≠ "each" := by cases sg <;> decide +kernel
    refine ⟨_, rfl, rfl, _, rfl, ?_⟩
    rw [neS hk1.1]
    refine iteF ⟨_, rfl, rfl, _, rfl, ?_⟩
    rw [neS hk1.2.1]
    refine iteF ⟨_, rfl, rfl, _, rfl, ?_⟩
    by_cases hp : sg = .pick
    · subst hp
      rw [eqS (show Sg.pick.kind = "pick" from rfl)]
      have h2' : TrAt K H v2 (.one o p) := h2
      obtain ⟨a2, a3⟩ := node_at2'' .pick t.pos v1 v2 rfl
      have l0 := showM_len t
      have l1 : o.codes.length ≤ 2 := by cases o <;> decide
      refine iteT ⟨_, rfl, qa, _, _, _, rfl, rfl, hs, a2, v1, t, _, rfl, h1, he.1, he.2, ht, ht2, fun H1 s1 => ?_⟩
      refine ⟨_, _, rfl, rfl, ?_, _, rfl, qa, _, _, _, rfl, rfl, (KeepT.of s1).sqt hs, a3, v2, .one o p, rfl, h2'.keep (.of s1), trivial, Nat.le_trans ht1 ht, by show 1 ≤ 1000; decide, fun H2 s2 => ?_⟩
      · rw [lit_br, S_len, S_len]
        exact sl (by show (showM t).length + 1 ≤ 100000; omega)
      refine ⟨_, _, rfl, rfl, ?_, _, _, rfl, rfl, ?_, ?_⟩
      · rw [lit_br, S_cat, S_len, S_len, List.length_append]
        exact sl (by show (showM t).length + 1 + o.codes.length ≤ 100000; omega)
      · rw [lit_br, lit_bl, S_cat, S_cat, S_len, S_len, List.length_append, List.length_append]
        exact sl (by show (showM t).length + 1 + o.codes.length + 1 ≤ 100000; omega)
      have e0 : (S (showM t) ++ "[" ++ S o.codes ++ "]") = S (showM (.more t .pick o p)) := by
        rw [lit_br, lit_bl, S_cat, S_cat, S_cat]
        rfl
      have qq := q _ (s1.trans s2)
      rw [← e0] at qq
      exact qq
    · have hkp : sg.kind ≠ "pick" ∧ sg.kind ∈ (["minus", "not", "sign", "and", "or"] : List Str) := by
        revert hp
        cases sg <;> decide +kernel
      rw [neS hkp.1]
      refine iteF ⟨_, rfl, rfl, _, rfl, ?_⟩
      rw [neS hk1.2.2]
      refine iteF ⟨_, rfl, (by show 5 ≤ sizeLine; decide), fun g hg => ⟨g, _, rfl, .inr (SqT.of upd_same), rfl, rfl, _, rfl, ?_⟩⟩
      have ein : inV (.str sg.kind) [V.str "minus", V.str "not", V.str "sign", V.str "and", V.str "or"] = true := (in_strs sg.kind ["minus", "not", "sign", "and", "or"]).trans (decide_eq_true hkp.2)
      show if inV (.str sg.kind) [V.str "minus", V.str "not", V.str "sign", V.str "and", V.str "or"] = true then _ else _
      rw [ein]
      have s1 : Same H (upd H g (.tup [V.str "minus", V.str "not", V.str "sign", V.str "and", V.str "or"])) := same_new hg _
      exact iteT ⟨_, rfl, _, t, sg, o, p, rfl, hT.keep (.of s1), hp, he, ht, Nat.le_trans ht1 ht, ht2, fun H' s' => q _ (s1.trans s')⟩
theorem c_shown (T : Top w K mg C aKEPT aPAIRS aLOOSE aSIGNS) : ∀ n : Nat, Cal P w K mg base (2 + 3 * n) "shown_tree" (spShown K n)
  | 0 => c_shown0 T
  | n + 1 => (c_shownS T (c_shown T n) (by omega)).mono (by omega)
theorem c_free (T : Top w K mg C aKEPT aPAIRS aLOOSE aSIGNS) : ∀ n : Nat, Cal P w K mg base (2 + n) "free" (spFree K n)
  | 0 => c_free0 T
  | n + 1 => (c_freeS T (c_free T n) (by omega)).mono (by omega)
end
end Lr

set_option maxRecDepth 100000
set_option maxHeartbeats 4200000
namespace Lr
open PySem PySem.Spec L2 SX
/-! ### the law's own helpers -/
def TapeAt (H : Hp) (p : Addr) : Prop := ∃ c b : Int, H p = some (.lst [.int c, .int b]) ∧ 0 ≤ c ∧ 0 ≤ b ∧ b ≤ 4294967296
def spTape (K : PySem.W.Frag) : Sp := fun vs H Q _ => ∃ (a : Addr) (ns : List Int) (st : Int), vs = [.ref a, .int st] ∧ SqL K H a (ns.map V.int) ∧ ns.length ≤ 63 ∧ 0 ≤ st ∧ st ≤ 100 ∧
  ∀ H' p, Same H H' → H p = none → TapeAt H' p → Q (.ref p) H'
def spDigit : Sp := fun vs H Q _ => ∃ (p : Addr) (m : Int), vs = [.ref p, .int m] ∧ TapeAt H p ∧ 0 < m ∧ m ≤ 1000 ∧
  ∀ H' d, Kp p H H' → KeepT H H' → (∀ q, H q = none → H' q = none) → TapeAt H' p → 0 ≤ d → d < m → Q (.int d) H'
def spLeaf (K : PySem.W.Frag) : Sp := fun vs H Q _ => ∃ (o : Opd) (p : Nat), vs = [.str o.text, .int p] ∧ ∀ H' v, Same H H' → LeafAt K H' v o p → Q v H'
theorem upd_keep {H : Hp} {p : Addr} {o u : HO} (h : H p = some u) : ∀ q, H q = none → upd H p o q = none := fun q e => by rw [upd_ne (ne_of_none h e).symm]; exact e
def keyO : Opd → Key
  | o => .inr o.text
def Tr.shift (n : Nat) : Tr → Tr
  | .one o p => .one o (p + n)
  | .more t s o p => .more (t.shift n) s o (p + n)
theorem shift_pos (n : Nat) : ∀ t : Tr, (t.shift n).pos = t.pos + n
  | .one _ _ => rfl
  | .more t _ _ _ => shift_pos n t
def spMoved (K : PySem.W.Frag) (n : Nat) : Sp := fun vs H Q _ => ∃ (v : V) (t : Tr) (b : Nat), vs = [v, .int b] ∧ TrAt K H v t ∧ t.size ≤ n ∧ ∀ H' v', Same H H' → TrAt K H' v' (t.shift b) → Q v' H'
/-- parts beyond the first two, moved -/
inductive Part where
  | flat (v : V)
  | tree (t : Tr)
def PartAt (K : PySem.W.Frag) (H : Hp) : V → Part → Prop
  | v, .flat u => v = u ∧ ((∃ z, u = .str z) ∨ ∃ i, u = .int i)
  | v, .tree t => TrAt K H v t
def Part.shift (n : Nat) : Part → Part
  | .flat v => .flat v
  | .tree t => .tree (t.shift n)
def PartsAt (K : PySem.W.Frag) (H : Hp) : List V → List Part → Prop
  | [], [] => True
  | v :: vs, p :: ps => PartAt K H v p ∧ PartsAt K H vs ps
  | _, _ => False
theorem PartAt.keep {K : PySem.W.Frag} {H H' : Hp} (k : KeepT H H') {v : V} {p : Part} (h : PartAt K H v p) : PartAt K H' v p := by
  cases p with
  | flat u => exact h
  | tree t => exact TrAt.keep k h
theorem PartsAt.keep {K : PySem.W.Frag} {H H' : Hp} (k : KeepT H H') : ∀ {vs : List V} {ps : List Part}, PartsAt K H vs ps → PartsAt K H' vs ps
  | [], [], _ => trivial
  | _ :: _, _ :: _, ⟨h, r⟩ => ⟨h.keep k, PartsAt.keep k r⟩
  | [], _ :: _, h => h.elim
  | _ :: _, [], h => h.elim
theorem PartsAt.get {K : PySem.W.Frag} {H : Hp} : ∀ {vs : List V} {ps : List Part} {i : Nat} {v : V}, PartsAt K H vs ps → vs[i]? = some v → ∃ p, ps[i]? = some p ∧ PartAt K H v p
  | _ :: _, p :: _, 0, _, ⟨h, _⟩, e => ⟨p, rfl, by cases e; exact h⟩
  | _ :: _, _ :: _, i + 1, _, ⟨_, r⟩, e => PartsAt.get (i := i) r e
  | [], _, _, _, _, e => by cases e
  | _ :: _, [], _, _, h, _ => h.elim
theorem PartsAt.snoc {K : PySem.W.Frag} {H : Hp} {v : V} {p : Part} (h : PartAt K H v p) : ∀ {vs : List V} {ps : List Part}, PartsAt K H vs ps → PartsAt K H (vs ++ [v]) (ps ++ [p])
  | [], [], _ => ⟨h, trivial⟩
  | _ :: _, _ :: _, ⟨h', r⟩ => ⟨h', PartsAt.snoc h r⟩
  | [], _ :: _, h => h.elim
  | _ :: _, [], h => h.elim
theorem PartsAt.len {K : PySem.W.Frag} {H : Hp} : ∀ {vs : List V} {ps : List Part}, PartsAt K H vs ps → vs.length = ps.length
  | [], [], _ => rfl
  | _ :: _, _ :: _, ⟨_, r⟩ => congrArg Nat.succ (PartsAt.len r)
  | [], _ :: _, h => h.elim
  | _ :: _, [], h => h.elim
def Tr.parts : Tr → List Part
  | .one o _ => [.flat o.worth]
  | .more t s o p => s.mid.map Part.flat ++ [Part.tree t, Part.tree (.one o p)]
def Tr.kind : Tr → Str
  | .one o _ => o.kind
  | .more _ s _ _ => s.kind
theorem parts_shift (n : Nat) (t : Tr) : (t.shift n).parts = t.parts.map (Part.shift n) := by
  cases t with
  | one o p => rfl
  | more t s o p =>
    show s.mid.map Part.flat ++ [Part.tree (t.shift n), Part.tree (.one o (p + n))] = (s.mid.map Part.flat ++ [Part.tree t, Part.tree (.one o p)]).map (Part.shift n)
    rcases mid_str s with e | e <;> rw [e] <;> rfl
theorem kind_shift (n : Nat) (t : Tr) : (t.shift n).kind = t.kind := by cases t <;> rfl
theorem flat_parts {K : PySem.W.Frag} {H : Hp} (s : Sg) {vs : List V} {ps : List Part} (h : PartsAt K H vs ps) : PartsAt K H (s.mid ++ vs) (s.mid.map Part.flat ++ ps) := by
  rcases mid_str s with e | e <;> rw [e]
  · exact h
  · exact ⟨⟨rfl, .inl ⟨_, rfl⟩⟩, h⟩
/-- a tree as its kind, its place and its parts -/
theorem tr_open {K : PySem.W.Frag} {H : Hp} {v : V} {t : Tr} (h : TrAt K H v t) : ∃ q vs, v = .ref q ∧ SqT K H q (.str t.kind :: .int t.pos :: vs) ∧ PartsAt K H vs t.parts := by
  cases t with
  | one o p =>
    obtain ⟨q, e, hs⟩ := h
    refine ⟨q, [o.worth], e, hs, ⟨rfl, ?_⟩, trivial⟩
    cases o <;> first | exact .inl ⟨_, rfl⟩ | exact .inr ⟨_, rfl⟩
  | more t s o p =>
    obtain ⟨q, v1, v2, e, hs, h1, h2⟩ := h
    exact ⟨q, s.mid ++ [v1, v2], e, hs, flat_parts s ⟨h1, h2, trivial⟩⟩
theorem parts_two {K : PySem.W.Frag} {H : Hp} {vs : List V} {t1 t2 : Tr} (h : PartsAt K H vs [.tree t1, .tree t2]) : ∃ v1 v2, vs = [v1, v2] ∧ TrAt K H v1 t1 ∧ TrAt K H v2 t2 := by
  match vs, h with
  | [v1, v2], ⟨h1, h2, _⟩ => exact ⟨v1, v2, rfl, h1, h2⟩
theorem tr_close {K : PySem.W.Frag} {H : Hp} {q : Addr} {vs : List V} {t : Tr} (hs : SqT K H q (.str t.kind :: .int t.pos :: vs)) (hp : PartsAt K H vs t.parts) : TrAt K H (.ref q) t := by
  cases t with
  | one o p =>
    match vs, hp with
    | [v], ⟨⟨e, _⟩, _⟩ =>
      subst e
      exact ⟨q, rfl, hs⟩
  | more t s o p =>
    have hp : PartsAt K H vs (s.mid.map Part.flat ++ [Part.tree t, Part.tree (.one o p)]) := hp
    rcases mid_str s with e | e
    · rw [e] at hp
      obtain ⟨v1, v2, rfl, h1, h2⟩ := parts_two hp
      refine ⟨q, v1, v2, rfl, ?_, h1, h2⟩
      unfold nodeL
      rw [e]
      exact hs
    · rw [e] at hp
      match vs, hp with
      | v :: vs, ⟨⟨e1, _⟩, hp⟩ =>
        obtain ⟨v1, v2, rfl, h1, h2⟩ := parts_two hp
        refine ⟨q, v1, v2, rfl, ?_, h1, h2⟩
        unfold nodeL
        rw [e]
        subst e1
        exact hs
theorem parts_few (t : Tr) : t.parts.length ≤ 3 ∧ 1 ≤ t.parts.length := by
  cases t with
  | one o p => exact ⟨by show 1 ≤ 3; decide, Nat.le_refl _⟩
  | more t s o p =>
    show (s.mid.map Part.flat ++ [Part.tree t, Part.tree (.one o p)]).length ≤ 3 ∧ 1 ≤ (s.mid.map Part.flat ++ [Part.tree t, Part.tree (.one o p)]).length
    rcases mid_str s with e | e <;> rw [e] <;> exact ⟨by simp, by simp⟩
theorem cut2 (a b : V) (vs : List V) : cutV (a :: b :: vs) (some 2) none = vs := by
  have h1 : HT.sIx (a :: b :: vs).length 0 (some ((2 : Nat) : Int)) = 2 := by
    rw [HT.sIx_nat]
    simp
  show ((a :: b :: vs).drop (HT.sIx (a :: b :: vs).length 0 (some ((2 : Nat) : Int)))).take ((a :: b :: vs).length - HT.sIx (a :: b :: vs).length 0 (some ((2 : Nat) : Int))) = vs
  rw [h1]
  show vs.take (vs.length + 1 + 1 - 2) = vs
  rw [show vs.length + 1 + 1 - 2 = vs.length by omega, List.take_length]
theorem cut2_part (a b : V) (vs : List V) : ¬ (HT.sIx (a :: b :: vs).length 0 (some 2) = 0 ∧ HT.sIx (a :: b :: vs).length (a :: b :: vs).length none = (a :: b :: vs).length) := by
  rintro ⟨h, _⟩
  have h1 : HT.sIx (a :: b :: vs).length 0 (some ((2 : Nat) : Int)) = 2 := by
    rw [HT.sIx_nat]
    simp
  have h2 : HT.sIx (a :: b :: vs).length 0 (some ((2 : Nat) : Int)) = 0 := h
  rw [h1] at h2
  cases h2
section
variable {P : Program} {w : World} {K : PySem.W.Frag} {mg : Str → Option Value} {base : Heap} {C aKEPT aPAIRS aLOOSE aSIGNS : Addr} {k m n : Nat}
theorem c__law_tape (T : Top w K mg C aKEPT aPAIRS aLOOSE aSIGNS) : Cal P w K mg base 1 "_law_tape" (spTape K) := by
  refine cal_by (ps := ["_law_script", "_law_start"]) T.d__law_tape sc__law_tape (fun _ _ _ _ _ _ us hl => match us, hl with | [_, _], _ => rfl) (fun vs H Q E h => ?_) (fun f cdv A outer s H vs Q E hr h => ?_)
  · obtain ⟨_, _, _, rfl, _⟩ := h
    rfl
  obtain ⟨a, ns, st, rfl, hS, hl, h0, h1, q⟩ := h
  refine ⟨_, (pss_cons (ps_set (i := 2) sc__law_tape.nd rfl (Or.inl rfl) pe_int)
      (C8.pss_cut (ps_if (pt_cmpR op_lt (pv 1) (pe_callB call_len_seq rfl T.n_len (by decide +kernel) (pa_cons (pv 0) pa_nil)) (nomark _)) (pss_one (ps_set (i := 2) sc__law_tape.nd rfl (Or.inl rfl) (pe_callB call_abs rfl T.n_abs (by decide +kernel) (pa_cons (pe_ix ix_list (pv 0) (pv 1) (fun _ _ => rfl)) pa_nil)))) pss_nil)
      (pss_one (ps_ret (pe_lst (pa_cons (pv 2) (pa_cons (pe_op op_add (pe_op op_modN (pe_op op_add (pe_op op_mul (pv 1) pe_int) (pv 2)) pe_int) pe_int) pa_nil))))))), ?_⟩
  refine ⟨fun σ' H' => ∃ c : Int, 0 ≤ c ∧ σ' = [some (.ref a), some (.int st), some (.int c)] ∧ H' = H, ?_, ?_⟩
  · refine ⟨_, rfl, _, rfl, a, _, rfl, .inl hS, _, _, rfl, rfl, _, rfl, ?_⟩
    refine ite2 (fun c => ?_) (fun c => ?_)
    · have hc := of_decide_eq_true c
      rw [List.length_map] at hc
      obtain ⟨j, rfl⟩ : ∃ j : Nat, st = (j : Int) := ⟨st.toNat, by omega⟩
      have hj : j < ns.length := by omega
      have hg : (ns.map V.int)[j]? = some (.int ns[j]) := by rw [List.getElem?_map, List.getElem?_eq_getElem hj] <;> rfl
      refine ⟨_, rfl, _, rfl, a, _, _, _, rfl, rfl, hS, at_nat hg, _, rfl, (if ns[j] < 0 then -ns[j] else ns[j]), ?_, rfl, rfl⟩
      split <;> omega
    · exact ⟨0, Int.le_refl 0, rfl, rfl⟩
  rintro σ' H' ⟨c, hc, rfl, rfl⟩
  refine ⟨_, rfl, _, rfl, _, _, rfl, rfl, .inl ⟨by omega, by omega⟩, _, rfl, _, _, rfl, rfl, _, _, rfl, rfl, (by show (998244353 : Int) ≠ 0; decide), _, _, rfl, rfl, (by show 2 ≤ sizeLine; decide), fun p hp => ?_⟩
  refine q _ p (same_new hp _) hp ⟨c, _, upd_same, hc, ?_, ?_⟩
  · have := Int.fmod_nonneg (a := st * 7919 + c) (b := 998244353) (by omega) (by decide)
    omega
  · have := Int.fmod_lt_of_pos (st * 7919 + c) (b := 998244353) (by decide)
    omega
theorem c__law_digit (T : Top w K mg C aKEPT aPAIRS aLOOSE aSIGNS) : Cal P w K mg base 1 "_law_digit" spDigit := by
  refine cal_by (ps := ["_law_tape_here", "_law_many"]) T.d__law_digit sc__law_digit (fun _ _ _ _ _ _ us hl => match us, hl with | [_, _], _ => rfl) (fun vs H Q E h => ?_) (fun f cdv A outer s H vs Q E hr h => ?_)
  · obtain ⟨_, _, rfl, _⟩ := h
    rfl
  obtain ⟨p, m, rfl, ⟨c, b, hp, hc, hb0, hb⟩, hm0, hm, q⟩ := h
  have a0 : ∀ c b : Int, atI [V.int c, V.int b] 0 = some (.int c) := fun _ _ => rfl
  have a1 : ∀ c b : Int, atI [V.int c, V.int b] 1 = some (.int b) := fun _ _ => rfl
  refine ⟨_, (pss_cons (ps_if (pt_cmpR op_gt (pe_ix ix_list (pv 0) pe_int (fun _ _ => rfl)) pe_int (nomark _)) (pss_cons (ps_set (i := 2) sc__law_digit.nd rfl (Or.inl rfl) (pe_op op_modN (pe_ix ix_list (pv 0) pe_int (fun _ _ => rfl)) (pv 1)))
      (pss_cons (ps_asg (pe_op op_fdivN (pe_ix ix_list (pv 0) pe_int (fun _ _ => rfl)) (pv 1)) (pg_sub (pv 0) pe_int set_list))
      (pss_one (ps_ret (pv 2))))) pss_nil)
      (pss_cons (ps_asg (pe_op op_modN (pe_op op_add (pe_op op_mul (pe_ix ix_list (pv 0) pe_int (fun _ _ => rfl)) pe_int) pe_int) pe_int) (pg_sub (pv 0) pe_int set_list))
      (pss_cons (ps_set (i := 3) sc__law_digit.nd rfl (Or.inl rfl) (pe_op op_modN (pe_op op_mul (pe_ix ix_list (pv 0) pe_int (fun _ _ => rfl)) pe_int) pe_int))
      (pss_one (ps_ret (pe_op op_modN (pe_op op_add (pe_op op_mul (pe_op op_modN (pe_op op_mul (pe_ix ix_list (pv 0) pe_int (fun _ _ => rfl)) (pe_ix ix_list (pv 0) pe_int (fun _ _ => rfl))) pe_int) pe_int) (pv 3)) (pv 1))))))), ?_⟩
  refine ⟨_, rfl, p, _, _, _, rfl, rfl, SqL.of hp, a0 c b, _, _, rfl, rfl, _, rfl, ?_⟩
  refine ite2 (fun cc => ?_) (fun cc => ?_)
  · refine ⟨_, rfl, p, _, _, _, rfl, rfl, SqL.of hp, a0 c b, _, rfl, _, _, rfl, rfl, by omega, ?_⟩
    refine ⟨_, rfl, p, _, _, _, rfl, rfl, SqL.of hp, a0 c b, _, rfl, _, _, rfl, rfl, ⟨by omega, by omega⟩, ?_⟩
    refine ⟨_, rfl, p, _, _, 0, rfl, rfl, hp, rfl, ?_⟩
    refine ⟨_, rfl, q _ _ (Kp.put p H _) (KeepT.put hp _) (upd_keep hp) ⟨_, b, upd_same, ?_, hb0, hb⟩ (Int.fmod_nonneg hc (by omega)) (Int.fmod_lt_of_pos _ hm0)⟩
    exact Int.fdiv_nonneg hc (by omega)
  · have hmul : ∀ x : Int, 0 ≤ x → x ≤ 4294967296 → (-(2 ^ 64) < x ∧ x < 2 ^ 64) := fun x h0 h1 => ⟨by omega, by omega⟩
    refine ⟨_, rfl, p, _, _, _, rfl, rfl, SqL.of hp, a1 c b, _, _, rfl, rfl, .inl (hmul b hb0 hb), _, _, rfl, rfl, _, _, rfl, rfl, (by show (2147483647 : Int) ≠ 0; decide), ?_⟩
    have h1 := Int.fmod_nonneg (a := b * 48271 + 11) (b := 2147483647) (by omega) (by decide)
    have h2 := Int.fmod_lt_of_pos (b * 48271 + 11) (b := 2147483647) (by decide)
    refine ⟨_, rfl, p, _, _, 1, rfl, rfl, hp, rfl, ?_⟩
    have hp2 : (upd H p (.lst ([V.int c, V.int b].set 1 (V.int ((b * 48271 + 11).fmod 2147483647))))) p = some (.lst [.int c, .int ((b * 48271 + 11).fmod 2147483647)]) := upd_same
    refine ⟨_, rfl, p, _, _, _, rfl, rfl, SqL.of hp2, a1 c ((b * 48271 + 11).fmod 2147483647), _, _, rfl, rfl, .inl (hmul ((b * 48271 + 11).fmod 2147483647) h1 (by omega)), _, _, rfl, rfl, (by show (2147483399 : Int) ≠ 0; decide), ?_⟩
    have h3 := Int.fmod_nonneg (a := ((b * 48271 + 11).fmod 2147483647) * 40692) (b := 2147483399) (by omega) (by decide)
    have h4 := Int.fmod_lt_of_pos (((b * 48271 + 11).fmod 2147483647) * 40692) (b := 2147483399) (by decide)
    have h5 := Int.fmod_nonneg (a := ((b * 48271 + 11).fmod 2147483647) * ((b * 48271 + 11).fmod 2147483647)) (b := 2147483629) (Int.mul_nonneg h1 h1) (by decide)
    have h6 := Int.fmod_lt_of_pos (((b * 48271 + 11).fmod 2147483647) * ((b * 48271 + 11).fmod 2147483647)) (b := 2147483629) (by decide)
    refine ⟨_, rfl, p, _, _, _, rfl, rfl, SqL.of hp2, a1 c ((b * 48271 + 11).fmod 2147483647), _, rfl, p, _, _, _, rfl, rfl, SqL.of hp2, a1 c ((b * 48271 + 11).fmod 2147483647), _, _, rfl, rfl, .inl (hmul ((b * 48271 + 11).fmod 2147483647) h1 (by omega)), ?_⟩
    refine ⟨_, _, rfl, rfl, (by show (2147483629 : Int) ≠ 0; decide), _, _, rfl, rfl, .inl (hmul _ h5 (by omega)), _, rfl, _, _, rfl, rfl, _, rfl, _, _, rfl, rfl, by omega, ?_⟩
    refine q _ _ (Kp.put p H _) (KeepT.put hp _) (upd_keep hp) ⟨c, ((b * 48271 + 11).fmod 2147483647), upd_same, hc, h1, by omega⟩ (Int.fmod_nonneg ?_ (by omega)) (Int.fmod_lt_of_pos _ hm0)
    have := Int.mul_nonneg h5 (show (0 : Int) ≤ 2147483399 by decide)
    omega
theorem c__law_leaf (T : Top w K mg C aKEPT aPAIRS aLOOSE aSIGNS) : Cal P w K mg base 1 "_law_leaf" (spLeaf K) := by
  refine cal_by (ps := ["_law_text", "_law_at"]) T.d__law_leaf sc__law_leaf (fun _ _ _ _ _ _ us hl => match us, hl with | [_, _], _ => rfl) (fun vs H Q E h => ?_) (fun f cdv A outer s H vs Q E hr h => ?_)
  · obtain ⟨_, _, rfl, _⟩ := h
    rfl
  obtain ⟨o, p, rfl, q⟩ := h
  refine ⟨_, (pss_cons (ps_set (i := 2) sc__law_leaf.nd rfl (Or.inl rfl) (pe_disp (pps_cons pe_str (pe_tup (pa_cons pe_str (pa_cons (pv 1) (pa_cons pe_str pa_nil)))) (pps_cons pe_str (pe_tup (pa_cons pe_str (pa_cons (pv 1) (pa_cons pe_str pa_nil)))) (pps_cons pe_str (pe_tup (pa_cons pe_str (pa_cons (pv 1) (pa_cons pe_int pa_nil)))) (pps_cons pe_str (pe_tup (pa_cons pe_str (pa_cons (pv 1) (pa_cons pe_str pa_nil)))) pps_nil)))) (by rfl) (by rfl) (fun z => by cases z) (by decide)))
      (pss_one (ps_ret (pe_dget hr.hu (pv 2) (pv 0) (fun _ _ => rfl))))), ?_⟩
  intro D hD
  have s0 := same_new hD (.dK [])
  refine ⟨_, rfl, (by show 3 ≤ sizeLine; decide), fun q1 n1 => ?_⟩
  have s1 := s0.trans (same_new n1 (.tup (leafL .a p)))
  refine ⟨_, rfl, (by show 3 ≤ sizeLine; decide), fun q2 n2 => ?_⟩
  have s2 := s1.trans (same_new n2 (.tup (leafL .b p)))
  refine ⟨_, rfl, (by show 3 ≤ sizeLine; decide), fun q3 n3 => ?_⟩
  have s3 := s2.trans (same_new n3 (.tup (leafL .seven p)))
  refine ⟨_, rfl, (by show 3 ≤ sizeLine; decide), fun q4 n4 => ?_⟩
  have s4 := s3.trans (same_new n4 (.tup (leafL .quote p)))
  have k2 := same_new n2 (.tup (leafL .b p))
  have k3 := same_new n3 (.tup (leafL .seven p))
  have k4 := same_new n4 (.tup (leafL .quote p))
  have hDD := k4 _ _ (k3 _ _ (k2 _ _ (same_new n1 (.tup (leafL .a p)) _ _ upd_same)))
  refine ⟨hDD, [(keyO .a, .ref q1), (keyO .b, .ref q2), (keyO .seven, .ref q3), (keyO .quote, .ref q4)], rfl, by show 4 ≤ 15; decide, ?_⟩
  have ne : ∀ {a b : Opd}, a ≠ b → ¬ keyO a = keyO b := fun {a b} h e => by
    have e1 : a.text = b.text := Sum.inr.inj e
    revert e1 h
    cases a <;> cases b <;> decide +kernel
  have hv : ∃ qo, valV (mergeK [] [(keyO .a, V.ref q1), (keyO .b, .ref q2), (keyO .seven, .ref q3), (keyO .quote, .ref q4)]) (keyO o) = some (.ref qo) ∧
      (upd (upd (upd (upd (upd H D (.dK [])) q1 (.tup (leafL .a p))) q2 (.tup (leafL .b p))) q3 (.tup (leafL .seven p))) q4 (.tup (leafL .quote p))) qo = some (.tup (leafL o p)) := by
    show ∃ qo, valV (putK (putK (putK (putK [] (keyO .a) (V.ref q1)) (keyO .b) (.ref q2)) (keyO .seven) (.ref q3)) (keyO .quote) (.ref q4)) (keyO o) = some (.ref qo) ∧ _
    rw [valV_put, valV_put, valV_put, valV_put]
    cases o with
    | a => exact ⟨q1, by rw [if_neg (ne (by decide)), if_neg (ne (by decide)), if_neg (ne (by decide)), if_pos rfl], k4 _ _ (k3 _ _ (k2 _ _ upd_same))⟩
    | b => exact ⟨q2, by rw [if_neg (ne (by decide)), if_neg (ne (by decide)), if_pos rfl], k4 _ _ (k3 _ _ upd_same)⟩
    | seven => exact ⟨q3, by rw [if_neg (ne (by decide)), if_pos rfl], k4 _ _ upd_same⟩
    | quote => exact ⟨q4, by rw [if_pos rfl], upd_same⟩
  obtain ⟨qo, hv1, hv2⟩ := hv
  have fin : ∀ (H' : Hp), H' = upd (upd (upd (upd (upd (upd H D (.dK [])) q1 (.tup (leafL .a p))) q2 (.tup (leafL .b p))) q3 (.tup (leafL .seven p))) q4 (.tup (leafL .quote p))) D (.dK (mergeK [] [(keyO .a, V.ref q1), (keyO .b, .ref q2), (keyO .seven, .ref q3), (keyO .quote, .ref q4)])) → Q (.ref qo) H' := fun H' e => by
    subst e
    refine q _ _ (fun b u hb => ?_) ⟨qo, rfl, SqT.of ?_⟩
    · rw [upd_ne (ne_of_none hb hD)]
      exact s4 b u hb
    · rw [upd_ne (ne_of hv2 hDD (by intro z; cases z))]
      exact hv2
  refine ⟨_, rfl, _, rfl, D, _, rfl, ?_, fin _ rfl⟩
  have g : DGet (upd (upd (upd (upd (upd (upd H D (.dK [])) q1 (.tup (leafL .a p))) q2 (.tup (leafL .b p))) q3 (.tup (leafL .seven p))) q4 (.tup (leafL .quote p))) D (.dK (mergeK [] [(keyO .a, V.ref q1), (keyO .b, .ref q2), (keyO .seven, .ref q3), (keyO .quote, .ref q4)]))) D (kV (keyO o)) _ := DGet.k upd_same
  rw [hv1] at g
  exact g
theorem c__law_moved0 (T : Top w K mg C aKEPT aPAIRS aLOOSE aSIGNS) : Cal P w K mg base 1 "_law_moved" (spMoved K 0) := by
  obtain ⟨f, fd, F, df, hm, kp⟩ := T.d__law_moved.ex
  have no : ∀ vs H Q E, ¬ spMoved K 0 vs H Q E := fun vs H Q E ⟨_, t, _, _, _, h, _⟩ => by
    cases t <;> exact absurd h (Nat.not_succ_le_zero _)
  exact ⟨f, fd, ["_law_tree", "_law_by"], ⟨fun vs H Q E h => absurd h (no vs H Q E), fun A outer s H args us vs Q E _ _ _ _ h => absurd h (no vs H Q E)⟩, hm, kp,
    F.binds df (fun _ _ _ _ _ _ us hl => match us, hl with | [_, _], _ => rfl)⟩
theorem parts_size {t t' : Tr} {i : Nat} (h : t.parts[i]? = some (.tree t')) : t'.size + 1 ≤ t.size := by
  have hm := List.mem_of_getElem? h
  cases t with
  | one o p =>
    rcases List.mem_singleton.mp hm with h
    cases h
  | more t s o p =>
    have hm : Part.tree t' ∈ s.mid.map Part.flat ++ [Part.tree t, Part.tree (.one o p)] := hm
    obtain hm | hm := List.mem_append.mp hm
    · obtain ⟨_, _, e⟩ := List.mem_map.mp hm
      cases e
    · have ht : 1 ≤ t.size := by cases t <;> exact Nat.succ_le_succ (Nat.zero_le _)
      obtain e | hm := List.mem_cons.mp hm
      · cases e
        exact Nat.le_refl _
      · rcases List.mem_singleton.mp hm with e
        cases e
        exact Nat.succ_le_succ ht
theorem c__law_movedS (T : Top w K mg C aKEPT aPAIRS aLOOSE aSIGNS) (c__law_moved : Cal P w K mg base k "_law_moved" (spMoved K n)) : Cal P w K mg base (k + 1) "_law_moved" (spMoved K (n + 1)) := by
  refine cal_by (ps := ["_law_tree", "_law_by"]) T.d__law_moved sc__law_moved (fun _ _ _ _ _ _ us hl => match us, hl with | [_, _], _ => rfl) (fun vs H Q E h => ?_) (fun f cdv A outer s H vs Q E hr h => ?_)
  · obtain ⟨_, _, _, rfl, _⟩ := h
    rfl
  obtain ⟨v, t, b, rfl, hT, hn, q⟩ := h
  obtain ⟨qa, vs, rfl, hs, hP⟩ := tr_open hT
  refine ⟨_, (pss_cons (ps_set (i := 2) sc__law_moved.nd rfl (Or.inl rfl) (pe_lst (pa_cons (pe_ix ix_tup (pv 0) pe_int (fun _ _ => rfl)) (pa_cons (pe_op op_add (pe_ix ix_tup (pv 0) pe_int (fun _ _ => rfl)) (pv 1)) pa_nil))))
      (pss_cons (ps_for PassesOwn.never rfl (pi_tup (pe_slice sl_tup (pv 0) (po_some pe_int) po_none)) (pg_name (i := 3) sc__law_moved.nd rfl (Or.inl rfl)) (C8.pss_cut (ps_if (pt_val (pe_callB call_isi rfl T.n_isinstance (by decide +kernel) (pa_cons (pv 3) (pa_cons (pe_bltn (v := .ty "tuple") rfl T.n_tuple (by decide +kernel) rfl) pa_nil)))) (pss_one (ps_set (i := 3) sc__law_moved.nd rfl (Or.inl rfl) (pe_c c__law_moved hr (by omega) rfl (pa_cons (pv 3) (pa_cons (pv 1) pa_nil))))) pss_nil)
      (pss_one (ps_expr (pe_bm PySem.F.plainAttrs_list PySem.F.slot_list_append PySem.F.type_list_append mt_append (pv 2) (pa_cons (pv 3) pa_nil))))))
      (pss_one (ps_ret (pe_callTy call_tuple_of rfl T.n_tuple (by decide +kernel) (pa_cons (pv 2) pa_nil)))))), ?_⟩
  refine ⟨_, rfl, qa, _, _, _, rfl, rfl, hs, at_nat (n := 0) rfl, _, rfl, qa, _, _, _, rfl, rfl, hs, at_nat (n := 1) rfl, _, rfl, _, _, rfl, rfl, (by show 2 ≤ sizeLine; decide), fun F hF => ?_⟩
  have s1 : Same H (upd H F (.lst [.str t.kind, .int ((t.pos : Int) + (b : Int))])) := same_new hF _
  refine ⟨_, rfl, _, rfl, qa, _, rfl, (KeepT.of s1).sqt hs, cut2_part _ _ _, fun x hx => ?_⟩
  rw [cut2]
  have s2 := s1.trans (same_new hx (.tup vs))
  have nFx : F ≠ x := ne_of_none upd_same hx
  refine ⟨x, rfl, ⟨_, SqT.of upd_same⟩, ?_⟩
  refine for_tup (K := K) (a := x) (xs := vs) (fun i σ H' => ∃ o ys, σ = [some (.ref qa), some (.int b), some (.ref F), o] ∧ Same H H' ∧ H' x = some (.tup vs) ∧ H' F = some (.lst ([.str t.kind, .int ((t.pos : Int) + (b : Int))] ++ ys)) ∧ PartsAt K H' ys ((t.parts.take i).map (Part.shift b)))
    ⟨none, [], rfl, s2, upd_same, by rw [upd_ne nFx]; exact upd_same, trivial⟩ ?_ ?_ ?_
  · rintro i σ H' _ ⟨_, _, _, _, h, _⟩
    exact SqT.of h
  · rintro i y σ H' hi ⟨o, ys, rfl, s3, hx3, hF3, hP3⟩
    obtain ⟨pt, hpt, hpa⟩ := hP.get hi
    have htake : (t.parts.take (i + 1)).map (Part.shift b) = (t.parts.take i).map (Part.shift b) ++ [pt.shift b] := by
      obtain ⟨hj, e⟩ := List.getElem?_eq_some_iff.mp hpt
      rw [← e, ← List.take_append_getElem hj, List.map_append]
      rfl
    have hys : ys.length ≤ 100 := by
      rw [hP3.len, List.length_map, List.length_take]
      have := (parts_few t).1
      omega
    refine ⟨fun σ' H'' => ∃ y', σ' = [some (.ref qa), some (.int b), some (.ref F), some y'] ∧ Same H' H'' ∧ PartAt K H'' y' (pt.shift b), ?_, ?_⟩
    · cases pt with
      | flat u =>
        obtain ⟨rfl, hu⟩ := hpa
        have hty : ∃ ty, TyX K H' y (.type ty) ∧ PySem.W.kitOne K (.type ty) (.type "tuple") = some false := by
          rcases hu with ⟨z, rfl⟩ | ⟨z, rfl⟩
          · exact ⟨"str", .base (.str _), kit_ty (by decide +kernel)⟩
          · exact ⟨"int", .base (.int _), kit_ty (by decide +kernel)⟩
        obtain ⟨ty, h1, h2⟩ := hty
        refine ⟨_, rfl, _, _, _, _, false, rfl, .ty _, h1, h2, _, rfl, ?_⟩
        exact iteF ⟨_, rfl, Same.refl _, rfl, hu⟩
      | tree t' =>
        have hT' : TrAt K H y t' := hpa
        obtain ⟨q1, xs1, rfl, hq1⟩ := hT'.ref
        refine ⟨_, rfl, _, _, _, _, true, rfl, .ty _, tyx_tup ((KeepT.of s3).sqt hq1), kit_ty (by decide +kernel), _, rfl, ?_⟩
        refine iteT ⟨_, rfl, _, rfl, _, t', b, rfl, hT'.keep (.of s3), ?_, fun H4 v4 s4 h4 => ⟨v4, rfl, s4, h4⟩⟩
        have := parts_size hpt
        omega
    · rintro σ' H4 ⟨y', rfl, s4, hy'⟩
      have hF4 := s4 _ _ hF3
      refine ⟨_, rfl, .inl ⟨rfl, _, SqL.of hF4⟩, _, rfl, F, _, _, rfl, rfl, hF4, ?_, ?_⟩
      · rw [List.length_append]
        exact slt (by show 2 + ys.length ≤ 100000; omega)
      have kk : KeepT H4 (upd H4 F (.lst ([.str t.kind, .int ((t.pos : Int) + (b : Int))] ++ ys ++ [y']))) := KeepT.put hF4 _
      refine ⟨_, ys ++ [y'], rfl, fun c u e => ?_, ?_, by rw [upd_same, List.append_assoc], ?_⟩
      · rw [upd_ne (ne_of_none e hF)]
        exact s4 _ _ (s3 c u e)
      · exact kk.tup _ _ (s4 _ _ hx3)
      · rw [htake]
        exact PartsAt.snoc (hy'.keep kk) ((hP3.keep (.of s4)).keep kk)
  · rintro σ H' ⟨o, ys, rfl, s3, hx3, hF3, hP3⟩
    refine ⟨_, rfl, F, _, rfl, .inl ⟨SqL.of hF3, fun l hl => ?_⟩⟩
    rw [hP.len, List.take_length, ← parts_shift] at hP3
    have s4 : Same H' (upd H' l (.tup ([.str t.kind, .int ((t.pos : Int) + (b : Int))] ++ ys))) := same_new hl _
    refine q _ _ (s3.trans s4) (tr_close (t := t.shift b) (vs := ys) ?_ (hP3.keep (.of s4)))
    rw [kind_shift, shift_pos]
    exact SqT.of upd_same
theorem c__law_moved (T : Top w K mg C aKEPT aPAIRS aLOOSE aSIGNS) : ∀ n : Nat, Cal P w K mg base (1 + n) "_law_moved" (spMoved K n)
  | 0 => c__law_moved0 T
  | n + 1 => (c__law_movedS T (c__law_moved T n)).mono (by omega)
end
end Lr

set_option maxRecDepth 100000
set_option maxHeartbeats 4200000
namespace Lr
open PySem PySem.Spec L2 SX
/-! ### a row: operands, each with a sign -/
abbrev Row := List (Opd × Sg)
def ItemsAt (H : Hp) : List V → Row → Prop
  | [], [] => True
  | y :: ys, x :: xs => (∃ q, y = .ref q ∧ H q = some (.tup [.str x.1.text, .str x.2.text])) ∧ ItemsAt H ys xs
  | _, _ => False
theorem ItemsAt.keep {H H' : Hp} (k : KeepT H H') : ∀ {ys : List V} {xs : Row}, ItemsAt H ys xs → ItemsAt H' ys xs
  | [], [], _ => trivial
  | y :: ys, v :: vs, ⟨⟨q, e, h⟩, r⟩ => ⟨⟨q, e, k.tup _ _ h⟩, ItemsAt.keep k r⟩
  | [], _ :: _, h => h.elim
  | _ :: _, [], h => h.elim
theorem ItemsAt.snoc {H : Hp} {q : Addr} {x : Opd × Sg} (h : H q = some (.tup [.str x.1.text, .str x.2.text])) : ∀ {ys : List V} {xs : Row}, ItemsAt H ys xs → ItemsAt H (ys ++ [.ref q]) (xs ++ [x])
  | [], [], _ => ⟨⟨q, rfl, h⟩, trivial⟩
  | y :: ys, w :: vs, ⟨e, r⟩ => ⟨e, ItemsAt.snoc h r⟩
  | [], _ :: _, h => h.elim
  | _ :: _, [], h => h.elim
theorem ItemsAt.len {H : Hp} : ∀ {ys : List V} {xs : Row}, ItemsAt H ys xs → ys.length = xs.length
  | [], [], _ => rfl
  | y :: ys, w :: vs, ⟨_, r⟩ => congrArg Nat.succ (ItemsAt.len r)
  | [], _ :: _, h => h.elim
  | _ :: _, [], h => h.elim
theorem ItemsAt.get {H : Hp} : ∀ {ys : List V} {xs : Row} {i : Nat} {v : V}, ItemsAt H ys xs → ys[i]? = some v → ∃ x q, xs[i]? = some x ∧ v = .ref q ∧ H q = some (.tup [.str x.1.text, .str x.2.text])
  | _ :: _, x :: _, 0, _, ⟨⟨q, e1, h⟩, _⟩, e => ⟨x, q, rfl, by cases e; exact e1, h⟩
  | _ :: _, _ :: _, i + 1, _, ⟨_, r⟩, e => ItemsAt.get (i := i) r e
  | [], _, _, _, _, e => by cases e
  | _ :: _, [], _, _, h, _ => h.elim
theorem ItemsAt.take {H : Hp} : ∀ (n : Nat) {ys : List V} {xs : Row}, ItemsAt H ys xs → ItemsAt H (ys.take n) (xs.take n)
  | 0, _, _, _ => trivial
  | n + 1, [], [], _ => trivial
  | n + 1, y :: ys, w :: vs, ⟨e, r⟩ => ⟨e, ItemsAt.take n r⟩
  | _ + 1, [], _ :: _, h => h.elim
  | _ + 1, _ :: _, [], h => h.elim
def blank (s : Sg) : List Nat := match s with
  | .rest => [32] | .or => [32] | .and => [32] | _ => []
def endC (s : Sg) : List Nat := if s = .pick then [93] else []
def sepC (s : Sg) : List Nat := blank s ++ s.codes ++ blank s
def stepB (b : List Nat × Tr) (x : Opd × Sg) : List Nat × Tr := (b.1 ++ sepC x.2 ++ x.1.codes ++ endC x.2, .more b.2 x.2 x.1 (b.1 ++ sepC x.2).length)
def builtM (x0 : Opd × Sg) (xs : Row) : List Nat × Tr := xs.foldl stepB (x0.1.codes, .one x0.1 0)
theorem builtM_snoc (x0 : Opd × Sg) (xs : Row) (x : Opd × Sg) : builtM x0 (xs ++ [x]) = stepB (builtM x0 xs) x := by unfold builtM; rw [List.foldl_append]; rfl
theorem step_len (b : List Nat × Tr) (x : Opd × Sg) : (stepB b x).1.length ≤ b.1.length + 10 := by
  have h1 : x.1.codes.length ≤ 2 := by cases x.1 <;> decide
  have h2 : (sepC x.2).length ≤ 6 := by cases x.2 <;> decide
  have h3 : (endC x.2).length ≤ 1 := by cases x.2 <;> decide
  show (b.1 ++ sepC x.2 ++ x.1.codes ++ endC x.2).length ≤ b.1.length + 10
  rw [List.length_append, List.length_append, List.length_append]
  omega
theorem built_take (x0 : Opd × Sg) (xs : Row) {i : Nat} {x : Opd × Sg} (h : xs[i]? = some x) : builtM x0 (xs.take (i + 1)) = stepB (builtM x0 (xs.take i)) x := by
  obtain ⟨hj, e⟩ := List.getElem?_eq_some_iff.mp h
  rw [← e, ← List.take_append_getElem hj, builtM_snoc]
theorem built_len (x0 : Opd × Sg) (xs : Row) : ∀ i : Nat, i ≤ xs.length → (builtM x0 (xs.take i)).1.length ≤ 2 + 10 * i
  | 0, _ => by
    show x0.1.codes.length ≤ 2
    cases x0.1 <;> decide
  | i + 1, hi => by
    have ih := built_len x0 xs i (Nat.le_of_succ_le hi)
    rw [built_take x0 xs (List.getElem?_eq_getElem hi)]
    have := step_len (builtM x0 (xs.take i)) xs[i]
    omega
theorem built_pos (x0 : Opd × Sg) (xs : Row) : ∀ i : Nat, i ≤ xs.length → (builtM x0 (xs.take i)).2.pos = 0
  | 0, _ => rfl
  | i + 1, hi => by
    rw [built_take x0 xs (List.getElem?_eq_getElem hi)]
    exact built_pos x0 xs i (Nat.le_of_succ_le hi)
theorem built_size (x0 : Opd × Sg) (xs : Row) : ∀ i : Nat, i ≤ xs.length → (builtM x0 (xs.take i)).2.size = i + 1
  | 0, _ => rfl
  | i + 1, hi => by
    rw [built_take x0 xs (List.getElem?_eq_getElem hi)]
    show (builtM x0 (xs.take i)).2.size + 1 = _
    rw [built_size x0 xs i (Nat.le_of_succ_le hi)]
def spBuilt (K : PySem.W.Frag) : Sp := fun vs H Q _ => ∃ (r : Addr) (ys : List V) (x0 : Opd × Sg) (xs : Row), vs = [.ref r] ∧ H r = some (.lst ys) ∧ ItemsAt H ys (x0 :: xs) ∧ xs.length ≤ 1000 ∧
  ∀ H' g v, Same H H' → H' g = some (.tup [.str (S (builtM x0 xs).1), v]) → TrAt K H' v (builtM x0 xs).2 → Q (.ref g) H'
theorem cut1 (a : V) (vs : List V) : cutV (a :: vs) (some 1) none = vs := by
  have h1 : HT.sIx (a :: vs).length 0 (some ((1 : Nat) : Int)) = 1 := by
    rw [HT.sIx_nat]
    simp
  show ((a :: vs).drop (HT.sIx (a :: vs).length 0 (some ((1 : Nat) : Int)))).take ((a :: vs).length - HT.sIx (a :: vs).length 0 (some ((1 : Nat) : Int))) = vs
  rw [h1]
  show vs.take (vs.length + 1 - 1) = vs
  rw [show vs.length + 1 - 1 = vs.length by omega, List.take_length]
section
variable {P : Program} {w : World} {K : PySem.W.Frag} {mg : Str → Option Value} {base : Heap} {C aKEPT aPAIRS aLOOSE aSIGNS : Addr} {k m n : Nat}
theorem c__law_built (T : Top w K mg C aKEPT aPAIRS aLOOSE aSIGNS) : Cal P w K mg base 2 "_law_built" (spBuilt K) := by
  have c__law_leaf := c__law_leaf (P := P) (base := base) T
  refine cal_by (ps := ["_law_row_here"]) T.d__law_built sc__law_built (fun _ _ _ _ _ _ us hl => match us, hl with | [_], _ => rfl) (fun vs H Q E h => ?_) (fun f cdv A outer s H vs Q E hr h => ?_)
  · obtain ⟨_, _, _, _, rfl, _⟩ := h
    rfl
  obtain ⟨r, ys, x0, xs, rfl, hr0, hI, hl, q⟩ := h
  obtain ⟨y0, ys', rfl⟩ : ∃ y0 ys', ys = y0 :: ys' := by
    match ys, hI with
    | y :: ys, _ => exact ⟨y, ys, rfl⟩
  obtain ⟨⟨q0, rfl, h0⟩, hI'⟩ := hI
  refine ⟨_, (pss_cons (ps_par (i := 1) (j := 2) (by rfl) sc__law_built.nd rfl rfl (by decide) rfl rfl (pa_cons (pe_ix ix_tup (pe_ix ix_list (pv 0) pe_int (fun _ _ => rfl)) pe_int (fun _ _ => rfl)) (pa_cons (pe_c c__law_leaf hr (by decide) rfl (pa_cons (pe_ix ix_tup (pe_ix ix_list (pv 0) pe_int (fun _ _ => rfl)) pe_int (fun _ _ => rfl)) (pa_cons pe_int pa_nil))) pa_nil)) (by rfl))
      (pss_cons (ps_for PassesOwn.never rfl (pi_list (pe_slice sl_list (pv 0) (po_some pe_int) po_none)) (pg_tup (by rfl) (pgs_cons (pg_name (i := 3) sc__law_built.nd rfl (Or.inl rfl)) (pgs_cons (pg_name (i := 4) sc__law_built.nd rfl (Or.inl rfl)) pgs_nil))) (pss_one (ps_if (pt_cmpR op_eq (pv 4) pe_str (nomark _)) (pss_cons (ps_set (i := 2) sc__law_built.nd rfl (Or.inl rfl) (pe_tup (pa_cons pe_str (pa_cons pe_int (pa_cons (pv 2) (pa_cons (pe_c c__law_leaf hr (by decide) rfl (pa_cons (pv 3) (pa_cons (pe_op op_add (pe_callB call_len_str rfl T.n_len (by decide +kernel) (pa_cons (pv 1) pa_nil)) pe_int) pa_nil))) pa_nil))))))
      (pss_one (ps_set (i := 1) sc__law_built.nd rfl (Or.inl rfl) (pe_op op_add_str (pe_op op_add_str (pe_op op_add_str (pv 1) pe_str) (pv 3)) pe_str)))) (pss_cons (ps_set (i := 5) sc__law_built.nd rfl (Or.inl rfl) (pe_ix ix_list (pe_lst (pa_cons pe_str (pa_cons pe_str pa_nil))) (pe_callTy call_int1 rfl T.n_int (by decide +kernel) (pa_cons (pe_cmpR (opI (K := K)) (pv 4) (pe_tup (pa_cons pe_str (pa_cons pe_str (pa_cons pe_str pa_nil)))) rfl) pa_nil)) (fun _ _ => rfl)))
      (pss_cons (ps_set (i := 6) sc__law_built.nd rfl (Or.inl rfl) (pe_c c__law_leaf hr (by decide) rfl (pa_cons (pv 3) (pa_cons (pe_callB call_len_str rfl T.n_len (by decide +kernel) (pa_cons (pe_op op_add_str (pe_op op_add_str (pe_op op_add_str (pv 1) (pv 5)) (pv 4)) (pv 5)) pa_nil)) pa_nil))))
      (C8.pss_cut (ps_if (pt_cmpR (opI (K := K)) (pv 4) (pe_tup (pa_cons pe_str (pa_cons pe_str pa_nil))) rfl) (pss_one (ps_set (i := 2) sc__law_built.nd rfl (Or.inl rfl) (pe_tup (pa_cons (pv 4) (pa_cons pe_int (pa_cons (pv 2) (pa_cons (pv 6) pa_nil))))))) (pss_one (ps_set (i := 2) sc__law_built.nd rfl (Or.inl rfl) (pe_tup (pa_cons pe_str (pa_cons pe_int (pa_cons (pv 4) (pa_cons (pv 2) (pa_cons (pv 6) pa_nil)))))))))
      (pss_one (ps_set (i := 1) sc__law_built.nd rfl (Or.inl rfl) (pe_op op_add_str (pe_op op_add_str (pe_op op_add_str (pe_op op_add_str (pv 1) (pv 5)) (pv 4)) (pv 5)) (pv 3))))))))))
      (pss_one (ps_ret (pe_tup (pa_cons (pv 1) (pa_cons (pv 2) pa_nil))))))), ?_⟩
  refine ⟨_, rfl, r, _, _, _, rfl, rfl, SqL.of hr0, at_nat (n := 0) rfl, q0, _, _, _, rfl, rfl, SqT.of h0, at_nat (n := 0) rfl, ?_⟩
  refine ⟨_, rfl, r, _, _, _, rfl, rfl, SqL.of hr0, at_nat (n := 0) rfl, q0, _, _, _, rfl, rfl, SqT.of h0, at_nat (n := 0) rfl, x0.1, 0, rfl, fun H1 v1 s1 h1 => ?_⟩
  refine ⟨_, _, rfl, ?_⟩
  refine ⟨_, rfl, _, rfl, r, _, rfl, SqL.of (s1 _ _ hr0), fun x hx => ?_⟩
  rw [cut1]
  have s2 : Same H (upd H1 x (.lst ys')) := s1.trans (same_new hx _)
  refine ⟨x, rfl, ⟨_, SqL.of upd_same⟩, ?_⟩
  rw [opd_text]
  refine for_list (K := K) (a := x) (xs := ys') (fun i σ H' => ∃ v o3 o4 o5 o6, σ = [some (.ref r), some (.str (S (builtM x0 (xs.take i)).1)), some v, o3, o4, o5, o6] ∧ Same H H' ∧ H' x = some (.lst ys') ∧ TrAt K H' v (builtM x0 (xs.take i)).2)
    ⟨v1, none, none, none, none, rfl, s2, upd_same, LeafAt.keep h1 (KeepT.new hx _)⟩ ?_ ?_ ?_
  · rintro i σ H' _ ⟨_, _, _, _, _, _, _, h, _⟩
    exact SqL.of h
  · rintro i y σ H' hi ⟨v, o3, o4, o5, o6, rfl, s3, hx3, hT3⟩
    obtain ⟨⟨od, sg⟩, qi, hxi, rfl, hqi⟩ := hI'.get hi
    have hil : i ≤ xs.length := by
      obtain ⟨hj, _⟩ := List.getElem?_eq_some_iff.mp hxi
      omega
    have hlen := built_len x0 xs i hil
    have hpos := built_pos x0 xs i hil
    rw [built_take x0 xs hxi]
    revert hlen hpos hT3
    generalize builtM x0 (xs.take i) = bt
    obtain ⟨txt, tr⟩ := bt
    intro hT3 hlen hpos
    have hlen : txt.length ≤ 20000 := by
      have : txt.length ≤ 2 + 10 * i := hlen
      omega
    have hpos : tr.pos = 0 := hpos
    have l1 : od.codes.length ≤ 2 := by cases od <;> decide
    have l2 : sg.codes.length ≤ 4 := by cases sg <;> decide
    refine ⟨qi, _, rfl, SqT.of (s3 _ _ hqi), rfl, _, _, rfl, _, _, rfl, rfl, ?_⟩
    refine ⟨_, rfl, rfl, _, rfl, ?_⟩
    by_cases hp : sg = .pick
    · subst hp
      rw [eqS (show Sg.pick.text = "[" from rfl)]
      refine iteT ?_
      refine ⟨_, rfl, _, rfl, _, rfl, _, rfl, ?_, _, _, rfl, rfl, od, txt.length + 1, ?_, fun H4 v4 s4 h4 => ?_⟩
      · rw [S_len]
        exact sl (by omega)
      · rw [S_len]
        rfl
      refine ⟨(by show 4 ≤ sizeLine; decide), fun g hg => ?_⟩
      have s5 : Same H4 (upd H4 g (.tup [V.str "pick", V.int 0, v, v4])) := same_new hg _
      refine ⟨_, rfl, _, _, rfl, rfl, ?_, _, rfl, _, _, rfl, rfl, ?_, _, _, rfl, rfl, ?_, ?_⟩
      · rw [lit_br, S_len, S_len]
        exact sl (by show txt.length + 1 ≤ 100000; omega)
      · rw [lit_br, opd_text, S_cat, S_len, S_len, List.length_append]
        exact sl (by show txt.length + 1 + od.codes.length ≤ 100000; omega)
      · rw [lit_br, lit_bl, opd_text, S_cat, S_cat, S_len, S_len, List.length_append, List.length_append]
        exact sl (by show txt.length + 1 + od.codes.length + 1 ≤ 100000; omega)
      refine ⟨.ref g, some (.str od.text), some (.str Sg.pick.text), o5, o6, ?_, s3.trans (s4.trans s5), s5 _ _ (s4 _ _ hx3), ?_⟩
      · have e : S txt ++ "[" ++ od.text ++ "]" = S (stepB (txt, tr) (od, .pick)).1 := by
          rw [lit_br, lit_bl, opd_text, S_cat, S_cat, S_cat]
          rfl
        rw [← e]
        rfl
      · refine ⟨g, v, v4, rfl, ?_, (hT3.keep (.of s4)).keep (.of s5), ?_⟩
        · show SqT K _ g [V.str "pick", V.int (tr.pos : Nat), v, v4]
          rw [hpos]
          exact SqT.of upd_same
        · have e : (txt ++ sepC .pick).length = txt.length + 1 := by rw [List.length_append]; rfl
          rw [e]
          exact h4.keep (.of s5)
    · have hne : sg.text ≠ "[" := by
        revert hp
        cases sg <;> decide +kernel
      rw [neS hne]
      refine iteF ?_
      -- the blank
      refine ⟨(by show 2 ≤ sizeLine; decide), fun L hL => ?_⟩
      have s4 : Same H' (upd H' L (.lst [.str "", .str " "])) := same_new hL _
      refine ⟨_, rfl, (by show 3 ≤ sizeLine; decide), fun g hg => ⟨g, _, rfl, .inr (SqT.of upd_same), rfl, rfl, ?_⟩⟩
      have s5 := s4.trans (same_new hg (.tup [V.str "rest", V.str "or", V.str "and"]))
      have hL5 : (upd (upd H' L (.lst [.str "", .str " "])) g (.tup [V.str "rest", V.str "or", V.str "and"])) L = some (.lst [.str "", .str " "]) := same_new hg _ _ _ upd_same
      have ein : inV (.str sg.text) [V.str "rest", V.str "or", V.str "and"] = decide (sg.text ∈ (["rest", "or", "and"] : List Str)) := in_strs sg.text ["rest", "or", "and"]
      have hbl : ∃ (b : Bool) (bl : Str), inV (.str sg.text) [V.str "rest", V.str "or", V.str "and"] = b ∧ atI [V.str "", V.str " "] (if b = true then 1 else 0) = some (.str bl) ∧ bl = S (blank sg) := by
        rw [ein]
        cases sg
        · exact ⟨false, "", by decide +kernel, rfl, by decide +kernel⟩
        · exact ⟨false, "", by decide +kernel, rfl, by decide +kernel⟩
        · exact ⟨false, "", by decide +kernel, rfl, by decide +kernel⟩
        · exact ⟨false, "", by decide +kernel, rfl, by decide +kernel⟩
        · exact ⟨true, " ", by decide +kernel, rfl, by decide +kernel⟩
        · exact ⟨true, " ", by decide +kernel, rfl, by decide +kernel⟩
        · exact ⟨true, " ", by decide +kernel, rfl, by decide +kernel⟩
        · exact absurd rfl hp
      obtain ⟨b, bl, hb, hat, hbl⟩ := hbl
      refine .inr ⟨_, rfl, L, _, _, .str bl, rfl, rfl, SqL.of hL5, ?_, ?_⟩
      · show atI [V.str "", V.str " "] (if inV (.str sg.text) [V.str "rest", V.str "or", V.str "and"] = true then 1 else 0) = some (.str bl)
        rw [hb]
        exact hat
      have lb : (blank sg).length ≤ 1 := by cases sg <;> decide
      have z1 : (S txt).length + bl.length ≤ sizeLine := by
        rw [hbl, S_len, S_len]
        exact sl (by omega)
      have z2 : (S txt ++ bl).length + sg.text.length ≤ sizeLine := by
        rw [hbl, sg_text, S_cat, S_len, S_len, List.length_append]
        exact sl (by omega)
      have z3 : (S txt ++ bl ++ sg.text).length + bl.length ≤ sizeLine := by
        rw [hbl, sg_text, S_cat, S_cat, S_len, S_len, List.length_append, List.length_append]
        exact sl (by omega)
      have e3 : S txt ++ bl ++ sg.text ++ bl = S (txt ++ sepC sg) := by
        rw [hbl, sg_text, S_cat, S_cat, S_cat]
        unfold sepC
        iterate 3 rw [List.append_assoc]
      have z4 : (S txt ++ bl ++ sg.text ++ bl).length ≤ sizeLine := by
        rw [e3, S_len]
        unfold sepC
        rw [List.length_append, List.length_append, List.length_append]
        exact sl (by omega)
      have z5 : (S txt ++ bl ++ sg.text ++ bl).length + od.text.length ≤ sizeLine := by
        rw [e3, opd_text, S_len, S_len]
        unfold sepC
        rw [List.length_append, List.length_append, List.length_append]
        exact sl (by omega)
      refine ⟨_, rfl, _, rfl, _, rfl, _, _, rfl, rfl, z1, _, rfl, _, _, rfl, rfl, z2, _, rfl, _, _, rfl, rfl, z3, _, rfl, z4, od, (txt ++ sepC sg).length, ?_, fun H6 v6 s6 h6 => ?_⟩
      · rw [e3, S_len]
      refine ⟨fun σ' H'' => ∃ v', σ' = [some (.ref r), some (.str (S txt)), some v', some (.str od.text), some (.str sg.text), some (.str bl), some v6] ∧ Same H6 H'' ∧ TrAt K H'' v' (.more tr sg od (txt ++ sepC sg).length), ?_, ?_⟩
      · refine ⟨_, rfl, (by show 2 ≤ sizeLine; decide), fun g2 hg2 => ⟨g2, _, rfl, .inr (SqT.of upd_same), rfl, rfl, _, rfl, ?_⟩⟩
        have s7 : Same H6 (upd H6 g2 (.tup [V.str "or", V.str "and"])) := same_new hg2 _
        have ein2 : inV (.str sg.text) [V.str "or", V.str "and"] = decide (sg.text ∈ (["or", "and"] : List Str)) := in_strs sg.text ["or", "and"]
        have hT6 : ∀ H7, Same H6 H7 → TrAt K H7 v tr := fun H7 s => ((hT3.keep (.of s5)).keep (.of s6)).keep (.of s)
        rcases mid_kind sg with ⟨hm, hk⟩ | hm3
        · have hno : sg.text ∉ (["or", "and"] : List Str) := by
            revert hm
            cases sg
            all_goals first | (intro hm; cases hm; done) | (intro _; decide +kernel)
          show if inV (.str sg.text) [V.str "or", V.str "and"] = true then _ else _
          rw [ein2, decide_eq_false hno]
          refine iteF ⟨_, rfl, _, rfl, _, rfl, (by show 5 ≤ sizeLine; decide), fun g3 hg3 => ⟨_, rfl, s7.trans (same_new hg3 _), g3, v, v6, rfl, ?_, hT6 _ (s7.trans (same_new hg3 _)), h6.keep (.of (s7.trans (same_new hg3 _)))⟩⟩
          unfold nodeL
          rw [hk, hm, hpos]
          exact SqT.of upd_same
        · have hm : sg.mid = [] ∧ sg.kind = sg.text ∧ sg.text ∈ (["or", "and"] : List Str) := by
            rcases hm3 with ⟨_, _, e⟩ | ⟨_, _, e⟩ | ⟨_, _, e⟩
            · rw [e]
              decide +kernel
            · rw [e]
              decide +kernel
            · exact absurd e hp
          show if inV (.str sg.text) [V.str "or", V.str "and"] = true then _ else _
          rw [ein2, decide_eq_true hm.2.2]
          refine iteT ⟨_, rfl, _, rfl, _, rfl, (by show 4 ≤ sizeLine; decide), fun g3 hg3 => ⟨_, rfl, s7.trans (same_new hg3 _), g3, v, v6, rfl, ?_, hT6 _ (s7.trans (same_new hg3 _)), h6.keep (.of (s7.trans (same_new hg3 _)))⟩⟩
          unfold nodeL
          rw [hm.1, hm.2.1, hpos]
          exact SqT.of upd_same
      · rintro σ' H7 ⟨v', rfl, s7, hT7⟩
        refine ⟨_, rfl, _, rfl, _, _, rfl, rfl, z1, _, rfl, _, _, rfl, rfl, z2, _, rfl, _, _, rfl, rfl, z3, _, rfl, _, _, rfl, rfl, z5, ?_⟩
        have e : S txt ++ bl ++ sg.text ++ bl ++ od.text = S (stepB (txt, tr) (od, sg)).1 := by
          rw [e3, opd_text, S_cat]
          show S _ = S (txt ++ sepC sg ++ od.codes ++ endC sg)
          unfold endC
          rw [if_neg hp, List.append_nil]
        refine ⟨v', some (.str od.text), some (.str sg.text), some (.str bl), some v6, ?_, s3.trans (s5.trans (s6.trans s7)), s7 _ _ (s6 _ _ (s5 _ _ hx3)), hT7⟩
        rw [← e]
        rfl
  · rintro σ H' ⟨v, o3, o4, o5, o6, rfl, s3, hx3, hT3⟩
    rw [hI'.len, List.take_length] at hT3 ⊢
    refine ⟨_, rfl, _, rfl, (by show 2 ≤ sizeLine; decide), fun g hg => ?_⟩
    exact q _ g v (s3.trans (same_new hg _)) upd_same (hT3.keep (KeepT.new hg _))
/-- the signs of one tightness -/
def classes : List (List Sg) := [[.plus, .minus], [.times, .floor, .rest], [.or], [.and], [.pick]]
def opds : List Opd := [.a, .b, .seven, .quote]
def RowAt (H : Hp) (r : Addr) (row : Row) : Prop := ∃ ys, H r = some (.lst ys) ∧ ItemsAt H ys row
theorem RowAt.keep {H H' : Hp} {r : Addr} {row : Row} (h : RowAt H r row) (s : Same H H') : RowAt H' r row := by
  obtain ⟨ys, h1, h2⟩ := h
  exact ⟨ys, s _ _ h1, h2.keep (.of s)⟩
def spRow : Sp := fun vs H Q _ => ∃ p : Addr, vs = [.ref p] ∧ TapeAt H p ∧ ∀ (H' : Hp) (r : Addr) (row : Row) (ks : List Sg), Kp p H H' → KeepT H H' → ks ∈ classes → RowAt H' r row → (∀ x ∈ row, x.2 ∈ ks) → 20 ≤ row.length → row.length ≤ 95 → Q (.ref r) H'
theorem lst_keep {H H' : Hp} {p a : Addr} {xs : List V} (k : Kp p H H') (n : a ≠ p) (h : H a = some (.lst xs)) : H' a = some (.lst xs) := k a _ n h
theorem at_int {α : Type} {xs : List α} {d : Int} (h0 : 0 ≤ d) (h1 : d < (xs.length : Int)) : ∃ x, x ∈ xs ∧ atI xs d = some x := by
  obtain ⟨j, rfl⟩ : ∃ j : Nat, d = (j : Int) := ⟨d.toNat, by omega⟩
  have hj : j < xs.length := by omega
  exact ⟨xs[j], List.getElem_mem hj, at_nat (List.getElem?_eq_getElem hj)⟩
section
variable {P : Program} {w : World} {K : PySem.W.Frag} {mg : Str → Option Value} {base : Heap} {C aKEPT aPAIRS aLOOSE aSIGNS : Addr} {k m n : Nat}
theorem c__law_row (T : Top w K mg C aKEPT aPAIRS aLOOSE aSIGNS) : Cal P w K mg base 2 "_law_row" spRow := by
  have c__law_digit := c__law_digit (P := P) (base := base) T
  refine cal_by (ps := ["_law_tape_here"]) T.d__law_row sc__law_row (fun _ _ _ _ _ _ us hl => match us, hl with | [_], _ => rfl) (fun vs H Q E h => ?_) (fun f cdv A outer s H vs Q E hr h => ?_)
  · obtain ⟨_, rfl, _⟩ := h
    rfl
  obtain ⟨p, rfl, hp, q⟩ := h
  refine ⟨_, (pss_cons (ps_set (i := 1) sc__law_row.nd rfl (Or.inr rfl) (pe_ix ix_list (pe_lst (pa_cons (pe_lst (pa_cons pe_str (pa_cons pe_str pa_nil))) (pa_cons (pe_lst (pa_cons pe_str (pa_cons pe_str (pa_cons pe_str pa_nil)))) (pa_cons (pe_lst (pa_cons pe_str pa_nil)) (pa_cons (pe_lst (pa_cons pe_str pa_nil)) (pa_cons (pe_lst (pa_cons pe_str pa_nil)) pa_nil)))))) (pe_c c__law_digit hr (by decide) rfl (pa_cons (pv 0) (pa_cons pe_int pa_nil))) (fun _ _ => rfl)))
      (pss_cons (ps_set (i := 2) sc__law_row.nd rfl (Or.inl rfl) (pe_op op_add pe_int (pe_c c__law_digit hr (by decide) rfl (pa_cons (pv 0) (pa_cons pe_int pa_nil)))))
      (pss_cons (ps_setLc (i := 3) (own := [("_law_k", 4)]) (g := gName 4) (tt := tYes) rfl sc__law_row.nd rfl rfl (sw_true rfl rfl rfl (by decide +kernel)) (pi_range1 rfl T.n_range (pa_cons (pv 2) pa_nil)) (blkOk_by (own := [("_law_k", 4)]) (N := n__law_row) (sc := C8.fnScope s__law_row) (by decide +kernel)) (fun _ _ _ _ _ => (pg_name (i := 4) sc__law_row.nd rfl (Or.inl rfl))) (fun _ _ _ _ _ => pts_nil) (fun _ _ _ _ _ => (pe_tup (pa_cons (pe_ix (ixL (K := K)) (pe_lst (pa_cons pe_str (pa_cons pe_str (pa_cons pe_str (pa_cons pe_str pa_nil))))) (pe_c c__law_digit hr (by decide) rfl (pa_cons (pv 0) (pa_cons pe_int pa_nil))) (fun _ _ => rfl)) (pa_cons (pe_ix (ixL (K := K)) (pv 1) (pe_c c__law_digit hr (by decide) rfl (pa_cons (pv 0) (pa_cons (pe_callB (id := "len") (callLen (K := K)) rfl T.n_len (by decide +kernel) (pa_cons (pv 1) pa_nil)) pa_nil))) (fun _ _ => rfl)) pa_nil)))))
      (pss_one (ps_ret (pv 3)))))), ?_⟩
  refine ⟨(by show 2 ≤ sizeLine; decide), fun l1 n1 => ⟨(by show 3 ≤ sizeLine; decide), fun l2 n2 => ⟨(by show 1 ≤ sizeLine; decide), fun l3 n3 => ⟨(by show 1 ≤ sizeLine; decide), fun l4 n4 => ⟨(by show 1 ≤ sizeLine; decide), fun l5 n5 => ⟨(by show 5 ≤ sizeLine; decide), fun L nL => ?_⟩⟩⟩⟩⟩⟩
  have s1 := same_new n1 (.lst [V.str "+", V.str "-"])
  have s2 := same_new n2 (.lst [V.str "*", V.str "//", V.str "rest"])
  have s3 := same_new n3 (.lst [V.str "or"])
  have s4 := same_new n4 (.lst [V.str "and"])
  have s5 := same_new n5 (.lst [V.str "["])
  have sL := same_new nL (.lst [V.ref l1, V.ref l2, V.ref l3, V.ref l4, V.ref l5])
  have hL := s1.trans (s2.trans (s3.trans (s4.trans (s5.trans sL))))
  have g1 := sL _ _ (s5 _ _ (s4 _ _ (s3 _ _ (s2 _ _ (upd_same (H := H) (a := l1) (o := .lst [V.str "+", V.str "-"]))))))
  have g2 := sL _ _ (s5 _ _ (s4 _ _ (s3 _ _ (upd_same (a := l2) (o := .lst [V.str "*", V.str "//", V.str "rest"])))))
  have g3 := sL _ _ (s5 _ _ (s4 _ _ (upd_same (a := l3) (o := .lst [V.str "or"]))))
  have g4 := sL _ _ (s5 _ _ (upd_same (a := l4) (o := .lst [V.str "and"])))
  have g5 := sL _ _ (upd_same (a := l5) (o := .lst [V.str "["]))
  have gL := upd_same (H := (upd (upd (upd (upd (upd H l1 (.lst [V.str "+", V.str "-"])) l2 (.lst [V.str "*", V.str "//", V.str "rest"])) l3 (.lst [V.str "or"])) l4 (.lst [V.str "and"])) l5 (.lst [V.str "["]))) (a := L) (o := .lst [V.ref l1, V.ref l2, V.ref l3, V.ref l4, V.ref l5])
  revert hL g1 g2 g3 g4 g5 gL
  generalize (upd (upd (upd (upd (upd (upd H l1 (.lst [V.str "+", V.str "-"])) l2 (.lst [V.str "*", V.str "//", V.str "rest"])) l3 (.lst [V.str "or"])) l4 (.lst [V.str "and"])) l5 (.lst [V.str "["])) L (.lst [V.ref l1, V.ref l2, V.ref l3, V.ref l4, V.ref l5])) = H1
  intro hL g1 g2 g3 g4 g5 gL
  obtain ⟨c, b, hpH, hc, hb0, hb⟩ := hp
  have hp1 : TapeAt H1 p := ⟨c, b, hL _ _ hpH, hc, hb0, hb⟩
  have np : ∀ (a : Addr) (xs : List V), H1 a = some (.lst xs) → (∀ i j : Int, xs ≠ [.int i, .int j]) → a ≠ p := fun a xs h hn e => by
    subst e
    rw [hL _ _ hpH] at h
    exact hn c b (HO.lst.inj (Option.some.inj h)).symm
  refine ⟨_, rfl, p, 5, rfl, hp1, by decide, by decide, fun H2 d k2 kt2 _ hp2 d0 d5 => ?_⟩
  have hcl : ∃ (l : Addr) (ks : List Sg), ks ∈ classes ∧ atI [V.ref l1, V.ref l2, V.ref l3, V.ref l4, V.ref l5] d = some (.ref l) ∧ l ≠ p ∧ H2 l = some (.lst (ks.map fun s => V.str s.text)) := by
    have ns : ∀ (x : Str) (xs : List V) (i j : Int), V.str x :: xs ≠ [.int i, .int j] := fun x xs i j e => by cases e
    obtain ⟨j, rfl⟩ : ∃ j : Nat, d = (j : Int) := ⟨d.toNat, by omega⟩
    match j, d5 with
    | 0, _ => exact ⟨l1, [.plus, .minus], by decide, rfl, np _ _ g1 (ns _ _), k2 _ _ (np _ _ g1 (ns _ _)) g1⟩
    | 1, _ => exact ⟨l2, [.times, .floor, .rest], by decide, rfl, np _ _ g2 (ns _ _), k2 _ _ (np _ _ g2 (ns _ _)) g2⟩
    | 2, _ => exact ⟨l3, [.or], by decide, rfl, np _ _ g3 (ns _ _), k2 _ _ (np _ _ g3 (ns _ _)) g3⟩
    | 3, _ => exact ⟨l4, [.and], by decide, rfl, np _ _ g4 (ns _ _), k2 _ _ (np _ _ g4 (ns _ _)) g4⟩
    | 4, _ => exact ⟨l5, [.pick], by decide, rfl, np _ _ g5 (ns _ _), k2 _ _ (np _ _ g5 (ns _ _)) g5⟩
    | j + 5, d5 => exact absurd d5 (by omega)
  obtain ⟨l, ks, hks, hat, nl, hl⟩ := hcl
  have nLp : L ≠ p := np _ _ gL (fun i j e => by cases e)
  refine ⟨L, _, _, _, rfl, rfl, SqL.of (k2 _ _ nLp gL), hat, ?_⟩
  refine ⟨_, rfl, p, 76, rfl, hp2, by decide, by decide, fun H3 e k3 kt3 _ hp3 e0 e76 => ?_⟩
  refine ⟨_, _, rfl, rfl, ?_⟩
  have hl3 := k3 _ _ nl hl
  have kH3 : Kp p H H3 := ((Kp.of hL).trans k2).trans k3
  have ktH3 : KeepT H H3 := ((KeepT.of hL).trans kt2).trans kt3
  refine ⟨_, rfl, 20 + e, rfl, by omega, by omega, fun D hD => ?_⟩
  have hkl : 0 < ks.length ∧ ks.length ≤ 3 := by
    revert hks
    exact fun hks => (show ∀ ks ∈ classes, 0 < ks.length ∧ ks.length ≤ 3 by decide) ks hks
  refine lc_range (lo := 0) (n := (20 + e).toNat) (fun i H' => ∃ (ys : List V) (row : Row), Kp p H3 H' ∧ KeepT H3 H' ∧ TapeAt H' p ∧ H' D = some (.lst ys) ∧ ItemsAt H' ys row ∧ row.length = i ∧ ∀ x ∈ row, x.2 ∈ ks)
    ⟨[], [], .of (same_new hD _), KeepT.new hD _, (by obtain ⟨c, b, h1, h2⟩ := hp3; exact ⟨c, b, same_new hD _ _ _ h1, h2⟩), upd_same, trivial, rfl, fun x hx => by cases hx⟩ ?_ ?_
  · rintro i H4 hi ⟨ys, row, k4, kt4, hp4, hD4, hI4, hrl, hrk⟩
    refine ⟨rfl, ?_⟩
    refine ⟨(by show 4 ≤ sizeLine; decide), fun M hM => ?_⟩
    have sM := same_new hM (.lst [V.str "a", V.str "b", V.str "7", V.str "''"])
    have hp5 : TapeAt (upd H4 M (.lst [V.str "a", V.str "b", V.str "7", V.str "''"])) p := by
      obtain ⟨c, b, h1, h2⟩ := hp4
      exact ⟨c, b, sM _ _ h1, h2⟩
    have nMp : M ≠ p := by
      obtain ⟨c, b, h1, h2⟩ := hp4
      exact (ne_of_none h1 hM).symm
    refine ⟨_, rfl, p, 4, rfl, hp5, by decide, by decide, fun H5 d' k5 kt5 fr5 hp5' d0' d4' => ?_⟩
    obtain ⟨v0, hv0, hat0⟩ := at_int (xs := opds.map fun o => V.str o.text) d0' (by simpa [opds] using d4')
    obtain ⟨o, _, rfl⟩ := List.mem_map.mp hv0
    refine ⟨M, _, _, _, rfl, rfl, SqL.of (k5 _ _ nMp upd_same), hat0, ?_⟩
    have hl5 := k5 _ _ nl (sM _ _ (k4 _ _ nl hl3))
    refine ⟨_, rfl, _, rfl, _, rfl, l, _, rfl, .inl (SqL.of hl5), p, _, rfl, hp5', ?_, ?_, fun H6 d6 k6 kt6 fr6 hp6 d06 d6s => ?_⟩
    · rw [List.length_map]
      omega
    · rw [List.length_map]
      omega
    obtain ⟨v1, hv1, hat1⟩ := at_int (xs := ks.map fun s => V.str s.text) d06 d6s
    obtain ⟨sg, hsg, rfl⟩ := List.mem_map.mp hv1
    refine ⟨l, _, _, _, rfl, rfl, SqL.of (k6 _ _ nl hl5), hat1, (by show 2 ≤ sizeLine; decide), fun t ht => ?_⟩
    have nDp : D ≠ p := by
      obtain ⟨c, b, h1, h2⟩ := hp3
      exact (ne_of_none h1 hD).symm
    have hD6 : H6 D = some (.lst ys) := k6 _ _ nDp (k5 _ _ nDp (sM _ _ hD4))
    have st := same_new ht (.tup [V.str o.text, V.str sg.text])
    have hD7 := st _ _ hD6
    have kt7 : KeepT H4 (upd H6 t (.tup [V.str o.text, V.str sg.text])) := (((KeepT.of sM).trans kt5).trans kt6).trans (.of st)
    have kD := KeepT.put hD7 (.lst (ys ++ [V.ref t]))
    refine ⟨ys, hD7, ?_, ys ++ [V.ref t], row ++ [(o, sg)], ?_, (kt4.trans kt7).trans kD, ?_, upd_same, ?_, ?_, ?_⟩
    · rw [hI4.len, hrl]
      exact slt (by omega)
    · have kk : Kp p H3 (upd H6 t (.tup [V.str o.text, V.str sg.text])) := (((k4.trans (.of sM)).trans k5).trans k6).trans (.of st)
      intro a u na h
      rw [upd_ne (ne_of_none h hD)]
      exact kk a u na h
    · obtain ⟨c, b, h1, h2⟩ := hp6
      exact ⟨c, b, by rw [upd_ne nDp.symm]; exact st _ _ h1, h2⟩
    · refine ItemsAt.snoc ?_ ((hI4.keep kt7).keep kD)
      exact kD.tup _ _ upd_same
    · rw [List.length_append, hrl]
      rfl
    · intro x hx
      obtain hx | hx := List.mem_append.mp hx
      · exact hrk x hx
      · rw [List.mem_singleton.mp hx]
        exact hsg
  · rintro H' ⟨ys, row, k4, kt4, hp4, hD4, hI4, hrl, hrk⟩
    refine ⟨_, rfl, ?_⟩
    refine q H' D row ks (kH3.trans k4) (ktH3.trans kt4) hks ⟨ys, hD4, hI4⟩ hrk ?_ ?_
    · omega
    · omega
end
end
end Lr

set_option maxRecDepth 100000
set_option maxHeartbeats 4200000
namespace Lr
open PySem PySem.Spec L2 SX
/-! ### the row's words -/
def tokO (o : Opd) (p : Nat) : Tk := ⟨o.kind, p, o.worth, p + o.codes.length⟩
def tokS (s : Sg) (p : Nat) : Tk := ⟨"word", p, .str s.text, p + s.codes.length⟩
def tokW (c : Nat) (p : Nat) : Tk := ⟨"word", p, .str (S [c]), p + 1⟩
def tokE (p : Nat) : Tk := ⟨"end", p, .str "", p⟩
def itemC (x : Opd × Sg) : List Nat := sepC x.2 ++ (x.1.codes ++ endC x.2)
def rowC : Row → List Nat
  | [] => []
  | x :: xs => itemC x ++ rowC xs
def rowT : Nat → Row → List Tk
  | p, [] => [tokE p]
  | p, x :: xs => tokS x.2 (p + (blank x.2).length) :: tokO x.1 (p + (sepC x.2).length) ::
      (if x.2 = .pick then tokW 93 (p + (sepC x.2).length + x.1.codes.length) :: rowT (p + (itemC x).length) xs else rowT (p + (itemC x).length) xs)
def treeF : Nat → Tr → Row → Tr
  | _, t, [] => t
  | p, t, x :: xs => treeF (p + (itemC x).length) (.more t x.2 x.1 (p + (sepC x.2).length)) xs
theorem built_eq (xs : Row) : ∀ (txt : List Nat) (t : Tr), xs.foldl stepB (txt, t) = (txt ++ rowC xs, treeF txt.length t xs) := by
  induction xs with
  | nil =>
    intro txt t
    show (txt, t) = (txt ++ [], t)
    rw [List.append_nil]
  | cons x xs ih =>
    intro txt t
    rw [List.foldl_cons]
    show xs.foldl stepB (txt ++ sepC x.2 ++ x.1.codes ++ endC x.2, .more t x.2 x.1 (txt ++ sepC x.2).length) = _
    rw [ih]
    have e1 : txt ++ sepC x.2 ++ x.1.codes ++ endC x.2 = txt ++ itemC x := by
      unfold itemC
      iterate 2 rw [List.append_assoc]
    rw [e1, List.append_assoc, List.length_append, List.length_append]
    rfl
theorem built_is (x0 : Opd × Sg) (xs : Row) : builtM x0 xs = (x0.1.codes ++ rowC xs, treeF x0.1.codes.length (.one x0.1 0) xs) := built_eq xs _ _
theorem treeF_shift (n : Nat) (xs : Row) : ∀ (p : Nat) (t : Tr), (treeF p t xs).shift n = treeF (p + n) (t.shift n) xs := by
  induction xs with
  | nil => intro p t; rfl
  | cons x xs ih =>
    intro p t
    show (treeF (p + (itemC x).length) (.more t x.2 x.1 (p + (sepC x.2).length)) xs).shift n = treeF (p + n + (itemC x).length) (.more (t.shift n) x.2 x.1 (p + n + (sepC x.2).length)) xs
    rw [ih, show p + (itemC x).length + n = p + n + (itemC x).length by omega]
    show treeF _ (.more (t.shift n) x.2 x.1 (p + (sepC x.2).length + n)) xs = _
    rw [show p + (sepC x.2).length + n = p + n + (sepC x.2).length by omega]
/-! #### one word -/
theorem noHead_cons {cs r : List Nat} {c : Nat} (h : c ∉ cs) : noHead cs (c :: r) = true := by
  show (!decide (c ∈ cs)) = true
  rw [decide_eq_false h]
  rfl
def clean (r : List Nat) : Prop := noHead figs r = true ∧ noHead lets r = true
theorem clean_nil : clean [] := ⟨rfl, rfl⟩
theorem clean_cons {c : Nat} {r : List Nat} (h1 : c ∉ figs) (h2 : c ∉ lets) : clean (c :: r) := ⟨noHead_cons h1, noHead_cons h2⟩
theorem tw_stop {r : List Nat} (h : noHead lets r = true) : r.takeWhile (fun c => decide (c ∈ lets)) = [] := by
  cases r with
  | nil => rfl
  | cons c r =>
    have h' : (!decide (c ∈ lets)) = true := h
    rw [List.takeWhile_cons, if_neg]
    intro e
    rw [e] at h'
    cases h'
theorem tw_run {w r : List Nat} (hw : ∀ c ∈ w, c ∈ lets) (h : noHead lets r = true) : (w ++ r).takeWhile (fun c => decide (c ∈ lets)) = w := by
  induction w with
  | nil => exact tw_stop h
  | cons c w ih =>
    rw [List.cons_append, List.takeWhile_cons, if_pos (decide_eq_true (hw c (List.mem_cons_self ..))), ih fun d hd => hw d (List.mem_cons_of_mem _ hd)]
theorem lex_word {c : Nat} {w r : List Nat} {i : Nat} (hw : ∀ d ∈ c :: w, d ∈ lets) (hl : (c :: w).length ≤ 8) (hr : clean r) (hf : c ∉ figs) : lexB ((c :: w) ++ r) i = some ⟨if S (c :: w) ∈ kept then "word" else "name", i, .str (S (c :: w)), i + (c :: w).length⟩ := by
  have e := tw_run hw hr.2
  have h := lex_let (c := c) (i := i) (r := w ++ r) hf (hw c (List.mem_cons_self ..))
  have e' : (c :: (w ++ r)).takeWhile (fun c => decide (c ∈ lets)) = c :: w := e
  rw [e'] at h
  refine Eq.trans h (if_pos ⟨hl, ?_⟩)
  have e2 : (c :: (w ++ r)).drop (c :: w).length = r := List.drop_left (l₁ := c :: w) (l₂ := r)
  rw [e2]
  exact hr.1
theorem lex_opd (o : Opd) {r : List Nat} (hr : clean r) (i : Nat) : lexB (o.codes ++ r) i = some (tokO o i) := by
  cases o with
  | a =>
    have h := lex_word (c := 97) (w := []) (r := r) (i := i) (by decide) (by decide) hr (by decide)
    rw [if_neg (by decide +kernel)] at h
    refine Eq.trans h ?_
    show some (Tk.mk "name" i (.str (S [97])) (i + 1)) = some (Tk.mk "name" i (.str "a") (i + 1))
    rw [show ("a" : Str) = S [97] by decide +kernel]
  | b =>
    have h := lex_word (c := 98) (w := []) (r := r) (i := i) (by decide) (by decide) hr (by decide)
    rw [if_neg (by decide +kernel)] at h
    refine Eq.trans h ?_
    show some (Tk.mk "name" i (.str (S [98])) (i + 1)) = some (Tk.mk "name" i (.str "b") (i + 1))
    rw [show ("b" : Str) = S [98] by decide +kernel]
  | seven =>
    have h := lex_fig (c := 55) (i := i) (r := r) (by decide)
    exact Eq.trans h (if_pos ⟨rfl, hr.1, hr.2⟩)
  | quote =>
    have h := lex_other (c := 39) (i := i) (r := 39 :: r) (by decide) (by decide)
    exact Eq.trans h (if_pos rfl)
theorem lex_single {c : Nat} {r : List Nat} {i : Nat} (h1 : c ∉ figs) (h2 : c ∉ lets) (h3 : c ≠ 39) (h4 : ∀ p ∈ prs, p.head? ≠ some c ∨ p ≠ (c :: r).take 2) (h5 : c ∈ sings) : lexB (c :: r) i = some (tokW c i) := by
  refine Eq.trans (lex_other h1 h2) (Eq.trans (if_neg h3) (Eq.trans (if_neg ?_) (if_pos h5)))
  intro hm
  rcases h4 _ hm with h | h
  · exact h rfl
  · exact h rfl
theorem not_prs {c : Nat} {r : List Nat} (h : c ≠ 47 ∧ c ≠ 61 ∧ c ≠ 33 ∧ c ≠ 60) : ∀ p ∈ prs, p.head? ≠ some c ∨ p ≠ (c :: r).take 2 := by
  intro p hp
  refine .inl fun e => ?_
  have hq : ∀ p ∈ prs, p.head? = some 47 ∨ p.head? = some 61 ∨ p.head? = some 33 ∨ p.head? = some 60 := by decide
  rcases hq p hp with h1 | h1 | h1 | h1 <;> rw [h1] at e <;> have e := Option.some.inj e <;> omega
theorem lex_sg (s : Sg) {r : List Nat} (hr : clean r ∨ blank s = []) (i : Nat) : lexB (s.codes ++ r) i = some (tokS s i) := by
  have hb : blank s ≠ [] → clean r := fun h => hr.resolve_right h
  cases s with
  | plus =>
    refine Eq.trans (lex_single (c := 43) (by decide) (by decide) (by decide) (not_prs (by decide)) (by decide)) ?_
    show some (Tk.mk "word" i (.str (S [43])) (i + 1)) = some (Tk.mk "word" i (.str "+") (i + 1))
    rw [show ("+" : Str) = S [43] by decide +kernel]
  | minus =>
    refine Eq.trans (lex_single (c := 45) (by decide) (by decide) (by decide) (not_prs (by decide)) (by decide)) ?_
    show some (Tk.mk "word" i (.str (S [45])) (i + 1)) = some (Tk.mk "word" i (.str "-") (i + 1))
    rw [show ("-" : Str) = S [45] by decide +kernel]
  | times =>
    refine Eq.trans (lex_single (c := 42) (by decide) (by decide) (by decide) (not_prs (by decide)) (by decide)) ?_
    show some (Tk.mk "word" i (.str (S [42])) (i + 1)) = some (Tk.mk "word" i (.str "*") (i + 1))
    rw [show ("*" : Str) = S [42] by decide +kernel]
  | pick =>
    refine Eq.trans (lex_single (c := 91) (by decide) (by decide) (by decide) (not_prs (by decide)) (by decide)) ?_
    show some (Tk.mk "word" i (.str (S [91])) (i + 1)) = some (Tk.mk "word" i (.str "[") (i + 1))
    rw [show ("[" : Str) = S [91] by decide +kernel]
  | floor =>
    refine Eq.trans (lex_other (c := 47) (r := 47 :: r) (by decide) (by decide)) (Eq.trans (if_neg (by decide)) (Eq.trans (if_pos (show (47 :: 47 :: r).take 2 ∈ prs from by show [47, 47] ∈ prs; decide)) ?_))
    show some (Tk.mk "word" i (.str (S [47, 47])) (i + 2)) = some (Tk.mk "word" i (.str "//") (i + 2))
    rw [show ("//" : Str) = S [47, 47] by decide +kernel]
  | rest =>
    have h := lex_word (c := 114) (w := [101, 115, 116]) (r := r) (i := i) (by decide) (by decide) (hb (by decide)) (by decide)
    rw [if_pos (by decide +kernel)] at h
    refine Eq.trans h ?_
    show some (Tk.mk "word" i (.str (S [114, 101, 115, 116])) (i + 4)) = some (Tk.mk "word" i (.str "rest") (i + 4))
    rw [show ("rest" : Str) = S [114, 101, 115, 116] by decide +kernel]
  | or =>
    have h := lex_word (c := 111) (w := [114]) (r := r) (i := i) (by decide) (by decide) (hb (by decide)) (by decide)
    rw [if_pos (by decide +kernel)] at h
    refine Eq.trans h ?_
    show some (Tk.mk "word" i (.str (S [111, 114])) (i + 2)) = some (Tk.mk "word" i (.str "or") (i + 2))
    rw [show ("or" : Str) = S [111, 114] by decide +kernel]
  | and =>
    have h := lex_word (c := 97) (w := [110, 100]) (r := r) (i := i) (by decide) (by decide) (hb (by decide)) (by decide)
    rw [if_pos (by decide +kernel)] at h
    refine Eq.trans h ?_
    show some (Tk.mk "word" i (.str (S [97, 110, 100])) (i + 3)) = some (Tk.mk "word" i (.str "and") (i + 3))
    rw [show ("and" : Str) = S [97, 110, 100] by decide +kernel]
/-- a word behind no blank, or one -/
theorem word_of {l bl s : List Nat} {n : Nat} (h : l.drop n = bl ++ s) (hb : bl = [] ∨ bl = [32]) (hs : noHead [32] s = true) : wordAt l n = lexB s (n + bl.length) := by
  have hr : runOf l n [32] = n + bl.length := by
    rcases hb with rfl | rfl
    · cases s with
      | nil =>
        refine run_stop ?_
        have this := congrArg List.length h
        rw [List.length_drop] at this
        have e : ([] ++ [] : List Nat).length = 0 := rfl
        omega
      | cons c r =>
        obtain ⟨_, g, _⟩ := drop_get (c := c) (r := r) h
        exact run_no g (no_head hs rfl)
    · exact run_one (c := 32) (r := s) h (by decide) hs
  unfold wordAt
  rw [hr]
  have : l.drop (n + bl.length) = s := by
    rw [← List.drop_drop, h, List.drop_left]
  rw [this]
theorem head_opd (o : Opd) (r : List Nat) : noHead [32] (o.codes ++ r) = true := by cases o <;> rfl
theorem head_sg (s : Sg) (r : List Nat) : noHead [32] (s.codes ++ r) = true := by cases s <;> rfl
theorem clean_row (xs : Row) : clean (rowC xs) := by
  cases xs with
  | nil => exact clean_nil
  | cons x xs =>
    obtain ⟨o, s⟩ := x
    show clean (itemC (o, s) ++ rowC xs)
    unfold itemC sepC
    cases s <;> exact clean_cons (by decide) (by decide)
theorem noB_row (xs : Row) : noHead [93] (rowC xs) = true := by
  cases xs with
  | nil => rfl
  | cons x xs =>
    obtain ⟨o, s⟩ := x
    show noHead [93] (itemC (o, s) ++ rowC xs) = true
    unfold itemC sepC
    cases s <;> rfl
theorem blank_01 (s : Sg) : blank s = [] ∨ blank s = [32] := by cases s <;> first | exact .inl rfl | exact .inr rfl
theorem drop_more {l a b : List Nat} {p : Nat} (h : l.drop p = a ++ b) : l.drop (p + a.length) = b := by rw [← List.drop_drop, h, List.drop_left]
theorem drop_le {l a : List Nat} {p : Nat} (hp : p ≤ l.length) (h : l.drop p = a) : p + a.length = l.length := by
  have this := congrArg List.length h
  rw [List.length_drop] at this
  omega
theorem lexes_row (l : List Nat) : ∀ (xs : Row) (p : Nat) (t : Tk), t.fin = p → p ≤ l.length → l.drop p = rowC xs → Lexes l (t :: rowT p xs)
  | [], p, t, ht, hp, hd => by
    have hw := word_of (l := l) (n := p) (bl := []) (s := []) hd (.inl rfl) rfl
    refine ⟨by rw [ht]; exact hp, ?_, trivial⟩
    rw [ht]
    exact hw
  | x :: xs, p, t, ht, hp, hd => by
    obtain ⟨o, s⟩ := x
    have hd : l.drop p = itemC (o, s) ++ rowC xs := hd
    have hlen := drop_le hp hd
    have hd1 : l.drop p = blank s ++ (s.codes ++ (blank s ++ (o.codes ++ (endC s ++ rowC xs)))) := by
      rw [hd]
      unfold itemC sepC
      simp only [List.append_assoc]
    have hd2 := drop_more hd1
    have hd3 := drop_more hd2
    have hd4 : l.drop (p + (sepC s).length) = o.codes ++ (endC s ++ rowC xs) := by
      have h := drop_more hd3
      have e : p + (blank s).length + s.codes.length + (blank s).length = p + (sepC s).length := by
        unfold sepC
        rw [List.length_append, List.length_append]
        omega
      rw [e] at h
      exact h
    have hd5 := drop_more hd4
    have hl1 : (itemC (o, s)).length = (sepC s).length + o.codes.length + (endC s).length := by
      show (sepC s ++ (o.codes ++ endC s)).length = _
      rw [List.length_append, List.length_append]
      omega
    have hl2 : (sepC s).length = (blank s).length + s.codes.length + (blank s).length := by
      unfold sepC
      rw [List.length_append, List.length_append]
    rw [List.length_append] at hlen
    have hc1 : clean (blank s ++ (o.codes ++ (endC s ++ rowC xs))) ∨ blank s = [] := by
      rcases blank_01 s with e | e
      · exact .inr e
      · rw [e]
        exact .inl (clean_cons (by decide) (by decide))
    have w1 : wordAt l p = some (tokS s (p + (blank s).length)) := (word_of hd1 (blank_01 s) (head_sg _ _)).trans (lex_sg s hc1 _)
    have hc2 : clean (endC s ++ rowC xs) := by
      unfold endC
      split
      · exact clean_cons (by decide) (by decide)
      · exact clean_row xs
    have w2 : wordAt l (p + (blank s).length + s.codes.length) = some (tokO o (p + (sepC s).length)) := by
      have h := (word_of hd3 (blank_01 s) (head_opd _ _)).trans (lex_opd o hc2 _)
      rw [h, hl2]
      congr 2
      omega
    show Lexes l (t :: tokS s (p + (blank s).length) :: tokO o (p + (sepC s).length) ::
      (if s = .pick then tokW 93 (p + (sepC s).length + o.codes.length) :: rowT (p + (itemC (o, s)).length) xs else rowT (p + (itemC (o, s)).length) xs))
    refine ⟨by rw [ht]; exact hp, by rw [ht]; exact w1, ?_⟩
    refine ⟨?_, w2, ?_⟩
    · show p + (blank s).length + s.codes.length ≤ l.length
      omega
    by_cases hps : s = .pick
    · rw [if_pos hps]
      have he : endC s = [93] := by unfold endC; rw [if_pos hps]
      have w3 : wordAt l (p + (sepC s).length + o.codes.length) = some (tokW 93 (p + (sepC s).length + o.codes.length)) := by
        rw [he] at hd5
        exact (word_of (bl := []) hd5 (.inl rfl) rfl).trans (lex_single (by decide) (by decide) (by decide) (not_prs (by decide)) (by decide))
      refine ⟨?_, w3, ?_⟩
      · show p + (sepC s).length + o.codes.length ≤ l.length
        omega
      refine lexes_row l xs _ _ ?_ ?_ ?_
      · show p + (sepC s).length + o.codes.length + 1 = _
        rw [hl1, he]
        simp only [List.length_nil, List.length_cons]
        omega
      · omega
      · have h := drop_more hd
        exact h
    · rw [if_neg hps]
      have he : endC s = [] := by unfold endC; rw [if_neg hps]
      refine lexes_row l xs _ _ ?_ ?_ ?_
      · show p + (sepC s).length + o.codes.length = _
        rw [hl1, he]
        simp only [List.length_nil, List.length_cons]
        omega
      · omega
      · exact drop_more hd
/-! ### the parse of a row -/
def leafPy (o : Opd) (p : Nat) : PyData := .tuple [.str o.kind, .int p, toD o.worth]
def Tr.toPy : Tr → PyData
  | .one o p => leafPy o p
  | .more t s o p => .tuple (.str s.kind :: .int t.pos :: (s.mid.map toD ++ [t.toPy, leafPy o p]))
theorem atOf_tr (t : Tr) : atOf t.toPy = some (t.pos : Int) := by cases t <;> rfl
theorem isW_opd (wd : Str) (o : Opd) (p : Nat) : isW wd (tokO o p) = false := by
  unfold isW
  have : decide ((tokO o p).kind = "word") = false := decide_eq_false (by show o.kind ≠ "word"; cases o <;> decide +kernel)
  rw [this, Bool.false_and]
theorem isW_end (wd : Str) (p : Nat) : isW wd (tokE p) = false := by
  unfold isW
  have : decide ((tokE p).kind = "word") = false := decide_eq_false (by show ("end" : Str) ≠ "word"; decide +kernel)
  rw [this, Bool.false_and]
theorem isW_sg (wd : Str) (s : Sg) (p : Nat) : isW wd (tokS s p) = decide (s.text = wd) := by
  unfold isW
  rw [decide_eq_true (show (tokS s p).kind = "word" from rfl), Bool.true_and]
  exact decide_eq_decide.mpr str_inj
theorem isW_c (wd : Str) (c p : Nat) : isW wd (tokW c p) = decide (S [c] = wd) := by
  unfold isW
  rw [decide_eq_true (show (tokW c p).kind = "word" from rfl), Bool.true_and]
  exact decide_eq_decide.mpr str_inj
theorem inSg_end (ks : List Str) (p : Nat) : inSg ks (tokE p) = false := by
  unfold inSg
  have : decide ((tokE p).kind = "word") = false := decide_eq_false (by show ("end" : Str) ≠ "word"; decide +kernel)
  rw [this, Bool.false_and]
theorem inSg_sg (ks : List Str) (s : Sg) (p : Nat) : inSg ks (tokS s p) = decide (s.text ∈ ks) := by
  unfold inSg
  rw [decide_eq_true (show (tokS s p).kind = "word" from rfl), Bool.true_and]
  exact in_strs _ _
theorem inSg_c (ks : List Str) (c p : Nat) : inSg ks (tokW c p) = decide (S [c] ∈ ks) := by
  unfold inSg
  rw [decide_eq_true (show (tokW c p).kind = "word" from rfl), Bool.true_and]
  exact in_strs _ _
theorem hdNot_opd (wd : Str) (o : Opd) (p : Nat) (ts : List Tk) : hdNot wd (tokO o p :: ts) := fun t r e => by
  cases e
  exact isW_opd wd o p
/-- what may stand behind an operand that ends all -/
def Ends0 (t : Tk) : Prop := (∃ p, t = tokE p) ∨ ∃ p, t = tokW 93 p
theorem ends_w {t : Tk} (h : Ends0 t) (wd : Str) (hw : wd ≠ S [93]) : isW wd t = false := by
  rcases h with ⟨p, rfl⟩ | ⟨p, rfl⟩
  · exact isW_end wd p
  · rw [isW_c]
    exact decide_eq_false fun e => hw e.symm
theorem ends_in {t : Tk} (h : Ends0 t) (ks : List Str) (hw : S [93] ∉ ks) : inSg ks t = false := by
  rcases h with ⟨p, rfl⟩ | ⟨p, rfl⟩
  · exact inSg_end ks p
  · rw [inSg_c]
    exact decide_eq_false hw
theorem pass {sg : Tk → Bool} {mk : Tk → Int → PyData → PyData → PyData} {B P : Rel} {ts r : List Tk} {d : PyData} {t : Tk} (h : P ts d (t :: r)) (hs : sg t = false) : Level sg mk B P ts d (t :: r) := ⟨0, d, _, h, .stop hs⟩
theorem leaf_ok (o : Opd) (p : Nat) {t : Tk} (r : List Tk) (h : isW "(" t = false) : Leaf (tokO o p :: t :: r) (leafPy o p) (t :: r) := by
  refine ⟨_, t, r, rfl, rfl, rfl, ?_⟩
  cases o
  · exact .inr (.inr ⟨rfl, h⟩)
  · exact .inr (.inr ⟨rfl, h⟩)
  · exact .inl rfl
  · exact .inr (.inl rfl)
/-! looser levels, where nothing of theirs stands behind -/
section
variable {A : Rel} {ts r : List Tk} {d : PyData} {t : Tk} {o : Opd} {p : Nat}
theorem up_picked (h : Leaf ts d (t :: r)) (e : isW "[" t = false) : Picked A ts d (t :: r) := pass h e
theorem up_less (h : Picked A (tokO o p :: ts) d (t :: r)) : Lessened A (tokO o p :: ts) d (t :: r) := ⟨hdNot_opd _ _ _ _, h⟩
theorem up_joinT (h : Lessened A ts d (t :: r)) (e : inSg ksT t = false) : JoinT A ts d (t :: r) := pass h e
theorem up_joinP (h : JoinT A ts d (t :: r)) (e : inSg ksP t = false) : JoinP A ts d (t :: r) := pass h e
theorem up_compared (h : JoinP A ts d (t :: r)) (e1 : isW "==" t = false) (e2 : isW "!=" t = false) (e3 : isW "<" t = false) (e4 : isW "<=" t = false) : Compared A ts d (t :: r) :=
  ⟨h, fun _ _ e => by cases e; exact e1, fun _ _ e => by cases e; exact e2, fun _ _ e => by cases e; exact e3, fun _ _ e => by cases e; exact e4⟩
theorem up_turned (h : Compared A (tokO o p :: ts) d (t :: r)) : Turned A (tokO o p :: ts) d (t :: r) := ⟨hdNot_opd _ _ _ _, h⟩
theorem up_both (h : Turned A ts d (t :: r)) (e : isW "and" t = false) : Both A ts d (t :: r) := pass h e
theorem up_either (h : Both A ts d (t :: r)) (e : isW "or" t = false) : Either A ts d (t :: r) := pass h e
theorem up_any (h : Either A (tokO o p :: ts) d (t :: r)) : AnyOf A (tokO o p :: ts) d (t :: r) := ⟨hdNot_opd _ _ _ _, hdNot_opd _ _ _ _, h⟩
theorem ends_joinT (h : Lessened A ts d (t :: r)) (e : Ends0 t) : JoinT A ts d (t :: r) := up_joinT h (ends_in e _ (by decide +kernel))
theorem ends_joinP (h : JoinT A ts d (t :: r)) (e : Ends0 t) : JoinP A ts d (t :: r) := up_joinP h (ends_in e _ (by decide +kernel))
theorem ends_turned (h : JoinP A (tokO o p :: ts) d (t :: r)) (e : Ends0 t) : Turned A (tokO o p :: ts) d (t :: r) :=
  up_turned (up_compared h (ends_w e _ (by decide +kernel)) (ends_w e _ (by decide +kernel)) (ends_w e _ (by decide +kernel)) (ends_w e _ (by decide +kernel)))
theorem ends_both (h : Turned A ts d (t :: r)) (e : Ends0 t) : Both A ts d (t :: r) := up_both h (ends_w e _ (by decide +kernel))
theorem ends_either (h : Both A ts d (t :: r)) (e : Ends0 t) : Either A ts d (t :: r) := up_either h (ends_w e _ (by decide +kernel))
end
/-- a leaf alone -/
theorem any_leaf (A : Rel) (o : Opd) (p : Nat) {t : Tk} (r : List Tk) (e : Ends0 t) : AnyOf A (tokO o p :: t :: r) (leafPy o p) (t :: r) :=
  up_any (ends_either (ends_both (ends_turned (ends_joinP (ends_joinT (up_less (up_picked (leaf_ok o p r (ends_w e _ (by decide +kernel))) (ends_w e _ (by decide +kernel)))) e) e) e) e) e)
/-- what follows an operand in a row of these signs -/
def Fol (ks : List Sg) (t : Tk) : Prop := (∃ p, t = tokE p) ∨ ∃ s ∈ ks, ∃ p, t = tokS s p
theorem rowT_head {ks : List Sg} : ∀ {xs : Row} {p : Nat}, (∀ x ∈ xs, x.2 ∈ ks) → ∃ t r, rowT p xs = t :: r ∧ Fol ks t
  | [], p, _ => ⟨_, _, rfl, .inl ⟨p, rfl⟩⟩
  | x :: xs, p, h => ⟨_, _, rfl, .inr ⟨x.2, h x (List.mem_cons_self ..), _, rfl⟩⟩
/-- the loop over a row -/
theorem loop_row {sg : Tk → Bool} {mk : Tk → Int → PyData → PyData → PyData} {B : Rel} {ks : List Sg} (hs : ∀ s ∈ ks, ∀ p, sg (tokS s p) = true) (hE : ∀ p, sg (tokE p) = false)
    (hmk : ∀ s ∈ ks, ∀ (p q : Nat) (t : Tr) (o : Opd), mk (tokS s p) (t.pos : Int) t.toPy (leafPy o q) = (Tr.more t s o q).toPy)
    (hB : ∀ s ∈ ks, ∀ (o : Opd) (p n : Nat) (t : Tk) (r : List Tk), Fol ks t → B (tokO o p :: (if s = .pick then tokW 93 n :: t :: r else t :: r)) (leafPy o p) (t :: r)) :
    ∀ (xs : Row) (p : Nat) (t : Tr), (∀ x ∈ xs, x.2 ∈ ks) → ∃ k e, Loop sg mk B k t.toPy (rowT p xs) (treeF p t xs).toPy [tokE e]
  | [], p, t, _ => ⟨0, p, .stop (hE p)⟩
  | x :: xs, p, t, hx => by
    have hx1 := hx x (List.mem_cons_self ..)
    have hx2 : ∀ y ∈ xs, y.2 ∈ ks := fun y hy => hx y (List.mem_cons_of_mem _ hy)
    obtain ⟨k, e, ih⟩ := loop_row hs hE hmk hB xs (p + (itemC x).length) (.more t x.2 x.1 (p + (sepC x.2).length)) hx2
    obtain ⟨t', r', er, hf⟩ := rowT_head (p := p + (itemC x).length) hx2
    refine ⟨k + 1, e, ?_⟩
    show Loop sg mk B (k + 1) t.toPy (tokS x.2 (p + (blank x.2).length) :: tokO x.1 (p + (sepC x.2).length) ::
      (if x.2 = .pick then tokW 93 (p + (sepC x.2).length + x.1.codes.length) :: rowT (p + (itemC x).length) xs else rowT (p + (itemC x).length) xs)) (treeF (p + (itemC x).length) (.more t x.2 x.1 (p + (sepC x.2).length)) xs).toPy [tokE e]
    rw [← hmk x.2 hx1 (p + (blank x.2).length) (p + (sepC x.2).length) t x.1] at ih
    rw [er] at ih ⊢
    exact .step (hs _ hx1 _) (atOf_tr t) (hB _ hx1 x.1 _ _ t' r' hf) ih
theorem fol_w {ks : List Sg} {t : Tk} (h : Fol ks t) (wd : Str) (hw : ∀ s ∈ ks, s.text ≠ wd) : isW wd t = false := by
  rcases h with ⟨p, rfl⟩ | ⟨s, hs, p, rfl⟩
  · exact isW_end wd p
  · rw [isW_sg]
    exact decide_eq_false (hw s hs)
theorem fol_in {ks : List Sg} {t : Tk} (h : Fol ks t) (ws : List Str) (hw : ∀ s ∈ ks, s.text ∉ ws) : inSg ws t = false := by
  rcases h with ⟨p, rfl⟩ | ⟨s, hs, p, rfl⟩
  · exact inSg_end ws p
  · rw [inSg_sg]
    exact decide_eq_false (hw s hs)
theorem end_ends (p : Nat) : Ends0 (tokE p) := .inl ⟨p, rfl⟩
/-- the whole row -/
theorem any_row {ks : List Sg} (hk : ks ∈ classes) (x0 : Opd) (b : Nat) (xs : Row) (hx : ∀ x ∈ xs, x.2 ∈ ks) : ∃ e, Any 2 (tokO x0 b :: rowT (b + x0.codes.length) xs) (treeF (b + x0.codes.length) (.one x0 b) xs).toPy [tokE e] := by
  obtain ⟨t, r, er, hf⟩ := rowT_head (p := b + x0.codes.length) hx
  show ∃ e, AnyOf (Any 1) _ _ [tokE e]
  have hks : ks = [.plus, .minus] ∨ ks = [.times, .floor, .rest] ∨ ks = [.or] ∨ ks = [.and] ∨ ks = [.pick] := by
    obtain h | h := List.mem_cons.mp hk
    · exact .inl h
    obtain h | h := List.mem_cons.mp h
    · exact .inr (.inl h)
    obtain h | h := List.mem_cons.mp h
    · exact .inr (.inr (.inl h))
    obtain h | h := List.mem_cons.mp h
    · exact .inr (.inr (.inr (.inl h)))
    · exact .inr (.inr (.inr (.inr (List.mem_singleton.mp h))))
  rcases hks with rfl | rfl | rfl | rfl | rfl
  · have hB : ∀ (o : Opd) (p : Nat) (t : Tk) (r : List Tk), Fol [.plus, .minus] t → JoinT (Any 1) (tokO o p :: t :: r) (leafPy o p) (t :: r) := fun o p t r hf =>
      up_joinT (up_less (up_picked (leaf_ok o p r (fol_w hf _ (by decide +kernel))) (fol_w hf _ (by decide +kernel)))) (fol_in hf _ (by decide +kernel))
    obtain ⟨k, e, hl⟩ := loop_row (sg := inSg ksP) (mk := mkSign) (B := JoinT (Any 1)) (ks := [.plus, .minus]) (fun s hs p => by rw [inSg_sg]; revert s; decide +kernel) (fun p => inSg_end _ p)
      (fun s hs p q t o => by
        obtain rfl | hs := List.mem_cons.mp hs
        · rfl
        rcases List.mem_singleton.mp hs with rfl
        rfl)
      (fun s hs o p n t r hf => by rw [if_neg (by revert s; decide)]; exact hB o p t r hf) xs (b + x0.codes.length) (.one x0 b) hx
    refine ⟨e, up_any (ends_either (ends_both (ends_turned ⟨k, _, _, ?_, hl⟩ (end_ends e)) (end_ends e)) (end_ends e))⟩
    rw [er]
    exact hB x0 b t r hf
  · have hB : ∀ (o : Opd) (p : Nat) (t : Tk) (r : List Tk), Fol [.times, .floor, .rest] t → Lessened (Any 1) (tokO o p :: t :: r) (leafPy o p) (t :: r) := fun o p t r hf =>
      up_less (up_picked (leaf_ok o p r (fol_w hf _ (by decide +kernel))) (fol_w hf _ (by decide +kernel)))
    obtain ⟨k, e, hl⟩ := loop_row (sg := inSg ksT) (mk := mkSign) (B := Lessened (Any 1)) (ks := [.times, .floor, .rest]) (fun s hs p => by rw [inSg_sg]; revert s; decide +kernel) (fun p => inSg_end _ p)
      (fun s hs p q t o => by
        obtain rfl | hs := List.mem_cons.mp hs
        · rfl
        obtain rfl | hs := List.mem_cons.mp hs
        · rfl
        rcases List.mem_singleton.mp hs with rfl
        rfl)
      (fun s hs o p n t r hf => by rw [if_neg (by revert s; decide)]; exact hB o p t r hf) xs (b + x0.codes.length) (.one x0 b) hx
    refine ⟨e, up_any (ends_either (ends_both (ends_turned (ends_joinP ⟨k, _, _, ?_, hl⟩ (end_ends e)) (end_ends e)) (end_ends e)) (end_ends e))⟩
    rw [er]
    exact hB x0 b t r hf
  · have hB : ∀ (o : Opd) (p : Nat) (t : Tk) (r : List Tk), Fol [.or] t → Both (Any 1) (tokO o p :: t :: r) (leafPy o p) (t :: r) := fun o p t r hf =>
      up_both (up_turned (up_compared (up_joinP (up_joinT (up_less (up_picked (leaf_ok o p r (fol_w hf _ (by decide +kernel))) (fol_w hf _ (by decide +kernel)))) (fol_in hf _ (by decide +kernel))) (fol_in hf _ (by decide +kernel)))
        (fol_w hf _ (by decide +kernel)) (fol_w hf _ (by decide +kernel)) (fol_w hf _ (by decide +kernel)) (fol_w hf _ (by decide +kernel)))) (fol_w hf _ (by decide +kernel))
    obtain ⟨k, e, hl⟩ := loop_row (sg := isW "or") (mk := mkJunc "or") (B := Both (Any 1)) (ks := [.or]) (fun s hs p => by rw [isW_sg]; revert s; decide +kernel) (fun p => isW_end _ p)
      (fun s hs p q t o => by rcases List.mem_singleton.mp hs with rfl; rfl)
      (fun s hs o p n t r hf => by rw [if_neg (by revert s; decide)]; exact hB o p t r hf) xs (b + x0.codes.length) (.one x0 b) hx
    refine ⟨e, up_any ⟨k, _, _, ?_, hl⟩⟩
    rw [er]
    exact hB x0 b t r hf
  · have hB : ∀ (o : Opd) (p : Nat) (t : Tk) (r : List Tk), Fol [.and] t → Turned (Any 1) (tokO o p :: t :: r) (leafPy o p) (t :: r) := fun o p t r hf =>
      up_turned (up_compared (up_joinP (up_joinT (up_less (up_picked (leaf_ok o p r (fol_w hf _ (by decide +kernel))) (fol_w hf _ (by decide +kernel)))) (fol_in hf _ (by decide +kernel))) (fol_in hf _ (by decide +kernel)))
        (fol_w hf _ (by decide +kernel)) (fol_w hf _ (by decide +kernel)) (fol_w hf _ (by decide +kernel)) (fol_w hf _ (by decide +kernel)))
    obtain ⟨k, e, hl⟩ := loop_row (sg := isW "and") (mk := mkJunc "and") (B := Turned (Any 1)) (ks := [.and]) (fun s hs p => by rw [isW_sg]; revert s; decide +kernel) (fun p => isW_end _ p)
      (fun s hs p q t o => by rcases List.mem_singleton.mp hs with rfl; rfl)
      (fun s hs o p n t r hf => by rw [if_neg (by revert s; decide)]; exact hB o p t r hf) xs (b + x0.codes.length) (.one x0 b) hx
    refine ⟨e, up_any (ends_either ⟨k, _, _, ?_, hl⟩ (end_ends e))⟩
    rw [er]
    exact hB x0 b t r hf
  · have hB : ∀ (o : Opd) (p : Nat) (t : Tk) (r : List Tk), Fol [.pick] t → Leaf (tokO o p :: t :: r) (leafPy o p) (t :: r) := fun o p t r hf =>
      leaf_ok o p r (fol_w hf _ (by decide +kernel))
    obtain ⟨k, e, hl⟩ := loop_row (sg := isW "[") (mk := mkPick) (B := Shut (Any 1)) (ks := [.pick]) (fun s hs p => by rw [isW_sg]; revert s; decide +kernel) (fun p => isW_end _ p)
      (fun s hs p q t o => by rcases List.mem_singleton.mp hs with rfl; rfl)
      (fun s hs o p n t r hf => by
        rcases List.mem_singleton.mp hs with rfl
        rw [if_pos rfl]
        refine ⟨tokW 93 n, any_leaf (Any 0) o p (t :: r) (.inr ⟨n, rfl⟩), ?_⟩
        rw [isW_c]
        decide +kernel) xs (b + x0.codes.length) (.one x0 b) hx
    refine ⟨e, up_any (ends_either (ends_both (ends_turned (ends_joinP (ends_joinT (up_less ⟨k, _, _, ?_, hl⟩) (end_ends e)) (end_ends e)) (end_ends e)) (end_ends e)) (end_ends e))⟩
    rw [er]
    exact hB x0 b t r hf
end Lr

set_option maxRecDepth 100000
set_option maxHeartbeats 4200000
namespace Lr
open PySem PySem.Spec L2 SX
/-! ### what told_as wants of the two texts -/
theorem opd_good (o : Opd) : ∀ c ∈ o.codes, 32 ≤ c ∧ c ≤ 126 := by cases o <;> decide
theorem item_good (x : Opd × Sg) : ∀ c ∈ itemC x, 32 ≤ c ∧ c ≤ 126 := by
  obtain ⟨o, s⟩ := x
  have h : ∀ c ∈ itemC (o, s), 32 ≤ c ∧ c ≤ 126 := by
    cases o <;> cases s <;> decide
  exact h
theorem row_good : ∀ xs : Row, ∀ c ∈ rowC xs, 32 ≤ c ∧ c ≤ 126
  | [], c, h => by cases h
  | x :: xs, c, h => by
    obtain h | h := List.mem_append.mp h
    · exact item_good x c h
    · exact row_good xs c h
theorem text_good (o : Opd) (xs : Row) (h : (o.codes ++ rowC xs).length ≤ 400) : Good (o.codes ++ rowC xs) := by
  refine ⟨h, fun c hc => ?_, ?_⟩
  · obtain hc | hc := List.mem_append.mp hc
    · exact opd_good o c hc
    · exact row_good xs c hc
  · cases o
    · exact ⟨97, rowC xs, rfl, by decide, by decide⟩
    · exact ⟨98, rowC xs, rfl, by decide, by decide⟩
    · exact ⟨55, rowC xs, rfl, by decide, by decide⟩
    · exact ⟨39, 39 :: rowC xs, rfl, by decide, by decide⟩
theorem all_lex (o : Opd) (xs : Row) : Lexes (o.codes ++ rowC xs) (tokO o 0 :: rowT (0 + o.codes.length) xs) := by
  refine lexes_row _ xs _ _ rfl ?_ ?_
  · rw [List.length_append]
    omega
  · rw [Nat.zero_add, List.drop_left]
theorem first_word (o : Opd) (xs : Row) : wordAt (o.codes ++ rowC xs) 0 = some (tokO o 0) :=
  (word_of (bl := []) (s := o.codes ++ rowC xs) rfl (.inl rfl) (head_opd _ _)).trans (lex_opd o (clean_row xs) _)
theorem sg_not_eq (s : Sg) : s.text ≠ "=" ∧ s.text ≠ "(" := by cases s <;> decide +kernel
theorem no_head_of (o : Opd) (xs : Row) : HeadNo (o.codes ++ rowC xs) := by
  refine ⟨_, first_word o xs, ?_⟩
  by_cases hk : o.kind = "name"
  · refine .inr ⟨hk, ?_⟩
    have h := all_lex o xs
    obtain ⟨t, r, er, hf⟩ := rowT_head (ks := [.plus, .minus, .times, .floor, .rest, .or, .and, .pick]) (p := 0 + o.codes.length) (xs := xs) (fun x _ => by cases x.2 <;> decide)
    rw [er] at h
    obtain ⟨h1, h2, _⟩ := h
    exact ⟨t, h1, h2, fol_w hf _ fun s _ => (sg_not_eq s).1, fol_w hf _ fun s _ => (sg_not_eq s).2⟩
  · exact .inl hk
def pre : List Nat := [103, 40, 98, 41, 32, 61, 32]
theorem pre_text (z : List Nat) : ("g(b) = " : Str) ++ S z = S (pre ++ z) := by
  have e : ("g(b) = " : Str) = S pre := by decide +kernel
  rw [e, S_cat]
theorem pre_good (o : Opd) (xs : Row) (h : (o.codes ++ rowC xs).length ≤ 390) : Good (pre ++ (o.codes ++ rowC xs)) := by
  refine ⟨?_, fun c hc => ?_, 103, [40, 98, 41, 32, 61, 32] ++ (o.codes ++ rowC xs), rfl, by decide, by decide⟩
  · rw [List.length_append]
    have : pre.length = 7 := rfl
    omega
  · obtain hc | hc := List.mem_append.mp hc
    · exact (show ∀ c ∈ pre, 32 ≤ c ∧ c ≤ 126 by decide) c hc
    · obtain hc | hc := List.mem_append.mp hc
      · exact opd_good o c hc
      · exact row_good xs c hc
def tokG : Tk := ⟨"name", 0, .str "g", 1⟩
section
variable (o : Opd) (xs : Row)
theorem pw1 : wordAt (pre ++ (o.codes ++ rowC xs)) 0 = some tokG := by
  refine (word_of (bl := []) (s := pre ++ (o.codes ++ rowC xs)) rfl (.inl rfl) rfl).trans ?_
  have h := lex_word (c := 103) (w := []) (r := [40, 98, 41, 32, 61, 32] ++ (o.codes ++ rowC xs)) (i := 0) (by decide) (by decide) (clean_cons (by decide) (by decide)) (by decide)
  rw [if_neg (by decide +kernel)] at h
  refine Eq.trans h ?_
  show some (Tk.mk "name" 0 (.str (S [103])) 1) = some (Tk.mk "name" 0 (.str "g") 1)
  rw [show ("g" : Str) = S [103] by decide +kernel]
theorem pw2 : wordAt (pre ++ (o.codes ++ rowC xs)) 1 = some (tokW 40 1) :=
  (word_of (bl := []) (s := 40 :: ([98, 41, 32, 61, 32] ++ (o.codes ++ rowC xs))) rfl (.inl rfl) rfl).trans (lex_single (by decide) (by decide) (by decide) (not_prs (by decide)) (by decide))
theorem pw3 : wordAt (pre ++ (o.codes ++ rowC xs)) 2 = some (tokO .b 2) :=
  (word_of (bl := []) (s := Opd.b.codes ++ ([41, 32, 61, 32] ++ (o.codes ++ rowC xs))) rfl (.inl rfl) rfl).trans (lex_opd .b (clean_cons (by decide) (by decide)) _)
theorem pw4 : wordAt (pre ++ (o.codes ++ rowC xs)) 3 = some (tokW 41 3) :=
  (word_of (bl := []) (s := 41 :: ([32, 61, 32] ++ (o.codes ++ rowC xs))) rfl (.inl rfl) rfl).trans (lex_single (by decide) (by decide) (by decide) (not_prs (by decide)) (by decide))
theorem pw5 : wordAt (pre ++ (o.codes ++ rowC xs)) 4 = some (tokW 61 5) :=
  (word_of (bl := [32]) (s := 61 :: (32 :: (o.codes ++ rowC xs))) rfl (.inr rfl) rfl).trans (lex_single (by decide) (by decide) (by decide) (fun p hp => .inr (by
    show p ≠ [61, 32]
    revert p
    decide)) (by decide))
theorem pw6 : wordAt (pre ++ (o.codes ++ rowC xs)) 6 = some (tokO o 7) :=
  (word_of (bl := [32]) (s := o.codes ++ rowC xs) rfl (.inr rfl) (head_opd _ _)).trans (lex_opd o (clean_row xs) _)
theorem pre_len {n : Nat} (h : n ≤ 7) : n ≤ (pre ++ (o.codes ++ rowC xs)).length := by
  rw [List.length_append]
  have : pre.length = 7 := rfl
  omega
theorem isW_c40 (p : Nat) : isW "=" (tokW 40 p) = false ∧ isW "(" (tokW 40 p) = true := by
  rw [isW_c, isW_c]
  decide +kernel
theorem isW_c41 (p : Nat) : isW "," (tokW 41 p) = false ∧ isW ")" (tokW 41 p) = true := by
  rw [isW_c, isW_c]
  decide +kernel
theorem isW_c61 (p : Nat) : isW "=" (tokW 61 p) = true := by
  rw [isW_c]
  decide +kernel
theorem pre_head : HeadMany (pre ++ (o.codes ++ rowC xs)) :=
  ⟨tokG, tokW 40 1, tokO .b 2, tokW 41 3, tokW 61 5, pw1 o xs, rfl, pre_len o xs (show 1 ≤ 7 by decide), pw2 o xs, (isW_c40 1).1, (isW_c40 1).2, pre_len o xs (show 2 ≤ 7 by decide), pw3 o xs, rfl, pre_len o xs (show 3 ≤ 7 by decide), pw4 o xs, (isW_c41 3).2, pre_len o xs (show 4 ≤ 7 by decide), pw5 o xs, isW_c61 5⟩
theorem pre_lex : Lexes (pre ++ (o.codes ++ rowC xs)) (tokG :: tokW 40 1 :: tokO .b 2 :: tokW 41 3 :: tokW 61 5 :: tokO o 7 :: rowT (7 + o.codes.length) xs) := by
  refine ⟨pre_len o xs (show 1 ≤ 7 by decide), pw2 o xs, pre_len o xs (show 2 ≤ 7 by decide), pw3 o xs, pre_len o xs (show 3 ≤ 7 by decide), pw4 o xs, pre_len o xs (show 4 ≤ 7 by decide), pw5 o xs, pre_len o xs (show 6 ≤ 7 by decide), pw6 o xs, ?_⟩
  refine lexes_row _ xs _ _ rfl ?_ ?_
  · rw [List.length_append, List.length_append]
    have : pre.length = 7 := rfl
    omega
  · rw [← List.drop_drop, show (pre ++ (o.codes ++ rowC xs)).drop 7 = o.codes ++ rowC xs from rfl, List.drop_left]
end
/-! ### a tree as data -/
theorem toD_worth (o : Opd) : (∃ x, o.worth = .str x) ∨ ∃ i, o.worth = .int i := by cases o <;> first | exact .inl ⟨_, rfl⟩ | exact .inr ⟨_, rfl⟩
theorem dp_leaf {K : PySem.W.Frag} {H : Hp} {v : V} {o : Opd} {p : Nat} (h : LeafAt K H v o p) : Dp K H v (leafPy o p) := by
  obtain ⟨q, rfl, hs⟩ := h
  refine .tup hs (.cons (.str _) (.cons (.int _) (.cons ?_ .nil)))
  rcases toD_worth o with ⟨x, e⟩ | ⟨i, e⟩ <;> rw [e]
  · exact .str x
  · exact .int i
theorem dp_tree {K : PySem.W.Frag} {H : Hp} : ∀ {t : Tr} {v : V}, TrAt K H v t → Dp K H v t.toPy
  | .one o p, _, h => dp_leaf h
  | .more t s o p, v, ⟨q, v1, v2, e, hs, h1, h2⟩ => by
    subst e
    refine .tup hs (.cons (.str _) (.cons (.int _) ?_))
    rcases mid_str s with e | e <;> rw [e]
    · exact .cons (dp_tree h1) (.cons (dp_leaf h2) .nil)
    · exact .cons (.str _) (.cons (dp_tree h1) (.cons (dp_leaf h2) .nil))
theorem canlay_leaf (o : Opd) (p : Nat) : (leafPy o p).canLay0 = true := by
  show (PyData.canLay0 (.str o.kind) && (PyData.canLay0 (.int p) && (PyData.canLay0 (toD o.worth) && true))) = true
  have h1 : PyData.canLay0 (.str o.kind) = true := by cases o <;> decide +kernel
  have h3 : PyData.canLay0 (toD o.worth) = true := by cases o <;> decide +kernel
  rw [h1, h3]
  rfl
theorem canlay_tr : ∀ t : Tr, t.toPy.canLay0 = true
  | .one o p => canlay_leaf o p
  | .more t s o p => by
    have ih := canlay_tr t
    have h1 : PyData.canLay0 (.str s.kind) = true := by cases s <;> decide +kernel
    have h2 := canlay_leaf o p
    show (PyData.canLay0 (.str s.kind) && (PyData.canLay0 (.int t.pos) && PyData.canLayAll0 (s.mid.map toD ++ [t.toPy, leafPy o p]))) = true
    have h3 : PyData.canLay0 (.str s.text) = true := by cases s <;> decide +kernel
    have h4 : PyData.canLayAll0 (s.mid.map toD ++ [t.toPy, leafPy o p]) = true := by
      rcases mid_str s with e | e <;> rw [e]
      · show (t.toPy.canLay0 && ((leafPy o p).canLay0 && true)) = true
        rw [ih, h2]
        rfl
      · show (PyData.canLay0 (.str s.text) && (t.toPy.canLay0 && ((leafPy o p).canLay0 && true))) = true
        rw [h3, ih, h2]
        rfl
    rw [h1, h4]
    rfl
theorem depth_leaf (o : Opd) (p : Nat) : (leafPy o p).depth = 1 := by cases o <;> rfl
theorem depth_tree : ∀ t : Tr, t.toPy.depth ≤ t.size
  | .one o p => by
    show (leafPy o p).depth ≤ 1
    rw [depth_leaf]
    exact Nat.le_refl _
  | .more t s o p => by
    have ih := depth_tree t
    have h2 := depth_leaf o p
    have ht : 1 ≤ t.size := by cases t <;> exact Nat.succ_le_succ (Nat.zero_le _)
    show max 0 (max 0 (PyData.depthAll (s.mid.map toD ++ [t.toPy, leafPy o p]))) + 1 ≤ t.size + 1
    have h4 : PyData.depthAll (s.mid.map toD ++ [t.toPy, leafPy o p]) ≤ t.size := by
      rcases mid_str s with e | e <;> rw [e]
      · show max t.toPy.depth (max (leafPy o p).depth 0) ≤ t.size
        omega
      · show max 0 (max t.toPy.depth (max (leafPy o p).depth 0)) ≤ t.size
        omega
    omega
theorem canlay_strs : ∀ xs : List Str, (∀ x ∈ xs, PyData.strOk x = true) → PyData.canLay0 (.list (xs.map .str)) = true
  | [], _ => rfl
  | x :: xs, h => by
    show (PyData.strOk x && PyData.canLayAll0 (xs.map .str)) = true
    have ih : PyData.canLayAll0 (xs.map .str) = true := canlay_strs xs fun y hy => h y (List.mem_cons_of_mem _ hy)
    rw [h x (List.mem_cons_self ..), ih]
    rfl
theorem depth_strs (xs : List Str) : PyData.depth (.list (xs.map .str)) = 1 := by
  show PyData.depthAll (xs.map .str) + 1 = 1
  have : PyData.depthAll (xs.map .str) = 0 := by
    induction xs with
    | nil => rfl
    | cons x xs ih =>
      show max 0 (PyData.depthAll (xs.map .str)) = 0
      omega
  omega
theorem dpa_strs {K : PySem.W.Frag} {H : Hp} : ∀ xs : List Str, DpAll K H (xs.map V.str) (xs.map PyData.str)
  | [] => .nil
  | x :: xs => .cons (.str x) (dpa_strs xs)
/-! ### names, each once -/
def isName (o : Opd) : Bool := decide (o.kind = "name")
def namesM (row : Row) : List Str := (row.filter fun x => isName x.1).map fun x => x.1.text
def dueI (ns : List Str) : Nat → List Str
  | 0 => []
  | i + 1 => match ns[i]? with
    | some x => if x ∈ ns.take i then dueI ns i else dueI ns i ++ [x]
    | none => dueI ns i
def dueM (ns : List Str) : List Str := dueI ns ns.length
theorem due_mem (ns : List Str) (x : Str) : ∀ i : Nat, i ≤ ns.length → (x ∈ dueI ns i ↔ x ∈ ns.take i)
  | 0, _ => by simp [dueI]
  | i + 1, hi => by
    have ih := due_mem ns x i (Nat.le_of_succ_le hi)
    have hg : ns[i]? = some ns[i] := List.getElem?_eq_getElem hi
    have ht : ns.take (i + 1) = ns.take i ++ [ns[i]] := (List.take_append_getElem hi).symm
    unfold dueI
    rw [hg, ht]
    show x ∈ (if ns[i] ∈ ns.take i then dueI ns i else dueI ns i ++ [ns[i]]) ↔ _
    by_cases hm : ns[i] ∈ ns.take i
    · rw [if_pos hm, ih, List.mem_append, List.mem_singleton]
      constructor
      · exact .inl
      · rintro (h | rfl)
        · exact h
        · exact hm
    · rw [if_neg hm, List.mem_append, List.mem_append, ih]
theorem due_app (ns ms : List Str) : ∀ i : Nat, i ≤ ns.length → dueI (ns ++ ms) i = dueI ns i
  | 0, _ => rfl
  | i + 1, hi => by
    have ih := due_app ns ms i (Nat.le_of_succ_le hi)
    unfold dueI
    rw [List.getElem?_append_left hi, List.take_append_of_le_length (Nat.le_of_succ_le hi), ih]
theorem due_snoc (ns : List Str) (x : Str) : dueM (ns ++ [x]) = if x ∈ ns then dueM ns else dueM ns ++ [x] := by
  unfold dueM
  rw [List.length_append]
  show dueI (ns ++ [x]) (ns.length + 1) = _
  have hg : (ns ++ [x])[ns.length]? = some x := by simp
  unfold dueI
  rw [hg, due_app ns [x] ns.length (Nat.le_refl _), List.take_left]
  cases ns with
  | nil => rfl
  | cons => rfl
theorem names_snoc (row : Row) (x : Opd × Sg) : namesM (row ++ [x]) = if isName x.1 = true then namesM row ++ [x.1.text] else namesM row := by
  unfold namesM
  rw [List.filter_append, List.map_append]
  by_cases h : isName x.1 = true
  · rw [if_pos h, List.filter_cons, if_pos h]
    rfl
  · rw [if_neg h, List.filter_cons, if_neg h]
    show _ ++ [] = _
    rw [List.append_nil]
theorem free_step (ps ns : List Str) (o : Opd) : addF ((dueM ns).filter (fun w => decide (w ∉ ps))) (freeLeaf ps o) = (dueM (if isName o = true then ns ++ [o.text] else ns)).filter (fun w => decide (w ∉ ps)) := by
  unfold freeLeaf
  by_cases hn : o.kind = "name"
  · rw [if_pos (show isName o = true from decide_eq_true hn), due_snoc]
    have hmem : o.text ∈ dueM ns ↔ o.text ∈ ns := by
      have := due_mem ns o.text ns.length (Nat.le_refl _)
      rw [List.take_length] at this
      exact this
    by_cases hp : o.text ∈ ps
    · rw [if_neg (fun e => e.2 hp)]
      have e0 : addF ((dueM ns).filter (fun w => decide (w ∉ ps))) [] = (dueM ns).filter (fun w => decide (w ∉ ps)) := by simp [addF]
      rw [e0]
      split
      · rfl
      · rw [List.filter_append, List.filter_cons, if_neg (by simpa using hp)]
        simp
    · rw [if_pos ⟨hn, hp⟩]
      by_cases hm : o.text ∈ ns
      · rw [if_pos hm]
        have hf : o.text ∈ (dueM ns).filter (fun w => decide (w ∉ ps)) := List.mem_filter.mpr ⟨hmem.mpr hm, by simpa using hp⟩
        unfold addF
        rw [List.filter_cons, if_neg (fun e => absurd hf (of_decide_eq_true e))]
        simp
      · rw [if_neg hm]
        have hf : o.text ∉ (dueM ns).filter (fun w => decide (w ∉ ps)) := fun h => hm (hmem.mp (List.mem_filter.mp h).1)
        unfold addF
        rw [List.filter_cons, if_pos (decide_eq_true hf), List.filter_append, List.filter_cons, if_pos (decide_eq_true hp)]
        rfl
  · have hi : isName o = false := decide_eq_false hn
    rw [if_neg (fun e => hn e.1), hi]
    simp [addF]
theorem free_row (ps : List Str) (x0 : Opd × Sg) (xs : Row) : ∀ i : Nat, i ≤ xs.length → freeM ps (builtM x0 (xs.take i)).2 = (dueM (namesM (x0 :: xs.take i))).filter (fun w => decide (w ∉ ps))
  | 0, _ => by
    show freeLeaf ps x0.1 = _
    have h := free_step ps [] x0.1
    have e0 : addF ((dueM []).filter (fun w => decide (w ∉ ps))) (freeLeaf ps x0.1) = freeLeaf ps x0.1 := addF_nil _
    rw [e0] at h
    rw [h]
    have e1 : namesM (x0 :: xs.take 0) = if isName x0.1 = true then [] ++ [x0.1.text] else [] := names_snoc [] x0
    rw [e1]
  | i + 1, hi => by
    have ih := free_row ps x0 xs i (Nat.le_of_succ_le hi)
    have hg : xs[i]? = some xs[i] := List.getElem?_eq_getElem hi
    rw [built_take x0 xs hg]
    show addF (freeM ps (builtM x0 (xs.take i)).2) (freeLeaf ps xs[i].1) = _
    rw [ih, free_step]
    have ht : x0 :: xs.take (i + 1) = (x0 :: xs.take i) ++ [xs[i]] := by
      rw [← List.take_append_getElem hi]
      rfl
    rw [ht, names_snoc]
/-! ### shown -/
def againM (x0 : Opd × Sg) (xs : Row) : List Nat := xs.foldl (fun acc x => showS x.2 acc x.1.codes) x0.1.codes
theorem again_take (x0 : Opd × Sg) (xs : Row) {i : Nat} {x : Opd × Sg} (h : xs[i]? = some x) : againM x0 (xs.take (i + 1)) = showS x.2 (againM x0 (xs.take i)) x.1.codes := by
  obtain ⟨hj, e⟩ := List.getElem?_eq_some_iff.mp h
  unfold againM
  rw [← e, ← List.take_append_getElem hj, List.foldl_append]
  rfl
theorem shown_row (x0 : Opd × Sg) (xs : Row) : ∀ i : Nat, i ≤ xs.length → showM (builtM x0 (xs.take i)).2 = againM x0 (xs.take i)
  | 0, _ => rfl
  | i + 1, hi => by
    have ih := shown_row x0 xs i (Nat.le_of_succ_le hi)
    have hg : xs[i]? = some xs[i] := List.getElem?_eq_getElem hi
    rw [built_take x0 xs hg, again_take x0 xs hg, ← ih]
    rfl
theorem even_row {ks : List Sg} (hk : ks ∈ classes) (x0 : Opd × Sg) (xs : Row) (hx : ∀ x ∈ xs, x.2 ∈ ks) : ∀ i : Nat, i ≤ xs.length → (builtM x0 (xs.take i)).2.even ∧ ∀ s ∈ ks, s.lev ≤ (builtM x0 (xs.take i)).2.loose
  | 0, _ => ⟨trivial, fun s _ => by show s.lev ≤ 8; cases s <;> decide⟩
  | i + 1, hi => by
    have ih := even_row hk x0 xs hx i (Nat.le_of_succ_le hi)
    have hg : xs[i]? = some xs[i] := List.getElem?_eq_getElem hi
    have hm := hx xs[i] (List.getElem_mem hi)
    rw [built_take x0 xs hg]
    refine ⟨⟨ih.1, ih.2 _ hm⟩, fun s hs => ?_⟩
    show s.lev ≤ xs[i].2.lev
    have h : ∀ ks ∈ classes, ∀ s ∈ ks, ∀ s' ∈ ks, s.lev ≤ s'.lev := by decide
    exact h ks hk s hs _ hm
end Lr

set_option maxRecDepth 100000
set_option maxHeartbeats 8000000
namespace Lr
open PySem PySem.Spec L2 SX
theorem told1 {ks : List Sg} (hk : ks ∈ classes) (x0 : Opd × Sg) (xs : Row) (hx : ∀ x ∈ xs, x.2 ∈ ks) (hl : (builtM x0 xs).1.length ≤ 390) : Good (builtM x0 xs).1 ∧
    ∃ (t1 te : Tk) (ts : List Tk), HeadNo (builtM x0 xs).1 ∧ wordAt (builtM x0 xs).1 0 = some t1 ∧ Lexes (builtM x0 xs).1 (t1 :: ts) ∧ Any 2 (t1 :: ts) (builtM x0 xs).2.toPy [te] ∧ te.kind = "end" := by
  rw [built_is] at hl ⊢
  obtain ⟨e, he⟩ := any_row hk x0.1 0 xs hx
  rw [Nat.zero_add] at he
  have hlx := all_lex x0.1 xs
  rw [Nat.zero_add] at hlx
  exact ⟨text_good _ _ (Nat.le_trans hl (by decide)), _, tokE e, _, no_head_of _ _, first_word _ _, hlx, he, rfl⟩
theorem told2 {ks : List Sg} (hk : ks ∈ classes) (x0 : Opd × Sg) (xs : Row) (hx : ∀ x ∈ xs, x.2 ∈ ks) (hl : (builtM x0 xs).1.length ≤ 390) : Good (pre ++ (builtM x0 xs).1) ∧ HeadMany (pre ++ (builtM x0 xs).1) ∧
    ∃ (t1 t2 t3 t4 t5 t6 te : Tk) (ts : List Tk), wordAt (pre ++ (builtM x0 xs).1) 0 = some t1 ∧ Lexes (pre ++ (builtM x0 xs).1) (t1 :: t2 :: t3 :: t4 :: t5 :: t6 :: ts) ∧ t1.worth = .str "g" ∧ isW "(" t2 = true ∧ t3.kind = "name" ∧ t3.worth = .str "b" ∧ isW "," t4 = false ∧ isW ")" t4 = true ∧ isW "=" t5 = true ∧
      Any 2 (t6 :: ts) ((builtM x0 xs).2.shift 7).toPy [te] ∧ te.kind = "end" := by
  rw [built_is] at hl ⊢
  obtain ⟨e, he⟩ := any_row hk x0.1 7 xs hx
  have hsh : (treeF x0.1.codes.length (.one x0.1 0) xs).shift 7 = treeF (7 + x0.1.codes.length) (.one x0.1 7) xs := by
    rw [treeF_shift, Nat.add_comm]
    rfl
  show Good (pre ++ (x0.1.codes ++ rowC xs)) ∧ HeadMany (pre ++ (x0.1.codes ++ rowC xs)) ∧ ∃ (t1 t2 t3 t4 t5 t6 te : Tk) (ts : List Tk), wordAt (pre ++ (x0.1.codes ++ rowC xs)) 0 = some t1 ∧ _ ∧ _ ∧ _ ∧ _ ∧ _ ∧ _ ∧ _ ∧ _ ∧ Any 2 (t6 :: ts) ((treeF x0.1.codes.length (.one x0.1 0) xs).shift 7).toPy [te] ∧ _
  rw [hsh]
  exact ⟨pre_good _ _ hl, pre_head _ _, tokG, tokW 40 1, tokO .b 2, tokW 41 3, tokW 61 5, tokO x0.1 7, tokE e, _, pw1 _ _, pre_lex _ _, rfl, (isW_c40 1).2, rfl, rfl, (isW_c41 3).1, (isW_c41 3).2, isW_c61 5, he, rfl⟩
theorem shift_size (n : Nat) : ∀ t : Tr, (t.shift n).size = t.size
  | .one _ _ => rfl
  | .more t _ _ _ => congrArg Nat.succ (shift_size n t)
theorem dp_same {d : PyData} (h : d.canLay0 = true) : (!PyData.eqv d d) = false := by
  rw [SeqAt.eqv_refl d h]
  rfl
theorem cut_take (vs : List V) (i : Nat) : cutV vs none (some (i : Int)) = vs.take i := by
  show (vs.drop 0).take (HT.sIx vs.length vs.length (some (i : Int)) - 0) = vs.take i
  rw [HT.sIx_nat, List.drop_zero, Nat.sub_zero]
  by_cases h : i ≤ vs.length
  · rw [Nat.min_eq_left h]
  · rw [Nat.min_eq_right (by omega), List.take_length, List.take_of_length_le (by omega)]
theorem cut_last (vs : List V) (h : vs ≠ []) : cutV vs none (some (-1)) = vs.take (vs.length - 1) := by
  have hp : 0 < vs.length := List.length_pos_iff.mpr h
  have e : HT.sIx vs.length vs.length (some (-1)) = vs.length - 1 := by
    show (if (-1 : Int) < 0 then ((-1 : Int) + (vs.length : Int)).toNat else min (-1 : Int).toNat vs.length) = vs.length - 1
    rw [if_pos (by decide)]
    omega
  show (vs.drop 0).take (HT.sIx vs.length vs.length (some (-1)) - 0) = _
  rw [e, List.drop_zero, Nat.sub_zero]
theorem names_take {row : Row} {i : Nat} {x : Opd × Sg} (h : row[i]? = some x) : namesM (row.take (i + 1)) = if isName x.1 = true then namesM (row.take i) ++ [x.1.text] else namesM (row.take i) := by
  obtain ⟨hj, e⟩ := List.getElem?_eq_some_iff.mp h
  rw [← e, ← List.take_append_getElem hj, names_snoc]
theorem names_len (row : Row) : (namesM row).length ≤ row.length := by
  unfold namesM
  rw [List.length_map]
  exact List.length_filter_le _ _
theorem due_len (ns : List Str) : ∀ i : Nat, (dueI ns i).length ≤ i
  | 0 => Nat.le_refl _
  | i + 1 => by
    have ih := due_len ns i
    unfold dueI
    split
    · split
      · omega
      · rw [List.length_append]
        show _ + 1 ≤ i + 1
        omega
    · omega
theorem names_ab (row : Row) : ∀ w ∈ namesM row, PyData.strOk w = true := by
  intro w hw
  unfold namesM at hw
  obtain ⟨x, _, rfl⟩ := List.mem_map.mp hw
  cases x.1 <;> decide +kernel
theorem due_ab (row : Row) : ∀ w ∈ dueM (namesM row), PyData.strOk w = true := fun w hw => by
  have h := (due_mem (namesM row) w (namesM row).length (Nat.le_refl _)).mp hw
  rw [List.take_length] at h
  exact names_ab row w h
theorem again_len (x0 : Opd × Sg) (xs : Row) : ∀ i : Nat, i ≤ xs.length → (againM x0 (xs.take i)).length ≤ 10 * (i + 1)
  | 0, _ => by
    show x0.1.codes.length ≤ 10
    cases x0.1 <;> decide
  | i + 1, hi => by
    have ih := again_len x0 xs i (Nat.le_of_succ_le hi)
    rw [again_take x0 xs (List.getElem?_eq_getElem hi)]
    have h1 : xs[i].1.codes.length ≤ 2 := by cases xs[i].1 <;> decide
    have h2 : xs[i].2.codes.length ≤ 4 := by cases xs[i].2 <;> decide
    unfold showS
    split <;> simp only [List.length_append, List.length_cons, List.length_nil] <;> omega
def spLaw (K : PySem.W.Frag) : Sp := fun vs H Q _ => ∃ (a : Addr) (ns : List Int), vs = [.ref a] ∧ SqL K H a (ns.map V.int) ∧ ns.length ≤ 63 ∧ ∀ H', Q (.bl true) H'
section
variable {P : Program} {w : World} {K : PySem.W.Frag} {mg : Str → Option Value} {base : Heap} {C aKEPT aPAIRS aLOOSE aSIGNS : Addr}
theorem f_law (T : Top w K mg C aKEPT aPAIRS aLOOSE aSIGNS) {fa : Addr} {fd : FuncData} (hF : C8.Fun K "law" "law" s_law fa fd) : Fn P w K mg base 288 fa fd ["_law_script"] (spLaw K) := by
  have c__law_tape := c__law_tape (P := P) (base := base) T
  have c__law_row := c__law_row (P := P) (base := base) T
  have c__law_built := c__law_built (P := P) (base := base) T
  have c_told_as := c_told_as (P := P) (base := base) T
  have c__law_moved := c__law_moved (P := P) (base := base) T 95
  have c_free := c_free (P := P) (base := base) T 95
  have c_shown_tree := c_shown (P := P) (base := base) T 95
  refine fn_by hF sc_law (fun vs H Q E h => ?_) (fun f cdv A outer s H vs Q E hr h => ?_)
  · obtain ⟨_, _, rfl, _⟩ := h
    rfl
  obtain ⟨a, ns, rfl, hS, hns, q⟩ := h
  refine ⟨_, (pss_cons (ps_for PassesOwn.never rfl (pi_range1 rfl T.n_range (pa_cons (pe_callB (call_max2 rfl) rfl T.n_max (by decide +kernel) (pa_cons pe_int (pa_cons (pe_callB (call_min2 rfl) rfl T.n_min (by decide +kernel) (pa_cons pe_int (pa_cons (pe_callB call_len_seq rfl T.n_len (by decide +kernel) (pa_cons (pv 0) pa_nil)) pa_nil))) pa_nil))) pa_nil)) (pg_name (i := 1) sc_law.nd rfl (Or.inl rfl)) (pss_cons (ps_set (i := 2) sc_law.nd rfl (Or.inl rfl) (pe_c c__law_tape hr (by decide) rfl (pa_cons (pv 0) (pa_cons (pv 1) pa_nil))))
      (pss_cons (ps_set (i := 3) sc_law.nd rfl (Or.inl rfl) (pe_c c__law_row hr (by decide) rfl (pa_cons (pv 2) pa_nil)))
      (pss_cons (ps_while PassesOwn.never (pt_cmpR op_gt (pe_callB call_len_str rfl T.n_len (by decide +kernel) (pa_cons (pe_ix ix_tup (pe_c c__law_built hr (by decide) rfl (pa_cons (pv 3) pa_nil)) pe_int (fun _ _ => rfl)) pa_nil)) pe_int (nomark _)) (pss_one (ps_set (i := 3) sc_law.nd rfl (Or.inl rfl) (pe_slice sl_list (pv 3) po_none (po_some (pe_un un_neg pe_int))))))
      (pss_cons (ps_asg (pe_c c__law_built hr (by decide) rfl (pa_cons (pv 3) pa_nil)) (pg_tup (by rfl) (pgs_cons (pg_name (i := 4) sc_law.nd rfl (Or.inl rfl)) (pgs_cons (pg_name (i := 5) sc_law.nd rfl (Or.inl rfl)) pgs_nil))))
      (pss_cons (ps_if (PW.pt (pw_or (pt_cmpR (op_neX hr) (pe_c c_told_as hr (by decide) rfl (pa_cons (pv 4) pa_nil)) (pe_tup (pa_cons pe_str (pa_cons (pv 5) pa_nil))) (nomark _)) (pw_or1 (pt_cmpR (op_neX hr) (pe_c c_told_as hr (by decide) rfl (pa_cons (pe_op op_add_str pe_str (pv 4)) pa_nil)) (pe_tup (pa_cons pe_str (pa_cons pe_str (pa_cons (pe_tup (pa_cons pe_str pa_nil)) (pa_cons (pe_c c__law_moved hr (by decide) rfl (pa_cons (pv 5) (pa_cons pe_int pa_nil))) pa_nil))))) (nomark _))))) (pss_one (ps_ret pe_bl)) pss_nil)
      (pss_cons (ps_set (i := 8) sc_law.nd rfl (Or.inr rfl) (pe_lc (own := [("_law_word", 6), ("_law_sign", 7)]) (g := gTup K 2 (gCons (gName 6) (gCons (gName 7) gNil))) (tt := _) rfl sc_law.nd (pi_list (pv 3)) (blkOk_by (own := [("_law_word", 6), ("_law_sign", 7)]) (N := n_law) (sc := C8.fnScope s_law) (by decide +kernel)) (fun _ _ _ _ _ => (pg_tup (by rfl) (pgs_cons (pg_name (i := 6) sc_law.nd rfl (Or.inl rfl)) (pgs_cons (pg_name (i := 7) sc_law.nd rfl (Or.inl rfl)) pgs_nil)))) (fun _ _ _ _ _ => (pts_one (pt_cmpR (opI (K := K)) (pv 6) (pe_tup (pa_cons pe_str (pa_cons pe_str pa_nil))) rfl))) (fun _ _ _ _ _ => (pv 6))))
      (pss_cons (ps_setLc (i := 9) (own := [("_law_k", 11), ("_law_name", 12)]) (g := gTup K 2 (gCons (gName 11) (gCons (gName 12) gNil))) (tt := _) rfl sc_law.nd rfl rfl (sw_true rfl rfl rfl (by decide +kernel)) (pi_enum (by rfl) T.n_enumerate (pa_cons (pv 8) pa_nil)) (blkOk_by (own := [("_law_k", 11), ("_law_name", 12)]) (N := n_law) (sc := C8.fnScope s_law) (by decide +kernel)) (fun _ _ _ _ _ => (pg_tup (by rfl) (pgs_cons (pg_name (i := 11) sc_law.nd rfl (Or.inl rfl)) (pgs_cons (pg_name (i := 12) sc_law.nd rfl (Or.inl rfl)) pgs_nil)))) (fun _ _ _ _ _ => (pts_one (pt_cmpR (opNI (K := K)) (pv 12) (pe_slice (slL (K := K)) (pv 8) po_none (po_some (pv 11))) rfl))) (fun _ _ _ _ _ => (pv 12)))
      (pss_cons (ps_if (PW.pt (pw_or (pt_cmpR (op_neX hr) (pe_c c_free hr (by decide) rfl (pa_cons (pv 5) (pa_cons (pe_tup pa_nil) pa_nil))) (pv 9) (nomark _)) (pw_or1 (pt_cmpR (op_neX hr) (pe_c c_free hr (by decide) rfl (pa_cons (pv 5) (pa_cons (pe_tup (pa_cons pe_str pa_nil)) pa_nil))) (pe_lc (own := [("_law_name", 12)]) (g := gName 12) (tt := _) rfl sc_law.nd (pi_list (pv 9)) (blkOk_by (own := [("_law_name", 12)]) (N := n_law) (sc := C8.fnScope s_law) (by decide +kernel)) (fun _ _ _ _ _ => (pg_name (i := 12) sc_law.nd rfl (Or.inl rfl))) (fun _ _ _ _ _ => (pts_one (pt_cmpR op_ne (pv 12) pe_str (nomark _)))) (fun _ _ _ _ _ => (pv 12))) (nomark _))))) (pss_one (ps_ret pe_bl)) pss_nil)
      (pss_cons (ps_set (i := 10) sc_law.nd rfl (Or.inl rfl) (pe_ix ix_tup (pe_ix ix_list (pv 3) pe_int (fun _ _ => rfl)) pe_int (fun _ _ => rfl)))
      (pss_cons (ps_for PassesOwn.never rfl (pi_list (pe_slice sl_list (pv 3) (po_some pe_int) po_none)) (pg_tup (by rfl) (pgs_cons (pg_name (i := 6) sc_law.nd rfl (Or.inl rfl)) (pgs_cons (pg_name (i := 7) sc_law.nd rfl (Or.inl rfl)) pgs_nil))) (pss_one (ps_set (i := 10) sc_law.nd rfl (Or.inl rfl) (pe_op op_add_str (pv 10) (pe_ix ix_list (pe_lst (pa_cons (pe_op op_add_str (pe_op op_add_str (pe_op op_add_str pe_str (pv 7)) pe_str) (pv 6)) (pa_cons (pe_op op_add_str (pe_op op_add_str pe_str (pv 6)) pe_str) pa_nil))) (pe_callTy call_int1 rfl T.n_int (by decide +kernel) (pa_cons (pe_cmpR op_eq (pv 7) pe_str (nomark _)) pa_nil)) (fun _ _ => rfl))))))
      (pss_one (ps_if (pt_cmpR op_ne (pe_c c_shown_tree hr (by decide) rfl (pa_cons (pv 5) pa_nil)) (pv 10) (nomark _)) (pss_one (ps_ret pe_bl)) pss_nil)))))))))))))
      (pss_one (ps_ret pe_bl))), ?_⟩
  have hN : ∀ n : Int, 0 ≤ n → 1 ≤ (if (if n < 4 then n else 4) > 1 then (if n < 4 then n else 4) else 1 : Int) ∧ (if (if n < 4 then n else 4) > 1 then (if n < 4 then n else 4) else 1 : Int) ≤ 4 := fun n h => by
    split <;> split <;> omega
  have hN' := hN ((ns.map V.int).length : Int) (by omega)
  refine ⟨_, rfl, a, _, rfl, .inl hS, _, _, rfl, _, _, rfl, _, rfl, by omega, by omega, ?_⟩
  refine for_range (lo := 0) (fun i σ H' => ∃ o1 o2 o3 o4 o5 o6 o7 o8 o9 o10 o11 o12, σ = [some (.ref a), o1, o2, o3, o4, o5, o6, o7, o8, o9, o10, o11, o12] ∧ Same H H')
    ⟨none, none, none, none, none, none, none, none, none, none, none, none, rfl, Same.refl _⟩ ?_ ?_
  · rintro i σ H1 hi ⟨o1, o2, o3, o4, o5, o6, o7, o8, o9, o10, o11, o12, rfl, s1⟩
    have hi4 : i < 4 := by omega
    refine ⟨_, rfl, _, rfl, a, ns, 0 + (i : Int), rfl, s1.seq hS, hns, by omega, by omega, fun H2 p s2 np hp => ?_⟩
    refine ⟨_, rfl, p, rfl, hp, fun H3 r row ks k3 kt3 hks hrow hin h20 h95 => ?_⟩
    have s3 : Same H H3 := s1.trans fun b u e => k3 b u (ne_of_none e np) (s2 b u e)
    obtain ⟨x0, xs, rfl⟩ : ∃ x0 xs, row = x0 :: xs := by
      match row, h20 with
      | x :: xs, _ => exact ⟨x, xs, rfl⟩
    have hxs94 : xs.length ≤ 94 := Nat.le_of_succ_le_succ h95
    have hin0 : ∀ x ∈ xs, x.2 ∈ ks := fun x hx => hin x (List.mem_cons_of_mem _ hx)
    refine ⟨fun m σ H' => ∃ r x0 xs, σ = [some (.ref a), some (.int (0 + (i : Int))), some (.ref p), some (.ref r), o4, o5, o6, o7, o8, o9, o10, o11, o12] ∧ Same H H' ∧ RowAt H' r (x0 :: xs) ∧ (∀ x ∈ xs, x.2 ∈ ks) ∧ xs.length ≤ 94 ∧ m = xs.length,
      ⟨_, r, x0, xs, rfl, s3, hrow, hin0, hxs94, rfl⟩, ?_⟩
    clear hrow hin hin0 hxs94 h20 h95 s3 kt3 k3
    rintro m σ H4 ⟨r, x0, xs, rfl, s4, hrow, hin, hxs, rfl⟩
    obtain ⟨ys, hr, hI⟩ := hrow
    have hbl := built_len x0 xs xs.length (Nat.le_refl _)
    rw [List.take_length] at hbl
    refine ⟨_, rfl, r, ys, x0, xs, rfl, hr, hI, by omega, fun H5 g v s5 hg hT => ?_⟩
    refine ⟨g, _, _, _, rfl, rfl, SqT.of hg, at_nat (n := 0) rfl, _, rfl, ?_, _, _, rfl, rfl, _, rfl, ?_⟩
    · rw [S_len]
      exact sl (by omega)
    refine ite2 (fun c => ?_) (fun c => ?_)
    · have hc := of_decide_eq_true c
      rw [S_len] at hc
      have hne : xs ≠ [] := fun e => by
        subst e
        have h2 : (builtM x0 []).1.length ≤ 2 := by
          show x0.1.codes.length ≤ 2
          cases x0.1 <;> decide
        omega
      have hpos : 0 < xs.length := List.length_pos_iff.mpr hne
      have hyl := hI.len
      have hyne : ys ≠ [] := fun e => by
        rw [e] at hyl
        cases hyl
      refine ⟨fun σ' H'' => ∃ r', σ' = [some (.ref a), some (.int (0 + (i : Int))), some (.ref p), some (.ref r'), o4, o5, o6, o7, o8, o9, o10, o11, o12] ∧ Same H H'' ∧ RowAt H'' r' (x0 :: xs.take (xs.length - 1)), ?_, ?_⟩
      · rintro σ' H'' ⟨r', rfl, s6, hrow'⟩
        refine ⟨(xs.take (xs.length - 1)).length, ?_, r', x0, xs.take (xs.length - 1), rfl, s6, hrow', fun x hx => hin x (List.mem_of_mem_take hx), ?_, rfl⟩
        · rw [List.length_take]
          omega
        · rw [List.length_take]
          omega
      · refine ⟨_, rfl, _, rfl, _, rfl, r, _, rfl, SqL.of (s5 _ _ hr), fun r' hr' => ?_⟩
        have e1 : cutV ys none (some (-1)) = ys.take (ys.length - 1) := cut_last ys hyne
        have fin : ∀ zs, zs = ys.take (ys.length - 1) → RowAt (upd H5 r' (.lst zs)) r' (x0 :: xs.take (xs.length - 1)) := fun zs ez => by
          subst ez
          refine ⟨_, upd_same, ?_⟩
          have h1 := ((hI.keep (.of s5)).keep (KeepT.new hr' (.lst (ys.take (ys.length - 1))))).take (ys.length - 1)
          have e2 : (x0 :: xs).take (ys.length - 1) = x0 :: xs.take (xs.length - 1) := by
            rw [hyl]
            show (x0 :: xs).take (xs.length + 1 - 1) = _
            rw [show xs.length + 1 - 1 = (xs.length - 1) + 1 by omega, List.take_succ_cons]
          rw [e2] at h1
          exact h1
        exact ⟨r', rfl, (s4.trans s5).trans (same_new hr' _), fin _ e1⟩
    have hlen : (builtM x0 xs).1.length ≤ 390 := by
      have h : ¬ ((390 : Int) < ((S (builtM x0 xs).1).length : Int)) := fun z => c (decide_eq_true z)
      rw [S_len] at h
      omega
    clear c hg hT
    have s5' := s4.trans s5
    have hr5 := s5 _ _ hr
    have hI5 := hI.keep (.of s5)
    clear hr hI s4 s5
    refine ⟨_, rfl, r, ys, x0, xs, rfl, hr5, hI5, by omega, fun H6 g v s6 hg hT => ?_⟩
    refine ⟨g, _, rfl, SqT.of hg, rfl, _, _, rfl, _, _, rfl, rfl, ?_⟩
    have hsz := built_size x0 xs xs.length (Nat.le_refl _)
    rw [List.take_length] at hsz
    obtain ⟨hgood, t1, te, ts, hno, hw1, hlx, hany, hend⟩ := told1 hks x0 xs hin hlen
    obtain ⟨hgood2, hmany, u1, u2, u3, u4, u5, u6, ue, us, gw1, glx, gx, g2, g3, g3w, g4, g4', g5, gany, gend⟩ := told2 hks x0 xs hin hlen
    -- told_as(text) != ("shows", tree)
    refine ⟨_, rfl, _, rfl, hgood, .inl ⟨t1, te, ts, _, hno, hw1, hlx, hany, hend, fun H7 v7 s7 D7 => ?_⟩⟩
    refine ⟨_, rfl, (by show 2 ≤ sizeLine; decide), fun g8 n8 => ?_⟩
    have s8 : Same H7 (upd H7 g8 (.tup [V.str "shows", v])) := same_new n8 _
    have lay1 : PyData.canLay0 (.tuple [.str "shows", (builtM x0 xs).2.toPy]) = true := by
      show (PyData.strOk "shows" && ((builtM x0 xs).2.toPy.canLay0 && true)) = true
      rw [canlay_tr, show PyData.strOk "shows" = true by decide +kernel]
      rfl
    have dep1 : PyData.depth (.tuple [.str "shows", (builtM x0 xs).2.toPy]) ≤ 190 := by
      have := depth_tree (builtM x0 xs).2
      show max 0 (max (builtM x0 xs).2.toPy.depth 0) + 1 ≤ 190
      omega
    have T8 := (hT.keep (.of s7)).keep (.of s8)
    refine ⟨_, _, dp_mono (.of s8) _ _ D7, .tup (SqT.of upd_same) (.cons (.str _) (.cons (dp_tree T8) .nil)), lay1, lay1, dep1, _, rfl, ?_⟩
    rw [dp_same lay1]
    refine iteF ?_
    -- told_as("g(b) = " + text)
    have l9 : ("g(b) = " : Str).length + (S (builtM x0 xs).1).length ≤ sizeLine := by
      rw [show ("g(b) = " : Str) = S pre by decide +kernel, S_len, S_len]
      exact sl (by show 7 + _ ≤ 100000; omega)
    refine ⟨_, rfl, _, _, rfl, rfl, l9, pre ++ (builtM x0 xs).1, by rw [pre_text], hgood2, .inr ⟨u1, u2, u3, u4, u5, u6, ue, us, "g", "b", _, hmany, gw1, glx, gx, g2, g3, g3w, g4, g4', g5, gany, gend, fun H9 v9 s9 D9 => ?_⟩⟩
    refine ⟨(by show 1 ≤ sizeLine; decide), fun gb nb => ?_⟩
    have s10 : Same H9 (upd H9 gb (.tup [V.str "b"])) := same_new nb _
    have T10 := (T8.keep (.of s9)).keep (.of s10)
    refine ⟨_, rfl, v, _, 7, rfl, T10, by omega, fun H11 v11 s11 T11 => ?_⟩
    refine ⟨(by show 4 ≤ sizeLine; decide), fun g12 n12 => ?_⟩
    have s12 : Same H11 (upd H11 g12 (.tup [V.str "gives", V.str "g", .ref gb, v11])) := same_new n12 _
    have lay2 : PyData.canLay0 (.tuple [.str "gives", .str "g", .tuple [.str "b"], ((builtM x0 xs).2.shift 7).toPy]) = true := by
      show (PyData.strOk "gives" && (PyData.strOk "g" && ((PyData.strOk "b" && true) && (((builtM x0 xs).2.shift 7).toPy.canLay0 && true)))) = true
      rw [canlay_tr, show PyData.strOk "gives" = true by decide +kernel, show PyData.strOk "g" = true by decide +kernel, show PyData.strOk "b" = true by decide +kernel]
      rfl
    have hsz2 : ((builtM x0 xs).2.shift 7).size = (builtM x0 xs).2.size := shift_size 7 _
    have dep2 : PyData.depth (.tuple [.str "gives", .str "g", .tuple [.str "b"], ((builtM x0 xs).2.shift 7).toPy]) ≤ 190 := by
      have := depth_tree ((builtM x0 xs).2.shift 7)
      show max 0 (max 0 (max (max 0 0 + 1) (max ((builtM x0 xs).2.shift 7).toPy.depth 0))) + 1 ≤ 190
      omega
    refine ⟨_, _, dp_mono (.of (s10.trans (s11.trans s12))) _ _ D9, .tup (SqT.of upd_same) (.cons (.str _) (.cons (.str _) (.cons (.tup (SqT.of (s12 _ _ (s11 _ _ upd_same))) (.cons (.str _) .nil)) (.cons (dp_tree (T11.keep (.of s12))) .nil)))), lay2, lay2, dep2, _, rfl, ?_⟩
    rw [dp_same lay2]
    refine iteF ?_
    have sA' : Same H (upd H11 g12 (.tup [V.str "gives", V.str "g", .ref gb, v11])) := s5'.trans (s6.trans (s7.trans (s8.trans (s9.trans (s10.trans (s11.trans s12))))))
    have tA' := T11
    have hrA' := s12 _ _ (s11 _ _ (s10 _ _ (s9 _ _ (s8 _ _ (s7 _ _ (s6 _ _ hr5))))))
    have hIA' := hI5.keep (.of (s6.trans (s7.trans (s8.trans (s9.trans (s10.trans (s11.trans s12)))))))
    have TA' := T10.keep (.of (s11.trans s12))
    clear tA' D7 D9 T11 T10 T8 lay1 lay2 dep1 dep2 hgood hno hw1 hlx hany hend hgood2 hmany gw1 glx gx g2 g3 g3w g4 g4' g5 gany gend hsz2 l9 hg hT
    revert sA' hrA' hIA' TA'
    generalize (upd H11 g12 (.tup [V.str "gives", V.str "g", .ref gb, v11])) = HA
    intro sA hrA hIA TA
    clear s12 n12 s11 s10 nb s9 s8 n8 s7 s6 s5'
    -- names
    refine ⟨_, rfl, r, rfl, ⟨_, SqL.of hrA⟩, fun D hD => ?_⟩
    have hnm := names_len (x0 :: xs)
    have hnm' : (namesM (x0 :: xs)).length ≤ 95 := Nat.le_trans hnm (Nat.succ_le_succ hxs)
    refine lc_list (K := K) (a := r) (xs := ys) (fun j H' => Same HA H' ∧ H' D = some (.lst ((namesM ((x0 :: xs).take j)).map V.str))) ⟨same_new hD _, upd_same⟩ ?_ ?_ ?_
    · rintro j H' _ ⟨sB, _⟩
      exact SqL.of (sB _ _ hrA)
    · rintro j y H' hj ⟨sB, hDB⟩
      obtain ⟨x, qx, hx, rfl, hqx⟩ := hIA.get hj
      have hl0 : (namesM ((x0 :: xs).take j)).length ≤ 1000 := by
        have h1 := names_len ((x0 :: xs).take j)
        rw [List.length_take] at h1
        have h2 : (x0 :: xs).length ≤ 95 := Nat.succ_le_succ hxs
        omega
      refine ⟨qx, _, rfl, SqT.of (sB _ _ hqx), rfl, _, _, rfl, _, _, rfl, rfl, rfl, ?_⟩
      refine ⟨_, rfl, (by show 2 ≤ sizeLine; decide), fun g hg => ⟨g, _, rfl, .inr (SqT.of upd_same), rfl, rfl, _, rfl, ?_⟩⟩
      have sC : Same H' (upd H' g (.tup [V.str "a", V.str "b"])) := same_new hg _
      have hDC := sC _ _ hDB
      have ein : inV (.str x.1.text) [V.str "a", V.str "b"] = isName x.1 := (in_strs x.1.text ["a", "b"]).trans (by cases x.1 <;> decide +kernel)
      show if inV (.str x.1.text) [V.str "a", V.str "b"] = true then _ else _
      rw [ein, names_take hx]
      by_cases hnx : isName x.1 = true
      · rw [if_pos hnx, if_pos hnx]
        refine ⟨_, rfl, _, hDC, ?_, fun b u e => ?_, ?_⟩
        · rw [List.length_map]
          exact slt (by omega)
        · rw [upd_ne (ne_of_none e hD)]
          exact sC _ _ (sB _ _ e)
        · rw [upd_same, List.map_append]
          rfl
      · rw [if_neg hnx, if_neg hnx]
        exact ⟨sB.trans sC, hDC⟩
    rintro HB ⟨sB, hDB⟩
    rw [hIA.len, List.take_length] at hDB
    -- due
    refine ⟨_, rfl, D, _, rfl, SqL.of hDB, fun L hL => ?_⟩
    refine lc_it (walk_enum (K := K) (a := D) (xs := (namesM (x0 :: xs)).map V.str)) (fun j H' => Same HB H' ∧ H' L = some (.lst ((dueI (namesM (x0 :: xs)) j).map V.str))) ⟨same_new hL _, upd_same⟩ ?_ ?_ ?_
    · rintro j H' _ ⟨sC, _⟩
      exact SqL.of (sC _ _ hDB)
    · rintro j y H' H'' hj ⟨sC, hLC⟩ ⟨t, yx, yy, rfl, ht, rfl, ex, ey⟩
      cases ex
      rw [List.length_map] at hj
      have hg : (namesM (x0 :: xs))[j]? = some (namesM (x0 :: xs))[j] := List.getElem?_eq_getElem hj
      have ey : ((namesM (x0 :: xs)).map V.str)[j]? = some yy := ey
      rw [List.getElem?_map, hg] at ey
      cases ey
      have sD : Same H' (upd H' t (.tup [V.int (j : Nat), V.str (namesM (x0 :: xs))[j]])) := same_new ht _
      have hDD := sD _ _ (sC _ _ hDB)
      refine ⟨t, _, rfl, SqT.of upd_same, rfl, _, _, rfl, _, _, rfl, rfl, rfl, ?_⟩
      refine ⟨_, rfl, _, rfl, _, rfl, _, rfl, D, _, rfl, SqL.of hDD, fun z hz => ?_⟩
      have ecut : cutV ((namesM (x0 :: xs)).map V.str) none (some (j : Int)) = ((namesM (x0 :: xs)).take j).map V.str := by rw [cut_take, List.map_take]
      rw [ecut]
      have sE := sD.trans (same_new hz (.lst (((namesM (x0 :: xs)).take j).map V.str)))
      have hLE := sE _ _ hLC
      refine ⟨z, _, rfl, .inl (SqL.of upd_same), rfl, flat_strs _, _, rfl, ?_⟩
      have ein : inV (.str (namesM (x0 :: xs))[j]) (((namesM (x0 :: xs)).take j).map V.str) = decide ((namesM (x0 :: xs))[j] ∈ (namesM (x0 :: xs)).take j) := in_strs _ _
      have edue : dueI (namesM (x0 :: xs)) (j + 1) = if (namesM (x0 :: xs))[j] ∈ (namesM (x0 :: xs)).take j then dueI (namesM (x0 :: xs)) j else dueI (namesM (x0 :: xs)) j ++ [(namesM (x0 :: xs))[j]] := by
        show (match (namesM (x0 :: xs))[j]? with
          | some x => if x ∈ (namesM (x0 :: xs)).take j then dueI (namesM (x0 :: xs)) j else dueI (namesM (x0 :: xs)) j ++ [x]
          | none => dueI (namesM (x0 :: xs)) j) = _
        rw [hg]
      show if (!inV (.str (namesM (x0 :: xs))[j]) (((namesM (x0 :: xs)).take j).map V.str)) = true then _ else _
      rw [ein, edue]
      by_cases hm : (namesM (x0 :: xs))[j] ∈ (namesM (x0 :: xs)).take j
      · rw [if_pos hm, decide_eq_true hm]
        exact iteF ⟨sC.trans sE, hLE⟩
      · rw [if_neg hm, decide_eq_false hm]
        refine iteT ⟨_, rfl, _, hLE, ?_, fun b u e => ?_, ?_⟩
        · rw [List.length_map]
          have := due_len (namesM (x0 :: xs)) j
          exact slt (by omega)
        · rw [upd_ne (ne_of_none e hL)]
          exact sE _ _ (sC _ _ e)
        · rw [upd_same, List.map_append]
          rfl
    rintro HC ⟨sC, hLC⟩
    rw [List.length_map] at hLC
    have hLC : HC L = some (.lst ((dueM (namesM (x0 :: xs))).map V.str)) := hLC
    have dlay := canlay_strs _ (due_ab (x0 :: xs))
    have ddep := depth_strs (dueM (namesM (x0 :: xs)))
    have TC := (TA.keep (.of sB)).keep (.of sC)
    have hfr := fun ps => free_row ps x0 xs xs.length (Nat.le_refl _)
    rw [List.take_length] at hfr
    -- free(tree, ()) != due
    refine ⟨_, rfl, (by show 0 ≤ sizeLine; decide), fun g0 n0 => ?_⟩
    have s0 : Same HC (upd HC g0 (.tup [])) := same_new n0 _
    refine ⟨v, g0, _, [], rfl, TC.keep (.of s0), SqT.of upd_same, by omega, by omega, fun HD b sD hb => ?_⟩
    have e0 : freeM [] (builtM x0 xs).2 = dueM (namesM (x0 :: xs)) := by
      rw [hfr []]
      refine List.filter_eq_self.mpr fun w _ => ?_
      simp
    rw [e0] at hb
    have hLD := sD _ _ (s0 _ _ hLC)
    refine ⟨_, rfl, .list ((dueM (namesM (x0 :: xs))).map .str), _, .lst (SqL.of hb) (dpa_strs _), .lst (SqL.of hLD) (dpa_strs _), dlay, dlay, by omega, _, rfl, ?_⟩
    rw [dp_same dlay]
    refine iteF ?_
    -- free(tree, ("a",)) != [.. != "a"]
    refine ⟨_, rfl, (by show 1 ≤ sizeLine; decide), fun g1 n1 => ?_⟩
    have s1' : Same HD (upd HD g1 (.tup [V.str "a"])) := same_new n1 _
    refine ⟨v, g1, _, ["a"], rfl, ((TC.keep (.of s0)).keep (.of sD)).keep (.of s1'), SqT.of upd_same, by omega, by omega, fun HE b2 sE hb2 => ?_⟩
    have hLE := sE _ _ (s1' _ _ hLD)
    refine ⟨_, rfl, L, rfl, ⟨_, SqL.of hLE⟩, fun M hM => ?_⟩
    refine lc_list (K := K) (a := L) (xs := (dueM (namesM (x0 :: xs))).map V.str) (fun j H' => Same HE H' ∧ H' M = some (.lst ((((dueM (namesM (x0 :: xs))).take j).filter (fun w => decide (w ∉ (["a"] : List Str)))).map V.str))) ⟨same_new hM _, upd_same⟩ ?_ ?_ ?_
    · rintro j H' _ ⟨sF, _⟩
      exact SqL.of (sF _ _ hLE)
    · rintro j y H' hj ⟨sF, hMF⟩
      obtain ⟨wd, hw, rfl⟩ : ∃ wd, (dueM (namesM (x0 :: xs)))[j]? = some wd ∧ y = .str wd := by
        rw [List.getElem?_map] at hj
        cases e : (dueM (namesM (x0 :: xs)))[j]? with
        | none =>
          rw [e] at hj
          cases hj
        | some wd =>
          rw [e] at hj
          exact ⟨wd, rfl, (Option.some.inj hj).symm⟩
      have htake : (dueM (namesM (x0 :: xs))).take (j + 1) = (dueM (namesM (x0 :: xs))).take j ++ [wd] := by
        obtain ⟨hj', e⟩ := List.getElem?_eq_some_iff.mp hw
        rw [← e, List.take_append_getElem]
      rw [htake, List.filter_append, List.map_append]
      refine ⟨rfl, _, rfl, rfl, _, rfl, ?_⟩
      by_cases hm : wd = "a"
      · rw [eqS hm]
        refine iteF ⟨sF, ?_⟩
        have e0 : [wd].filter (fun w => decide (w ∉ (["a"] : List Str))) = [] := by
          rw [List.filter_cons, if_neg (by simpa using hm)]
          rfl
        rw [e0, List.map_nil, List.append_nil]
        exact hMF
      · rw [neS hm]
        refine iteT ⟨_, rfl, _, hMF, ?_, fun b u e => ?_, ?_⟩
        · rw [List.length_map]
          have h1 := List.length_filter_le (fun w => decide (w ∉ (["a"] : List Str))) ((dueM (namesM (x0 :: xs))).take j)
          have h2 := due_len (namesM (x0 :: xs)) (namesM (x0 :: xs)).length
          have h3 : (dueM (namesM (x0 :: xs))).length ≤ 95 := Nat.le_trans h2 hnm'
          rw [List.length_take] at h1
          exact slt (by omega)
        · rw [upd_ne (ne_of_none e hM)]
          exact sF _ _ e
        · rw [upd_same]
          have e0 : [wd].filter (fun w => decide (w ∉ (["a"] : List Str))) = [wd] := by
            rw [List.filter_cons, if_pos (by simpa using hm)]
            rfl
          rw [e0]
          rfl
    rintro HF ⟨sF, hMF⟩
    rw [List.length_map, List.take_length, ← hfr ["a"]] at hMF
    have dlay2 : PyData.canLay0 (.list ((freeM ["a"] (builtM x0 xs).2).map .str)) = true := by
      rw [hfr ["a"]]
      exact canlay_strs _ fun w hw => due_ab (x0 :: xs) w (List.mem_filter.mp hw).1
    have ddep2 := depth_strs (freeM ["a"] (builtM x0 xs).2)
    refine ⟨.list ((freeM ["a"] (builtM x0 xs).2).map .str), _, .lst (SqL.of (sF _ _ hb2)) (dpa_strs _), .lst (SqL.of hMF) (dpa_strs _), dlay2, dlay2, by omega, _, rfl, ?_⟩
    rw [dp_same dlay2]
    refine iteF ?_
    have sG : Same HA HF := sB.trans (sC.trans (s0.trans (sD.trans (s1'.trans (sE.trans sF)))))
    have TG := TA.keep (.of sG)
    have hrG := sG _ _ hrA
    have hIG := hIA.keep (.of sG)
    have sGH := sA.trans sG
    clear hMF dlay2 ddep2 hb2 hb dlay ddep sF sE s1' sD s0 hLE hLD TC hLC sC hDB sB hIA hrA TA sA sG n0 n1 hM hL hD
    -- again
    obtain ⟨y0, ys', rfl⟩ : ∃ y0 ys', ys = y0 :: ys' := by
      match ys, hIG with
      | y :: ys, _ => exact ⟨y, ys, rfl⟩
    obtain ⟨⟨q0, rfl, h0⟩, hIG'⟩ := hIG
    refine ⟨_, rfl, r, _, _, _, rfl, rfl, SqL.of hrG, at_nat (n := 0) rfl, q0, _, _, _, rfl, rfl, SqT.of h0, at_nat (n := 0) rfl, ?_⟩
    refine ⟨_, rfl, _, rfl, r, _, rfl, SqL.of hrG, fun x hx => ?_⟩
    rw [cut1]
    have sx : Same HF (upd HF x (.lst ys')) := same_new hx _
    refine ⟨x, rfl, ⟨_, SqL.of upd_same⟩, ?_⟩
    rw [opd_text]
    refine for_list (K := K) (a := x) (xs := ys') (fun j σ H' => ∃ p6 p7, σ = [some (.ref a), some (.int (0 + (i : Int))), some (.ref p), some (.ref r), some (.str (S (builtM x0 xs).1)), some v, p6, p7, some (.ref D), some (.ref L), some (.str (S (againM x0 (xs.take j)))), o11, o12] ∧ Same HF H' ∧ H' x = some (.lst ys'))
      ⟨o6, o7, rfl, sx, upd_same⟩ ?_ ?_ ?_
    · rintro j σ H' _ ⟨_, _, _, _, h⟩
      exact SqL.of h
    · rintro j y σ H' hj ⟨p6, p7, rfl, sy, hx7⟩
      obtain ⟨⟨od, sg⟩, qi, hxi, rfl, hqi⟩ := hIG'.get hj
      have hjl : j ≤ xs.length := by
        obtain ⟨hj', _⟩ := List.getElem?_eq_some_iff.mp hxi
        omega
      have hal := again_len x0 xs j hjl
      rw [again_take x0 xs hxi]
      revert hal
      generalize againM x0 (xs.take j) = ag
      intro hal
      have hal : ag.length ≤ 20000 := by omega
      have l1 : od.codes.length ≤ 2 := by cases od <;> decide
      have l2 : sg.codes.length ≤ 4 := by cases sg <;> decide
      refine ⟨qi, _, rfl, SqT.of (sy _ _ hqi), rfl, _, _, rfl, _, _, rfl, rfl, ?_⟩
      have z1 : (" " : Str).length + sg.text.length ≤ sizeLine := by
        rw [lit_b, sg_text, S_len, S_len]
        exact sl (by show 1 + sg.codes.length ≤ 100000; omega)
      have z2 : (" " ++ sg.text : Str).length + (" " : Str).length ≤ sizeLine := by
        rw [lit_b, sg_text, S_cat, S_len, S_len, List.length_append]
        exact sl (by show 1 + sg.codes.length + 1 ≤ 100000; omega)
      have z3 : (" " ++ sg.text ++ " " : Str).length + od.text.length ≤ sizeLine := by
        rw [lit_b, sg_text, opd_text, S_cat, S_cat, S_len, S_len, List.length_append, List.length_append]
        exact sl (by show 1 + sg.codes.length + 1 + od.codes.length ≤ 100000; omega)
      have z4 : ("[" : Str).length + od.text.length ≤ sizeLine := by
        rw [lit_br, opd_text, S_len, S_len]
        exact sl (by show 1 + od.codes.length ≤ 100000; omega)
      have z5 : ("[" ++ od.text : Str).length + ("]" : Str).length ≤ sizeLine := by
        rw [lit_br, lit_bl, opd_text, S_cat, S_len, S_len, List.length_append]
        exact sl (by show 1 + od.codes.length + 1 ≤ 100000; omega)
      have eA : (" " ++ sg.text ++ " " ++ od.text : Str) = S ([32] ++ sg.codes ++ [32] ++ od.codes) := by
        rw [lit_b, sg_text, opd_text, S_cat, S_cat, S_cat]
      have eB : ("[" ++ od.text ++ "]" : Str) = S ([91] ++ od.codes ++ [93]) := by
        rw [lit_br, lit_bl, opd_text, S_cat, S_cat]
      refine ⟨_, rfl, _, rfl, _, _, rfl, rfl, z1, _, _, rfl, rfl, z2, _, rfl, _, _, rfl, rfl, z3, _, rfl, _, _, rfl, rfl, z4, _, _, rfl, rfl, z5, (by show 2 ≤ sizeLine; decide), fun M hM => ?_⟩
      have sM : Same H' (upd H' M (.lst [V.str (" " ++ sg.text ++ " " ++ od.text), V.str ("[" ++ od.text ++ "]")])) := same_new hM _
      have hpick : ∃ (b : Bool) (wd : List Nat), decide (V.str sg.text = V.str "[") = b ∧ atI [V.str (" " ++ sg.text ++ " " ++ od.text), V.str ("[" ++ od.text ++ "]")] (if b = true then 1 else 0) = some (.str (S wd)) ∧ ag ++ wd = showS sg ag od.codes ∧ wd.length ≤ 20 := by
        unfold showS
        by_cases hp : sg = .pick
        · subst hp
          rw [if_pos rfl]
          refine ⟨true, [91] ++ od.codes ++ [93], by decide +kernel, ?_, by rw [List.append_assoc, List.append_assoc, List.append_assoc], by simp only [List.length_append, List.length_cons, List.length_nil]; omega⟩
          rw [← eB]
          rfl
        · rw [if_neg hp]
          refine ⟨false, [32] ++ sg.codes ++ [32] ++ od.codes, ?_, ?_, by simp only [List.append_assoc], by simp only [List.length_append, List.length_cons, List.length_nil]; omega⟩
          · revert hp
            cases sg <;> decide +kernel
          · rw [← eA]
            rfl
      obtain ⟨b, wd, hb, hat, hsw, hwl⟩ := hpick
      refine ⟨_, rfl, rfl, .inr ⟨_, rfl, M, _, _, .str (S wd), rfl, rfl, SqL.of upd_same, ?_, _, _, rfl, rfl, ?_, ?_⟩⟩
      · show atI _ (if decide (V.str sg.text = V.str "[") = true then 1 else 0) = _
        rw [hb]
        exact hat
      · rw [S_len, S_len]
        exact sl (by omega)
      · refine ⟨some (.str od.text), some (.str sg.text), ?_, sy.trans sM, sM _ _ hx7⟩
        rw [← hsw, ← S_cat]
        rfl
    · rintro σ H' ⟨p6, p7, rfl, sy, hx7⟩
      rw [hIG'.len, List.take_length]
      have hev := even_row hks x0 xs hin xs.length (Nat.le_refl _)
      have hsh := shown_row x0 xs xs.length (Nat.le_refl _)
      rw [List.take_length] at hev hsh
      refine ⟨_, rfl, v, _, rfl, TG.keep (.of sy), hev.1, by omega, by omega, fun HZ sz => ?_⟩
      refine ⟨_, rfl, rfl, _, rfl, ?_⟩
      rw [hsh]
      refine iteNS rfl ?_
      exact ⟨_, _, _, _, _, _, _, _, _, _, _, _, rfl, sGH.trans (sy.trans sz)⟩
  · rintro σ H' ⟨o1, o2, o3, o4, o5, o6, o7, o8, o9, o10, o11, o12, rfl, s1⟩
    exact q _
end
end Lr

set_option maxRecDepth 100000
set_option maxHeartbeats 4200000
namespace Lr
open PySem PySem.Spec L2
theorem ok_law {P : Program} {w : World} {K : PySem.W.Frag} {mg : Str → Option Value} {C aKEPT aPAIRS aLOOSE aSIGNS : Addr} (T : Top w K mg C aKEPT aPAIRS aLOOSE aSIGNS) {fa : Addr} (hmg : mg "law" = some (.ref fa)) :
    ∃ fd : FuncData, (∀ (s : Shared) (u : Value), BindsTo s fd ⟨[u], []⟩ [("_law_script", u)]) ∧ ∀ base : Heap, FnOk P w K mg base CX0 106 fa fd ["_law_script"] (spLaw K) := by
  obtain ⟨f, fd, F, df, hf, kp⟩ := T.d_law.ex
  rw [hmg] at hf
  cases hf
  refine ⟨fd, fun s u => ?_, fun base => Fn.ok (j := 318) (f_law T F) (by decide)⟩
  obtain ⟨_, _, dV, _, _, _, _, _, _, _, rfl, _⟩ := F.ex
  have df : dV = .none := df
  subst df
  exact BindsTo.of_eq rfl
theorem walk {l : PySem.W.OpenLaw} {q : Program} {loose : List Str} {XP : (Str → Option Value) → Heap → Prop} {YP : World → Heap → Prop} {d : DefRec} {K : Params → PySem.W.Frag} (hn : l.most = some 63) (hdf : d.params.defaults = []) (hname : d.name = "law")
    (hY : ∀ (w : World) (h : Heap), YP w h → (K w.params).In h)
    (F : ∀ (w : World) (mg : Str → Option Value) (h : Heap), (K w.params).In h → h.Ns mainGlobals mg → ∃ C a b c e, Top w (K w.params) mg C a b c e) :
    PySem.W.WalkO q loose XP YP l.row.toRowW d [] (fun g us => PySem.call g us) := by
  refine L2.walk_of (n := 63) (k := 106) (x := "_law_script") (CX := fun _ => CX0) (sp := fun w => spLaw (K w.params)) hn (by decide) hdf ⟨rfl, by decide, by decide⟩ hY (fun w mg fa h KX G hmg => ?_) (fun _ _ a ns hl _ hS => ⟨a, ns, rfl, hS, hl, fun _ => rfl⟩) fun _ _ _ _ _ z => z
  obtain ⟨C, a, b, c, e, T⟩ := F w mg h KX G
  rw [hname] at hmg
  obtain ⟨fd, h1, h2⟩ := ok_law (P := l.prog) T hmg
  exact ⟨fd, h1, fun base _ _ => h2 base⟩
end Lr

set_option maxRecDepth 100000
open PySem PySem.W PyProof.Rows in
set_option maxRecDepth 100000 in
set_option maxHeartbeats 0 in
theorem PySem.Challenge.cw_leafround_k29_whole_long_rows_holds : PySem.Challenge.rw_leafround_k29_whole_long_rows.Holds := by
  w_on; o_law; k_head; (case hw => w_witness2)
  k_fill
  refine Lr.walk (l := PySem.Challenge.rw_leafround_k29_whole_long_rows) rfl rfl rfl (fun w h Y => PySem.W.kIn_of Y) ?F
  case F =>
    intro w mg h KX G
    refine' Lr.top_mk KX G ?aC ?pg ?hd ?po ?sa ?nAsource ?nAopened ?nAnext ?mkC ?kc ?z_len ?z_isinstance ?z_str ?z_all ?z_int ?z_abs ?z_min ?z_max ?z_range ?z_enumerate ?z_tuple ?v_MOST_SIGNS ?v_MOST_LETTERS ?v_MOST_FIGURES ?v_MOST_OPEN ?v_MOST_ARGS ?v_LETTERS ?v_FIGURES ?v_SINGLES ?v_KEPT ?l_KEPT ?v_PAIRS ?l_PAIRS ?v_LOOSE ?l_LOOSE ?k_LOOSE ?o_LOOSE ?i_LOOSE_or ?i_LOOSE_and ?i_LOOSE_pick ?i_LOOSE_number ?i_LOOSE_name ?i_LOOSE_words ?v_SIGNS ?l_SIGNS ?k_SIGNS ?o_SIGNS ?i_SIGNS_plus ?i_SIGNS_minus ?i_SIGNS_times ?i_SIGNS_floor ?i_SIGNS_rest ?a0 ?l0 ?c0 ?k0 ?a1 ?l1 ?c1 ?k1 ?a2 ?l2 ?c2 ?k2 ?a3 ?l3 ?c3 ?k3 ?a4 ?l4 ?c4 ?k4 ?a5 ?l5 ?c5 ?k5 ?a6 ?l6 ?c6 ?k6 ?a7 ?l7 ?c7 ?k7 ?a8 ?l8 ?c8 ?k8 ?a9 ?l9 ?c9 ?k9 ?a10 ?l10 ?c10 ?k10 ?a11 ?l11 ?c11 ?k11 ?a12 ?l12 ?c12 ?k12 ?a13 ?l13 ?c13 ?k13 ?a14 ?l14 ?c14 ?k14 ?a15 ?l15 ?c15 ?k15 ?a16 ?l16 ?c16 ?k16 ?a17 ?l17 ?c17 ?k17 ?a18 ?l18 ?c18 ?k18 ?a19 ?l19 ?c19 ?k19 ?a20 ?l20 ?c20 ?k20 ?a21 ?l21 ?c21 ?k21 ?a22 ?l22 ?c22 ?k22 ?a23 ?l23 ?c23 ?k23 ?a24 ?l24 ?c24 ?k24 ?a25 ?l25 ?c25 ?k25 ?a26 ?l26 ?c26 ?k26 ?am0 ?im0 ?lm0 ?cm0 ?km0 ?am1 ?im1 ?lm1 ?cm1 ?km1 ?am2 ?im2 ?lm2 ?cm2 ?km2 ?am3 ?im3 ?lm3 ?cm3 ?km3 ?am4 ?im4 ?lm4 ?cm4 ?km4 ?am5 ?im5 ?lm5 ?cm5 ?km5 ?am6 ?im6 ?lm6 ?cm6 ?km6 ?am7 ?im7 ?lm7 ?cm7 ?km7 ?am8 ?im8 ?lm8 ?cm8 ?km8 ?am9 ?im9 ?lm9 ?cm9 ?km9 ?am10 ?im10 ?lm10 ?cm10 ?km10 ?am11 ?im11 ?lm11 ?cm11 ?km11 ?am12 ?im12 ?lm12 ?cm12 ?km12 ?am13 ?im13 ?lm13 ?cm13 ?km13 ?am14 ?im14 ?lm14 ?cm14 ?km14 ?am15 ?im15 ?lm15 ?cm15 ?km15 ?am16 ?im16 ?lm16 ?cm16 ?km16
    (case aC => k_is)
    (case pg => k_is)
    (case hd => k_is)
    (case po => k_is)
    (case sa => k_is)
    (case nAsource => k_is)
    (case nAopened => k_is)
    (case nAnext => k_is)
    (case mkC => k_is)
    (case kc => k_is)
    (case z_len => k_is)
    (case z_isinstance => k_is)
    (case z_str => k_is)
    (case z_all => k_is)
    (case z_int => k_is)
    (case z_abs => k_is)
    (case z_min => k_is)
    (case z_max => k_is)
    (case z_range => k_is)
    (case z_enumerate => k_is)
    (case z_tuple => k_is)
    (case v_MOST_SIGNS => k_is)
    (case v_MOST_LETTERS => k_is)
    (case v_MOST_FIGURES => k_is)
    (case v_MOST_OPEN => k_is)
    (case v_MOST_ARGS => k_is)
    (case v_LETTERS => k_is)
    (case v_FIGURES => k_is)
    (case v_SINGLES => k_is)
    (case v_KEPT => k_is)
    (case l_KEPT => k_is)
    (case v_PAIRS => k_is)
    (case l_PAIRS => k_is)
    (case v_LOOSE => k_is)
    (case l_LOOSE => k_is)
    (case k_LOOSE => exact ⟨⟨_, _, rfl, rfl⟩, ⟨_, _, rfl, rfl⟩, ⟨_, _, rfl, rfl⟩, ⟨_, _, rfl, rfl⟩, ⟨_, _, rfl, rfl⟩, ⟨_, _, rfl, rfl⟩, trivial⟩)
    (case o_LOOSE => decide +kernel)
    (case i_LOOSE_or => k_is)
    (case i_LOOSE_and => k_is)
    (case i_LOOSE_pick => k_is)
    (case i_LOOSE_number => k_is)
    (case i_LOOSE_name => k_is)
    (case i_LOOSE_words => k_is)
    (case v_SIGNS => k_is)
    (case l_SIGNS => k_is)
    (case k_SIGNS => exact ⟨⟨_, _, rfl, rfl⟩, ⟨_, _, rfl, rfl⟩, ⟨_, _, rfl, rfl⟩, ⟨_, _, rfl, rfl⟩, ⟨_, _, rfl, rfl⟩, trivial⟩)
    (case o_SIGNS => decide +kernel)
    (case i_SIGNS_plus => k_is)
    (case i_SIGNS_minus => k_is)
    (case i_SIGNS_times => k_is)
    (case i_SIGNS_floor => k_is)
    (case i_SIGNS_rest => k_is)
    (case a0 => k_is)
    (case l0 => k_is)
    (case c0 => k_is)
    (case k0 => k_is)
    (case a1 => k_is)
    (case l1 => k_is)
    (case c1 => k_is)
    (case k1 => k_is)
    (case a2 => k_is)
    (case l2 => k_is)
    (case c2 => k_is)
    (case k2 => k_is)
    (case a3 => k_is)
    (case l3 => k_is)
    (case c3 => k_is)
    (case k3 => k_is)
    (case a4 => k_is)
    (case l4 => k_is)
    (case c4 => k_is)
    (case k4 => k_is)
    (case a5 => k_is)
    (case l5 => k_is)
    (case c5 => k_is)
    (case k5 => k_is)
    (case a6 => k_is)
    (case l6 => k_is)
    (case c6 => k_is)
    (case k6 => k_is)
    (case a7 => k_is)
    (case l7 => k_is)
    (case c7 => k_is)
    (case k7 => k_is)
    (case a8 => k_is)
    (case l8 => k_is)
    (case c8 => k_is)
    (case k8 => k_is)
    (case a9 => k_is)
    (case l9 => k_is)
    (case c9 => k_is)
    (case k9 => k_is)
    (case a10 => k_is)
    (case l10 => k_is)
    (case c10 => k_is)
    (case k10 => k_is)
    (case a11 => k_is)
    (case l11 => k_is)
    (case c11 => k_is)
    (case k11 => k_is)
    (case a12 => k_is)
    (case l12 => k_is)
    (case c12 => k_is)
    (case k12 => k_is)
    (case a13 => k_is)
    (case l13 => k_is)
    (case c13 => k_is)
    (case k13 => k_is)
    (case a14 => k_is)
    (case l14 => k_is)
    (case c14 => k_is)
    (case k14 => k_is)
    (case a15 => k_is)
    (case l15 => k_is)
    (case c15 => k_is)
    (case k15 => k_is)
    (case a16 => k_is)
    (case l16 => k_is)
    (case c16 => k_is)
    (case k16 => k_is)
    (case a17 => k_is)
    (case l17 => k_is)
    (case c17 => k_is)
    (case k17 => k_is)
    (case a18 => k_is)
    (case l18 => k_is)
    (case c18 => k_is)
    (case k18 => k_is)
    (case a19 => k_is)
    (case l19 => k_is)
    (case c19 => k_is)
    (case k19 => k_is)
    (case a20 => k_is)
    (case l20 => k_is)
    (case c20 => k_is)
    (case k20 => k_is)
    (case a21 => k_is)
    (case l21 => k_is)
    (case c21 => k_is)
    (case k21 => k_is)
    (case a22 => k_is)
    (case l22 => k_is)
    (case c22 => k_is)
    (case k22 => k_is)
    (case a23 => k_is)
    (case l23 => k_is)
    (case c23 => k_is)
    (case k23 => k_is)
    (case a24 => k_is)
    (case l24 => k_is)
    (case c24 => k_is)
    (case k24 => k_is)
    (case a25 => k_is)
    (case l25 => k_is)
    (case c25 => k_is)
    (case k25 => k_is)
    (case a26 => k_is)
    (case l26 => k_is)
    (case c26 => k_is)
    (case k26 => k_is)
    (case am0 => k_is)
    (case im0 => k_is)
    (case lm0 => k_is)
    (case cm0 => k_is)
    (case km0 => k_is)
    (case am1 => k_is)
    (case im1 => k_is)
    (case lm1 => k_is)
    (case cm1 => k_is)
    (case km1 => k_is)
    (case am2 => k_is)
    (case im2 => k_is)
    (case lm2 => k_is)
    (case cm2 => k_is)
    (case km2 => k_is)
    (case am3 => k_is)
    (case im3 => k_is)
    (case lm3 => k_is)
    (case cm3 => k_is)
    (case km3 => k_is)
    (case am4 => k_is)
    (case im4 => k_is)
    (case lm4 => k_is)
    (case cm4 => k_is)
    (case km4 => k_is)
    (case am5 => k_is)
    (case im5 => k_is)
    (case lm5 => k_is)
    (case cm5 => k_is)
    (case km5 => k_is)
    (case am6 => k_is)
    (case im6 => k_is)
    (case lm6 => k_is)
    (case cm6 => k_is)
    (case km6 => k_is)
    (case am7 => k_is)
    (case im7 => k_is)
    (case lm7 => k_is)
    (case cm7 => k_is)
    (case km7 => k_is)
    (case am8 => k_is)
    (case im8 => k_is)
    (case lm8 => k_is)
    (case cm8 => k_is)
    (case km8 => k_is)
    (case am9 => k_is)
    (case im9 => k_is)
    (case lm9 => k_is)
    (case cm9 => k_is)
    (case km9 => k_is)
    (case am10 => k_is)
    (case im10 => k_is)
    (case lm10 => k_is)
    (case cm10 => k_is)
    (case km10 => k_is)
    (case am11 => k_is)
    (case im11 => k_is)
    (case lm11 => k_is)
    (case cm11 => k_is)
    (case km11 => k_is)
    (case am12 => k_is)
    (case im12 => k_is)
    (case lm12 => k_is)
    (case cm12 => k_is)
    (case km12 => k_is)
    (case am13 => k_is)
    (case im13 => k_is)
    (case lm13 => k_is)
    (case cm13 => k_is)
    (case km13 => k_is)
    (case am14 => k_is)
    (case im14 => k_is)
    (case lm14 => k_is)
    (case cm14 => k_is)
    (case km14 => k_is)
    (case am15 => k_is)
    (case im15 => k_is)
    (case lm15 => k_is)
    (case cm15 => k_is)
    (case km15 => k_is)
    (case am16 => k_is)
    (case im16 => k_is)
    (case lm16 => k_is)
    (case cm16 => k_is)
    (case km16 => k_is)
#print axioms PySem.Challenge.cw_leafround_k29_whole_long_rows_holds
