import PyProof.Rows.All
import Wide.All
import OpenK.AllK
import Wide.FinOn
import HandS.ForMost
import HandS.ForExc
import HandS.ExcInit
import HandS.ExcField
import HandS.IsInst
import HandS.Strs
import HandS.CallLocal
import HandS.Walk
import HandS.Codes
import PySem.Challenge.RW_knewby_k75_whole_bounds
set_option Elab.async false
set_option linter.all false
set_option maxRecDepth 100000
set_option maxHeartbeats 8000000
/-! Kn0: the text by places, the scopes, rows and hours. -/
namespace Kn
open PySem L2
/-! ### the text -/
def top (i : Nat) : Stmt := PySem.Challenge.pw_knewby_k75_whole_bounds.main.body.getD i (.Pass ⟨0, 0, 0, 0⟩)
abbrev sRowInit : Stmt := inClass (top 4) 0
abbrev sWhole : Stmt := top 10
abbrev sHour : Stmt := top 11
abbrev sName : Stmt := top 12
abbrev sTupOf : Stmt := top 19
abbrev sArePersons : Stmt := top 20
abbrev sTale : Stmt := top 21
abbrev sSight : Stmt := top 22
abbrev sTwo : Stmt := top 23
abbrev sTalk : Stmt := top 24
abbrev sSaying : Stmt := top 25
abbrev sAll : Stmt := top 26
abbrev sBook (j : Nat) : Stmt := inClass (top 27) j
abbrev sHourIn : Stmt := top 33
abbrev sSayingIn : Stmt := top 34
abbrev sTalkIn : Stmt := top 35
abbrev sTold : Stmt := top 36
abbrev sRead : Stmt := top 37
abbrev sNames : Stmt := top 39
abbrev sMany : Stmt := top 40
abbrev sKind : Stmt := top 41
abbrev sLaw : Stmt := top 42
theorem sc_rowinit : FnScope ["self", "row"] ["self", "row"] (defScope sRowInit) := ⟨rfl, rfl, rfl, by decide +kernel, rfl, by decide +kernel, by decide +kernel⟩
theorem sc_whole : FnScope ["thing"] ["thing"] (defScope sWhole) := ⟨rfl, rfl, rfl, by decide +kernel, rfl, by decide +kernel, by decide +kernel⟩
theorem sc_hour : FnScope ["thing"] ["thing"] (defScope sHour) := ⟨rfl, rfl, rfl, by decide +kernel, rfl, by decide +kernel, by decide +kernel⟩
theorem sc_name : FnScope ["thing", "sign"] ["thing"] (defScope sName) := ⟨rfl, rfl, rfl, by decide +kernel, rfl, by decide +kernel, by decide +kernel⟩
theorem sc_tupof : FnScope ["thing", "many"] ["thing", "many"] (defScope sTupOf) := ⟨rfl, rfl, rfl, by decide +kernel, rfl, by decide +kernel, by decide +kernel⟩
theorem sc_arepersons : FnScope ["thing", "name"] ["thing"] (defScope sArePersons) := ⟨rfl, rfl, rfl, by decide +kernel, rfl, by decide +kernel, by decide +kernel⟩
theorem sc_tale : FnScope ["thing", "word"] ["thing"] (defScope sTale) := ⟨rfl, rfl, rfl, by decide +kernel, rfl, by decide +kernel, by decide +kernel⟩
theorem sc_sight : FnScope ["thing", "persons"] ["thing", "persons"] (defScope sSight) := ⟨rfl, rfl, rfl, by decide +kernel, rfl, by decide +kernel, by decide +kernel⟩
theorem sc_two : FnScope ["one", "other", "persons"] ["one", "other", "persons"] (defScope sTwo) := ⟨rfl, rfl, rfl, by decide +kernel, rfl, by decide +kernel, by decide +kernel⟩
theorem sc_talk : FnScope ["thing", "persons"] ["thing", "persons"] (defScope sTalk) := ⟨rfl, rfl, rfl, by decide +kernel, rfl, by decide +kernel, by decide +kernel⟩
theorem sc_saying : FnScope ["thing", "persons"] ["thing", "persons"] (defScope sSaying) := ⟨rfl, rfl, rfl, by decide +kernel, rfl, by decide +kernel, by decide +kernel⟩
theorem sc_all : FnScope ["thing", "most", "persons", "fits", "one"] ["thing", "most", "persons", "fits"] (defScope sAll) := ⟨rfl, rfl, rfl, by decide +kernel, rfl, by decide +kernel, by decide +kernel⟩
theorem sc_binit : FnScope ["self", "persons", "sights", "talks", "sayings"] ["self", "persons", "sights", "talks", "sayings"] (defScope (sBook 0)) := ⟨rfl, rfl, rfl, by decide +kernel, rfl, by decide +kernel, by decide +kernel⟩
theorem sc_b1 : FnScope ["self"] ["self"] (defScope (sBook 1)) := ⟨rfl, rfl, rfl, by decide +kernel, rfl, by decide +kernel, by decide +kernel⟩
theorem sc_b2 : FnScope ["self"] ["self"] (defScope (sBook 2)) := ⟨rfl, rfl, rfl, by decide +kernel, rfl, by decide +kernel, by decide +kernel⟩
theorem sc_b3 : FnScope ["self"] ["self"] (defScope (sBook 3)) := ⟨rfl, rfl, rfl, by decide +kernel, rfl, by decide +kernel, by decide +kernel⟩
theorem sc_b4 : FnScope ["self"] ["self"] (defScope (sBook 4)) := ⟨rfl, rfl, rfl, by decide +kernel, rfl, by decide +kernel, by decide +kernel⟩
theorem sc_hourin : FnScope ["word", "sign"] ["word"] (defScope sHourIn) := ⟨rfl, rfl, rfl, by decide +kernel, rfl, by decide +kernel, by decide +kernel⟩
theorem sc_sayingin : FnScope ["words"] ["words"] (defScope sSayingIn) := ⟨rfl, rfl, rfl, by decide +kernel, rfl, by decide +kernel, by decide +kernel⟩
theorem sc_talkin : FnScope ["words"] ["words"] (defScope sTalkIn) := ⟨rfl, rfl, rfl, by decide +kernel, rfl, by decide +kernel, by decide +kernel⟩
theorem sc_told : FnScope ["words", "kind", "persons", "one"] ["words", "kind", "persons"] (defScope sTold) := ⟨rfl, rfl, rfl, by decide +kernel, rfl, by decide +kernel, by decide +kernel⟩
theorem sc_read : FnScope ["text", "found", "last", "row", "signs", "words", "kind", "one"] ["text"] (defScope sRead) := ⟨rfl, rfl, rfl, by decide +kernel, rfl, by decide +kernel, by decide +kernel⟩
theorem sc_names : FnScope ["_law_cell", "_law_letters", "_law_number", "_law_many_here", "_law_k", "_law_stem", "_law_at", "_law_more", "_law_names_here", "_law_name"] ["_law_cell"] (defScope sNames) := ⟨rfl, rfl, rfl, by decide +kernel, rfl, by decide +kernel, by decide +kernel⟩
theorem sc_many : FnScope ["_law_cells", "_law_many_here", "_law_at"] ["_law_cells"] (defScope sMany) := ⟨rfl, rfl, rfl, by decide +kernel, rfl, by decide +kernel, by decide +kernel⟩
theorem sc_kind : FnScope ["_law_names_here", "_law_kind", "_law_many_here", "_law_cell", "_law_rows", "_law_k", "_law_number", "_law_hour", "_law_one", "_law_two"] ["_law_names_here", "_law_kind", "_law_many_here", "_law_cell"] (defScope sKind) := ⟨rfl, rfl, rfl, by decide +kernel, rfl, by decide +kernel, by decide +kernel⟩
theorem sc_law : FnScope ["_law_script", "_law_cells", "_law_names_here", "_law_many_here", "_law_rows", "_law_due", "_law_kind", "_law_at", "_law_found", "e", "_law_told", "_law_name"] ["_law_script"] (defScope sLaw) := ⟨rfl, rfl, rfl, by decide +kernel, rfl, by decide +kernel, by decide +kernel⟩
end Kn

/-! KnS: len(set(ys)) of a list of unlike texts. -/
namespace KnS
open PySem PySem.Spec PyProof.Rows L2
theorem text_at : ∀ {us : List Value} {ys : List Str}, StrsAre us ys → ∀ (j : Nat) (u : Value), us[j]? = some u → ∃ t, u = .str (ys.getD j Str.empty) t
  | _, _, .nil, j, u, e => by simp at e
  | _, _, .cons y t r, 0, u, e => by
    simp at e
    exact ⟨t, by rw [← e]; rfl⟩
  | _, _, .cons y t r, j + 1, u, e => by
    obtain ⟨t', q⟩ := text_at r j u (by simpa using e)
    exact ⟨t', by rw [q]; rfl⟩
theorem take_more {ys : List Str} {i : Nat} (hi : i < ys.length) : ys.take (i + 1) = ys.take i ++ [ys.getD i Str.empty] := by
  rw [List.take_add_one, List.getElem?_eq_getElem hi, List.getD_eq_getElem?_getD, List.getElem?_eq_getElem hi]
  rfl
theorem not_taken {ys : List Str} (nd : ys.Nodup) {i : Nat} (hi : i < ys.length) : ys.getD i Str.empty ∉ ys.take i := by
  have h := nd.sublist (List.take_sublist (i + 1) ys)
  rw [take_more hi] at h
  have h2 := (List.nodup_append.mp h).2.2
  exact fun hm => h2 _ hm _ List.mem_cons_self rfl
section
variable {prog : Program} {w : World} {A : Around} {R : Result → Shared → Prop} {I : Addr} {fp wr : List Addr} {G : Array GenState → Array GenState → Prop} {n : Nat} {P : Nat → Value → Prop} {St : Nat → Shared → Prop}
/-- the rest of a walk over unlike texts goes into the set at D -/
theorem fill_walk (W : WalksS prog w A.in1 I fp wr G n P St) {D : Addr} (off : D ∉ fp) {ys : List Str} (hn : ys.length = n) (nd : ys.Nodup) (few : n + 1 < scanBound) (val : ∀ i v, P i v → ∃ t, v = .str (ys.getD i Str.empty) t) :
    ∀ (k i : Nat) (s : Shared), i + k = n → St i s → s.heap.SetOf (PySem.strKind prog w) D (fun z => decide (z ∈ ys.take i)) i →
      (∀ s', Moved (D :: wr) G s s' → s'.heap.SetOf (PySem.strKind prog w) D (fun z => decide (z ∈ ys)) n → R (.ok (.ret .none)) s') →
      codeAny (model prog w) A (.builtin "set.update.loop" ⟨[.ref D, .ref I], []⟩) R s := by
  have offw : D ∉ wr := fun z => off (W.sub _ z)
  have more : ∀ b ∈ wr, b ∈ D :: wr := fun b z => List.mem_cons_of_mem _ z
  have stays : ∀ {s s' : Shared} {S : Str → Bool} {m : Nat}, Moved wr G s s' → s.heap.SetOf (PySem.strKind prog w) D S m → s'.heap.SetOf (PySem.strKind prog w) D S m := fun {s s' S m} mv hS => by
    obtain ⟨o, es, ep, tb, ho, r⟩ := hS
    exact ⟨o, es, ep, tb, mv.heap D _ offw ho, r⟩
  intro k
  induction k with
  | zero =>
    intro i s hk st hS fin
    obtain rfl : i = n := hk
    refine codeAny_builtin PyProof.Rows.F.entry_set_update_loop ?_
    rw [Around.under_plainId PyProof.Rows.F.plain_set_update_loop _]
    show wpAny _ A.in1 (pyNext (.ref I) >>= _) _ _ s
    refine wpAny_bind (W.done s _ _ st fun s' mv => ?_)
    show wpAny _ A.in1 (ret Value.none) _ _ s'
    refine wpAny_pure (fin s' (mv.mono more) ?_)
    have hS' := stays mv hS
    rw [List.take_of_length_le (by omega)] at hS'
    exact hS'
  | succ k ih =>
    intro i s hk st hS fin
    have hi : i < ys.length := by omega
    refine codeAny_builtin PyProof.Rows.F.entry_set_update_loop ?_
    rw [Around.under_plainId PyProof.Rows.F.plain_set_update_loop _]
    show wpAny _ A.in1 (pyNext (.ref I) >>= _) _ _ s
    refine wpAny_bind (W.item i s _ _ (by omega) st fun v s1 pv st1 mv => ?_)
    obtain ⟨t, rfl⟩ := val i v pv
    have hS1 := stays mv hS
    show wpAny _ A.in1 (holding [Value.str (ys.getD i Str.empty) t] (setAdd D (.str (ys.getD i Str.empty) t)) >>= _) _ _ s1
    refine wpAny_bind (wpAny_holding ?_)
    unfold setAdd
    refine wpAny_holding (wpAny_bind ((PySem.strKind prog w).pyHash (k := ys.getD i Str.empty) (strKind_is _ _ _ _) ?_))
    refine wpAny_setAddHashed_of (knd := PySem.strKind prog w) (s := { s1 with toks := s1.toks + 1 }) (strKind_is _ _ _ _) rfl hS1 (by omega) fun h2 sb hS2 => ?_
    have no : ys.getD i Str.empty ∉ ys.take i := not_taken nd hi
    have hS3 : h2.SetOf (PySem.strKind prog w) D (fun z => decide (z ∈ ys.take (i + 1))) (i + 1) := by
      refine SetOf_congr hS2 (fun z => ?_) (by rw [decide_eq_false no]; rfl)
      rw [take_more hi, Bool.eq_iff_iff, Bool.or_eq_true, decide_eq_true_eq, decide_eq_true_eq, decide_eq_true_eq, List.mem_append, List.mem_singleton]
    have neD : ∀ b, b ∈ fp → b ≠ D := fun b hb z => off (z ▸ hb)
    refine wpAny_pure ⟨plainId_quiet PyProof.Rows.F.plain_set_update_loop _, ih (i + 1) _ (by omega) (W.frame _ s1 _ _ st1 (Nat.le_succ _) fun b hb o e => (sb.2 b (neD b hb)).trans e) hS3 fun s3 mv3 hS4 => ?_⟩
    refine fin s3 (Moved.trans W.gtrans ((mv.mono more).then_heap (Nat.le_succ _) fun b o hb e => ?_) mv3) hS4
    exact (sb.2 b fun z => hb (z ▸ List.mem_cons_self)).trans e
end
section
variable {prog : Program} {w : World} {A : Around} {E : Value → Shared → Prop} {s : Shared}
/-- set(ys): a new set of just these -/
theorem make_set {l : Addr} {items : Array Value} {ys : List Str} {Q : Value → Shared → Prop} (calm : A.handled = none) (hl : s.heap.IsList l items) (hi : StrsAre items.toList ys) (nd : ys.Nodup) (few : ys.length + 1 < scanBound)
    (h : ∀ (h' : Heap) (tk : Nat), h'.SetOf (PySem.strKind prog w) s.heap.objs.size (fun z => decide (z ∈ ys)) ys.length →
      (∀ b o, b < s.heap.objs.size → s.heap.get? b = some o → h'.get? b = some o) → Q (.ref s.heap.objs.size) { s with heap := h', toks := tk }) :
    wpAny (model prog w) A (call (.type "set") [.ref l]) Q E s := by
  obtain ⟨_, _, f1⟩ := PySem.F.called_set.mro
  have f2 := PySem.F.called_set.made
  have f3 := PySem.F.called_set.sub
  have f4 := PySem.F.called_set.notType
  have f5 := PySem.F.called_set.canCreate
  have f6 := PySem.F.typeCall_set_1 (.ref l)
  have sz : ys.length = items.size := by rw [← StrsAre.len_eq hi, Array.length_toList]
  refine wpAny_call (codeAny_of_tree ?_)
  show wpAny _ _ (callAny (.type "set") _) _ _ _
  refine wpAny_pure ⟨Code.quiet_builtin _ (by decide +kernel), codeAny_builtin PySem.F.entry_type_call ?_⟩
  rw [Around.under_plain (weight_type_call_type "set" [.ref l] []) rfl]
  repeat (any_goals (first | assumption | wp_step))
  refine codeAny_mono (code_set_new_1 (.ref l) (E := E) (Q₁ := fun ob s1 => ∃ b : Bool, ob = .ref s.heap.objs.size ∧ s1 = { s with heap := s.heap.push { cls := .type "set", dict := none, data := .set #[] 0 (.fresh 0 0 b) } }) fun b => ⟨b, rfl, rfl⟩) fun r s1 hr => ?_
  cases r with
  | error e => exact hr
  | ok fl =>
    cases fl with
    | next => exact hr.elim
    | brk => exact hr.elim
    | cont => exact hr.elim
    | ret ob =>
      obtain ⟨b, rfl, rfl⟩ := hr
      generalize hnew : ({ cls := .type "set", dict := none, data := .set #[] 0 (.fresh 0 0 b) } : Obj) = new
      have at1 : (s.heap.push new).get? s.heap.objs.size = some new := Heap.get?_push_size _ (by rw [← hnew]; rfl)
      have g1 : Shared.TypeIs { s with heap := s.heap.push new } (.ref s.heap.objs.size) "set" := ⟨_, at1, by rw [← hnew]⟩
      have g2 := PySem.F.called_set.init.lookup
      have g3 := PySem.F.called_set.init.bind (.ref s.heap.objs.size)
      repeat (any_goals (first | assumption | wp_step))
      refine codeAny_mono (codeAny_call_builtin (R := wants (fun r s2 => r = .none ∧ ∃ h' tk, s2 = { s with heap := h', toks := tk } ∧ h'.SetOf (PySem.strKind prog w) s.heap.objs.size (fun z => decide (z ∈ ys)) ys.length ∧
        ∀ b o, b < s.heap.objs.size → s.heap.get? b = some o → h'.get? b = some o) E) PySem.F.called_set.init.plain PySem.F.entry_set_init (check_set_init_1 g1 ?_)) fun r s2 hr => ?_
      · obtain ⟨⟨c0, d0, dt0, sl0⟩, hol, hcl, nl, hdl⟩ := hl
        simp only at hcl hdl
        subst hcl hdl
        have at2 : (s.heap.push new).get? l = some { cls := .type "list", dict := d0, data := .seq items nl, slots := sl0 } := Heap.get?_push_of_some _ hol
        have k1 := PySem.F.sub_list_set
        have k2 := PySem.F.sub_list_frozenset
        have k3 : (Value.type "list" == Value.type "dict") = false := by decide
        have il : (s.heap.push new).IsList l items := ⟨_, at2, rfl, nl, rfl⟩
        subst hnew
        unfold Builtin.«set.__init__» noKeywords Builtin.Frozenset.updateFrom
        generalize hPI : pyIter = PI
        wp_walk
        subst hPI
        refine wpAny_pyIter_list il ?_
        refine wpAny_bind (wpAny_runValue ?_)
        have lt : l < s.heap.objs.size := Heap.lt_size hol
        have ne1 : ∀ o : Obj, l ≠ (s.heap.push o).objs.size := fun o => by
          rw [Heap.size_push]
          exact Nat.ne_of_lt (Nat.lt_succ_of_lt lt)
        have off : ∀ o : Obj, s.heap.objs.size ∉ [(s.heap.push o).objs.size, l] := fun o => by
          rw [Heap.size_push]
          simp only [List.mem_cons, List.not_mem_nil, or_false, not_or]
          exact ⟨Nat.ne_of_lt (Nat.lt_succ_self _), Nat.ne_of_gt lt⟩
        have calm3 : A.in1.in1.in1.handled = none := by simp [calm]
        have val : ∀ (i : Nat) (v : Value), items[i]? = some v → ∃ t, v = .str (ys.getD i Str.empty) t := fun i v e => text_at hi i v (by rw [Array.getElem?_toList]; exact e)
        refine fill_walk ((Walks.list calm3 _ l (ne1 _) items).toS) (off _) sz nd (by rw [← sz]; exact few) val items.size 0 _ (Nat.zero_add _) ⟨⟨_, Heap.get?_push_size _ rfl, rfl, rfl⟩, il.push _⟩ ?start ?fin
        case start =>
          refine SetOf_congr ((setObjOf_fresh (knd := PySem.strKind prog w) b).setOf (Heap.get?_push_of_some _ at1) (by unfold scanBound; omega)) (fun _ => ?_) rfl
          rfl
        case fin =>
          intro s' mv hS
          obtain ⟨h', g', d', tk', os'⟩ := s'
          obtain ⟨mh, eg, ed, eo, _⟩ := mv
          simp only at eg ed eo
          subst eg ed eo
          refine wpAny_pure ?_
          show wpAny _ _ (ret Value.none) _ _ _
          refine wpAny_pure ⟨rfl, h', tk', rfl, by rw [sz]; exact hS, fun c o hc e => ?_⟩
          refine mh c o ?_ (Heap.get?_push_of_some _ (Heap.get?_push_of_some _ e))
          rw [Heap.size_push]
          simp only [List.mem_cons, List.not_mem_nil, or_false, not_or]
          exact ⟨Nat.ne_of_lt hc, Nat.ne_of_lt (Nat.lt_succ_of_lt hc)⟩
      · cases r with
        | error e => exact hr
        | ok fl =>
          cases fl with
          | next => exact hr.elim
          | brk => exact hr.elim
          | cont => exact hr.elim
          | ret v =>
            obtain ⟨rfl, h', tk, rfl, hS, keep⟩ := hr
            repeat (any_goals (first | assumption | wp_step))
            exact h _ _ hS keep
end
/-- len(set(ys)), ys a list of unlike texts -/
def tLenTexts (K : PySem.W.Frag) (ta : TE) : TE := fun σ H Q => ta σ H fun x H1 => ∃ (l : Addr) (ys : List Str), x = .ref l ∧ SqL K H1 l (ys.map V.str) ∧ ys.Nodup ∧ ys.length ≤ 4000 ∧ Q (.int (ys.length : Nat)) H1
theorem pe_lenTexts {X : Cx} {a : Expr} {ta : TE} {p p2 q pos : Pos} (g1 : Gl X "len") (m1 : X.mg "len" = none) (g2 : Gl X "set") (m2 : X.mg "set" = none) (ha : PE X a ta) (calm : X.calm = true := by rfl)
    (na : starEach [a] X.env = (false, eval a X.env) :: starEach [] X.env := by rfl) : PE X (.Call (.Name "len" p) [.Call (.Name "set" p2) [a] [] q] [] pos) (tLenTexts X.K ta) := by
  refine ⟨fun pins s σ H Q I h => Call_ (ld_blt I g1 m1 boot_len (PyProof.Rows.callWith_builtin1 (PyProof.Rows.args_cons (Call_ (ld_blt I g2 m2 boot_set ?_)) rfl) rfl rfl))⟩
  refine PyProof.Rows.callWith_type1 (PyProof.Rows.args_cons (thn (ha.run pins s σ H _ I h) fun v s1 ⟨x, H1, I1, r1, q1⟩ => PyProof.Rows.args_nil ?_) na) na rfl
  obtain ⟨l, ys, rfl, hq, nd, few, q1⟩ := q1
  cases r1
  obtain ⟨its, r, pl, _⟩ := I1.list hq
  refine make_set (I1.ok.hd calm) pl.isList (by simpa using strsAre_of r) nd (by unfold scanBound; omega) fun h' tk hS keep => PyProof.Rows.args_nil ?_
  obtain ⟨o, es, ep, t, ho, hex, hd, _, _, _, hf, hn⟩ := hS
  have I2 : Inv X pins σ H1 { s1 with heap := h', toks := tk } := I1.kept fun b o e => keep b o (Heap.lt_size e) e
  exact call_len_set ho hex hd hf (by omega) ⟨.int ys.length, H1, I2.tok _, ⟨_, by rw [hn]⟩, q1⟩
end KnS

/-! KnX: rules that the layer lacks: an own error's __init__ called by its class's name, a list that is read + a list, a text times an int. -/
namespace KnX
open PySem PySem.Spec PyProof.Rows L2
/-- what is wanted of the error class whose __init__ is called by its name -/
structure Base (K : PySem.W.Frag) (B : Addr) : Prop where
  rd : PySem.W.readsIn K B (.type "type") = true
  sp : PySem.W.specialIn K (.ref B) "__getattribute__" = some (some (.builtin "type.__getattribute__"))
  vl : PySem.W.findCls K (.ref B) (.type "type") "__init__" = some (.val (.builtin "ValueError.__init__"))
section
variable {X : Cx}
/-- KnewError.__init__(self, ..), KnewError an own class without an __init__ -/
theorem pe_base {B : Addr} {e : Expr} {es : List Expr} {ta : TA} {p1 p2 pos : Pos} {pl : Sem Bool} (hg : Gl X "KnewError") (hm : X.mg "KnewError" = some (.ref B)) (T : Base X.K B) (ha : PA X (e :: es) ta)
    (hc : eval (.Call (.Attribute (.Name "KnewError" p1) "__init__" p2) (e :: es) [] pos) X.env = (do
      let ov ← eval (.Name "KnewError" p1) X.env
      standAt p2.atName
      let (f, first) ← holding [ov] (getMethod ov "__init__" pl)
      callWith pos f first (backTo pos (starEach (e :: es) X.env)) (backToKw pos (keywordEach [] X.env))) := by rfl)
    (he : starEach (e :: es) X.env = (false, eval e X.env) :: starEach es X.env := by rfl) (hpl : (backTo pos (starEach es X.env)).any (·.1) = false := by rfl) :
    PE X (.Call (.Attribute (.Name "KnewError" p1) "__init__" p2) (e :: es) [] pos) (tVeI X.K ta) := by
  refine ⟨fun pins s σ H Q I h => PySem.W.methodCall_KW (ld_glob I hg hm ?_ (by decide)) hc⟩
  refine PySem.W.method_cls I.kIn T.sp (PySem.W.cls_value I.kIn T.rd T.vl (by decide +kernel) ?_)
  show wpAny _ _ (callWith pos (Value.builtin "ValueError.__init__") [] (backTo pos (starEach (e :: es) X.env)) []) _ _ _
  refine PyProof.Rows.callWith_method1 (thn (ha.run pos pins _ σ H _ (I.tok _) h) fun us s1 hh => ?_) he hpl
  obtain ⟨vs, H1, I1, r1, a, C, ws, rfl, few, O, at1, q⟩ := hh
  cases r1 with
  | cons r0 rs =>
    cases (show _ = Value.ref a from r0)
    refine oinit_ok O I1 at1 ?_ fun s' J => ⟨.non, H1, J, rfl, q⟩
    rw [← rs.length, sizeLine_eq]
    omega
/-- xs + ys, lists that are read -/
def rCatQ (K : PySem.W.Frag) : R2 := fun x y H Q => ∃ l b xs zs, x = .ref l ∧ y = .ref b ∧ SqL K H l xs ∧ SqL K H b zs ∧ xs.length + zs.length ≤ sizeLine ∧ ∀ p, H p = none → Q (.ref p) (upd H p (.lst (xs ++ zs)))
theorem op_catQ : OpR X (binaryOp .Add) (rCatQ X.K) := by
  intro pins s σ H x y v u Q I rx ry h
  obtain ⟨l, b, xs, zs, rfl, rfl, h1, h2, few, q⟩ := h
  cases rx
  cases ry
  obtain ⟨as, ra, ⟨⟨c1, d1, t1, sl1⟩, n1, e1, k1, _, t1'⟩, _⟩ := I.list h1
  obtain ⟨bs, rb, ⟨⟨c2, d2, t2, sl2⟩, n2, e2, k2, _, t2'⟩, _⟩ := I.list h2
  simp only at k1 t1' k2 t2'
  subst k1 t1' k2 t2'
  have lab : as.length + bs.length ≤ sizeLine := by
    rw [← ra.length, ← rb.length]
    exact few
  refine concat_meets ⟨_, e1, rfl⟩ ⟨_, e2, rfl⟩ noFill_list_add seq_list_add PySem.F.slot_list_add PySem.F.entry_list_add (PySem.F.args_list_add_2 _ _) (list_addW l b as.toArray bs.toArray n1 n2 d1 d2 sl1 sl2 (by simpa using lab)) ⟨e1, e2, ?_⟩
  rw [show as.toArray ++ bs.toArray = (as ++ bs).toArray by simp]
  exact ⟨.ref _, _, I.lnew (t' := s.toks) (ra.append rb) (by rw [List.length_append]; exact few), rfl, q _ I.fresh⟩
/-- a text times an int -/
def rReps : R2 := fun x y H Q => ∃ (z : Str) (n : Int), x = .str z ∧ y = .int n ∧ MulOk z n ∧ Q (.str (Txt.mul z n)) H
theorem op_reps : OpR X (binaryOp .Mult) rReps := by
  intro pins s σ H x y v u Q I rx ry h
  obtain ⟨z, n, rfl, rfl, ok, q⟩ := h
  obtain ⟨t, rfl⟩ := rx
  obtain ⟨t', rfl⟩ := ry
  exact SB.mul ok fun tk k => ⟨.str (Txt.mul z n), H, I.tok _, ⟨_, rfl⟩, q⟩
end
end KnX

/-! Kn1: what the module's names hold; the small defs that look at names, hours, tuples. -/
namespace Kn
open PySem PySem.Spec PyProof.Rows L2
/-! ### what the module's names hold -/
structure GV (mg : Str → Option Value) (x : Str) (v : V) : Prop where
  ex : ∃ u, mg x = some u ∧ RelV v u
theorem pe_gv {X : Cx} {x : Str} {v : V} {pos : Pos} (h : GV X.mg x v) (hg : Gl X x := by rfl) (hd : (x == ("__debug__" : Str)) = false := by decide) : PE X (.Name x pos) (tC v) := by
  obtain ⟨u, a, b⟩ := h.ex
  exact pe_glob hg a b hd
/-- a tuple of the module -/
def KTup (K : PySem.W.Frag) (a : Addr) (xs : List V) : Prop := ∃ (o : Obj) (its : Array Value) (n : Nat), K.lookup a = some o ∧ o.cls = .type "tuple" ∧ o.data = .seq its n ∧ its.size ≤ sizeLine ∧ Vals xs its.toList
theorem KTup.sq {K : PySem.W.Frag} {a : Addr} {xs : List V} (h : KTup K a xs) (H : Hp) : SqT K H a xs := .inr h
def lettersT : Str := "abcdefghijklmnopqrstuvwxyz"
def figuresT : Str := "0123456789"
def keptWords : List Str := ["person", "talk", "saw", "knew", "heard", "told", "not", "nobody", "never", "by", "from", "to"]
def kindWords : List Str := ["person", "saw", "talk"]
def lastHour : Int := 1000000000000000000
structure Glo (K : PySem.W.Frag) (mg : Str → Option Value) (aKept aKinds aMost : Addr) : Prop where
  len : mg "len" = none
  isi : mg "isinstance" = none
  tint : mg "int" = none
  tbool : mg "bool" = none
  tstr : mg "str" = none
  ttuple : mg "tuple" = none
  tlist : mg "list" = none
  tset : mg "set" = none
  enum : mg "enumerate" = none
  range : mg "range" = none
  letters : GV mg "LETTERS" (.str lettersT)
  longest : GV mg "LONGEST" (.int 12)
  lastH : GV mg "LAST_HOUR" (.int lastHour)
  mPersons : GV mg "MOST_PERSONS" (.int 24)
  mSights : GV mg "MOST_SIGHTS" (.int 24)
  mTalks : GV mg "MOST_TALKS" (.int 120)
  mSayings : GV mg "MOST_SAYINGS" (.int 60)
  mWords : GV mg "MOST_WORDS" (.int 6)
  figures : GV mg "FIGURES" (.str figuresT)
  mFigures : GV mg "MOST_FIGURES" (.int 19)
  kept : GV mg "KEPT_WORDS" (.ref aKept)
  keptT : KTup K aKept (keptWords.map V.str)
  kinds : GV mg "KINDS" (.ref aKinds)
  kindsT : KTup K aKinds (kindWords.map V.str)
  kindsD : ∃ o : Obj, K.lookup aKinds = some o ∧ o.cls = .type "tuple" ∧ o.dict = none
  most : GV mg "MOST" (.ref aMost)
  mostT : KTup K aMost [.int 24, .int 24, .int 120, .int 60]
theorem b_isi : bootBuiltins "isinstance" = some (.builtin "isinstance") := by decide +kernel
theorem b_int : bootBuiltins "int" = some (.type "int") := by decide +kernel
theorem b_bool : bootBuiltins "bool" = some (.type "bool") := by decide +kernel
theorem b_str : bootBuiltins "str" = some (.type "str") := by decide +kernel
theorem b_tuple : bootBuiltins "tuple" = some (.type "tuple") := by decide +kernel
theorem b_list : bootBuiltins "list" = some (.type "list") := by decide +kernel
/-! ### names -/
structure Good (z : Str) : Prop where
  l1 : 1 ≤ z.length
  l2 : z.length ≤ 12
  sg : ∀ c ∈ z.cps.toList, 97 ≤ c ∧ c ≤ 122
  nk : z ∉ keptWords
theorem letter_mem {c : Nat} (h : 97 ≤ c ∧ c ≤ 122) : c ∈ lettersT.cps.toList := by
  have e : lettersT.cps.toList = (List.range 26).map (97 + ·) := by decide +kernel
  rw [e]
  exact List.mem_map.mpr ⟨c - 97, List.mem_range.mpr (by omega), by omega⟩
theorem inV_strs (x : Str) : ∀ ys : List Str, inV (.str x) (ys.map V.str) = decide (x ∈ ys)
  | [] => rfl
  | y :: ys => by
    have ih := inV_strs x ys
    show (eqV (.str y) (.str x) || inV (.str x) (ys.map V.str)) = decide (x ∈ y :: ys)
    rw [ih]
    show ((y == x) || decide (x ∈ ys)) = decide (x ∈ y :: ys)
    rw [Bool.eq_iff_iff, Bool.or_eq_true, beq_iff_eq, decide_eq_true_eq, decide_eq_true_eq, List.mem_cons]
    exact ⟨fun h => h.elim (fun e => .inl e.symm) .inr, fun h => h.elim (fun e => .inl e.symm) .inr⟩
section
variable {P : Program} {w : World} {K : PySem.W.Frag} {mg : Str → Option Value} {base : Heap} {aKept aKinds aMost : Addr}
/-! ### is_whole, is_hour -/
def spWhole : Sp := fun vs H Q _ => ∃ i : Int, vs = [.int i] ∧ Q (.bl true) H
theorem ok_whole {f : Addr} {fd : FuncData} (F : Fun K "is_whole" "is_whole" sWhole f fd) (G : Glo K mg aKept aKinds aMost) : FnOk P w K mg base CX0 1 f fd ["thing"] spWhole := by
  refine F.ok sc_whole (fun vs H Q E h => ?_) (fun cdv A outer s H vs Q E hr h => ?_)
  · obtain ⟨i, rfl, _⟩ := h
    rfl
  · obtain ⟨i, rfl, q⟩ := h
    refine ⟨_, pss_one (ps_ret (pe_and (pe_callB call_isi rfl G.isi b_isi (pa_cons (pv 0) (pa_cons (pe_bltn (v := .ty "int") rfl G.tint b_int rfl) pa_nil)))
      (pe_one (pe_not (pe_callB call_isi rfl G.isi b_isi (pa_cons (pv 0) (pa_cons (pe_bltn (v := .ty "bool") rfl G.tbool b_bool rfl) pa_nil))))))), ?_⟩
    refine ⟨_, rfl, _, _, _, _, true, rfl, .ty _, .base (.int _), kit_ty (by decide +kernel), true, rfl, iteT ?_⟩
    exact ⟨_, rfl, _, _, _, _, false, rfl, .ty _, .base (.int _), kit_ty (by decide +kernel), false, rfl, q⟩
def spHour : Sp := fun vs H Q _ => ∃ i : Int, vs = [.int i] ∧ Q (.bl (decide (0 ≤ i ∧ i ≤ lastHour))) H
theorem ok_hour {f fW : Addr} {fd fdW : FuncData} (F : Fun K "is_hour" "is_hour" sHour f fd) (G : Glo K mg aKept aKinds aMost) (FW : Fun K "is_whole" "is_whole" sWhole fW fdW) (bW : Binds K fdW ["thing"] []) (gW : mg "is_whole" = some (.ref fW)) :
    FnOk P w K mg base CX0 2 f fd ["thing"] spHour := by
  have GW : FnOk P w K mg base CX0 1 fW fdW ["thing"] spWhole := ok_whole FW G
  refine F.ok sc_hour (fun vs H Q E h => ?_) (fun cdv A outer s H vs Q E hr h => ?_)
  · obtain ⟨i, rfl, _⟩ := h
    rfl
  · obtain ⟨i, rfl, q⟩ := h
    refine ⟨_, pss_one (ps_ret (pe_and (pe_call GW hr rfl gW FW.kp bW .nil pass0 (pa_cons (pv 0) pa_nil)) (pe_one (pe_chain op_le op_le pe_int (pv 0) (pe_gv G.lastH))))), ?_⟩
    refine ⟨_, rfl, i, rfl, true, rfl, iteT ?_⟩
    refine ⟨_, rfl, _, _, rfl, rfl, _, rfl, ite2 (fun h0 => ?_) (fun h0 => ?_)⟩
    · refine ⟨_, _, rfl, rfl, ?_⟩
      have h1 := of_decide_eq_true h0
      rw [show decide (0 ≤ i ∧ i ≤ lastHour) = decide (i ≤ lastHour) by rw [Bool.eq_iff_iff, decide_eq_true_eq, decide_eq_true_eq]; exact ⟨fun z => z.2, fun z => ⟨h1, z⟩⟩] at q
      exact q
    · have h1 : ¬ 0 ≤ i := fun z => h0 (decide_eq_true z)
      rw [decide_eq_false fun z => h1 z.1] at q
      exact q
/-! ### is_name -/
def spName : Sp := fun vs H Q _ => ∃ z : Str, vs = [.str z] ∧ Good z ∧ Q (.bl true) H
theorem ok_name {f : Addr} {fd : FuncData} (F : Fun K "is_name" "is_name" sName f fd) (G : Glo K mg aKept aKinds aMost) : FnOk P w K mg base CX0 1 f fd ["thing"] spName := by
  refine F.ok sc_name (fun vs H Q E h => ?_) (fun cdv A outer s H vs Q E hr h => ?_)
  · obtain ⟨z, rfl, _⟩ := h
    rfl
  · obtain ⟨z, rfl, g, q⟩ := h
    refine ⟨_, pss_cons (ps_if (PW.pt (pw_or (pt_not (pt_val (pe_callB call_isi rfl G.isi b_isi (pa_cons (pv 0) (pa_cons (pe_bltn (v := .ty "str") rfl G.tstr b_str rfl) pa_nil)))))
        (pw_or (pt_not (pt_chain op_le op_le pe_int (pe_callB call_len_str rfl G.len PySem.boot_len (pa_cons (pv 0) pa_nil)) (pe_gv G.longest)))
          (pw_or1 (pt_cmpR op_in_seq (pv 0) (pe_gv G.kept) rfl))))) (pss_one (ps_ret pe_bl)) pss_nil)
      (pss_cons (ps_for PassesOwn.never rfl (pi_str (pv 0)) (pg_name (i := 1) sc_name.nd rfl (.inl rfl))
        (pss_one (ps_if (pt_cmpR op_notIn_sign (pv 1) (pe_gv G.letters) rfl) (pss_one (ps_ret pe_bl)) pss_nil)))
      (pss_one (ps_ret pe_bl))), ?_⟩
    have l1 := g.l1
    have l2 := g.l2
    refine ⟨_, rfl, _, _, _, _, true, rfl, .ty _, .base (.str _), kit_ty (by decide +kernel), true, rfl, iteF ?_⟩
    refine ⟨_, rfl, _, rfl, by rw [sizeLine_eq]; omega, _, _, rfl, rfl, _, rfl, ?_⟩
    rw [if_pos (decide_eq_true (by omega))]
    refine ⟨_, _, rfl, rfl, _, rfl, ?_⟩
    rw [decide_eq_true (show ((z.length : Nat) : Int) ≤ 12 by omega)]
    refine iteF ⟨_, rfl, aKept, _, rfl, .inr (G.keptT.sq _), rfl, by decide, _, rfl, ?_⟩
    rw [if_neg (show ¬ false = true by decide), inV_strs, decide_eq_false g.nk]
    refine iteF ⟨_, rfl, z, rfl, for_it walk_str (fun i σ H' => H' = H ∧ ∃ y, σ = [some (.str z), y]) ⟨rfl, none, rfl⟩ (fun _ _ _ _ _ => trivial) ?_ ?_⟩
    · rintro i x σ H1 H2 hi ⟨rfl, y, rfl⟩ ⟨rfl, c, ec, rfl⟩
      have hc : c ∈ z.cps.toList := by
        rw [← Array.getElem?_toList] at ec
        exact List.mem_of_getElem? ec
      refine ⟨_, rfl, c, lettersT, rfl, rfl, _, rfl, ?_⟩
      rw [decide_eq_true (letter_mem (g.sg c hc))]
      exact iteF ⟨rfl, _, rfl⟩
    · rintro σ H' ⟨rfl, y, rfl⟩
      exact q
/-! ### is_tuple_of -/
def spTupOf : Sp := fun vs H Q _ => ∃ (a : Addr) (xs : List V) (n : Int), vs = [.ref a, .int n] ∧ H a = some (.tup xs) ∧ ((xs.length : Nat) : Int) = n ∧ Q (.bl true) H
theorem ok_tupof {f : Addr} {fd : FuncData} (F : Fun K "is_tuple_of" "is_tuple_of" sTupOf f fd) (G : Glo K mg aKept aKinds aMost) : FnOk P w K mg base CX0 1 f fd ["thing", "many"] spTupOf := by
  refine F.ok sc_tupof (fun vs H Q E h => ?_) (fun cdv A outer s H vs Q E hr h => ?_)
  · obtain ⟨a, xs, n, rfl, _⟩ := h
    rfl
  · obtain ⟨a, xs, n, rfl, ha, hn, q⟩ := h
    refine ⟨_, pss_one (ps_ret (pe_and (pe_callB call_isi rfl G.isi b_isi (pa_cons (pv 0) (pa_cons (pe_bltn (v := .ty "tuple") rfl G.ttuple b_tuple rfl) pa_nil)))
      (pe_one (pe_cmpR op_eq (pe_callB call_len_seq rfl G.len PySem.boot_len (pa_cons (pv 0) pa_nil)) (pv 1) (nomark _))))), ?_⟩
    refine ⟨_, rfl, _, _, _, _, true, rfl, .ty _, .base (.tup ha), kit_ty (by decide +kernel), true, rfl, iteT ?_⟩
    refine ⟨_, rfl, a, xs, rfl, .inr (SqT.of ha), _, rfl, rfl, ?_⟩
    rw [hn, decide_eq_true rfl]
    exact q
/-! ### is_tale -/
def taleV : List V := [.str "b"]
theorem good_b : Good "b" := ⟨by decide +kernel, by decide +kernel, by decide +kernel, by decide +kernel⟩
def spTale : Sp := fun vs H Q _ => ∃ a : Addr, vs = [.ref a] ∧ H a = some (.tup taleV) ∧ Q (.bl true) H
theorem ok_tale {f fN : Addr} {fd fdN : FuncData} (F : Fun K "is_tale" "is_tale" sTale f fd) (G : Glo K mg aKept aKinds aMost) (FN : Fun K "is_name" "is_name" sName fN fdN) (bN : Binds K fdN ["thing"] []) (gN : mg "is_name" = some (.ref fN)) :
    FnOk P w K mg base CX0 2 f fd ["thing"] spTale := by
  have GN : FnOk P w K mg base CX0 1 fN fdN ["thing"] spName := ok_name FN G
  refine F.ok sc_tale (fun vs H Q E h => ?_) (fun cdv A outer s H vs Q E hr h => ?_)
  · obtain ⟨a, rfl, _⟩ := h
    rfl
  · obtain ⟨a, rfl, ha, q⟩ := h
    refine ⟨_, pss_cons (ps_if (PW.pt (pw_or (pt_not (pt_val (pe_callB call_isi rfl G.isi b_isi (pa_cons (pv 0) (pa_cons (pe_bltn (v := .ty "tuple") rfl G.ttuple b_tuple rfl) pa_nil)))))
        (pw_or1 (pt_not (pt_chain op_le op_le pe_int (pe_callB call_len_seq rfl G.len PySem.boot_len (pa_cons (pv 0) pa_nil)) (pe_gv G.mWords)))))) (pss_one (ps_ret pe_bl)) pss_nil)
      (pss_cons (ps_for PassesOwn.never rfl (pi_tup (pv 0)) (pg_name (i := 1) sc_tale.nd rfl (.inl rfl))
        (pss_one (ps_if (pt_not (pt_val (pe_call GN hr rfl gN FN.kp bN .nil pass0 (pa_cons (pv 1) pa_nil)))) (pss_one (ps_ret pe_bl)) pss_nil)))
      (pss_one (ps_ret pe_bl))), ?_⟩
    refine ⟨_, rfl, _, _, _, _, true, rfl, .ty _, .base (.tup ha), kit_ty (by decide +kernel), true, rfl, iteF ?_⟩
    refine ⟨_, rfl, a, taleV, rfl, .inr (SqT.of ha), _, _, rfl, rfl, _, rfl, iteT ⟨_, _, rfl, rfl, _, rfl, iteF ?_⟩⟩
    refine ⟨_, rfl, a, rfl, ⟨_, SqT.of ha⟩, for_it (walk_tup (xs := taleV)) (fun i σ H' => H' = H ∧ ∃ y, σ = [some (.ref a), y]) ⟨rfl, none, rfl⟩ (fun _ _ _ _ p => by rw [p.1]; exact SqT.of ha) ?_ ?_⟩
    · rintro i x σ H1 H2 hi ⟨rfl, y, rfl⟩ ⟨rfl, ex⟩
      obtain rfl : i = 0 := by
        have : i < 1 := hi
        omega
      cases ex
      exact ⟨_, rfl, "b", rfl, good_b, _, rfl, iteF ⟨rfl, _, rfl⟩⟩
    · rintro σ H' ⟨rfl, y, rfl⟩
      exact q
end
end Kn

/-! Kn2: sights, talks, sayings; are_all; are_persons. -/
namespace Kn
open PySem PySem.Spec PyProof.Rows L2
def HourOk (i : Int) : Prop := 0 ≤ i ∧ i ≤ lastHour
/-- v is a thing of the kind (1 a sight, 2 a talk, 3 a saying) over the persons ps -/
def ItemOf (kind : Nat) (ps : List Str) (H : Hp) (v : V) : Prop := match kind with
  | 1 => ∃ (a t : Addr) (x : Str) (i : Int), v = .ref a ∧ H a = some (.tup [.str x, .int i, .ref t]) ∧ H t = some (.tup taleV) ∧ x ∈ ps ∧ HourOk i
  | 2 => ∃ (a : Addr) (x y w : Str) (i : Int), v = .ref a ∧ H a = some (.tup [.int i, .str x, .str y, .str w]) ∧ x ∈ ps ∧ y ∈ ps ∧ x ≠ y ∧ HourOk i ∧ (w = "both" ∨ w = "one")
  | 3 => ∃ (a : Addr) (x : Str) (i : Int), v = .ref a ∧ x ∈ ps ∧ HourOk i ∧ (H a = some (.tup [.str "unheard", .str x, .int i]) ∨ H a = some (.tup [.str "silent", .str x, .int 0, .int i]))
  | _ => False
/-- all tuples of H stand in H' -/
def Tups (H H' : Hp) : Prop := ∀ a xs, H a = some (.tup xs) → H' a = some (.tup xs)
theorem Tups.of {H H' : Hp} (s : Same H H') : Tups H H' := fun a xs e => s a _ e
theorem Tups.trans {H H1 H2 : Hp} (a : Tups H H1) (b : Tups H1 H2) : Tups H H2 := fun c o h => b c o (a c o h)
theorem Tups.refl (H : Hp) : Tups H H := fun _ _ h => h
theorem Tups.put {H : Hp} {l : Addr} {xs : List V} {o : HO} (h : H l = some (.lst xs)) : Tups H (upd H l o) := fun a ys e => by
  have n : a ≠ l := fun z => by
    rw [z, h] at e
    cases e
  rw [upd_ne n]
  exact e
theorem ItemOf.up {kind : Nat} {ps qs : List Str} {H H' : Hp} {v : V} (h : ItemOf kind ps H v) (t : Tups H H') (sub : ∀ x ∈ ps, x ∈ qs) : ItemOf kind qs H' v := by
  match kind, h with
  | 1, ⟨a, b, x, i, e, h1, h2, h3, h4⟩ => exact ⟨a, b, x, i, e, t _ _ h1, t _ _ h2, sub _ h3, h4⟩
  | 2, ⟨a, x, y, w, i, e, h1, h2, h3, h4, h5, h6⟩ => exact ⟨a, x, y, w, i, e, t _ _ h1, sub _ h2, sub _ h3, h4, h5, h6⟩
  | 3, ⟨a, x, i, e, h1, h2, h3⟩ => exact ⟨a, x, i, e, sub _ h1, h2, h3.imp (t _ _) (t _ _)⟩
theorem same_upd {H : Hp} {p : Addr} {o : HO} (h : H p = none) : Same H (upd H p o) := fun b x e => by
  rw [upd_ne (ne_of_none e h)]
  exact e
theorem flat_strs' (ps : List Str) : (ps.map V.str).all flatV = true := by
  rw [List.all_map]
  exact List.all_eq_true.mpr fun _ _ => rfl
section
variable {P : Program} {w : World} {K : PySem.W.Frag} {mg : Str → Option Value} {base : Heap} {aKept aKinds aMost : Addr}
/-- a def that says True of a thing of the kind -/
def spItem (kind : Nat) : Sp := fun vs H Q _ => ∃ (v : V) (p : Addr) (ps : List Str), vs = [v, .ref p] ∧ H p = some (.lst (ps.map V.str)) ∧ ItemOf kind ps H v ∧ ∀ H', Same H H' → Q (.bl true) H'
/-! ### is_sight -/
theorem ok_sight {f fO fH fT : Addr} {fd fdO fdH fdT : FuncData} (F : Fun K "is_sight" "is_sight" sSight f fd)
    (GO : FnOk P w K mg base CX0 1 fO fdO ["thing", "many"] spTupOf) (kO : PySem.W.keepIn K (.ref fO) = true) (bO : Binds K fdO ["thing", "many"] []) (gO : mg "is_tuple_of" = some (.ref fO))
    (GH : FnOk P w K mg base CX0 2 fH fdH ["thing"] spHour) (kH : PySem.W.keepIn K (.ref fH) = true) (bH : Binds K fdH ["thing"] []) (gH : mg "is_hour" = some (.ref fH))
    (GT : FnOk P w K mg base CX0 2 fT fdT ["thing"] spTale) (kT : PySem.W.keepIn K (.ref fT) = true) (bT : Binds K fdT ["thing"] []) (gT : mg "is_tale" = some (.ref fT)) :
    FnOk P w K mg base CX0 3 f fd ["thing", "persons"] (spItem 1) := by
  refine F.ok sc_sight (fun vs H Q E h => ?_) (fun cdv A outer s H vs Q E hr h => ?_)
  · obtain ⟨v, p, ps, rfl, _⟩ := h
    rfl
  · obtain ⟨v, p, ps, rfl, hp, ⟨a, t, x, i, rfl, ha, ht, hx, hi⟩, q⟩ := h
    refine ⟨_, pss_cons (ps_if (pt_not (pt_val (pe_call GO (hr.mono (by decide)) rfl gO kO bO .nil pass0 (pa_cons (pv 0) (pa_cons pe_int pa_nil))))) (pss_one (ps_ret pe_bl)) pss_nil)
      (pss_one (ps_ret (pe_and (pe_cmpR op_in_seq (pe_ix ix_tup (pv 0) pe_int (fun _ _ => rfl)) (pv 1) rfl)
        (pe_and (pe_call GH hr rfl gH kH bH .nil pass0 (pa_cons (pe_ix ix_tup (pv 0) pe_int (fun _ _ => rfl)) pa_nil))
          (pe_one (pe_call GT hr rfl gT kT bT .nil pass0 (pa_cons (pe_ix ix_tup (pv 0) pe_int (fun _ _ => rfl)) pa_nil))))))), ?_⟩
    refine ⟨_, rfl, a, _, 3, rfl, ha, rfl, true, rfl, iteF ?_⟩
    refine ⟨_, rfl, a, _, 0, _, rfl, rfl, SqT.of ha, atI_nat (j := 0) rfl, _, rfl, p, _, rfl, .inl (SqL.of hp), rfl, flat_strs' ps, _, rfl, ?_⟩
    rw [if_neg (show ¬ false = true by decide), inV_strs, decide_eq_true hx]
    refine iteT ⟨_, rfl, a, _, 1, _, rfl, rfl, SqT.of ha, atI_nat (j := 1) rfl, i, rfl, _, rfl, ?_⟩
    rw [decide_eq_true (show 0 ≤ i ∧ i ≤ lastHour from hi)]
    exact iteT ⟨_, rfl, a, _, 2, _, rfl, rfl, SqT.of ha, atI_nat (j := 2) rfl, t, rfl, ht, q _ (Same.refl _)⟩
/-! ### are_two -/
def spTwo : Sp := fun vs H Q _ => ∃ (x y : Str) (p : Addr) (ps : List Str), vs = [.str x, .str y, .ref p] ∧ H p = some (.lst (ps.map V.str)) ∧ x ∈ ps ∧ y ∈ ps ∧ x ≠ y ∧ Q (.bl true) H
theorem ok_two {f : Addr} {fd : FuncData} (F : Fun K "are_two" "are_two" sTwo f fd) : FnOk P w K mg base CX0 1 f fd ["one", "other", "persons"] spTwo := by
  refine F.ok sc_two (fun vs H Q E h => ?_) (fun cdv A outer s H vs Q E hr h => ?_)
  · obtain ⟨x, y, p, ps, rfl, _⟩ := h
    rfl
  · obtain ⟨x, y, p, ps, rfl, hp, hx, hy, hn, q⟩ := h
    refine ⟨_, pss_one (ps_ret (pe_and (pe_cmpR op_in_seq (pv 0) (pv 2) rfl) (pe_and (pe_cmpR op_in_seq (pv 1) (pv 2) rfl) (pe_one (pe_cmpR op_ne (pv 0) (pv 1) (nomark _)))))), ?_⟩
    refine ⟨_, rfl, _, rfl, p, _, rfl, .inl (SqL.of hp), rfl, flat_strs' ps, _, rfl, ?_⟩
    rw [if_neg (show ¬ false = true by decide), inV_strs, decide_eq_true hx]
    refine iteT ⟨_, rfl, _, rfl, p, _, rfl, .inl (SqL.of hp), rfl, flat_strs' ps, _, rfl, ?_⟩
    rw [if_neg (show ¬ false = true by decide), inV_strs, decide_eq_true hy]
    refine iteT ⟨_, rfl, _, rfl, rfl, ?_⟩
    rw [decide_eq_false (show ¬ V.str x = V.str y from fun z => hn (V.str.inj z))]
    exact q
/-! ### is_talk -/
theorem ok_talk {f fO fH fT : Addr} {fd fdO fdH fdT : FuncData} (F : Fun K "is_talk" "is_talk" sTalk f fd)
    (GO : FnOk P w K mg base CX0 1 fO fdO ["thing", "many"] spTupOf) (kO : PySem.W.keepIn K (.ref fO) = true) (bO : Binds K fdO ["thing", "many"] []) (gO : mg "is_tuple_of" = some (.ref fO))
    (GH : FnOk P w K mg base CX0 2 fH fdH ["thing"] spHour) (kH : PySem.W.keepIn K (.ref fH) = true) (bH : Binds K fdH ["thing"] []) (gH : mg "is_hour" = some (.ref fH))
    (GT : FnOk P w K mg base CX0 1 fT fdT ["one", "other", "persons"] spTwo) (kT : PySem.W.keepIn K (.ref fT) = true) (bT : Binds K fdT ["one", "other", "persons"] []) (gT : mg "are_two" = some (.ref fT)) :
    FnOk P w K mg base CX0 3 f fd ["thing", "persons"] (spItem 2) := by
  refine F.ok sc_talk (fun vs H Q E h => ?_) (fun cdv A outer s H vs Q E hr h => ?_)
  · obtain ⟨v, p, ps, rfl, _⟩ := h
    rfl
  · obtain ⟨v, p, ps, rfl, hp, ⟨a, x, y, u, i, rfl, ha, hx, hy, hn, hi, hu⟩, q⟩ := h
    refine ⟨_, pss_cons (ps_if (pt_not (pt_val (pe_call GO (hr.mono (by decide)) rfl gO kO bO .nil pass0 (pa_cons (pv 0) (pa_cons pe_int pa_nil))))) (pss_one (ps_ret pe_bl)) pss_nil)
      (pss_one (ps_ret (pe_and (pe_call GH hr rfl gH kH bH .nil pass0 (pa_cons (pe_ix ix_tup (pv 0) pe_int (fun _ _ => rfl)) pa_nil))
        (pe_and (pe_call GT (hr.mono (by decide)) rfl gT kT bT .nil pass0 (pa_cons (pe_ix ix_tup (pv 0) pe_int (fun _ _ => rfl)) (pa_cons (pe_ix ix_tup (pv 0) pe_int (fun _ _ => rfl)) (pa_cons (pv 1) pa_nil))))
          (pe_one (pe_cmpR op_in_seq (pe_ix ix_tup (pv 0) pe_int (fun _ _ => rfl)) (pe_tup (pa_cons pe_str (pa_cons pe_str pa_nil))) rfl)))))), ?_⟩
    refine ⟨_, rfl, a, _, 4, rfl, ha, rfl, true, rfl, iteF ?_⟩
    refine ⟨_, rfl, a, _, 0, _, rfl, rfl, SqT.of ha, atI_nat (j := 0) rfl, i, rfl, _, rfl, ?_⟩
    rw [decide_eq_true (show 0 ≤ i ∧ i ≤ lastHour from hi)]
    refine iteT ⟨_, rfl, a, _, 1, _, rfl, rfl, SqT.of ha, atI_nat (j := 1) rfl, _, rfl, a, _, 2, _, rfl, rfl, SqT.of ha, atI_nat (j := 2) rfl, _, rfl, x, y, p, ps, rfl, hp, hx, hy, hn, true, rfl, iteT ?_⟩
    refine ⟨_, rfl, a, _, 3, _, rfl, rfl, SqT.of ha, atI_nat (j := 3) rfl, by show 2 ≤ sizeLine; decide, fun t nt => ?_⟩
    refine ⟨t, [.str "both", .str "one"], rfl, .inr (SqT.of upd_same), rfl, rfl, ?_⟩
    rw [if_neg (show ¬ false = true by decide), show ([.str "both", .str "one"] : List V) = (["both", "one"] : List Str).map V.str from rfl, inV_strs,
      decide_eq_true (show u ∈ (["both", "one"] : List Str) by rcases hu with rfl | rfl <;> decide +kernel)]
    exact q _ (same_upd nt)
/-! ### is_saying -/
/-- a saying of an hour that is none -/
def LateOf (ps : List Str) (H : Hp) (v : V) : Prop := ∃ (a : Addr) (x : Str), v = .ref a ∧ x ∈ ps ∧ H a = some (.tup [.str "knew", .str x, .int (-1)])
def spSaying : Sp := fun vs H Q _ => ∃ (v : V) (p : Addr) (ps : List Str), vs = [v, .ref p] ∧ H p = some (.lst (ps.map V.str)) ∧
  ((ItemOf 3 ps H v ∧ ∀ H', Same H H' → Q (.bl true) H') ∨ (LateOf ps H v ∧ ∀ H', Same H H' → Q (.bl false) H'))
theorem dS (x y : Str) (b : Bool) (h : decide (x = y) = b) : decide (V.str x = V.str y) = b := by
  rw [← h, Bool.eq_iff_iff, decide_eq_true_eq, decide_eq_true_eq]
  exact ⟨fun z => V.str.inj z, fun z => by rw [z]⟩
theorem ok_saying {f fH fT : Addr} {fd fdH fdT : FuncData} (F : Fun K "is_saying" "is_saying" sSaying f fd) (G : Glo K mg aKept aKinds aMost)
    (GH : FnOk P w K mg base CX0 2 fH fdH ["thing"] spHour) (kH : PySem.W.keepIn K (.ref fH) = true) (bH : Binds K fdH ["thing"] []) (gH : mg "is_hour" = some (.ref fH))
    (GT : FnOk P w K mg base CX0 1 fT fdT ["one", "other", "persons"] spTwo) (kT : PySem.W.keepIn K (.ref fT) = true) (bT : Binds K fdT ["one", "other", "persons"] []) (gT : mg "are_two" = some (.ref fT)) :
    FnOk P w K mg base CX0 3 f fd ["thing", "persons"] spSaying := by
  refine F.ok sc_saying (fun vs H Q E h => ?_) (fun cdv A outer s H vs Q E hr h => ?_)
  · obtain ⟨v, p, ps, rfl, _⟩ := h
    rfl
  · obtain ⟨v, p, ps, rfl, hp, h⟩ := h
    refine ⟨_, pss_cons (ps_if (PW.pt (pw_or (pt_not (pt_val (pe_callB call_isi rfl G.isi b_isi (pa_cons (pv 0) (pa_cons (pe_bltn (v := .ty "tuple") rfl G.ttuple b_tuple rfl) pa_nil)))))
        (pw_or (pt_cmpR op_lt (pe_callB call_len_seq rfl G.len PySem.boot_len (pa_cons (pv 0) pa_nil)) pe_int (nomark _))
          (pw_or1 (pt_cmpR op_notIn_seq (pe_ix ix_tup (pv 0) pe_int (fun _ _ => rfl)) (pv 1) rfl))))) (pss_one (ps_ret pe_bl)) pss_nil)
      (pss_cons (ps_if (pt_cmpR op_eq (pe_ix ix_tup (pv 0) pe_int (fun _ _ => rfl)) pe_str (nomark _))
        (pss_one (ps_ret (pe_and (pe_cmpR op_eq (pe_callB call_len_seq rfl G.len PySem.boot_len (pa_cons (pv 0) pa_nil)) pe_int (nomark _))
          (pe_and (pe_call GH hr rfl gH kH bH .nil pass0 (pa_cons (pe_ix ix_tup (pv 0) pe_int (fun _ _ => rfl)) pa_nil))
            (pe_and (pe_call GH hr rfl gH kH bH .nil pass0 (pa_cons (pe_ix ix_tup (pv 0) pe_int (fun _ _ => rfl)) pa_nil))
              (pe_one (pe_cmpR op_le (pe_ix ix_tup (pv 0) pe_int (fun _ _ => rfl)) (pe_ix ix_tup (pv 0) pe_int (fun _ _ => rfl)) (nomark _)))))))) pss_nil)
      (pss_cons (ps_if (pt_cmpR op_ne (pe_callB call_len_seq rfl G.len PySem.boot_len (pa_cons (pv 0) pa_nil)) pe_int (nomark _)) (pss_one (ps_ret pe_bl)) pss_nil)
      (pss_cons (ps_if (pt_cmpR op_eq (pe_ix ix_tup (pv 0) pe_int (fun _ _ => rfl)) pe_str (nomark _))
        (pss_one (ps_ret (pe_call GH hr rfl gH kH bH .nil pass0 (pa_cons (pe_ix ix_tup (pv 0) pe_int (fun _ _ => rfl)) pa_nil)))) pss_nil)
      (pss_cons (ps_if (pt_cmpR op_eq (pe_ix ix_tup (pv 0) pe_int (fun _ _ => rfl)) pe_str (nomark _))
        (pss_one (ps_ret (pe_or (pe_cmp (pc_isN (pe_ix ix_tup (pv 0) pe_int (fun _ _ => rfl))) rfl) (pe_one (pe_call GH hr rfl gH kH bH .nil pass0 (pa_cons (pe_ix ix_tup (pv 0) pe_int (fun _ _ => rfl)) pa_nil)))))) pss_nil)
      (pss_one ps_never))))), ?_⟩
    rcases h with ⟨⟨a, x, i, rfl, hx, hi, ha | ha⟩, q⟩ | ⟨⟨a, x, rfl, hx, ha⟩, q⟩
    · -- unheard
      refine ⟨_, rfl, _, _, _, _, true, rfl, .ty _, .base (.tup ha), kit_ty (by decide +kernel), true, rfl, iteF ?_⟩
      refine ⟨_, rfl, a, _, rfl, .inr (SqT.of ha), _, _, rfl, rfl, _, rfl, iteF ?_⟩
      refine ⟨_, rfl, a, _, 1, _, rfl, rfl, SqT.of ha, atI_nat (j := 1) rfl, _, rfl, p, _, rfl, .inl (SqL.of hp), rfl, flat_strs' ps, _, rfl, ?_⟩
      rw [if_pos rfl, inV_strs, decide_eq_true hx]
      refine iteF ⟨_, rfl, a, _, 0, _, rfl, rfl, SqT.of ha, atI_nat (j := 0) rfl, rfl, _, rfl, ?_⟩
      rw [dS _ _ false (by decide +kernel)]
      refine iteF ⟨_, rfl, a, _, rfl, .inr (SqT.of ha), rfl, _, rfl, iteF ?_⟩
      refine ⟨_, rfl, a, _, 0, _, rfl, rfl, SqT.of ha, atI_nat (j := 0) rfl, rfl, _, rfl, ?_⟩
      rw [dS _ _ false (by decide +kernel)]
      refine iteF ⟨_, rfl, a, _, 0, _, rfl, rfl, SqT.of ha, atI_nat (j := 0) rfl, rfl, _, rfl, ?_⟩
      rw [dS _ _ true (by decide +kernel)]
      refine iteT ⟨_, rfl, a, _, 2, _, rfl, rfl, SqT.of ha, atI_nat (j := 2) rfl, _, rfl, iteF ?_⟩
      refine ⟨_, rfl, a, _, 2, _, rfl, rfl, SqT.of ha, atI_nat (j := 2) rfl, i, rfl, ?_⟩
      rw [decide_eq_true (show 0 ≤ i ∧ i ≤ lastHour from hi)]
      exact q _ (Same.refl _)
    · -- silent
      refine ⟨_, rfl, _, _, _, _, true, rfl, .ty _, .base (.tup ha), kit_ty (by decide +kernel), true, rfl, iteF ?_⟩
      refine ⟨_, rfl, a, _, rfl, .inr (SqT.of ha), _, _, rfl, rfl, _, rfl, iteF ?_⟩
      refine ⟨_, rfl, a, _, 1, _, rfl, rfl, SqT.of ha, atI_nat (j := 1) rfl, _, rfl, p, _, rfl, .inl (SqL.of hp), rfl, flat_strs' ps, _, rfl, ?_⟩
      rw [if_pos rfl, inV_strs, decide_eq_true hx]
      refine iteF ⟨_, rfl, a, _, 0, _, rfl, rfl, SqT.of ha, atI_nat (j := 0) rfl, rfl, _, rfl, ?_⟩
      rw [dS _ _ true (by decide +kernel)]
      refine iteT ⟨_, rfl, a, _, rfl, .inr (SqT.of ha), rfl, _, rfl, iteT ?_⟩
      refine ⟨_, rfl, a, _, 2, _, rfl, rfl, SqT.of ha, atI_nat (j := 2) rfl, 0, rfl, _, rfl, iteT ?_⟩
      refine ⟨_, rfl, a, _, 3, _, rfl, rfl, SqT.of ha, atI_nat (j := 3) rfl, i, rfl, _, rfl, ?_⟩
      rw [decide_eq_true (show 0 ≤ i ∧ i ≤ lastHour from hi)]
      refine iteT ⟨_, rfl, a, _, 2, _, rfl, rfl, SqT.of ha, atI_nat (j := 2) rfl, _, rfl, a, _, 3, _, rfl, rfl, SqT.of ha, atI_nat (j := 3) rfl, _, _, rfl, rfl, ?_⟩
      have z := q H (Same.refl H)
      rw [← decide_eq_true hi.1] at z
      exact z
    · -- too late
      refine ⟨_, rfl, _, _, _, _, true, rfl, .ty _, .base (.tup ha), kit_ty (by decide +kernel), true, rfl, iteF ?_⟩
      refine ⟨_, rfl, a, _, rfl, .inr (SqT.of ha), _, _, rfl, rfl, _, rfl, iteF ?_⟩
      refine ⟨_, rfl, a, _, 1, _, rfl, rfl, SqT.of ha, atI_nat (j := 1) rfl, _, rfl, p, _, rfl, .inl (SqL.of hp), rfl, flat_strs' ps, _, rfl, ?_⟩
      rw [if_pos rfl, inV_strs, decide_eq_true hx]
      refine iteF ⟨_, rfl, a, _, 0, _, rfl, rfl, SqT.of ha, atI_nat (j := 0) rfl, rfl, _, rfl, ?_⟩
      rw [dS _ _ false (by decide +kernel)]
      refine iteF ⟨_, rfl, a, _, rfl, .inr (SqT.of ha), rfl, _, rfl, iteF ?_⟩
      refine ⟨_, rfl, a, _, 0, _, rfl, rfl, SqT.of ha, atI_nat (j := 0) rfl, rfl, _, rfl, ?_⟩
      rw [dS _ _ true (by decide +kernel)]
      exact iteT ⟨_, rfl, a, _, 2, _, rfl, rfl, SqT.of ha, atI_nat (j := 2) rfl, -1, rfl, q _ (Same.refl _)⟩
/-! ### are_all -/
def spAll (kind : Nat) (fF : Addr) : Sp := fun vs H Q _ => ∃ (a p : Addr) (m : Int) (xs : List V) (ps : List Str), vs = [.ref a, .int m, .ref p, .ref fF] ∧ H a = some (.lst xs) ∧ ((xs.length : Nat) : Int) ≤ m ∧ H p = some (.lst (ps.map V.str)) ∧
  (∀ v ∈ xs, ItemOf kind ps H v) ∧ ∀ H', Same H H' → Q (.bl true) H'
theorem ok_all {kind : Nat} {f fF : Addr} {fd fdF : FuncData} (F : Fun K "are_all" "are_all" sAll f fd) (G : Glo K mg aKept aKinds aMost)
    (GF : FnOk P w K mg base CX0 3 fF fdF ["thing", "persons"] (spItem kind)) (kF : PySem.W.keepIn K (.ref fF) = true) (bF : Binds K fdF ["thing", "persons"] []) :
    FnOk P w K mg base CX0 4 f fd ["thing", "most", "persons", "fits"] (spAll kind fF) := by
  refine F.ok sc_all (fun vs H Q E h => ?_) (fun cdv A outer s H vs Q E hr h => ?_)
  · obtain ⟨a, p, m, xs, ps, rfl, _⟩ := h
    rfl
  · obtain ⟨a, p, m, xs, ps, rfl, ha, hm, hp, hx, q⟩ := h
    refine ⟨_, pss_cons (ps_if (PW.pt (pw_or (pt_not (pt_val (pe_callB call_isi rfl G.isi b_isi (pa_cons (pv 0) (pa_cons (pe_bltn (v := .ty "list") rfl G.tlist b_list rfl) pa_nil)))))
        (pw_or1 (pt_cmpR op_gt (pe_callB call_len_seq rfl G.len PySem.boot_len (pa_cons (pv 0) pa_nil)) (pv 1) (nomark _))))) (pss_one (ps_ret pe_bl)) pss_nil)
      (pss_cons (ps_for PassesOwn.never rfl (pi_list (pv 0)) (pg_name (i := 4) sc_all.nd rfl (.inl rfl))
        (pss_one (ps_if (pt_not (pt_val (pe_callL (i := 3) GF hr rfl (.inl rfl) kF bF .nil pass0 (pa_cons (pv 4) (pa_cons (pv 2) pa_nil))))) (pss_one (ps_ret pe_bl)) pss_nil)))
      (pss_one (ps_ret pe_bl))), ?_⟩
    refine ⟨_, rfl, _, _, _, _, true, rfl, .ty _, .base (.lst ha), kit_ty (by decide +kernel), true, rfl, iteF ?_⟩
    refine ⟨_, rfl, a, _, rfl, .inl (SqL.of ha), _, rfl, _, _, rfl, rfl, _, rfl, ?_⟩
    rw [decide_eq_false (show ¬ ((xs.length : Nat) : Int) > m by omega)]
    refine iteF ⟨_, rfl, a, rfl, ⟨_, SqL.of ha⟩, for_it (walk_list (xs := xs)) (fun i σ H' => Same H H' ∧ ∃ y, σ = [some (.ref a), some (.int m), some (.ref p), some (.ref fF), y]) ⟨Same.refl _, none, rfl⟩ (fun _ _ _ _ z => SqL.of (z.1 _ _ ha)) ?_ ?_⟩
    · rintro i v σ H1 H2 hi ⟨sm, y, rfl⟩ ⟨rfl, ev⟩
      have hv := hx v (List.mem_of_getElem? ev)
      exact ⟨rfl, _, rfl, _, rfl, v, p, ps, rfl, sm _ _ hp, hv.up (Tups.of sm) (fun _ z => z), fun H3 s3 => ⟨true, rfl, iteF ⟨sm.trans s3, _, rfl⟩⟩⟩
    · rintro σ H' ⟨sm, y, rfl⟩
      exact q _ sm
/-! ### are_persons -/
def spPersons : Sp := fun vs H Q _ => ∃ (a : Addr) (ps : List Str), vs = [.ref a] ∧ H a = some (.lst (ps.map V.str)) ∧ 1 ≤ ps.length ∧ ps.length ≤ 24 ∧ (∀ z ∈ ps, Good z) ∧ ps.Nodup ∧ Q (.bl true) H
theorem ok_persons {f fN : Addr} {fd fdN : FuncData} (F : Fun K "are_persons" "are_persons" sArePersons f fd) (G : Glo K mg aKept aKinds aMost)
    (GN : FnOk P w K mg base CX0 1 fN fdN ["thing"] spName) (kN : PySem.W.keepIn K (.ref fN) = true) (bN : Binds K fdN ["thing"] []) (gN : mg "is_name" = some (.ref fN)) :
    FnOk P w K mg base CX0 2 f fd ["thing"] spPersons := by
  refine F.ok sc_arepersons (fun vs H Q E h => ?_) (fun cdv A outer s H vs Q E hr h => ?_)
  · obtain ⟨a, ps, rfl, _⟩ := h
    rfl
  · obtain ⟨a, ps, rfl, ha, h1, h24, hg, nd, q⟩ := h
    refine ⟨_, pss_cons (ps_if (PW.pt (pw_or (pt_not (pt_val (pe_callB call_isi rfl G.isi b_isi (pa_cons (pv 0) (pa_cons (pe_bltn (v := .ty "list") rfl G.tlist b_list rfl) pa_nil)))))
        (pw_or1 (pt_not (pt_chain op_le op_le pe_int (pe_callB call_len_seq rfl G.len PySem.boot_len (pa_cons (pv 0) pa_nil)) (pe_gv G.mPersons)))))) (pss_one (ps_ret pe_bl)) pss_nil)
      (pss_cons (ps_for PassesOwn.never rfl (pi_list (pv 0)) (pg_name (i := 1) sc_arepersons.nd rfl (.inl rfl))
        (pss_one (ps_if (pt_not (pt_val (pe_call GN hr rfl gN kN bN .nil pass0 (pa_cons (pv 1) pa_nil)))) (pss_one (ps_ret pe_bl)) pss_nil)))
      (pss_one (ps_ret (pe_cmpR op_eq (KnS.pe_lenTexts rfl G.len rfl G.tset (pv 0)) (pe_callB call_len_seq rfl G.len PySem.boot_len (pa_cons (pv 0) pa_nil)) (nomark _))))), ?_⟩
    have len : (ps.map V.str).length = ps.length := List.length_map _
    refine ⟨_, rfl, _, _, _, _, true, rfl, .ty _, .base (.lst ha), kit_ty (by decide +kernel), true, rfl, iteF ?_⟩
    refine ⟨_, rfl, a, _, rfl, .inl (SqL.of ha), _, _, rfl, rfl, _, rfl, ?_⟩
    rw [if_pos (decide_eq_true (show (1 : Int) ≤ (((ps.map V.str).length : Nat) : Int) by omega))]
    refine ⟨_, _, rfl, rfl, _, rfl, ?_⟩
    rw [decide_eq_true (show (((ps.map V.str).length : Nat) : Int) ≤ 24 by omega)]
    refine iteF ⟨_, rfl, a, rfl, ⟨_, SqL.of ha⟩, for_it (walk_list (xs := ps.map V.str)) (fun i σ H' => H' = H ∧ ∃ y, σ = [some (.ref a), y]) ⟨rfl, none, rfl⟩ (fun _ _ _ _ z => by rw [z.1]; exact SqL.of ha) ?_ ?_⟩
    · rintro i v σ H1 H2 hi ⟨rfl, y, rfl⟩ ⟨rfl, ev⟩
      rw [List.getElem?_map] at ev
      obtain ⟨z, ez, rfl⟩ := Option.map_eq_some_iff.mp ev
      exact ⟨_, rfl, z, rfl, hg z (List.mem_of_getElem? ez), _, rfl, iteF ⟨rfl, _, rfl⟩⟩
    · rintro σ H' ⟨rfl, y, rfl⟩
      refine ⟨_, rfl, a, ps, rfl, SqL.of ha, nd, by omega, _, rfl, a, _, rfl, .inl (SqL.of ha), rfl, ?_⟩
      rw [len, decide_eq_true rfl]
      exact q
end
end Kn

/-! Kn3: hours as words, rows, hour_in, saying_in, talk_in, told_by. -/
namespace Kn
open PySem PySem.Spec PyProof.Rows L2
/-! ### hours as words -/
def hZ (k : Nat) : Int := lastHour - (k : Int)
def hT (k : Nat) : Str := Str.ofString (toString (hZ k))
def bigT : Str := "1000000000000000001"
/-- the word z writes an hour, told as i (-1: it is none) -/
structure HourW (z : Str) (i : Int) : Prop where
  l1 : 1 ≤ z.length
  l2 : z.length ≤ 19
  c0 : ∃ c, z.cps.toList[0]? = some c ∧ (c = 48 → z.length = 1)
  fig : ∀ c ∈ z.cps.toList, c ∈ figuresT.cps.toList
  val : ∃ n, PySem.intText? z = some n ∧ i = if n > lastHour then -1 else n
theorem hourW_of {z : Str} {i n : Int} (h : (decide (1 ≤ z.length) && decide (z.length ≤ 19) && (decide (z.cps.toList[0]? ≠ some 48) || decide (z.length = 1)) && z.cps.toList.all (fun c => decide (c ∈ figuresT.cps.toList)) && decide (PySem.intText? z = some n)) = true)
    (hi : i = if n > lastHour then -1 else n) : HourW z i := by
  simp only [Bool.and_eq_true, Bool.or_eq_true, decide_eq_true_eq, List.all_eq_true] at h
  obtain ⟨⟨⟨⟨h1, h2⟩, h3⟩, h4⟩, h5⟩ := h
  have h6 : 0 < z.cps.toList.length := by
    rw [Array.length_toList]
    exact h1
  refine ⟨h1, h2, ⟨z.cps.toList[0], List.getElem?_eq_getElem h6, fun e => ?_⟩, h4, n, h5, hi⟩
  rcases h3 with h3 | h3
  · exact absurd (by rw [List.getElem?_eq_getElem h6, e]) h3
  · exact h3
theorem hW0 : HourW "0" 0 := hourW_of (n := 0) (by decide +kernel) (by decide +kernel)
theorem hWbig : HourW bigT (-1) := hourW_of (n := 1000000000000000001) (by decide +kernel) (by decide +kernel)
theorem hW : ∀ k, k < 3 → HourW (hT k) (hZ k)
  | 0, _ => hourW_of (n := 1000000000000000000) (by decide +kernel) (by decide +kernel)
  | 1, _ => hourW_of (n := 999999999999999999) (by decide +kernel) (by decide +kernel)
  | 2, _ => hourW_of (n := 999999999999999998) (by decide +kernel) (by decide +kernel)
  | k + 3, h => by omega
theorem hOk {k : Nat} (h : k < 3) : HourOk (hZ k) := by
  unfold HourOk hZ lastHour
  omega
/-! ### rows -/
inductive Row where
  | person (n : Str)
  | saw (p : Str) (k : Nat)
  | talk (k : Nat) (p q : Str)
  | talkTo (k : Nat) (p q : Str)
  | heard (p : Str) (k : Nat)
  | silent (p : Str) (k : Nat)
  | late (p : Str)
def Row.words : Row → List Str
  | .person n => ["person", n]
  | .saw p k => ["saw", p, hT k, "b"]
  | .talk k p q => ["talk", hT k, p, q]
  | .talkTo k p q => ["talk", hT k, p, "to", q]
  | .heard p k => [p, "heard", "nobody", "by", hT k]
  | .silent p k => [p, "told", "nobody", "from", "0", "to", hT k]
  | .late p => [p, "knew", "by", bigT]
def Row.kind : Row → Nat
  | .person _ => 0
  | .saw _ _ => 1
  | .talk _ _ _ => 2
  | .talkTo _ _ _ => 2
  | _ => 3
def Row.isLate : Row → Bool
  | .late _ => true
  | _ => false
/-- what is asked of a row behind the persons ps -/
def Row.Ok (ps : List Str) : Row → Prop
  | .person n => Good n ∧ n ∉ ps
  | .saw p k => p ∈ ps ∧ k < 3
  | .talk k p q => p ∈ ps ∧ q ∈ ps ∧ p ≠ q ∧ k < 3
  | .talkTo k p q => p ∈ ps ∧ q ∈ ps ∧ p ≠ q ∧ k < 3
  | .heard p k => p ∈ ps ∧ k < 3
  | .silent p k => p ∈ ps ∧ k < 3
  | .late p => p ∈ ps
/-! ### texts compared -/
theorem dpStrs (K : PySem.W.Frag) (H : Hp) : ∀ ys : List Str, DpAll K H (ys.map V.str) (ys.map PyData.str)
  | [] => .nil
  | y :: ys => .cons (.str y) (dpStrs K H ys)
theorem dpL {K : PySem.W.Frag} {H : Hp} {a : Addr} {ys : List Str} (h : H a = some (.lst (ys.map V.str))) : Dp K H (.ref a) (.list (ys.map PyData.str)) := .lst (SqL.of h) (dpStrs K H ys)
theorem eqv_strs : ∀ xs ys : List Str, PyData.eqv (.list (xs.map PyData.str)) (.list (ys.map PyData.str)) = decide (xs = ys)
  | [], [] => by simp [PyData.eqv, PyData.eqvAll]
  | [], y :: ys => by simp [PyData.eqv, PyData.eqvAll]
  | x :: xs, [] => by simp [PyData.eqv, PyData.eqvAll]
  | x :: xs, y :: ys => by
    have ih := eqv_strs xs ys
    simp only [PyData.eqv] at ih
    simp only [List.map_cons, PyData.eqv, PyData.eqvAll, ih]
    rw [Bool.eq_iff_iff, Bool.and_eq_true, beq_iff_eq, decide_eq_true_eq, decide_eq_true_eq, List.cons.injEq]
theorem shapedS (ys : List Str) (h : ∀ y ∈ ys, PyData.strOk y = true) : SeqAt.shaped (.list (ys.map PyData.str)) = true := by
  have h1 : ∀ zs : List Str, (∀ y ∈ zs, PyData.strOk y = true) → PyData.canLayAll0 (zs.map PyData.str) = true := fun zs => by
    induction zs with
    | nil => intro _; rfl
    | cons z zs ih =>
      intro hz
      simp only [List.map_cons, PyData.canLayAll0, PyData.canLay0, hz z List.mem_cons_self, ih fun y hy => hz y (List.mem_cons_of_mem _ hy), Bool.and_self]
  have h2 : ∀ zs : List Str, PyData.depthAll (zs.map PyData.str) ≤ 1 := fun zs => by
    induction zs with
    | nil => simp [PyData.depthAll]
    | cons z zs ih => simp [PyData.depthAll, PyData.depth]; omega
  have h3 := h2 ys
  unfold SeqAt.shaped
  simp only [PyData.canLay0, PyData.depth, h1 ys h, Bool.true_and]
  exact decide_eq_true (by omega)
theorem okh : ∀ k, k < 3 → PyData.strOk (hT k) = true
  | 0, _ => by decide +kernel
  | 1, _ => by decide +kernel
  | 2, _ => by decide +kernel
  | k + 3, h => by omega
section
variable {P : Program} {w : World} {K : PySem.W.Frag} {mg : Str → Option Value} {base : Heap} {aKept aKinds aMost : Addr}
/-! ### hour_in -/
def spHourIn : Sp := fun vs H Q _ => ∃ (z : Str) (i : Int), vs = [.str z] ∧ HourW z i ∧ Q (.int i) H
theorem ok_hourin {f : Addr} {fd : FuncData} (F : Fun K "hour_in" "hour_in" sHourIn f fd) (G : Glo K mg aKept aKinds aMost) : FnOk P w K mg base CX0 1 f fd ["word"] spHourIn := by
  refine F.ok sc_hourin (fun vs H Q E h => ?_) (fun cdv A outer s H vs Q E hr h => ?_)
  · obtain ⟨z, i, rfl, _⟩ := h
    rfl
  · obtain ⟨z, i, rfl, hz, q⟩ := h
    refine ⟨_, C8.pss_cut (ps_if (PW.pt (pw_or (pt_not (pt_chain op_le op_le pe_int (pe_callB call_len_str rfl G.len PySem.boot_len (pa_cons (pv 0) pa_nil)) (pe_gv G.mFigures)))
        (pw_or1 (PW.pt (pw_and (pt_cmpR op_eq (pe_ix ix_str (pv 0) pe_int (fun _ _ => rfl)) pe_str (nomark _)) (pw_and1 (pt_cmpR op_gt (pe_callB call_len_str rfl G.len PySem.boot_len (pa_cons (pv 0) pa_nil)) pe_int (nomark _))))))))
        (pss_one (ps_ret (pe_un un_neg pe_int))) pss_nil)
      (pss_cons (ps_for PassesOwn.never rfl (pi_str (pv 0)) (pg_name (i := 1) sc_hourin.nd rfl (.inl rfl))
        (pss_one (ps_if (pt_cmpR op_notIn_sign (pv 1) (pe_gv G.figures) rfl) (pss_one (ps_ret (pe_un un_neg pe_int))) pss_nil)))
      (pss_cons (ps_if (pt_cmpR op_gt (pe_callTy call_int_str rfl G.tint b_int (pa_cons (pv 0) pa_nil)) (pe_gv G.lastH) (nomark _)) (pss_one (ps_ret (pe_un un_neg pe_int))) pss_nil)
      (pss_one (ps_ret (pe_callTy call_int_str rfl G.tint b_int (pa_cons (pv 0) pa_nil)))))), ?_⟩
    have l1 := hz.l1
    have l2 := hz.l2
    have lz : z.length ≤ sizeLine := by
      rw [sizeLine_eq]
      omega
    obtain ⟨c, e0, c0⟩ := hz.c0
    obtain ⟨n, en, ei⟩ := hz.val
    refine ⟨fun σ' H' => σ' = [some (.str z), none] ∧ H' = H, ?_, ?_⟩
    · refine ⟨_, rfl, _, rfl, lz, _, _, rfl, rfl, _, rfl, ?_⟩
      rw [if_pos (decide_eq_true (show (1 : Int) ≤ ((z.length : Nat) : Int) by omega))]
      refine ⟨_, _, rfl, rfl, _, rfl, ?_⟩
      rw [decide_eq_true (show ((z.length : Nat) : Int) ≤ 19 by omega)]
      refine iteF ⟨_, rfl, _, 0, c, rfl, rfl, lz, atI_nat (j := 0) e0, rfl, _, rfl, ite2 (fun hc => ?_) (fun _ => iteF ⟨rfl, rfl⟩)⟩
      have hc2 : c = 48 := by
        have h1 := V.str.inj (of_decide_eq_true hc)
        have h2 := congrArg (fun y : Str => y.cps.toList) h1
        exact List.head_eq_of_cons_eq h2
      refine ⟨_, rfl, _, rfl, lz, _, _, rfl, rfl, _, rfl, ?_⟩
      rw [decide_eq_false (show ¬ ((z.length : Nat) : Int) > 1 by rw [c0 hc2]; omega)]
      exact iteF ⟨rfl, rfl⟩
    · rintro σ' H' ⟨rfl, rfl⟩
      refine ⟨_, rfl, z, rfl, for_it walk_str (fun i σ H'' => H'' = H' ∧ ∃ y, σ = [some (.str z), y]) ⟨rfl, none, rfl⟩ (fun _ _ _ _ _ => trivial) ?_ ?_⟩
      · rintro j x σ H1 H2 hj ⟨rfl, y, rfl⟩ ⟨rfl, d, ed, rfl⟩
        have hd : d ∈ z.cps.toList := by
          rw [← Array.getElem?_toList] at ed
          exact List.mem_of_getElem? ed
        refine ⟨_, rfl, d, figuresT, rfl, rfl, _, rfl, ?_⟩
        rw [decide_eq_true (hz.fig d hd)]
        exact iteF ⟨rfl, _, rfl⟩
      · rintro σ H1 ⟨rfl, y, rfl⟩
        refine ⟨_, rfl, z, n, rfl, en, by omega, _, _, rfl, rfl, _, rfl, ite2 (fun hn => ?_) (fun hn => ?_)⟩
        · rw [if_pos (of_decide_eq_true hn)] at ei
          subst ei
          exact ⟨1, rfl, q⟩
        · rw [if_neg fun z => hn (decide_eq_true z)] at ei
          subst ei
          exact ⟨_, rfl, z, i, rfl, en, by omega, q⟩
end
end Kn

/-! Kn4: saying_in, talk_in, told_by. -/
namespace Kn
open PySem PySem.Spec PyProof.Rows L2
theorem all_ok {ys : List Str} (h : ys.all PyData.strOk = true) : ∀ y ∈ ys, PyData.strOk y = true := List.all_eq_true.mp h
theorem two_lists {K : PySem.W.Frag} {H : Hp} {p1 p2 : Addr} {xs zs : List Str} (n1 : H p1 = none) (n2 : upd H p1 (.lst (xs.map V.str)) p2 = none) :
    Dp K (upd (upd H p1 (.lst (xs.map V.str))) p2 (.lst (zs.map V.str))) (.ref p1) (.list (xs.map PyData.str)) ∧ Dp K (upd (upd H p1 (.lst (xs.map V.str))) p2 (.lst (zs.map V.str))) (.ref p2) (.list (zs.map PyData.str)) ∧
      Same H (upd (upd H p1 (.lst (xs.map V.str))) p2 (.lst (zs.map V.str))) := by
  have ne : p1 ≠ p2 := ne_of_none upd_same n2
  exact ⟨dpL (by rw [upd_ne ne, upd_same]), dpL upd_same, (same_upd n1).trans (same_upd n2)⟩
section
variable {P : Program} {w : World} {K : PySem.W.Frag} {mg : Str → Option Value} {base : Heap} {aKept aKinds aMost : Addr}
/-! ### saying_in -/
def Row.saying : Row → List V
  | .heard p k => [.str "unheard", .str p, .int (hZ k)]
  | .silent p k => [.str "silent", .str p, .int 0, .int (hZ k)]
  | .late p => [.str "knew", .str p, .int (-1)]
  | _ => []
def spSayingIn : Sp := fun vs H Q _ => ∃ (l : Addr) (r : Row) (ps : List Str), vs = [.ref l] ∧ H l = some (.lst (r.words.map V.str)) ∧ r.Ok ps ∧ r.kind = 3 ∧ ∀ a H', Same H H' → H' a = some (.tup r.saying) → Q (.ref a) H'
theorem ok_sayingin {f fH : Addr} {fd fdH : FuncData} (F : Fun K "saying_in" "saying_in" sSayingIn f fd) (G : Glo K mg aKept aKinds aMost)
    (GH : FnOk P w K mg base CX0 1 fH fdH ["word"] spHourIn) (kH : PySem.W.keepIn K (.ref fH) = true) (bH : Binds K fdH ["word"] []) (gH : mg "hour_in" = some (.ref fH)) :
    FnOk P w K mg base CX0 2 f fd ["words"] spSayingIn := by
  refine F.ok sc_sayingin (fun vs H Q E h => ?_) (fun cdv A outer s H vs Q E hr h => ?_)
  · obtain ⟨l, r, ps, rfl, _⟩ := h
    rfl
  · obtain ⟨l, r, ps, rfl, hl, ok, h3, q⟩ := h
    have hu : (cxOf CX0 P w K mg base ["words"] "saying_in" (defScope sSayingIn) f cdv A outer s H E).nox.A.units + 64 < cLine := hr.units
    refine ⟨_, C8.pss_cut (ps_if (PW.pt (pw_and (pt_cmpR op_eq (pe_callB call_len_seq rfl G.len PySem.boot_len (pa_cons (pv 0) pa_nil)) pe_int (nomark _))
        (pw_and1 (pt_cmpR (op_eqD hu) (pe_slice sl_list (pv 0) (po_some pe_int) (po_some pe_int)) (pe_lst (pa_cons pe_str (pa_cons pe_str pa_nil))) (nomark _)))))
        (pss_one (ps_ret (pe_tup (pa_cons pe_str (pa_cons (pe_ix ix_list (pv 0) pe_int (fun _ _ => rfl)) (pa_cons (pe_call GH hr rfl gH kH bH .nil pass0 (pa_cons (pe_ix ix_list (pv 0) pe_int (fun _ _ => rfl)) pa_nil)) pa_nil)))))) pss_nil)
      (C8.pss_cut (ps_if (pt_cmpR (op_eqD hu) (pe_slice sl_list (pv 0) (po_some pe_int) po_none) (pe_lst (pa_cons pe_str (pa_cons pe_str (pa_cons pe_str pa_nil)))) (nomark _)) (pss_one ps_never) pss_nil)
      (C8.pss_cut (ps_if (PW.pt (pw_and (pt_cmpR op_eq (pe_callB call_len_seq rfl G.len PySem.boot_len (pa_cons (pv 0) pa_nil)) pe_int (nomark _))
        (pw_and1 (pt_cmpR (op_eqD hu) (pe_slice sl_list (pv 0) (po_some pe_int) (po_some pe_int)) (pe_lst (pa_cons pe_str (pa_cons pe_str (pa_cons pe_str pa_nil)))) (nomark _)))))
        (pss_one (ps_ret (pe_tup (pa_cons pe_str (pa_cons (pe_ix ix_list (pv 0) pe_int (fun _ _ => rfl)) (pa_cons (pe_call GH hr rfl gH kH bH .nil pass0 (pa_cons (pe_ix ix_list (pv 0) pe_int (fun _ _ => rfl)) pa_nil)) pa_nil)))))) pss_nil)
      (C8.pss_cut (ps_if (PW.pt (pw_and (pt_cmpR op_eq (pe_callB call_len_seq rfl G.len PySem.boot_len (pa_cons (pv 0) pa_nil)) pe_int (nomark _))
        (pw_and1 (pt_cmpR (op_eqD hu) (pe_slice sl_list (pv 0) (po_some pe_int) (po_some pe_int)) (pe_lst (pa_cons pe_str (pa_cons pe_str (pa_cons pe_str pa_nil)))) (nomark _))))) (pss_one ps_never) pss_nil)
      (pss_cons (ps_if (PW.pt (pw_and (pt_cmpR op_eq (pe_callB call_len_seq rfl G.len PySem.boot_len (pa_cons (pv 0) pa_nil)) pe_int (nomark _))
        (pw_and (pt_cmpR (op_eqD hu) (pe_slice sl_list (pv 0) (po_some pe_int) (po_some pe_int)) (pe_lst (pa_cons pe_str (pa_cons pe_str (pa_cons pe_str pa_nil)))) (nomark _))
          (pw_and1 (pt_cmpR op_eq (pe_ix ix_list (pv 0) pe_int (fun _ _ => rfl)) pe_str (nomark _))))))
        (pss_one (ps_ret (pe_tup (pa_cons pe_str (pa_cons (pe_ix ix_list (pv 0) pe_int (fun _ _ => rfl)) (pa_cons (pe_call GH hr rfl gH kH bH .nil pass0 (pa_cons (pe_ix ix_list (pv 0) pe_int (fun _ _ => rfl)) pa_nil))
          (pa_cons (pe_call GH hr rfl gH kH bH .nil pass0 (pa_cons (pe_ix ix_list (pv 0) pe_int (fun _ _ => rfl)) pa_nil)) pa_nil))))))) pss_nil)
      (pss_one (ps_ret pe_non)))))), ?_⟩
    cases r with
    | person n => cases h3
    | saw p k => cases h3
    | talk k p q => cases h3
    | talkTo k p q => cases h3
    | late p =>
      refine ⟨fun _ _ => False, ?_, fun _ _ z => z.elim⟩
      refine ⟨_, rfl, l, _, rfl, .inl (SqL.of hl), rfl, _, rfl, iteT ?_⟩
      refine ⟨_, rfl, 1, rfl, 3, rfl, l, _, rfl, SqL.of hl, fun p1 n1 => ⟨by show 2 ≤ sizeLine; decide, fun p2 n2 => ?_⟩⟩
      obtain ⟨d1, d2, s1⟩ := two_lists (K := K) (xs := ["knew", "by"]) (zs := ["knew", "by"]) n1 n2
      refine ⟨_, _, d1, d2, shapedS _ (all_ok (by decide +kernel)), shapedS _ (all_ok (by decide +kernel)), _, rfl, ?_⟩
      rw [eqv_strs, decide_eq_true rfl]
      have hl1 := s1 _ _ hl
      refine iteT ⟨_, rfl, l, _, 0, _, rfl, rfl, SqL.of hl1, atI_nat (j := 0) rfl, _, rfl, l, _, 3, _, rfl, rfl, SqL.of hl1, atI_nat (j := 3) rfl, bigT, -1, rfl, hWbig, by show 3 ≤ sizeLine; decide, fun a na => ?_⟩
      exact q a _ (s1.trans (same_upd na)) upd_same
    | heard p k =>
      obtain ⟨_, hk⟩ := ok
      have oks : ([hT k] : List Str).all PyData.strOk = true := by
        simp only [List.all_cons, List.all_nil, okh k hk, Bool.and_self]
      refine ⟨fun σ' H' => σ' = [some (.ref l)] ∧ Same H H', ?_, ?_⟩
      · exact ⟨_, rfl, l, _, rfl, .inl (SqL.of hl), rfl, _, rfl, iteF (iteF ⟨rfl, Same.refl _⟩)⟩
      rintro σ' H' ⟨rfl, s0⟩
      have hl0 := s0 _ _ hl
      refine ⟨fun σ' H' => σ' = [some (.ref l)] ∧ Same H H', ?_, ?_⟩
      · refine ⟨_, rfl, 1, rfl, l, _, rfl, SqL.of hl0, fun p1 n1 => ⟨by show 3 ≤ sizeLine; decide, fun p2 n2 => ?_⟩⟩
        obtain ⟨d1, d2, s1⟩ := two_lists (K := K) (xs := ["heard", "nobody", "by", hT k]) (zs := ["heard", "nobody", "never"]) n1 n2
        refine ⟨_, _, d1, d2, shapedS _ (all_ok ?_), shapedS _ (all_ok (by decide +kernel)), _, rfl, ?_⟩
        · rw [show (["heard", "nobody", "by", hT k] : List Str) = (["heard", "nobody", "by"] : List Str) ++ [hT k] from rfl, List.all_append, oks]
          decide +kernel
        rw [eqv_strs, decide_eq_false fun z => by simpa using congrArg List.length z]
        exact iteF ⟨rfl, s0.trans s1⟩
      rintro σ' H' ⟨rfl, s0⟩
      have hl0 := s0 _ _ hl
      refine ⟨fun _ _ => False, ?_, fun _ _ z => z.elim⟩
      refine ⟨_, rfl, l, _, rfl, .inl (SqL.of hl0), rfl, _, rfl, iteT ?_⟩
      refine ⟨_, rfl, 1, rfl, 4, rfl, l, _, rfl, SqL.of hl0, fun p1 n1 => ⟨by show 3 ≤ sizeLine; decide, fun p2 n2 => ?_⟩⟩
      obtain ⟨d1, d2, s1⟩ := two_lists (K := K) (xs := ["heard", "nobody", "by"]) (zs := ["heard", "nobody", "by"]) n1 n2
      refine ⟨_, _, d1, d2, shapedS _ (all_ok (by decide +kernel)), shapedS _ (all_ok (by decide +kernel)), _, rfl, ?_⟩
      rw [eqv_strs, decide_eq_true rfl]
      have hl1 := s1 _ _ hl0
      refine iteT ⟨_, rfl, l, _, 0, _, rfl, rfl, SqL.of hl1, atI_nat (j := 0) rfl, _, rfl, l, _, 4, _, rfl, rfl, SqL.of hl1, atI_nat (j := 4) rfl, hT k, hZ k, rfl, hW k hk, by show 3 ≤ sizeLine; decide, fun a na => ?_⟩
      exact q a _ ((s0.trans s1).trans (same_upd na)) upd_same
    | silent p k =>
      obtain ⟨_, hk⟩ := ok
      have oks : ([hT k] : List Str).all PyData.strOk = true := by
        simp only [List.all_cons, List.all_nil, okh k hk, Bool.and_self]
      refine ⟨fun σ' H' => σ' = [some (.ref l)] ∧ Same H H', ?_, ?_⟩
      · exact ⟨_, rfl, l, _, rfl, .inl (SqL.of hl), rfl, _, rfl, iteF (iteF ⟨rfl, Same.refl _⟩)⟩
      rintro σ' H' ⟨rfl, s0⟩
      have hl0 := s0 _ _ hl
      refine ⟨fun σ' H' => σ' = [some (.ref l)] ∧ Same H H', ?_, ?_⟩
      · refine ⟨_, rfl, 1, rfl, l, _, rfl, SqL.of hl0, fun p1 n1 => ⟨by show 3 ≤ sizeLine; decide, fun p2 n2 => ?_⟩⟩
        obtain ⟨d1, d2, s1⟩ := two_lists (K := K) (xs := ["told", "nobody", "from", "0", "to", hT k]) (zs := ["heard", "nobody", "never"]) n1 n2
        refine ⟨_, _, d1, d2, shapedS _ (all_ok ?_), shapedS _ (all_ok (by decide +kernel)), _, rfl, ?_⟩
        · rw [show (["told", "nobody", "from", "0", "to", hT k] : List Str) = (["told", "nobody", "from", "0", "to"] : List Str) ++ [hT k] from rfl, List.all_append, oks]
          decide +kernel
        rw [eqv_strs, decide_eq_false fun z => by simpa using congrArg List.length z]
        exact iteF ⟨rfl, s0.trans s1⟩
      rintro σ' H' ⟨rfl, s0⟩
      have hl0 := s0 _ _ hl
      refine ⟨fun σ' H' => σ' = [some (.ref l)] ∧ Same H H', ?_, ?_⟩
      · exact ⟨_, rfl, l, _, rfl, .inl (SqL.of hl0), rfl, _, rfl, iteF (iteF ⟨rfl, s0⟩)⟩
      rintro σ' H' ⟨rfl, s0⟩
      have hl0 := s0 _ _ hl
      refine ⟨fun σ' H' => σ' = [some (.ref l)] ∧ Same H H', ?_, ?_⟩
      · exact ⟨_, rfl, l, _, rfl, .inl (SqL.of hl0), rfl, _, rfl, iteF (iteF ⟨rfl, s0⟩)⟩
      rintro σ' H' ⟨rfl, s0⟩
      have hl0 := s0 _ _ hl
      refine ⟨_, rfl, l, _, rfl, .inl (SqL.of hl0), rfl, _, rfl, iteT ?_⟩
      refine ⟨_, rfl, 1, rfl, 4, rfl, l, _, rfl, SqL.of hl0, fun p1 n1 => ⟨by show 3 ≤ sizeLine; decide, fun p2 n2 => ?_⟩⟩
      obtain ⟨d1, d2, s1⟩ := two_lists (K := K) (xs := ["told", "nobody", "from"]) (zs := ["told", "nobody", "from"]) n1 n2
      refine ⟨_, _, d1, d2, shapedS _ (all_ok (by decide +kernel)), shapedS _ (all_ok (by decide +kernel)), _, rfl, ?_⟩
      rw [eqv_strs, decide_eq_true rfl]
      have hl1 := s1 _ _ hl0
      refine iteT ⟨_, rfl, l, _, 5, _, rfl, rfl, SqL.of hl1, atI_nat (j := 5) rfl, rfl, _, rfl, ?_⟩
      rw [dS _ _ true (by decide +kernel)]
      refine iteT ⟨_, rfl, l, _, 0, _, rfl, rfl, SqL.of hl1, atI_nat (j := 0) rfl, _, rfl, l, _, 4, _, rfl, rfl, SqL.of hl1, atI_nat (j := 4) rfl, "0", 0, rfl, hW0, ?_⟩
      refine ⟨_, rfl, l, _, 6, _, rfl, rfl, SqL.of hl1, atI_nat (j := 6) rfl, hT k, hZ k, rfl, hW k hk, by show 4 ≤ sizeLine; decide, fun a na => ?_⟩
      exact q a _ ((s0.trans s1).trans (same_upd na)) upd_same
/-! ### talk_in -/
def Row.met : Row → List V
  | .talk k p q => [.int (hZ k), .str p, .str q, .str "both"]
  | .talkTo k p q => [.int (hZ k), .str p, .str q, .str "one"]
  | _ => []
def spTalkIn : Sp := fun vs H Q _ => ∃ (l : Addr) (r : Row) (ps : List Str), vs = [.ref l] ∧ H l = some (.lst (r.words.map V.str)) ∧ r.Ok ps ∧ r.kind = 2 ∧ ∀ a H', Same H H' → H' a = some (.tup r.met) → Q (.ref a) H'
theorem ok_talkin {f fH : Addr} {fd fdH : FuncData} (F : Fun K "talk_in" "talk_in" sTalkIn f fd) (G : Glo K mg aKept aKinds aMost)
    (GH : FnOk P w K mg base CX0 1 fH fdH ["word"] spHourIn) (kH : PySem.W.keepIn K (.ref fH) = true) (bH : Binds K fdH ["word"] []) (gH : mg "hour_in" = some (.ref fH)) :
    FnOk P w K mg base CX0 2 f fd ["words"] spTalkIn := by
  refine F.ok sc_talkin (fun vs H Q E h => ?_) (fun cdv A outer s H vs Q E hr h => ?_)
  · obtain ⟨l, r, ps, rfl, _⟩ := h
    rfl
  · obtain ⟨l, r, ps, rfl, hl, ok, h2, q⟩ := h
    refine ⟨_, pss_cons (ps_if (pt_cmpR op_eq (pe_callB call_len_seq rfl G.len PySem.boot_len (pa_cons (pv 0) pa_nil)) pe_int (nomark _))
        (pss_one (ps_ret (pe_tup (pa_cons (pe_call GH hr rfl gH kH bH .nil pass0 (pa_cons (pe_ix ix_list (pv 0) pe_int (fun _ _ => rfl)) pa_nil)) (pa_cons (pe_ix ix_list (pv 0) pe_int (fun _ _ => rfl)) (pa_cons (pe_ix ix_list (pv 0) pe_int (fun _ _ => rfl)) (pa_cons pe_str pa_nil))))))) pss_nil)
      (pss_cons (ps_if (PW.pt (pw_and (pt_cmpR op_eq (pe_callB call_len_seq rfl G.len PySem.boot_len (pa_cons (pv 0) pa_nil)) pe_int (nomark _)) (pw_and1 (pt_cmpR op_eq (pe_ix ix_list (pv 0) pe_int (fun _ _ => rfl)) pe_str (nomark _)))))
        (pss_one (ps_ret (pe_tup (pa_cons (pe_call GH hr rfl gH kH bH .nil pass0 (pa_cons (pe_ix ix_list (pv 0) pe_int (fun _ _ => rfl)) pa_nil)) (pa_cons (pe_ix ix_list (pv 0) pe_int (fun _ _ => rfl)) (pa_cons (pe_ix ix_list (pv 0) pe_int (fun _ _ => rfl)) (pa_cons pe_str pa_nil))))))) pss_nil)
      (pss_one (ps_ret pe_non))), ?_⟩
    cases r with
    | person n => cases h2
    | saw p k => cases h2
    | heard p k => cases h2
    | silent p k => cases h2
    | late p => cases h2
    | talk k p q' =>
      obtain ⟨_, _, _, hk⟩ := ok
      refine ⟨_, rfl, l, _, rfl, .inl (SqL.of hl), rfl, _, rfl, iteT ?_⟩
      refine ⟨_, rfl, l, _, 1, _, rfl, rfl, SqL.of hl, atI_nat (j := 1) rfl, hT k, hZ k, rfl, hW k hk, ?_⟩
      refine ⟨_, rfl, l, _, 2, _, rfl, rfl, SqL.of hl, atI_nat (j := 2) rfl, _, rfl, l, _, 3, _, rfl, rfl, SqL.of hl, atI_nat (j := 3) rfl, by show 4 ≤ sizeLine; decide, fun a na => ?_⟩
      exact q a _ (same_upd na) upd_same
    | talkTo k p q' =>
      obtain ⟨_, _, _, hk⟩ := ok
      refine ⟨_, rfl, l, _, rfl, .inl (SqL.of hl), rfl, _, rfl, iteF ?_⟩
      refine ⟨_, rfl, l, _, rfl, .inl (SqL.of hl), rfl, _, rfl, iteT ?_⟩
      refine ⟨_, rfl, l, _, 3, _, rfl, rfl, SqL.of hl, atI_nat (j := 3) rfl, rfl, _, rfl, ?_⟩
      rw [dS _ _ true (by decide +kernel)]
      refine iteT ⟨_, rfl, l, _, 1, _, rfl, rfl, SqL.of hl, atI_nat (j := 1) rfl, hT k, hZ k, rfl, hW k hk, ?_⟩
      refine ⟨_, rfl, l, _, 2, _, rfl, rfl, SqL.of hl, atI_nat (j := 2) rfl, _, rfl, l, _, 4, _, rfl, rfl, SqL.of hl, atI_nat (j := 4) rfl, by show 4 ≤ sizeLine; decide, fun a na => ?_⟩
      exact q a _ (same_upd na) upd_same
/-! ### told_by -/
def spTold : Sp := fun vs H Q _ => ∃ (l p : Addr) (r : Row) (ps : List Str), vs = [.ref l, .int (r.kind : Int), .ref p] ∧ H l = some (.lst (r.words.map V.str)) ∧ H p = some (.lst (ps.map V.str)) ∧ r.Ok ps ∧
  (∀ n, r = .person n → Q (.str n) H) ∧ (r.isLate = true → ∀ H', Same H H' → Q .non H') ∧ (r.kind ≠ 0 → r.isLate = false → ∀ v H', Same H H' → ItemOf r.kind ps H' v → (∃ a, v = .ref a) → Q v H')
theorem ok_told {f fN fH fS fT1 fT2 fY1 fY2 : Addr} {fd fdN fdH fdS fdT1 fdT2 fdY1 fdY2 : FuncData} (F : Fun K "told_by" "told_by" sTold f fd) (G : Glo K mg aKept aKinds aMost)
    (GN : FnOk P w K mg base CX0 1 fN fdN ["thing"] spName) (kN : PySem.W.keepIn K (.ref fN) = true) (bN : Binds K fdN ["thing"] []) (gN : mg "is_name" = some (.ref fN))
    (GH : FnOk P w K mg base CX0 1 fH fdH ["word"] spHourIn) (kH : PySem.W.keepIn K (.ref fH) = true) (bH : Binds K fdH ["word"] []) (gH : mg "hour_in" = some (.ref fH))
    (GS : FnOk P w K mg base CX0 3 fS fdS ["thing", "persons"] (spItem 1)) (kS : PySem.W.keepIn K (.ref fS) = true) (bS : Binds K fdS ["thing", "persons"] []) (gS : mg "is_sight" = some (.ref fS))
    (GT1 : FnOk P w K mg base CX0 2 fT1 fdT1 ["words"] spTalkIn) (kT1 : PySem.W.keepIn K (.ref fT1) = true) (bT1 : Binds K fdT1 ["words"] []) (gT1 : mg "talk_in" = some (.ref fT1))
    (GT2 : FnOk P w K mg base CX0 3 fT2 fdT2 ["thing", "persons"] (spItem 2)) (kT2 : PySem.W.keepIn K (.ref fT2) = true) (bT2 : Binds K fdT2 ["thing", "persons"] []) (gT2 : mg "is_talk" = some (.ref fT2))
    (GY1 : FnOk P w K mg base CX0 2 fY1 fdY1 ["words"] spSayingIn) (kY1 : PySem.W.keepIn K (.ref fY1) = true) (bY1 : Binds K fdY1 ["words"] []) (gY1 : mg "saying_in" = some (.ref fY1))
    (GY2 : FnOk P w K mg base CX0 3 fY2 fdY2 ["thing", "persons"] spSaying) (kY2 : PySem.W.keepIn K (.ref fY2) = true) (bY2 : Binds K fdY2 ["thing", "persons"] []) (gY2 : mg "is_saying" = some (.ref fY2)) :
    FnOk P w K mg base CX0 4 f fd ["words", "kind", "persons"] spTold := by
  refine F.ok sc_told (fun vs H Q E h => ?_) (fun cdv A outer s H vs Q E hr h => ?_)
  · obtain ⟨l, p, r, ps, rfl, _⟩ := h
    rfl
  · obtain ⟨l, p, r, ps, rfl, hl, hp, ok, q0, q1, q2⟩ := h
    have hr1 : Room 1 _ := hr.mono (by decide)
    have hr2 : Room 2 _ := hr.mono (by decide)
    refine ⟨_, pss_cons (ps_if (pt_cmpR op_eq (pv 1) pe_int (nomark _))
        (pss_cons (ps_if (PW.pt (pw_and (pt_cmpR op_eq (pe_callB call_len_seq rfl G.len PySem.boot_len (pa_cons (pv 0) pa_nil)) pe_int (nomark _))
          (pw_and (pt_val (pe_call GN hr1 rfl gN kN bN .nil pass0 (pa_cons (pe_ix ix_list (pv 0) pe_int (fun _ _ => rfl)) pa_nil)))
            (pw_and1 (pt_cmpR op_notIn_seq (pe_ix ix_list (pv 0) pe_int (fun _ _ => rfl)) (pv 2) rfl))))) (pss_one (ps_ret (pe_ix ix_list (pv 0) pe_int (fun _ _ => rfl)))) pss_nil) (pss_one (ps_ret pe_non))) pss_nil)
      (pss_cons (ps_if (pt_cmpR op_eq (pv 1) pe_int (nomark _))
        (pss_cons (ps_if (pt_cmpR op_lt (pe_callB call_len_seq rfl G.len PySem.boot_len (pa_cons (pv 0) pa_nil)) pe_int (nomark _)) (pss_one (ps_ret pe_non)) pss_nil)
        (pss_cons (ps_set (i := 3) sc_told.nd rfl (.inl rfl) (pe_tup (pa_cons (pe_ix ix_list (pv 0) pe_int (fun _ _ => rfl)) (pa_cons (pe_call GH hr1 rfl gH kH bH .nil pass0 (pa_cons (pe_ix ix_list (pv 0) pe_int (fun _ _ => rfl)) pa_nil))
          (pa_cons (pe_callTy call_tuple_of rfl G.ttuple b_tuple (pa_cons (pe_slice sl_list (pv 0) (po_some pe_int) po_none) pa_nil)) pa_nil)))))
        (pss_one (ps_ret (pe_ifExp (pt_val (pe_call GS hr rfl gS kS bS .nil pass0 (pa_cons (pv 3) (pa_cons (pv 2) pa_nil)))) (pv 3) pe_non))))) pss_nil)
      (pss_cons (ps_if (pt_cmpR op_eq (pv 1) pe_int (nomark _))
        (pss_cons (ps_set (i := 3) sc_told.nd rfl (.inl rfl) (pe_call GT1 hr2 rfl gT1 kT1 bT1 .nil pass0 (pa_cons (pv 0) pa_nil)))
        (pss_one (ps_ret (pe_ifExp (pt_val (pe_call GT2 hr rfl gT2 kT2 bT2 .nil pass0 (pa_cons (pv 3) (pa_cons (pv 2) pa_nil)))) (pv 3) pe_non)))) pss_nil)
      (pss_cons (ps_set (i := 3) sc_told.nd rfl (.inl rfl) (pe_call GY1 hr2 rfl gY1 kY1 bY1 .nil pass0 (pa_cons (pv 0) pa_nil)))
      (pss_one (ps_ret (pe_ifExp (pt_val (pe_call GY2 hr rfl gY2 kY2 bY2 .nil pass0 (pa_cons (pv 3) (pa_cons (pv 2) pa_nil)))) (pv 3) pe_non)))))), ?_⟩
    cases r with
    | person n =>
      obtain ⟨gn, hn⟩ := ok
      refine ⟨_, rfl, rfl, _, rfl, iteT ?_⟩
      refine ⟨_, rfl, l, _, rfl, .inl (SqL.of hl), rfl, _, rfl, iteT ?_⟩
      refine ⟨_, rfl, l, _, 1, _, rfl, rfl, SqL.of hl, atI_nat (j := 1) rfl, n, rfl, gn, _, rfl, iteT ?_⟩
      refine ⟨_, rfl, l, _, 1, _, rfl, rfl, SqL.of hl, atI_nat (j := 1) rfl, _, rfl, p, _, rfl, .inl (SqL.of hp), rfl, flat_strs' ps, _, rfl, ?_⟩
      rw [if_pos rfl, inV_strs, decide_eq_false hn]
      exact iteT ⟨_, rfl, l, _, 1, _, rfl, rfl, SqL.of hl, atI_nat (j := 1) rfl, q0 n rfl⟩
    | saw x k =>
      obtain ⟨hx, hk⟩ := ok
      refine ⟨_, rfl, rfl, _, rfl, iteF ?_⟩
      refine ⟨_, rfl, rfl, _, rfl, iteT ?_⟩
      refine ⟨_, rfl, l, _, rfl, .inl (SqL.of hl), _, _, rfl, rfl, _, rfl, iteF ?_⟩
      refine ⟨_, rfl, l, _, 1, _, rfl, rfl, SqL.of hl, atI_nat (j := 1) rfl, _, rfl, l, _, 2, _, rfl, rfl, SqL.of hl, atI_nat (j := 2) rfl, hT k, hZ k, rfl, hW k hk, ?_⟩
      refine ⟨_, rfl, 3, rfl, l, _, rfl, SqL.of hl, fun c nc => ⟨c, _, rfl, .inl ⟨SqL.of upd_same, fun t nt => ⟨by show 3 ≤ sizeLine; decide, fun a na => ?_⟩⟩⟩⟩
      have nta : t ≠ a := ne_of_none upd_same na
      have sm := ((same_upd (o := .lst (cutV (List.map V.str (Row.saw x k).words) (some 3) none)) nc).trans (same_upd (o := .tup (cutV (List.map V.str (Row.saw x k).words) (some 3) none)) nt)).trans (same_upd (o := .tup [V.str x, V.int (hZ k), V.ref t]) na)
      have it : ItemOf 1 ps (upd (upd (upd H c (.lst (cutV (List.map V.str (Row.saw x k).words) (some 3) none))) t (.tup (cutV (List.map V.str (Row.saw x k).words) (some 3) none))) a (.tup [V.str x, V.int (hZ k), V.ref t])) (.ref a) := ⟨a, t, x, hZ k, rfl, upd_same, (upd_ne nta).trans upd_same, hx, hOk hk⟩
      exact ⟨_, rfl, _, rfl, .ref a, p, ps, rfl, sm _ _ hp, it, fun H' s' => ⟨true, rfl, iteT ⟨_, rfl, q2 (fun z => by cases z) rfl _ H' (sm.trans s') (it.up (Tups.of s') fun _ z => z) ⟨a, rfl⟩⟩⟩⟩
    | talk k x y =>
      refine ⟨_, rfl, rfl, _, rfl, iteF ⟨_, rfl, rfl, _, rfl, iteF ⟨_, rfl, rfl, _, rfl, iteT ?_⟩⟩⟩
      refine ⟨_, rfl, l, _, ps, rfl, hl, ok, rfl, fun a H1 s1 ha => ?_⟩
      obtain ⟨hx, hy, hn, hk⟩ := ok
      have it : ItemOf 2 ps H1 (.ref a) := ⟨a, x, y, "both", hZ k, rfl, ha, hx, hy, hn, hOk hk, .inl rfl⟩
      exact ⟨_, rfl, _, rfl, .ref a, p, ps, rfl, s1 _ _ hp, it, fun H' s' => ⟨true, rfl, iteT ⟨_, rfl, q2 (fun z => by cases z) rfl _ H' (s1.trans s') (it.up (Tups.of s') fun _ z => z) ⟨a, rfl⟩⟩⟩⟩
    | talkTo k x y =>
      refine ⟨_, rfl, rfl, _, rfl, iteF ⟨_, rfl, rfl, _, rfl, iteF ⟨_, rfl, rfl, _, rfl, iteT ?_⟩⟩⟩
      refine ⟨_, rfl, l, _, ps, rfl, hl, ok, rfl, fun a H1 s1 ha => ?_⟩
      obtain ⟨hx, hy, hn, hk⟩ := ok
      have it : ItemOf 2 ps H1 (.ref a) := ⟨a, x, y, "one", hZ k, rfl, ha, hx, hy, hn, hOk hk, .inr rfl⟩
      exact ⟨_, rfl, _, rfl, .ref a, p, ps, rfl, s1 _ _ hp, it, fun H' s' => ⟨true, rfl, iteT ⟨_, rfl, q2 (fun z => by cases z) rfl _ H' (s1.trans s') (it.up (Tups.of s') fun _ z => z) ⟨a, rfl⟩⟩⟩⟩
    | heard x k =>
      refine ⟨_, rfl, rfl, _, rfl, iteF ⟨_, rfl, rfl, _, rfl, iteF ⟨_, rfl, rfl, _, rfl, iteF ?_⟩⟩⟩
      refine ⟨_, rfl, l, _, ps, rfl, hl, ok, rfl, fun a H1 s1 ha => ?_⟩
      obtain ⟨hx, hk⟩ := ok
      have it : ItemOf 3 ps H1 (.ref a) := ⟨a, x, hZ k, rfl, hx, hOk hk, .inl ha⟩
      exact ⟨_, rfl, _, rfl, .ref a, p, ps, rfl, s1 _ _ hp, .inl ⟨it, fun H' s' => ⟨true, rfl, iteT ⟨_, rfl, q2 (fun z => by cases z) rfl _ H' (s1.trans s') (it.up (Tups.of s') fun _ z => z) ⟨a, rfl⟩⟩⟩⟩⟩
    | silent x k =>
      refine ⟨_, rfl, rfl, _, rfl, iteF ⟨_, rfl, rfl, _, rfl, iteF ⟨_, rfl, rfl, _, rfl, iteF ?_⟩⟩⟩
      refine ⟨_, rfl, l, _, ps, rfl, hl, ok, rfl, fun a H1 s1 ha => ?_⟩
      obtain ⟨hx, hk⟩ := ok
      have it : ItemOf 3 ps H1 (.ref a) := ⟨a, x, hZ k, rfl, hx, hOk hk, .inr ha⟩
      exact ⟨_, rfl, _, rfl, .ref a, p, ps, rfl, s1 _ _ hp, .inl ⟨it, fun H' s' => ⟨true, rfl, iteT ⟨_, rfl, q2 (fun z => by cases z) rfl _ H' (s1.trans s') (it.up (Tups.of s') fun _ z => z) ⟨a, rfl⟩⟩⟩⟩⟩
    | late x =>
      refine ⟨_, rfl, rfl, _, rfl, iteF ⟨_, rfl, rfl, _, rfl, iteF ⟨_, rfl, rfl, _, rfl, iteF ?_⟩⟩⟩
      refine ⟨_, rfl, l, _, ps, rfl, hl, ok, rfl, fun a H1 s1 ha => ?_⟩
      exact ⟨_, rfl, _, rfl, .ref a, p, ps, rfl, s1 _ _ hp, .inr ⟨⟨a, x, rfl, ok, ha⟩, fun H' s' => ⟨false, rfl, iteF (q1 rfl H' (s1.trans s'))⟩⟩⟩
end
end Kn

/-! Kn5: NoRow, Book. -/
namespace Kn
open PySem PySem.Spec PyProof.Rows L2
section
variable {P : Program} {w : World} {K : PySem.W.Frag} {mg : Str → Option Value} {base : Heap} {aKept aKinds aMost : Addr}
/-! ### NoRow.__init__ -/
def spRowInit (K : PySem.W.Frag) : Sp := fun vs H Q _ => ∃ (a C : Addr) (i : Int), vs = [.ref a, .int i] ∧ OexC K C ∧ PySem.W.findIn K (.ref C) "row" = some none ∧ H a = some (exo a C none) ∧
  ∀ d, H d = none → d ≠ a → Q .non (upd (upd H d (exd d [("row", .int i)])) a (exo a C (some d)))
theorem ok_rowinit {f aB : Addr} {fd : FuncData} (F : Fun K "__init__" "NoRow.__init__" sRowInit f fd) (mB : mg "KnewError" = some (.ref aB)) (T : KnX.Base K aB) :
    FnOk P w K mg base CX0 1 f fd ["self", "row"] (spRowInit K) := by
  refine F.ok sc_rowinit (fun vs H Q E h => ?_) (fun cdv A outer s H vs Q E hr h => ?_)
  · obtain ⟨a, C, i, rfl, _⟩ := h
    rfl
  · obtain ⟨a, C, i, rfl, O, no, ha, q⟩ := h
    refine ⟨_, pss_cons (ps_expr (KnX.pe_base rfl mB T (pa_cons (pv 0) (pa_cons pe_str pa_nil)))) (pss_one (ps_ost (pv 0) (pv 1))), ?_⟩
    refine ⟨_, rfl, a, C, [.str "a row tells nothing"], rfl, by decide, O, ha, ?_⟩
    exact ⟨_, rfl, _, rfl, a, C, rfl, O, no, .inl ⟨ha, fun d hd ne => q d hd ne⟩⟩
/-! ### Book -/
def bookF (c0 c1 c2 c3 : Addr) : List (Str × V) := [("crew", .ref c0), ("views", .ref c1), ("meetings", .ref c2), ("claims", .ref c3)]
theorem put1 (c0 : Addr) : putF "crew" (.ref c0) [] = ([("crew", .ref c0)] : List (Str × V)) := rfl
theorem put2 (c0 c1 : Addr) : putF "views" (.ref c1) [("crew", .ref c0)] = ([("crew", .ref c0), ("views", .ref c1)] : List (Str × V)) := by
  rw [putF, if_neg (by decide +kernel)]
  rfl
theorem put3 (c0 c1 c2 : Addr) : putF "meetings" (.ref c2) [("crew", .ref c0), ("views", .ref c1)] = ([("crew", .ref c0), ("views", .ref c1), ("meetings", .ref c2)] : List (Str × V)) := by
  rw [putF, if_neg (by decide +kernel), putF, if_neg (by decide +kernel)]
  rfl
theorem put4 (c0 c1 c2 c3 : Addr) : putF "claims" (.ref c3) [("crew", .ref c0), ("views", .ref c1), ("meetings", .ref c2)] = bookF c0 c1 c2 c3 := by
  rw [putF, if_neg (by decide +kernel), putF, if_neg (by decide +kernel), putF, if_neg (by decide +kernel)]
  rfl
structure BookTxt (K : PySem.W.Frag) (C : Addr) : Prop where
  cl : Cls K C
  n0 : NoAttr K C "crew"
  n1 : NoAttr K C "views"
  n2 : NoAttr K C "meetings"
  n3 : NoAttr K C "claims"
/-- all but what stands at b is as it was -/
def SameBut (b : Addr) (H H' : Hp) : Prop := ∀ a o, a ≠ b → H a = some o → H' a = some o
def spBook (C : Addr) : Sp := fun vs H Q _ => ∃ (b p s t y dx : Addr) (ps : List Str) (xs ts ys : List V), vs = [.ref b, .ref p, .ref s, .ref t, .ref y] ∧ H b = some (.ins C dx []) ∧
  H p = some (.lst (ps.map V.str)) ∧ H s = some (.lst xs) ∧ H t = some (.lst ts) ∧ H y = some (.lst ys) ∧ 1 ≤ ps.length ∧ ps.length ≤ 24 ∧ xs.length ≤ 24 ∧ ts.length ≤ 120 ∧ ys.length ≤ 60 ∧
  (∀ z ∈ ps, Good z) ∧ ps.Nodup ∧ (∀ v ∈ xs, ItemOf 1 ps H v) ∧ (∀ v ∈ ts, ItemOf 2 ps H v) ∧ (∀ v ∈ ys, ItemOf 3 ps H v) ∧
  ∀ (H' : Hp) (c0 c1 c2 c3 : Addr), SameBut b H H' → H' b = some (.ins C dx (bookF c0 c1 c2 c3)) → H' c0 = some (.lst (ps.map V.str)) → H' c1 = some (.lst xs) → H' c2 = some (.lst ts) → H' c3 = some (.lst ys) → Q .non H'
theorem SameBut.put {b c : Addr} {H H' : Hp} {xs : List V} {o : HO} (s : SameBut b H H') (n : H' c = none) : SameBut b H (upd (upd H' c (.lst xs)) b o) := fun a u ne e => by
  rw [upd_ne ne, upd_ne (ne_of_none (s a u ne e) n)]
  exact s a u ne e
theorem kept_put {b c d : Addr} {H : Hp} {xs ys : List V} {o : HO} {C dx : Addr} {fs : List (Str × V)} (hb : H b = some (.ins C dx fs)) (n : H c = none) (e : H d = some (.lst ys)) : upd (upd H c (.lst xs)) b o d = some (.lst ys) := by
  rw [upd_ne (ne_of e hb fun z => by cases z), upd_ne (ne_of_none e n)]
  exact e
theorem ok_binit {f C fP fA fS fT fY : Addr} {fd fdP fdA : FuncData} (F : Fun K "__init__" "Book.__init__" (sBook 0) f fd) (G : Glo K mg aKept aKinds aMost) (T : BookTxt K C)
    (GP : FnOk P w K mg base CX0 2 fP fdP ["thing"] spPersons) (kP : PySem.W.keepIn K (.ref fP) = true) (bP : Binds K fdP ["thing"] []) (gP : mg "are_persons" = some (.ref fP))
    (GA1 : FnOk P w K mg base CX0 4 fA fdA ["thing", "most", "persons", "fits"] (spAll 1 fS)) (GA2 : FnOk P w K mg base CX0 4 fA fdA ["thing", "most", "persons", "fits"] (spAll 2 fT)) (GA3 : FnOk P w K mg base CX0 4 fA fdA ["thing", "most", "persons", "fits"] (spAll 3 fY))
    (kA : PySem.W.keepIn K (.ref fA) = true) (bA : Binds K fdA ["thing", "most", "persons", "fits"] []) (gA : mg "are_all" = some (.ref fA))
    (gS : mg "is_sight" = some (.ref fS)) (gT : mg "is_talk" = some (.ref fT)) (gY : mg "is_saying" = some (.ref fY)) :
    FnOk P w K mg base CX0 5 f fd ["self", "persons", "sights", "talks", "sayings"] (spBook C) := by
  refine F.ok sc_binit (fun vs H Q E h => ?_) (fun cdv A outer s H vs Q E hr h => ?_)
  · obtain ⟨b, p, s, t, y, dx, ps, xs, ts, ys, rfl, _⟩ := h
    rfl
  · obtain ⟨b, p, s, t, y, dx, ps, xs, ts, ys, rfl, hb, hp, hs, ht, hy, l1, l2, l3, l4, l5, hg, nd, ix, it, iy, q⟩ := h
    have hr2 : Room 2 _ := hr.mono (by decide)
    refine ⟨_, pss_cons (ps_if (pt_not (pt_val (pe_call GP hr2 rfl gP kP bP .nil pass0 (pa_cons (pv 1) pa_nil)))) (pss_one ps_never) pss_nil)
      (pss_cons (ps_if (pt_not (pt_val (pe_call GA1 hr rfl gA kA bA .nil pass0 (pa_cons (pv 2) (pa_cons (pe_gv G.mSights) (pa_cons (pv 1) (pa_cons (pe_glob (v := .ref fS) rfl gS rfl) pa_nil))))))) (pss_one ps_never) pss_nil)
      (pss_cons (ps_if (pt_not (pt_val (pe_call GA2 hr rfl gA kA bA .nil pass0 (pa_cons (pv 3) (pa_cons (pe_gv G.mTalks) (pa_cons (pv 1) (pa_cons (pe_glob (v := .ref fT) rfl gT rfl) pa_nil))))))) (pss_one ps_never) pss_nil)
      (pss_cons (ps_if (pt_not (pt_val (pe_call GA3 hr rfl gA kA bA .nil pass0 (pa_cons (pv 4) (pa_cons (pe_gv G.mSayings) (pa_cons (pv 1) (pa_cons (pe_glob (v := .ref fY) rfl gY rfl) pa_nil))))))) (pss_one ps_never) pss_nil)
      (C8.pss_cut (ps_fld (pv 0) (pe_callTy call_list_of rfl G.tlist b_list (pa_cons (pv 1) pa_nil)) rfl)
      (C8.pss_cut (ps_fld (pv 0) (pe_callTy call_list_of rfl G.tlist b_list (pa_cons (pv 2) pa_nil)) rfl)
      (C8.pss_cut (ps_fld (pv 0) (pe_callTy call_list_of rfl G.tlist b_list (pa_cons (pv 3) pa_nil)) rfl)
      (pss_one (ps_fld (pv 0) (pe_callTy call_list_of rfl G.tlist b_list (pa_cons (pv 4) pa_nil)) rfl)))))))), ?_⟩
    refine ⟨_, rfl, p, ps, rfl, hp, l1, l2, hg, nd, true, rfl, iteF ?_⟩
    refine ⟨_, rfl, _, rfl, s, p, 24, xs, ps, rfl, hs, by omega, hp, ix, fun H1 s1 => ⟨true, rfl, iteF ?_⟩⟩
    refine ⟨_, rfl, _, rfl, t, p, 120, ts, ps, rfl, s1 _ _ ht, by omega, s1 _ _ hp, fun v hv => (it v hv).up (Tups.of s1) fun _ z => z, fun H2 s2 => ⟨true, rfl, iteF ?_⟩⟩
    have s12 := s1.trans s2
    refine ⟨_, rfl, _, rfl, y, p, 60, ys, ps, rfl, s12 _ _ hy, by omega, s12 _ _ hp, fun v hv => (iy v hv).up (Tups.of s12) fun _ z => z, fun H3 s3 => ⟨true, rfl, iteF ?_⟩⟩
    have s0 : SameBut b H H3 := fun a o _ e => (s12.trans s3) a o e
    have hb3 : H3 b = some (.ins C dx []) := (s12.trans s3) _ _ hb
    have nb : ∀ {a : Addr} {zs : List V}, H a = some (.lst zs) → a ≠ b := fun {a zs} e => ne_of e hb fun z => by cases z
    refine ⟨fun σ' H' => ∃ c0, σ' = [some (.ref b), some (.ref p), some (.ref s), some (.ref t), some (.ref y)] ∧ SameBut b H H' ∧ H' b = some (.ins C dx [("crew", .ref c0)]) ∧ H' c0 = some (.lst (ps.map V.str)), ?_, ?_⟩
    · refine ⟨_, rfl, p, _, rfl, .inl (SqL.of (s0 _ _ (nb hp) hp)), fun c nc => ?_⟩
      have nbc : b ≠ c := ne_of_none hb3 nc
      refine ⟨_, rfl, b, C, dx, _, rfl, (upd_ne nbc).trans hb3, T.cl, T.n0, by show 0 < 1000; decide, c, rfl, s0.put nc, upd_same, ?_⟩
      rw [upd_ne (Ne.symm nbc), upd_same]
    rintro σ4 H4 ⟨c0, rfl, s4, hb4, e40⟩
    refine ⟨fun σ' H' => ∃ c1, σ' = [some (.ref b), some (.ref p), some (.ref s), some (.ref t), some (.ref y)] ∧ SameBut b H H' ∧ H' b = some (.ins C dx [("crew", .ref c0), ("views", .ref c1)]) ∧ H' c0 = some (.lst (ps.map V.str)) ∧ H' c1 = some (.lst xs), ?_, ?_⟩
    · refine ⟨_, rfl, s, _, rfl, .inl (SqL.of (s4 _ _ (nb hs) hs)), fun c nc => ?_⟩
      have nbc : b ≠ c := ne_of_none hb4 nc
      refine ⟨_, rfl, b, C, dx, _, rfl, (upd_ne nbc).trans hb4, T.cl, T.n1, by show 1 < 1000; decide, c, rfl, s4.put nc, by rw [upd_same, put2], kept_put hb4 nc e40, ?_⟩
      rw [upd_ne (Ne.symm nbc), upd_same]
    rintro σ5 H5 ⟨c1, rfl, s5, hb5, e50, e51⟩
    refine ⟨fun σ' H' => ∃ c2, σ' = [some (.ref b), some (.ref p), some (.ref s), some (.ref t), some (.ref y)] ∧ SameBut b H H' ∧ H' b = some (.ins C dx [("crew", .ref c0), ("views", .ref c1), ("meetings", .ref c2)]) ∧ H' c0 = some (.lst (ps.map V.str)) ∧ H' c1 = some (.lst xs) ∧ H' c2 = some (.lst ts), ?_, ?_⟩
    · refine ⟨_, rfl, t, _, rfl, .inl (SqL.of (s5 _ _ (nb ht) ht)), fun c nc => ?_⟩
      have nbc : b ≠ c := ne_of_none hb5 nc
      refine ⟨_, rfl, b, C, dx, _, rfl, (upd_ne nbc).trans hb5, T.cl, T.n2, by show 2 < 1000; decide, c, rfl, s5.put nc, by rw [upd_same, put3], kept_put hb5 nc e50, kept_put hb5 nc e51, ?_⟩
      rw [upd_ne (Ne.symm nbc), upd_same]
    rintro σ6 H6 ⟨c2, rfl, s6, hb6, e60, e61, e62⟩
    refine ⟨_, rfl, y, _, rfl, .inl (SqL.of (s6 _ _ (nb hy) hy)), fun c nc => ?_⟩
    have nbc : b ≠ c := ne_of_none hb6 nc
    refine ⟨_, rfl, b, C, dx, _, rfl, (upd_ne nbc).trans hb6, T.cl, T.n3, by show 3 < 1000; decide, ?_⟩
    exact q _ c0 c1 c2 c (s6.put nc) (by rw [upd_same, put4]) (kept_put hb6 nc e60) (kept_put hb6 nc e61) (kept_put hb6 nc e62) (by rw [upd_ne (Ne.symm nbc), upd_same])
/-! ### what a book tells -/
def spTell (C : Addr) (x : Str) : Sp := fun vs H Q _ => ∃ (b dx c : Addr) (fs : List (Str × V)) (xs : List V), vs = [.ref b] ∧ H b = some (.ins C dx fs) ∧ fs.lookup x = some (.ref c) ∧ H c = some (.lst xs) ∧ ∀ (l : Addr) (H' : Hp), Same H H' → H' l = some (.lst xs) → Q (.ref l) H'
theorem ok_tell1 {f C : Addr} {fd : FuncData} (F : Fun K "persons" "Book.persons" (sBook 1) f fd) (G : Glo K mg aKept aKinds aMost) (T : BookTxt K C) : FnOk P w K mg base CX0 1 f fd ["self"] (spTell C "crew") := by
  refine F.ok sc_b1 (fun vs H Q E h => ?_) (fun cdv A outer s H vs Q E hr h => ?_)
  · obtain ⟨b, dx, c, fs, xs, rfl, _⟩ := h
    rfl
  · obtain ⟨b, dx, c, fs, xs, rfl, hb, hf, hc, q⟩ := h
    refine ⟨_, pss_one (ps_ret (pe_callTy call_list_of rfl G.tlist b_list (pa_cons (pe_fld (pv 0) rfl) pa_nil))), ?_⟩
    exact ⟨_, rfl, b, C, dx, _, _, rfl, hb, T.cl, T.n0, hf, c, xs, rfl, .inl (SqL.of hc), fun l nl => q l _ (same_upd nl) upd_same⟩
theorem ok_tell2 {f C : Addr} {fd : FuncData} (F : Fun K "sights" "Book.sights" (sBook 2) f fd) (G : Glo K mg aKept aKinds aMost) (T : BookTxt K C) : FnOk P w K mg base CX0 1 f fd ["self"] (spTell C "views") := by
  refine F.ok sc_b2 (fun vs H Q E h => ?_) (fun cdv A outer s H vs Q E hr h => ?_)
  · obtain ⟨b, dx, c, fs, xs, rfl, _⟩ := h
    rfl
  · obtain ⟨b, dx, c, fs, xs, rfl, hb, hf, hc, q⟩ := h
    refine ⟨_, pss_one (ps_ret (pe_callTy call_list_of rfl G.tlist b_list (pa_cons (pe_fld (pv 0) rfl) pa_nil))), ?_⟩
    exact ⟨_, rfl, b, C, dx, _, _, rfl, hb, T.cl, T.n1, hf, c, xs, rfl, .inl (SqL.of hc), fun l nl => q l _ (same_upd nl) upd_same⟩
theorem ok_tell3 {f C : Addr} {fd : FuncData} (F : Fun K "talks" "Book.talks" (sBook 3) f fd) (G : Glo K mg aKept aKinds aMost) (T : BookTxt K C) : FnOk P w K mg base CX0 1 f fd ["self"] (spTell C "meetings") := by
  refine F.ok sc_b3 (fun vs H Q E h => ?_) (fun cdv A outer s H vs Q E hr h => ?_)
  · obtain ⟨b, dx, c, fs, xs, rfl, _⟩ := h
    rfl
  · obtain ⟨b, dx, c, fs, xs, rfl, hb, hf, hc, q⟩ := h
    refine ⟨_, pss_one (ps_ret (pe_callTy call_list_of rfl G.tlist b_list (pa_cons (pe_fld (pv 0) rfl) pa_nil))), ?_⟩
    exact ⟨_, rfl, b, C, dx, _, _, rfl, hb, T.cl, T.n2, hf, c, xs, rfl, .inl (SqL.of hc), fun l nl => q l _ (same_upd nl) upd_same⟩
theorem ok_tell4 {f C : Addr} {fd : FuncData} (F : Fun K "sayings" "Book.sayings" (sBook 4) f fd) (G : Glo K mg aKept aKinds aMost) (T : BookTxt K C) : FnOk P w K mg base CX0 1 f fd ["self"] (spTell C "claims") := by
  refine F.ok sc_b4 (fun vs H Q E h => ?_) (fun cdv A outer s H vs Q E hr h => ?_)
  · obtain ⟨b, dx, c, fs, xs, rfl, _⟩ := h
    rfl
  · obtain ⟨b, dx, c, fs, xs, rfl, hb, hf, hc, q⟩ := h
    refine ⟨_, pss_one (ps_ret (pe_callTy call_list_of rfl G.tlist b_list (pa_cons (pe_fld (pv 0) rfl) pa_nil))), ?_⟩
    exact ⟨_, rfl, b, C, dx, _, _, rfl, hb, T.cl, T.n3, hf, c, xs, rfl, .inl (SqL.of hc), fun l nl => q l _ (same_upd nl) upd_same⟩
end
end Kn

/-! Kn6: rows as texts; read_book. -/
namespace Kn
open PySem PySem.Spec PyProof.Rows L2
/-! ### rows as texts -/
def Row.text (r : Row) : Str := Txt.join " " r.words
/-- no sign of a row's words is a blank or below -/
def Row.Plain (r : Row) : Prop := ∀ u ∈ r.words, ∀ c ∈ u.cps.toList, 32 < c
theorem words_ne (r : Row) : r.words ≠ [] := by cases r <;> simp [Row.words]
theorem words_split {r : Row} (h : r.Plain) : Txt.split r.text " " = r.words :=
  TL.split_join (y := " ") (s := 32) (S := []) (by decide +kernel) (by decide +kernel) (words_ne r) fun u hu hm => absurd (h u hu 32 hm) (by decide)
theorem joinL_mem {S : List Nat} {c : Nat} : ∀ {ps : List (List Nat)}, c ∈ TL.joinL S ps → c ∈ S ∨ ∃ p ∈ ps, c ∈ p
  | [], h => by cases h
  | [p], h => .inr ⟨p, List.mem_cons_self, h⟩
  | p :: q :: r, h => by
    rcases List.mem_append.mp h with h | h
    · exact .inr ⟨p, List.mem_cons_self, h⟩
    rcases List.mem_append.mp h with h | h
    · exact .inl h
    · rcases joinL_mem (ps := q :: r) h with h | ⟨x, hx, h⟩
      · exact .inl h
      · exact .inr ⟨x, List.mem_cons_of_mem _ hx, h⟩
theorem text_sign {r : Row} (h : r.Plain) : ∀ c ∈ r.text.cps.toList, 32 ≤ c := fun c hc => by
  have e : r.text.cps.toList = TL.joinL (TL.tl " ") (r.words.map TL.tl) := by
    unfold Row.text
    rw [TL.join_eq]
    exact TL.tl_join _ _
  rw [e] at hc
  rcases joinL_mem hc with q | ⟨p, hp, q⟩
  · have : c ∈ [32] := by
      rw [show TL.tl " " = [32] by decide +kernel] at q
      exact q
    have : c = 32 := List.mem_singleton.mp this
    omega
  · obtain ⟨u, hu, rfl⟩ := List.mem_map.mp hp
    exact Nat.le_of_lt (h u hu c q)
theorem rows_split {rs : List Row} (hne : rs ≠ []) (h : ∀ r ∈ rs, r.Plain) : Txt.split (Txt.join "\n" (rs.map Row.text)) "\n" = rs.map Row.text :=
  TL.split_join (y := "\n") (s := 10) (S := []) (by decide +kernel) (by decide +kernel) (fun e => hne (List.map_eq_nil_iff.mp e)) fun u hu hm => by
    obtain ⟨r, hr, rfl⟩ := List.mem_map.mp hu
    exact absurd (text_sign (h r hr) 10 hm) (by decide)
/-! ### rows counted -/
def personsOf : List Row → List Str
  | [] => []
  | .person n :: r => n :: personsOf r
  | _ :: r => personsOf r
def isKind (k : Nat) (r : Row) : Bool := r.kind == k
def countOf (k : Nat) (rs : List Row) : Nat := (rs.filter (isKind k)).length
def lastOf (rs : List Row) : Nat := (rs.getLast?.map Row.kind).getD 0
def mostOf : Nat → Nat
  | 0 => 24
  | 1 => 24
  | 2 => 120
  | _ => 60
theorem personsOf_app : ∀ (as bs : List Row), personsOf (as ++ bs) = personsOf as ++ personsOf bs
  | [], bs => rfl
  | .person n :: r, bs => by
    show n :: personsOf (r ++ bs) = n :: (personsOf r ++ personsOf bs)
    rw [personsOf_app r bs]
  | .saw _ _ :: r, bs => personsOf_app r bs
  | .talk _ _ _ :: r, bs => personsOf_app r bs
  | .talkTo _ _ _ :: r, bs => personsOf_app r bs
  | .heard _ _ :: r, bs => personsOf_app r bs
  | .silent _ _ :: r, bs => personsOf_app r bs
  | .late _ :: r, bs => personsOf_app r bs
theorem countOf_app (k : Nat) (as bs : List Row) : countOf k (as ++ bs) = countOf k as + countOf k bs := by
  unfold countOf
  rw [List.filter_append, List.length_append]
theorem take_more {rs : List Row} {i : Nat} {r : Row} (h : rs[i]? = some r) : rs.take (i + 1) = rs.take i ++ [r] := by
  rw [List.take_add_one, h]
  rfl
theorem lastOf_more {rs : List Row} {i : Nat} {r : Row} (h : rs[i]? = some r) : lastOf (rs.take (i + 1)) = r.kind := by
  unfold lastOf
  rw [take_more h, List.getLast?_concat]
  rfl
theorem kind_lt (r : Row) : r.kind < 4 := by cases r <;> simp [Row.kind]
structure Fine (rs : List Row) (i : Nat) (r : Row) : Prop where
  ok : r.Ok (personsOf (rs.take i))
  up : lastOf (rs.take i) ≤ r.kind
  no : r.isLate = false
  few : countOf r.kind (rs.take i) < mostOf r.kind
/-- the row at which it ends: one of an hour too late, or one too many -/
structure Due (rs : List Row) (d : Nat) : Prop where
  ex : ∃ r, rs[d]? = some r ∧ r.Ok (personsOf (rs.take d)) ∧ (r.isLate = true ∨ countOf r.kind (rs.take d) = mostOf r.kind)
/-! ### read_book -/
def spRead (CB CN : Addr) : Sp := fun vs H Q E => ∃ (rs : List Row) (due : Option Nat), vs = [.str (Txt.join "\n" (rs.map Row.text))] ∧ rs ≠ [] ∧ (Txt.join "\n" (rs.map Row.text)).length ≤ 1000000 ∧ (∀ r ∈ rs, r.text.length ≤ 1000 ∧ r.Plain) ∧
  (∀ i r, rs[i]? = some r → (∀ d, due = some d → i < d) → Fine rs i r) ∧ (∀ d, due = some d → Due rs d) ∧ 1 ≤ (personsOf rs).length ∧
  (∀ d, due = some d → ∀ (e : Addr) (H' : Hp), Same H H' → H' e = some (.xd [("row", .int (d : Int))]) → E (.ref CN) (some e) H') ∧
  (due = none → ∀ (b dx c0 c1 c2 c3 : Addr) (x0 x1 x2 x3 : List V) (H' : Hp), Same H H' → H' b = some (.ins CB dx (bookF c0 c1 c2 c3)) → H' c0 = some (.lst x0) → H' c1 = some (.lst x1) → H' c2 = some (.lst x2) → H' c3 = some (.lst x3) →
    x0.length = countOf 0 rs → x1.length = countOf 1 rs → x2.length = countOf 2 rs → x3.length = countOf 3 rs → Q (.ref b) H')
/-- behind i rows -/
structure Rd (H : Hp) (S : Addr) (rs : List Row) (i : Nat) (F : Addr) (l : Nat → Addr) (C : Nat → List V) (H' : Hp) : Prop where
  same : Same H H'
  hS : H' S = some (.lst (rs.map fun r => V.str r.text))
  hF : H' F = some (.lst [.ref (l 0), .ref (l 1), .ref (l 2), .ref (l 3)])
  hl : ∀ k, k < 4 → H' (l k) = some (.lst (C k))
  c0 : C 0 = (personsOf (rs.take i)).map V.str
  len : ∀ k, k < 4 → (C k).length = countOf k (rs.take i)
  its : ∀ k, 1 ≤ k → k < 4 → ∀ v ∈ C k, ItemOf k (personsOf (rs.take i)) H' v
  nF : ∀ k, k < 4 → F ≠ l k
  nS : ∀ k, k < 4 → S ≠ l k
  nH : ∀ k, k < 4 → H (l k) = none
  inj : ∀ j k, j < 4 → k < 4 → j ≠ k → l j ≠ l k
  good : ∀ z ∈ personsOf (rs.take i), Good z
  nd : (personsOf (rs.take i)).Nodup
theorem Rd.up {H : Hp} {S : Addr} {rs : List Row} {i : Nat} {F : Addr} {l : Nat → Addr} {C : Nat → List V} {H1 H2 : Hp} (R : Rd H S rs i F l C H1) (s : Same H1 H2) : Rd H S rs i F l C H2 where
  same := R.same.trans s
  hS := s _ _ R.hS
  hF := s _ _ R.hF
  hl := fun k hk => s _ _ (R.hl k hk)
  c0 := R.c0
  len := R.len
  its := fun k h1 h4 v hv => (R.its k h1 h4 v hv).up (Tups.of s) fun _ z => z
  nF := R.nF
  nS := R.nS
  nH := R.nH
  inj := R.inj
  good := R.good
  nd := R.nd
/-- what a row that is fine gives -/
def Gives (r : Row) (ps : List Str) (H : Hp) (v : V) : Prop := (∃ n, r = .person n ∧ v = .str n) ∨ (r.kind ≠ 0 ∧ ItemOf r.kind ps H v ∧ ∃ a, v = .ref a)
theorem Gives.some {r : Row} {ps : List Str} {H : Hp} {v : V} (g : Gives r ps H v) : v ≠ .non := by
  rcases g with ⟨n, _, rfl⟩ | ⟨_, _, a, rfl⟩ <;> exact fun z => by cases z
theorem personsOf_one {r : Row} (h : r.kind ≠ 0) : personsOf [r] = [] := by
  cases r with
  | person n => exact absurd rfl h
  | _ => rfl
theorem Rd.next {H : Hp} {S : Addr} {rs : List Row} {i : Nat} {F : Addr} {l : Nat → Addr} {C : Nat → List V} {H1 : Hp} {r : Row} {v : V} (R : Rd H S rs i F l C H1) (hr : rs[i]? = some r) (ok : r.Ok (personsOf (rs.take i))) (g : Gives r (personsOf (rs.take i)) H1 v) :
    Rd H S rs (i + 1) F l (fun k => if k = r.kind then C k ++ [v] else C k) (upd H1 (l r.kind) (.lst (C r.kind ++ [v]))) := by
  have hk := kind_lt r
  have tp : Tups H1 (upd H1 (l r.kind) (.lst (C r.kind ++ [v]))) := Tups.put (R.hl _ hk)
  have sub : ∀ x ∈ personsOf (rs.take i), x ∈ personsOf (rs.take (i + 1)) := fun x hx => by
    rw [take_more hr, personsOf_app]
    exact List.mem_append_left _ hx
  refine ⟨fun b o e => ?_, ?_, ?_, fun k h4 => ?_, ?_, fun k h4 => ?_, fun k h1 h4 u hu => ?_, R.nF, R.nS, R.nH, R.inj, fun z hz => ?_, ?_⟩
  · rw [upd_ne (ne_of_none e (R.nH _ hk))]
    exact R.same b o e
  · rw [upd_ne (R.nS _ hk)]
    exact R.hS
  · rw [upd_ne (R.nF _ hk)]
    exact R.hF
  · show upd H1 (l r.kind) _ (l k) = some (.lst (if k = r.kind then C k ++ [v] else C k))
    by_cases e : k = r.kind
    · rw [if_pos e, e, upd_same]
    · rw [if_neg e, upd_ne (R.inj _ _ h4 hk e)]
      exact R.hl k h4
  · show (if 0 = r.kind then C 0 ++ [v] else C 0) = _
    rw [take_more hr, personsOf_app, List.map_append, ← R.c0]
    rcases g with ⟨n, rfl, rfl⟩ | ⟨h0, _⟩
    · rw [if_pos (show 0 = (Row.person n).kind from rfl)]
      rfl
    · rw [if_neg (Ne.symm h0), personsOf_one h0]
      exact (List.append_nil _).symm
  · show (if k = r.kind then C k ++ [v] else C k).length = _
    rw [take_more hr, countOf_app, ← R.len k h4]
    by_cases e : k = r.kind
    · rw [if_pos e, List.length_append]
      show _ + 1 = _ + ([r].filter (isKind k)).length
      rw [List.filter_cons_of_pos (show isKind k r = true from beq_iff_eq.mpr e.symm)]
      rfl
    · rw [if_neg e]
      show _ = _ + ([r].filter (isKind k)).length
      rw [List.filter_cons_of_neg (show ¬ isKind k r = true from fun z => e (beq_iff_eq.mp z).symm)]
      rfl
  · have hu' : u ∈ (if k = r.kind then C k ++ [v] else C k) := hu
    by_cases e : k = r.kind
    · rw [if_pos e] at hu'
      rcases List.mem_append.mp hu' with hu' | hu'
      · exact (R.its k h1 h4 u hu').up tp sub
      · obtain rfl := List.mem_singleton.mp hu'
        rcases g with ⟨n, rfl, _⟩ | ⟨_, it, _⟩
        · have e0 : k = 0 := e
          omega
        · rw [e]
          exact it.up tp sub
    · rw [if_neg e] at hu'
      exact (R.its k h1 h4 u hu').up tp sub
  · rw [take_more hr, personsOf_app] at hz
    rcases List.mem_append.mp hz with hz | hz
    · exact R.good z hz
    · cases r with
      | person n =>
        obtain rfl := List.mem_singleton.mp (show z ∈ [n] from hz)
        exact ok.1
      | _ => cases hz
  · rw [take_more hr, personsOf_app]
    cases r with
    | person n => exact List.nodup_append.mpr ⟨R.nd, (show ([n] : List Str).Nodup by simp), fun a ha b hb e => ok.2 (by rw [← List.mem_singleton.mp (show b ∈ [n] from hb), ← e]; exact ha)⟩
    | _ =>
      rw [personsOf_one (fun z => by cases z), List.append_nil]
      exact R.nd
/-- where the words of a row begin with one of the three, it tells the kind -/
theorem kind_word {r : Row} {ps : List Str} (ok : r.Ok ps) (hg : ∀ z ∈ ps, Good z) : ∃ u us, r.words = u :: us ∧ ((u ∈ kindWords ∧ kindWords[r.kind]? = some u ∧ ∀ m, m < r.kind → kindWords[m]? ≠ some u) ∨ (u ∉ kindWords ∧ r.kind = 3)) := by
  have nk : ∀ {p : Str}, p ∈ ps → p ∉ kindWords := fun {p} hp hm => (hg p hp).nk (by
    have e : ∀ u ∈ kindWords, u ∈ keptWords := by decide +kernel
    exact e p hm)
  cases r with
  | person n => exact ⟨_, _, rfl, .inl ⟨by decide +kernel, by show kindWords[0]? = _; decide +kernel, fun m hm => absurd (show m < 0 from hm) (Nat.not_lt_zero m)⟩⟩
  | saw p k => exact ⟨_, _, rfl, .inl ⟨by decide +kernel, by show kindWords[1]? = _; decide +kernel, fun m hm => by
      obtain rfl : m = 0 := by
        have : m < 1 := hm
        omega
      decide +kernel⟩⟩
  | talk k p q => exact ⟨_, _, rfl, .inl ⟨by decide +kernel, by show kindWords[2]? = _; decide +kernel, fun m hm => by
      have : m < 2 := hm
      rcases (show m = 0 ∨ m = 1 by omega) with rfl | rfl <;> decide +kernel⟩⟩
  | talkTo k p q => exact ⟨_, _, rfl, .inl ⟨by decide +kernel, by show kindWords[2]? = _; decide +kernel, fun m hm => by
      have : m < 2 := hm
      rcases (show m = 0 ∨ m = 1 by omega) with rfl | rfl <;> decide +kernel⟩⟩
  | heard p k => exact ⟨_, _, rfl, .inr ⟨nk ok.1, rfl⟩⟩
  | silent p k => exact ⟨_, _, rfl, .inr ⟨nk ok.1, rfl⟩⟩
  | late p => exact ⟨_, _, rfl, .inr ⟨nk ok, rfl⟩⟩
end Kn

/-! Kn7: read_book. -/
namespace Kn
open PySem PySem.Spec PyProof.Rows L2
/-- where NoRow stands, and its __init__ -/
structure RowTxt (K : PySem.W.Frag) (mg : Str → Option Value) (C fI : Addr) : Prop where
  mg : mg "NoRow" = some (.ref C)
  ox : OexC K C
  noR : PySem.W.findIn K (.ref C) "row" = some none
  iC : PySem.W.findIn K (.ref C) "__init__" = some (some (.ref fI))
  tI : PySem.W.typeIn K (.ref fI) = some (.type "function")
def mostV : List V := [.int 24, .int 24, .int 120, .int 60]
theorem most_at {k : Nat} (h : k < 4) : atI mostV ((k : Nat) : Int) = some (.int (mostOf k : Int)) := by
  rcases (show k = 0 ∨ k = 1 ∨ k = 2 ∨ k = 3 by omega) with rfl | rfl | rfl | rfl <;> exact atI_nat rfl
theorem four_at (l : Nat → Addr) {k : Nat} (h : k < 4) : atI [V.ref (l 0), V.ref (l 1), V.ref (l 2), V.ref (l 3)] ((k : Nat) : Int) = some (.ref (l k)) := by
  rcases (show k = 0 ∨ k = 1 ∨ k = 2 ∨ k = 3 by omega) with rfl | rfl | rfl | rfl <;> exact atI_nat rfl
section
variable {P : Program} {w : World} {K : PySem.W.Frag} {mg : Str → Option Value} {base : Heap} {aKept aKinds aMost : Addr}
theorem ok_read {f fT fI fB CB CN : Addr} {fd fdT fdI fdB : FuncData} (F : Fun K "read_book" "read_book" sRead f fd) (G : Glo K mg aKept aKinds aMost) (T : RowTxt K mg CN fI)
    (GI : FnOk P w K mg base CX0 1 fI fdI ["self", "row"] (spRowInit K)) (bI : Binds K fdI ["self", "row"] [])
    (GT : FnOk P w K mg base CX0 4 fT fdT ["words", "kind", "persons"] spTold) (kT : PySem.W.keepIn K (.ref fT) = true) (bT : Binds K fdT ["words", "kind", "persons"] []) (gT : mg "told_by" = some (.ref fT))
    (MB : Mk K CB fB) (GB : FnOk P w K mg base CX0 5 fB fdB ["self", "persons", "sights", "talks", "sayings"] (spBook CB)) (bB : Binds K fdB ["self", "persons", "sights", "talks", "sayings"] []) (gB : mg "Book" = some (.ref CB)) :
    FnOk P w K mg base (L2.CX P w) 7 f fd ["text"] (spRead CB CN) := by
  refine F.okX sc_read (fun vs H Q E h => ?_) (fun cdv A outer s H vs Q E hr h => ?_)
  · obtain ⟨rs, due, rfl, _⟩ := h
    rfl
  · obtain ⟨rs, due, rfl, hne, len, hp, fine, dued, one, hE, hQ⟩ := h
    have hr4 : Room 4 _ := hr.mono (by decide)
    have hr2 : Room 2 _ := hr.mono (by decide)
    generalize hz : Txt.join "\n" (rs.map Row.text) = z at len
    refine ⟨_, pss_cons (ps_if (pt_not (pt_val (pe_callB call_isi rfl G.isi b_isi (pa_cons (pv 0) (pa_cons (pe_bltn (v := .ty "str") rfl G.tstr b_str rfl) pa_nil))))) (pss_one ps_never) pss_nil)
      (pss_cons (ps_set (i := 1) sc_read.nd rfl (.inl rfl) (pe_lst (pa_cons (pe_lst pa_nil) (pa_cons (pe_lst pa_nil) (pa_cons (pe_lst pa_nil) (pa_cons (pe_lst pa_nil) pa_nil))))))
      (pss_cons (ps_set (i := 2) sc_read.nd rfl (.inl rfl) pe_int)
      (pss_cons (ps_for (passes_of rfl) rfl (pi_enum rfl G.enum (pa_cons (pe_split (pv 0) pe_str) pa_nil)) (pg_tup rfl (pgs_cons (pg_name (i := 3) sc_read.nd rfl (.inl rfl)) (pgs_cons (pg_name (i := 4) sc_read.nd rfl (.inl rfl)) pgs_nil)))
        (pss_cons (ps_set (i := 5) sc_read.nd rfl (.inl rfl) (pe_split (pv 4) pe_str))
        (pss_cons (ps_set (i := 6) sc_read.nd rfl (.inl rfl) (pe_callB call_len_seq rfl G.len PySem.boot_len (pa_cons (pe_gv G.kinds) pa_nil)))
        (C8.pss_cut (ps_if (pt_cmpR op_in_seq (pe_ix ix_list (pv 5) pe_int (fun _ _ => rfl)) (pe_gv G.kinds) rfl)
          (pss_one (ps_set (i := 6) sc_read.nd rfl (.inl rfl) (pe_bm PySem.F.plainAttrs_tuple PySem.F.slot_tuple_index PySem.F.type_tuple_index mt_tup_index (pe_gv G.kinds) (pa_cons (pe_ix ix_list (pv 5) pe_int (fun _ _ => rfl)) pa_nil)))) pss_nil)
        (C8.pss_cut (ps_set (i := 7) sc_read.nd rfl (.inl rfl) (pe_call GT hr4 rfl gT kT bT .nil pass0 (pa_cons (pv 5) (pa_cons (pv 6) (pa_cons (pe_ix ix_list (pv 1) pe_int (fun _ _ => rfl)) pa_nil)))))
        (pss_cons (ps_if (PW.pt (pw_or (pt_cmp (pc_isN (pv 7))) (pw_or (pt_cmpR op_lt (pv 6) (pv 2) (nomark _))
            (pw_or1 (pt_cmpR op_eq (pe_callB call_len_seq rfl G.len PySem.boot_len (pa_cons (pe_ix ix_list (pv 1) (pv 6) (fun _ _ => rfl)) pa_nil)) (pe_ix ix_tup (pe_gv G.most) (pv 6) (fun _ _ => rfl)) (nomark _))))))
          (pss_one (ps_raise rfl (takes_of rfl rfl rfl rfl) (pmk_oex T.ox T.iC T.tI GI hr2 bI .nil pass0 rfl T.mg (pa_cons (pv 3) pa_nil)))) pss_nil)
        (pss_cons (ps_expr (pe_bm PySem.F.plainAttrs_list PySem.F.slot_list_append PySem.F.type_list_append mt_append (pe_ix ix_list (pv 1) (pv 6) (fun _ _ => rfl)) (pa_cons (pv 7) pa_nil)))
        (pss_one (ps_set (i := 2) sc_read.nd rfl (.inl rfl) (pv 6))))))))))
      (pss_one (ps_ret (pe_make MB GB hr rfl gB bB .nil pass0 (pa_cons (pe_ix ix_list (pv 1) pe_int (fun _ _ => rfl)) (pa_cons (pe_ix ix_list (pv 1) pe_int (fun _ _ => rfl)) (pa_cons (pe_ix ix_list (pv 1) pe_int (fun _ _ => rfl)) (pa_cons (pe_ix ix_list (pv 1) pe_int (fun _ _ => rfl)) pa_nil)))))))))), ?_⟩
    refine ⟨_, rfl, _, _, _, _, true, rfl, .ty _, .base (.str _), kit_ty (by decide +kernel), true, rfl, iteF ?_⟩
    refine ⟨Nat.zero_le _, fun l0 n0 => ⟨Nat.zero_le _, fun l1 n1 => ⟨Nat.zero_le _, fun l2 n2 => ⟨Nat.zero_le _, fun l3 n3 => ⟨by show 4 ≤ sizeLine; decide, fun a nA => ?_⟩⟩⟩⟩⟩
    have sz : ∀ {n : Nat}, n ≤ 1000000 → n + 2 ≤ sizeLine := fun {n} h => by
      rw [sizeLine_eq]
      omega
    refine ⟨_, rfl, ⟨_, rfl⟩, _, _, rfl, rfl, by decide +kernel, sz len, fun S nS => ?_⟩
    have eS : (Txt.split z "\n").map V.str = rs.map fun r => V.str r.text := by
      rw [← hz, rows_split hne fun r hr => (hp r hr).2, List.map_map]
      rfl
    rw [eS]
    have s1 := same_upd (o := .lst []) n0
    have s2 := same_upd (o := .lst []) n1
    have s3 := same_upd (o := .lst []) n2
    have s4 := same_upd (o := .lst []) n3
    have s5 := same_upd (o := .lst [V.ref l0, V.ref l1, V.ref l2, V.ref l3]) nA
    have s6 := same_upd (o := .lst (rs.map fun r => V.str r.text)) nS
    have e0 : upd H l0 (.lst []) l0 = some (.lst []) := upd_same
    have e1 : upd (upd H l0 (.lst [])) l1 (.lst []) l1 = some (.lst []) := upd_same
    have e2 : upd (upd (upd H l0 (.lst [])) l1 (.lst [])) l2 (.lst []) l2 = some (.lst []) := upd_same
    have e3 : upd (upd (upd (upd H l0 (.lst [])) l1 (.lst [])) l2 (.lst [])) l3 (.lst []) l3 = some (.lst []) := upd_same
    have d01 := ne_of_none e0 n1
    have d02 := ne_of_none (s2 _ _ e0) n2
    have d03 := ne_of_none ((s2.trans s3) _ _ e0) n3
    have d12 := ne_of_none e1 n2
    have d13 := ne_of_none (s3 _ _ e1) n3
    have d23 := ne_of_none e2 n3
    have f0 := ((s2.trans s3).trans s4) _ _ e0
    have f1 := (s3.trans s4) _ _ e1
    have f2 := s4 _ _ e2
    let l : Nat → Addr := fun k => match k with
      | 0 => l0
      | 1 => l1
      | 2 => l2
      | _ => l3
    have fl : ∀ k, k < 4 → upd (upd (upd (upd H l0 (.lst [])) l1 (.lst [])) l2 (.lst [])) l3 (.lst []) (l k) = some (.lst []) := fun k h => by
      rcases (show k = 0 ∨ k = 1 ∨ k = 2 ∨ k = 3 by omega) with rfl | rfl | rfl | rfl
      · exact f0
      · exact f1
      · exact f2
      · exact e3
    have R0 : Rd H S rs 0 a l (fun _ => []) (upd (upd (upd (upd (upd (upd H l0 (.lst [])) l1 (.lst [])) l2 (.lst [])) l3 (.lst [])) a (.lst [V.ref l0, V.ref l1, V.ref l2, V.ref l3])) S (.lst (rs.map fun r => V.str r.text))) := {
      same := ((((s1.trans s2).trans s3).trans s4).trans s5).trans s6
      hS := upd_same
      hF := s6 _ _ upd_same
      hl := fun k h => (s5.trans s6) _ _ (fl k h)
      c0 := rfl
      len := fun k h => rfl
      its := fun k h1 h4 v hv => by cases hv
      nF := fun k h => (ne_of_none (fl k h) nA).symm
      nS := fun k h => (ne_of_none (s5 _ _ (fl k h)) nS).symm
      nH := fun k h => by
        rcases (show k = 0 ∨ k = 1 ∨ k = 2 ∨ k = 3 by omega) with rfl | rfl | rfl | rfl
        · exact n0
        · exact s1.free n1
        · exact (s1.trans s2).free n2
        · exact ((s1.trans s2).trans s3).free n3
      inj := fun j k hj hk ne => by
        rcases (show j = 0 ∨ j = 1 ∨ j = 2 ∨ j = 3 by omega) with rfl | rfl | rfl | rfl <;> rcases (show k = 0 ∨ k = 1 ∨ k = 2 ∨ k = 3 by omega) with rfl | rfl | rfl | rfl <;>
          first | exact absurd rfl ne | exact d01 | exact d02 | exact d03 | exact d12 | exact d13 | exact d23 | exact Ne.symm d01 | exact Ne.symm d02 | exact Ne.symm d03 | exact Ne.symm d12 | exact Ne.symm d13 | exact Ne.symm d23
      good := fun z hz => by cases hz
      nd := List.nodup_nil }
    refine ⟨S, _, rfl, SqL.of upd_same, for_it (walk_enum (xs := rs.map fun r => V.str r.text)) (fun i σ H' => ∃ (C : Nat → List V) (y3 y4 y5 y6 y7 : Option V),
      σ = [some (.str z), some (.ref a), some (.int (lastOf (rs.take i) : Int)), y3, y4, y5, y6, y7] ∧ Rd H S rs i a l C H' ∧ (∀ d, due = some d → i ≤ d) ∧ ∀ k, countOf k (rs.take i) ≤ mostOf k) ⟨_, none, none, none, none, none, rfl, R0, fun _ _ => Nat.zero_le _, fun _ => Nat.zero_le _⟩ (fun i σ H' _ hP => ?_) ?_ ?_⟩
    · obtain ⟨C, _, _, _, _, _, _, R, _⟩ := hP
      exact SqL.of R.hS
    · rintro i v σ H1 H2 hi ⟨C, y3, y4, y5, y6, y7, rfl, R, hd, cap⟩ ⟨t, x, y, rfl, nt, rfl, ex, ey⟩
      cases ex
      have ey2 : (rs.map fun r => V.str r.text)[i]? = some y := ey
      rw [List.getElem?_map] at ey2
      obtain ⟨r, er, rfl⟩ := Option.map_eq_some_iff.mp ey2
      have hrm := List.mem_of_getElem? er
      refine ⟨t, _, rfl, SqT.of upd_same, rfl, _, _, rfl, _, _, rfl, rfl, ?_⟩
      obtain ⟨lr, pr⟩ := hp r hrm
      refine ⟨_, rfl, ⟨_, rfl⟩, _, _, rfl, rfl, by decide +kernel, sz (by omega), fun W nW => ?_⟩
      have R1 := R.up (same_upd (o := .tup [.int ((i : Nat) : Int), .str r.text]) nt)
      rw [words_split pr]
      have R2 := R1.up (same_upd (o := .lst (r.words.map V.str)) nW)
      have hW : upd (upd H1 t (.tup [.int ((i : Nat) : Int), .str r.text])) W (.lst (r.words.map V.str)) W = some (.lst (r.words.map V.str)) := upd_same
      generalize upd (upd H1 t (.tup [.int ((i : Nat) : Int), .str r.text])) W (.lst (r.words.map V.str)) = H2 at hW R2
      have okr : r.Ok (personsOf (rs.take i)) := by
        by_cases hdi : due = some i
        · obtain ⟨r', er', ok', _⟩ := (dued i hdi).ex
          rw [er] at er'
          cases er'
          exact ok'
        · exact (fine i r er fun d e => Nat.lt_of_le_of_ne (hd d e) fun z => hdi (by rw [z]; exact e)).ok
      obtain ⟨u, us, ew, hk⟩ := kind_word okr R2.good
      have wk : (kindWords.map V.str).length = 3 := rfl
      refine ⟨aKinds, _, rfl, .inr (G.kindsT.sq _), fun σ' H' => σ' = [some (.str z), some (.ref a), some (.int (lastOf (rs.take i) : Int)), some (.int ((i : Nat) : Int)), some (.str r.text), some (.ref W), some (.int (r.kind : Int)), y7] ∧ H' = H2, ?_, ?_⟩
      · have w0 : (r.words.map V.str)[0]? = some (V.str u) := by
          rw [ew]
          rfl
        refine ⟨_, rfl, W, _, 0, _, rfl, rfl, SqL.of hW, atI_nat (j := 0) w0, aKinds, _, rfl, .inr (G.kindsT.sq _), rfl, by decide, _, rfl, ?_⟩
        rw [if_neg (show ¬ false = true by decide), inV_strs]
        rcases hk with ⟨hm, h1, h2⟩ | ⟨hm, h3⟩
        · rw [decide_eq_true hm]
          refine iteT ⟨.inr (.inl ⟨rfl, G.kindsD⟩), ?_⟩
          exact ⟨_, rfl, W, _, 0, _, rfl, rfl, SqL.of hW, atI_nat (j := 0) w0, aKinds, kindWords, u, r.kind, rfl, rfl, G.kindsT.sq _, h1, h2, rfl, rfl⟩
        · rw [decide_eq_false hm]
          refine iteF ⟨?_, rfl⟩
          rw [h3]
          rfl
      rintro σ' H' ⟨rfl, rfl⟩
      have hk4 := kind_lt r
      have hp0 : H' (l 0) = some (.lst ((personsOf (rs.take i)).map V.str)) := by
        rw [← R2.c0]
        exact R2.hl 0 (by decide)
      refine ⟨fun σ' H'' => ∃ v, σ' = [some (.str z), some (.ref a), some (.int (lastOf (rs.take i) : Int)), some (.int ((i : Nat) : Int)), some (.str r.text), some (.ref W), some (.int (r.kind : Int)), some v] ∧ Same H' H'' ∧
        (r.isLate = true → v = .non) ∧ (r.isLate = false → Gives r (personsOf (rs.take i)) H'' v), ?_, ?_⟩
      · refine ⟨_, rfl, _, rfl, _, rfl, a, _, 0, _, rfl, rfl, SqL.of R2.hF, atI_nat (j := 0) rfl, W, l 0, r, personsOf (rs.take i), rfl, hW, hp0, okr, fun n hn => ?_, fun lt H3 s3 => ?_, fun h0 lt v H3 s3 it ha => ?_⟩
        · exact ⟨_, rfl, Same.refl _, fun z => (by rw [hn] at z; cases z), fun _ => .inl ⟨n, hn, rfl⟩⟩
        · exact ⟨_, rfl, s3, fun _ => rfl, fun z => (by rw [lt] at z; cases z)⟩
        · exact ⟨_, rfl, s3, fun z => (by rw [lt] at z; cases z), fun _ => .inr ⟨h0, it, ha⟩⟩
      rintro σ' H3 ⟨v, rfl, s3, hv1, hv2⟩
      have R3 := R2.up s3
      have hlen := R3.hl _ hk4
      by_cases hdi : due = some i
      · -- it ends here
        have raise : tMkO CN (spRowInit K) [] (tCons (tVar 3) tNil) [some (.str z), some (.ref a), some (.int (lastOf (rs.take i) : Int)), some (.int ((i : Nat) : Int)), some (.str r.text), some (.ref W), some (.int (r.kind : Int)), some v] H3 (fun cls d H' => E cls d H') := by
          refine ⟨_, rfl, (show 1 ≤ 1000 by decide), fun e ne => ⟨e, CN, _, rfl, T.ox, T.noR, upd_same, fun d nd hde => ⟨rfl, d, [("row", .int ((i : Nat) : Int))], upd_same, ?_, ?_, ?_⟩⟩⟩
          · rw [upd_ne hde, upd_same]
          · rw [upd_ne hde] at nd
            exact nd
          · have nd0 : H3 d = none := by
              rw [upd_ne hde] at nd
              exact nd
            refine hE i hdi d _ (fun b o hb => ?_) upd_same
            have hb3 := R3.same b o hb
            have b1 := ne_of_none hb3 nd0
            have b2 := ne_of_none hb3 ne
            rw [upd_ne b1, del_ne b2, upd_ne b2, upd_ne b1, upd_ne b2]
            exact hb3
        obtain ⟨r', er', _, how⟩ := (dued i hdi).ex
        rw [er] at er'
        cases er'
        cases hlt : r.isLate with
        | true =>
          obtain rfl := hv1 hlt
          exact ⟨_, rfl, _, rfl, iteT (iteT raise)⟩
        | false =>
          have hcnt : countOf r.kind (rs.take i) = mostOf r.kind := by
            rcases how with z | z
            · rw [hlt] at z
              cases z
            · exact z
          refine ⟨_, rfl, _, rfl, ?_⟩
          rw [decide_eq_false (hv2 hlt).some]
          refine iteF ⟨_, rfl, _, rfl, _, _, rfl, rfl, _, rfl, ite2 (fun _ => iteT raise) (fun _ => ?_)⟩
          refine ⟨_, rfl, _, rfl, a, _, _, _, rfl, rfl, SqL.of R3.hF, four_at l hk4, _, _, rfl, .inl (SqL.of hlen), _, rfl, aMost, mostV, _, _, rfl, rfl, G.mostT.sq _, most_at hk4, rfl, _, rfl, ?_⟩
          rw [decide_eq_true (show V.int (((C r.kind).length : Nat) : Int) = V.int (mostOf r.kind : Int) by rw [R3.len _ hk4, hcnt])]
          exact iteT raise
      · have fi := fine i r er fun d e => Nat.lt_of_le_of_ne (hd d e) fun z => hdi (by rw [z]; exact e)
        have gv := hv2 fi.no
        refine ⟨_, rfl, _, rfl, ?_⟩
        rw [decide_eq_false gv.some]
        refine iteF ⟨_, rfl, _, rfl, _, _, rfl, rfl, _, rfl, ?_⟩
        rw [decide_eq_false (show ¬ ((r.kind : Nat) : Int) < (lastOf (rs.take i) : Int) by have := fi.up; omega)]
        refine iteF ⟨_, rfl, _, rfl, a, _, _, _, rfl, rfl, SqL.of R3.hF, four_at l hk4, _, _, rfl, .inl (SqL.of hlen), _, rfl, aMost, mostV, _, _, rfl, rfl, G.mostT.sq _, most_at hk4, rfl, _, rfl, ?_⟩
        rw [decide_eq_false (show ¬ V.int (((C r.kind).length : Nat) : Int) = V.int (mostOf r.kind : Int) from fun z => by
          have z2 := V.int.inj z
          have z3 := R3.len _ hk4
          have z4 := fi.few
          omega)]
        have small : (C r.kind).length < sizeLine := by
          have z3 := R3.len _ hk4
          have z4 := fi.few
          have z5 : mostOf r.kind ≤ 120 := by
            rcases (show r.kind = 0 ∨ r.kind = 1 ∨ r.kind = 2 ∨ r.kind = 3 by omega) with e | e | e | e <;> rw [e] <;> decide
          rw [sizeLine_eq]
          omega
        refine iteF ⟨_, rfl, _, rfl, a, _, _, _, rfl, rfl, SqL.of R3.hF, four_at l hk4, .inl ⟨rfl, _, SqL.of hlen⟩, _, rfl, l r.kind, _, _, rfl, rfl, hlen, small, ?_⟩
        refine ⟨_, rfl, _, some (.int ((i : Nat) : Int)), some (.str r.text), some (.ref W), some (.int (r.kind : Int)), some v, ?_, R3.next er okr gv, fun d e => Nat.lt_of_le_of_ne (hd d e) fun z => hdi (by rw [z]; exact e), fun k => ?_⟩
        · rw [lastOf_more er]
          rfl
        · rw [take_more er, countOf_app]
          by_cases ek : k = r.kind
          · have z4 := fi.few
            subst ek
            show _ + ([r].filter (isKind r.kind)).length ≤ _
            have z5 : ([r].filter (isKind r.kind)).length ≤ 1 := List.length_filter_le _ _
            omega
          · show _ + ([r].filter (isKind k)).length ≤ _
            rw [List.filter_cons_of_neg (show ¬ isKind k r = true from fun z => ek (beq_iff_eq.mp z).symm)]
            exact cap k
    · rintro σ H' ⟨C, y3, y4, y5, y6, y7, rfl, R, hd, cap⟩
      have en : (rs.map fun r => V.str r.text).length = rs.length := List.length_map _
      have dn : due = none := by
        cases hdu : due with
        | none => rfl
        | some d =>
          obtain ⟨r', er', _⟩ := (dued d hdu).ex
          have h1 := (List.getElem?_eq_some_iff.mp er').1
          have h2 := hd d hdu
          omega
      have et : rs.take (rs.map fun r => V.str r.text).length = rs := by rw [en, List.take_length]
      have hc0 := R.c0
      have lens := R.len
      have its := R.its
      have good := R.good
      have nd := R.nd
      rw [et] at hc0 lens its good nd cap
      refine ⟨_, rfl, a, _, 0, _, rfl, rfl, SqL.of R.hF, atI_nat (j := 0) rfl, _, rfl, a, _, 1, _, rfl, rfl, SqL.of R.hF, atI_nat (j := 1) rfl, _, rfl, a, _, 2, _, rfl, rfl, SqL.of R.hF, atI_nat (j := 2) rfl, _, rfl, a, _, 3, _, rfl, rfl, SqL.of R.hF, atI_nat (j := 3) rfl, fun x dx nx ndx nxd => ?_⟩
      have sm : Same H' (upd (upd H' dx (.own x)) x (.ins CB dx [])) := fun b o e => by
        rw [upd_ne (ne_of_none e nx), upd_ne (ne_of_none e ndx)]
        exact e
      have up : ∀ k, 1 ≤ k → k < 4 → ∀ v ∈ C k, ItemOf k (personsOf rs) (upd (upd H' dx (.own x)) x (.ins CB dx [])) v := fun k h1 h4 v hv => (its k h1 h4 v hv).up (Tups.of sm) fun _ z => z
      have l0 := lens 0 (by decide)
      have l1 := lens 1 (by decide)
      have l2 := lens 2 (by decide)
      have l3 := lens 3 (by decide)
      have lp : (personsOf rs).length = countOf 0 rs := by rw [← l0, hc0, List.length_map]
      have m0 : countOf 0 rs ≤ 24 := cap 0
      have m1 : countOf 1 rs ≤ 24 := cap 1
      have m2 : countOf 2 rs ≤ 120 := cap 2
      have m3 : countOf 3 rs ≤ 60 := cap 3
      refine ⟨x, l 0, l 1, l 2, l 3, dx, personsOf rs, C 1, C 2, C 3, rfl, upd_same, ?_, sm _ _ (R.hl 1 (by decide)), sm _ _ (R.hl 2 (by decide)), sm _ _ (R.hl 3 (by decide)), one, by omega, by omega, by omega, by omega, good, nd, up 1 (by decide) (by decide), up 2 (by decide) (by decide), up 3 (by decide) (by decide), fun H3 c0 c1 c2 c3 sb hb h0 h1 h2 h3 => ⟨rfl, ?_⟩⟩
      · rw [← hc0]
        exact sm _ _ (R.hl 0 (by decide))
      · refine hQ dn x dx c0 c1 c2 c3 _ _ _ _ H3 (fun b o e => ?_) hb h0 h1 h2 h3 (by rw [List.length_map, lp]) l1 l2 l3
        have e2 := R.same b o e
        exact sb b o (ne_of_none e2 nx) (sm b o e2)
end
end Kn

/-! Kn8: the law's names. -/
namespace Kn
open PySem PySem.Spec PyProof.Rows L2
/-! ### names, in plain Lean -/
abbrev S (l : List Nat) : Str := ⟨l.toArray⟩
theorem S_tl (l : List Nat) : (S l).cps.toList = l := rfl
theorem S_len (l : List Nat) : (S l).length = l.length := by simp [S, Str.length]
theorem S_inj {a b : List Nat} (h : S a = S b) : a = b := congrArg (fun x : Str => x.cps.toList) h
theorem S_cat (a b : List Nat) : S a ++ S b = S (a ++ b) := TL.ext_tl (TL.tl_append (S a) (S b))
def lawLetters : Str := "bcdfghijklmnpqrstuvwxz"
def lettersL : List Nat := [98, 99, 100, 102, 103, 104, 105, 106, 107, 108, 109, 110, 112, 113, 114, 115, 116, 117, 118, 119, 120, 122]
theorem lettersL_eq : lawLetters.cps.toList = lettersL := by decide +kernel
def lt (j : Nat) : Nat := lettersL.getD j 0
theorem lt_at {j : Nat} (h : j < 22) : lettersL[j]? = some (lt j) := by
  have h2 : j < lettersL.length := h
  unfold lt
  rw [List.getD_eq_getElem?_getD, List.getElem?_eq_getElem h2]
  rfl
theorem lt_mem {j : Nat} (h : j < 22) : lt j ∈ lettersL := List.mem_of_getElem? (lt_at h)
theorem lt_inj {i j : Nat} (hi : i < 22) (hj : j < 22) (h : lt i = lt j) : i = j := by
  have nd : lettersL.Nodup := by decide
  have h1 := lt_at hi
  rw [h] at h1
  exact nd_ix nd h1 (lt_at hj)
theorem let_at {i : Int} (h0 : 0 ≤ i) (h1 : i < 22) : atI lawLetters.cps.toList i = some (lt i.toNat) := by
  rw [lettersL_eq]
  have e : i = ((i.toNat : Nat) : Int) := (Int.toNat_of_nonneg h0).symm
  rw [e]
  exact atI_nat (lt_at (by omega))
theorem good_of {l : List Nat} (h1 : 1 ≤ l.length) (h2 : l.length ≤ 12) (hl : ∀ c ∈ l, c ∈ lettersL) : Good (S l) := by
  refine ⟨by rw [S_len]; exact h1, by rw [S_len]; exact h2, fun c hc => ?_, fun hm => ?_⟩
  · have e : ∀ c ∈ lettersL, 97 ≤ c ∧ c ≤ 122 := by decide
    exact e c (hl c hc)
  · have e : ∀ u ∈ keptWords, ∃ c ∈ u.cps.toList, c ∉ lettersL := by decide +kernel
    obtain ⟨c, hc, hn⟩ := e _ hm
    exact hn (hl c hc)
/-- the k-th name: a letter put into the stem -/
def nm (stem : List Nat) (at_ : Nat) (c : Nat → Nat) (k : Nat) : List Nat := stem.take at_ ++ [c k] ++ stem.drop at_
def nms (stem : List Nat) (at_ : Nat) (c : Nat → Nat) (d n : Nat) : List Str := (List.range n).flatMap fun k => [S (nm stem at_ c k), S (nm stem at_ c k ++ [d])]
theorem nms_more (stem : List Nat) (at_ : Nat) (c : Nat → Nat) (d n : Nat) : nms stem at_ c d (n + 1) = nms stem at_ c d n ++ [S (nm stem at_ c n), S (nm stem at_ c n ++ [d])] := by
  unfold nms
  rw [List.range_succ, List.flatMap_append]
  rfl
theorem nms_len (stem : List Nat) (at_ : Nat) (c : Nat → Nat) (d : Nat) : ∀ n, (nms stem at_ c d n).length = 2 * n
  | 0 => rfl
  | n + 1 => by
    rw [nms_more, List.length_append, nms_len stem at_ c d n]
    show 2 * n + 2 = 2 * (n + 1)
    omega
def cwS : Str := S (List.replicate 11 99 ++ [119])
def cxS : Str := S (List.replicate 11 99 ++ [120])
section
variable {stem : List Nat} {at_ d : Nat} {c : Nat → Nat}
theorem nm_len (hat : at_ ≤ stem.length) (k : Nat) : (nm stem at_ c k).length = stem.length + 1 := by
  unfold nm
  rw [List.length_append, List.length_append, List.length_take, List.length_drop]
  show min at_ stem.length + 1 + _ = _
  omega
theorem nm_mem {k x : Nat} (h : x ∈ nm stem at_ c k) : x ∈ stem ∨ x = c k := by
  unfold nm at h
  rcases List.mem_append.mp h with h | h
  · rcases List.mem_append.mp h with h | h
    · exact .inl (List.mem_of_mem_take h)
    · exact .inr (List.mem_singleton.mp h)
  · exact .inl (List.mem_of_mem_drop h)
theorem mem_nm {k x : Nat} (h : x ∈ stem) : x ∈ nm stem at_ c k := by
  unfold nm
  rw [← List.take_append_drop at_ stem] at h
  rcases List.mem_append.mp h with h | h
  · exact List.mem_append_left _ (List.mem_append_left _ h)
  · exact List.mem_append_right _ h
theorem nm_inj {j k : Nat} (h : nm stem at_ c j = nm stem at_ c k) : c j = c k := by
  unfold nm at h
  rw [List.append_assoc, List.append_assoc] at h
  have h2 := List.append_cancel_left h
  exact List.head_eq_of_cons_eq h2
theorem names_good (hm : stem.length ≤ 10) (hs : ∀ x ∈ stem, x ∈ lettersL) (hat : at_ ≤ stem.length) (hc : ∀ k, k < 12 → c k ∈ lettersL) (hd : d ∈ lettersL) : ∀ z ∈ nms stem at_ c d 12, Good z := fun z hz => by
  obtain ⟨k, hk, hz⟩ := List.mem_flatMap.mp hz
  have hk12 := List.mem_range.mp hk
  have l := nm_len (c := c) hat k
  have le : ∀ x ∈ nm stem at_ c k, x ∈ lettersL := fun x hx => by
    rcases nm_mem hx with h | h
    · exact hs x h
    · rw [h]
      exact hc k hk12
  rcases List.mem_cons.mp hz with rfl | hz
  · exact good_of (by omega) (by omega) le
  · obtain rfl := List.mem_singleton.mp hz
    refine good_of (by rw [List.length_append]; show 1 ≤ _ + 1; omega) (by rw [List.length_append]; show _ + 1 ≤ 12; omega) fun x hx => ?_
    rcases List.mem_append.mp hx with h | h
    · exact le x h
    · rw [List.mem_singleton.mp h]
      exact hd
theorem names_nd (hm : stem.length ≤ 10) (h01 : ∀ x y, stem[0]? = some x → stem[1]? = some y → x ≠ y) (hat : at_ ≤ stem.length) (inj : ∀ j k, j < 12 → k < 12 → c j = c k → j = k) : (nms stem at_ c d 12 ++ [cwS, cxS]).Nodup := by
  have len : ∀ k, (nm stem at_ c k).length = stem.length + 1 := nm_len hat
  have unlike : ∀ {a b : List Nat}, a.length ≠ b.length → S a ≠ S b := fun h e => h (by rw [S_inj e])
  have nd : (nms stem at_ c d 12).Nodup := by
    unfold nms
    refine List.pairwise_flatMap.mpr ⟨fun k _ => ?_, ?_⟩
    · refine List.nodup_cons.mpr ⟨fun hm => ?_, by simp⟩
      refine unlike ?_ (List.mem_singleton.mp hm)
      rw [List.length_append]
      show _ ≠ _ + 1
      omega
    · refine List.Pairwise.imp_of_mem (R := (· < ·)) ?_ List.pairwise_lt_range
      intro i j hi hj hij x hx y hy
      have hi := List.mem_range.mp hi
      have hj := List.mem_range.mp hj
      have ne : c i ≠ c j := fun e => Nat.ne_of_lt hij (inj i j hi hj e)
      rcases List.mem_cons.mp hx with rfl | hx
      · rcases List.mem_cons.mp hy with rfl | hy
        · exact fun e => ne (nm_inj (S_inj e))
        · obtain rfl := List.mem_singleton.mp hy
          refine unlike ?_
          rw [List.length_append, len, len]
          show _ ≠ _ + 1
          omega
      · obtain rfl := List.mem_singleton.mp hx
        rcases List.mem_cons.mp hy with rfl | hy
        · refine unlike ?_
          rw [List.length_append, len, len]
          show _ + 1 ≠ _
          omega
        · obtain rfl := List.mem_singleton.mp hy
          exact fun e => ne (nm_inj (List.append_cancel_right (S_inj e)))
  have far : ∀ (e : Nat) (z : Str), z ∈ nms stem at_ c d 12 → z ≠ S (List.replicate 11 99 ++ [e]) := fun e z hz => by
    obtain ⟨k, _, hz⟩ := List.mem_flatMap.mp hz
    rcases List.mem_cons.mp hz with rfl | hz
    · refine unlike ?_
      rw [len, List.length_append, List.length_replicate]
      show _ ≠ 11 + 1
      omega
    · obtain rfl := List.mem_singleton.mp hz
      intro h
      have h2 := S_inj h
      have h3 := List.append_inj_left' h2 rfl
      have hl : stem.length = 10 := by
        have := congrArg List.length h3
        rw [len, List.length_replicate] at this
        omega
      have all : ∀ x ∈ stem, x = 99 := fun x hx => by
        have := mem_nm (at_ := at_) (c := c) (k := k) hx
        rw [h3] at this
        exact List.eq_of_mem_replicate this
      have g0 : stem[0]? = some (stem[0]'(by omega)) := List.getElem?_eq_getElem _
      have g1 : stem[1]? = some (stem[1]'(by omega)) := List.getElem?_eq_getElem _
      refine h01 _ _ g0 g1 ?_
      rw [all _ (List.mem_of_getElem? g0), all _ (List.mem_of_getElem? g1)]
  refine List.nodup_append.mpr ⟨nd, by decide +kernel, fun a ha b hb => ?_⟩
  rcases List.mem_cons.mp hb with rfl | hb
  · exact far 119 a ha
  · obtain rfl := List.mem_singleton.mp hb
    exact far 120 a ha
end
end Kn

/-! Kn9: _law_names. -/
namespace Kn
open PySem PySem.Spec PyProof.Rows L2
def stemC (N : Int) (k : Nat) : Nat := lt ((N / 11 + 5 * (0 + (k : Int)) * (0 + (k : Int))) % 22).toNat
def stemOf (N : Int) (m : Nat) : List Nat := (List.range m).map (stemC N)
def cOf (N : Int) (k : Nat) : Nat := lt ((N / 7 + 3 * (0 + (k : Int))) % 22).toNat
def dOf (N : Int) : Nat := lt (N / 13 % 22).toNat
theorem m22 (i : Int) : 0 ≤ i % 22 ∧ i % 22 < 22 ∧ (i % 22).toNat < 22 := by omega
theorem stem_more (N : Int) (m : Nat) : stemOf N (m + 1) = stemOf N m ++ [stemC N m] := by
  unfold stemOf
  rw [List.range_succ, List.map_append]
  rfl
theorem stem_len (N : Int) (m : Nat) : (stemOf N m).length = m := by
  unfold stemOf
  rw [List.length_map, List.length_range]
theorem stem_let (N : Int) (m : Nat) : ∀ x ∈ stemOf N m, x ∈ lettersL := fun x hx => by
  obtain ⟨k, _, rfl⟩ := List.mem_map.mp hx
  exact lt_mem (m22 _).2.2
theorem stem_01 (N : Int) (m : Nat) : ∀ x y, (stemOf N m)[0]? = some x → (stemOf N m)[1]? = some y → x ≠ y := fun x y hx hy e => by
  unfold stemOf at hx hy
  rw [List.getElem?_map] at hx hy
  obtain ⟨i, hi, rfl⟩ := Option.map_eq_some_iff.mp hx
  obtain ⟨j, hj, rfl⟩ := Option.map_eq_some_iff.mp hy
  obtain ⟨h1, rfl⟩ := List.getElem?_eq_some_iff.mp hi
  obtain ⟨h2, rfl⟩ := List.getElem?_eq_some_iff.mp hj
  rw [List.getElem_range, List.getElem_range] at e
  have h := lt_inj (m22 _).2.2 (m22 _).2.2 e
  omega
theorem c_let (N : Int) : ∀ k, k < 12 → cOf N k ∈ lettersL := fun k _ => lt_mem (m22 _).2.2
theorem c_inj (N : Int) : ∀ j k, j < 12 → k < 12 → cOf N j = cOf N k → j = k := fun j k hj hk e => by
  have h := lt_inj (m22 _).2.2 (m22 _).2.2 e
  omega
theorem d_let (N : Int) : dOf N ∈ lettersL := lt_mem (m22 _).2.2
/-! ### texts joined, cut -/
theorem joinL_nil : ∀ ps : List (List Nat), TL.joinL [] ps = ps.flatten
  | [] => rfl
  | [p] => by simp [TL.joinL]
  | p :: q :: r => by
    show p ++ ([] ++ TL.joinL [] (q :: r)) = p ++ (q :: r).flatten
    rw [joinL_nil (q :: r), List.nil_append]
theorem join_signs (l : List Nat) : Txt.join "" (l.map fun c => S [c]) = S l := by
  refine TL.ext_tl ?_
  rw [TL.join_eq, TL.tl_join, List.map_map, show TL.tl "" = [] by decide +kernel, joinL_nil]
  show (l.map fun c => [c]).flatten = l
  induction l with
  | nil => rfl
  | cons c l ih => rw [List.map_cons, List.flatten_cons, ih]; rfl
theorem sum_signs (l : List Nat) : ((l.map fun c => S [c]).map (·.length)).sum = l.length := by
  rw [List.map_map]
  induction l with
  | nil => rfl
  | cons c l ih =>
    rw [List.map_cons, List.sum_cons, ih, List.length_cons]
    show 1 + l.length = _
    omega
theorem cut_take {l : List Nat} {a : Nat} (h : a ≤ l.length) : cutS (S l) none (some (a : Int)) = S (l.take a) := by
  unfold cutS
  rw [HT.sIx_none, HT.sIx_nat, S_len, Nat.min_eq_left h]
  rfl
theorem cut_drop {l : List Nat} {a : Nat} (h : a ≤ l.length) : cutS (S l) (some (a : Int)) none = S (l.drop a) := by
  unfold cutS
  rw [HT.sIx_none, HT.sIx_nat, S_len, Nat.min_eq_left h]
  show S ((l.drop a).take (l.length - a)) = _
  rw [List.take_of_length_le (by rw [List.length_drop]; exact Nat.le_refl _)]
section
variable {P : Program} {w : World} {K : PySem.W.Frag} {mg : Str → Option Value} {base : Heap} {aKept aKinds aMost : Addr}
def spNames : Sp := fun vs H Q _ => ∃ cell : Int, vs = [.int cell] ∧ ∀ (p : Addr) (H' : Hp) (ns : List Str), Same H H' → H' p = some (.lst (ns.map V.str)) → ns.length = 24 → (∀ z ∈ ns, Good z) → (ns ++ [cwS, cxS]).Nodup → Q (.ref p) H'
theorem ok_names {f : Addr} {fd : FuncData} (F : Fun K "_law_names" "_law_names" sNames f fd) (G : Glo K mg aKept aKinds aMost) : FnOk P w K mg base CX0 1 f fd ["_law_cell"] spNames := by
  refine F.ok sc_names (fun vs H Q E h => ?_) (fun cdv A outer s H vs Q E hr h => ?_)
  · obtain ⟨cell, rfl, _⟩ := h
    rfl
  · obtain ⟨cell, rfl, q⟩ := h
    refine ⟨_, pss_cons (ps_set (i := 1) sc_names.nd rfl (.inr rfl) pe_str)
      (C8.pss_cut (ps_set (i := 2) sc_names.nd rfl (.inr rfl) (pe_op op_mod (pe_op op_mul (pe_op op_add (pe_op op_mod (pv 0) (pe_op op_pow pe_int pe_int)) pe_int) pe_int) pe_int))
      (C8.pss_cut (ps_set (i := 3) sc_names.nd rfl (.inl rfl) (pe_op op_mod (pv 2) pe_int))
      (C8.pss_cut (ps_set (i := 5) sc_names.nd rfl (.inl rfl) (pe_join pe_str (pe_lc (own := [("_law_k", 4)]) (g := gName 4) (tt := tYes) (by rfl) sc_names.nd (pi_range1 rfl G.range (pa_cons (pv 3) pa_nil))
        (blkOk_by (own := [("_law_k", 4)]) (N := ["_law_cell", "_law_letters", "_law_number", "_law_many_here", "_law_k", "_law_stem", "_law_at", "_law_more", "_law_names_here", "_law_name"]) (sc := defScope sNames) (by decide +kernel))
        (fun _ _ _ _ _ => pg_name (i := 4) sc_names.nd rfl (Or.inl rfl)) (fun _ _ _ _ _ => pts_nil)
        (fun _ _ _ _ _ => pe_ix ix_str (pv 1) (pe_op op_mod (pe_op op_add (pe_op op_fdiv (pv 2) pe_int) (pe_op op_mul (pe_op op_mul pe_int (pv 4)) (pv 4))) pe_int) (fun _ _ => rfl)))))
      (C8.pss_cut (ps_set (i := 6) sc_names.nd rfl (.inl rfl) (pe_op op_mod (pe_op op_fdiv (pv 2) pe_int) (pe_op op_add (pv 3) pe_int)))
      (pss_cons (ps_set (i := 7) sc_names.nd rfl (.inl rfl) (pe_ix ix_str (pv 1) (pe_op op_mod (pe_op op_fdiv (pv 2) pe_int) pe_int) (fun _ _ => rfl)))
      (pss_cons (ps_set (i := 8) sc_names.nd rfl (.inl rfl) (pe_lst pa_nil))
      (pss_cons (ps_for PassesOwn.never rfl (pi_range1 rfl G.range (pa_cons pe_int pa_nil)) (pg_name (i := 4) sc_names.nd rfl (.inl rfl))
        (pss_cons (ps_set (i := 9) sc_names.nd rfl (.inl rfl) (pe_op op_add_str (pe_op op_add_str (pe_slice sl_str (pv 5) po_none (po_some (pv 6)))
            (pe_ix ix_str (pv 1) (pe_op op_mod (pe_op op_add (pe_op op_fdiv (pv 2) pe_int) (pe_op op_mul pe_int (pv 4))) pe_int) (fun _ _ => rfl))) (pe_slice sl_str (pv 5) (po_some (pv 6)) po_none)))
        (pss_one (ps_set (i := 8) sc_names.nd rfl (.inl rfl) (pe_op op_cat (pv 8) (pe_lst (pa_cons (pv 9) (pa_cons (pe_op op_add_str (pv 9) (pv 7)) pa_nil))))))))
      (pss_one (ps_ret (pv 8)))))))))), ?_⟩
    have sz : ∀ {n : Nat}, n ≤ 1000 → n ≤ sizeLine := fun {n} h => by
      rw [sizeLine_eq]
      omega
    -- the number
    refine ⟨fun σ' H' => ∃ N : Int, σ' = [some (.int cell), some (.str lawLetters), some (.int N), none, none, none, none, none, none, none] ∧ H' = H ∧ 0 ≤ N ∧ N < 2147483647, ?_, ?_⟩
    · refine ⟨_, rfl, 10, 15, rfl, rfl, ⟨by decide, by decide, by decide⟩, _, _, rfl, rfl, (by show (0 : Int) < 10 ^ 15; decide), _, _, rfl, rfl, _, _, rfl, rfl, ?_, _, _, rfl, rfl, (by show (0 : Int) < 2147483647; decide), ?_⟩
      · refine .inr ⟨by decide, by decide⟩
      · exact ⟨_, rfl, rfl, Int.emod_nonneg _ (by decide), Int.emod_lt_of_pos _ (by decide)⟩
    rintro σ' H' ⟨N, rfl, rfl, hN0, hN1⟩
    -- how many
    refine ⟨fun σ' H'' => ∃ m : Nat, σ' = [some (.int cell), some (.str lawLetters), some (.int N), some (.int (m : Int)), none, none, none, none, none, none] ∧ H'' = H' ∧ m ≤ 10, ?_, ?_⟩
    · refine ⟨_, rfl, _, _, rfl, rfl, (by show (0 : Int) < 11; decide), (N % 11).toNat, ?_, rfl, by omega⟩
      rw [Int.toNat_of_nonneg (by omega)]
      rfl
    rintro σ' H'' ⟨m, rfl, rfl, hm⟩
    -- the stem
    refine ⟨fun σ' H' => σ' = [some (.int cell), some (.str lawLetters), some (.int N), some (.int (m : Int)), none, some (.str (S (stemOf N m))), none, none, none, none] ∧ Same H'' H', ?_, ?_⟩
    · refine ⟨⟨_, rfl⟩, _, rfl, (m : Int), rfl, by omega, by omega, fun D nD => ?_⟩
      refine lc_range (lo := 0) (n := m) (fun i H' => Same H'' H' ∧ H' D = some (.lst ((stemOf N i).map fun c => V.str (S [c])))) ⟨same_upd nD, upd_same⟩ ?_ ?_
      · rintro i H' hi ⟨sm, hD⟩
        refine ⟨rfl, ?_⟩
        unfold tYes
        dsimp only
        refine iteT ?_
        have h1 := m22 (N / 11 + 5 * (0 + (i : Int)) * (0 + (i : Int)))
        refine ⟨_, rfl, _, rfl, _, _, rfl, rfl, ⟨by decide, by decide⟩, _, rfl, _, _, rfl, rfl, .inl ⟨by decide, by decide⟩, _, rfl, _, _, rfl, rfl, .inr ⟨by omega, by omega⟩, _, _, rfl, rfl, _, _, rfl, rfl, (by show (0 : Int) < 22; decide), lawLetters, _, lt _, rfl, rfl, (by decide +kernel), let_at h1.1 h1.2.1, _, hD, ?_, fun b o e => ?_, ?_⟩
        · rw [List.length_map, stem_len, sizeLine_eq]
          omega
        · have nb := ne_of_none e nD
          rw [upd_ne nb]
          exact sm b o e
        · rw [upd_same, stem_more, List.map_append]
          rfl
      · rintro H' ⟨sm, hD⟩
        refine ⟨_, D, (stemOf N m).map fun c => S [c], rfl, rfl, .inl (SqL.of (by rw [List.map_map]; exact hD)), ?_, ?_⟩
        · rw [sum_signs, List.length_map, stem_len]
          show m + m * 0 ≤ _
          omega
        · refine ⟨?_, sm⟩
          rw [join_signs]
          rfl
    rintro σ' H1 ⟨rfl, s1⟩
    -- the place
    refine ⟨fun σ' H' => ∃ a : Nat, σ' = [some (.int cell), some (.str lawLetters), some (.int N), some (.int (m : Int)), none, some (.str (S (stemOf N m))), some (.int (a : Int)), none, none, none] ∧ H' = H1 ∧ a ≤ m, ?_, ?_⟩
    · have pos : (0 : Int) < (m : Int) + 1 := by omega
      have h0 := Int.emod_nonneg (N / 276) (show (m : Int) + 1 ≠ 0 by omega)
      have h1 := Int.emod_lt_of_pos (N / 276) pos
      refine ⟨_, rfl, _, _, rfl, rfl, ⟨by decide, by decide⟩, _, rfl, _, _, rfl, rfl, _, _, rfl, rfl, pos, (N / 276 % ((m : Int) + 1)).toNat, ?_, rfl, by omega⟩
      rw [Int.toNat_of_nonneg h0]
      rfl
    rintro σ' H' ⟨a, rfl, rfl, ha⟩
    have sl := stem_len N m
    have ha2 : a ≤ (stemOf N m).length := by omega
    have h2 := m22 (N / 13)
    refine ⟨_, rfl, _, rfl, _, _, rfl, rfl, ⟨by decide, by decide⟩, _, _, rfl, rfl, (by show (0 : Int) < 22; decide), lawLetters, _, dOf N, rfl, rfl, (by decide +kernel), let_at h2.1 h2.2.1, ?_⟩
    refine ⟨Nat.zero_le _, fun L0 nL0 => ⟨12, rfl, by decide, by decide, for_range (lo := 0) (n := 12) (fun i σ H2 => ∃ (L : Addr) (y4 y9 : Option V), σ = [some (.int cell), some (.str lawLetters), some (.int N), some (.int (m : Int)), y4, some (.str (S (stemOf N m))), some (.int (a : Int)), some (.str (S [dOf N])), some (.ref L), y9] ∧
      Same H' H2 ∧ H2 L = some (.lst ((nms (stemOf N m) a (cOf N) (dOf N) i).map V.str))) ⟨L0, none, none, rfl, same_upd nL0, upd_same⟩ ?_ ?_⟩⟩
    · rintro i σ H2 hi ⟨L, y4, y9, rfl, s2, hL⟩
      have h3 := m22 (N / 7 + 3 * (0 + (i : Int)))
      refine ⟨_, rfl, _, rfl, _, rfl, _, rfl, sz (by rw [S_len]; omega), _, rfl, _, rfl, _, _, rfl, rfl, ⟨by decide, by decide⟩, _, rfl, _, _, rfl, rfl, .inl ⟨by decide, by decide⟩, _, _, rfl, rfl, _, _, rfl, rfl, (by show (0 : Int) < 22; decide), lawLetters, _, cOf N i, rfl, rfl, (by decide +kernel), let_at h3.1 h3.2.1, ?_⟩
      rw [cut_take ha2]
      refine ⟨_, _, rfl, rfl, sz ?_, _, rfl, _, rfl, _, rfl, _, rfl, sz (by rw [S_len]; omega), ?_⟩
      · show (S ((stemOf N m).take a)).length + (S [cOf N i]).length ≤ _
        rw [S_len, S_len, List.length_take]
        show min a _ + 1 ≤ _
        omega
      rw [cut_drop ha2]
      have en : S ((stemOf N m).take a) ++ (⟨#[cOf N i]⟩ : Str) ++ S ((stemOf N m).drop a) = S (nm (stemOf N m) a (cOf N) i) := by
        show S ((stemOf N m).take a) ++ S [cOf N i] ++ S ((stemOf N m).drop a) = _
        rw [S_cat, S_cat]
        rfl
      have ln := nm_len (c := cOf N) ha2 i
      refine ⟨_, _, rfl, rfl, sz ?_, ?_⟩
      · show (S ((stemOf N m).take a) ++ S [cOf N i]).length + (S ((stemOf N m).drop a)).length ≤ _
        rw [S_cat, S_len, S_len, List.length_append, List.length_take, List.length_drop]
        show min a _ + 1 + _ ≤ _
        omega
      rw [en]
      have em : S (nm (stemOf N m) a (cOf N) i) ++ S [dOf N] = S (nm (stemOf N m) a (cOf N) i ++ [dOf N]) := S_cat _ _
      refine ⟨_, rfl, _, rfl, _, rfl, _, rfl, _, _, rfl, rfl, sz ?_, by show 2 ≤ sizeLine; decide, fun E1 nE1 => ?_⟩
      · rw [S_len, S_len, ln]
        show _ + 1 ≤ _
        omega
      have s3 := same_upd (o := .lst [V.str (S (nm (stemOf N m) a (cOf N) i)), V.str (S (nm (stemOf N m) a (cOf N) i) ++ S [dOf N])]) nE1
      have nl := nms_len (stemOf N m) a (cOf N) (dOf N) i
      refine ⟨L, E1, _, _, rfl, rfl, s3 _ _ hL, upd_same, sz ?_, fun p np => ⟨p, _, _, rfl, (s2.trans s3).trans (same_upd np), ?_⟩⟩
      · rw [List.length_map, nl]
        show 2 * i + 2 ≤ _
        omega
      · rw [upd_same, nms_more, List.map_append, em]
        rfl
    · rintro σ H2 ⟨L, y4, y9, rfl, s2, hL⟩
      refine ⟨_, rfl, q L H2 _ (s1.trans s2) hL (nms_len _ _ _ _ 12) (names_good (by omega) (stem_let N m) ha2 (c_let N) (d_let N)) (names_nd (by omega) (stem_01 N m) ha2 (c_inj N))⟩
end
end Kn

/-! KnA: _law_many, _law_kind_rows. -/
namespace Kn
open PySem PySem.Spec PyProof.Rows L2
/-! ### how many of each -/
structure Many (n : Nat → Nat) : Prop where
  ex : ∃ j e, j < 4 ∧ e < 3 ∧ n j = mostOf j + e ∧ ∀ k, k < 4 → k ≠ j → n k ≤ 2 ∧ (k = 0 → n k = 2)
def fourV (n : Nat → Nat) : List V := [.int (n 0 : Int), .int (n 1 : Int), .int (n 2 : Int), .int (n 3 : Int)]
def sevenV (x : Nat → Int) : List V := [.int (x 0), .int (x 1), .int (x 2), .int (x 3), .int (x 4), .int (x 5), .int (x 6)]
def manyOf (x : Nat → Int) (j : Nat) (k : Nat) : Nat := if k = j then mostOf j + (x 4 % 3).toNat else match k with
  | 0 => 2
  | k + 1 => (x k % 3).toNat
theorem many_ok (x : Nat → Int) {j : Nat} (hj : j < 4) : Many (manyOf x j) := by
  refine ⟨j, (x 4 % 3).toNat, hj, by omega, by unfold manyOf; rw [if_pos rfl], fun k hk ne => ?_⟩
  unfold manyOf
  rw [if_neg ne]
  cases k with
  | zero => exact ⟨Nat.le_refl _, fun _ => rfl⟩
  | succ k => exact ⟨by show (x k % 3).toNat ≤ 2; omega, fun z => by cases z⟩
theorem many_list (x : Nat → Int) {j : Nat} (hj : j < 4) : ([.int 2, .int (x 0 % 3), .int (x 1 % 3), .int (x 2 % 3)] : List V).set j (.int ((mostOf j : Int) + x 4 % 3)) = fourV (manyOf x j) := by
  have e : ∀ i, (((x i % 3).toNat : Nat) : Int) = x i % 3 := fun i => Int.toNat_of_nonneg (by omega)
  have e0 := e 0
  have e1 := e 1
  have e2 := e 2
  have e4 := e 4
  rcases (show j = 0 ∨ j = 1 ∨ j = 2 ∨ j = 3 by omega) with rfl | rfl | rfl | rfl <;>
    simp [fourV, manyOf, mostOf, e0, e1, e2, e4]
section
variable {P : Program} {w : World} {K : PySem.W.Frag} {mg : Str → Option Value} {base : Heap} {aKept aKinds aMost : Addr}
def spMany : Sp := fun vs H Q _ => ∃ (a : Addr) (x : Nat → Int), vs = [.ref a] ∧ H a = some (.lst (sevenV x)) ∧ ∀ (p : Addr) (H' : Hp) (n : Nat → Nat), Same H H' → H' p = some (.lst (fourV n)) → Many n → Q (.ref p) H'
theorem ok_many {f : Addr} {fd : FuncData} (F : Fun K "_law_many" "_law_many" sMany f fd) : FnOk P w K mg base CX0 1 f fd ["_law_cells"] spMany := by
  refine F.ok sc_many (fun vs H Q E h => ?_) (fun cdv A outer s H vs Q E hr h => ?_)
  · obtain ⟨a, x, rfl, _⟩ := h
    rfl
  · obtain ⟨a, x, rfl, ha, q⟩ := h
    refine ⟨_, pss_cons (ps_set (i := 1) sc_many.nd rfl (.inl rfl) (pe_lst (pa_cons pe_int (pa_cons (pe_op op_mod (pe_ix ix_list (pv 0) pe_int (fun _ _ => rfl)) pe_int) (pa_cons (pe_op op_mod (pe_ix ix_list (pv 0) pe_int (fun _ _ => rfl)) pe_int)
        (pa_cons (pe_op op_mod (pe_ix ix_list (pv 0) pe_int (fun _ _ => rfl)) pe_int) pa_nil))))))
      (C8.pss_cut (ps_set (i := 2) sc_many.nd rfl (.inl rfl) (pe_op op_mod (pe_ix ix_list (pv 0) pe_int (fun _ _ => rfl)) pe_int))
      (pss_cons (ps_asg (pe_op op_add (pe_ix ix_list (pe_lst (pa_cons pe_int (pa_cons pe_int (pa_cons pe_int (pa_cons pe_int pa_nil))))) (pv 2) (fun _ _ => rfl)) (pe_op op_mod (pe_ix ix_list (pv 0) pe_int (fun _ _ => rfl)) pe_int)) (pg_sub (pv 1) (pv 2) set_list))
      (pss_one (ps_ret (pv 1))))), ?_⟩
    have p3 : (0 : Int) < 3 := by decide
    refine ⟨_, rfl, a, _, 0, _, rfl, rfl, SqL.of ha, atI_nat (j := 0) rfl, _, _, rfl, rfl, p3, _, rfl, a, _, 1, _, rfl, rfl, SqL.of ha, atI_nat (j := 1) rfl, _, _, rfl, rfl, p3, _, rfl, a, _, 2, _, rfl, rfl, SqL.of ha, atI_nat (j := 2) rfl, _, _, rfl, rfl, p3, by show 4 ≤ sizeLine; decide, fun p np => ?_⟩
    have s1 := same_upd (o := .lst [.int 2, .int (x 0 % 3), .int (x 1 % 3), .int (x 2 % 3)]) np
    refine ⟨fun σ' H' => ∃ j : Nat, σ' = [some (.ref a), some (.ref p), some (.int (j : Int))] ∧ H' = upd H p (.lst [.int 2, .int (x 0 % 3), .int (x 1 % 3), .int (x 2 % 3)]) ∧ j < 4, ?_, ?_⟩
    · refine ⟨_, rfl, a, _, 3, _, rfl, rfl, SqL.of (s1 _ _ ha), atI_nat (j := 3) rfl, _, _, rfl, rfl, (by show (0 : Int) < 4; decide), (x 3 % 4).toNat, ?_, rfl, by omega⟩
      rw [Int.toNat_of_nonneg (by omega)]
      rfl
    rintro σ' H' ⟨j, rfl, rfl, hj⟩
    refine ⟨by show 4 ≤ sizeLine; decide, fun t nt => ?_⟩
    have s2 := same_upd (o := .lst mostV) nt
    have s12 := s1.trans s2
    have hp := s2 _ _ upd_same
    refine ⟨_, rfl, t, mostV, _, _, rfl, rfl, SqL.of upd_same, most_at hj, _, rfl, a, _, 4, _, rfl, rfl, SqL.of (s12 _ _ ha), atI_nat (j := 4) rfl, _, _, rfl, rfl, p3, _, _, rfl, rfl, ?_⟩
    have ix : ixN 4 ((j : Nat) : Int) = some j := by
      unfold ixN
      rw [if_pos (by omega), if_pos (by omega), Int.toNat_natCast]
    refine ⟨_, rfl, _, rfl, p, _, _, j, rfl, rfl, hp, ix, _, rfl, q p _ (manyOf x j) (fun b o e => ?_) ?_ (many_ok x hj)⟩
    · rw [upd_ne (ne_of_none e np)]
      exact s12 _ _ e
    · rw [upd_same, many_list x hj]
end
end Kn

/-! KnB: _law_kind_rows. -/
namespace Kn
open PySem PySem.Spec PyProof.Rows L2
/-! ### rows written as the law writes them -/
theorem slen (a b : Str) : (a ++ b).length = a.length + b.length := by
  rw [TL.len_tl, TL.tl_append, List.length_append, ← TL.len_tl, ← TL.len_tl]
theorem text_tl (r : Row) : TL.tl r.text = TL.joinL [32] (r.words.map TL.tl) := by
  unfold Row.text
  rw [TL.join_eq, TL.tl_join, show TL.tl " " = [32] by decide +kernel]
theorem t_saw : TL.tl "saw " = TL.tl "saw" ++ [32] := by decide +kernel
theorem t_b : TL.tl " b" = [32] ++ TL.tl "b" := by decide +kernel
theorem t_bl : TL.tl " " = [32] := by decide +kernel
theorem t_talk : TL.tl "talk " = TL.tl "talk" ++ [32] := by decide +kernel
theorem t_to : TL.tl " to " = [32] ++ (TL.tl "to" ++ [32]) := by decide +kernel
theorem t_heard : TL.tl " heard nobody by " = [32] ++ (TL.tl "heard" ++ ([32] ++ (TL.tl "nobody" ++ ([32] ++ (TL.tl "by" ++ [32]))))) := by decide +kernel
theorem t_told : TL.tl " told nobody from 0 to " = [32] ++ (TL.tl "told" ++ ([32] ++ (TL.tl "nobody" ++ ([32] ++ (TL.tl "from" ++ ([32] ++ (TL.tl "0" ++ ([32] ++ (TL.tl "to" ++ [32]))))))))) := by decide +kernel
theorem t_knew : TL.tl " knew by 1" ++ (List.replicate 17 48 ++ [49]) = [32] ++ (TL.tl "knew" ++ ([32] ++ (TL.tl "by" ++ ([32] ++ TL.tl bigT)))) := by decide +kernel
theorem t_person : TL.tl "person " = TL.tl "person" ++ [32] := by decide +kernel
theorem w_person (n : Str) : ("person " : Str) ++ n = (Row.person n).text := by
  refine TL.ext_tl ?_
  rw [text_tl, TL.tl_append, t_person, List.append_assoc]
  rfl
theorem w_saw (p : Str) (k : Nat) : (((("saw " : Str) ++ p) ++ " ") ++ hT k) ++ " b" = (Row.saw p k).text := by
  refine TL.ext_tl ?_
  rw [text_tl]
  simp only [TL.tl_append, t_saw, t_b, t_bl, List.append_assoc]
  rfl
theorem w_talk (k : Nat) (p q : Str) : (((("talk " : Str) ++ hT k) ++ " ") ++ p) ++ " " ++ q = (Row.talk k p q).text := by
  refine TL.ext_tl ?_
  rw [text_tl]
  simp only [TL.tl_append, t_talk, t_bl, List.append_assoc]
  rfl
theorem w_talkTo (k : Nat) (p q : Str) : (((("talk " : Str) ++ hT k) ++ " ") ++ p) ++ " to " ++ q = (Row.talkTo k p q).text := by
  refine TL.ext_tl ?_
  rw [text_tl]
  simp only [TL.tl_append, t_talk, t_bl, t_to, List.append_assoc]
  rfl
theorem w_heard (p : Str) (k : Nat) : (p ++ " heard nobody by ") ++ hT k = (Row.heard p k).text := by
  refine TL.ext_tl ?_
  rw [text_tl]
  simp only [TL.tl_append, t_heard, List.append_assoc]
  rfl
theorem w_silent (p : Str) (k : Nat) : (p ++ " told nobody from 0 to ") ++ hT k = (Row.silent p k).text := by
  refine TL.ext_tl ?_
  rw [text_tl]
  simp only [TL.tl_append, t_told, List.append_assoc]
  rfl
/-- at most n signs -/
def Sh (n : Nat) (z : Str) : Prop := z.length ≤ n
theorem Sh.app {a b : Str} {m n : Nat} (ha : Sh m a) (hb : Sh n b) : Sh (m + n) (a ++ b) := by
  unfold Sh at *
  rw [slen]
  omega
theorem fit {a b : Str} {m n : Nat} (ha : Sh m a) (hb : Sh n b) (h : m + n ≤ 1000) : a.length + b.length ≤ sizeLine := by
  unfold Sh at *
  rw [sizeLine_eq]
  omega
theorem sh_h {k : Nat} (hk : k < 3) : Sh 19 (hT k) := (hW k hk).l2
theorem Good.sh {z : Str} (g : Good z) : Sh 12 z := g.l2
theorem hT_of (N : Int) : Str.ofString (toString ((10 : Int) ^ (18 : Int).toNat - N % 3)) = hT (N % 3).toNat := by
  unfold hT hZ lastHour
  rw [Int.toNat_of_nonneg (show 0 ≤ N % 3 by omega)]
  rfl
section
variable {P : Program} {w : World} {K : PySem.W.Frag} {mg : Str → Option Value} {base : Heap} {aKept aKinds aMost : Addr}
def rowsV (rs : List Row) : List V := rs.map fun r => V.str r.text
def spKind : Sp := fun vs H Q _ => ∃ (a : Addr) (kd many : Nat) (cell : Int) (ns : List Str) (x y : Str), vs = [.ref a, .int (kd : Int), .int (many : Int), .int cell] ∧ H a = some (.lst (ns.map V.str)) ∧ ns[0]? = some x ∧ ns[1]? = some y ∧ x ≠ y ∧ Good x ∧ Good y ∧
  1 ≤ kd ∧ kd ≤ 3 ∧ many ≤ 1000 ∧ ∀ (p : Addr) (H' : Hp) (rs : List Row), Same H H' → H p = none → H' p = some (.lst (rowsV rs)) → rs.length = many → (∀ r ∈ rs, r.kind = kd ∧ r.isLate = false ∧ r.Ok [x, y]) → Q (.ref p) H'
theorem ok_kind {f : Addr} {fd : FuncData} (F : Fun K "_law_kind_rows" "_law_kind_rows" sKind f fd) (G : Glo K mg aKept aKinds aMost) : FnOk P w K mg base CX0 1 f fd ["_law_names_here", "_law_kind", "_law_many_here", "_law_cell"] spKind := by
  refine F.ok sc_kind (fun vs H Q E h => ?_) (fun cdv A outer s H vs Q E hr h => ?_)
  · obtain ⟨a, kd, many, cell, ns, x, y, rfl, _⟩ := h
    rfl
  · obtain ⟨a, kd, many, cell, ns, x, y, rfl, ha, n0, n1, nxy, gx, gy, k1, k3, few, q⟩ := h
    refine ⟨_, pss_cons (ps_set (i := 4) sc_kind.nd rfl (.inl rfl) (pe_lst pa_nil))
      (pss_cons (ps_for PassesOwn.never rfl (pi_range1 rfl G.range (pa_cons (pv 2) pa_nil)) (pg_name (i := 5) sc_kind.nd rfl (.inl rfl))
        (C8.pss_cut (ps_set (i := 6) sc_kind.nd rfl (.inl rfl) (pe_op op_mod (pe_op op_mul (pe_op op_add (pe_op op_mod (pv 3) (pe_op op_pow pe_int pe_int)) (pe_op op_mul pe_int (pv 5))) pe_int) pe_int))
        (C8.pss_cut (ps_set (i := 7) sc_kind.nd rfl (.inl rfl) (pe_callTy call_str_int rfl G.tstr b_str (pa_cons (pe_op op_sub (pe_op op_pow pe_int pe_int) (pe_op op_mod (pv 6) pe_int)) pa_nil)))
        (C8.pss_cut (ps_set (i := 8) sc_kind.nd rfl (.inl rfl) (pe_ix ix_list (pv 0) (pe_op op_mod (pe_op op_fdiv (pv 6) pe_int) pe_int) (fun _ _ => rfl)))
        (C8.pss_cut (ps_set (i := 9) sc_kind.nd rfl (.inl rfl) (pe_ix ix_list (pv 0) (pe_op op_sub pe_int (pe_op op_mod (pe_op op_fdiv (pv 6) pe_int) pe_int)) (fun _ _ => rfl)))
        (pss_one (ps_if (pt_cmpR op_eq (pv 1) pe_int (nomark _))
          (pss_one (ps_expr (pe_bm PySem.F.plainAttrs_list PySem.F.slot_list_append PySem.F.type_list_append mt_append (pv 4) (pa_cons (pe_op op_add_str (pe_op op_add_str (pe_op op_add_str (pe_op op_add_str pe_str (pv 8)) pe_str) (pv 7)) pe_str) pa_nil))))
          (pss_one (ps_if (pt_cmpR op_eq (pv 1) pe_int (nomark _))
            (pss_one (ps_expr (pe_bm PySem.F.plainAttrs_list PySem.F.slot_list_append PySem.F.type_list_append mt_append (pv 4) (pa_cons (pe_op op_add_str (pe_op op_add_str (pe_op op_add_str (pe_op op_add_str (pe_op op_add_str pe_str (pv 7)) pe_str) (pv 8))
              (pe_ix ix_list (pe_lst (pa_cons pe_str (pa_cons pe_str pa_nil))) (pe_op op_mod (pe_op op_fdiv (pv 6) pe_int) pe_int) (fun _ _ => rfl))) (pv 9)) pa_nil))))
            (pss_one (ps_if (pt_cmpR op_eq (pe_op op_mod (pe_op op_fdiv (pv 6) pe_int) pe_int) pe_int (nomark _))
              (pss_one (ps_expr (pe_bm PySem.F.plainAttrs_list PySem.F.slot_list_append PySem.F.type_list_append mt_append (pv 4) (pa_cons (pe_op op_add_str (pe_op op_add_str (pv 8) pe_str) (pv 7)) pa_nil))))
              (pss_one (ps_expr (pe_bm PySem.F.plainAttrs_list PySem.F.slot_list_append PySem.F.type_list_append mt_append (pv 4) (pa_cons (pe_op op_add_str (pe_op op_add_str (pv 8) pe_str) (pv 7)) pa_nil)))))))))))))))
      (pss_one (ps_ret (pv 4)))), ?_⟩
    refine ⟨Nat.zero_le _, fun L nL => ⟨_, rfl, (many : Int), rfl, by omega, by omega, for_range (lo := 0) (n := many) (fun i σ H' => ∃ (rs : List Row) (y5 y6 y7 y8 y9 : Option V),
      σ = [some (.ref a), some (.int (kd : Int)), some (.int (many : Int)), some (.int cell), some (.ref L), y5, y6, y7, y8, y9] ∧ Same H H' ∧ H' L = some (.lst (rowsV rs)) ∧ rs.length = i ∧ ∀ r ∈ rs, r.kind = kd ∧ r.isLate = false ∧ r.Ok [x, y])
      ⟨[], none, none, none, none, none, rfl, same_upd nL, upd_same, rfl, fun r hr => by cases hr⟩ ?_ ?_⟩⟩
    · rintro i σ H1 hi ⟨rs, y5, y6, y7, y8, y9, rfl, s1, hL, hlen, hrs⟩
      -- the number
      refine ⟨fun σ' H' => ∃ N : Int, σ' = [some (.ref a), some (.int (kd : Int)), some (.int (many : Int)), some (.int cell), some (.ref L), some (.int (0 + (i : Int))), some (.int N), y7, y8, y9] ∧ H' = H1 ∧ 0 ≤ N, ?_, ?_⟩
      · refine ⟨_, rfl, 10, 20, rfl, rfl, ⟨by decide, by decide, by decide⟩, _, _, rfl, rfl, (by show (0 : Int) < 10 ^ 20; decide), _, rfl, _, _, rfl, rfl, .inl ⟨by decide, by decide⟩, _, _, rfl, rfl, _, _, rfl, rfl, .inr ⟨by decide, by decide⟩, _, _, rfl, rfl, (by show (0 : Int) < 2147483647; decide), ?_⟩
        exact ⟨_, rfl, rfl, Int.emod_nonneg _ (by decide)⟩
      rintro σ' H' ⟨N, rfl, rfl, hN⟩
      -- the hour
      refine ⟨fun σ' H'' => ∃ k : Nat, σ' = [some (.ref a), some (.int (kd : Int)), some (.int (many : Int)), some (.int cell), some (.ref L), some (.int (0 + (i : Int))), some (.int N), some (.str (hT k)), y8, y9] ∧ H'' = H' ∧ k < 3, ?_, ?_⟩
      · have b3 : 0 ≤ N % 3 ∧ N % 3 < 3 := by omega
        refine ⟨10, 18, rfl, rfl, ⟨by decide, by decide, by decide⟩, _, rfl, _, _, rfl, rfl, (by show (0 : Int) < 3; decide), _, _, rfl, rfl, _, rfl, ?_, (N % 3).toNat, ?_, rfl, by omega⟩
        · have e : (10 : Int) ^ (18 : Int).toNat = 1000000000000000000 := by decide +kernel
          rw [e]
          have h1 : (1000000000000000000 - N % 3).natAbs < 2 ^ 64 := by omega
          have h2 : (1000000000000000000 - N % 3).natAbs ≠ 0 := by omega
          have h3 := (Nat.log2_lt h2).mpr h1
          omega
        · show _ = [some (V.ref a), some (V.int (kd : Int)), some (V.int (many : Int)), some (V.int cell), some (V.ref L), some (V.int (0 + (i : Int))), some (V.int N), some (V.str (hT (N % 3).toNat)), y8, y9]
          rw [← hT_of]
          rfl
      rintro σ' H' ⟨k, rfl, rfl, hk⟩
      -- the two
      have m0 : (ns.map V.str)[0]? = some (V.str x) := by
        rw [List.getElem?_map, n0]
        rfl
      have m1 : (ns.map V.str)[1]? = some (V.str y) := by
        rw [List.getElem?_map, n1]
        rfl
      have hA := s1 _ _ ha
      have p2 : (0 : Int) < 2 := by decide
      refine ⟨fun σ' H'' => ∃ u : Str, σ' = [some (.ref a), some (.int (kd : Int)), some (.int (many : Int)), some (.int cell), some (.ref L), some (.int (0 + (i : Int))), some (.int N), some (.str (hT k)), some (.str u), y9] ∧ H'' = H' ∧ ((N / 3 % 2 = 0 ∧ u = x) ∨ (N / 3 % 2 = 1 ∧ u = y)), ?_, ?_⟩
      · rcases (show N / 3 % 2 = 0 ∨ N / 3 % 2 = 1 by omega) with e | e
        · have z0 : atI (ns.map V.str) (N / 3 % 2) = some (V.str x) := by
            rw [e]
            exact atI_nat (j := 0) m0
          exact ⟨_, rfl, _, rfl, _, _, rfl, rfl, ⟨by decide, by decide⟩, _, _, rfl, rfl, p2, a, _, _, _, rfl, rfl, SqL.of hA, z0, x, rfl, rfl, .inl ⟨e, rfl⟩⟩
        · have z0 : atI (ns.map V.str) (N / 3 % 2) = some (V.str y) := by
            rw [e]
            exact atI_nat (j := 1) m1
          exact ⟨_, rfl, _, rfl, _, _, rfl, rfl, ⟨by decide, by decide⟩, _, _, rfl, rfl, p2, a, _, _, _, rfl, rfl, SqL.of hA, z0, y, rfl, rfl, .inr ⟨e, rfl⟩⟩
      rintro σ' H' ⟨u0, rfl, rfl, hu0⟩
      refine ⟨fun σ' H'' => ∃ u v : Str, σ' = [some (.ref a), some (.int (kd : Int)), some (.int (many : Int)), some (.int cell), some (.ref L), some (.int (0 + (i : Int))), some (.int N), some (.str (hT k)), some (.str u), some (.str v)] ∧ H'' = H' ∧ u ∈ [x, y] ∧ v ∈ [x, y] ∧ u ≠ v, ?_, ?_⟩
      · have mx : x ∈ [x, y] := List.mem_cons_self
        have my : y ∈ [x, y] := List.mem_cons_of_mem _ List.mem_cons_self
        rcases hu0 with ⟨e, rfl⟩ | ⟨e, rfl⟩
        · have z1 : atI (ns.map V.str) (1 - N / 3 % 2) = some (V.str y) := by
            rw [e]
            exact atI_nat (j := 1) m1
          exact ⟨_, rfl, _, rfl, _, _, rfl, rfl, ⟨by decide, by decide⟩, _, _, rfl, rfl, p2, _, _, rfl, rfl, a, _, _, _, rfl, rfl, SqL.of hA, z1, u0, y, rfl, rfl, mx, my, nxy⟩
        · have z1 : atI (ns.map V.str) (1 - N / 3 % 2) = some (V.str x) := by
            rw [e]
            exact atI_nat (j := 0) m0
          exact ⟨_, rfl, _, rfl, _, _, rfl, rfl, ⟨by decide, by decide⟩, _, _, rfl, rfl, p2, _, _, rfl, rfl, a, _, _, _, rfl, rfl, SqL.of hA, z1, u0, x, rfl, rfl, my, mx, Ne.symm nxy⟩
      rintro σ' H' ⟨u, v, rfl, rfl, hu, hv, huv⟩
      have gu : Good u := by
        rcases List.mem_cons.mp hu with rfl | h
        · exact gx
        · rw [List.mem_singleton.mp h]
          exact gy
      have gv : Good v := by
        rcases List.mem_cons.mp hv with rfl | h
        · exact gx
        · rw [List.mem_singleton.mp h]
          exact gy
      have shu := gu.sh
      have shv := gv.sh
      have shh := sh_h hk
      have small : (rowsV rs).length < sizeLine := by
        unfold rowsV
        rw [List.length_map, hlen, sizeLine_eq]
        omega
      have next : ∀ (r : Row) (H2 : Hp), Same H' H2 → r.kind = kd → r.isLate = false → r.Ok [x, y] → ∃ (rs' : List Row) (y5 y6 y7 y8 y9 : Option V),
          [some (V.ref a), some (V.int (kd : Int)), some (V.int (many : Int)), some (V.int cell), some (V.ref L), some (V.int (0 + (i : Int))), some (V.int N), some (V.str (hT k)), some (V.str u), some (V.str v)] = [some (V.ref a), some (V.int (kd : Int)), some (V.int (many : Int)), some (V.int cell), some (V.ref L), y5, y6, y7, y8, y9] ∧
          Same H (upd H2 L (.lst (rowsV rs ++ [V.str r.text]))) ∧ upd H2 L (.lst (rowsV rs ++ [V.str r.text])) L = some (.lst (rowsV rs')) ∧ rs'.length = i + 1 ∧ ∀ r ∈ rs', r.kind = kd ∧ r.isLate = false ∧ r.Ok [x, y] := fun r H2 s2 h1 h2 h3 => by
        refine ⟨rs ++ [r], _, _, _, _, _, rfl, fun b o e => ?_, ?_, by rw [List.length_append, hlen]; rfl, fun r' hr' => ?_⟩
        · rw [upd_ne (ne_of_none e nL)]
          exact s2 _ _ (s1 _ _ e)
        · rw [upd_same]
          unfold rowsV
          rw [List.map_append]
          rfl
        · rcases List.mem_append.mp hr' with h | h
          · exact hrs r' h
          · rw [List.mem_singleton.mp h]
            exact ⟨h1, h2, h3⟩
      have hLm : tyV K "list" (.ref L) H' := Or.inl ⟨rfl, _, SqL.of hL⟩
      rcases (show kd = 1 ∨ kd = 2 ∨ kd = 3 by omega) with rfl | rfl | rfl
      · refine ⟨_, rfl, rfl, _, rfl, iteT ?_⟩
        refine ⟨_, rfl, hLm, _, rfl, _, _, rfl, rfl, fit (m := 4) (by unfold Sh; decide +kernel) shu (by decide), _, _, rfl, rfl, fit (Sh.app (m := 4) (by unfold Sh; decide +kernel) shu) (n := 1) (by unfold Sh; decide +kernel) (by decide), _, rfl, _, _, rfl, rfl,
          fit (Sh.app (Sh.app (m := 4) (by unfold Sh; decide +kernel) shu) (n := 1) (by unfold Sh; decide +kernel)) shh (by decide), _, _, rfl, rfl, fit (Sh.app (Sh.app (Sh.app (m := 4) (by unfold Sh; decide +kernel) shu) (n := 1) (by unfold Sh; decide +kernel)) shh) (n := 2) (by unfold Sh; decide +kernel) (by decide), L, _, _, rfl, rfl, hL, small, ?_⟩
        rw [w_saw]
        exact next (.saw u k) H' (Same.refl _) rfl rfl ⟨hu, hk⟩
      · refine ⟨_, rfl, rfl, _, rfl, iteF ⟨_, rfl, rfl, _, rfl, iteT ?_⟩⟩
        refine ⟨_, rfl, hLm, _, rfl, _, _, rfl, rfl, fit (m := 5) (by unfold Sh; decide +kernel) shh (by decide), _, _, rfl, rfl, fit (Sh.app (m := 5) (by unfold Sh; decide +kernel) shh) (n := 1) (by unfold Sh; decide +kernel) (by decide), _, rfl, _, _, rfl, rfl,
          fit (Sh.app (Sh.app (m := 5) (by unfold Sh; decide +kernel) shh) (n := 1) (by unfold Sh; decide +kernel)) shu (by decide), by show 2 ≤ sizeLine; decide, fun p np => ?_⟩
        have s2 := same_upd (o := .lst [V.str " ", V.str " to "]) np
        have head : Sh 37 ((("talk " : Str) ++ hT k ++ " ") ++ u) := Sh.app (Sh.app (Sh.app (m := 5) (by unfold Sh; decide +kernel) shh) (n := 1) (by unfold Sh; decide +kernel)) shu
        rcases (show N / 7 % 2 = 0 ∨ N / 7 % 2 = 1 by omega) with e | e
        · have z0 : atI [V.str " ", V.str " to "] (N / 7 % 2) = some (V.str " ") := by
            rw [e]
            exact atI_nat (j := 0) rfl
          refine ⟨_, rfl, _, _, rfl, rfl, ⟨by decide, by decide⟩, _, _, rfl, rfl, p2, p, _, _, _, rfl, rfl, SqL.of upd_same, z0, _, _, rfl, rfl, fit head (n := 1) (by unfold Sh; decide +kernel) (by decide), _, rfl, _, _, rfl, rfl, fit (Sh.app head (n := 1) (by unfold Sh; decide +kernel)) shv (by decide), L, _, _, rfl, rfl, s2 _ _ hL, small, ?_⟩
          rw [w_talk]
          exact next (.talk k u v) _ s2 rfl rfl ⟨hu, hv, huv, hk⟩
        · have z0 : atI [V.str " ", V.str " to "] (N / 7 % 2) = some (V.str " to ") := by
            rw [e]
            exact atI_nat (j := 1) rfl
          refine ⟨_, rfl, _, _, rfl, rfl, ⟨by decide, by decide⟩, _, _, rfl, rfl, p2, p, _, _, _, rfl, rfl, SqL.of upd_same, z0, _, _, rfl, rfl, fit head (n := 4) (by unfold Sh; decide +kernel) (by decide), _, rfl, _, _, rfl, rfl, fit (Sh.app head (n := 4) (by unfold Sh; decide +kernel)) shv (by decide), L, _, _, rfl, rfl, s2 _ _ hL, small, ?_⟩
          rw [w_talkTo]
          exact next (.talkTo k u v) _ s2 rfl rfl ⟨hu, hv, huv, hk⟩
      · refine ⟨_, rfl, rfl, _, rfl, iteF ⟨_, rfl, rfl, _, rfl, iteF ?_⟩⟩
        refine ⟨_, rfl, _, _, rfl, rfl, ⟨by decide, by decide⟩, _, _, rfl, rfl, (by show (0 : Int) < 2; decide), rfl, _, rfl, ite2 (fun _ => ?_) (fun _ => ?_)⟩
        · refine ⟨_, rfl, hLm, _, rfl, _, _, rfl, rfl, fit shu (n := 17) (by unfold Sh; decide +kernel) (by decide), _, rfl, _, _, rfl, rfl, fit (Sh.app shu (n := 17) (by unfold Sh; decide +kernel)) shh (by decide), L, _, _, rfl, rfl, hL, small, ?_⟩
          rw [w_heard]
          exact next (.heard u k) H' (Same.refl _) rfl rfl ⟨hu, hk⟩
        · refine ⟨_, rfl, hLm, _, rfl, _, _, rfl, rfl, fit shu (n := 23) (by unfold Sh; decide +kernel) (by decide), _, rfl, _, _, rfl, rfl, fit (Sh.app shu (n := 23) (by unfold Sh; decide +kernel)) shh (by decide), L, _, _, rfl, rfl, hL, small, ?_⟩
          rw [w_silent]
          exact next (.silent u k) H' (Same.refl _) rfl rfl ⟨hu, hk⟩
    · rintro σ H1 ⟨rs, y5, y6, y7, y8, y9, rfl, s1, hL, hlen, hrs⟩
      exact ⟨_, rfl, q L H1 rs s1 nL hL hlen hrs⟩
end
end Kn

/-! KnC: the rows that the law writes, and where they end (plain Lean). -/
namespace Kn
open PySem L2
theorem countOf_mono {k i d : Nat} {rs : List Row} (h : i ≤ d) : countOf k (rs.take i) ≤ countOf k (rs.take d) := by
  have e : rs.take i = (rs.take d).take i := by rw [List.take_take, Nat.min_eq_left h]
  have e2 := List.take_append_drop i (rs.take d)
  rw [← e] at e2
  rw [← e2, countOf_app]
  omega
theorem countOf_one (r : Row) : countOf r.kind [r] = 1 := by
  unfold countOf
  rw [List.filter_cons_of_pos (show isKind r.kind r = true from beq_iff_eq.mpr rfl)]
  rfl
theorem countOf_at {k i : Nat} {rs : List Row} {r : Row} (h : rs[i]? = some r) (e : r.kind = k) : countOf k (rs.take (i + 1)) = countOf k (rs.take i) + 1 := by
  rw [take_more h, countOf_app, ← e, countOf_one]
theorem countOf_lt {k i : Nat} {rs : List Row} {r : Row} (h : rs[i]? = some r) (e : r.kind = k) : countOf k (rs.take i) < countOf k rs := by
  have h1 := countOf_at h e
  have h2 : countOf k (rs.take (i + 1)) ≤ countOf k (rs.take rs.length) := countOf_mono (List.getElem?_eq_some_iff.mp h).1
  rw [List.take_length] at h2
  omega
theorem countOf_all {k : Nat} : ∀ {rs : List Row}, (∀ r ∈ rs, r.kind = k) → countOf k rs = rs.length
  | [], _ => rfl
  | r :: rs, h => by
    have e := h r List.mem_cons_self
    show countOf k ([r] ++ rs) = _
    rw [countOf_app, ← e, countOf_one, e, countOf_all fun x hx => h x (List.mem_cons_of_mem _ hx), List.length_cons]
    omega
theorem countOf_none {k : Nat} : ∀ {rs : List Row}, (∀ r ∈ rs, r.kind ≠ k) → countOf k rs = 0
  | [], _ => rfl
  | r :: rs, h => by
    unfold countOf
    rw [List.filter_cons_of_neg (show ¬ isKind k r = true from fun z => h r List.mem_cons_self (beq_iff_eq.mp z))]
    exact countOf_none fun x hx => h x (List.mem_cons_of_mem _ hx)
theorem personsOf_none : ∀ {rs : List Row}, (∀ r ∈ rs, r.kind ≠ 0) → personsOf rs = []
  | [], _ => rfl
  | r :: rs, h => by
    show personsOf ([r] ++ rs) = []
    rw [personsOf_app, personsOf_one (h r List.mem_cons_self), personsOf_none fun x hx => h x (List.mem_cons_of_mem _ hx)]
    rfl
theorem personsOf_map : ∀ ps : List Str, personsOf (ps.map Row.person) = ps
  | [] => rfl
  | p :: ps => by
    show p :: personsOf (ps.map Row.person) = p :: ps
    rw [personsOf_map ps]
theorem lastOf_le {k : Nat} {rs : List Row} (h : ∀ r ∈ rs, r.kind ≤ k) : lastOf rs ≤ k := by
  unfold lastOf
  cases e : rs.getLast? with
  | none => exact Nat.zero_le _
  | some r => exact h r (List.mem_of_getLast? e)
theorem Row.Ok.up {r : Row} {ps qs : List Str} (h : r.Ok ps) (h0 : r.kind ≠ 0) (sub : ∀ x ∈ ps, x ∈ qs) : r.Ok qs := by
  cases r with
  | person n => exact absurd rfl h0
  | saw p k => exact ⟨sub _ h.1, h.2⟩
  | talk k p q => exact ⟨sub _ h.1, sub _ h.2.1, h.2.2⟩
  | talkTo k p q => exact ⟨sub _ h.1, sub _ h.2.1, h.2.2⟩
  | heard p k => exact ⟨sub _ h.1, h.2⟩
  | silent p k => exact ⟨sub _ h.1, h.2⟩
  | late p => exact sub _ h
/-- behind the kinds up to k: the rows R, the row due D -/
structure Stage (n : Nat → Nat) (ps : List Str) (k : Nat) (R : List Row) (D : Option Nat) : Prop where
  pre : ∃ rest, R = ps.map Row.person ++ rest ∧ ∀ r ∈ rest, r.kind ≠ 0
  le : ∀ r ∈ R, r.kind ≤ k
  ok : ∀ i r, R[i]? = some r → r.Ok (personsOf (R.take i)) ∧ lastOf (R.take i) ≤ r.kind ∧ r.isLate = false
  cnt : ∀ q, q ≤ k → countOf q R = n q
  few : D = none → ∀ q, q ≤ k → n q ≤ mostOf q
  due : ∀ d, D = some d → ∃ r, R[d]? = some r ∧ countOf r.kind (R.take d) = mostOf r.kind ∧ ∀ q, q ≤ k → q ≠ r.kind → n q ≤ mostOf q
theorem Many.other {n : Nat → Nat} (m : Many n) {j k : Nat} (hj : j < 4) (hk : k < 4) (h : mostOf j < n j) (ne : k ≠ j) : n k ≤ mostOf k := by
  obtain ⟨i, e, hi, he, h1, h2⟩ := m.ex
  have m2 : ∀ q, 2 < mostOf q := fun q => by
    unfold mostOf
    split <;> omega
  have hji : j = i := by
    by_cases q : j = i
    · exact q
    · have h3 := (h2 j hj q).1
      have h4 := m2 j
      omega
  have h3 := (h2 k hk (by omega)).1
  have h4 := m2 k
  omega
theorem Stage.start {n : Nat → Nat} {ps : List Str} (hl : ps.length = n 0) (hg : ∀ z ∈ ps, Good z) (nd : ps.Nodup) : Stage n ps 0 (ps.map Row.person) (if 24 < n 0 then some 24 else none) := by
  have kinds : ∀ r ∈ ps.map Row.person, r.kind = 0 := fun r hr => by
    obtain ⟨p, _, rfl⟩ := List.mem_map.mp hr
    rfl
  have kt : ∀ i, ∀ r ∈ (ps.map Row.person).take i, r.kind = 0 := fun i r hr => kinds r (List.mem_of_mem_take hr)
  refine ⟨⟨[], (List.append_nil _).symm, fun r hr => by cases hr⟩, fun r hr => Nat.le_of_eq (kinds r hr), fun i r hr => ?_, fun q hq => ?_, fun h q hq => ?_, fun d hd => ?_⟩
  · have hr2 := hr
    rw [List.getElem?_map] at hr2
    obtain ⟨p, hp, rfl⟩ := Option.map_eq_some_iff.mp hr2
    refine ⟨⟨hg p (List.mem_of_getElem? hp), ?_⟩, lastOf_le fun r hr => Nat.le_of_eq (kt i r hr), rfl⟩
    rw [← List.map_take, personsOf_map]
    intro hm
    obtain ⟨j, hj⟩ := List.mem_iff_getElem?.mp hm
    rw [List.getElem?_take] at hj
    by_cases hji : j < i
    · rw [if_pos hji] at hj
      have := nd_ix nd hj hp
      omega
    · rw [if_neg hji] at hj
      cases hj
  · obtain rfl : q = 0 := by omega
    rw [countOf_all kinds, List.length_map, hl]
  · obtain rfl : q = 0 := by omega
    by_cases c : 24 < n 0
    · rw [if_pos c] at h
      cases h
    · show n 0 ≤ 24
      omega
  · by_cases c : 24 < n 0
    · rw [if_pos c] at hd
      cases hd
      have h24 : 24 < (ps.map Row.person).length := by
        rw [List.length_map]
        omega
      refine ⟨_, List.getElem?_eq_getElem h24, ?_, fun q hq ne => ?_⟩
      · rw [kinds _ (List.getElem_mem h24), countOf_all (kt 24), List.length_take]
        show min 24 _ = 24
        omega
      · exact absurd (show q = _ by rw [kinds _ (List.getElem_mem h24)]; omega) ne
    · rw [if_neg c] at hd
      cases hd
theorem Stage.more {n : Nat → Nat} {ps : List Str} {k : Nat} {R B : List Row} {D : Option Nat} {x y : Str} (s : Stage n ps k R D) (m : Many n) (hk : k < 3) (hB : ∀ r ∈ B, r.kind = k + 1 ∧ r.isLate = false ∧ r.Ok [x, y]) (hl : B.length = n (k + 1)) (hx : x ∈ ps) (hy : y ∈ ps) :
    Stage n ps (k + 1) (R ++ B) (if D = none ∧ mostOf (k + 1) < n (k + 1) then some (R.length + mostOf (k + 1)) else D) := by
  have hp : personsOf R = ps := by
    obtain ⟨rest, e, h⟩ := s.pre
    rw [e, personsOf_app, personsOf_map, personsOf_none h, List.append_nil]
  have hBk : ∀ r ∈ B, r.kind = k + 1 := fun r hr => (hB r hr).1
  have cR : countOf (k + 1) R = 0 := countOf_none fun r hr e => by
    have := s.le r hr
    omega
  have tk : ∀ {i : Nat}, i ≤ R.length → (R ++ B).take i = R.take i := fun {i} h => List.take_append_of_le_length h
  have at1 : ∀ {i : Nat} {r : Row}, R[i]? = some r → (R ++ B)[i]? = some r := fun {i r} h => by
    rw [List.getElem?_append_left (List.getElem?_eq_some_iff.mp h).1]
    exact h
  refine ⟨?_, fun r hr => ?_, fun i r hr => ?_, fun q hq => ?_, fun h q hq => ?_, fun d hd => ?_⟩
  · obtain ⟨rest, e, h⟩ := s.pre
    refine ⟨rest ++ B, by rw [e, List.append_assoc], fun r hr => ?_⟩
    rcases List.mem_append.mp hr with hr | hr
    · exact h r hr
    · rw [hBk r hr]
      omega
  · rcases List.mem_append.mp hr with hr | hr
    · exact Nat.le_succ_of_le (s.le r hr)
    · exact Nat.le_of_eq (hBk r hr)
  · by_cases hi : i < R.length
    · rw [List.getElem?_append_left hi] at hr
      rw [tk (Nat.le_of_lt hi)]
      exact s.ok i r hr
    · rw [List.getElem?_append_right (by omega)] at hr
      have hrB := List.mem_of_getElem? hr
      have et : (R ++ B).take i = R ++ B.take (i - R.length) := by
        rw [List.take_append, List.take_of_length_le (by omega)]
      obtain ⟨h1, h2, h3⟩ := hB r hrB
      rw [et, personsOf_app, hp, personsOf_none fun q hq => by rw [hBk q (List.mem_of_mem_take hq)]; omega, List.append_nil]
      refine ⟨h3.up (by omega) fun z hz => ?_, ?_, h2⟩
      · rcases List.mem_cons.mp hz with rfl | hz
        · exact hx
        · rw [List.mem_singleton.mp hz]
          exact hy
      · rw [h1]
        refine lastOf_le fun q hq => ?_
        rcases List.mem_append.mp hq with hq | hq
        · exact Nat.le_succ_of_le (s.le q hq)
        · exact Nat.le_of_eq (hBk q (List.mem_of_mem_take hq))
  · rw [countOf_app]
    by_cases e : q = k + 1
    · subst e
      rw [cR, countOf_all hBk, hl, Nat.zero_add]
    · rw [s.cnt q (by omega), countOf_none fun r hr z => e (by rw [← z, hBk r hr]), Nat.add_zero]
  · by_cases c : D = none ∧ mostOf (k + 1) < n (k + 1)
    · rw [if_pos c] at h
      cases h
    · rw [if_neg c] at h
      by_cases e : q = k + 1
      · subst e
        exact Nat.le_of_not_lt fun z => c ⟨h, z⟩
      · exact s.few h q (by omega)
  · by_cases c : D = none ∧ mostOf (k + 1) < n (k + 1)
    · rw [if_pos c] at hd
      cases hd
      have hb : mostOf (k + 1) < B.length := by
        rw [hl]
        exact c.2
      have eB : (R ++ B)[R.length + mostOf (k + 1)]? = some B[mostOf (k + 1)] := by
        rw [List.getElem?_append_right (by omega), Nat.add_sub_cancel_left, List.getElem?_eq_getElem hb]
      have ek := hBk _ (List.getElem_mem hb)
      refine ⟨_, eB, ?_, fun q hq ne => ?_⟩
      · rw [ek, List.take_append, List.take_of_length_le (by omega), Nat.add_sub_cancel_left, countOf_app, cR, countOf_all fun r hr => hBk r (List.mem_of_mem_take hr), List.length_take]
        omega
      · rw [ek] at ne
        exact s.few c.1 q (by omega)
    · rw [if_neg c] at hd
      obtain ⟨r, h1, h2, h3⟩ := s.due d hd
      have hdl := (List.getElem?_eq_some_iff.mp h1).1
      have hle := s.le r (List.mem_of_getElem? h1)
      refine ⟨r, at1 h1, by rw [tk (Nat.le_of_lt hdl)]; exact h2, fun q hq ne => ?_⟩
      by_cases e : q = k + 1
      · subst e
        have h4 := countOf_lt h1 rfl
        rw [h2, s.cnt _ hle] at h4
        exact m.other (by omega) (by omega) h4 ne
      · exact h3 q (by omega) ne
theorem Stage.fine {n : Nat → Nat} {ps : List Str} {R : List Row} {D : Option Nat} (s : Stage n ps 3 R D) {i : Nat} {r : Row} (hr : R[i]? = some r) (hd : ∀ d, D = some d → i < d) : Fine R i r := by
  obtain ⟨h1, h2, h3⟩ := s.ok i r hr
  refine ⟨h1, h2, h3, ?_⟩
  have hk := kind_lt r
  have lt := countOf_lt hr rfl
  rw [s.cnt r.kind (by omega)] at lt
  cases e : D with
  | none =>
    have := s.few e r.kind (by omega)
    omega
  | some d =>
    obtain ⟨r', g1, g2, g3⟩ := s.due d e
    by_cases ek : r.kind = r'.kind
    · have h4 := countOf_at hr ek
      have h5 : countOf r'.kind (R.take (i + 1)) ≤ countOf r'.kind (R.take d) := countOf_mono (hd d e)
      rw [ek]
      omega
    · have := g3 r.kind (by omega) ek
      omega
/-- a row of an hour too late in a row's stead -/
def dueAt (D : Option Nat) (a : Nat) : Option Nat := match D with
  | none => some a
  | some d => if a < d then some a else some d
theorem dueAt_le {D : Option Nat} {a d : Nat} (h : dueAt D a = some d) : d ≤ a ∧ ∀ e, D = some e → d ≤ e := by
  cases D with
  | none =>
    cases h
    exact ⟨Nat.le_refl _, fun e z => by cases z⟩
  | some e =>
    have h : (if a < e then some a else some e) = some d := h
    by_cases c : a < e
    · rw [if_pos c] at h
      cases h
      exact ⟨Nat.le_refl _, fun f z => by cases z; omega⟩
    · rw [if_neg c] at h
      cases h
      exact ⟨by omega, fun f z => by cases z; exact Nat.le_refl _⟩
/-- what read_book is told -/
structure Told (rs : List Row) (due : Option Nat) : Prop where
  fine : ∀ i r, rs[i]? = some r → (∀ d, due = some d → i < d) → Fine rs i r
  due : ∀ d, due = some d → Due rs d
  one : 1 ≤ (personsOf rs).length
theorem Stage.told {n : Nat → Nat} {ps : List Str} {R : List Row} {D : Option Nat} (s : Stage n ps 3 R D) (h1 : 1 ≤ ps.length) : Told R D := by
  refine ⟨fun i r hr hd => s.fine hr hd, fun d hd => ?_, ?_⟩
  · obtain ⟨r, g1, g2, _⟩ := s.due d hd
    exact ⟨r, g1, (s.ok d r g1).1, .inr g2⟩
  · obtain ⟨rest, e, h⟩ := s.pre
    rw [e, personsOf_app, personsOf_map, List.length_append]
    omega
theorem Stage.late {n : Nat → Nat} {ps : List Str} {R : List Row} {D : Option Nat} {x : Str} {a : Nat} (s : Stage n ps 3 R D) (hx : x ∈ ps) (ha : ps.length ≤ a) (hb : a < R.length) : Told (R.set a (.late x)) (dueAt D a) := by
  have tk : ∀ {i : Nat}, i ≤ a → (R.set a (.late x)).take i = R.take i := fun {i} h => List.take_set_of_le h
  have same : ∀ {i : Nat}, i ≠ a → (R.set a (Row.late x))[i]? = R[i]? := fun {i} h => List.getElem?_set_ne (Ne.symm h)
  have hpa : x ∈ personsOf (R.take a) := by
    obtain ⟨rest, e, h⟩ := s.pre
    rw [e, List.take_append, List.take_of_length_le (by rw [List.length_map]; exact ha), personsOf_app, personsOf_map]
    exact List.mem_append_left _ hx
  refine ⟨fun i r hr hd => ?_, fun d hd => ?_, ?_⟩
  · have hda : ∃ d, dueAt D a = some d := by
      cases D with
      | none => exact ⟨_, rfl⟩
      | some e =>
        show ∃ d, (if a < e then some a else some e) = some d
        by_cases c : a < e
        · exact ⟨a, if_pos c⟩
        · exact ⟨e, if_neg c⟩
    obtain ⟨d, hd2⟩ := hda
    have h1 := hd d hd2
    obtain ⟨h2, h3⟩ := dueAt_le hd2
    rw [same (by omega)] at hr
    have f := s.fine hr fun e he => Nat.lt_of_lt_of_le h1 (h3 e he)
    exact ⟨by rw [tk (by omega)]; exact f.ok, by rw [tk (by omega)]; exact f.up, f.no, by rw [tk (by omega)]; exact f.few⟩
  · obtain ⟨h2, h3⟩ := dueAt_le hd
    by_cases e : d = a
    · subst e
      refine ⟨.late x, List.getElem?_set_self hb, ?_, .inl rfl⟩
      rw [tk (Nat.le_refl _)]
      exact hpa
    · have hD : D = some d := by
        cases D with
        | none =>
          cases hd
          exact absurd rfl e
        | some f =>
          have hd : (if a < f then some a else some f) = some d := hd
          by_cases c : a < f
          · rw [if_pos c] at hd
            cases hd
            exact absurd rfl e
          · rw [if_neg c] at hd
            exact hd
      obtain ⟨r, g1, g2, _⟩ := s.due d hD
      refine ⟨r, by rw [same e]; exact g1, ?_, .inr ?_⟩
      · rw [tk h2]
        exact (s.ok d r g1).1
      · rw [tk h2]
        exact g2
  · have h5 : personsOf ((R.set a (.late x)).take a) = personsOf (R.take a) := by rw [tk (Nat.le_refl _)]
    have h6 := List.take_append_drop a (R.set a (.late x))
    rw [← h6, personsOf_app, h5, List.length_append]
    have h7 := List.length_pos_of_mem hpa
    omega
end Kn

/-! KnD: what the law's reading wants, in plain Lean. -/
namespace Kn
open PySem PySem.Spec PyProof.Rows L2
theorem cells_cut (l : List Int) (h : 7 ≤ l.length) : cutV (l.map V.int) none (some 7) = sevenV fun i => l.getD i 0 := by
  unfold cutV
  rw [HT.sIx_none, show HT.sIx (l.map V.int).length (l.map V.int).length (some 7) = min 7 (l.map V.int).length from HT.sIx_nat _ _ 7, List.length_map, Nat.min_eq_left h]
  match l, h with
  | a :: b :: c :: d :: e :: f :: g :: r, _ => rfl
def dueV : Option Nat → V
  | none => .non
  | some d => .int (d : Int)
theorem mulC : MulOk "c" 11 := mulOk_of 16 1048576 (by decide +kernel) (by decide) (by decide) (by decide) (by decide)
theorem mul0 : MulOk "0" 17 := mulOk_of 16 1048576 (by decide +kernel) (by decide) (by decide) (by decide) (by decide)
theorem cw_eq : Txt.mul "c" 11 ++ "w" = cwS := by decide +kernel
theorem cx_eq : Txt.mul "c" 11 ++ "x" = cxS := by decide +kernel
theorem m0_eq : Txt.mul "0" 17 = S (List.replicate 17 48) := by decide +kernel
theorem good_cw : Good cwS := good_of (by decide) (by decide) (by decide)
theorem good_cx : Good cxS := good_of (by decide) (by decide) (by decide)
theorem w_late (p : Str) : ((p ++ " knew by 1") ++ Txt.mul "0" 17) ++ "1" = (Row.late p).text := by
  refine TL.ext_tl ?_
  rw [text_tl, m0_eq, TL.tl_append, TL.tl_append, TL.tl_append, show TL.tl "1" = [49] by decide +kernel, show TL.tl (S (List.replicate 17 48)) = List.replicate 17 48 from rfl, List.append_assoc, List.append_assoc, t_knew]
  rfl
theorem plain_lit {u : Str} (h : u.cps.toList.all (fun c => decide (32 < c)) = true) : ∀ c ∈ u.cps.toList, 32 < c := fun c hc => of_decide_eq_true (List.all_eq_true.mp h c hc)
theorem plain_good {z : Str} (g : Good z) : ∀ c ∈ z.cps.toList, 32 < c := fun c hc => by
  have := (g.sg c hc).1
  omega
theorem plain_h {k : Nat} (hk : k < 3) : ∀ c ∈ (hT k).cps.toList, 32 < c := fun c hc => by
  have h1 := (hW k hk).fig c hc
  have h2 : ∀ c ∈ figuresT.cps.toList, 32 < c := by decide +kernel
  exact h2 c h1
theorem plain_of {r : Row} {qs : List Str} (ok : r.Ok qs) (hg : ∀ z ∈ qs, Good z) : r.Plain := by
  cases r with
  | person n =>
    intro u hu
    simp only [Row.words, List.mem_cons, List.not_mem_nil, or_false] at hu
    rcases hu with rfl | rfl
    · exact plain_lit (by decide +kernel)
    · exact plain_good ok.1
  | saw p k =>
    intro u hu
    simp only [Row.words, List.mem_cons, List.not_mem_nil, or_false] at hu
    rcases hu with rfl | rfl | rfl | rfl
    · exact plain_lit (by decide +kernel)
    · exact plain_good (hg _ ok.1)
    · exact plain_h ok.2
    · exact plain_lit (by decide +kernel)
  | talk k p q =>
    intro u hu
    simp only [Row.words, List.mem_cons, List.not_mem_nil, or_false] at hu
    rcases hu with rfl | rfl | rfl | rfl
    · exact plain_lit (by decide +kernel)
    · exact plain_h ok.2.2.2
    · exact plain_good (hg _ ok.1)
    · exact plain_good (hg _ ok.2.1)
  | talkTo k p q =>
    intro u hu
    simp only [Row.words, List.mem_cons, List.not_mem_nil, or_false] at hu
    rcases hu with rfl | rfl | rfl | rfl | rfl
    · exact plain_lit (by decide +kernel)
    · exact plain_h ok.2.2.2
    · exact plain_good (hg _ ok.1)
    · exact plain_lit (by decide +kernel)
    · exact plain_good (hg _ ok.2.1)
  | heard p k =>
    intro u hu
    simp only [Row.words, List.mem_cons, List.not_mem_nil, or_false] at hu
    rcases hu with rfl | rfl | rfl | rfl | rfl
    · exact plain_good (hg _ ok.1)
    · exact plain_lit (by decide +kernel)
    · exact plain_lit (by decide +kernel)
    · exact plain_lit (by decide +kernel)
    · exact plain_h ok.2
  | silent p k =>
    intro u hu
    simp only [Row.words, List.mem_cons, List.not_mem_nil, or_false] at hu
    rcases hu with rfl | rfl | rfl | rfl | rfl | rfl | rfl
    · exact plain_good (hg _ ok.1)
    · exact plain_lit (by decide +kernel)
    · exact plain_lit (by decide +kernel)
    · exact plain_lit (by decide +kernel)
    · exact plain_lit (by decide +kernel)
    · exact plain_lit (by decide +kernel)
    · exact plain_h ok.2
  | late p =>
    intro u hu
    simp only [Row.words, List.mem_cons, List.not_mem_nil, or_false] at hu
    rcases hu with rfl | rfl | rfl | rfl
    · exact plain_good (hg _ ok)
    · exact plain_lit (by decide +kernel)
    · exact plain_lit (by decide +kernel)
    · exact plain_lit (by decide +kernel)
theorem short_of {r : Row} {qs : List Str} (ok : r.Ok qs) (hg : ∀ z ∈ qs, Good z) : Sh 200 r.text := by
  have lit : ∀ {u : Str} {n : Nat}, decide (u.length = n) = true → Sh n u := fun h => Nat.le_of_eq (of_decide_eq_true h)
  have wk : ∀ {u : Str} {n : Nat}, Sh n u → n ≤ 200 → Sh 200 u := fun h h2 => Nat.le_trans h h2
  cases r with
  | person n =>
    rw [← w_person]
    exact wk ((lit (n := 7) (by decide +kernel)).app ok.1.sh) (by decide)
  | saw p k =>
    rw [← w_saw]
    exact wk (((((lit (n := 4) (by decide +kernel)).app (hg _ ok.1).sh).app (lit (n := 1) (by decide +kernel))).app (sh_h ok.2)).app (lit (n := 2) (by decide +kernel))) (by decide)
  | talk k p q =>
    rw [← w_talk]
    exact wk ((((((lit (n := 5) (by decide +kernel)).app (sh_h ok.2.2.2)).app (lit (n := 1) (by decide +kernel))).app (hg _ ok.1).sh).app (lit (n := 1) (by decide +kernel))).app (hg _ ok.2.1).sh) (by decide)
  | talkTo k p q =>
    rw [← w_talkTo]
    exact wk ((((((lit (n := 5) (by decide +kernel)).app (sh_h ok.2.2.2)).app (lit (n := 1) (by decide +kernel))).app (hg _ ok.1).sh).app (lit (n := 4) (by decide +kernel))).app (hg _ ok.2.1).sh) (by decide)
  | heard p k =>
    rw [← w_heard]
    exact wk (((hg _ ok.1).sh.app (lit (n := 17) (by decide +kernel))).app (sh_h ok.2)) (by decide)
  | silent p k =>
    rw [← w_silent]
    exact wk (((hg _ ok.1).sh.app (lit (n := 23) (by decide +kernel))).app (sh_h ok.2)) (by decide)
  | late p =>
    rw [← w_late]
    exact wk ((((hg _ ok).sh.app (lit (n := 10) (by decide +kernel))).app (lit (n := 17) (by decide +kernel))).app (lit (n := 1) (by decide +kernel))) (by decide)
/-! ### joined rows -/
theorem joinL_len (S0 : List Nat) : ∀ ps : List (List Nat), (TL.joinL S0 ps).length ≤ (ps.map List.length).sum + ps.length * S0.length
  | [] => Nat.zero_le _
  | [p] => by
    show p.length ≤ (p.length + 0) + 1 * S0.length
    omega
  | p :: q :: r => by
    have ih := joinL_len S0 (q :: r)
    show (p ++ (S0 ++ TL.joinL S0 (q :: r))).length ≤ p.length + ((q :: r).map List.length).sum + ((q :: r).length + 1) * S0.length
    rw [List.length_append, List.length_append, Nat.add_mul]
    omega
theorem sum_le {α : Type} {f : α → Nat} {m : Nat} : ∀ {l : List α}, (∀ x ∈ l, f x ≤ m) → (l.map f).sum ≤ l.length * m
  | [], _ => Nat.zero_le _
  | x :: l, h => by
    have ih := sum_le (l := l) fun y hy => h y (List.mem_cons_of_mem _ hy)
    have h1 := h x List.mem_cons_self
    rw [List.map_cons, List.sum_cons, List.length_cons, Nat.add_mul]
    omega
theorem join_len {R : List Row} (h : ∀ r ∈ R, Sh 200 r.text) : (Txt.join "\n" (R.map Row.text)).length ≤ R.length * 201 := by
  have e : TL.tl (Txt.join "\n" (R.map Row.text)) = TL.joinL [10] ((R.map Row.text).map TL.tl) := by
    rw [TL.join_eq, TL.tl_join, show TL.tl "\n" = [10] by decide +kernel]
  rw [TL.len_tl, e]
  have h1 := joinL_len [10] ((R.map Row.text).map TL.tl)
  rw [List.map_map, List.map_map, List.length_map] at h1
  have h2 : (R.map (List.length ∘ (TL.tl ∘ Row.text))).sum ≤ R.length * 200 := sum_le fun r hr => by
    show (TL.tl r.text).length ≤ 200
    rw [← TL.len_tl]
    exact h r hr
  rw [List.map_map]
  simp only [List.length_cons, List.length_nil] at h1
  omega
theorem join_sum {R : List Row} (h : ∀ r ∈ R, Sh 200 r.text) : ((R.map Row.text).map (·.length)).sum ≤ R.length * 200 := by
  rw [List.map_map]
  exact sum_le fun r hr => h r hr
end Kn

/-! KnE: the law. -/
namespace Kn
open PySem PySem.Spec PyProof.Rows L2
abbrev lawN : List Str := ["_law_script", "_law_cells", "_law_names_here", "_law_many_here", "_law_rows", "_law_due", "_law_kind", "_law_at", "_law_found", "e", "_law_told", "_law_name"]
def spLaw (K : PySem.W.Frag) : Sp := fun vs H Q _ => ∃ (a : Addr) (ns : List Int), vs = [.ref a] ∧ SqL K H a (ns.map V.int) ∧ ns.length ≤ 63 ∧ ∀ H', Q (.bl true) H'
def tJoin (K : PySem.W.Frag) : TE := tM1 (fun x xs H Q => ∃ a p, ∃ ys : List Str, x = .str a ∧ xs = [.ref p] ∧ (SqL K H p (ys.map V.str) ∨ SqT K H p (ys.map V.str)) ∧ (ys.map (·.length)).sum + ys.length * a.length ≤ 16777216 ∧ Q (.str (Txt.join a ys)) H) (tC (.str "\n")) (tVar 4)
def tSuite (CN : Addr) : Addr → Value → Option Addr → TS := fun a cls d => tRet (tAndV (tNotN (tVar 5)) (tOp rEq (tXf a cls d CN "row" (tVar 9)) (tVar 5)))
/-- what the law leans on -/
structure LawTxt (P : Program) (w : World) (K : PySem.W.Frag) (mg : Str → Option Value) (base : Heap) (CB CN fI : Addr) : Prop where
  row : RowTxt K mg CN fI
  xf : XfC K CN
  em : PySem.W.exmOne K (.ref CN) (.ref CN) = some true
  cl : Cls K CB
theorem fourV_at {n : Nat → Nat} {k : Nat} (h : k < 4) : atI (fourV n) ((k : Nat) : Int) = some (.int (n k : Int)) := by
  rcases (show k = 0 ∨ k = 1 ∨ k = 2 ∨ k = 3 by omega) with rfl | rfl | rfl | rfl <;> exact atI_nat rfl
theorem cut_list {xs : List V} {k : Nat} (h : k ≤ xs.length) : cutV xs none (some (k : Int)) = xs.take k := by
  unfold cutV
  rw [HT.sIx_none, HT.sIx_nat, Nat.min_eq_left h]
  rfl
theorem Many.n0 {n : Nat → Nat} (m : Many n) : 2 ≤ n 0 ∧ ∀ k, k < 4 → n k ≤ 122 := by
  obtain ⟨j, e, hj, he, h1, h2⟩ := m.ex
  have m3 : ∀ q, mostOf q ≤ 120 := fun q => by
    unfold mostOf
    split <;> omega
  refine ⟨?_, fun k hk => ?_⟩
  · by_cases q : j = 0
    · subst q
      rw [h1]
      show 2 ≤ 24 + e
      omega
    · have := (h2 0 (by decide) (Ne.symm q)).2 rfl
      omega
  · by_cases q : k = j
    · subst q
      have := m3 k
      omega
    · have := (h2 k hk q).1
      omega
theorem Many.n0u {n : Nat → Nat} (m : Many n) : n 0 ≤ 26 := by
  obtain ⟨j, e, hj, he, h1, h2⟩ := m.ex
  by_cases q : j = 0
  · subst q
    rw [h1]
    show 24 + e ≤ 26
    omega
  · have := (h2 0 (by decide) (Ne.symm q)).1
    omega
theorem look1 (c0 c1 c2 c3 : Addr) : (bookF c0 c1 c2 c3).lookup ("persons" : Str) = none ∧ (bookF c0 c1 c2 c3).lookup ("sights" : Str) = none ∧ (bookF c0 c1 c2 c3).lookup ("talks" : Str) = none ∧ (bookF c0 c1 c2 c3).lookup ("sayings" : Str) = none := by
  refine ⟨?_, ?_, ?_, ?_⟩ <;> rfl
theorem look2 (c0 c1 c2 c3 : Addr) : (bookF c0 c1 c2 c3).lookup ("crew" : Str) = some (.ref c0) ∧ (bookF c0 c1 c2 c3).lookup ("views" : Str) = some (.ref c1) ∧ (bookF c0 c1 c2 c3).lookup ("meetings" : Str) = some (.ref c2) ∧ (bookF c0 c1 c2 c3).lookup ("claims" : Str) = some (.ref c3) := by
  refine ⟨?_, ?_, ?_, ?_⟩ <;> rfl
def fourD (n : Nat → Nat) : PyData := .list [.int (n 0 : Int), .int (n 1 : Int), .int (n 2 : Int), .int (n 3 : Int)]
theorem fourD_dp {K : PySem.W.Frag} {H : Hp} {a : Addr} {n : Nat → Nat} (h : H a = some (.lst (fourV n))) : Dp K H (.ref a) (fourD n) :=
  .lst (SqL.of h) (.cons (.int _) (.cons (.int _) (.cons (.int _) (.cons (.int _) .nil))))
theorem fourD_sh (n : Nat → Nat) : SeqAt.shaped (fourD n) = true := by
  simp [fourD, SeqAt.shaped, PyData.canLay0, PyData.canLayAll0, PyData.depth, PyData.depthAll]
theorem fourD_eq (n : Nat → Nat) : PyData.eqv (fourD n) (fourD n) = true := by
  simp [fourD, PyData.eqv, PyData.eqvAll]
/-- rows that are well made -/
def Made (r : Row) : Prop := ∃ qs, r.Ok qs ∧ ∀ z ∈ qs, Good z
section
variable {P : Program} {w : World} {K : PySem.W.Frag} {mg : Str → Option Value} {base : Heap} {aKept aKinds aMost : Addr}
theorem ok_law {f fN fM fK fR fI CB CN g1 g2 g3 g4 : Addr} {fd fdN fdM fdK fdR fd1 fd2 fd3 fd4 : FuncData} (F : Fun K "law" "law" sLaw f fd) (G : Glo K mg aKept aKinds aMost) (T : LawTxt P w K mg base CB CN fI)
    (GN : FnOk P w K mg base CX0 1 fN fdN ["_law_cell"] spNames) (kN : PySem.W.keepIn K (.ref fN) = true) (bN : Binds K fdN ["_law_cell"] []) (gN : mg "_law_names" = some (.ref fN))
    (GM : FnOk P w K mg base CX0 1 fM fdM ["_law_cells"] spMany) (kM : PySem.W.keepIn K (.ref fM) = true) (bM : Binds K fdM ["_law_cells"] []) (gM : mg "_law_many" = some (.ref fM))
    (GK : FnOk P w K mg base CX0 1 fK fdK ["_law_names_here", "_law_kind", "_law_many_here", "_law_cell"] spKind) (kK : PySem.W.keepIn K (.ref fK) = true) (bK : Binds K fdK ["_law_names_here", "_law_kind", "_law_many_here", "_law_cell"] []) (gK : mg "_law_kind_rows" = some (.ref fK))
    (GR : FnOk P w K mg base (L2.CX P w) 7 fR fdR ["text"] (spRead CB CN)) (kR : PySem.W.keepIn K (.ref fR) = true) (bR : Binds K fdR ["text"] []) (gR : mg "read_book" = some (.ref fR))
    (G1 : FnOk P w K mg base CX0 1 g1 fd1 ["self"] (spTell CB "crew")) (b1 : Binds K fd1 ["self"] []) (m1 : Meth K CB "persons" g1)
    (G2 : FnOk P w K mg base CX0 1 g2 fd2 ["self"] (spTell CB "views")) (b2 : Binds K fd2 ["self"] []) (m2 : Meth K CB "sights" g2)
    (G3 : FnOk P w K mg base CX0 1 g3 fd3 ["self"] (spTell CB "meetings")) (b3 : Binds K fd3 ["self"] []) (m3 : Meth K CB "talks" g3)
    (G4 : FnOk P w K mg base CX0 1 g4 fd4 ["self"] (spTell CB "claims")) (b4 : Binds K fd4 ["self"] []) (m4 : Meth K CB "sayings" g4) :
    FnOk P w K mg base CX0 8 f fd ["_law_script"] (spLaw K) := by
  refine F.ok sc_law (fun vs H Q E h => ?_) (fun cdv A outer s H vs Q E hr h => ?_)
  · obtain ⟨a, ns, rfl, _⟩ := h
    rfl
  · obtain ⟨a, ns, rfl, hS, hlen, q⟩ := h
    have hr1 : Room 1 _ := hr.mono (by decide)
    have hu : (cxOf CX0 P w K mg base lawN "law" (defScope sLaw) f cdv A outer s H E).nox.A.units + 64 < cLine := hr.units
    refine ⟨_, C8.pss_cut (ps_set (i := 1) sc_law.nd rfl (.inl rfl) (pe_slice sl_list (pe_op KnX.op_catQ (pv 0) (pe_lst (pa_cons pe_int (pa_cons pe_int (pa_cons pe_int (pa_cons pe_int (pa_cons pe_int (pa_cons pe_int (pa_cons pe_int pa_nil))))))))) po_none (po_some pe_int)))
      (C8.pss_cut (ps_set (i := 2) sc_law.nd rfl (.inl rfl) (pe_call GN hr1 rfl gN kN bN .nil pass0 (pa_cons (pe_ix ix_list (pv 1) pe_int (fun _ _ => rfl)) pa_nil)))
      (C8.pss_cut (ps_set (i := 2) sc_law.nd rfl (.inl rfl) (pe_op op_cat (pv 2) (pe_lst (pa_cons (pe_op op_add_str (pe_op KnX.op_reps pe_str pe_int) pe_str) (pa_cons (pe_op op_add_str (pe_op KnX.op_reps pe_str pe_int) pe_str) pa_nil)))))
      (C8.pss_cut (ps_set (i := 3) sc_law.nd rfl (.inl rfl) (pe_call GM hr1 rfl gM kM bM .nil pass0 (pa_cons (pv 1) pa_nil)))
      (C8.pss_cut (ps_setLc (i := 4) (own := [("_law_name", 11)]) (g := gName 11) (tt := tYes) (by rfl) sc_law.nd rfl rfl (sw_true rfl rfl rfl (by decide +kernel))
        (pi_list (pe_slice sl_list (pv 2) po_none (po_some (pe_ix ix_list (pv 3) pe_int (fun _ _ => rfl))))) (blkOk_by (own := [("_law_name", 11)]) (N := lawN) (sc := defScope sLaw) (by decide +kernel))
        (fun _ _ _ _ _ => pg_name (i := 11) sc_law.nd rfl (Or.inl rfl)) (fun _ _ _ _ _ => pts_nil) (fun _ _ _ _ _ => pe_op op_add_str pe_str (pv 11)))
      (pss_cons (ps_set (i := 5) sc_law.nd rfl (.inl rfl) pe_non)
      (C8.pss_cut (ps_if (pt_cmpR op_gt (pe_ix ix_list (pv 3) pe_int (fun _ _ => rfl)) pe_int (nomark _)) (pss_one (ps_set (i := 5) sc_law.nd rfl (.inl rfl) pe_int)) pss_nil)
      (C8.pss_cut (ps_for PassesOwn.never rfl (pi_range2 rfl G.range (pa_cons pe_int (pa_cons pe_int pa_nil))) (pg_name (i := 6) sc_law.nd rfl (.inl rfl))
        (C8.pss_cut (ps_if (PW.pt (pw_and (pt_cmp (pc_isN (pv 5))) (pw_and1 (pt_cmpR op_gt (pe_ix ix_list (pv 3) (pv 6) (fun _ _ => rfl)) (pe_ix ix_list (pe_lst (pa_cons pe_int (pa_cons pe_int (pa_cons pe_int (pa_cons pe_int pa_nil))))) (pv 6) (fun _ _ => rfl)) (nomark _)))))
          (pss_one (ps_set (i := 5) sc_law.nd rfl (.inl rfl) (pe_op op_add (pe_callB call_len_seq rfl G.len PySem.boot_len (pa_cons (pv 4) pa_nil)) (pe_ix ix_list (pe_lst (pa_cons pe_int (pa_cons pe_int (pa_cons pe_int (pa_cons pe_int pa_nil))))) (pv 6) (fun _ _ => rfl))))) pss_nil)
        (pss_one (ps_set (i := 4) sc_law.nd rfl (.inl rfl) (pe_op op_cat (pv 4) (pe_call GK hr1 rfl gK kK bK .nil pass0 (pa_cons (pv 2) (pa_cons (pv 6) (pa_cons (pe_ix ix_list (pv 3) (pv 6) (fun _ _ => rfl)) (pa_cons (pe_ix ix_list (pv 1) pe_int (fun _ _ => rfl)) pa_nil))))))))))
      (C8.pss_cut (ps_if (PW.pt (pw_and (pt_cmpR op_eq (pe_op op_mod (pe_ix ix_list (pv 1) pe_int (fun _ _ => rfl)) pe_int) pe_int (nomark _))
          (pw_and1 (pt_cmpR op_gt (pe_callB call_len_seq rfl G.len PySem.boot_len (pa_cons (pv 4) pa_nil)) (pe_ix ix_list (pv 3) pe_int (fun _ _ => rfl)) (nomark _)))))
        (C8.pss_cut (ps_set (i := 7) sc_law.nd rfl (.inl rfl) (pe_op op_add (pe_ix ix_list (pv 3) pe_int (fun _ _ => rfl)) (pe_op op_mod (pe_op op_fdiv (pe_ix ix_list (pv 1) pe_int (fun _ _ => rfl)) pe_int)
          (pe_op op_sub (pe_callB call_len_seq rfl G.len PySem.boot_len (pa_cons (pv 4) pa_nil)) (pe_ix ix_list (pv 3) pe_int (fun _ _ => rfl))))))
        (pss_cons (ps_asg (pe_op op_add_str (pe_op op_add_str (pe_op op_add_str (pe_ix ix_list (pv 2) pe_int (fun _ _ => rfl)) pe_str) (pe_op KnX.op_reps pe_str pe_int)) pe_str) (pg_sub (pv 4) (pv 7) set_list))
        (pss_one (ps_if (PW.pt (pw_or (pt_cmp (pc_isN (pv 5))) (pw_or1 (pt_cmpR op_lt (pv 7) (pv 5) (nomark _))))) (pss_one (ps_set (i := 5) sc_law.nd rfl (.inl rfl) (pv 7))) pss_nil)))) pss_nil)
      (pss_cons (ps_set (i := 8) sc_law.nd rfl (.inl rfl) pe_non)
      (pss_cons (ps_try_as (i := 9) (tb := fun W => tAsg (tCallS (spRead CB CN) (WE W) (tCons (tJoin K) tNil)) (gName 8)) (ts := tSuite CN) (Wout := fun _ _ _ _ => False) rfl rfl sc_law.nd rfl rfl ⟨rfl, by decide, .inl T.row.mg⟩ takes0
        (fun W pn xe tk _ => pss_one (ps_set (i := 8) sc_law.nd rfl (.inl rfl) (by exact (pe_callS GR hr rfl gR kR bR (fun σ => passAt tk σ) (by exact (pa_cons (pe_join pe_str (pv 4)) pa_nil))))))
        (fun a oe cls d pn hz hf => pss_one (ps_ret (by exact (pe_and (pe_cmp (pc_notN (pv 5)) rfl) (pe_one (pe_cmpR op_eq (pe_xf T.xf T.row.noR hz hf (pv 9)) (pv 5) (nomark _))))))))
      (pss_cons (ps_set (i := 10) sc_law.nd rfl (.inl rfl) (pe_lst (pa_cons (pe_callB call_len_seq rfl G.len PySem.boot_len (pa_cons (pe_meth0 (pv 8) T.cl m1 G1 hr1 b1 .nil pass0) pa_nil))
        (pa_cons (pe_callB call_len_seq rfl G.len PySem.boot_len (pa_cons (pe_meth0 (pv 8) T.cl m2 G2 hr1 b2 .nil pass0) pa_nil))
        (pa_cons (pe_callB call_len_seq rfl G.len PySem.boot_len (pa_cons (pe_meth0 (pv 8) T.cl m3 G3 hr1 b3 .nil pass0) pa_nil))
        (pa_cons (pe_callB call_len_seq rfl G.len PySem.boot_len (pa_cons (pe_meth0 (pv 8) T.cl m4 G4 hr1 b4 .nil pass0) pa_nil)) pa_nil))))))
      (pss_one (ps_ret (pe_and (pe_cmp (pc_isN (pv 5)) rfl) (pe_one (pe_cmpR (op_eqD hu) (pv 10) (pv 3) (nomark _))))))))))))))))), ?_⟩
    have sz : ∀ {n : Nat}, n ≤ 1000 → n ≤ sizeLine := fun {n} h => by
      rw [sizeLine_eq]
      omega
    -- the cells
    refine ⟨fun σ' H' => ∃ (c : Addr) (x : Nat → Int), σ' = [some (.ref a), some (.ref c), none, none, none, none, none, none, none, none, none, none] ∧ H' c = some (.lst (sevenV x)), ?_, ?_⟩
    · refine ⟨_, rfl, by show 7 ≤ sizeLine; decide, fun z nz => ?_⟩
      have s1 := same_upd (o := .lst [V.int 0, V.int 0, V.int 0, V.int 0, V.int 0, V.int 0, V.int 0]) nz
      refine ⟨a, z, _, _, rfl, rfl, s1.seq hS, SqL.of upd_same, sz (by rw [List.length_map]; show _ + 7 ≤ _; omega), fun t nt => ?_⟩
      refine ⟨7, rfl, t, _, rfl, SqL.of upd_same, fun c nc => ⟨c, fun i => (ns ++ [0, 0, 0, 0, 0, 0, 0]).getD i 0, rfl, ?_⟩⟩
      have e : ns.map V.int ++ [V.int 0, V.int 0, V.int 0, V.int 0, V.int 0, V.int 0, V.int 0] = (ns ++ [0, 0, 0, 0, 0, 0, 0]).map V.int := by
        rw [List.map_append]
        rfl
      rw [upd_same, e, cells_cut _ (by rw [List.length_append]; show 7 ≤ _ + 7; omega)]
    rintro σ1 H1 ⟨c, x, rfl, hc⟩
    -- the names
    refine ⟨fun σ' H' => ∃ (p : Addr) (ns : List Str), σ' = [some (.ref a), some (.ref c), some (.ref p), none, none, none, none, none, none, none, none, none] ∧ H' c = some (.lst (sevenV x)) ∧ H' p = some (.lst (ns.map V.str)) ∧ ns.length = 24 ∧ (∀ z ∈ ns, Good z) ∧ (ns ++ [cwS, cxS]).Nodup, ?_, ?_⟩
    · exact ⟨_, rfl, c, _, 5, _, rfl, rfl, SqL.of hc, atI_nat (j := 5) rfl, x 5, rfl, fun p H' ns s1 hp len good nd => ⟨p, ns, rfl, s1 _ _ hc, hp, len, good, nd⟩⟩
    rintro σ2 H2 ⟨p0, ns0, rfl, hc2, hp0, len0, good0, nd0⟩
    refine ⟨fun σ' H' => ∃ (p : Addr) (ns : List Str), σ' = [some (.ref a), some (.ref c), some (.ref p), none, none, none, none, none, none, none, none, none] ∧ H' c = some (.lst (sevenV x)) ∧ H' p = some (.lst (ns.map V.str)) ∧ ns.length = 26 ∧ (∀ z ∈ ns, Good z) ∧ ns.Nodup, ?_, ?_⟩
    · have lc : (Txt.mul "c" 11).length = 11 := by decide +kernel
      refine ⟨_, rfl, _, _, rfl, rfl, mulC, _, _, rfl, rfl, sz (by rw [lc]; decide +kernel), _, _, rfl, rfl, mulC, _, _, rfl, rfl, sz (by rw [lc]; decide +kernel), by show 2 ≤ sizeLine; decide, fun d nd => ?_⟩
      rw [cw_eq, cx_eq]
      have s1 := same_upd (o := .lst [V.str cwS, V.str cxS]) nd
      refine ⟨p0, d, _, _, rfl, rfl, s1 _ _ hp0, upd_same, sz (by rw [List.length_map, len0]; decide), fun p np => ⟨p, ns0 ++ [cwS, cxS], rfl, same_upd np _ _ (s1 _ _ hc2), ?_, ?_, fun z hz => ?_, nd0⟩⟩
      · rw [upd_same, List.map_append]
        rfl
      · rw [List.length_append, len0]
        rfl
      · rcases List.mem_append.mp hz with hz | hz
        · exact good0 z hz
        · rcases List.mem_cons.mp hz with rfl | hz
          · exact good_cw
          · rw [List.mem_singleton.mp hz]
            exact good_cx
    rintro σ3 H3 ⟨p, nm, rfl, hc3, hp3, len3, good3, nd3⟩
    -- how many
    refine ⟨fun σ' H' => ∃ (u : Addr) (n : Nat → Nat), σ' = [some (.ref a), some (.ref c), some (.ref p), some (.ref u), none, none, none, none, none, none, none, none] ∧ H' c = some (.lst (sevenV x)) ∧ H' p = some (.lst (nm.map V.str)) ∧ H' u = some (.lst (fourV n)) ∧ Many n, ?_, ?_⟩
    · exact ⟨_, rfl, c, x, rfl, hc3, fun u H' n s1 hu' mn => ⟨u, n, rfl, s1 _ _ hc3, s1 _ _ hp3, hu', mn⟩⟩
    rintro σ4 H4 ⟨u, n, rfl, hc4, hp4, hu4, mn⟩
    obtain ⟨n2, nall⟩ := mn.n0
    have n26 := mn.n0u
    obtain ⟨x0, y0, rest, enm⟩ : ∃ x0 y0 rest, nm = x0 :: y0 :: rest := by
      match nm, len3 with
      | x0 :: y0 :: rest, _ => exact ⟨x0, y0, rest, rfl⟩
    have e0 : nm[0]? = some x0 := by rw [enm]; rfl
    have e1 : nm[1]? = some y0 := by rw [enm]; rfl
    have gx := good3 x0 (List.mem_of_getElem? e0)
    have gy := good3 y0 (List.mem_of_getElem? e1)
    have nxy : x0 ≠ y0 := fun z => by
      rw [z] at e0
      have := nd_ix nd3 e0 e1
      omega
    generalize hps : nm.take (n 0) = ps
    have lps : ps.length = n 0 := by
      rw [← hps, List.length_take, len3]
      omega
    have gps : ∀ z ∈ ps, Good z := fun z hz => by
      rw [← hps] at hz
      exact good3 z (List.mem_of_mem_take hz)
    have ndps : ps.Nodup := by
      rw [← hps]
      exact nd3.sublist (List.take_sublist _ _)
    have xps : x0 ∈ ps := by
      refine List.mem_of_getElem? (i := 0) ?_
      rw [← hps, List.getElem?_take, if_pos (by omega), e0]
    have yps : y0 ∈ ps := by
      refine List.mem_of_getElem? (i := 1) ?_
      rw [← hps, List.getElem?_take, if_pos (by omega), e1]
    -- the persons' rows
    refine ⟨fun σ' H' => ∃ L : Addr, σ' = [some (.ref a), some (.ref c), some (.ref p), some (.ref u), some (.ref L), none, none, none, none, none, none, none] ∧ H' c = some (.lst (sevenV x)) ∧ H' p = some (.lst (nm.map V.str)) ∧ H' u = some (.lst (fourV n)) ∧
      H' L = some (.lst (rowsV (ps.map Row.person))) ∧ L ≠ u, ?_, ?_⟩
    · refine ⟨_, rfl, _, rfl, u, _, 0, _, rfl, rfl, SqL.of hu4, atI_nat (j := 0) rfl, (n 0 : Int), rfl, p, _, rfl, SqL.of hp4, fun s ns' => ?_⟩
      rw [cut_list (by rw [List.length_map]; omega), ← List.map_take, hps]
      have s5 := same_upd (o := .lst (ps.map V.str)) ns'
      refine ⟨s, rfl, ⟨_, SqL.of upd_same⟩, fun D nD => lc_list (K := K) (a := s) (xs := ps.map V.str) (fun i H' => Same (upd H4 s (.lst (ps.map V.str))) H' ∧ H' D = some (.lst (rowsV ((ps.take i).map Row.person)))) ⟨same_upd nD, upd_same⟩ (fun i H' _ z => SqL.of (z.1 _ _ upd_same)) ?_ ?_⟩
      · rintro i v H' hi ⟨sm, hD⟩
        rw [List.getElem?_map] at hi
        obtain ⟨z, ez, rfl⟩ := Option.map_eq_some_iff.mp hi
        have gz := gps z (List.mem_of_getElem? ez)
        have hil := (List.getElem?_eq_some_iff.mp ez).1
        refine ⟨rfl, ?_⟩
        unfold tYes
        dsimp only
        refine iteT ⟨_, rfl, _, _, rfl, rfl, fit (m := 7) (by unfold Sh; decide +kernel) gz.sh (by decide), _, hD, ?_, fun b o e => ?_, ?_⟩
        · unfold rowsV
          rw [List.length_map, List.length_map, List.length_take, sizeLine_eq]
          omega
        · rw [upd_ne (ne_of_none e nD)]
          exact sm b o e
        · rw [upd_same, w_person, List.take_add_one, ez]
          unfold rowsV
          rw [List.map_append, List.map_append]
          rfl
      · rintro H' ⟨sm, hD⟩
        have full : (ps.map V.str).length = ps.length := List.length_map _
        rw [full, List.take_length] at hD
        exact ⟨D, rfl, sm _ _ (s5 _ _ hc4), sm _ _ (s5 _ _ hp4), sm _ _ (s5 _ _ hu4), hD, (ne_of_none (s5 _ _ hu4) nD).symm⟩
    rintro σ5 H5 ⟨L, rfl, hc5, hp5, hu5, hL5, nLu⟩
    -- due
    refine ⟨fun σ' H' => σ' = [some (.ref a), some (.ref c), some (.ref p), some (.ref u), some (.ref L), some (dueV (if 24 < n 0 then some 24 else none)), none, none, none, none, none, none] ∧ H' = H5, ?_, ?_⟩
    · refine ⟨_, rfl, u, _, 0, _, rfl, rfl, SqL.of hu5, atI_nat (j := 0) rfl, _, _, rfl, rfl, _, rfl, ite2 (fun hh => ?_) (fun hh => ?_)⟩
      · have h1 : (n 0 : Int) > 24 := of_decide_eq_true hh
        rw [if_pos (show 24 < n 0 by omega)]
        exact ⟨rfl, rfl⟩
      · have h1 : ¬ (n 0 : Int) > 24 := fun z => hh (decide_eq_true z)
        rw [if_neg (show ¬ 24 < n 0 by omega)]
        exact ⟨rfl, rfl⟩
    rintro σ6 H6 ⟨rfl, rfl⟩
    -- the other kinds
    refine ⟨fun σ' H' => ∃ (L : Addr) (R : List Row) (D : Option Nat) (y6 : Option V), σ' = [some (.ref a), some (.ref c), some (.ref p), some (.ref u), some (.ref L), some (dueV D), y6, none, none, none, none, none] ∧ H' c = some (.lst (sevenV x)) ∧ H' p = some (.lst (nm.map V.str)) ∧ H' u = some (.lst (fourV n)) ∧
      H' L = some (.lst (rowsV R)) ∧ L ≠ u ∧ Stage n ps 3 R D ∧ R.length ≤ 800, ?_, ?_⟩
    · refine ⟨1, 4, rfl, ⟨by decide, by decide, by decide, by decide⟩, for_range (lo := 1) (n := 3) (fun i σ' H' => ∃ (L : Addr) (R : List Row) (D : Option Nat) (y6 : Option V), σ' = [some (.ref a), some (.ref c), some (.ref p), some (.ref u), some (.ref L), some (dueV D), y6, none, none, none, none, none] ∧ H' c = some (.lst (sevenV x)) ∧ H' p = some (.lst (nm.map V.str)) ∧ H' u = some (.lst (fourV n)) ∧
        H' L = some (.lst (rowsV R)) ∧ L ≠ u ∧ Stage n ps i R D ∧ R.length ≤ 200 * (i + 1)) ⟨L, _, _, none, rfl, hc5, hp5, hu5, hL5, nLu, Stage.start lps gps ndps, by rw [List.length_map, lps]; omega⟩ ?_ ?_⟩
      · rintro i σ7 H7 hi ⟨L, R, D, y6, rfl, hc7, hp7, hu7, hL7, nLu7, st, lR⟩
        rw [show (1 : Int) + (i : Int) = ((i + 1 : Nat) : Int) by omega]
        have hi4 : i + 1 < 4 := by omega
        refine ⟨fun σ' H' => σ' = [some (.ref a), some (.ref c), some (.ref p), some (.ref u), some (.ref L), some (dueV (if D = none ∧ mostOf (i + 1) < n (i + 1) then some (R.length + mostOf (i + 1)) else D)), some (.int ((i + 1 : Nat) : Int)), none, none, none, none, none] ∧ Same H7 H', ?_, ?_⟩
        · cases D with
          | some d =>
            rw [if_neg fun z => by cases z.1]
            exact ⟨_, rfl, _, rfl, iteF (iteF ⟨rfl, Same.refl _⟩)⟩
          | none =>
            refine ⟨_, rfl, _, rfl, iteT ?_⟩
            refine ⟨_, rfl, _, rfl, u, _, _, _, rfl, rfl, SqL.of hu7, fourV_at hi4, by show 4 ≤ sizeLine; decide, fun t nt => ⟨_, rfl, t, mostV, _, _, rfl, rfl, SqL.of upd_same, most_at hi4, _, _, rfl, rfl, _, rfl, ite2 (fun hh => ?_) (fun hh => ?_)⟩⟩
            · have h1 : (n (i + 1) : Int) > (mostOf (i + 1) : Int) := of_decide_eq_true hh
              rw [if_pos (show none = none ∧ mostOf (i + 1) < n (i + 1) from ⟨rfl, by omega⟩)]
              have s8 := same_upd (o := .lst [V.int 24, V.int 24, V.int 120, V.int 60]) nt
              refine ⟨_, rfl, L, _, rfl, .inl (SqL.of (s8 _ _ hL7)), by show 4 ≤ sizeLine; decide, fun t2 nt2 => ⟨_, rfl, t2, mostV, _, _, rfl, rfl, SqL.of upd_same, most_at hi4, _, _, rfl, rfl, ?_, s8.trans (same_upd nt2)⟩⟩
              unfold rowsV
              rw [List.length_map]
              rfl
            · have h1 : ¬ (n (i + 1) : Int) > (mostOf (i + 1) : Int) := fun z => hh (decide_eq_true z)
              rw [if_neg (fun z : none = none ∧ mostOf (i + 1) < n (i + 1) => by have := z.2; omega)]
              exact ⟨rfl, same_upd nt⟩
        rintro σ8 H8 ⟨rfl, s8⟩
        have h2 := nall (i + 1) hi4
        refine ⟨_, rfl, _, rfl, _, rfl, _, rfl, _, rfl, u, _, _, _, rfl, rfl, SqL.of (s8 _ _ hu7), fourV_at hi4, _, rfl, c, _, 6, _, rfl, rfl, SqL.of (s8 _ _ hc7), atI_nat (j := 6) rfl, p, i + 1, n (i + 1), x 6, nm, x0, y0, rfl, s8 _ _ hp7, e0, e1, nxy, gx, gy, by omega, by omega, by omega, fun B H9 RB s9 nB hB lB okB => ?_⟩
        have s79 := s8.trans s9
        have lrow : (rowsV R).length = R.length := List.length_map _
        have lrowB : (rowsV RB).length = RB.length := List.length_map _
        refine ⟨L, B, _, _, rfl, rfl, s79 _ _ hL7, hB, sz (by omega), fun L2 nL2 => ?_⟩
        have s10 := same_upd (o := .lst (rowsV R ++ rowsV RB)) nL2
        refine ⟨L2, R ++ RB, _, _, rfl, s10 _ _ (s79 _ _ hc7), s10 _ _ (s79 _ _ hp7), s10 _ _ (s79 _ _ hu7), ?_, (ne_of_none (s79 _ _ hu7) nL2).symm, st.more mn (by omega) okB lB xps yps, ?_⟩
        · rw [upd_same]
          unfold rowsV
          rw [List.map_append]
        · rw [List.length_append, lB]
          omega
      · rintro σ7 H7 ⟨L, R, D, y6, rfl, hc7, hp7, hu7, hL7, nLu7, st, lR⟩
        exact ⟨L, R, D, y6, rfl, hc7, hp7, hu7, hL7, nLu7, st, by omega⟩
    rintro σ7 H7 ⟨L, R, D, y6, rfl, hc7, hp7, hu7, hL7, nLu7, st, lR⟩
    have made : ∀ r ∈ R, Made r := fun r hr => by
      obtain ⟨j, hj⟩ := List.mem_iff_getElem?.mp hr
      refine ⟨_, (st.ok j r hj).1, fun z hz => gps z ?_⟩
      obtain ⟨rest, er, hrest⟩ := st.pre
      have : personsOf R = ps := by rw [er, personsOf_app, personsOf_map, personsOf_none hrest, List.append_nil]
      rw [← this, ← List.take_append_drop j R, personsOf_app]
      exact List.mem_append_left _ hz
    have lrow : (rowsV R).length = R.length := List.length_map _
    have lps1 : 1 ≤ ps.length := by omega
    have pre : ps.length ≤ R.length := by
      obtain ⟨rest, er, _⟩ := st.pre
      rw [er, List.length_append, List.length_map]
      omega
    -- an hour too late
    refine ⟨fun σ' H' => ∃ (R : List Row) (D : Option Nat) (y6 y7 : Option V), σ' = [some (.ref a), some (.ref c), some (.ref p), some (.ref u), some (.ref L), some (dueV D), y6, y7, none, none, none, none] ∧ H' u = some (.lst (fourV n)) ∧ H' L = some (.lst (rowsV R)) ∧ Told R D ∧
      (∀ r ∈ R, Made r) ∧ R.length ≤ 800 ∧ R ≠ [] ∧ (D = none → ∀ k, k < 4 → countOf k R = n k), ?_, ?_⟩
    · have stay : ∃ (R' : List Row) (D' : Option Nat) (y6' y7' : Option V), [some (V.ref a), some (V.ref c), some (V.ref p), some (V.ref u), some (V.ref L), some (dueV D), y6, none, none, none, none, none] = [some (V.ref a), some (V.ref c), some (V.ref p), some (V.ref u), some (V.ref L), some (dueV D'), y6', y7', none, none, none, none] ∧ H7 u = some (.lst (fourV n)) ∧ H7 L = some (.lst (rowsV R')) ∧ Told R' D' ∧
          (∀ r ∈ R', Made r) ∧ R'.length ≤ 800 ∧ R' ≠ [] ∧ (D' = none → ∀ k, k < 4 → countOf k R' = n k) :=
        ⟨R, D, y6, none, rfl, hu7, hL7, st.told lps1, made, lR, fun z => by rw [z, List.length_nil] at pre; omega, fun _ k hk => st.cnt k (by omega)⟩
      refine ⟨_, rfl, c, _, 6, _, rfl, rfl, SqL.of hc7, atI_nat (j := 6) rfl, _, _, rfl, rfl, (by show (0 : Int) < 4; decide), rfl, _, rfl, ite2 (fun _ => ?_) (fun _ => iteF stay)⟩
      refine ⟨_, rfl, L, _, rfl, .inl (SqL.of hL7), _, rfl, u, _, 0, _, rfl, rfl, SqL.of hu7, atI_nat (j := 0) rfl, _, _, rfl, rfl, _, rfl, ite2 (fun hh => ?_) (fun _ => stay)⟩
      have more : n 0 < R.length := by
        have h1 : (((rowsV R).length : Nat) : Int) > (n 0 : Int) := of_decide_eq_true hh
        omega
      -- its place
      refine ⟨fun σ' H' => ∃ A : Nat, σ' = [some (.ref a), some (.ref c), some (.ref p), some (.ref u), some (.ref L), some (dueV D), y6, some (.int (A : Int)), none, none, none, none] ∧ H' = H7 ∧ n 0 ≤ A ∧ A < R.length, ?_, ?_⟩
      · have pos : (0 : Int) < (((rowsV R).length : Nat) : Int) - (n 0 : Int) := by omega
        have h0 := Int.emod_nonneg (x 6 / 4) (show (((rowsV R).length : Nat) : Int) - (n 0 : Int) ≠ 0 by omega)
        have h1 := Int.emod_lt_of_pos (x 6 / 4) pos
        refine ⟨_, rfl, u, _, 0, _, rfl, rfl, SqL.of hu7, atI_nat (j := 0) rfl, _, rfl, c, _, 6, _, rfl, rfl, SqL.of hc7, atI_nat (j := 6) rfl, _, _, rfl, rfl, ⟨by decide, by decide⟩, _, rfl, L, _, rfl, .inl (SqL.of hL7), _, rfl, u, _, 0, _, rfl, rfl, SqL.of hu7, atI_nat (j := 0) rfl, _, _, rfl, rfl, _, _, rfl, rfl, pos, _, _, rfl, rfl,
          ((n 0 : Int) + x 6 / 4 % ((((rowsV R).length : Nat) : Int) - (n 0 : Int))).toNat, ?_, rfl, by omega, by omega⟩
        rw [Int.toNat_of_nonneg (by omega)]
        rfl
      rintro σ8 H8 ⟨A, rfl, rfl, hA0, hA1⟩
      have n0at : (nm.map V.str)[0]? = some (V.str x0) := by
        rw [List.getElem?_map, e0]
        rfl
      have ix : ixN (rowsV R).length ((A : Nat) : Int) = some A := by
        unfold ixN
        rw [if_pos (by omega), if_pos (by omega), Int.toNat_natCast]
      have sx := gx.sh
      have s17 : Sh 17 (Txt.mul "0" 17) := by unfold Sh; decide +kernel
      have s10 : Sh 10 (" knew by 1" : Str) := by unfold Sh; decide +kernel
      refine ⟨_, rfl, p, _, 0, _, rfl, rfl, SqL.of hp7, atI_nat (j := 0) n0at, _, _, rfl, rfl, fit sx s10 (by decide), _, _, rfl, rfl, mul0, _, _, rfl, rfl, fit (sx.app s10) s17 (by decide), _, _, rfl, rfl, fit ((sx.app s10).app s17) (n := 1) (by unfold Sh; decide +kernel) (by decide),
        _, rfl, _, rfl, L, _, _, A, rfl, rfl, hL7, ix, ?_⟩
      rw [w_late]
      have told := st.late xps (by omega : ps.length ≤ A) hA1
      have eset : (rowsV R).set A (V.str (Row.late x0).text) = rowsV (R.set A (.late x0)) := by
        unfold rowsV
        rw [List.map_set]
      have made2 : ∀ r ∈ R.set A (.late x0), Made r := fun r hr => by
        rcases List.mem_or_eq_of_mem_set hr with h | rfl
        · exact made r h
        · exact ⟨ps, xps, gps⟩
      have ne2 : R.set A (Row.late x0) ≠ [] := fun z => by
        have h1 := congrArg List.length z
        rw [List.length_set, List.length_nil] at h1
        omega
      have len2 : (R.set A (Row.late x0)).length ≤ 800 := by
        rw [List.length_set]
        exact lR
      have hu8 : upd H8 L (.lst ((rowsV R).set A (V.str (Row.late x0).text))) u = some (.lst (fourV n)) := by
        rw [upd_ne (Ne.symm nLu7)]
        exact hu7
      have hL8 : upd H8 L (.lst ((rowsV R).set A (V.str (Row.late x0).text))) L = some (.lst (rowsV (R.set A (.late x0)))) := by
        rw [upd_same, eset]
      cases D with
      | none =>
        refine ⟨_, rfl, _, rfl, iteT (iteT ⟨_, rfl, R.set A (.late x0), some A, y6, some (.int (A : Int)), rfl, hu8, hL8, told, made2, len2, ne2, fun z => by cases z⟩)⟩
      | some d =>
        refine ⟨_, rfl, _, rfl, iteF ⟨_, rfl, _, rfl, _, _, rfl, rfl, _, rfl, ite2 (fun hh => ?_) (fun hh => ?_)⟩⟩
        · have h1 : (A : Int) < (d : Int) := of_decide_eq_true hh
          have e : dueAt (some d) A = some A := if_pos (by omega)
          rw [e] at told
          exact ⟨_, rfl, R.set A (.late x0), some A, y6, some (.int (A : Int)), rfl, hu8, hL8, told, made2, len2, ne2, fun z => by cases z⟩
        · have h1 : ¬ (A : Int) < (d : Int) := fun z => hh (decide_eq_true z)
          have e : dueAt (some d) A = some d := if_neg (by omega)
          rw [e] at told
          exact ⟨R.set A (.late x0), some d, y6, some (.int (A : Int)), rfl, hu8, hL8, told, made2, len2, ne2, fun z => by cases z⟩
    rintro σ8 H8 ⟨R, D, y6, y7, rfl, hu8, hL8, told, made, lR, neR, cnt⟩
    -- the book is read
    have sh : ∀ r ∈ R, Sh 200 r.text := fun r hr => by
      obtain ⟨qs, ok, g⟩ := made r hr
      exact short_of ok g
    have jl := join_len sh
    have js := join_sum sh
    have eL : (R.map Row.text).map V.str = rowsV R := by
      rw [List.map_map]
      rfl
    refine ⟨⟨_, rfl⟩, _, rfl, _, L, R.map Row.text, rfl, rfl, .inl (SqL.of (by rw [eL]; exact hL8)), ?_, ?_⟩
    · rw [List.length_map]
      show _ + R.length * 1 ≤ _
      omega
    refine ⟨R, D, rfl, neR, by omega, fun r hr => ⟨?_, ?_⟩, told.fine, told.due, told.one, fun d hd e H9 s9 he => ?_, fun hd b dx c0 c1 c2 c3 v0 v1 v2 v3 H9 s9 hb h0 h1 h2 h3 l0 l1 l2 l3 => ?_⟩
    · have h1 : r.text.length ≤ 200 := sh r hr
      omega
    · obtain ⟨qs, ok, g⟩ := made r hr
      exact plain_of ok g
    · -- refused
      subst hd
      refine ⟨true, T.em, fun _ ea nea => ⟨_, rfl, _, rfl, iteT ⟨_, rfl, rfl, rfl, e, _, _, rfl, he, rfl, _, rfl, rfl, ?_⟩⟩, fun z => nomatch z⟩
      have e2 : decide (V.int (d : Int) = dueV (some d)) = true := decide_eq_true rfl
      rw [e2]
      exact q _
    · -- a book
      subst hd
      have k0 := l0.trans (cnt rfl 0 (by decide))
      have k1 := l1.trans (cnt rfl 1 (by decide))
      have k2 := l2.trans (cnt rfl 2 (by decide))
      have k3 := l3.trans (cnt rfl 3 (by decide))
      obtain ⟨f1, f2, f3, f4⟩ := look1 c0 c1 c2 c3
      obtain ⟨w1, w2, w3, w4⟩ := look2 c0 c1 c2 c3
      refine ⟨_, rfl, b, dx, _, rfl, hb, f1, b, dx, c0, _, v0, rfl, hb, w1, h0, fun a1 HA sA eA => ⟨a1, _, rfl, .inl (SqL.of eA), ?_⟩⟩
      refine ⟨_, rfl, b, dx, _, rfl, sA _ _ hb, f2, b, dx, c1, _, v1, rfl, sA _ _ hb, w2, sA _ _ h1, fun a2 HB sB eB => ⟨a2, _, rfl, .inl (SqL.of eB), ?_⟩⟩
      have sAB := sA.trans sB
      refine ⟨_, rfl, b, dx, _, rfl, sAB _ _ hb, f3, b, dx, c2, _, v2, rfl, sAB _ _ hb, w3, sAB _ _ h2, fun a3 HC sC eC => ⟨a3, _, rfl, .inl (SqL.of eC), ?_⟩⟩
      have sAC := sAB.trans sC
      refine ⟨_, rfl, b, dx, _, rfl, sAC _ _ hb, f4, b, dx, c3, _, v3, rfl, sAC _ _ hb, w4, sAC _ _ h3, fun a4 HD sD eD => ⟨a4, _, rfl, .inl (SqL.of eD), by show 4 ≤ sizeLine; decide, fun t nt => ?_⟩⟩
      have sAD := (s9.trans sAC).trans sD
      have e4 : ([V.int ((v0.length : Nat) : Int), V.int ((v1.length : Nat) : Int), V.int ((v2.length : Nat) : Int), V.int ((v3.length : Nat) : Int)] : List V) = fourV n := by
        rw [k0, k1, k2, k3]
        rfl
      rw [e4]
      refine ⟨_, rfl, _, rfl, iteT ⟨_, rfl, _, rfl, _, _, fourD_dp (n := n) upd_same, fourD_dp (n := n) (same_upd nt _ _ (sAD _ _ hu8)), fourD_sh n, fourD_sh n, ?_⟩⟩
      rw [fourD_eq]
      exact q _
end
end Kn

/-! KnZ: what the top has written; the end (printed by gen_end.py). -/
namespace Kn
open PySem PySem.Spec PyProof.Rows L2
theorem exm_self {K : PySem.W.Frag} {S : Addr} (h1 : PySem.W.subIn K (.ref S) (.type "BaseException") = some true) (h2 : PySem.W.isClsIn K S = true) (h3 : PySem.W.typeIn K (.ref S) = some (.type "type")) (h4 : PySem.W.subIn K (.ref S) (.ref S) = some true) :
    PySem.W.exmOne K (.ref S) (.ref S) = some true := by
  have e1 : (PySem.W.subIn K (.ref S) (.type "BaseException") == some true) = true := by rw [h1] <;> rfl
  have e2 : ((PySem.W.clsIn K S).isSome && PySem.W.typeIn K (.ref S) == some (.type "type")) = true := by
    have h2' : (PySem.W.clsIn K S).isSome = true := h2
    rw [h2', h3] <;> rfl
  show (if (PySem.W.subIn K (.ref S) (.type "BaseException") == some true) = true then (if ((PySem.W.clsIn K S).isSome && PySem.W.typeIn K (.ref S) == some (.type "type")) = true then PySem.W.subIn K (.ref S) (.ref S) else none) else none) = some true
  rw [if_pos e1, if_pos e2]
  exact h4
theorem all_mk {l : PySem.W.OpenLaw} {w : World} {K : PySem.W.Frag} {h : Heap} {mg : Str → Option Value} {fa aB CB CN aKept aKinds aMost fW fH fN fO fP fT fS fD fK fY fA fHI fYI fKI fTB fRB fLN fLM fLK fLW fB0 fB1 fB2 fB3 fB4 fR0 : Addr}
    {odW anW odH anH odN anN odO anO odP anP odT anT odS anS odD anD odK anK odY anY odA anA odHI anHI odYI anYI odKI anKI odTB anTB odRB anRB odLN anLN odLM anLM odLK anLK odLW anLW odB0 anB0 odB1 anB1 odB2 anB2 odB3 anB3 odB4 anB4 odR0 anR0 ddN : Option Addr}
    {slW slH slN slO slP slT slS slD slK slY slA slHI slYI slKI slTB slRB slLN slLM slLK slLW slB0 slB1 slB2 slB3 slB4 slR0 sl_kept sl_kinds sl_most : Array (Option Value)}
    {ocW kVW dcW pmW cdW ctW ocH kVH dcH pmH cdH ctH ocN kVN dcN pmN cdN ctN ocO kVO dcO pmO cdO ctO ocP kVP dcP pmP cdP ctP ocT kVT dcT pmT cdT ctT ocS kVS dcS pmS cdS ctS ocD kVD dcD pmD cdD ctD ocK kVK dcK pmK cdK ctK ocY kVY dcY pmY cdY ctY ocA kVA dcA pmA cdA ctA ocHI kVHI dcHI pmHI cdHI ctHI ocYI kVYI dcYI pmYI cdYI ctYI ocKI kVKI dcKI pmKI cdKI ctKI ocTB kVTB dcTB pmTB cdTB ctTB ocRB kVRB dcRB pmRB cdRB ctRB ocLN kVLN dcLN pmLN cdLN ctLN ocLM kVLM dcLM pmLM cdLM ctLM ocLK kVLK dcLK pmLK cdLK ctLK ocLW kVLW dcLW pmLW cdLW ctLW ocB0 kVB0 dcB0 pmB0 cdB0 ctB0 ocB1 kVB1 dcB1 pmB1 cdB1 ctB1 ocB2 kVB2 dcB2 pmB2 cdB2 ctB2 ocB3 kVB3 dcB3 pmB3 cdB3 ctB3 ocB4 kVB4 dcB4 pmB4 cdB4 ctB4 ocR0 kVR0 dcR0 pmR0 cdR0 ctR0 : Value}
    {nmN qN : Str} {NN : Addr} {bsN : List Value} {snN : List Str} {subN : List Value} {abN : Bool} {colN : Option Bool} {m0N m1N m2N m3N m5N : Option Value}
    {t_letters t_figures t_longest t_lastH t_mPersons t_mSights t_mTalks t_mSayings t_mWords t_mFigures : Tok}
    {its_kept its_kinds its_most : Array Value} {n_kept n_kinds n_most : Nat}
    (X : K.In h) (G : h.Ns mainGlobals mg) (hfa : mg "law" = some (.ref fa))
    (aW : PySem.W.nsIn K mainGlobals "is_whole" = some (some (.ref fW)))
    (lW : K.lookup fW = some ⟨ocW, odW, .func (PySem.W.fnOf "is_whole" "is_whole" (defArgs sWhole) (defBody sWhole) (defScope sWhole) .none kVW dcW pmW anW cdW ctW), slW⟩)
    (cW : PySem.W.codeIn K cdW "is_whole" = true)
    (kW : PySem.W.keepIn K (.ref fW) = true)
    (aH : PySem.W.nsIn K mainGlobals "is_hour" = some (some (.ref fH)))
    (lH : K.lookup fH = some ⟨ocH, odH, .func (PySem.W.fnOf "is_hour" "is_hour" (defArgs sHour) (defBody sHour) (defScope sHour) .none kVH dcH pmH anH cdH ctH), slH⟩)
    (cH : PySem.W.codeIn K cdH "is_hour" = true)
    (kH : PySem.W.keepIn K (.ref fH) = true)
    (aN : PySem.W.nsIn K mainGlobals "is_name" = some (some (.ref fN)))
    (lN : K.lookup fN = some ⟨ocN, odN, .func (PySem.W.fnOf "is_name" "is_name" (defArgs sName) (defBody sName) (defScope sName) .none kVN dcN pmN anN cdN ctN), slN⟩)
    (cN : PySem.W.codeIn K cdN "is_name" = true)
    (kN : PySem.W.keepIn K (.ref fN) = true)
    (aO : PySem.W.nsIn K mainGlobals "is_tuple_of" = some (some (.ref fO)))
    (lO : K.lookup fO = some ⟨ocO, odO, .func (PySem.W.fnOf "is_tuple_of" "is_tuple_of" (defArgs sTupOf) (defBody sTupOf) (defScope sTupOf) .none kVO dcO pmO anO cdO ctO), slO⟩)
    (cO : PySem.W.codeIn K cdO "is_tuple_of" = true)
    (kO : PySem.W.keepIn K (.ref fO) = true)
    (aP : PySem.W.nsIn K mainGlobals "are_persons" = some (some (.ref fP)))
    (lP : K.lookup fP = some ⟨ocP, odP, .func (PySem.W.fnOf "are_persons" "are_persons" (defArgs sArePersons) (defBody sArePersons) (defScope sArePersons) .none kVP dcP pmP anP cdP ctP), slP⟩)
    (cP : PySem.W.codeIn K cdP "are_persons" = true)
    (kP : PySem.W.keepIn K (.ref fP) = true)
    (aT : PySem.W.nsIn K mainGlobals "is_tale" = some (some (.ref fT)))
    (lT : K.lookup fT = some ⟨ocT, odT, .func (PySem.W.fnOf "is_tale" "is_tale" (defArgs sTale) (defBody sTale) (defScope sTale) .none kVT dcT pmT anT cdT ctT), slT⟩)
    (cT : PySem.W.codeIn K cdT "is_tale" = true)
    (kT : PySem.W.keepIn K (.ref fT) = true)
    (aS : PySem.W.nsIn K mainGlobals "is_sight" = some (some (.ref fS)))
    (lS : K.lookup fS = some ⟨ocS, odS, .func (PySem.W.fnOf "is_sight" "is_sight" (defArgs sSight) (defBody sSight) (defScope sSight) .none kVS dcS pmS anS cdS ctS), slS⟩)
    (cS : PySem.W.codeIn K cdS "is_sight" = true)
    (kS : PySem.W.keepIn K (.ref fS) = true)
    (aD : PySem.W.nsIn K mainGlobals "are_two" = some (some (.ref fD)))
    (lD : K.lookup fD = some ⟨ocD, odD, .func (PySem.W.fnOf "are_two" "are_two" (defArgs sTwo) (defBody sTwo) (defScope sTwo) .none kVD dcD pmD anD cdD ctD), slD⟩)
    (cD : PySem.W.codeIn K cdD "are_two" = true)
    (kD : PySem.W.keepIn K (.ref fD) = true)
    (aK : PySem.W.nsIn K mainGlobals "is_talk" = some (some (.ref fK)))
    (lK : K.lookup fK = some ⟨ocK, odK, .func (PySem.W.fnOf "is_talk" "is_talk" (defArgs sTalk) (defBody sTalk) (defScope sTalk) .none kVK dcK pmK anK cdK ctK), slK⟩)
    (cK : PySem.W.codeIn K cdK "is_talk" = true)
    (kK : PySem.W.keepIn K (.ref fK) = true)
    (aY : PySem.W.nsIn K mainGlobals "is_saying" = some (some (.ref fY)))
    (lY : K.lookup fY = some ⟨ocY, odY, .func (PySem.W.fnOf "is_saying" "is_saying" (defArgs sSaying) (defBody sSaying) (defScope sSaying) .none kVY dcY pmY anY cdY ctY), slY⟩)
    (cY : PySem.W.codeIn K cdY "is_saying" = true)
    (kY : PySem.W.keepIn K (.ref fY) = true)
    (aA : PySem.W.nsIn K mainGlobals "are_all" = some (some (.ref fA)))
    (lA : K.lookup fA = some ⟨ocA, odA, .func (PySem.W.fnOf "are_all" "are_all" (defArgs sAll) (defBody sAll) (defScope sAll) .none kVA dcA pmA anA cdA ctA), slA⟩)
    (cA : PySem.W.codeIn K cdA "are_all" = true)
    (kA : PySem.W.keepIn K (.ref fA) = true)
    (aHI : PySem.W.nsIn K mainGlobals "hour_in" = some (some (.ref fHI)))
    (lHI : K.lookup fHI = some ⟨ocHI, odHI, .func (PySem.W.fnOf "hour_in" "hour_in" (defArgs sHourIn) (defBody sHourIn) (defScope sHourIn) .none kVHI dcHI pmHI anHI cdHI ctHI), slHI⟩)
    (cHI : PySem.W.codeIn K cdHI "hour_in" = true)
    (kHI : PySem.W.keepIn K (.ref fHI) = true)
    (aYI : PySem.W.nsIn K mainGlobals "saying_in" = some (some (.ref fYI)))
    (lYI : K.lookup fYI = some ⟨ocYI, odYI, .func (PySem.W.fnOf "saying_in" "saying_in" (defArgs sSayingIn) (defBody sSayingIn) (defScope sSayingIn) .none kVYI dcYI pmYI anYI cdYI ctYI), slYI⟩)
    (cYI : PySem.W.codeIn K cdYI "saying_in" = true)
    (kYI : PySem.W.keepIn K (.ref fYI) = true)
    (aKI : PySem.W.nsIn K mainGlobals "talk_in" = some (some (.ref fKI)))
    (lKI : K.lookup fKI = some ⟨ocKI, odKI, .func (PySem.W.fnOf "talk_in" "talk_in" (defArgs sTalkIn) (defBody sTalkIn) (defScope sTalkIn) .none kVKI dcKI pmKI anKI cdKI ctKI), slKI⟩)
    (cKI : PySem.W.codeIn K cdKI "talk_in" = true)
    (kKI : PySem.W.keepIn K (.ref fKI) = true)
    (aTB : PySem.W.nsIn K mainGlobals "told_by" = some (some (.ref fTB)))
    (lTB : K.lookup fTB = some ⟨ocTB, odTB, .func (PySem.W.fnOf "told_by" "told_by" (defArgs sTold) (defBody sTold) (defScope sTold) .none kVTB dcTB pmTB anTB cdTB ctTB), slTB⟩)
    (cTB : PySem.W.codeIn K cdTB "told_by" = true)
    (kTB : PySem.W.keepIn K (.ref fTB) = true)
    (aRB : PySem.W.nsIn K mainGlobals "read_book" = some (some (.ref fRB)))
    (lRB : K.lookup fRB = some ⟨ocRB, odRB, .func (PySem.W.fnOf "read_book" "read_book" (defArgs sRead) (defBody sRead) (defScope sRead) .none kVRB dcRB pmRB anRB cdRB ctRB), slRB⟩)
    (cRB : PySem.W.codeIn K cdRB "read_book" = true)
    (kRB : PySem.W.keepIn K (.ref fRB) = true)
    (aLN : PySem.W.nsIn K mainGlobals "_law_names" = some (some (.ref fLN)))
    (lLN : K.lookup fLN = some ⟨ocLN, odLN, .func (PySem.W.fnOf "_law_names" "_law_names" (defArgs sNames) (defBody sNames) (defScope sNames) .none kVLN dcLN pmLN anLN cdLN ctLN), slLN⟩)
    (cLN : PySem.W.codeIn K cdLN "_law_names" = true)
    (kLN : PySem.W.keepIn K (.ref fLN) = true)
    (aLM : PySem.W.nsIn K mainGlobals "_law_many" = some (some (.ref fLM)))
    (lLM : K.lookup fLM = some ⟨ocLM, odLM, .func (PySem.W.fnOf "_law_many" "_law_many" (defArgs sMany) (defBody sMany) (defScope sMany) .none kVLM dcLM pmLM anLM cdLM ctLM), slLM⟩)
    (cLM : PySem.W.codeIn K cdLM "_law_many" = true)
    (kLM : PySem.W.keepIn K (.ref fLM) = true)
    (aLK : PySem.W.nsIn K mainGlobals "_law_kind_rows" = some (some (.ref fLK)))
    (lLK : K.lookup fLK = some ⟨ocLK, odLK, .func (PySem.W.fnOf "_law_kind_rows" "_law_kind_rows" (defArgs sKind) (defBody sKind) (defScope sKind) .none kVLK dcLK pmLK anLK cdLK ctLK), slLK⟩)
    (cLK : PySem.W.codeIn K cdLK "_law_kind_rows" = true)
    (kLK : PySem.W.keepIn K (.ref fLK) = true)
    (aLW : PySem.W.nsIn K mainGlobals "law" = some (some (.ref fLW)))
    (lLW : K.lookup fLW = some ⟨ocLW, odLW, .func (PySem.W.fnOf "law" "law" (defArgs sLaw) (defBody sLaw) (defScope sLaw) .none kVLW dcLW pmLW anLW cdLW ctLW), slLW⟩)
    (cLW : PySem.W.codeIn K cdLW "law" = true)
    (kLW : PySem.W.keepIn K (.ref fLW) = true)
    (aCB : PySem.W.nsIn K mainGlobals "Book" = some (some (.ref CB)))
    (aCN : PySem.W.nsIn K mainGlobals "NoRow" = some (some (.ref CN)))
    (aKE : PySem.W.nsIn K mainGlobals "KnewError" = some (some (.ref aB)))
    (aB0 : PySem.W.findIn K (.ref CB) "__init__" = some (some (.ref fB0)))
    (iB0 : PySem.W.isFn K (.ref fB0) = true)
    (lB0 : K.lookup fB0 = some ⟨ocB0, odB0, .func (PySem.W.fnOf "__init__" "Book.__init__" (defArgs (sBook 0)) (defBody (sBook 0)) (defScope (sBook 0)) .none kVB0 dcB0 pmB0 anB0 cdB0 ctB0), slB0⟩)
    (cB0 : PySem.W.codeIn K cdB0 "Book.__init__" = true)
    (kB0 : PySem.W.keepIn K (.ref fB0) = true)
    (aB1 : PySem.W.findIn K (.ref CB) "persons" = some (some (.ref fB1)))
    (iB1 : PySem.W.isFn K (.ref fB1) = true)
    (lB1 : K.lookup fB1 = some ⟨ocB1, odB1, .func (PySem.W.fnOf "persons" "Book.persons" (defArgs (sBook 1)) (defBody (sBook 1)) (defScope (sBook 1)) .none kVB1 dcB1 pmB1 anB1 cdB1 ctB1), slB1⟩)
    (cB1 : PySem.W.codeIn K cdB1 "Book.persons" = true)
    (kB1 : PySem.W.keepIn K (.ref fB1) = true)
    (aB2 : PySem.W.findIn K (.ref CB) "sights" = some (some (.ref fB2)))
    (iB2 : PySem.W.isFn K (.ref fB2) = true)
    (lB2 : K.lookup fB2 = some ⟨ocB2, odB2, .func (PySem.W.fnOf "sights" "Book.sights" (defArgs (sBook 2)) (defBody (sBook 2)) (defScope (sBook 2)) .none kVB2 dcB2 pmB2 anB2 cdB2 ctB2), slB2⟩)
    (cB2 : PySem.W.codeIn K cdB2 "Book.sights" = true)
    (kB2 : PySem.W.keepIn K (.ref fB2) = true)
    (aB3 : PySem.W.findIn K (.ref CB) "talks" = some (some (.ref fB3)))
    (iB3 : PySem.W.isFn K (.ref fB3) = true)
    (lB3 : K.lookup fB3 = some ⟨ocB3, odB3, .func (PySem.W.fnOf "talks" "Book.talks" (defArgs (sBook 3)) (defBody (sBook 3)) (defScope (sBook 3)) .none kVB3 dcB3 pmB3 anB3 cdB3 ctB3), slB3⟩)
    (cB3 : PySem.W.codeIn K cdB3 "Book.talks" = true)
    (kB3 : PySem.W.keepIn K (.ref fB3) = true)
    (aB4 : PySem.W.findIn K (.ref CB) "sayings" = some (some (.ref fB4)))
    (iB4 : PySem.W.isFn K (.ref fB4) = true)
    (lB4 : K.lookup fB4 = some ⟨ocB4, odB4, .func (PySem.W.fnOf "sayings" "Book.sayings" (defArgs (sBook 4)) (defBody (sBook 4)) (defScope (sBook 4)) .none kVB4 dcB4 pmB4 anB4 cdB4 ctB4), slB4⟩)
    (cB4 : PySem.W.codeIn K cdB4 "Book.sayings" = true)
    (kB4 : PySem.W.keepIn K (.ref fB4) = true)
    (aR0 : PySem.W.findIn K (.ref CN) "__init__" = some (some (.ref fR0)))
    (iR0 : PySem.W.isFn K (.ref fR0) = true)
    (lR0 : K.lookup fR0 = some ⟨ocR0, odR0, .func (PySem.W.fnOf "__init__" "NoRow.__init__" (defArgs sRowInit) (defBody sRowInit) (defScope sRowInit) .none kVR0 dcR0 pmR0 anR0 cdR0 ctR0), slR0⟩)
    (cR0 : PySem.W.codeIn K cdR0 "NoRow.__init__" = true)
    (kR0 : PySem.W.keepIn K (.ref fR0) = true)
    (pgB : PySem.W.plainGet K CB Str.empty = true)
    (hdB : PySem.W.hasDictIn K CB = true)
    (poB : PySem.W.plainOver K CB = true)
    (saB : PySem.W.findIn K (.ref CB) "__setattr__" = some (some (.builtin "object.__setattr__")))
    (mkB : PySem.W.makesIn K CB = true)
    (kcB : PySem.W.keepIn K (.ref CB) = true)
    (n0B : PySem.W.findIn K (.ref CB) "crew" = some none)
    (n1B : PySem.W.findIn K (.ref CB) "views" = some none)
    (n2B : PySem.W.findIn K (.ref CB) "meetings" = some none)
    (n3B : PySem.W.findIn K (.ref CB) "claims" = some none)
    (xN : K.lookup CN = some (excClassObj nmN qN CN NN bsN [.ref aB, .type "ValueError", .type "Exception", .type "BaseException", .type "object"] true snN subN abN colN ddN m0N m1N m2N m3N m5N "ValueError.__new__"))
    (saN : PySem.W.findIn K (.ref CN) "__setattr__" = some (some (.builtin "object.__setattr__")))
    (gaN : PySem.W.findIn K (.ref CN) "__getattribute__" = some (some (.builtin "BaseException.__getattribute__")))
    (ggN : PySem.W.findIn K (.ref CN) "__getattr__" = some none)
    (nrN : PySem.W.findIn K (.ref CN) "row" = some none)
    (tiN : PySem.W.typeIn K (.ref fR0) = some (.type "function"))
    (kcN : PySem.W.keepIn K (.ref CN) = true)
    (exN : PySem.W.subIn K (.ref CN) (.type "BaseException") = some true)
    (tyN : PySem.W.typeIn K (.ref CN) = some (.type "type"))
    (hdN : PySem.W.hasDictIn K CN = true)
    (icN : PySem.W.isClsIn K CN = true)
    (scN : PySem.W.subIn K (.ref CN) (.ref CN) = some true)
    (rdK : PySem.W.readsIn K aB (.type "type") = true)
    (spK : PySem.W.specialIn K (.ref aB) "__getattribute__" = some (some (.builtin "type.__getattribute__")))
    (vlK : PySem.W.findCls K (.ref aB) (.type "type") "__init__" = some (.val (.builtin "ValueError.__init__")))
    (z_len : PySem.W.nsIn K mainGlobals "len" = some none)
    (z_isinstance : PySem.W.nsIn K mainGlobals "isinstance" = some none)
    (z_int : PySem.W.nsIn K mainGlobals "int" = some none)
    (z_bool : PySem.W.nsIn K mainGlobals "bool" = some none)
    (z_str : PySem.W.nsIn K mainGlobals "str" = some none)
    (z_tuple : PySem.W.nsIn K mainGlobals "tuple" = some none)
    (z_list : PySem.W.nsIn K mainGlobals "list" = some none)
    (z_set : PySem.W.nsIn K mainGlobals "set" = some none)
    (z_enumerate : PySem.W.nsIn K mainGlobals "enumerate" = some none)
    (z_range : PySem.W.nsIn K mainGlobals "range" = some none)
    (g_letters : PySem.W.nsIn K mainGlobals "LETTERS" = some (some (.str "abcdefghijklmnopqrstuvwxyz" t_letters)))
    (g_figures : PySem.W.nsIn K mainGlobals "FIGURES" = some (some (.str "0123456789" t_figures)))
    (g_longest : PySem.W.nsIn K mainGlobals "LONGEST" = some (some (.int 12 t_longest)))
    (g_lastH : PySem.W.nsIn K mainGlobals "LAST_HOUR" = some (some (.int 1000000000000000000 t_lastH)))
    (g_mPersons : PySem.W.nsIn K mainGlobals "MOST_PERSONS" = some (some (.int 24 t_mPersons)))
    (g_mSights : PySem.W.nsIn K mainGlobals "MOST_SIGHTS" = some (some (.int 24 t_mSights)))
    (g_mTalks : PySem.W.nsIn K mainGlobals "MOST_TALKS" = some (some (.int 120 t_mTalks)))
    (g_mSayings : PySem.W.nsIn K mainGlobals "MOST_SAYINGS" = some (some (.int 60 t_mSayings)))
    (g_mWords : PySem.W.nsIn K mainGlobals "MOST_WORDS" = some (some (.int 6 t_mWords)))
    (g_mFigures : PySem.W.nsIn K mainGlobals "MOST_FIGURES" = some (some (.int 19 t_mFigures)))
    (g_kept : PySem.W.nsIn K mainGlobals "KEPT_WORDS" = some (some (.ref aKept)))
    (o_kept : K.lookup aKept = some ⟨.type "tuple", none, .seq its_kept n_kept, sl_kept⟩)
    (v_kept : its_kept.size ≤ sizeLine ∧ Vals (keptWords.map V.str) its_kept.toList)
    (g_kinds : PySem.W.nsIn K mainGlobals "KINDS" = some (some (.ref aKinds)))
    (o_kinds : K.lookup aKinds = some ⟨.type "tuple", none, .seq its_kinds n_kinds, sl_kinds⟩)
    (v_kinds : its_kinds.size ≤ sizeLine ∧ Vals (kindWords.map V.str) its_kinds.toList)
    (g_most : PySem.W.nsIn K mainGlobals "MOST" = some (some (.ref aMost)))
    (o_most : K.lookup aMost = some ⟨.type "tuple", none, .seq its_most n_most, sl_most⟩)
    (v_most : its_most.size ≤ sizeLine ∧ Vals [.int 24, .int 24, .int 120, .int 60] its_most.toList)
    : ∃ fd : FuncData, (∀ (s : Shared) (v : Value), BindsTo s fd ⟨[v], []⟩ [("_law_script", v)]) ∧ ∀ base : Heap, K.In base → base.Ns mainGlobals mg → FnOk l.prog w K mg base CX0 8 fa fd ["_law_script"] (spLaw K) := by
  have e := hfa.symm.trans (PySem.W.mg_of X G aLW)
  cases e
  have refs : PySem.HandSPX.refsVE [.ref aB, .type "ValueError", .type "Exception", .type "BaseException", .type "object"] = true := by
    show PySem.HandSPX.refsVE [.type "ValueError", .type "Exception", .type "BaseException", .type "object"] = true
    decide +kernel
  have Gl0 : Glo K mg aKept aKinds aMost := {
    len := PySem.W.mg_none_of X G z_len
    isi := PySem.W.mg_none_of X G z_isinstance
    tint := PySem.W.mg_none_of X G z_int
    tbool := PySem.W.mg_none_of X G z_bool
    tstr := PySem.W.mg_none_of X G z_str
    ttuple := PySem.W.mg_none_of X G z_tuple
    tlist := PySem.W.mg_none_of X G z_list
    tset := PySem.W.mg_none_of X G z_set
    enum := PySem.W.mg_none_of X G z_enumerate
    range := PySem.W.mg_none_of X G z_range
    letters := ⟨_, PySem.W.mg_of X G g_letters, ⟨_, rfl⟩⟩
    figures := ⟨_, PySem.W.mg_of X G g_figures, ⟨_, rfl⟩⟩
    longest := ⟨_, PySem.W.mg_of X G g_longest, ⟨_, rfl⟩⟩
    lastH := ⟨_, PySem.W.mg_of X G g_lastH, ⟨_, rfl⟩⟩
    mPersons := ⟨_, PySem.W.mg_of X G g_mPersons, ⟨_, rfl⟩⟩
    mSights := ⟨_, PySem.W.mg_of X G g_mSights, ⟨_, rfl⟩⟩
    mTalks := ⟨_, PySem.W.mg_of X G g_mTalks, ⟨_, rfl⟩⟩
    mSayings := ⟨_, PySem.W.mg_of X G g_mSayings, ⟨_, rfl⟩⟩
    mWords := ⟨_, PySem.W.mg_of X G g_mWords, ⟨_, rfl⟩⟩
    mFigures := ⟨_, PySem.W.mg_of X G g_mFigures, ⟨_, rfl⟩⟩
    kept := ⟨_, PySem.W.mg_of X G g_kept, rfl⟩
    keptT := ⟨_, _, _, o_kept, rfl, rfl, v_kept.1, v_kept.2⟩
    kinds := ⟨_, PySem.W.mg_of X G g_kinds, rfl⟩
    kindsT := ⟨_, _, _, o_kinds, rfl, rfl, v_kinds.1, v_kinds.2⟩
    most := ⟨_, PySem.W.mg_of X G g_most, rfl⟩
    mostT := ⟨_, _, _, o_most, rfl, rfl, v_most.1, v_most.2⟩
    kindsD := ⟨_, o_kinds, rfl, rfl⟩ }
  have FW := fun_mk (st := sWhole) lW cW kW
  have FH := fun_mk (st := sHour) lH cH kH
  have FN := fun_mk (st := sName) lN cN kN
  have FO := fun_mk (st := sTupOf) lO cO kO
  have FP := fun_mk (st := sArePersons) lP cP kP
  have FT := fun_mk (st := sTale) lT cT kT
  have FS := fun_mk (st := sSight) lS cS kS
  have FD := fun_mk (st := sTwo) lD cD kD
  have FK := fun_mk (st := sTalk) lK cK kK
  have FY := fun_mk (st := sSaying) lY cY kY
  have FA := fun_mk (st := sAll) lA cA kA
  have FHI := fun_mk (st := sHourIn) lHI cHI kHI
  have FYI := fun_mk (st := sSayingIn) lYI cYI kYI
  have FKI := fun_mk (st := sTalkIn) lKI cKI kKI
  have FTB := fun_mk (st := sTold) lTB cTB kTB
  have FRB := fun_mk (st := sRead) lRB cRB kRB
  have FLN := fun_mk (st := sNames) lLN cLN kLN
  have FLM := fun_mk (st := sMany) lLM cLM kLM
  have FLK := fun_mk (st := sKind) lLK cLK kLK
  have FLW := fun_mk (st := sLaw) lLW cLW kLW
  have FB0 := fun_mk (st := (sBook 0)) lB0 cB0 kB0
  have FB1 := fun_mk (st := (sBook 1)) lB1 cB1 kB1
  have FB2 := fun_mk (st := (sBook 2)) lB2 cB2 kB2
  have FB3 := fun_mk (st := (sBook 3)) lB3 cB3 kB3
  have FB4 := fun_mk (st := (sBook 4)) lB4 cB4 kB4
  have FR0 := fun_mk (st := sRowInit) lR0 cR0 kR0
  have bW := FW.binds (ps := ["thing"]) fun _ _ _ _ _ _ us hl => match us, hl with | [_], _ => rfl
  have bH := FH.binds (ps := ["thing"]) fun _ _ _ _ _ _ us hl => match us, hl with | [_], _ => rfl
  have bN := FN.binds (ps := ["thing"]) fun _ _ _ _ _ _ us hl => match us, hl with | [_], _ => rfl
  have bO := FO.binds (ps := ["thing", "many"]) fun _ _ _ _ _ _ us hl => match us, hl with | [_, _], _ => rfl
  have bP := FP.binds (ps := ["thing"]) fun _ _ _ _ _ _ us hl => match us, hl with | [_], _ => rfl
  have bT := FT.binds (ps := ["thing"]) fun _ _ _ _ _ _ us hl => match us, hl with | [_], _ => rfl
  have bS := FS.binds (ps := ["thing", "persons"]) fun _ _ _ _ _ _ us hl => match us, hl with | [_, _], _ => rfl
  have bD := FD.binds (ps := ["one", "other", "persons"]) fun _ _ _ _ _ _ us hl => match us, hl with | [_, _, _], _ => rfl
  have bK := FK.binds (ps := ["thing", "persons"]) fun _ _ _ _ _ _ us hl => match us, hl with | [_, _], _ => rfl
  have bY := FY.binds (ps := ["thing", "persons"]) fun _ _ _ _ _ _ us hl => match us, hl with | [_, _], _ => rfl
  have bA := FA.binds (ps := ["thing", "most", "persons", "fits"]) fun _ _ _ _ _ _ us hl => match us, hl with | [_, _, _, _], _ => rfl
  have bHI := FHI.binds (ps := ["word"]) fun _ _ _ _ _ _ us hl => match us, hl with | [_], _ => rfl
  have bYI := FYI.binds (ps := ["words"]) fun _ _ _ _ _ _ us hl => match us, hl with | [_], _ => rfl
  have bKI := FKI.binds (ps := ["words"]) fun _ _ _ _ _ _ us hl => match us, hl with | [_], _ => rfl
  have bTB := FTB.binds (ps := ["words", "kind", "persons"]) fun _ _ _ _ _ _ us hl => match us, hl with | [_, _, _], _ => rfl
  have bRB := FRB.binds (ps := ["text"]) fun _ _ _ _ _ _ us hl => match us, hl with | [_], _ => rfl
  have bLN := FLN.binds (ps := ["_law_cell"]) fun _ _ _ _ _ _ us hl => match us, hl with | [_], _ => rfl
  have bLM := FLM.binds (ps := ["_law_cells"]) fun _ _ _ _ _ _ us hl => match us, hl with | [_], _ => rfl
  have bLK := FLK.binds (ps := ["_law_names_here", "_law_kind", "_law_many_here", "_law_cell"]) fun _ _ _ _ _ _ us hl => match us, hl with | [_, _, _, _], _ => rfl
  have bB0 := FB0.binds (ps := ["self", "persons", "sights", "talks", "sayings"]) fun _ _ _ _ _ _ us hl => match us, hl with | [_, _, _, _, _], _ => rfl
  have bB1 := FB1.binds (ps := ["self"]) fun _ _ _ _ _ _ us hl => match us, hl with | [_], _ => rfl
  have bB2 := FB2.binds (ps := ["self"]) fun _ _ _ _ _ _ us hl => match us, hl with | [_], _ => rfl
  have bB3 := FB3.binds (ps := ["self"]) fun _ _ _ _ _ _ us hl => match us, hl with | [_], _ => rfl
  have bB4 := FB4.binds (ps := ["self"]) fun _ _ _ _ _ _ us hl => match us, hl with | [_], _ => rfl
  have bR0 := FR0.binds (ps := ["self", "row"]) fun _ _ _ _ _ _ us hl => match us, hl with | [_, _], _ => rfl
  have gW := PySem.W.mg_of X G aW
  have gH := PySem.W.mg_of X G aH
  have gN := PySem.W.mg_of X G aN
  have gO := PySem.W.mg_of X G aO
  have gP := PySem.W.mg_of X G aP
  have gT := PySem.W.mg_of X G aT
  have gS := PySem.W.mg_of X G aS
  have gD := PySem.W.mg_of X G aD
  have gK := PySem.W.mg_of X G aK
  have gY := PySem.W.mg_of X G aY
  have gA := PySem.W.mg_of X G aA
  have gHI := PySem.W.mg_of X G aHI
  have gYI := PySem.W.mg_of X G aYI
  have gKI := PySem.W.mg_of X G aKI
  have gTB := PySem.W.mg_of X G aTB
  have gRB := PySem.W.mg_of X G aRB
  have gLN := PySem.W.mg_of X G aLN
  have gLM := PySem.W.mg_of X G aLM
  have gLK := PySem.W.mg_of X G aLK
  have clB : Cls K CB := ⟨pgB, hdB, poB, saB⟩
  have TB : BookTxt K CB := ⟨clB, n0B, n1B, n2B, n3B⟩
  have ox : OexC K CN := ⟨⟨nmN, qN, NN, bsN, _, snN, subN, abN, colN, ddN, m0N, m1N, m2N, m3N, m5N, xN, refs⟩, saN, exN, tyN, kcN⟩
  have TR : RowTxt K mg CN fR0 := ⟨PySem.W.mg_of X G aCN, ox, nrN, aR0, tiN⟩
  have TK : KnX.Base K aB := ⟨rdK, spK, vlK⟩
  refine ⟨PySem.W.fnOf "law" "law" (defArgs sLaw) (defBody sLaw) (defScope sLaw) .none kVLW dcLW pmLW anLW cdLW ctLW, fun s v => .of_eq rfl, fun base _ _ => ?_⟩
  have GW : FnOk l.prog w K mg base CX0 1 fW _ ["thing"] spWhole := ok_whole FW Gl0
  have GH : FnOk l.prog w K mg base CX0 2 fH _ ["thing"] spHour := ok_hour FH Gl0 FW bW gW
  have GN : FnOk l.prog w K mg base CX0 1 fN _ ["thing"] spName := ok_name FN Gl0
  have GO : FnOk l.prog w K mg base CX0 1 fO _ ["thing", "many"] spTupOf := ok_tupof FO Gl0
  have GT : FnOk l.prog w K mg base CX0 2 fT _ ["thing"] spTale := ok_tale FT Gl0 FN bN gN
  have GS : FnOk l.prog w K mg base CX0 3 fS _ ["thing", "persons"] (spItem 1) := ok_sight FS GO kO bO gO GH kH bH gH GT kT bT gT
  have GD : FnOk l.prog w K mg base CX0 1 fD _ ["one", "other", "persons"] spTwo := ok_two FD
  have GK : FnOk l.prog w K mg base CX0 3 fK _ ["thing", "persons"] (spItem 2) := ok_talk FK GO kO bO gO GH kH bH gH GD kD bD gD
  have GY : FnOk l.prog w K mg base CX0 3 fY _ ["thing", "persons"] spSaying := ok_saying FY Gl0 GH kH bH gH GD kD bD gD
  have GY3 : FnOk l.prog w K mg base CX0 3 fY _ ["thing", "persons"] (spItem 3) := GY.imp fun vs H Q E z => by
    obtain ⟨v, p, ps, e, hp, it, q⟩ := z
    exact ⟨v, p, ps, e, hp, .inl ⟨it, q⟩⟩
  have GA1 : FnOk l.prog w K mg base CX0 4 fA _ ["thing", "most", "persons", "fits"] (spAll 1 fS) := ok_all FA Gl0 GS kS bS
  have GA2 : FnOk l.prog w K mg base CX0 4 fA _ ["thing", "most", "persons", "fits"] (spAll 2 fK) := ok_all FA Gl0 GK kK bK
  have GA3 : FnOk l.prog w K mg base CX0 4 fA _ ["thing", "most", "persons", "fits"] (spAll 3 fY) := ok_all FA Gl0 GY3 kY bY
  have GP : FnOk l.prog w K mg base CX0 2 fP _ ["thing"] spPersons := ok_persons FP Gl0 GN kN bN gN
  have GHI : FnOk l.prog w K mg base CX0 1 fHI _ ["word"] spHourIn := ok_hourin FHI Gl0
  have GYI : FnOk l.prog w K mg base CX0 2 fYI _ ["words"] spSayingIn := ok_sayingin FYI Gl0 GHI kHI bHI gHI
  have GKI : FnOk l.prog w K mg base CX0 2 fKI _ ["words"] spTalkIn := ok_talkin FKI Gl0 GHI kHI bHI gHI
  have GTB : FnOk l.prog w K mg base CX0 4 fTB _ ["words", "kind", "persons"] spTold := ok_told FTB Gl0 GN kN bN gN GHI kHI bHI gHI GS kS bS gS GKI kKI bKI gKI GK kK bK gK GYI kYI bYI gYI GY kY bY gY
  have GI : FnOk l.prog w K mg base CX0 1 fR0 _ ["self", "row"] (spRowInit K) := ok_rowinit FR0 (PySem.W.mg_of X G aKE) TK
  have GB : FnOk l.prog w K mg base CX0 5 fB0 _ ["self", "persons", "sights", "talks", "sayings"] (spBook CB) := ok_binit FB0 Gl0 TB GP kP bP gP GA1 GA2 GA3 kA bA gA gS gK gY
  have GRB : FnOk l.prog w K mg base (L2.CX l.prog w) 7 fRB _ ["text"] (spRead CB CN) := ok_read FRB Gl0 TR GI bR0 GTB kTB bTB gTB ⟨mkB, aB0, iB0, kcB⟩ GB bB0 (PySem.W.mg_of X G aCB)
  have GLN : FnOk l.prog w K mg base CX0 1 fLN _ ["_law_cell"] spNames := ok_names FLN Gl0
  have GLM : FnOk l.prog w K mg base CX0 1 fLM _ ["_law_cells"] spMany := ok_many FLM
  have GLK : FnOk l.prog w K mg base CX0 1 fLK _ ["_law_names_here", "_law_kind", "_law_many_here", "_law_cell"] spKind := ok_kind FLK Gl0
  have TL0 : LawTxt l.prog w K mg base CB CN fR0 := ⟨TR, ⟨gaN, ggN, exN, hdN⟩, exm_self exN icN tyN scN, clB⟩
  exact ok_law FLW Gl0 TL0 GLN kLN bLN gLN GLM kLM bLM gLM GLK kLK bLK gLK GRB kRB bRB gRB (ok_tell1 FB1 Gl0 TB) bB1 ⟨aB1, iB1, kB1⟩ (ok_tell2 FB2 Gl0 TB) bB2 ⟨aB2, iB2, kB2⟩ (ok_tell3 FB3 Gl0 TB) bB3 ⟨aB3, iB3, kB3⟩ (ok_tell4 FB4 Gl0 TB) bB4 ⟨aB4, iB4, kB4⟩
theorem walk {l : PySem.W.OpenLaw} {q : Program} {loose : List Str} {XP : (Str → Option Value) → Heap → Prop} {YP : World → Heap → Prop} {d : DefRec} {K : Params → PySem.W.Frag} (hn : l.most = some 63) (hdf : d.params.defaults = [])
    (hY : ∀ (w : World) (h : Heap), YP w h → (K w.params).In h)
    (F : ∀ (w : World) (mg : Str → Option Value) (fa : Addr) (h : Heap), (K w.params).In h → h.Ns mainGlobals mg → mg d.name = some (.ref fa) →
      ∃ fd : FuncData, (∀ (s : Shared) (u : Value), BindsTo s fd ⟨[u], []⟩ [("_law_script", u)]) ∧ ∀ base : Heap, (K w.params).In base → base.Ns mainGlobals mg → FnOk l.prog w (K w.params) mg base CX0 8 fa fd ["_law_script"] (spLaw (K w.params))) :
    PySem.W.WalkO q loose XP YP l.row.toRowW d [] (fun f vs => PySem.call f vs) :=
  L2.walk_of (n := 63) (k := 8) (x := "_law_script") (CX := fun _ => CX0) (sp := fun w => spLaw (K w.params)) hn (by decide) hdf ⟨rfl, by decide, by decide⟩ hY F (fun _ _ a ns hl _ hS => ⟨a, ns, rfl, hS, hl, fun _ => rfl⟩) fun _ _ _ _ _ z => z
end Kn

open PySem PySem.W PyProof.Rows in
set_option maxRecDepth 100000 in
set_option maxHeartbeats 0 in
theorem PySem.Challenge.cw_knewby_k75_whole_bounds_holds : PySem.Challenge.rw_knewby_k75_whole_bounds.Holds := by
  w_on; o_law; k_head; (case hw => w_witness2)
  k_fill
  refine Kn.walk (l := PySem.Challenge.rw_knewby_k75_whole_bounds) rfl rfl (fun w h Y => PySem.W.kIn_of Y) ?F
  case F =>
    intro w mg fa h KX G hmg
    refine' Kn.all_mk KX G hmg ?aW ?lW ?cW ?kW ?aH ?lH ?cH ?kH ?aN ?lN ?cN ?kN ?aO ?lO ?cO ?kO ?aP ?lP ?cP ?kP ?aT ?lT ?cT ?kT ?aS ?lS ?cS ?kS ?aD ?lD ?cD ?kD ?aK ?lK ?cK ?kK ?aY ?lY ?cY ?kY ?aA ?lA ?cA ?kA ?aHI ?lHI ?cHI ?kHI ?aYI ?lYI ?cYI ?kYI ?aKI ?lKI ?cKI ?kKI ?aTB ?lTB ?cTB ?kTB ?aRB ?lRB ?cRB ?kRB ?aLN ?lLN ?cLN ?kLN ?aLM ?lLM ?cLM ?kLM ?aLK ?lLK ?cLK ?kLK ?aLW ?lLW ?cLW ?kLW ?aCB ?aCN ?aKE ?aB0 ?iB0 ?lB0 ?cB0 ?kB0 ?aB1 ?iB1 ?lB1 ?cB1 ?kB1 ?aB2 ?iB2 ?lB2 ?cB2 ?kB2 ?aB3 ?iB3 ?lB3 ?cB3 ?kB3 ?aB4 ?iB4 ?lB4 ?cB4 ?kB4 ?aR0 ?iR0 ?lR0 ?cR0 ?kR0 ?pgB ?hdB ?poB ?saB ?mkB ?kcB ?n0B ?n1B ?n2B ?n3B ?xN ?saN ?gaN ?ggN ?nrN ?tiN ?kcN ?exN ?tyN ?hdN ?icN ?scN ?rdK ?spK ?vlK ?z_len ?z_isinstance ?z_int ?z_bool ?z_str ?z_tuple ?z_list ?z_set ?z_enumerate ?z_range ?g_letters ?g_figures ?g_longest ?g_lastH ?g_mPersons ?g_mSights ?g_mTalks ?g_mSayings ?g_mWords ?g_mFigures ?g_kept ?o_kept ?v_kept ?g_kinds ?o_kinds ?v_kinds ?g_most ?o_most ?v_most
    (case aW => k_is)
    (case lW => k_is)
    (case cW => k_is)
    (case kW => k_is)
    (case aH => k_is)
    (case lH => k_is)
    (case cH => k_is)
    (case kH => k_is)
    (case aN => k_is)
    (case lN => k_is)
    (case cN => k_is)
    (case kN => k_is)
    (case aO => k_is)
    (case lO => k_is)
    (case cO => k_is)
    (case kO => k_is)
    (case aP => k_is)
    (case lP => k_is)
    (case cP => k_is)
    (case kP => k_is)
    (case aT => k_is)
    (case lT => k_is)
    (case cT => k_is)
    (case kT => k_is)
    (case aS => k_is)
    (case lS => k_is)
    (case cS => k_is)
    (case kS => k_is)
    (case aD => k_is)
    (case lD => k_is)
    (case cD => k_is)
    (case kD => k_is)
    (case aK => k_is)
    (case lK => k_is)
    (case cK => k_is)
    (case kK => k_is)
    (case aY => k_is)
    (case lY => k_is)
    (case cY => k_is)
    (case kY => k_is)
    (case aA => k_is)
    (case lA => k_is)
    (case cA => k_is)
    (case kA => k_is)
    (case aHI => k_is)
    (case lHI => k_is)
    (case cHI => k_is)
    (case kHI => k_is)
    (case aYI => k_is)
    (case lYI => k_is)
    (case cYI => k_is)
    (case kYI => k_is)
    (case aKI => k_is)
    (case lKI => k_is)
    (case cKI => k_is)
    (case kKI => k_is)
    (case aTB => k_is)
    (case lTB => k_is)
    (case cTB => k_is)
    (case kTB => k_is)
    (case aRB => k_is)
    (case lRB => k_is)
    (case cRB => k_is)
    (case kRB => k_is)
    (case aLN => k_is)
    (case lLN => k_is)
    (case cLN => k_is)
    (case kLN => k_is)
    (case aLM => k_is)
    (case lLM => k_is)
    (case cLM => k_is)
    (case kLM => k_is)
    (case aLK => k_is)
    (case lLK => k_is)
    (case cLK => k_is)
    (case kLK => k_is)
    (case aLW => k_is)
    (case lLW => k_is)
    (case cLW => k_is)
    (case kLW => k_is)
    (case aCB => k_is)
    (case aCN => k_is)
    (case aKE => k_is)
    (case aB0 => k_is)
    (case iB0 => k_is)
    (case lB0 => k_is)
    (case cB0 => k_is)
    (case kB0 => k_is)
    (case aB1 => k_is)
    (case iB1 => k_is)
    (case lB1 => k_is)
    (case cB1 => k_is)
    (case kB1 => k_is)
    (case aB2 => k_is)
    (case iB2 => k_is)
    (case lB2 => k_is)
    (case cB2 => k_is)
    (case kB2 => k_is)
    (case aB3 => k_is)
    (case iB3 => k_is)
    (case lB3 => k_is)
    (case cB3 => k_is)
    (case kB3 => k_is)
    (case aB4 => k_is)
    (case iB4 => k_is)
    (case lB4 => k_is)
    (case cB4 => k_is)
    (case kB4 => k_is)
    (case aR0 => k_is)
    (case iR0 => k_is)
    (case lR0 => k_is)
    (case cR0 => k_is)
    (case kR0 => k_is)
    (case pgB => k_is)
    (case hdB => k_is)
    (case poB => k_is)
    (case saB => k_is)
    (case mkB => k_is)
    (case kcB => k_is)
    (case n0B => k_is)
    (case n1B => k_is)
    (case n2B => k_is)
    (case n3B => k_is)
    (case xN => k_is)
    (case saN => k_is)
    (case gaN => k_is)
    (case ggN => k_is)
    (case nrN => k_is)
    (case tiN => k_is)
    (case kcN => k_is)
    (case exN => k_is)
    (case tyN => k_is)
    (case hdN => k_is)
    (case icN => k_is)
    (case scN => k_is)
    (case rdK => k_is)
    (case spK => k_is)
    (case vlK => k_is)
    (case z_len => k_is)
    (case z_isinstance => k_is)
    (case z_int => k_is)
    (case z_bool => k_is)
    (case z_str => k_is)
    (case z_tuple => k_is)
    (case z_list => k_is)
    (case z_set => k_is)
    (case z_enumerate => k_is)
    (case z_range => k_is)
    (case g_letters => k_is)
    (case g_figures => k_is)
    (case g_longest => k_is)
    (case g_lastH => k_is)
    (case g_mPersons => k_is)
    (case g_mSights => k_is)
    (case g_mTalks => k_is)
    (case g_mSayings => k_is)
    (case g_mWords => k_is)
    (case g_mFigures => k_is)
    (case g_kept => k_is)
    (case o_kept => k_is)
    (case v_kept => exact ⟨by show 12 ≤ sizeLine; decide, .cons ⟨_, rfl⟩ (.cons ⟨_, rfl⟩ (.cons ⟨_, rfl⟩ (.cons ⟨_, rfl⟩ (.cons ⟨_, rfl⟩ (.cons ⟨_, rfl⟩ (.cons ⟨_, rfl⟩ (.cons ⟨_, rfl⟩ (.cons ⟨_, rfl⟩ (.cons ⟨_, rfl⟩ (.cons ⟨_, rfl⟩ (.cons ⟨_, rfl⟩ (.nil))))))))))))⟩)
    (case g_kinds => k_is)
    (case o_kinds => k_is)
    (case v_kinds => exact ⟨by show 3 ≤ sizeLine; decide, .cons ⟨_, rfl⟩ (.cons ⟨_, rfl⟩ (.cons ⟨_, rfl⟩ (.nil)))⟩)
    (case g_most => k_is)
    (case o_most => k_is)
    (case v_most => exact ⟨by show 4 ≤ sizeLine; decide, .cons ⟨_, rfl⟩ (.cons ⟨_, rfl⟩ (.cons ⟨_, rfl⟩ (.cons ⟨_, rfl⟩ (.nil))))⟩)
