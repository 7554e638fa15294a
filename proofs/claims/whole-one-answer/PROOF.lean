import PyProof.Rows.All
import Wide.All
import OpenK.AllK
import Wide.FinOn
import HandS.ForMost
import HandS.Defaults
import HandS.IsInst
import HandS.Head0
import HandS.Head1
import HandS.Head2
import HandS.HeadEnd
import HandS.HeadHook1
import HandS.HeadHook2
import HandS.HeadHook3
import HandS.HeadHook4
import HandS.EndBits
import PySem.Challenge.RW_lassoproof_k94_whole_one_answer
import HandS.Evl
import HandS.Deep
import HandS.TupLe
import HandS.Codes
import HandS.Style
set_option Elab.async false
set_option linter.all false
set_option maxRecDepth 100000
set_option maxHeartbeats 0

/-! K94Text -/
/-! The text by places, the head's facts. -/
namespace K94
open PySem PySem.Spec PyProof.Rows L2
def top (i : Nat) : Stmt := PySem.Challenge.pw_lassoproof_k94_whole_one_answer.main.body.getD i (.Pass ⟨0, 0, 0, 0⟩)
def dF (i : Nat) (x : Str) : He.DefD := ⟨(x, none), x, x, defArgs (top i), defBody (top i), defScope (top i), [], []⟩
def dM (i j : Nat) (C x q : Str) : He.DefD := ⟨(C, some x), x, q, defArgs (inClass (top i) j), defBody (inClass (top i) j), defScope (inClass (top i) j), [], []⟩
def fn : List He.DefD := [
  dM 3 0 "Rows" "__init__" "Rows.__init__",
  dM 4 0 "RowBook" "__init__" "RowBook.__init__",
  dM 4 1 "RowBook" "put" "RowBook.put",
  dM 4 2 "RowBook" "put_fact" "RowBook.put_fact",
  dM 4 3 "RowBook" "put_formula" "RowBook.put_formula",
  dF 5 "number_rows", dF 7 "number_branches",
  dM 10 0 "Answer" "__init__" "Answer.__init__",
  dF 11 "plain_truth", dF 12 "next_truth", dF 13 "joins", dF 14 "ranks_toward", dF 15 "path_ranks", dF 16 "row_answer", dF 17 "answer",
  dF 21 "has_shape", dF 22 "is_goal", dF 23 "passes", dF 24 "due_rank", dF 25 "path_row_holds", dF 26 "plain_row_holds", dF 27 "leaf_row_holds", dF 28 "row_holds", dF 29 "accepts_answer",
  dF 31 "_law_cell", dF 32 "_law_draws", dF 33 "_law_graph", dF 34 "_law_many", dF 35 "_law_is_table", dF 36 "_law_leaves", dF 37 "_law_table", dF 38 "_law_formula", dF 39 "_law_number",
  dF 40 "_law_ranks", dF 41 "_law_plain", dF 42 "_law_row", dF 43 "_law_due", dF 44 "_law_fits", dF 45 "_law_greatest", dF 46 "_law_other", dF 47 "_law_challenge", dF 48 "_law_judge", dF 49 "law"]
def fa : List He.Fa := [
  .glo "number_rows", .glo "number_branches", .glo "plain_truth", .glo "next_truth", .glo "joins", .glo "ranks_toward", .glo "path_ranks", .glo "row_answer", .glo "answer",
  .glo "has_shape", .glo "is_goal", .glo "passes", .glo "due_rank", .glo "path_row_holds", .glo "plain_row_holds", .glo "leaf_row_holds", .glo "row_holds", .glo "accepts_answer",
  .glo "_law_cell", .glo "_law_draws", .glo "_law_graph", .glo "_law_many", .glo "_law_is_table", .glo "_law_leaves", .glo "_law_table", .glo "_law_formula", .glo "_law_number",
  .glo "_law_ranks", .glo "_law_plain", .glo "_law_row", .glo "_law_due", .glo "_law_fits", .glo "_law_greatest", .glo "_law_other", .glo "_law_challenge", .glo "_law_judge", .glo "law",
  .glo "Rows", .glo "RowBook", .glo "Answer", .glo "PLAIN", .glo "COMPARISONS", .glo "DUAL", .glo "SOME", .glo "GREATEST",
  .free "len", .free "enumerate", .free "any", .free "all", .free "zip", .free "min", .free "max", .free "range", .free "abs", .free "isinstance", .free "list", .free "bool", .free "int",
  .cls "Rows", .cls "RowBook", .cls "Answer", .mkr "Rows", .mkr "RowBook", .mkr "Answer",
  .noat "Rows" "facts", .noat "Rows" "rows", .noat "Rows" "temporal", .noat "RowBook" "facts", .noat "RowBook" "rows", .noat "RowBook" "_numbers", .noat "Answer" "truths", .noat "Answer" "ranks",
  .meth "RowBook" "put", .meth "RowBook" "put_fact", .meth "RowBook" "put_formula"]
def ts : List He.Tab := [(fun K => He.ga K "DUAL", ["ag", "eg"])]
def ex (K : PySem.W.Frag) : Bool :=
  He.tupB K "PLAIN" [.str "true", .str "false", .str "fact", .str "not", .str "and", .str "or", .str "implies", .str "same"] &&
  (He.tupB K "COMPARISONS" [.str "equal", .str "below", .str "upto"] &&
  (He.tupB K "SOME" [.str "ef", .str "eu", .str "ag"] &&
  (He.tupB K "GREATEST" [.str "ag", .str "eg"] &&
  (He.valsB K (He.ga K "DUAL") [("ag", .str "ef"), ("eg", .str "af")] &&
  (["ef", "af", "eu", "au"].all (fun (x : String) => He.eqO (PySem.W.nsIn K (He.ga K "DUAL") (Str.ofString x)) (some none)) &&
  (He.eqO (PySem.W.findIn K (.ref (He.ga K "Answer")) "__class__") (some (some (.builtin "object.__class__"))) &&
  (He.eqO (PySem.W.specialIn K (.builtin "object.__class__") "__get__") (some (some (.builtin "getset_descriptor.__get__"))) &&
  (decide (PySem.W.takesIn K (.builtin "object.__class__") = some true) &&
  decide (PySem.W.mroIn K (He.ga K "Answer") (.type "object") = some true)))))))))
abbrev R : PySem.W.OpenRow := PySem.W.OpenLaw.row PySem.Challenge.rw_lassoproof_k94_whole_one_answer
abbrev hk : PySem.W.Hook := He.hookX 5 fa fn ts [] ex
end K94

/-! K94Lib -/
/-! What the defs' walks lean on. -/
namespace K94
open PySem PySem.Spec PyProof.Rows L2 Evl

/-! ### the text's facts -/
structure Txt (w : World) (K : PySem.W.Frag) (mg : Str → Option Value) : Prop where
  fact : ∀ (i : Nat) (f : He.Fa), fa[i]? = some f → f.ok K = true
  def_ : ∀ (i : Nat) (d : He.DefD), fn[i]? = some d → ∃ fd, FunD K d.name d.qual d.params d.body d.scope (d.dvs K) (d.kws K) (He.fAd K d.at_) fd
  glo : ∀ x, (He.Fa.glo x).ok K = true → mg x = some (.ref (He.ga K x))
  free : ∀ x, (He.Fa.free x).ok K = true → mg x = none
  tab : ∃ es n, KDict K w (He.ga K "DUAL") es n
  more : ex K = true
section
variable {P : Program} {w : World} {K : PySem.W.Frag} {mg : Str → Option Value} {base : Heap}
theorem Txt.g (T : Txt w K mg) (i : Nat) {x : Str} (h : fa[i]? = some (.glo x) := by rfl) : mg x = some (.ref (He.ga K x)) := T.glo x (T.fact i _ h)
theorem Txt.f (T : Txt w K mg) (i : Nat) {x : Str} (h : fa[i]? = some (.free x) := by rfl) : mg x = none := T.free x (T.fact i _ h)
/-- a def as it stands, its promise, its arguments -/
def Ok (P : Program) (w : World) (K : PySem.W.Frag) (mg : Str → Option Value) (base : Heap) (k : Nat) (p : Str × Option Str) (ps : List Str) (sp : Sp) : Prop :=
  ∃ fd, FnOk P w K mg base CX0 k (He.fAd K p) fd ps sp ∧ Binds K fd ps [] ∧ PySem.W.keepIn K (.ref (He.fAd K p)) = true
theorem Txt.cls (T : Txt w K mg) (i : Nat) {x : Str} (h : fa[i]? = some (.cls x) := by rfl) : Cls K (He.ga K x) := He.cls_ok (T.fact i _ h)
theorem Txt.noat (T : Txt w K mg) (i : Nat) {x f : Str} (h : fa[i]? = some (.noat x f) := by rfl) : NoAttr K (He.ga K x) f := He.noat_ok (T.fact i _ h)
theorem Txt.meth (T : Txt w K mg) (i : Nat) {x m : Str} (h : fa[i]? = some (.meth x m) := by rfl) : Meth K (He.ga K x) m (He.ma K (He.ga K x) m) := He.meth_ok (T.fact i _ h)
abbrev cR (K : PySem.W.Frag) : Addr := He.ga K "Rows"
abbrev cB (K : PySem.W.Frag) : Addr := He.ga K "RowBook"
abbrev cA (K : PySem.W.Frag) : Addr := He.ga K "Answer"
theorem clsRB (T : Txt w K mg) : Cls K (cB K) := T.cls 59
theorem m_put (T : Txt w K mg) : Meth K (cB K) "put" (He.ma K (cB K) "put") := T.meth 72
theorem m_put_fact (T : Txt w K mg) : Meth K (cB K) "put_fact" (He.ma K (cB K) "put_fact") := T.meth 73
theorem m_put_formula (T : Txt w K mg) : Meth K (cB K) "put_formula" (He.ma K (cB K) "put_formula") := T.meth 74
theorem b2 {a b : Bool} (h : (a && b) = true) : a = true ∧ b = true := Bool.and_eq_true_iff.mp h
theorem Txt.plain (T : Txt w K mg) (H : Hp) : SqT K H (He.ga K "PLAIN") [.str "true", .str "false", .str "fact", .str "not", .str "and", .str "or", .str "implies", .str "same"] :=
  He.tupB_ok (b2 T.more).1 H
theorem Txt.comparisons (T : Txt w K mg) (H : Hp) : SqT K H (He.ga K "COMPARISONS") [.str "equal", .str "below", .str "upto"] := He.tupB_ok (b2 (b2 T.more).2).1 H
theorem Txt.some (T : Txt w K mg) (H : Hp) : SqT K H (He.ga K "SOME") [.str "ef", .str "eu", .str "ag"] := He.tupB_ok (b2 (b2 (b2 T.more).2).2).1 H
theorem Txt.greatest (T : Txt w K mg) (H : Hp) : SqT K H (He.ga K "GREATEST") [.str "ag", .str "eg"] := He.tupB_ok (b2 (b2 (b2 (b2 T.more).2).2).2).1 H
theorem insC (T : Txt w K mg) : C8.InsC K (cA K) := by
  have h := (b2 (b2 (b2 (b2 (b2 (b2 T.more).2).2).2).2).2).2
  obtain ⟨h1, h⟩ := b2 h
  obtain ⟨h2, h⟩ := b2 h
  obtain ⟨h3, h4⟩ := b2 h
  exact ⟨T.cls 60, He.eqO_ok h1, He.eqO_ok h2, of_decide_eq_true h3, of_decide_eq_true h4, by unfold PySem.W.kitOne; rw [if_pos (by simp)]⟩
theorem rLenS_ok {X : Cx} : CallR X (.builtin "len") (rLenS X.K) := call_len_seq
theorem rListS_ok {X : Cx} : CallR X (.type "list") (rListS X.K) := call_list_of
end
/-! ### the rules with K told (a comprehension's block hides it) -/
section
variable {X : Cx} {K : PySem.W.Frag}
theorem ixL (h : X.K = K := by rfl) : IxR X (rIxL K) := h ▸ ix_list
theorem ixT (h : X.K = K := by rfl) : IxR X (rIxT K) := h ▸ ix_tup
theorem opIn (h : X.K = K := by rfl) : OpR X (compareOp .In) (rIn K false) := h ▸ op_in_seq
theorem opNotIn (h : X.K = K := by rfl) : OpR X (compareOp .NotIn) (rIn K true) := h ▸ op_notIn_seq
theorem opEqD (hu : X.A.units + 64 < cLine) (h : X.K = K := by rfl) : OpR X (compareOp .Eq) (rEqD K) := h ▸ op_eqD hu
theorem opNeD (hu : X.A.units + 64 < cLine) (h : X.K = K := by rfl) : OpR X (compareOp .NotEq) (rNeD K) := h ▸ op_neD hu
theorem opInD (hu : X.A.units + 65 < cLine) (h : X.K = K := by rfl) : OpR X (compareOp .In) (rInD K) := h ▸ op_inD hu
theorem opNotInD (hu : X.A.units + 65 < cLine) (h : X.K = K := by rfl) : OpR X (compareOp .NotIn) (rNotInD K) := h ▸ op_notInD hu
theorem mtIndexD (hu : X.A.units + 65 < cLine) (h : X.K = K := by rfl) : MtR X "list.index" (rIndexD K) := h ▸ mt_indexD hu
def rKd (K : PySem.W.Frag) (d : Addr) : R2 := fun x y H Q => ∃ (z : Str) (r : Option Value), x = .str z ∧ y = .ref d ∧ PySem.W.nsIn K d z = some r ∧ Q (.bl r.isSome) H
theorem opKd {w : World} {d : Addr} (D : ∃ es n, KDict K w d es n) (hw : X.w = w := by rfl) (h : X.K = K := by rfl) : OpR X (compareOp .In) (rKd K d) := by
  subst h hw
  obtain ⟨es, n, D⟩ := D
  exact op_in_kd D
theorem ixKd {w : World} (hw : X.w = w := by rfl) (h : X.K = K := by rfl) : IxR X (rIxD K w) := by
  subst h hw
  exact ix_kdict
theorem cLen (h : X.K = K := by rfl) : CallR X (.builtin "len") (rLenS K) := h ▸ call_len_seq
theorem cList (h : X.K = K := by rfl) : CallR X (.type "list") (rListS K) := h ▸ call_list_of
theorem cAny (hc : X.calm = true := by rfl) (h : X.K = K := by rfl) : CallR X (.builtin "any") (rAny K) := h ▸ cr_any hc
theorem cAll (hc : X.calm = true := by rfl) (h : X.K = K := by rfl) : CallR X (.builtin "all") (rAll K) := h ▸ cr_all hc
theorem cMax (hc : X.calm = true := by rfl) (h : X.K = K := by rfl) : CallR X (.builtin "max") (rMax K) := h ▸ cr_max hc
theorem cMin (hc : X.calm = true := by rfl) (h : X.K = K := by rfl) : CallR X (.builtin "min") (rMin K) := h ▸ cr_min hc
theorem cIsi (h : X.K = K := by rfl) : CallR X (.builtin "isinstance") (rIsi K) := h ▸ call_isi
theorem piList {tg l : Expr} {tl : TE} (hl : PE X l tl) (h : X.K = K := by rfl) : PI X tg l (iList K tl) := h ▸ pi_list hl
theorem piEnum {e : Expr} {ta : TA} {p pos tpos : Pos} {elts : List Expr} {kk : Nat} (hg : Gl X "enumerate") (hm : X.mg "enumerate" = none) (ha : PA X [e] ta) (h : X.K = K := by rfl) (hs : starEach [e] X.env = [(false, eval e X.env)] := by rfl) :
    PI X (.Tuple elts kk tpos) (.Call (.Name "enumerate" p) [e] [] pos) (iEnum K ta) := h ▸ pi_enum hg hm ha hs
theorem piZip {e e2 : Expr} {ta : TA} {p pos tpos : Pos} {elts : List Expr} {kk : Nat} (hg : Gl X "zip") (hm : X.mg "zip" = none) (ha : PA X [e, e2] ta) (h : X.K = K := by rfl)
    (hs : starEach [e, e2] X.env = (false, eval e X.env) :: starEach [e2] X.env := by rfl) (hpl : (backTo pos (starEach [e2] X.env)).any (·.1) = false := by rfl) :
    PI X (.Tuple elts kk tpos) (.Call (.Name "zip" p) [e, e2] [] pos) (iZip K ta) := h ▸ pi_zip hg hm ha hs hpl
theorem peFld {e : Expr} {f : Str} {pos : Pos} {ta : TE} (he : PE X e ta) (hb : attributeBase e f X.env (eval e X.env) = eval e X.env := by rfl) (h : X.K = K := by rfl) : PE X (.Attribute e f pos) (tFld K ta f) := h ▸ pe_fld he hb
theorem psFld {o value : Expr} {f : Str} {pos pos' : Pos} {ta tv : TE} (ha : PE X o ta) (hv : PE X value tv) (hs : swapsWith value (some (.Attribute o f pos')) pos.line X.env = pure false := by rfl) (h : X.K = K := by rfl) :
    PS X (.Assign [.Attribute o f pos'] value pos) (sFld K ta tv f) := h ▸ ps_fld ha hv hs
def tTruth (K : PySem.W.Frag) (ta : TE) : TT := fun σ H Q => ta σ H fun x H' => ∃ k, TruV K x H' k ∧ Q k H'
theorem ptTruth {a : Expr} {ta : TE} (ha : PE X a ta) (he : ∀ whole, isTrue a X.env whole = (do let v ← whole; standAt a.pos; holding [v] (truthy v)) := by intro _; rfl) (h : X.K = K := by rfl) : PT X a (tTruth K ta) := by
  subst h
  exact pt_truth ha he
theorem pgTup {es : List Expr} {k : Nat} {t : TGs} {n : Nat} {pos : Pos} (h : PGs X es t) (hc : X.calm = true := by rfl) (hK : X.K = K := by rfl)
    (hn : (assignEach es X.env).length = n := by rfl) (hst : (assignEach es X.env).findIdx? (·.1) = none := by rfl) : PG X (.Tuple es k pos) (gTup K n t) := hK ▸ pg_tup hc h hn hst
end
theorem hu65_of {A : Around} {k : Nat} (hr : Room k A) : A.units + 65 < cLine := by
  have := hr.un
  omega
end K94

/-! K94Math -/
/-! The mathematics: words, rows, what is due, that it is one. -/
namespace K94
open PySem

/-! ### least and greatest of a list -/
def lmin : List Int → Int
  | [] => 0
  | [x] => x
  | x :: y :: r => min x (lmin (y :: r))
def lmax : List Int → Int
  | [] => 0
  | [x] => x
  | x :: y :: r => max x (lmax (y :: r))
theorem lmin_mem : ∀ {xs : List Int}, xs ≠ [] → lmin xs ∈ xs
  | [], h => absurd rfl h
  | [x], _ => by simp [lmin]
  | x :: y :: r, _ => by
    have ih := lmin_mem (xs := y :: r) (by simp)
    simp only [lmin]
    by_cases h : x ≤ lmin (y :: r)
    · rw [Int.min_eq_left h]; exact List.mem_cons_self
    · rw [Int.min_eq_right (by omega)]; exact List.mem_cons_of_mem _ ih
theorem lmin_le : ∀ {xs : List Int} {z : Int}, z ∈ xs → lmin xs ≤ z
  | [], _, h => nomatch h
  | [x], z, h => by simp at h; subst h; exact Int.le_refl _
  | x :: y :: r, z, h => by
    simp only [lmin]
    rcases List.mem_cons.mp h with e | h
    · subst e; exact Int.min_le_left _ _
    · exact Int.le_trans (Int.min_le_right _ _) (lmin_le h)
theorem lmax_mem : ∀ {xs : List Int}, xs ≠ [] → lmax xs ∈ xs
  | [], h => absurd rfl h
  | [x], _ => by simp [lmax]
  | x :: y :: r, _ => by
    have ih := lmax_mem (xs := y :: r) (by simp)
    simp only [lmax]
    by_cases h : lmax (y :: r) ≤ x
    · rw [Int.max_eq_left h]; exact List.mem_cons_self
    · rw [Int.max_eq_right (by omega)]; exact List.mem_cons_of_mem _ ih
theorem le_lmax : ∀ {xs : List Int} {z : Int}, z ∈ xs → z ≤ lmax xs
  | [], _, h => nomatch h
  | [x], z, h => by simp at h; subst h; exact Int.le_refl _
  | x :: y :: r, z, h => by
    simp only [lmax]
    rcases List.mem_cons.mp h with e | h
    · subst e; exact Int.le_max_left _ _
    · exact Int.le_trans (le_lmax h) (Int.le_max_right _ _)
theorem lmin_eq {xs : List Int} {m : Int} (h : m ∈ xs) (l : ∀ y, y ∈ xs → m ≤ y) : lmin xs = m :=
  Int.le_antisymm (lmin_le h) (l _ (lmin_mem (List.ne_nil_of_mem h)))
theorem lmax_eq {xs : List Int} {m : Int} (h : m ∈ xs) (l : ∀ y, y ∈ xs → y ≤ m) : lmax xs = m :=
  Int.le_antisymm (l _ (lmax_mem (List.ne_nil_of_mem h))) (le_lmax h)

/-! ### words and rows -/
inductive Wd where
  | tt | ff | fact | not | and | or | imp | same | ex | ax | ef | af | eg | ag | eu | au
  deriving DecidableEq
def Wd.s : Wd → Str
  | .tt => "true" | .ff => "false" | .fact => "fact" | .not => "not" | .and => "and" | .or => "or" | .imp => "implies" | .same => "same"
  | .ex => "ex" | .ax => "ax" | .ef => "ef" | .af => "af" | .eg => "eg" | .ag => "ag" | .eu => "eu" | .au => "au"
theorem Wd.s_inj {a b : Wd} (h : a.s = b.s) : a = b := by
  revert h
  cases a <;> cases b <;> first | (intro _; rfl) | (intro h; exact absurd h (by decide +kernel))
structure Row where
  w : Wd
  l : Int
  r : Int
  deriving DecidableEq
def Wd.great (w : Wd) : Bool := w == .ag || w == .eg
def Wd.some (w : Wd) : Bool := w == .ef || w == .eu || w == .ag
def Wd.u (w : Wd) : Bool := w == .eu || w == .au
def Wd.path (w : Wd) : Bool := w == .ef || w == .af || w == .eg || w == .ag || w == .eu || w == .au
def Wd.next (w : Wd) : Bool := w == .ex || w == .ax
def Wd.plain (w : Wd) : Bool := w == .not || w == .and || w == .or || w == .imp || w == .same
def Wd.leaf (w : Wd) : Bool := w == .tt || w == .ff || w == .fact
def Wd.two (w : Wd) : Bool := w == .and || w == .or || w == .imp || w == .same || w == .eu || w == .au
def Wd.one (w : Wd) : Bool := w == .not || w == .ex || w == .ax || w == .ef || w == .af || w == .eg || w == .ag

def plainT (w : Wd) (a b : Bool) : Bool := match w with
  | .not => !a
  | .and => a && b
  | .or => a || b
  | .imp => !a || b
  | _ => a == b
def nextT (w : Wd) (ts : List Bool) (row : List Nat) : Bool := if w = .ex then row.any fun t => ts.getD t false else row.all fun t => ts.getD t false

/-! ### what is due -/
/-- the rank that is due, by the ranks of the next nodes -/
def dueR (row : List Nat) (th go sm : Bool) (R : List Int) : Int :=
  if go then 0 else
  if !th || ((row.map fun t => R.getD t 0).filter fun z => decide (0 ≤ z)).isEmpty then -1 else
  if sm then 1 + lmin ((row.map fun t => R.getD t 0).filter fun z => decide (0 ≤ z)) else
  if ((row.map fun t => R.getD t 0).filter fun z => decide (0 ≤ z)).length < (row.map fun t => R.getD t 0).length then -1 else
  1 + lmax ((row.map fun t => R.getD t 0).filter fun z => decide (0 ≤ z))
def goW (w : Wd) (f s : List Bool) (k : Nat) : Bool := if w.great then !f.getD k false else if w == .ef || w == .af then f.getD k false else s.getD k false
def thW (w : Wd) (f : List Bool) (k : Nat) : Bool := f.getD k false || !w.u
/-- truth and rank that are due at a node, by the row's own ranks -/
def dueRow (g : List (List Nat)) (F T : List (List Bool)) (r : Row) (rk : List Int) (k : Nat) : Bool × Int :=
  if r.w = .fact then ((F.getD k []).getD r.l.toNat false, -1) else
  if r.w = .tt ∨ r.w = .ff then (r.w == .tt, -1) else
  if r.w.next then (nextT r.w (T.getD r.l.toNat []) (g.getD k []), -1) else
  if r.w.plain then (plainT r.w ((T.getD r.l.toNat []).getD k false) ((T.getD (if r.r = -1 then r.l else r.r).toNat []).getD k false), -1) else
  (decide (0 ≤ dueR (g.getD k []) (thW r.w (T.getD r.l.toNat []) k) (goW r.w (T.getD r.l.toNat []) (T.getD (if r.r = -1 then r.l else r.r).toNat []) k) r.w.some rk) != r.w.great,
    dueR (g.getD k []) (thW r.w (T.getD r.l.toNat []) k) (goW r.w (T.getD r.l.toNat []) (T.getD (if r.r = -1 then r.l else r.r).toNat []) k) r.w.some rk)
/-- the same by the law's text: met by the row's own truths -/
def dueL (row : List Nat) (u1 two falls sm : Bool) (tr : List Bool) (rk : List Int) : Bool × Int :=
  if two != falls then (!falls, 0) else
  if u1 || ((row.filter fun j => tr.getD j false != falls).map fun j => rk.getD j 0).isEmpty ||
    (decide (((row.filter fun j => tr.getD j false != falls).map fun j => rk.getD j 0).length < row.length) && !sm) then (falls, -1) else
  if sm then (!falls, 1 + lmin ((row.filter fun j => tr.getD j false != falls).map fun j => rk.getD j 0)) else
  (!falls, 1 + lmax ((row.filter fun j => tr.getD j false != falls).map fun j => rk.getD j 0))
def dueLaw (g : List (List Nat)) (F T : List (List Bool)) (r : Row) (tr : List Bool) (rk : List Int) (k : Nat) : Bool × Int :=
  if r.w = .fact then ((F.getD k []).getD r.l.toNat false, -1) else
  if r.w = .tt ∨ r.w = .ff then (r.w == .tt, -1) else
  if r.w.next then (nextT r.w (T.getD r.l.toNat []) (g.getD k []), -1) else
  if r.w.plain then (plainT r.w ((T.getD r.l.toNat []).getD k false) ((T.getD (if r.r = -1 then r.l else r.r).toNat []).getD k false), -1) else
  dueL (g.getD k []) (r.w.u && !(T.getD r.l.toNat []).getD k false) ((T.getD (if r.r = -1 then r.l else r.r).toNat []).getD k false) r.w.great r.w.some tr rk

structure Gok (g : List (List Nat)) : Prop where
  len : g.length ≤ 12
  rl : ∀ r ∈ g, r.length ≤ 12
  ne : ∀ r ∈ g, r ≠ []
  tg : ∀ r ∈ g, ∀ t ∈ r, t < g.length
def RowOk (nf i : Nat) (r : Row) : Prop :=
  (r.w.leaf = true ∧ r.r = -1 ∧ ((r.w ≠ .fact ∧ r.l = -1) ∨ (r.w = .fact ∧ ∃ l : Nat, r.l = (l : Int) ∧ l < nf))) ∨
  (r.w.one = true ∧ r.r = -1 ∧ ∃ l : Nat, r.l = (l : Int) ∧ l < i) ∨
  (r.w.two = true ∧ ∃ l m : Nat, r.l = (l : Int) ∧ l < i ∧ r.r = (m : Int) ∧ m < i)
/-- tables of so many rows, so many places -/
structure Tb {α : Type} (h n : Nat) (T : List (List α)) : Prop where
  hl : T.length = h
  wl : ∀ r ∈ T, r.length = n
def rD (rs : List Row) (i : Nat) : Row := rs.getD i ⟨.tt, -1, -1⟩
/-- truths and ranks fit -/
def Fits (g : List (List Nat)) (F : List (List Bool)) (rs : List Row) (T : List (List Bool)) (R : List (List Int)) : Prop :=
  ∀ i, i < rs.length → ∀ k, k < g.length → ((T.getD i []).getD k false, (R.getD i []).getD k 0) = dueRow g F T (rD rs i) (R.getD i []) k
def FitsL (g : List (List Nat)) (F : List (List Bool)) (rs : List Row) (T : List (List Bool)) (R : List (List Int)) : Prop :=
  ∀ i, i < rs.length → ∀ k, k < g.length → ((T.getD i []).getD k false, (R.getD i []).getD k 0) = dueLaw g F T (rD rs i) (T.getD i []) (R.getD i []) k
end K94

/-! K94Math2 -/
/-! The two readings of what is due agree; what is due is one. -/
namespace K94
open PySem

theorem bne_twice (a f : Bool) : ((a != f) != f) = a := by cases a <;> cases f <;> rfl
theorem filter_map_eq (row : List Nat) (p : Nat → Bool) (q : Int → Bool) (f : Nat → Int) (h : ∀ j ∈ row, p j = q (f j)) : (row.filter p).map f = (row.map f).filter q := by
  induction row with
  | nil => rfl
  | cons a r ih =>
    have ih := ih fun j hj => h j (List.mem_cons_of_mem _ hj)
    have ha := h a List.mem_cons_self
    rw [List.map_cons, List.filter_cons, List.filter_cons, ha]
    cases q (f a) with
    | true => simp only [if_true, List.map_cons, ih]
    | false => simpa using ih
theorem dueR_ge {row : List Nat} {th go sm : Bool} {R : List Int} : -1 ≤ dueR row th go sm R := by
  unfold dueR
  split
  · omega
  · split
    · omega
    · rename_i h2
      have ne : ((row.map fun t => R.getD t 0).filter fun z => decide (0 ≤ z)) ≠ [] := by
        intro e; rw [e] at h2; simp at h2
      split
      · have m := List.mem_filter.mp (lmin_mem ne)
        have := of_decide_eq_true m.2
        omega
      · split
        · omega
        · have m := List.mem_filter.mp (lmax_mem ne)
          have := of_decide_eq_true m.2
          omega
/-- where met is said by the ranks, the law's reading is the checker's -/
theorem due_same {row : List Nat} {th two falls sm : Bool} {tr : List Bool} {rk : List Int} (h : ∀ j ∈ row, (tr.getD j false != falls) = decide (0 ≤ rk.getD j 0)) :
    dueL row (!th) two falls sm tr rk = (decide (0 ≤ dueR row th (two != falls) sm rk) != falls, dueR row th (two != falls) sm rk) := by
  have e := filter_map_eq row (fun j => tr.getD j false != falls) (fun z => decide (0 ≤ z)) (fun j => rk.getD j 0) h
  unfold dueL dueR
  rw [e]
  cases hgo : (two != falls) with
  | true => cases falls <;> simp
  | false =>
    simp only [Bool.false_eq_true, if_false]
    by_cases hn : ((row.map fun t => rk.getD t 0).filter fun z => decide (0 ≤ z)) = []
    · rw [hn]; cases falls <;> cases th <;> simp
    · have ne : (((row.map fun t => rk.getD t 0).filter fun z => decide (0 ≤ z)).isEmpty) = false := by
        cases q : ((row.map fun t => rk.getD t 0).filter fun z => decide (0 ≤ z)) with
        | nil => exact absurd q hn
        | cons _ _ => rfl
      have m1 := of_decide_eq_true (List.mem_filter.mp (lmin_mem hn)).2
      have m2 := of_decide_eq_true (List.mem_filter.mp (lmax_mem hn)).2
      rw [ne]
      cases th with
      | false => cases falls <;> simp
      | true =>
        cases sm with
        | true =>
          have p1 : (decide (0 ≤ 1 + lmin ((row.map fun t => rk.getD t 0).filter fun z => decide (0 ≤ z)))) = true := decide_eq_true (by omega)
          simp only [Bool.not_true, Bool.or_false, Bool.and_false, Bool.false_eq_true, if_false, if_true, p1]
          cases falls <;> rfl
        | false =>
          by_cases hl : ((row.map fun t => rk.getD t 0).filter fun z => decide (0 ≤ z)).length < row.length
          · have hl' : ((row.map fun t => rk.getD t 0).filter fun z => decide (0 ≤ z)).length < (row.map fun t => rk.getD t 0).length := by rw [List.length_map]; exact hl
            simp only [Bool.not_true, Bool.or_false, Bool.false_or, Bool.false_eq_true, if_false, hl, hl', decide_true, Bool.not_false, Bool.and_self, if_true]
            cases falls <;> rfl
          · have hl' : ¬ ((row.map fun t => rk.getD t 0).filter fun z => decide (0 ≤ z)).length < (row.map fun t => rk.getD t 0).length := by rw [List.length_map]; exact hl
            have p1 : (decide (0 ≤ 1 + lmax ((row.map fun t => rk.getD t 0).filter fun z => decide (0 ≤ z)))) = true := decide_eq_true (by omega)
            simp only [Bool.not_true, Bool.or_false, Bool.false_or, Bool.false_eq_true, if_false, hl, hl', decide_false, Bool.not_false, Bool.false_and, p1]
            cases falls <;> rfl
theorem dueL_cases (row : List Nat) (u1 two falls sm : Bool) (tr : List Bool) (rk : List Int) :
    dueL row u1 two falls sm tr rk = (falls, -1) ∨ dueL row u1 two falls sm tr rk = (!falls, 0) ∨
      ∃ z, dueL row u1 two falls sm tr rk = (!falls, z) ∧ ∃ t ∈ row, (tr.getD t false != falls) = true ∧ rk.getD t 0 ≤ z - 1 := by
  unfold dueL
  split
  · exact .inr (.inl rfl)
  · split
    · exact .inl rfl
    · rename_i h2
      have ne : ((row.filter fun j => tr.getD j false != falls).map fun j => rk.getD j 0) ≠ [] := by
        intro e; rw [e] at h2; simp at h2
      split
      · refine .inr (.inr ⟨_, rfl, ?_⟩)
        obtain ⟨t, ht, e⟩ := List.mem_map.mp (lmin_mem ne)
        obtain ⟨h3, h4⟩ := List.mem_filter.mp ht
        exact ⟨t, h3, h4, by rw [e]; omega⟩
      · refine .inr (.inr ⟨_, rfl, ?_⟩)
        obtain ⟨t, ht, e⟩ := List.mem_map.mp (lmax_mem ne)
        obtain ⟨h3, h4⟩ := List.mem_filter.mp ht
        exact ⟨t, h3, h4, by rw [e]; omega⟩
theorem getD_mem {α : Type} {l : List α} {i : Nat} {d : α} (h : i < l.length) : l.getD i d ∈ l := by
  rw [List.getD_eq_getElem?_getD, List.getElem?_eq_getElem h]
  exact List.getElem_mem h
/-- where the law's reading fits, met is said by the ranks -/
theorem met_of {g : List (List Nat)} (G : Gok g) {u1 two : Nat → Bool} {falls sm : Bool} {tr : List Bool} {rk : List Int}
    (h : ∀ k, k < g.length → (tr.getD k false, rk.getD k 0) = dueL (g.getD k []) (u1 k) (two k) falls sm tr rk) :
    ∀ k, k < g.length → (tr.getD k false != falls) = decide (0 ≤ rk.getD k 0) := by
  -- a lower bound of all ranks
  obtain ⟨B, hB⟩ : ∃ B : Int, ∀ k, k < g.length → B ≤ rk.getD k 0 := by
    refine ⟨lmin (0 :: rk), fun k _ => ?_⟩
    by_cases hk : k < rk.length
    · exact lmin_le (List.mem_cons_of_mem _ (getD_mem hk))
    · have e : rk.getD k 0 = 0 := by rw [List.getD_eq_getElem?_getD, List.getElem?_eq_none (by omega)]; rfl
      rw [e]; exact lmin_le List.mem_cons_self
  have pos : ∀ m : Nat, ∀ k, k < g.length → (rk.getD k 0 - B).toNat ≤ m → (tr.getD k false != falls) = true → 0 ≤ rk.getD k 0 := by
    intro m
    induction m with
    | zero =>
      intro k hk hm ht
      have hb := hB k hk
      have e := h k hk
      rcases dueL_cases (g.getD k []) (u1 k) (two k) falls sm tr rk with c | c | ⟨z, c, t, ht1, ht2, ht3⟩
      · rw [c] at e; injection e with e1 e2; rw [e1] at ht; simp at ht
      · rw [c] at e; injection e with e1 e2; rw [e2]; exact Int.le_refl _
      · rw [c] at e; injection e with e1 e2
        have hg := G.tg _ (getD_mem hk) t ht1
        have hb2 := hB t hg
        omega
    | succ m ih =>
      intro k hk hm ht
      have hb := hB k hk
      have e := h k hk
      rcases dueL_cases (g.getD k []) (u1 k) (two k) falls sm tr rk with c | c | ⟨z, c, t, ht1, ht2, ht3⟩
      · rw [c] at e; injection e with e1 e2; rw [e1] at ht; simp at ht
      · rw [c] at e; injection e with e1 e2; rw [e2]; exact Int.le_refl _
      · rw [c] at e; injection e with e1 e2
        have hg := G.tg _ (getD_mem hk) t ht1
        have hb2 := hB t hg
        have := ih t hg (by omega) ht2
        omega
  intro k hk
  cases hm : (tr.getD k false != falls) with
  | true => exact (decide_eq_true (pos _ k hk (Nat.le_refl _) hm)).symm
  | false =>
    have e := h k hk
    rcases dueL_cases (g.getD k []) (u1 k) (two k) falls sm tr rk with c | c | ⟨z, c, _⟩
    · rw [c] at e; injection e with e1 e2; rw [e2]; rfl
    · rw [c] at e; injection e with e1 e2; rw [e1] at hm; cases falls <;> cases hm
    · rw [c] at e; injection e with e1 e2; rw [e1] at hm; cases falls <;> cases hm
theorem pathRow {nf i : Nat} {r : Row} (h : RowOk nf i r) (h1 : ¬ r.w = .fact) (h2 : ¬ (r.w = .tt ∨ r.w = .ff)) (h3 : ¬ r.w.next = true) (h4 : ¬ r.w.plain = true) :
    (∃ l : Nat, r.l = (l : Int) ∧ l < i) ∧ ((r.w.u = false ∧ r.r = -1) ∨ (r.w.u = true ∧ r.w.great = false ∧ (r.w == .ef || r.w == .af) = false ∧ ∃ m : Nat, r.r = (m : Int) ∧ m < i)) := by
  obtain ⟨w, l, rr⟩ := r
  rcases h with ⟨a, _⟩ | ⟨a, b, c⟩ | ⟨a, l', m, e1, e2, e3, e4⟩
  · cases w <;> simp_all (config := { decide := true }) [Wd.leaf]
  · refine ⟨c, .inl ⟨?_, b⟩⟩
    cases w <;> simp_all (config := { decide := true }) [Wd.one, Wd.u]
  · refine ⟨⟨l', e1, e2⟩, .inr ⟨?_, ?_, ?_, m, e3, e4⟩⟩ <;> (cases w <;> simp_all (config := { decide := true }) [Wd.two, Wd.plain, Wd.u, Wd.great])
theorem go_two {nf i : Nat} {r : Row} {T : List (List Bool)} (h : RowOk nf i r) (h1 : ¬ r.w = .fact) (h2 : ¬ (r.w = .tt ∨ r.w = .ff)) (h3 : ¬ r.w.next = true) (h4 : ¬ r.w.plain = true) (k : Nat) :
    goW r.w (T.getD r.l.toNat []) (T.getD (if r.r = -1 then r.l else r.r).toNat []) k = ((T.getD (if r.r = -1 then r.l else r.r).toNat []).getD k false != r.w.great) := by
  obtain ⟨_, c | ⟨c1, c2, c3, m, c4, _⟩⟩ := pathRow h h1 h2 h3 h4
  · rw [if_pos c.2]
    have c1 := c.1
    obtain ⟨w, l, rr⟩ := r
    unfold goW
    dsimp only at c1 h1 h2 h3 h4 ⊢
    generalize (T.getD l.toNat []).getD k false = X
    clear h c
    cases w <;> first
      | exact absurd c1 (by decide)
      | exact absurd rfl h1
      | exact absurd (Or.inl rfl) h2
      | exact absurd (Or.inr rfl) h2
      | exact absurd rfl h3
      | exact absurd rfl h4
      | (cases X <;> rfl)
  · unfold goW
    rw [c2, if_neg (by decide), c3, if_neg (by decide)]
    simp
theorem th_u {r : Row} {f : List Bool} (k : Nat) : (r.w.u && !f.getD k false) = !thW r.w f k := by
  unfold thW
  cases r.w.u <;> cases f.getD k false <;> rfl
/-- THE TWO READINGS agree -/
theorem fits_iff {g : List (List Nat)} {F T : List (List Bool)} {R : List (List Int)} {rs : List Row} {nf : Nat} (G : Gok g) (ok : ∀ i, i < rs.length → RowOk nf i (rD rs i)) : Fits g F rs T R ↔ FitsL g F rs T R := by
  have key : ∀ i, i < rs.length → ((∀ k, k < g.length → ((T.getD i []).getD k false, (R.getD i []).getD k 0) = dueRow g F T (rD rs i) (R.getD i []) k) ↔
      (∀ k, k < g.length → ((T.getD i []).getD k false, (R.getD i []).getD k 0) = dueLaw g F T (rD rs i) (T.getD i []) (R.getD i []) k)) := by
    intro i hi
    have o := ok i hi
    generalize rD rs i = r at o
    unfold dueRow dueLaw
    by_cases h1 : r.w = .fact
    · simp only [if_pos h1]
    · simp only [if_neg h1]
      by_cases h2 : r.w = .tt ∨ r.w = .ff
      · simp only [if_pos h2]
      · simp only [if_neg h2]
        by_cases h3 : r.w.next = true
        · simp only [if_pos h3]
        · simp only [if_neg h3]
          by_cases h4 : r.w.plain = true
          · simp only [if_pos h4]
          · simp only [if_neg h4]
            simp only [go_two o h1 h2 h3 h4, th_u]
            have tgt : ∀ k, k < g.length → ∀ j ∈ g.getD k [], j < g.length := fun k hk j hj => G.tg _ (getD_mem hk) j hj
            constructor
            · intro D k hk
              rw [D k hk]
              refine (due_same fun j hj => ?_).symm
              have e := D j (tgt k hk j hj)
              injection e with e1 e2
              rw [e1, bne_twice, e2]
            · intro L k hk
              have M := met_of G L
              rw [L k hk]
              exact due_same fun j hj => M j (tgt k hk j hj)
  exact ⟨fun h i hi => (key i hi).mp (h i hi), fun h i hi => (key i hi).mpr (h i hi)⟩
end K94

/-! K94Math3 -/
/-! What is due is one; the search by rounds finds it. -/
namespace K94
open PySem

/-- the rank m + 1, said by the next nodes -/
def Lev (row : List Nat) (sm : Bool) (R : List Int) (m : Int) : Prop :=
  (∃ t ∈ row, R.getD t 0 = m) ∧ if sm = true then ∀ t ∈ row, 0 ≤ R.getD t 0 → m ≤ R.getD t 0 else ∀ t ∈ row, 0 ≤ R.getD t 0 ∧ R.getD t 0 ≤ m
theorem mem_ranked {row : List Nat} {R : List Int} {z : Int} : z ∈ ((row.map fun t => R.getD t 0).filter fun z => decide (0 ≤ z)) ↔ (∃ t ∈ row, R.getD t 0 = z) ∧ 0 ≤ z := by
  rw [List.mem_filter, List.mem_map, decide_eq_true_eq]
theorem all_of_len {α : Type} {p : α → Bool} : ∀ {l : List α}, ¬ (l.filter p).length < l.length → ∀ x ∈ l, p x = true
  | [], _, x, hx => nomatch hx
  | a :: r, h, x, hx => by
    have hle := List.length_filter_le p r
    rw [List.filter_cons] at h
    cases hp : p a with
    | false =>
      rw [hp, if_neg (by decide), List.length_cons] at h
      exact absurd (by omega) h
    | true =>
      rw [hp, if_pos rfl, List.length_cons, List.length_cons] at h
      rcases List.mem_cons.mp hx with e | hx
      · rw [e]; exact hp
      · exact all_of_len (by omega) x hx
theorem len_of_all {α : Type} {p : α → Bool} {l : List α} (h : ∀ x ∈ l, p x = true) : l.filter p = l := List.filter_eq_self.mpr h
theorem dueR_lev {row : List Nat} {th go sm : Bool} {R : List Int} {m : Int} (hm : 0 ≤ m) : dueR row th go sm R = m + 1 ↔ go = false ∧ th = true ∧ Lev row sm R m := by
  constructor
  · intro h
    unfold dueR at h
    cases hgo : go with
    | true => rw [hgo, if_pos rfl] at h; omega
    | false =>
      rw [hgo, if_neg (by decide)] at h
      split at h
      · omega
      · rename_i h2
        have hth : th = true := by cases th with
          | true => rfl
          | false => simp at h2
        have ne : ((row.map fun t => R.getD t 0).filter fun z => decide (0 ≤ z)) ≠ [] := by
          intro e; rw [e] at h2; simp at h2
        refine ⟨rfl, hth, ?_⟩
        unfold Lev
        cases sm with
        | true =>
          rw [if_pos rfl] at h
          obtain ⟨⟨t, ht, e⟩, h0⟩ := mem_ranked.mp (lmin_mem ne)
          refine ⟨⟨t, ht, by omega⟩, ?_⟩
          rw [if_pos rfl]
          intro t' ht' h0'
          have := lmin_le (mem_ranked.mpr ⟨⟨t', ht', rfl⟩, h0'⟩)
          omega
        | false =>
          rw [if_neg (by decide)] at h
          split at h
          · omega
          · rename_i h3
            obtain ⟨⟨t, ht, e⟩, h0⟩ := mem_ranked.mp (lmax_mem ne)
            refine ⟨⟨t, ht, by omega⟩, ?_⟩
            rw [if_neg (by decide)]
            intro t' ht'
            have h0' : 0 ≤ R.getD t' 0 := of_decide_eq_true (all_of_len h3 _ (List.mem_map.mpr ⟨t', ht', rfl⟩))
            have := le_lmax (mem_ranked.mpr ⟨⟨t', ht', rfl⟩, h0'⟩)
            exact ⟨h0', by omega⟩
  · rintro ⟨hgo, hth, ⟨t, ht, e⟩, hl⟩
    unfold dueR
    have me : m ∈ ((row.map fun t => R.getD t 0).filter fun z => decide (0 ≤ z)) := mem_ranked.mpr ⟨⟨t, ht, e⟩, hm⟩
    have ne : (((row.map fun t => R.getD t 0).filter fun z => decide (0 ≤ z)).isEmpty) = false := by
      cases q : ((row.map fun t => R.getD t 0).filter fun z => decide (0 ≤ z)) with
      | nil => rw [q] at me; exact nomatch me
      | cons _ _ => rfl
    rw [hgo, if_neg (by decide), hth, ne, if_neg (by decide)]
    cases sm with
    | true =>
      rw [if_pos rfl] at hl
      rw [if_pos rfl, lmin_eq me (fun y hy => ?_)]
      · omega
      · obtain ⟨⟨t', ht', e'⟩, h0⟩ := mem_ranked.mp hy
        have := hl t' ht' (by omega)
        omega
    | false =>
      rw [if_neg (by decide)] at hl
      have all : ((row.map fun t => R.getD t 0).filter fun z => decide (0 ≤ z)) = (row.map fun t => R.getD t 0) := len_of_all fun x hx => by
        obtain ⟨t', ht', e'⟩ := List.mem_map.mp hx
        rw [← e']
        exact decide_eq_true (hl t' ht').1
      rw [if_neg (by decide), if_neg (by rw [all]; omega), lmax_eq me (fun y hy => ?_)]
      · omega
      · obtain ⟨⟨t', ht', e'⟩, h0⟩ := mem_ranked.mp hy
        have := (hl t' ht').2
        omega
theorem dueR_zero {row : List Nat} {th go sm : Bool} {R : List Int} : dueR row th go sm R = 0 ↔ go = true := by
  constructor
  · intro h
    cases hgo : go with
    | true => rfl
    | false =>
      unfold dueR at h
      rw [hgo, if_neg (by decide)] at h
      split at h
      · omega
      · rename_i h2
        have ne : ((row.map fun t => R.getD t 0).filter fun z => decide (0 ≤ z)) ≠ [] := by
          intro e; rw [e] at h2; simp at h2
        have m1 := of_decide_eq_true (List.mem_filter.mp (lmin_mem ne)).2
        have m2 := of_decide_eq_true (List.mem_filter.mp (lmax_mem ne)).2
        split at h
        · omega
        · split at h <;> omega
  · intro h
    unfold dueR
    rw [if_pos h]
/-- the ranks that fit are one -/
theorem rank_one {g : List (List Nat)} (G : Gok g) {th go : Nat → Bool} {sm : Bool} {R S : List Int} (h1 : ∀ k, k < g.length → R.getD k 0 = dueR (g.getD k []) (th k) (go k) sm R)
    (h2 : ∀ k, k < g.length → S.getD k 0 = dueR (g.getD k []) (th k) (go k) sm S) : ∀ k, k < g.length → R.getD k 0 = S.getD k 0 := by
  have tgt : ∀ k, k < g.length → ∀ j ∈ g.getD k [], j < g.length := fun k hk j hj => G.tg _ (getD_mem hk) j hj
  have half : ∀ m : Nat, ∀ (R S : List Int), (∀ k, k < g.length → R.getD k 0 = dueR (g.getD k []) (th k) (go k) sm R) → (∀ k, k < g.length → S.getD k 0 = dueR (g.getD k []) (th k) (go k) sm S) →
      (∀ j : Nat, j < m → ∀ k, k < g.length → (R.getD k 0 = (j : Int) ↔ S.getD k 0 = (j : Int))) → ∀ k, k < g.length → R.getD k 0 = (m : Int) → S.getD k 0 = (m : Int) := by
    intro m R S hR hS ih k hk e
    cases m with
    | zero =>
      have e0 : R.getD k 0 = 0 := e
      show S.getD k 0 = 0
      rw [hR k hk] at e0
      rw [hS k hk]
      exact dueR_zero.mpr (dueR_zero.mp e0)
    | succ m =>
      have e1 : R.getD k 0 = (m : Int) + 1 := by rw [e]; omega
      rw [hR k hk, dueR_lev (by omega)] at e1
      obtain ⟨hgo, hth, ⟨t, ht, et⟩, hl⟩ := e1
      have lt : ∀ t ∈ g.getD k [], S.getD t 0 < (m : Int) → 0 ≤ S.getD t 0 → R.getD t 0 = S.getD t 0 := by
        intro t' ht' h3 h4
        obtain ⟨j, hj⟩ : ∃ j : Nat, S.getD t' 0 = (j : Int) := ⟨(S.getD t' 0).toNat, by omega⟩
        rw [hj]
        exact (ih j (by omega) t' (tgt k hk t' ht')).mpr hj
      show S.getD k 0 = ((m + 1 : Nat) : Int)
      have goal : S.getD k 0 = (m : Int) + 1 := by
        rw [hS k hk, dueR_lev (by omega)]
        refine ⟨hgo, hth, ⟨t, ht, (ih m (by omega) t (tgt k hk t ht)).mp et⟩, ?_⟩
        cases sm with
        | true =>
          rw [if_pos rfl] at hl ⊢
          intro t' ht' h0
          by_cases h3 : S.getD t' 0 < (m : Int)
          · have e2 := lt t' ht' h3 h0
            have := hl t' ht' (by omega)
            omega
          · omega
        | false =>
          rw [if_neg (by decide)] at hl ⊢
          intro t' ht'
          obtain ⟨h3, h4⟩ := hl t' ht'
          obtain ⟨j, hj⟩ : ∃ j : Nat, R.getD t' 0 = (j : Int) := ⟨(R.getD t' 0).toNat, by omega⟩
          have e2 := (ih j (by omega) t' (tgt k hk t' ht')).mp hj
          omega
      rw [goal]; omega
  have both : ∀ m : Nat, ∀ j : Nat, j < m → ∀ k, k < g.length → (R.getD k 0 = (j : Int) ↔ S.getD k 0 = (j : Int)) := by
    intro m
    induction m with
    | zero => intro j hj; omega
    | succ m ih =>
      intro j hj k hk
      by_cases hjm : j < m
      · exact ih j hjm k hk
      · have e : j = m := by omega
        subst e
        exact ⟨half j R S h1 h2 ih k hk, half j S R h2 h1 (fun i hi k hk => (ih i hi k hk).symm) k hk⟩
  intro k hk
  have r1 : -1 ≤ R.getD k 0 := by rw [h1 k hk]; exact dueR_ge
  have r2 : -1 ≤ S.getD k 0 := by rw [h2 k hk]; exact dueR_ge
  by_cases p1 : 0 ≤ R.getD k 0
  · obtain ⟨j, hj⟩ : ∃ j : Nat, R.getD k 0 = (j : Int) := ⟨(R.getD k 0).toNat, by omega⟩
    rw [hj, (both (j + 1) j (by omega) k hk).mp hj]
  · by_cases p2 : 0 ≤ S.getD k 0
    · obtain ⟨j, hj⟩ : ∃ j : Nat, S.getD k 0 = (j : Int) := ⟨(S.getD k 0).toNat, by omega⟩
      rw [hj, (both (j + 1) j (by omega) k hk).mpr hj]
    · omega
theorem ext_getD {α : Type} {d : α} {n : Nat} {a b : List α} (ha : a.length = n) (hb : b.length = n) (h : ∀ k, k < n → a.getD k d = b.getD k d) : a = b := by
  refine List.ext_getElem (by omega) fun k h1 h2 => ?_
  have e := h k (by omega)
  rw [List.getD_eq_getElem?_getD, List.getD_eq_getElem?_getD, List.getElem?_eq_getElem h1, List.getElem?_eq_getElem h2] at e
  exact e
theorem Tb.get {α : Type} {h n : Nat} {T : List (List α)} (t : Tb h n T) {i : Nat} (hi : i < h) : (T.getD i []).length = n := t.wl _ (getD_mem (by rw [t.hl]; exact hi))
/-- THE ANSWER is one -/
theorem fits_one {g : List (List Nat)} {F T T' : List (List Bool)} {R R' : List (List Int)} {rs : List Row} {nf : Nat} (G : Gok g) (ok : ∀ i, i < rs.length → RowOk nf i (rD rs i))
    (t : Tb rs.length g.length T) (t' : Tb rs.length g.length T') (r : Tb rs.length g.length R) (r' : Tb rs.length g.length R') (h : Fits g F rs T R) (h' : Fits g F rs T' R') : T = T' ∧ R = R' := by
  have each : ∀ m : Nat, ∀ i, i < m → i < rs.length → T.getD i [] = T'.getD i [] ∧ R.getD i [] = R'.getD i [] := by
    intro m
    induction m with
    | zero => intro i hi; omega
    | succ m ih =>
      intro i him hi
      by_cases hm : i < m
      · exact ih i hm hi
      have e : i = m := by omega
      subst e
      have a := h i hi
      have b := h' i hi
      have o := ok i hi
      revert a b o
      generalize rD rs i = q
      intro a b o
      have pair : ∀ {c : Nat → Bool × Int}, (∀ k, k < g.length → ((T.getD i []).getD k false, (R.getD i []).getD k 0) = c k) → (∀ k, k < g.length → ((T'.getD i []).getD k false, (R'.getD i []).getD k 0) = c k) →
          T.getD i [] = T'.getD i [] ∧ R.getD i [] = R'.getD i [] := by
        intro c x y
        refine ⟨ext_getD (d := false) (t.get hi) (t'.get hi) fun k hk => ?_, ext_getD (d := 0) (r.get hi) (r'.get hi) fun k hk => ?_⟩
        · exact congrArg Prod.fst ((x k hk).trans (y k hk).symm)
        · exact congrArg Prod.snd ((x k hk).trans (y k hk).symm)
      have part : ∀ l : Nat, l < i → T.getD l [] = T'.getD l [] := fun l hl => (ih l hl (by omega)).1
      unfold dueRow at a b
      by_cases h1 : q.w = .fact
      · simp only [if_pos h1] at a b
        exact pair a b
      · simp only [if_neg h1] at a b
        by_cases h2 : q.w = .tt ∨ q.w = .ff
        · simp only [if_pos h2] at a b
          exact pair a b
        · simp only [if_neg h2] at a b
          have pl : T.getD q.l.toNat [] = T'.getD q.l.toNat [] ∧ T.getD (if q.r = -1 then q.l else q.r).toNat [] = T'.getD (if q.r = -1 then q.l else q.r).toNat [] := by
            rcases o with ⟨o1, _⟩ | ⟨_, o2, l, o3, o4⟩ | ⟨_, l, m, o3, o4, o5, o6⟩
            · exfalso
              unfold Wd.leaf at o1
              simp only [Bool.or_eq_true, beq_iff_eq] at o1
              rcases o1 with (z | z) | z
              · exact h2 (.inl z)
              · exact h2 (.inr z)
              · exact h1 z
            · rw [if_pos o2, o3]
              exact ⟨part l o4, part l o4⟩
            · rw [if_neg (by omega), o3, o5]
              exact ⟨part l o4, part m o6⟩
          rw [pl.1, pl.2] at a
          by_cases h3 : q.w.next = true
          · simp only [if_pos h3] at a b
            exact pair a b
          · simp only [if_neg h3] at a b
            by_cases h4 : q.w.plain = true
            · simp only [if_pos h4] at a b
              exact pair a b
            · simp only [if_neg h4] at a b
              have one := rank_one G (fun k hk => congrArg Prod.snd (a k hk)) (fun k hk => congrArg Prod.snd (b k hk))
              have er : R.getD i [] = R'.getD i [] := ext_getD (d := 0) (r.get hi) (r'.get hi) one
              rw [er] at a
              exact pair (fun k hk => by rw [er]; exact a k hk) b
  have all := fun i hi => each rs.length i hi hi
  exact ⟨ext_getD (d := []) t.hl t'.hl fun i hi => (all i hi).1, ext_getD (d := []) r.hl r'.hl fun i hi => (all i hi).2⟩
end K94

/-! K94Math4 -/
/-! The search by rounds. -/
namespace K94
open PySem
def joinsF (row : List Nat) (R : List Int) (sm : Bool) : Bool := if sm then row.any fun t => decide (0 ≤ R.getD t 0) else row.all fun t => decide (0 ≤ R.getD t 0)
def setAll (R : List Int) (l : List Nat) (c : Int) : List Int := l.foldl (fun R k => R.set k c) R
theorem setAll_len : ∀ (l : List Nat) (R : List Int) (c : Int), (setAll R l c).length = R.length
  | [], _, _ => rfl
  | k :: r, R, c => by
    show (setAll (R.set k c) r c).length = _
    rw [setAll_len r, List.length_set]
theorem getD_set {α : Type} {l : List α} {i j : Nat} {x d : α} : (l.set i x).getD j d = if j = i ∧ i < l.length then x else l.getD j d := by
  rw [List.getD_eq_getElem?_getD, List.getD_eq_getElem?_getD, List.getElem?_set]
  by_cases h : i = j
  · subst h
    by_cases h2 : i < l.length
    · simp [h2]
    · rw [List.getElem?_eq_none (by omega)]; simp [h2]
  · have h' : ¬ j = i := fun e => h e.symm
    simp [h, h']
theorem setAll_get : ∀ (l : List Nat) (R : List Int) (c : Int), (∀ k ∈ l, k < R.length) → ∀ k, (setAll R l c).getD k 0 = if k ∈ l then c else R.getD k 0
  | [], _, _, _, _ => by simp [setAll]
  | a :: r, R, c, h, k => by
    show (setAll (R.set a c) r c).getD k 0 = _
    rw [setAll_get r (R.set a c) c (fun k hk => by rw [List.length_set]; exact h k (List.mem_cons_of_mem _ hk)), getD_set]
    have ha := h a List.mem_cons_self
    by_cases h1 : k ∈ r
    · rw [if_pos h1, if_pos (List.mem_cons_of_mem _ h1)]
    · rw [if_neg h1]
      by_cases h2 : k = a
      · rw [if_pos ⟨h2, ha⟩, if_pos (by rw [h2]; exact List.mem_cons_self)]
      · rw [if_neg (fun z => h2 z.1), if_neg (by
          intro z
          rcases List.mem_cons.mp z with e | e
          · exact h2 e
          · exact h1 e)]
theorem setAll_take {R : List Int} {l : List Nat} {c : Int} {i : Nat} (h : i < l.length) : setAll R (l.take (i + 1)) c = (setAll R (l.take i) c).set (l.getD i 0) c := by
  unfold setAll
  rw [List.take_add_one, List.getElem?_eq_getElem h, List.foldl_append, List.getD_eq_getElem?_getD, List.getElem?_eq_getElem h]
  rfl
structure Rnd (g : List (List Nat)) (th go : Nat → Bool) (sm : Bool) (c : Int) (R : List Int) (fd : List Nat) : Prop where
  len : R.length = g.length
  pos : 0 ≤ c
  rng : ∀ k, k < g.length → R.getD k 0 = -1 ∨ (0 ≤ R.getD k 0 ∧ R.getD k 0 ≤ c)
  zer : ∀ k, k < g.length → (R.getD k 0 = 0 ↔ go k = true)
  lev : ∀ k, k < g.length → ∀ m : Int, 0 ≤ m → R.getD k 0 = m + 1 → th k = true ∧ Lev (g.getD k []) sm R m
  off : ∀ k, k < g.length → R.getD k 0 = -1 → th k = true → if sm = true then ∀ t ∈ g.getD k [], R.getD t 0 = -1 ∨ R.getD t 0 = c else ∃ t ∈ g.getD k [], R.getD t 0 = -1 ∨ R.getD t 0 = c
  fnd : ∀ k, k < g.length → R.getD k 0 = c → k ∈ fd
  fin : ∀ k ∈ fd, k < g.length
def wait (g : List (List Nat)) (th : Nat → Bool) (R : List Int) : List Nat := (List.range g.length).filter fun k => decide (R.getD k 0 < 0) && th k
def nextF (g : List (List Nat)) (th : Nat → Bool) (sm : Bool) (R : List Int) : List Nat := (wait g th R).filter fun k => joinsF (g.getD k []) R sm
theorem mem_nextF {g : List (List Nat)} {th : Nat → Bool} {sm : Bool} {R : List Int} {k : Nat} : k ∈ nextF g th sm R ↔ k < g.length ∧ R.getD k 0 < 0 ∧ th k = true ∧ joinsF (g.getD k []) R sm = true := by
  unfold nextF wait
  rw [List.mem_filter, List.mem_filter, List.mem_range, Bool.and_eq_true, decide_eq_true_eq]
  constructor
  · rintro ⟨⟨a, b, c⟩, d⟩; exact ⟨a, b, c, d⟩
  · rintro ⟨a, b, c, d⟩; exact ⟨⟨a, b, c⟩, d⟩
section
variable {g : List (List Nat)} {th go : Nat → Bool} {sm : Bool} {c : Int} {R : List Int} {fd : List Nat}
theorem rnd_start (G : Gok g) {goals : List Bool} (hg : goals.length = g.length) (hgo : ∀ k, goals.getD k false = go k) : Rnd g th go sm 0 (goals.map fun b => if b = true then 0 else -1) ((List.range g.length).filter fun k => decide ((goals.map fun b => if b = true then (0 : Int) else -1).getD k 0 = 0)) := by
  have at_ : ∀ k, k < g.length → (goals.map fun b => if b = true then (0 : Int) else -1).getD k 0 = if go k = true then 0 else -1 := by
    intro k hk
    rw [← hgo k, List.getD_eq_getElem?_getD, List.getElem?_map, List.getD_eq_getElem?_getD, List.getElem?_eq_getElem (by omega)]
    rfl
  refine ⟨by rw [List.length_map]; exact hg, Int.le_refl 0, fun k hk => ?_, fun k hk => ?_, fun k hk m hm e => ?_, fun k hk e ht => ?_, fun k hk e => ?_, fun k hk => ?_⟩
  · rw [at_ k hk]; cases go k <;> simp
  · rw [at_ k hk]; cases go k <;> simp
  · rw [at_ k hk] at e
    cases h : go k <;> rw [h] at e <;> simp at e <;> omega
  · have tg := G.tg _ (getD_mem (d := []) hk)
    have each : ∀ t ∈ g.getD k [], (goals.map fun b => if b = true then (0 : Int) else -1).getD t 0 = -1 ∨ (goals.map fun b => if b = true then (0 : Int) else -1).getD t 0 = 0 := fun t ht => by
      rw [at_ t (tg t ht)]; cases go t <;> simp
    cases sm with
    | true => rw [if_pos rfl]; exact each
    | false =>
      rw [if_neg (by decide)]
      have ne := G.ne _ (getD_mem (d := []) hk)
      cases q : g.getD k [] with
      | nil => exact absurd q ne
      | cons t r => exact ⟨t, List.mem_cons_self, each t (by rw [q]; exact List.mem_cons_self)⟩
  · exact List.mem_filter.mpr ⟨List.mem_range.mpr hk, decide_eq_true e⟩
  · exact List.mem_range.mp (List.mem_filter.mp hk).1
theorem rnd_step (G : Gok g) (r : Rnd g th go sm c R fd) : Rnd g th go sm (c + 1) (setAll R (nextF g th sm R) (c + 1)) (nextF g th sm R) := by
  have fin : ∀ k ∈ nextF g th sm R, k < g.length := fun k hk => (mem_nextF.mp hk).1
  have at_ := setAll_get (nextF g th sm R) R (c + 1) fun k hk => by rw [r.len]; exact fin k hk
  have pos := r.pos
  have tg : ∀ k, k < g.length → ∀ j ∈ g.getD k [], j < g.length := fun k hk j hj => G.tg _ (getD_mem hk) j hj
  -- what a place has now
  have now : ∀ k, k < g.length → (k ∈ nextF g th sm R ∧ R.getD k 0 = -1 ∧ (setAll R (nextF g th sm R) (c + 1)).getD k 0 = c + 1) ∨ (k ∉ nextF g th sm R ∧ (setAll R (nextF g th sm R) (c + 1)).getD k 0 = R.getD k 0) := by
    intro k hk
    rw [at_ k]
    by_cases h : k ∈ nextF g th sm R
    · refine .inl ⟨h, ?_, by rw [if_pos h]⟩
      have := (mem_nextF.mp h).2.1
      rcases r.rng k hk with z | z <;> omega
    · exact .inr ⟨h, by rw [if_neg h]⟩
  refine ⟨by rw [setAll_len]; exact r.len, by omega, fun k hk => ?_, fun k hk => ?_, fun k hk m hm e => ?_, fun k hk e ht => ?_, fun k hk e => ?_, fin⟩
  · have a := r.rng k hk
    rcases now k hk with ⟨_, _, z⟩ | ⟨_, z⟩ <;> rw [z] <;> omega
  · have a := r.zer k hk
    rcases now k hk with ⟨_, y, z⟩ | ⟨_, z⟩
    · rw [z]
      rw [y] at a
      constructor
      · intro x; omega
      · intro x; have := a.mpr x; omega
    · rw [z]; exact a
  · rcases now k hk with ⟨h, y, z⟩ | ⟨_, z⟩
    · -- found now
      rw [z] at e
      have em : m = c := by omega
      subst em
      obtain ⟨_, _, hth, hj⟩ := mem_nextF.mp h
      have ho := r.off k hk y hth
      refine ⟨hth, ?_⟩
      unfold joinsF at hj
      cases hs : sm with
      | true =>
        rw [hs] at hj ho
        rw [if_pos rfl] at hj ho
        obtain ⟨t, ht, h0⟩ := List.any_eq_true.mp hj
        have h0 := of_decide_eq_true h0
        have et : R.getD t 0 = m := by rcases ho t ht with q | q <;> omega
        refine ⟨⟨t, ht, ?_⟩, ?_⟩
        · rcases now t (tg k hk t ht) with ⟨_, y2, _⟩ | ⟨_, z2⟩
          · omega
          · rw [← hs, z2, et]
        · rw [if_pos rfl]
          intro t' ht' h0'
          rcases now t' (tg k hk t' ht') with ⟨_, _, z2⟩ | ⟨_, z2⟩
          · rw [← hs] at h0' ⊢; omega
          · rw [← hs] at h0' ⊢
            rcases ho t' ht' with q | q <;> omega
      | false =>
        rw [hs] at hj ho
        rw [if_neg (by decide)] at hj ho
        have all : ∀ t ∈ g.getD k [], 0 ≤ R.getD t 0 := fun t ht => of_decide_eq_true (List.all_eq_true.mp hj t ht)
        have same : ∀ t ∈ g.getD k [], (setAll R (nextF g th sm R) (m + 1)).getD t 0 = R.getD t 0 := fun t ht => by
          rcases now t (tg k hk t ht) with ⟨_, y2, _⟩ | ⟨_, z2⟩
          · have := all t ht; omega
          · exact z2
        rw [hs] at same
        obtain ⟨t, ht, q⟩ := ho
        refine ⟨⟨t, ht, ?_⟩, ?_⟩
        · rw [same t ht]; have := all t ht; rcases q with q | q <;> omega
        · rw [if_neg (by decide)]
          intro t' ht'
          rw [same t' ht']
          have a := r.rng t' (tg k hk t' ht')
          have b := all t' ht'
          omega
    · -- found before
      rw [z] at e
      obtain ⟨hth, ⟨t, ht, et⟩, hl⟩ := r.lev k hk m hm e
      have hk2 := r.rng k hk
      refine ⟨hth, ⟨t, ht, ?_⟩, ?_⟩
      · rcases now t (tg k hk t ht) with ⟨_, y2, _⟩ | ⟨_, z2⟩
        · omega
        · rw [z2, et]
      · cases hs : sm with
        | true =>
          rw [hs, if_pos rfl] at hl
          rw [if_pos rfl]
          intro t' ht' h0'
          rcases now t' (tg k hk t' ht') with ⟨_, _, z2⟩ | ⟨_, z2⟩
          · rw [← hs]; omega
          · rw [← hs] at h0' ⊢
            rw [z2] at h0' ⊢
            exact hl t' ht' h0'
        | false =>
          rw [hs, if_neg (by decide)] at hl
          rw [if_neg (by decide)]
          intro t' ht'
          have a := hl t' ht'
          rcases now t' (tg k hk t' ht') with ⟨_, y2, _⟩ | ⟨_, z2⟩
          · omega
          · rw [← hs, z2]; exact a
  · rcases now k hk with ⟨h, y, z⟩ | ⟨h, z⟩
    · omega
    · rw [z] at e
      have nj : joinsF (g.getD k []) R sm = false := by
        cases q : joinsF (g.getD k []) R sm with
        | false => rfl
        | true => exact absurd (mem_nextF.mpr ⟨hk, by omega, ht, q⟩) h
      unfold joinsF at nj
      have turn : ∀ t ∈ g.getD k [], R.getD t 0 = -1 → (setAll R (nextF g th sm R) (c + 1)).getD t 0 = -1 ∨ (setAll R (nextF g th sm R) (c + 1)).getD t 0 = c + 1 := fun t ht q => by
        rcases now t (tg k hk t ht) with ⟨_, _, z2⟩ | ⟨_, z2⟩
        · exact .inr z2
        · exact .inl (by rw [z2]; exact q)
      cases hs : sm with
      | true =>
        rw [hs, if_pos rfl] at nj
        rw [if_pos rfl]
        intro t ht'
        rw [← hs]
        refine turn t ht' ?_
        have a := r.rng t (tg k hk t ht')
        have b := List.any_eq_false.mp nj t ht'
        have b' : ¬ 0 ≤ R.getD t 0 := fun z => b (decide_eq_true z)
        omega
      | false =>
        rw [hs, if_neg (by decide)] at nj
        rw [if_neg (by decide)]
        obtain ⟨t, ht', b⟩ := List.all_eq_false.mp nj
        refine ⟨t, ht', ?_⟩
        rw [← hs]
        refine turn t ht' ?_
        have a := r.rng t (tg k hk t ht')
        have b' : ¬ 0 ≤ R.getD t 0 := fun z => b (decide_eq_true z)
        omega
  · rcases now k hk with ⟨h, _, _⟩ | ⟨_, z⟩
    · exact h
    · have a := r.rng k hk
      rw [z] at e
      omega
theorem rnd_end (G : Gok g) (r : Rnd g th go sm c R []) : ∀ k, k < g.length → R.getD k 0 = dueR (g.getD k []) (th k) (go k) sm R := by
  intro k hk
  have pos := r.pos
  have tg := G.tg _ (getD_mem (d := []) hk)
  have none_c : ∀ t, t < g.length → R.getD t 0 ≠ c := fun t ht e => nomatch r.fnd t ht e
  by_cases h0 : R.getD k 0 = 0
  · rw [h0]; exact (dueR_zero.mpr ((r.zer k hk).mp h0)).symm
  · have ngo : go k = false := by
      cases q : go k with
      | false => rfl
      | true => exact absurd ((r.zer k hk).mpr q) h0
    rcases r.rng k hk with h1 | h1
    · rw [h1]
      have ge := dueR_ge (row := g.getD k []) (th := th k) (go := go k) (sm := sm) (R := R)
      have nz : dueR (g.getD k []) (th k) (go k) sm R ≠ 0 := fun z => by
        rw [dueR_zero.mp z] at ngo; cases ngo
      by_cases h2 : dueR (g.getD k []) (th k) (go k) sm R = -1
      · exact h2.symm
      · exfalso
        obtain ⟨m, hm, em⟩ : ∃ m : Int, 0 ≤ m ∧ dueR (g.getD k []) (th k) (go k) sm R = m + 1 := ⟨dueR (g.getD k []) (th k) (go k) sm R - 1, by omega, by omega⟩
        obtain ⟨_, hth, ⟨t, ht, et⟩, hl⟩ := (dueR_lev hm).mp em
        have ho := r.off k hk h1 hth
        cases hs : sm with
        | true =>
          rw [hs, if_pos rfl] at ho
          rcases ho t ht with q | q
          · omega
          · exact none_c t (tg t ht) q
        | false =>
          rw [hs, if_neg (by decide)] at ho
          rw [hs, if_neg (by decide)] at hl
          obtain ⟨t', ht', q⟩ := ho
          have := hl t' ht'
          rcases q with q | q
          · omega
          · exact none_c t' (tg t' ht') q
    · have e1 : R.getD k 0 = (R.getD k 0 - 1) + 1 := by omega
      obtain ⟨hth, hl⟩ := r.lev k hk _ (by omega) e1
      conv => lhs; rw [e1]
      exact ((dueR_lev (by omega)).mpr ⟨ngo, hth, hl⟩).symm
/-- the nodes without a rank -/
def unr (g : List (List Nat)) (R : List Int) : Nat := ((List.range g.length).filter fun k => decide (R.getD k 0 = -1)).length
theorem filter_lt {α : Type} {p q : α → Bool} : ∀ {l : List α}, (∀ x ∈ l, p x = true → q x = true) → (∃ x ∈ l, q x = true ∧ p x = false) → (l.filter p).length < (l.filter q).length
  | [], _, h => by obtain ⟨_, h, _⟩ := h; exact nomatch h
  | a :: r, h, e => by
    have hr : ∀ x ∈ r, p x = true → q x = true := fun x hx => h x (List.mem_cons_of_mem _ hx)
    have le : (r.filter p).length ≤ (r.filter q).length := by
      have : ∀ {l : List α}, (∀ x ∈ l, p x = true → q x = true) → (l.filter p).length ≤ (l.filter q).length := by
        intro l
        induction l with
        | nil => intro _; exact Nat.le_refl _
        | cons b s ih =>
          intro hs
          have ihs := ih fun x hx => hs x (List.mem_cons_of_mem _ hx)
          have hb := hs b List.mem_cons_self
          rw [List.filter_cons, List.filter_cons]
          cases hp : p b with
          | true => rw [hb hp, if_pos rfl, if_pos rfl, List.length_cons, List.length_cons]; omega
          | false =>
            rw [if_neg (by decide)]
            cases q b with
            | true => rw [if_pos rfl, List.length_cons]; omega
            | false => rw [if_neg (by decide)]; exact ihs
      exact this hr
    obtain ⟨x, hx, h1, h2⟩ := e
    rw [List.filter_cons, List.filter_cons]
    rcases List.mem_cons.mp hx with ex | hx
    · subst ex
      rw [h1, h2, if_pos rfl, if_neg (by decide), List.length_cons]
      omega
    · have ih := filter_lt hr ⟨x, hx, h1, h2⟩
      have hb := h a List.mem_cons_self
      cases hp : p a with
      | true => rw [hb hp, if_pos rfl, if_pos rfl, List.length_cons, List.length_cons]; omega
      | false =>
        rw [if_neg (by decide)]
        cases q a with
        | true => rw [if_pos rfl, List.length_cons]; omega
        | false => rw [if_neg (by decide)]; exact ih
theorem unr_lt (G : Gok g) (r : Rnd g th go sm c R fd) (h : nextF g th sm R ≠ []) : unr g (setAll R (nextF g th sm R) (c + 1)) < unr g R := by
  have at_ := setAll_get (nextF g th sm R) R (c + 1) fun k hk => by rw [r.len]; exact (mem_nextF.mp hk).1
  have pos := r.pos
  obtain ⟨k, hk⟩ := List.exists_mem_of_ne_nil _ h
  obtain ⟨h1, h2, _, _⟩ := mem_nextF.mp hk
  refine filter_lt (fun x hx hp => ?_) ⟨k, List.mem_range.mpr h1, decide_eq_true ?_, decide_eq_false ?_⟩
  · have e := of_decide_eq_true hp
    rw [at_ x] at e
    by_cases hx2 : x ∈ nextF g th sm R
    · rw [if_pos hx2] at e; omega
    · rw [if_neg hx2] at e; exact decide_eq_true e
  · rcases r.rng k h1 with q | q <;> omega
  · rw [at_ k, if_pos hk]; omega
end
end K94

/-! K94Ev -/
/-! What readings evaluate to: typed lists, tables, comprehensions, loops, data. -/
namespace K94
open PySem PySem.Spec PyProof.Rows L2 Evl
abbrev nI (n : Nat) : V := .int (n : Int)
section
variable {K : PySem.W.Frag} {σ : L2.St} {H H' : Hp} {ta tb te tx : TE} {t u : TT} {x y z v : V} {D : Ends} {tu tw tz : TS} {g : TG} {α : Type} {f : α → V}

/-! ### typed lists -/
theorem get_map {xs : List α} {i : Nat} (d : α) (hi : i < xs.length) : (xs.map f)[i]? = some (f (xs.getD i d)) := by
  rw [List.getElem?_map, List.getD_eq_getElem?_getD, List.getElem?_eq_getElem hi]
  rfl
theorem at_map {xs : List α} {i : Nat} (d : α) (hi : i < xs.length) : atI (xs.map f) (i : Int) = some (f (xs.getD i d)) := at_of rfl (get_map d hi)
theorem ev_ixM {p : Addr} {xs : List α} {i : Nat} (d : α) (ha : Ev ta σ H (.ref p)) (hb : Ev tb σ H (.int (i : Int))) (h : SqL K H p (xs.map f)) (hi : i < xs.length) : Ev (tOp (rIxL K) ta tb) σ H (f (xs.getD i d)) :=
  ev_op ha hb (rv_ixL h (at_map d hi))
/-- a table: a list of lists -/
def Tab (K : PySem.W.Frag) (H : Hp) (f : α → V) (a : Addr) (rows : List (List α)) : Prop :=
  ∃ ps : List Addr, SqL K H a (ps.map V.ref) ∧ ps.length = rows.length ∧ ∀ i, i < rows.length → SqL K H (ps.getD i 0) ((rows.getD i []).map f)
theorem Tab.mono {a : Addr} {rows : List (List α)} (e : Ex H H') (h : Tab K H f a rows) : Tab K H' f a rows := by
  obtain ⟨ps, h1, h2, h3⟩ := h
  exact ⟨ps, ex_l e h1, h2, fun i hi => ex_l e (h3 i hi)⟩
theorem ev_tab {a : Addr} {rows : List (List α)} {i : Nat} (ha : Ev ta σ H (.ref a)) (hb : Ev tb σ H (.int (i : Int))) (T : Tab K H f a rows) (hi : i < rows.length) :
    ∃ p, Ev (tOp (rIxL K) ta tb) σ H (.ref p) ∧ SqL K H p ((rows.getD i []).map f) := by
  obtain ⟨ps, h1, h2, h3⟩ := T
  exact ⟨ps.getD i 0, ev_ixM 0 ha hb h1 (by omega), h3 i hi⟩
theorem Tab.sq {a : Addr} {rows : List (List α)} (h : Tab K H f a rows) : ∃ ps : List Addr, SqL K H a (ps.map V.ref) ∧ ps.length = rows.length := by
  obtain ⟨ps, h1, h2, _⟩ := h
  exact ⟨ps, h1, h2⟩
theorem ev_lenT {a : Addr} {rows : List (List α)} (ha : Ev ta σ H (.ref a)) (h : Tab K H f a rows) : Ev (tCB (rLenS K) (tCons ta tNil)) σ H (.int (rows.length : Int)) := by
  obtain ⟨ps, h1, h2⟩ := h.sq
  have q := ev_len ha h1
  rw [List.length_map, h2] at q
  exact q
theorem ev_lenM {a : Addr} {xs : List α} (ha : Ev ta σ H (.ref a)) (h : SqL K H a (xs.map f)) : Ev (tCB (rLenS K) (tCons ta tNil)) σ H (.int (xs.length : Int)) := by
  have q := ev_len ha h
  rw [List.length_map] at q
  exact q
theorem ev_lenNM {xs : List α} (ha : EvL ta σ H (xs.map f)) : Ev (tCB (rLenS K) (tCons ta tNil)) σ H (.int (xs.length : Int)) := by
  have q := ev_lenN (K := K) ha
  rw [List.length_map] at q
  exact q

/-! ### any, all, min, max, truth -/
theorem ev_any {p : Addr} {bs : List Bool} (ha : Ev ta σ H (.ref p)) (h : SqL K H p (bs.map V.bl)) : Ev (tCB (rAny K) (tCons ta tNil)) σ H (.bl (bs.any id)) := fun H1 e Q q =>
  ha H1 e _ fun H2 e2 => ⟨p, bs, rfl, ex_l (e.trans e2) h, q H2 e2⟩
theorem ev_all {p : Addr} {bs : List Bool} (ha : Ev ta σ H (.ref p)) (h : SqL K H p (bs.map V.bl)) : Ev (tCB (rAll K) (tCons ta tNil)) σ H (.bl (bs.all id)) := fun H1 e Q q =>
  ha H1 e _ fun H2 e2 => ⟨p, bs, rfl, ex_l (e.trans e2) h, q H2 e2⟩
theorem ev_anyN {bs : List Bool} (ha : EvL ta σ H (bs.map V.bl)) : Ev (tCB (rAny K) (tCons ta tNil)) σ H (.bl (bs.any id)) := fun H1 e Q q =>
  ha H1 e _ fun p H2 _ e2 h2 => ⟨p, bs, rfl, sq_of h2, q H2 e2⟩
theorem ev_allN {bs : List Bool} (ha : EvL ta σ H (bs.map V.bl)) : Ev (tCB (rAll K) (tCons ta tNil)) σ H (.bl (bs.all id)) := fun H1 e Q q =>
  ha H1 e _ fun p H2 _ e2 h2 => ⟨p, bs, rfl, sq_of h2, q H2 e2⟩
theorem ev_min {p : Addr} {ns : List Int} (ha : Ev ta σ H (.ref p)) (h : SqL K H p (ns.map V.int)) (ne : ns ≠ []) : Ev (tCB (rMin K) (tCons ta tNil)) σ H (.int (lmin ns)) := fun H1 e Q q =>
  ha H1 e _ fun H2 e2 => ⟨p, ns, rfl, ex_l (e.trans e2) h, List.length_pos_iff.mpr ne, fun m hm hl => by
    rw [← lmin_eq hm hl]
    exact q H2 e2⟩
theorem ev_max {p : Addr} {ns : List Int} (ha : Ev ta σ H (.ref p)) (h : SqL K H p (ns.map V.int)) (ne : ns ≠ []) : Ev (tCB (rMax K) (tCons ta tNil)) σ H (.int (lmax ns)) := fun H1 e Q q =>
  ha H1 e _ fun H2 e2 => ⟨p, ns, rfl, ex_l (e.trans e2) h, List.length_pos_iff.mpr ne, fun m hm hl => by
    rw [← lmax_eq hm hl]
    exact q H2 e2⟩
theorem et_list {p : Addr} {xs : List V} (ha : Ev ta σ H (.ref p)) (h : SqL K H p xs) : EvT (tTruth K ta) σ H (!xs.isEmpty) := fun H1 e _ q =>
  ha H1 e _ fun H2 e2 => ⟨_, Or.inl ⟨xs, ex_l (e.trans e2) h, rfl⟩, q H2 e2⟩
theorem et_listM {p : Addr} {xs : List α} (ha : Ev ta σ H (.ref p)) (h : SqL K H p (xs.map f)) : EvT (tTruth K ta) σ H (!xs.isEmpty) := by
  have q := et_list ha h
  rw [List.isEmpty_map] at q
  exact q
theorem ev_fld {a C dx : Addr} {fs : List (Str × V)} {fd : Str} (ha : Ev ta σ H (.ref a)) (h : H a = some (.ins C dx fs)) (c : Cls K C) (n : NoAttr K C fd) (l : fs.lookup fd = some v) : Ev (tFld K ta fd) σ H v := fun H1 e _ q =>
  ha H1 e _ fun H2 e2 => ⟨a, C, dx, fs, v, rfl, e2 _ _ (e _ _ h), c, n, l, q H2 e2⟩
/-- x op y by scalars -/
theorem ev_eq (ha : Ev ta σ H x) (hb : Ev tb σ H y) (h : scal x y = true) {b : Bool} (e : decide (x = y) = b) : Ev (tOp rEq ta tb) σ H (.bl b) := by
  have q := ev_op ha hb (rv_eq h)
  rw [e] at q
  exact q
theorem ev_ne (ha : Ev ta σ H x) (hb : Ev tb σ H y) (h : scal x y = true) {b : Bool} (e : (!decide (x = y)) = b) : Ev (tOp rNe ta tb) σ H (.bl b) := by
  have q := ev_op ha hb (rv_ne h)
  rw [e] at q
  exact q
theorem dec_bl {a b : Bool} : (!decide (V.bl a = V.bl b)) = (a != b) := by cases a <;> cases b <;> rfl
theorem dec_bl' {a b : Bool} : decide (V.bl a = V.bl b) = (a == b) := by cases a <;> cases b <;> rfl
theorem dec_int {a b : Int} : decide (V.int a = V.int b) = decide (a = b) := by
  by_cases h : a = b
  · rw [h]; simp
  · rw [decide_eq_false h, decide_eq_false fun e => h (V.int.inj e)]
theorem dec_wd {a b : Wd} : decide (V.str a.s = V.str b.s) = decide (a = b) := by
  by_cases h : a = b
  · rw [h]; simp
  · rw [decide_eq_false h, decide_eq_false fun e => h (Wd.s_inj (V.str.inj e))]

/-! ### walks -/
/-- what wi walks: n turns, behind the target the slots τ i -/
def Wk (wi : TI) (g : TG) (σ : L2.St) (Hb : Hp) (n : Nat) (τ : Nat → L2.St → L2.St) : Prop :=
  ∀ H1, Ex Hb H1 → ∀ R : It → Hp → Prop, (∀ J H2, Ex H1 H2 → (∀ i H3, Ex Hb H3 → i < n → J.go i H3 ∧ ∀ x H4, J.yld i H3 x H4 → Ex H3 H4 ∧ ∀ (σ' : L2.St) (Q : L2.St → Hp → Prop), Q (τ i σ') H4 → g x σ' H4 Q) →
    (∀ i H3, Ex Hb H3 → n ≤ i → J.stop i H3) → R J H2) → wi σ H1 R
theorem wk_list {a : Addr} {xs : List V} {tl : TE} {j : Nat} (h : Ev tl σ H (.ref a)) (hx : SqL K H a xs) : Wk (iList K tl) (gName j) σ H xs.length fun i σ => σ.set j xs[i]? := fun H1 e R k =>
  h H1 e _ fun H2 e2 => ⟨a, rfl, ⟨xs, ex_l (e.trans e2) hx⟩, k _ H2 e2 (fun i H3 e3 hi => ⟨⟨xs, xs[i], ex_l e3 hx, by simp [hi]⟩, fun x H4 y => by
    obtain ⟨rfl, y⟩ := y
    refine ⟨Ex.refl _, fun σ' Q q => ?_⟩
    have e := y xs (ex_l e3 hx)
    dsimp only at q
    rw [e] at q
    exact q⟩) fun i H3 e3 hi => ⟨xs, ex_l e3 hx, hi⟩⟩
theorem wk_listM {a : Addr} {xs : List α} (d : α) {tl : TE} {j : Nat} (h : Ev tl σ H (.ref a)) (hx : SqL K H a (xs.map f)) : Wk (iList K tl) (gName j) σ H xs.length fun i σ => σ.set j (some (f (xs.getD i d))) := fun H1 e R k =>
  h H1 e _ fun H2 e2 => ⟨a, rfl, ⟨xs.map f, ex_l (e.trans e2) hx⟩, k _ H2 e2 (fun i H3 e3 hi => ⟨⟨xs.map f, f (xs.getD i d), ex_l e3 hx, get_map d hi⟩, fun x H4 y => by
    obtain ⟨rfl, y⟩ := y
    refine ⟨Ex.refl _, fun σ' Q q => ?_⟩
    have e := y _ (ex_l e3 hx)
    rw [get_map d hi] at e
    cases e
    exact q⟩) fun i H3 e3 hi => ⟨xs.map f, ex_l e3 hx, by rw [List.length_map]; exact hi⟩⟩
theorem wk_enum {a : Addr} {xs : List α} (d : α) {ta : TE} {j1 j2 : Nat} (h : Ev ta σ H (.ref a)) (hx : SqL K H a (xs.map f)) :
    Wk (iEnum K (tCons ta tNil)) (gTup K 2 (gCons (gName j1) (gCons (gName j2) gNil))) σ H xs.length fun i σ => (σ.set j1 (some (.int (i : Int)))).set j2 (some (f (xs.getD i d))) := fun H1 e R k =>
  h H1 e _ fun H2 e2 => ⟨a, xs.map f, rfl, ex_l (e.trans e2) hx, k _ H2 e2 (fun i H3 e3 hi => ⟨⟨xs.map f, f (xs.getD i d), ex_l e3 hx, get_map d hi⟩, fun x H4 y => by
    obtain ⟨T, z, rfl, nT, rfl, y⟩ := y
    have e := y _ (ex_l e3 hx)
    rw [get_map d hi] at e
    cases e
    exact ⟨Ex.new nT, fun σ' Q q => ⟨T, _, rfl, st_of upd_same, rfl, _, _, rfl, _, _, rfl, rfl, q⟩⟩⟩) fun i H3 e3 hi => ⟨xs.map f, ex_l e3 hx, by rw [List.length_map]; exact hi⟩⟩
theorem wk_zip {β : Type} {f' : β → V} {a b : Addr} {xs : List α} {ys : List β} (d : α) (d' : β) {ta tb : TE} {j1 j2 : Nat} (h : Ev ta σ H (.ref a)) (h' : Ev tb σ H (.ref b)) (hx : SqL K H a (xs.map f)) (hy : SqL K H b (ys.map f')) (hl : xs.length = ys.length) :
    Wk (iZip K (tCons ta (tCons tb tNil))) (gTup K 2 (gCons (gName j1) (gCons (gName j2) gNil))) σ H xs.length fun i σ => (σ.set j1 (some (f (xs.getD i d)))).set j2 (some (f' (ys.getD i d'))) := fun H1 e R k =>
  h H1 e _ fun H2 e2 => h' H2 (e.trans e2) _ fun H2' e2' => ⟨a, b, xs.map f, ys.map f', rfl, ex_l ((e.trans e2).trans e2') hx, ex_l ((e.trans e2).trans e2') hy, k _ H2' (e2.trans e2') (fun i H3 e3 hi =>
    ⟨⟨xs.map f, ys.map f', f (xs.getD i d), f' (ys.getD i d'), ex_l e3 hx, ex_l e3 hy, get_map d hi, get_map d' (by omega)⟩, fun x H4 y => by
    obtain ⟨T, z, z', rfl, nT, rfl, y, y'⟩ := y
    have e := y _ (ex_l e3 hx)
    rw [get_map d hi] at e
    cases e
    have e' := y' _ (ex_l e3 hy)
    rw [get_map d' (by omega)] at e'
    cases e'
    exact ⟨Ex.new nT, fun σ' Q q => ⟨T, _, rfl, st_of upd_same, rfl, _, _, rfl, _, _, rfl, rfl, q⟩⟩⟩) fun i H3 e3 hi => ⟨xs.map f, ys.map f', ex_l e3 hx, ex_l e3 hy, .inl (by rw [List.length_map]; exact hi)⟩⟩
theorem wk_range {ta : TA} {j n : Nat} (h : EvA ta σ H [.int (n : Int)]) (hn : n ≤ 100000) : Wk (iRng1 ta) (gName j) σ H n fun i σ => σ.set j (some (.int (i : Int))) := fun H1 e R k =>
  h H1 e _ fun H2 e2 => ⟨n, rfl, by omega, by omega, k _ H2 e2 (fun i H3 e3 hi => ⟨(by show i < (n : Int).toNat; omega), fun x H4 y => by
    obtain ⟨rfl, rfl⟩ := y
    refine ⟨Ex.refl _, fun σ' Q q => ?_⟩
    have e0 : (0 : Int) + (i : Int) = (i : Int) := Int.zero_add _
    show Q (σ'.set j (some (.int ((0 : Int) + (i : Int))))) _
    rw [e0]
    exact q⟩) fun i H3 e3 hi => (by show (n : Int).toNat ≤ i; omega)⟩
theorem wk_range2 {ta : TA} {j lo n : Nat} (h : EvA ta σ H [.int (lo : Int), .int ((lo + n : Nat) : Int)]) (hn : lo + n ≤ 100000) : Wk (iRng2 ta) (gName j) σ H n fun i σ => σ.set j (some (.int ((lo + i : Nat) : Int))) := fun H1 e R k =>
  h H1 e _ fun H2 e2 => ⟨lo, ((lo + n : Nat) : Int), rfl, ⟨by omega, by omega, by omega, by omega⟩, k _ H2 e2 (fun i H3 e3 hi => ⟨(by show i < (((lo + n : Nat) : Int) - (lo : Int)).toNat; omega), fun x H4 y => by
    obtain ⟨rfl, rfl⟩ := y
    refine ⟨Ex.refl _, fun σ' Q q => ?_⟩
    have e0 : (lo : Int) + (i : Int) = ((lo + i : Nat) : Int) := by omega
    show Q (σ'.set j (some (.int ((lo : Int) + (i : Int))))) _
    rw [e0]
    exact q⟩) fun i H3 e3 hi => (by show (((lo + n : Nat) : Int) - (lo : Int)).toNat ≤ i; omega)⟩

/-! ### comprehensions -/
theorem el_comp {wi : TI} {vs : List Nat} {n : Nat} {τ : Nat → L2.St → L2.St} (p : Nat → Bool) (v : Nat → V) (hwi : Wk wi g σ H n τ) (hn : n ≤ 40000) (hw : ∀ i, wipe (τ i (wipe σ vs)) vs = wipe σ vs)
    (ht : ∀ i, i < n → EvT t (τ i (wipe σ vs)) H (p i)) (he : ∀ i, i < n → p i = true → Ev te (τ i (wipe σ vs)) H (v i)) : EvL (tLc wi g t te vs) σ H (given n p v) := fun H0 e Q q =>
  hwi H0 e _ fun J H1 e1 go stop Dl hD => by
    refine ⟨fun i m H' => m = n - i ∧ i ≤ n ∧ Cw H1 p v Dl i H', ⟨n, by simp, Nat.zero_le _, hD, Ex.new hD, upd_same⟩, ?_⟩
    rintro i m H' ⟨rfl, hi, pw⟩
    have eb : Ex H H' := (e.trans e1).trans pw.2.1
    by_cases hlt : i < n
    · obtain ⟨g1, g2⟩ := go i H' eb hlt
      refine .inr ⟨g1, Cw H1 p v Dl (i + 1), fun H2 p2 => ⟨n - (i + 1), by omega, rfl, hlt, p2⟩, fun x H4 y => ?_⟩
      obtain ⟨e4, k4⟩ := g2 x H4 y
      refine k4 _ _ ⟨hw i, ?_⟩
      have p4 : Cw H1 p v Dl i H4 := ⟨pw.1, pw.2.1.trans e4, e4 _ _ pw.2.2⟩
      exact cw_turn p4 (by omega) ((ht i hlt).mono (e.trans e1)) fun hf => (he i hlt hf).mono (e.trans e1)
    · have ei : i = n := by omega
      subst ei
      exact .inl ⟨stop i H' eb (Nat.le_refl _), q Dl H' (fresh_back e1 pw.1) (e1.trans pw.2.1) pw.2.2⟩
theorem given_map {β : Type} {h : β → V} {n : Nat} {c : Nat → β} : given n (fun _ => true) (fun i => h (c i)) = ((List.range n).map c).map h := by
  unfold given
  rw [List.filter_eq_self.mpr (fun _ _ => rfl), List.map_map]
  rfl
theorem range_getD {xs : List α} (d : α) {β : Type} (h : α → β) : (List.range xs.length).map (fun i => h (xs.getD i d)) = xs.map h := by
  refine List.ext_getElem (by simp) fun i h1 h2 => ?_
  simp at h1 h2
  simp [List.getD_eq_getElem?_getD, List.getElem?_eq_getElem h1]
theorem given_list {xs : List α} (d : α) {h : α → V} : given xs.length (fun _ => true) (fun i => h (xs.getD i d)) = xs.map h := by
  unfold given
  rw [List.filter_eq_self.mpr (fun _ _ => rfl)]
  exact range_getD d h
theorem filter_getD {xs : List α} (d : α) (p : α → Bool) {β : Type} (h : α → β) : ((List.range xs.length).filter fun i => p (xs.getD i d)).map (fun i => h (xs.getD i d)) = (xs.filter p).map h := by
  have e := range_getD (xs := xs) d (fun x => x)
  have e2 : xs.filter p = ((List.range xs.length).filter fun i => p (xs.getD i d)).map (fun i => xs.getD i d) := by
    conv => lhs; rw [← (show (List.range xs.length).map (fun i => xs.getD i d) = xs from by rw [e]; simp), List.filter_map]
    rfl
  rw [e2, List.map_map]
  rfl
theorem given_filter {xs : List α} (d : α) (p : α → Bool) {h : α → V} : given xs.length (fun i => p (xs.getD i d)) (fun i => h (xs.getD i d)) = (xs.filter p).map h := filter_getD d p h
/-- over a list, no test -/
theorem el_map {a : Addr} {xs : List α} (d : α) {tl : TE} {j : Nat} {vs : List Nat} (c : α → V) (h : Ev tl σ H (.ref a)) (hx : SqL K H a (xs.map f)) (hz : xs.length ≤ 40000) (hw : ∀ x, wipe ((wipe σ vs).set j (some x)) vs = wipe σ vs)
    (he : ∀ i, i < xs.length → Ev te ((wipe σ vs).set j (some (f (xs.getD i d)))) H (c (xs.getD i d))) : EvL (tLc (iList K tl) (gName j) tYes te vs) σ H (xs.map c) := by
  have q := el_comp (vs := vs) (fun _ => true) (fun i => c (xs.getD i d)) (wk_listM d (j := j) h hx) hz (fun i => hw _) (t := tYes) (te := te) (fun i hi H1 _ _ q => q H1 (Ex.refl _)) fun i hi _ => he i hi
  rw [given_list] at q
  exact q
/-- over a list, a test, its items -/
theorem el_filter {a : Addr} {xs : List α} (d : α) {tl : TE} {j : Nat} {vs : List Nat} (p : α → Bool) (c : α → V) (h : Ev tl σ H (.ref a)) (hx : SqL K H a (xs.map f)) (hz : xs.length ≤ 40000) (hw : ∀ x, wipe ((wipe σ vs).set j (some x)) vs = wipe σ vs)
    (ht : ∀ i, i < xs.length → EvT t ((wipe σ vs).set j (some (f (xs.getD i d)))) H (p (xs.getD i d)))
    (he : ∀ i, i < xs.length → p (xs.getD i d) = true → Ev te ((wipe σ vs).set j (some (f (xs.getD i d)))) H (c (xs.getD i d))) : EvL (tLc (iList K tl) (gName j) t te vs) σ H ((xs.filter p).map c) := by
  have q := el_comp (vs := vs) (fun i => p (xs.getD i d)) (fun i => c (xs.getD i d)) (wk_listM d (j := j) h hx) hz (fun i => hw _) (t := t) (te := te) ht he
  rw [given_filter] at q
  exact q
theorem el_is {xs ys : List V} (h : EvL te σ H xs) (e : xs = ys) : EvL te σ H ys := by
  rw [← e]
  exact h

/-! ### loops -/
theorem s_for {wi : TI} {n : Nat} {τ : Nat → L2.St → L2.St} {Hb : Hp} (hb : Ex Hb H) (hwi : Wk wi g σ Hb n τ) (Pv : Nat → L2.St → Hp → Prop) (hP : ∀ i σ' H', Pv i σ' H' → Ex Hb H') (h0 : ∀ H1, Ex H H1 → Pv 0 σ H1)
    (hs : ∀ i σ' H', i < n → Pv i σ' H' → ∀ H1, Ex H' H1 → tu { D with nx := Pv (i + 1), ct := Pv (i + 1), bk := D.nx } (τ i σ') H1) (hd : ∀ σ' H', Pv n σ' H' → D.nx σ' H') : tFor wi g tu D σ H :=
  hwi H hb _ fun J H1 e1 go stop => by
    refine ⟨fun i m σ' H' => m = n - i ∧ i ≤ n ∧ Pv i σ' H', ⟨n, by simp, Nat.zero_le _, h0 H1 e1⟩, ?_⟩
    rintro i m σ' H' ⟨rfl, hi, p⟩
    by_cases hlt : i < n
    · obtain ⟨g1, g2⟩ := go i H' (hP _ _ _ p) hlt
      refine .inr ⟨g1, Pv (i + 1), fun σ2 H2 p2 => ⟨n - (i + 1), by omega, rfl, hlt, p2⟩, fun x H4 y => ?_⟩
      obtain ⟨e4, k4⟩ := g2 x H4 y
      exact k4 _ _ (hs i σ' H' hlt p H4 e4)
    · have ei : i = n := by omega
      subst ei
      exact .inl ⟨stop i H' (hP _ _ _ p) (Nat.le_refl _), hd σ' H' p⟩
theorem q_for {wi : TI} {n : Nat} {τ : Nat → L2.St → L2.St} {Hb : Hp} (hb : Ex Hb H) (hwi : Wk wi g σ Hb n τ) (Pv : Nat → L2.St → Hp → Prop) (hP : ∀ i σ' H', Pv i σ' H' → Ex Hb H') (h0 : ∀ H1, Ex H H1 → Pv 0 σ H1)
    (hs : ∀ i σ' H', i < n → Pv i σ' H' → ∀ H1, Ex H' H1 → tu { D with nx := Pv (i + 1), ct := Pv (i + 1), bk := tz D } (τ i σ') H1) (hd : ∀ σ' H', Pv n σ' H' → tz D σ' H') : tSeq (tFor wi g tu) tz D σ H :=
  s_for (D := { D with nx := tz D }) hb hwi Pv hP h0 hs hd

/-! ### data -/
mutual
theorem dp_ex (e : Ex H H') : ∀ (d : PyData) (v : V), Dp K H v d → Dp K H' v d
  | _, _, .non => .non
  | _, _, .bl b => .bl b
  | _, _, .int i => .int i
  | _, _, .str x => .str x
  | _, _, .lst h a => .lst (ex_l e h) (dpAll_ex e _ _ a)
  | _, _, .tup h a => .tup (ex_t e h) (dpAll_ex e _ _ a)
theorem dpAll_ex (e : Ex H H') : ∀ (ds : List PyData) (vs : List V), DpAll K H vs ds → DpAll K H' vs ds
  | _, _, .nil => .nil
  | _, _, .cons h t => .cons (dp_ex e _ _ h) (dpAll_ex e _ _ t)
end
/-- evaluates to something that reads as d -/
def EvD (K : PySem.W.Frag) (te : TE) (σ : L2.St) (H : Hp) (d : PyData) : Prop := ∀ H1, Ex H H1 → ∀ Q : VK, (∀ v H2, Ex H1 H2 → Dp K H2 v d → Q v H2) → te σ H1 Q
def EvDs (K : PySem.W.Frag) (ta : TA) (σ : L2.St) (H : Hp) (ds : List PyData) : Prop := ∀ H1, Ex H H1 → ∀ Q : List V → Hp → Prop, (∀ vs H2, Ex H1 H2 → DpAll K H2 vs ds → Q vs H2) → ta σ H1 Q
theorem DpAll.length : ∀ {vs : List V} {ds : List PyData}, DpAll K H vs ds → vs.length = ds.length
  | _, _, .nil => rfl
  | _, _, .cons _ t => congrArg Nat.succ (DpAll.length t)
theorem ed_ev {d : PyData} (h : Ev te σ H v) (hd : Dp K H v d) : EvD K te σ H d := fun H1 e _ q => h H1 e _ fun H2 e2 => q v H2 e2 (dp_ex (e.trans e2) _ _ hd)
theorem eds_nil : EvDs K tNil σ H [] := fun H1 _ _ q => q [] H1 (Ex.refl _) .nil
theorem eds_cons {tr : TA} {d : PyData} {ds : List PyData} (h : EvD K te σ H d) (hr : EvDs K tr σ H ds) : EvDs K (tCons te tr) σ H (d :: ds) := fun H1 e _ q =>
  h H1 e _ fun v H2 e2 hv => hr H2 (e.trans e2) _ fun vs H3 e3 hvs => q _ H3 (e2.trans e3) (.cons (dp_ex e3 _ _ hv) hvs)
theorem ed_tup {ta : TA} {ds : List PyData} (h : EvDs K ta σ H ds) (hl : ds.length ≤ 1000) : EvD K (tTup ta) σ H (.tuple ds) := fun H1 e _ q =>
  h H1 e _ fun vs H2 e2 hvs => ⟨sz_of (by rw [DpAll.length hvs]; omega), fun p hp => q _ _ (e2.trans (Ex.new hp)) (.tup (st_of upd_same) (dpAll_ex (Ex.new hp) _ _ hvs))⟩
theorem ev_eqD {d d' : PyData} (ha : EvD K ta σ H d) (hb : EvD K tb σ H d') (s1 : SeqAt.shaped d = true) (s2 : SeqAt.shaped d' = true) : Ev (tOp (rEqD K) ta tb) σ H (.bl (PyData.eqv d d')) := fun H1 e _ q =>
  ha H1 e _ fun v H2 e2 hv => hb H2 (e.trans e2) _ fun v' H3 e3 hv' => ⟨d, d', dp_ex e3 _ _ hv, hv', s1, s2, q H3 (e2.trans e3)⟩
theorem ev_neD {d d' : PyData} (ha : EvD K ta σ H d) (hb : EvD K tb σ H d') (s1 : SeqAt.shaped d = true) (s2 : SeqAt.shaped d' = true) : Ev (tOp (rNeD K) ta tb) σ H (.bl (!PyData.eqv d d')) := fun H1 e _ q =>
  ha H1 e _ fun v H2 e2 hv => hb H2 (e.trans e2) _ fun v' H3 e3 hv' => ⟨d, d', dp_ex e3 _ _ hv, hv', s1, s2, q H3 (e2.trans e3)⟩
theorem dp_map {h : α → PyData} (hf : ∀ x, Dp K H (f x) (h x)) : ∀ xs : List α, DpAll K H (xs.map f) (xs.map h)
  | [] => .nil
  | x :: r => .cons (hf x) (dp_map hf r)
theorem dp_list {a : Addr} {xs : List α} {h : α → PyData} (hf : ∀ x, Dp K H (f x) (h x)) (hx : SqL K H a (xs.map f)) : Dp K H (.ref a) (.list (xs.map h)) := .lst hx (dp_map hf xs)
theorem dpAll_of {ds : List PyData} : ∀ {vs : List V}, vs.length = ds.length → (∀ (i : Nat) (v : V) (d : PyData), vs[i]? = some v → ds[i]? = some d → Dp K H v d) → DpAll K H vs ds := by
  induction ds with
  | nil =>
    intro vs hl _
    cases vs with
    | nil => exact .nil
    | cons _ _ => cases hl
  | cons d r ih =>
    intro vs hl h
    cases vs with
    | nil => cases hl
    | cons v s => exact .cons (h 0 v d rfl rfl) (ih (Nat.succ.inj hl) fun i v' d' h1 h2 => h (i + 1) v' d' h1 h2)
theorem Tab.dp {a : Addr} {rows : List (List α)} {h : α → PyData} (hf : ∀ x, Dp K H (f x) (h x)) (T : Tab K H f a rows) : Dp K H (.ref a) (.list (rows.map fun r => .list (r.map h))) := by
  obtain ⟨ps, h1, h2, h3⟩ := T
  refine .lst h1 (dpAll_of (by rw [List.length_map, List.length_map, h2]) fun i v d e1 e2 => ?_)
  rw [List.getElem?_map] at e1 e2
  cases q1 : ps[i]? with
  | none => rw [q1] at e1; cases e1
  | some p =>
    cases q2 : rows[i]? with
    | none => rw [q2] at e2; cases e2
    | some r =>
      rw [q1] at e1; rw [q2] at e2
      cases e1; cases e2
      have hi := (List.getElem?_eq_some_iff.mp q2).1
      have k := h3 i hi
      rw [List.getD_eq_getElem?_getD, List.getD_eq_getElem?_getD, q1, q2] at k
      exact dp_list hf k
end
section
variable {σ : L2.St} {H : Hp} {ta tb : TE} {t : TT} {v : V} {D : Ends} {tz : TS}
/-- if c: x = e else: x = e' , told by the value that x has behind it -/
theorem q_ifA {b : Bool} {i : Nat} (h : EvT t σ H b) (h1 : b = true → Ev ta σ H v) (h2 : b = false → Ev tb σ H v) (k : ∀ H1, Ex H H1 → tz D (σ.set i (some v)) H1) : tSeq (tIfS t (tAsg ta (gName i)) (tAsg tb (gName i))) tz D σ H :=
  q_if h (fun hb H1 e1 => s_asg (D := { D with nx := tz D }) ((h1 hb).mono e1) fun H2 e2 => k H2 (e1.trans e2)) fun hb H1 e1 => s_asg (D := { D with nx := tz D }) ((h2 hb).mono e1) fun H2 e2 => k H2 (e1.trans e2)
end
theorem wd_next (w : Wd) : (decide (w = .ex) || decide (w = .ax)) = w.next := by cases w <;> rfl
/-! ### the objects -/
def Row.vs (r : Row) : List V := [.str r.w.s, .int r.l, .int r.r]
def temporals (rs : List Row) : List Nat := (List.range rs.length).filter fun i => !((rD rs i).w.leaf || (rD rs i).w.plain)
/-- a list of row triples -/
def RowL (K : PySem.W.Frag) (H : Hp) (a : Addr) (rs : List Row) : Prop := ∃ ps : List Addr, SqL K H a (ps.map V.ref) ∧ ps.length = rs.length ∧ ∀ i, i < rs.length → SqT K H (ps.getD i 0) (rD rs i).vs
def RowsAt (K : PySem.W.Frag) (H : Hp) (x : Addr) (rs : List Row) : Prop := ∃ dx fa ra ta, H x = some (.ins (cR K) dx [("facts", .ref fa), ("rows", .ref ra), ("temporal", .ref ta)]) ∧ RowL K H ra rs ∧ SqL K H ta ((temporals rs).map nI)
/-- a table of own lists -/
def TabL {α : Type} (H : Hp) (f : α → V) (a : Addr) (rows : List (List α)) : Prop := ∃ ps : List Addr, H a = some (.lst (ps.map V.ref)) ∧ ps.length = rows.length ∧ ∀ i, i < rows.length → H (ps.getD i 0) = some (.lst ((rows.getD i []).map f))
theorem TabL.mono {α : Type} {H H' : Hp} {f : α → V} {a : Addr} {rows : List (List α)} (e : Ex H H') (h : TabL H f a rows) : TabL H' f a rows := by
  obtain ⟨ps, h1, h2, h3⟩ := h
  exact ⟨ps, e _ _ h1, h2, fun i hi => e _ _ (h3 i hi)⟩
theorem TabL.tab {α : Type} {K : PySem.W.Frag} {H : Hp} {f : α → V} {a : Addr} {rows : List (List α)} (h : TabL H f a rows) : Tab K H f a rows := by
  obtain ⟨ps, h1, h2, h3⟩ := h
  exact ⟨ps, sq_of h1, h2, fun i hi => sq_of (h3 i hi)⟩
def AnsAt (K : PySem.W.Frag) (H : Hp) (x : Addr) (T : List (List Bool)) (R : List (List Int)) : Prop := ∃ dx ta ra, H x = some (.ins (cA K) dx [("truths", .ref ta), ("ranks", .ref ra)]) ∧ TabL H V.bl ta T ∧ TabL H V.int ra R
section
variable {K : PySem.W.Frag} {H H' : Hp}
theorem RowL.mono {a : Addr} {rs : List Row} (e : Ex H H') (h : RowL K H a rs) : RowL K H' a rs := by
  obtain ⟨ps, h1, h2, h3⟩ := h
  exact ⟨ps, ex_l e h1, h2, fun i hi => ex_t e (h3 i hi)⟩
theorem RowsAt.mono {a : Addr} {rs : List Row} (e : Ex H H') (h : RowsAt K H a rs) : RowsAt K H' a rs := by
  obtain ⟨dx, fa, ra, ta, h1, h2, h3⟩ := h
  exact ⟨dx, fa, ra, ta, e _ _ h1, h2.mono e, ex_l e h3⟩
theorem AnsAt.mono {a : Addr} {T : List (List Bool)} {R : List (List Int)} (e : Ex H H') (h : AnsAt K H a T R) : AnsAt K H' a T R := by
  obtain ⟨dx, ta, ra, h1, h2, h3⟩ := h
  exact ⟨dx, ta, ra, e _ _ h1, h2.mono e, h3.mono e⟩
theorem ev_row {σ : L2.St} {ta tb : TE} {a : Addr} {rs : List Row} {i : Nat} (ha : Ev ta σ H (.ref a)) (hb : Ev tb σ H (.int (i : Int))) (T : RowL K H a rs) (hi : i < rs.length) :
    ∃ p, Ev (tOp (rIxL K) ta tb) σ H (.ref p) ∧ SqT K H p (rD rs i).vs := by
  obtain ⟨ps, h1, h2, h3⟩ := T
  exact ⟨ps.getD i 0, ev_ixM 0 ha hb h1 (by omega), h3 i hi⟩
theorem ev_lenR {σ : L2.St} {ta : TE} {a : Addr} {rs : List Row} (ha : Ev ta σ H (.ref a)) (T : RowL K H a rs) : Ev (tCB (rLenS K) (tCons ta tNil)) σ H (.int (rs.length : Int)) := by
  obtain ⟨ps, h1, h2, _⟩ := T
  have q := ev_len ha h1
  rw [List.length_map, h2] at q
  exact q
theorem inV_nat {i : Nat} {l : List Nat} : inV (.int (i : Int)) (l.map nI) = decide (i ∈ l) := by
  unfold inV
  rw [List.any_map]
  by_cases h : i ∈ l
  · rw [decide_eq_true h]
    exact List.any_eq_true.mpr ⟨i, h, by simp [eqV]⟩
  · rw [decide_eq_false h]
    refine List.any_eq_false.mpr fun x hx => ?_
    have ne : (x : Int) ≠ (i : Int) := fun e => h (by rw [← Int.ofNat.inj e]; exact hx)
    simp [eqV, ne]
theorem mem_temporals {rs : List Row} {i : Nat} (hi : i < rs.length) : decide (i ∈ temporals rs) = !((rD rs i).w.leaf || (rD rs i).w.plain) := by
  unfold temporals
  cases h : (!((rD rs i).w.leaf || (rD rs i).w.plain)) with
  | true => exact decide_eq_true (List.mem_filter.mpr ⟨List.mem_range.mpr hi, h⟩)
  | false => exact decide_eq_false fun z => by rw [(List.mem_filter.mp z).2] at h; cases h
end
theorem path_next {w : Wd} (a : w.path = true) (b : w.next = true) : False := by
  revert a b
  cases w <;> intro a b <;> first | exact absurd a (by decide) | exact absurd b (by decide)
theorem path_plain {w : Wd} (a : w.path = true) (b : w.plain = true) : False := by
  revert a b
  cases w <;> intro a b <;> first | exact absurd a (by decide) | exact absurd b (by decide)
theorem plain_of {w : Wd} (a : w.path = false) (b : w.leaf = false) (c : ¬ w.next = true) : w.plain = true := by
  revert a b c
  cases w <;> intro a b c <;> first | rfl | exact absurd a (by decide) | exact absurd b (by decide) | exact absurd rfl c
/-! ### a list that changes, the rest of the heap -/
def hid (H : Hp) (l : Addr) : Hp := fun b => if b = l then none else H b
theorem hid_none {H : Hp} {l : Addr} : hid H l l = none := by unfold hid; rw [if_pos rfl]
theorem hid_ne {H : Hp} {l b : Addr} (h : b ≠ l) : hid H l b = H b := by unfold hid; rw [if_neg h]
theorem hid_ex {H : Hp} {l : Addr} : Ex (hid H l) H := fun b o e => by
  unfold hid at e
  split at e
  · cases e
  · exact e
theorem hid_of {H0 H : Hp} {l : Addr} (e : Ex H0 H) (h : H0 l = none) : Ex H0 (hid H l) := fun b o q => by
  rw [hid_ne (ne_of_none q h)]
  exact e b o q
theorem map_set {α : Type} {f : α → V} {l : List α} {i : Nat} {x : α} : (l.map f).set i (f x) = (l.set i x).map f := by rw [List.map_set]
theorem wipe_rfl {σ : L2.St} {vs : List Nat} {x : L2.St} (h : x = wipe σ vs) : x = wipe σ vs := h
/-! ### DUAL -/
section
variable {w : World} {K : PySem.W.Frag} {mg : Str → Option Value}
theorem dual_in (T : Txt w K mg) {v : Wd} (h : v.path = true) : ∃ r, PySem.W.nsIn K (He.ga K "DUAL") v.s = some r ∧ r.isSome = v.great := by
  have h5 := (b2 (b2 (b2 (b2 (b2 T.more).2).2).2).2)
  have h6 := (b2 h5.2).1
  obtain ⟨u1, a1, _⟩ := He.valsB_ok h5.1 (q := ("ag", .str "ef")) (by simp)
  obtain ⟨u2, a2, _⟩ := He.valsB_ok h5.1 (q := ("eg", .str "af")) (by simp)
  have no : ∀ x : String, x ∈ ["ef", "af", "eu", "au"] → PySem.W.nsIn K (He.ga K "DUAL") (Str.ofString x) = some none := fun x hx => He.eqO_ok (List.all_eq_true.mp h6 x hx)
  revert h
  cases v <;> intro h <;> first
    | exact absurd h (by decide)
    | exact ⟨_, a1, rfl⟩
    | exact ⟨_, a2, rfl⟩
    | exact ⟨_, no "ef" (by simp), rfl⟩
    | exact ⟨_, no "af" (by simp), rfl⟩
    | exact ⟨_, no "eu" (by simp), rfl⟩
    | exact ⟨_, no "au" (by simp), rfl⟩
theorem ev_dual (T : Txt w K mg) {v : Wd} (h : v.path = true) {σ : L2.St} {H : Hp} {ta : TE} (ha : Ev ta σ H (.str v.s)) : Ev (tOp (rKd K (He.ga K "DUAL")) ta (tC (.ref (He.ga K "DUAL")))) σ H (.bl v.great) := fun H1 e _ q => by
  obtain ⟨r, a, b⟩ := dual_in T h
  refine ha H1 e _ fun H2 e2 => ⟨v.s, r, rfl, rfl, a, ?_⟩
  rw [b]
  exact q H2 e2
theorem ev_dualAt (T : Txt w K mg) {v : Wd} (h : v.great = true) {σ : L2.St} {H : Hp} {ta : TE} (ha : Ev ta σ H (.str v.s)) : Ev (tOp (rIxD K w) (tC (.ref (He.ga K "DUAL"))) ta) σ H (.str (if v = .ag then Wd.ef.s else Wd.af.s)) := fun H1 e _ q => by
  have h5 := (b2 (b2 (b2 (b2 (b2 T.more).2).2).2).2)
  obtain ⟨u1, a1, r1⟩ := He.valsB_ok h5.1 (q := ("ag", .str "ef")) (by simp)
  obtain ⟨u2, a2, r2⟩ := He.valsB_ok h5.1 (q := ("eg", .str "af")) (by simp)
  obtain ⟨es, n, D⟩ := T.tab
  refine ha H1 e _ fun H2 e2 => ⟨_, v.s, _, rfl, rfl, ?_, q H2 e2⟩
  have hv : v = .ag ∨ v = .eg := by
    revert h
    cases v <;> intro h <;> first | exact absurd h (by decide) | exact .inl rfl | exact .inr rfl
  rcases hv with hv | hv
  · subst hv
    exact ⟨es, n, u1, D.at_, D.lit, a1, r1⟩
  · subst hv
    exact ⟨es, n, u2, D.at_, D.lit, a2, r2⟩
end
theorem range_at {α : Type} {c : Nat → α} {n k : Nat} {d : α} (h : k < n) : ((List.range n).map c).getD k d = c k := by
  rw [List.getD_eq_getElem?_getD, List.getElem?_map, List.getElem?_range h]
  rfl
theorem rep_at {α : Type} {x d : α} {n k : Nat} (h : k < n) : (List.replicate n x).getD k d = x := by
  rw [List.getD_eq_getElem?_getD, List.getElem?_replicate_of_lt h]
  rfl
theorem map_at {α β : Type} {c : α → β} {l : List α} {k : Nat} {d : α} {d' : β} (h : k < l.length) : (l.map c).getD k d' = c (l.getD k d) := by
  rw [List.getD_eq_getElem?_getD, List.getElem?_map, List.getD_eq_getElem?_getD, List.getElem?_eq_getElem h]
  rfl
/-- [c for _ in a list of refs] -/
theorem el_rep {K : PySem.W.Frag} {σ : L2.St} {H : Hp} {te tl : TE} {α : Type} {f : α → V} {xs : List α} (d : α) {a : Addr} {j : Nat} {vs : List Nat} {β : Type} {h : β → V} (x : β) (he : Ev tl σ H (.ref a)) (hx : SqL K H a (xs.map f)) (hz : xs.length ≤ 40000) (hw : ∀ x, wipe ((wipe σ vs).set j (some x)) vs = wipe σ vs)
    (ht : ∀ y, Ev te ((wipe σ vs).set j (some y)) H (h x)) : EvL (tLc (iList K tl) (gName j) tYes te vs) σ H ((List.replicate xs.length x).map h) :=
  el_is (el_map d (fun _ => h x) he hx hz hw fun i hi => ht _) (by rw [List.map_replicate]; exact List.map_const' ..)
/-! ### arguments, one by one -/
section
variable {σ : L2.St} {H0 H : Hp} {te : TE} {ta tr : TA} {v : V} {xs : List V} {D : Ends} {sp : Sp} {dvs : List V} {E : XK} {Q : List V → Hp → Prop} {Q' : VK}
theorem s_retCall (h : ta σ H fun vs H1 => sp (vs ++ dvs) H1 D.rt E) : tRet (tCall sp dvs E ta) D σ H := h
theorem a_nil (h : Q [] H) : tNil σ H Q := h
theorem a_cons (h : Ev te σ H0 v) (e : Ex H0 H) (k : ∀ H2, Ex H H2 → tr σ H2 fun vs H3 => Q (v :: vs) H3) : tCons te tr σ H Q := h H e _ k
theorem a_consL (h : EvL te σ H0 xs) (e : Ex H0 H) (k : ∀ p H2, H p = none → Ex H H2 → H2 p = some (.lst xs) → tr σ H2 fun vs H3 => Q (.ref p :: vs) H3) : tCons te tr σ H Q := h H e _ k
theorem s_retTup (h : ta σ H fun vs H1 => vs.length ≤ sizeLine ∧ ∀ p, H1 p = none → D.rt (.ref p) (upd H1 p (.tup vs))) : tRet (tTup ta) D σ H := h
theorem q_asgEx {tz : TS} {i : Nat} (h : te σ H fun v H1 => tz D (σ.set i (some v)) H1) : tSeq (tAsg te (gName i)) tz D σ H := h
theorem s_asgEx {i : Nat} (h : te σ H fun v H1 => D.nx (σ.set i (some v)) H1) : tAsg te (gName i) D σ H := h
theorem s_retEx (h : te σ H D.rt) : tRet te D σ H := h
theorem ex_call (h : ta σ H fun vs H1 => sp (vs ++ dvs) H1 Q' E) : tCall sp dvs E ta σ H Q' := h
end
/-! ### a new list of new lists -/
def EvTab (te : TE) (σ : L2.St) (H : Hp) (cs : List (List V)) : Prop := ∀ H1, Ex H H1 → ∀ Q : VK, (∀ (p : Addr) (ps : List Addr) (H2 : Hp), H1 p = none → Ex H1 H2 → H2 p = some (.lst (ps.map V.ref)) → ps.length = cs.length →
  (∀ i, i < cs.length → H1 (ps.getD i 0) = none ∧ ps.getD i 0 ≠ p ∧ H2 (ps.getD i 0) = some (.lst (cs.getD i []))) → Q (.ref p) H2) → te σ H1 Q
section
variable {K : PySem.W.Frag} {σ : L2.St} {H : Hp} {te : TE} {g : TG}
theorem snoc_at {α : Type} {l : List α} {x d : α} {i : Nat} (h : i < l.length + 1) : (l ++ [x]).getD i d = if i < l.length then l.getD i d else x := by
  rw [List.getD_eq_getElem?_getD, List.getD_eq_getElem?_getD]
  by_cases hi : i < l.length
  · rw [if_pos hi, List.getElem?_append_left hi]
  · have e : i = l.length := by omega
    subst e
    rw [if_neg hi, List.getElem?_append_right (Nat.le_refl _)]
    simp
theorem el_tab {wi : TI} {vs : List Nat} {n : Nat} {τ : Nat → L2.St → L2.St} (c : Nat → List V) (hwi : Wk wi g σ H n τ) (hn : n ≤ 40000) (hw : ∀ i, wipe (τ i (wipe σ vs)) vs = wipe σ vs)
    (he : ∀ i, i < n → EvL te (τ i (wipe σ vs)) H (c i)) : EvTab (tLc wi g tYes te vs) σ H ((List.range n).map c) := fun H0 e Q q =>
  hwi H0 e _ fun J H1 e1 go stop Dl hD => by
    refine ⟨fun i m H' => m = n - i ∧ i ≤ n ∧ Ex H1 H' ∧ ∃ ps : List Addr, H' Dl = some (.lst (ps.map V.ref)) ∧ ps.length = i ∧ ∀ j, j < i → H1 (ps.getD j 0) = none ∧ ps.getD j 0 ≠ Dl ∧ H' (ps.getD j 0) = some (.lst (c j)),
      ⟨n, by simp, Nat.zero_le _, Ex.new hD, [], upd_same, rfl, fun j hj => by omega⟩, ?_⟩
    rintro i m H' ⟨rfl, hi, ex, ps, hp, hl, each⟩
    have eb : Ex H H' := (e.trans e1).trans ex
    by_cases hlt : i < n
    · obtain ⟨g1, g2⟩ := go i H' eb hlt
      refine .inr ⟨g1, fun H2 => Ex H1 H2 ∧ ∃ ps : List Addr, H2 Dl = some (.lst (ps.map V.ref)) ∧ ps.length = i + 1 ∧ ∀ j, j < i + 1 → H1 (ps.getD j 0) = none ∧ ps.getD j 0 ≠ Dl ∧ H2 (ps.getD j 0) = some (.lst (c j)), fun H2 p2 => ⟨n - (i + 1), by omega, rfl, hlt, p2⟩, fun x H4 y => ?_⟩
      obtain ⟨e4, k4⟩ := g2 x H4 y
      refine k4 _ _ ⟨hw i, ?_⟩
      show te (τ i (wipe σ vs)) H4 _
      refine he i hlt H4 (eb.trans e4) _ fun p H5 np e5 h5 => ?_
      have hD5 := e5 _ _ (e4 _ _ hp)
      have pD : p ≠ Dl := fun z => by rw [z, e4 _ _ hp] at np; cases np
      refine ⟨ps.map V.ref, hD5, sz_lt (by rw [List.length_map]; omega), ((ex.trans e4).trans e5).mut hD, ps ++ [p], ?_, by rw [List.length_append, hl]; rfl, fun j hj => ?_⟩
      · rw [upd_same, List.map_append]
        rfl
      · rw [snoc_at (by omega)]
        by_cases hj2 : j < ps.length
        · rw [if_pos hj2]
          obtain ⟨q1, q2, q3⟩ := each j (by omega)
          exact ⟨q1, q2, by rw [upd_ne q2]; exact e5 _ _ (e4 _ _ q3)⟩
        · have ej : j = i := by omega
          subst ej
          rw [if_neg hj2]
          exact ⟨fresh_back (ex.trans e4) np, pD, by rw [upd_ne pD]; exact h5⟩
    · have ei : i = n := by omega
      subst ei
      refine .inl ⟨stop i H' eb (Nat.le_refl _), q Dl ps H' (fresh_back e1 hD) (e1.trans ex) hp (by rw [List.length_map, List.length_range]; exact hl) fun j hj => ?_⟩
      rw [List.length_map, List.length_range] at hj
      obtain ⟨q1, q2, q3⟩ := each j hj
      exact ⟨fresh_back e1 q1, q2, by rw [range_at hj]; exact q3⟩
/-- [list(row) for row in a table] -/
theorem el_copy {α : Type} {f : α → V} {rows : List (List α)} {a : Addr} {tl : TE} {j : Nat} {vs : List Nat} (ha : Ev tl σ H (.ref a)) (T : Tab K H f a rows) (hz : rows.length ≤ 40000) (hw : ∀ x, wipe ((wipe σ vs).set j (some x)) vs = wipe σ vs) (hj : j < (wipe σ vs).length) :
    EvTab (tLc (iList K tl) (gName j) tYes (tCB (rListS K) (tCons (tVar j) tNil)) vs) σ H (rows.map fun r => r.map f) := by
  obtain ⟨ps, h1, h2, h3⟩ := T
  have q := el_tab (te := tCB (rListS K) (tCons (tVar j) tNil)) (vs := vs) (fun i => (rows.getD i []).map f) (wk_listM (f := V.ref) 0 (j := j) ha h1) (by omega) (fun i => hw _) fun i hi => el_list (ev_var (v := .ref (ps.getD i 0)) (by rw [List.getElem?_set_self hj])) (h3 i (by omega))
  rw [h2] at q
  rw [range_getD [] (fun r : List α => r.map f)] at q
  exact q
theorem tab_of {α : Type} {f : α → V} {rows : List (List α)} {p : Addr} {ps : List Addr} {H2 : Hp} {A : Addr → Prop} (hp : H2 p = some (.lst (ps.map V.ref))) (hl : ps.length = (rows.map fun r => r.map f).length)
    (h : ∀ i, i < (rows.map fun r => r.map f).length → A (ps.getD i 0) ∧ ps.getD i 0 ≠ p ∧ H2 (ps.getD i 0) = some (.lst ((rows.map fun r => r.map f).getD i []))) : TabL H2 f p rows := by
  rw [List.length_map] at hl h
  refine ⟨ps, hp, hl, fun i hi => ?_⟩
  rw [(h i hi).2.2, map_at (d := []) hi]
end
section
variable {K : PySem.W.Frag} {σ : L2.St} {H0 H : Hp} {ta tv : TE} {D : Ends} {tz : TS} {v : V}
/-- o.f = a new table -/
theorem s_fldTab {cs : List (List V)} {x C dx : Addr} {fs : List (Str × V)} {f : Str} (h : EvTab tv σ H0 cs) (e : Ex H0 H) (hx : Ev ta σ H (.ref x)) (hH : H x = some (.ins C dx fs)) (c : Cls K C) (n : NoAttr K C f) (hl : fs.length < 1000)
    (k : ∀ (p : Addr) (ps : List Addr) (H2 : Hp), H p = none → Ex H H2 → H2 p = some (.lst (ps.map V.ref)) → ps.length = cs.length → (∀ i, i < cs.length → H (ps.getD i 0) = none ∧ ps.getD i 0 ≠ p ∧ H2 (ps.getD i 0) = some (.lst (cs.getD i []))) →
      D.nx σ (upd H2 x (.ins C dx (putF f (.ref p) fs)))) : sFld K ta tv f D σ H :=
  h H e _ fun p ps H1 np e1 h1 h2 h3 => hx H1 e1 _ fun H2 e2 => ⟨x, C, dx, fs, rfl, (e1.trans e2) _ _ hH, c, n, hl, k p ps H2 np (e1.trans e2) (e2 _ _ h1) h2 fun i hi => ⟨(h3 i hi).1, (h3 i hi).2.1, e2 _ _ (h3 i hi).2.2⟩⟩
theorem q_fldTab {cs : List (List V)} {x C dx : Addr} {fs : List (Str × V)} {f : Str} (h : EvTab tv σ H0 cs) (e : Ex H0 H) (hx : Ev ta σ H (.ref x)) (hH : H x = some (.ins C dx fs)) (c : Cls K C) (n : NoAttr K C f) (hl : fs.length < 1000)
    (k : ∀ (p : Addr) (ps : List Addr) (H2 : Hp), H p = none → Ex H H2 → H2 p = some (.lst (ps.map V.ref)) → ps.length = cs.length → (∀ i, i < cs.length → H (ps.getD i 0) = none ∧ ps.getD i 0 ≠ p ∧ H2 (ps.getD i 0) = some (.lst (cs.getD i []))) →
      tz D σ (upd H2 x (.ins C dx (putF f (.ref p) fs)))) : tSeq (sFld K ta tv f) tz D σ H := s_fldTab (D := { D with nx := tz D }) h e hx hH c n hl k
/-- o.f = a value -/
theorem s_fld {x C dx : Addr} {fs : List (Str × V)} {f : Str} (h : Ev tv σ H v) (hx : Ev ta σ H (.ref x)) (hH : H x = some (.ins C dx fs)) (c : Cls K C) (n : NoAttr K C f) (hl : fs.length < 1000) (k : ∀ H2, Ex H H2 → D.nx σ (upd H2 x (.ins C dx (putF f v fs)))) : sFld K ta tv f D σ H :=
  h H (Ex.refl _) _ fun H1 e1 => hx H1 e1 _ fun H2 e2 => ⟨x, C, dx, fs, rfl, (e1.trans e2) _ _ hH, c, n, hl, k H2 (e1.trans e2)⟩
theorem q_fld {x C dx : Addr} {fs : List (Str × V)} {f : Str} (h : Ev tv σ H v) (hx : Ev ta σ H (.ref x)) (hH : H x = some (.ins C dx fs)) (c : Cls K C) (n : NoAttr K C f) (hl : fs.length < 1000) (k : ∀ H2, Ex H H2 → tz D σ (upd H2 x (.ins C dx (putF f v fs)))) : tSeq (sFld K ta tv f) tz D σ H :=
  s_fld (D := { D with nx := tz D }) h hx hH c n hl k
theorem s_fldL {xs : List V} {x C dx : Addr} {fs : List (Str × V)} {f : Str} (h : EvL tv σ H xs) (hx : Ev ta σ H (.ref x)) (hH : H x = some (.ins C dx fs)) (c : Cls K C) (n : NoAttr K C f) (hl : fs.length < 1000) (k : ∀ p H2, H p = none → Ex H H2 → H2 p = some (.lst xs) → D.nx σ (upd H2 x (.ins C dx (putF f (.ref p) fs)))) : sFld K ta tv f D σ H :=
  h H (Ex.refl _) _ fun p H1 np e1 h1 => hx H1 e1 _ fun H2 e2 => ⟨x, C, dx, fs, rfl, (e1.trans e2) _ _ hH, c, n, hl, k p H2 np (e1.trans e2) (e2 _ _ h1)⟩
theorem q_fldL {xs : List V} {x C dx : Addr} {fs : List (Str × V)} {f : Str} (h : EvL tv σ H xs) (hx : Ev ta σ H (.ref x)) (hH : H x = some (.ins C dx fs)) (c : Cls K C) (n : NoAttr K C f) (hl : fs.length < 1000) (k : ∀ p H2, H p = none → Ex H H2 → H2 p = some (.lst xs) → tz D σ (upd H2 x (.ins C dx (putF f (.ref p) fs)))) : tSeq (sFld K ta tv f) tz D σ H :=
  s_fldL (D := { D with nx := tz D }) h hx hH c n hl k
end
/-! ### two lists of lists that grow -/
def Rw2 (H : Hp) (lt lr : Addr) (ps : List Addr) (cs : List (List V)) : Prop := ps.length = cs.length ∧ ∀ i, i < cs.length → ps.getD i 0 ≠ lt ∧ ps.getD i 0 ≠ lr ∧ H (ps.getD i 0) = some (.lst (cs.getD i []))
theorem Rw2.nil {H : Hp} {lt lr : Addr} : Rw2 H lt lr [] [] := ⟨rfl, fun i hi => absurd hi (Nat.not_lt_zero i)⟩
theorem Rw2.ex {H H' : Hp} {lt lr : Addr} {ps : List Addr} {cs : List (List V)} (r : Rw2 H lt lr ps cs) (e : Ex H H') : Rw2 H' lt lr ps cs := ⟨r.1, fun i hi => ⟨(r.2 i hi).1, (r.2 i hi).2.1, e _ _ (r.2 i hi).2.2⟩⟩
theorem Rw2.updT {H : Hp} {lt lr : Addr} {ps : List Addr} {cs : List (List V)} {o : HO} (r : Rw2 H lt lr ps cs) : Rw2 (upd H lt o) lt lr ps cs := ⟨r.1, fun i hi => ⟨(r.2 i hi).1, (r.2 i hi).2.1, by rw [upd_ne (r.2 i hi).1]; exact (r.2 i hi).2.2⟩⟩
theorem Rw2.updR {H : Hp} {lt lr : Addr} {ps : List Addr} {cs : List (List V)} {o : HO} (r : Rw2 H lt lr ps cs) : Rw2 (upd H lr o) lt lr ps cs := ⟨r.1, fun i hi => ⟨(r.2 i hi).1, (r.2 i hi).2.1, by rw [upd_ne (r.2 i hi).2.1]; exact (r.2 i hi).2.2⟩⟩
theorem Rw2.snoc {H : Hp} {lt lr p : Addr} {ps : List Addr} {cs : List (List V)} {c : List V} (r : Rw2 H lt lr ps cs) (h1 : p ≠ lt) (h2 : p ≠ lr) (h3 : H p = some (.lst c)) : Rw2 H lt lr (ps ++ [p]) (cs ++ [c]) := by
  refine ⟨by rw [List.length_append, List.length_append, r.1]; rfl, fun i hi => ?_⟩
  rw [List.length_append] at hi
  have hl := r.1
  rw [snoc_at (by rw [hl]; exact hi), snoc_at hi]
  by_cases h : i < cs.length
  · rw [if_pos (by omega), if_pos h]
    exact r.2 i h
  · rw [if_neg (by omega), if_neg h]
    exact ⟨h1, h2, h3⟩
theorem Rw2.tab {K : PySem.W.Frag} {α : Type} {f : α → V} {H : Hp} {lt lr a : Addr} {ps : List Addr} {T : List (List α)} (r : Rw2 H lt lr ps (T.map fun r => r.map f)) (h : H a = some (.lst (ps.map V.ref))) : Tab K H f a T := by
  have hl := r.1
  rw [List.length_map] at hl
  refine ⟨ps, sq_of h, hl, fun i hi => sq_of ?_⟩
  rw [(r.2 i (by rw [List.length_map]; exact hi)).2.2, map_at (d := []) hi]
theorem mk_ex {H1 : Hp} {x dx : Addr} {o u : HO} (nx : H1 x = none) (nd : H1 dx = none) : Ex H1 (hid (upd (upd H1 dx u) x o) x) := fun b q e => by
  rw [hid_ne (ne_of_none e nx), upd_ne (ne_of_none e nx), upd_ne (ne_of_none e nd)]
  exact e
section
variable {K : PySem.W.Frag} {σ : L2.St} {H : Hp} {tl : TE}
/-- a walk over row triples -/
theorem wk_rows {a : Addr} {rs : List Row} {j1 j2 j3 : Nat} (h : Ev tl σ H (.ref a)) (hx : RowL K H a rs) :
    Wk (iList K tl) (gTup K 3 (gCons (gName j1) (gCons (gName j2) (gCons (gName j3) gNil)))) σ H rs.length fun i σ => ((σ.set j1 (some (.str (rD rs i).w.s))).set j2 (some (.int (rD rs i).l))).set j3 (some (.int (rD rs i).r)) := fun H1 e R k => by
  obtain ⟨ps, h1, h2, h3⟩ := hx
  exact h H1 e _ fun H2 e2 => ⟨a, rfl, ⟨ps.map V.ref, ex_l (e.trans e2) h1⟩, k _ H2 e2 (fun i H3 e3 hi => ⟨⟨ps.map V.ref, .ref (ps.getD i 0), ex_l e3 h1, get_map (f := V.ref) 0 (by omega)⟩, fun x H4 y => by
    obtain ⟨rfl, y⟩ := y
    refine ⟨Ex.refl _, fun σ' Q q => ?_⟩
    have e := y _ (ex_l e3 h1)
    rw [get_map (f := V.ref) 0 (by omega)] at e
    cases e
    exact ⟨_, _, rfl, ex_t e3 (h3 i hi), rfl, _, _, rfl, _, _, rfl, _, _, rfl, rfl, q⟩⟩) fun i H3 e3 hi => ⟨ps.map V.ref, ex_l e3 h1, by rw [List.length_map]; omega⟩⟩
end
/-- what is due looks at earlier rows alone -/
theorem dueRow_snoc {g : List (List Nat)} {F T : List (List Bool)} {t : List Bool} {r : Row} {rk : List Int} {k nf i : Nat} (ok : RowOk nf i r) (h : i ≤ T.length) : dueRow g F (T ++ [t]) r rk k = dueRow g F T r rk k := by
  have pl : (T ++ [t]).getD r.l.toNat [] = T.getD r.l.toNat [] ∧ (T ++ [t]).getD (if r.r = -1 then r.l else r.r).toNat [] = T.getD (if r.r = -1 then r.l else r.r).toNat [] ∨ r.w.leaf = true := by
    have at_ : ∀ l : Nat, l < i → (T ++ [t]).getD l [] = T.getD l [] := fun l hl => by rw [snoc_at (by omega), if_pos (by omega)]
    rcases ok with ⟨o1, _⟩ | ⟨_, o2, l, o3, o4⟩ | ⟨_, l, m, o3, o4, o5, o6⟩
    · exact .inr o1
    · refine .inl ?_
      rw [if_pos o2, o3]
      exact ⟨at_ l o4, at_ l o4⟩
    · refine .inl ?_
      rw [if_neg (by omega), o3, o5]
      exact ⟨at_ l o4, at_ m o6⟩
  rcases pl with pl | lf
  · unfold dueRow
    rw [pl.1, pl.2]
  · unfold dueRow
    unfold Wd.leaf at lf
    simp only [Bool.or_eq_true, beq_iff_eq] at lf
    rcases lf with (z | z) | z
    · have h1 : ¬ r.w = .fact := by rw [z]; decide
      have h2 : r.w = .tt ∨ r.w = .ff := .inl z
      simp only [if_neg h1, if_pos h2]
    · have h1 : ¬ r.w = .fact := by rw [z]; decide
      have h2 : r.w = .tt ∨ r.w = .ff := .inr z
      simp only [if_neg h1, if_pos h2]
    · simp only [if_pos z]
/-- an answer True or False, by what it says -/
def RetB (p : Prop) (H : Hp) (Q : VK) : Prop := ∀ (b : Bool), (b = true ↔ p) → ∀ H', Ex H H' → Q (.bl b) H'
theorem bool_one {a b : Bool} {p : Prop} (h1 : a = true ↔ p) (h2 : b = true ↔ p) : a = b := by
  cases a with
  | true => exact (h2.mpr (h1.mp rfl)).symm
  | false => cases b with
    | true => exact absurd (h1.mpr (h2.mp rfl)) (by decide)
    | false => rfl
theorem bool_of (p : Prop) : ∃ b : Bool, b = true ↔ p := by
  cases Classical.em p with
  | inl h => exact ⟨true, fun _ => h, fun _ => rfl⟩
  | inr h => exact ⟨false, fun z => absurd z (by decide), fun z => absurd z h⟩
theorem RetB.of {p : Prop} {H : Hp} {Q : VK} {b : Bool} (hb : b = true ↔ p) (q : ∀ H', Ex H H' → Q (.bl b) H') : RetB p H Q := fun b' hb' H' e => by
  rw [bool_one hb' hb]
  exact q H' e
theorem RetB.yes {p : Prop} {H H' : Hp} {Q : VK} (q : RetB p H Q) (h : p) (e : Ex H H') : Q (.bl true) H' := q true ⟨fun _ => h, fun _ => rfl⟩ H' e
theorem RetB.no {p : Prop} {H H' : Hp} {Q : VK} (q : RetB p H Q) (h : ¬ p) (e : Ex H H') : Q (.bl false) H' := q false ⟨fun z => absurd z (by decide), fun z => absurd z h⟩ H' e
end K94

/-! K94Form -/
/-! Formulas, their data, their rows. -/
namespace K94
open PySem PySem.Spec PyProof.Rows L2 Evl
inductive Form where
  | cmp (e : Bool)
  | tt
  | ff
  | un (w : Wd) (a : Form)
  | bin (w : Wd) (a b : Form)
def cmpW (e : Bool) : Str := if e then "equal" else "below"
def cmpD (e : Bool) : PyData := .tuple [.str (cmpW e), .tuple [.str "name", .str "a"], .tuple [.str "number", .int 1]]
def Form.data : Form → PyData
  | .cmp e => cmpD e
  | .tt => .tuple [.str Wd.tt.s]
  | .ff => .tuple [.str Wd.ff.s]
  | .un w a => .tuple [.str w.s, a.data]
  | .bin w a b => .tuple [.str w.s, a.data, b.data]
def Form.ok : Form → Prop
  | .un w a => w.one = true ∧ a.ok
  | .bin w a b => w.two = true ∧ a.ok ∧ b.ok
  | _ => True
def Form.size : Form → Nat
  | .un _ a => a.size + 1
  | .bin _ a b => a.size + b.size + 1
  | _ => 1
def Form.dep : Form → Nat
  | .un _ a => a.dep + 1
  | .bin _ a b => max a.dep b.dep + 1
  | _ => 1
theorem data_lay : ∀ f : Form, f.data.canLay0 = true
  | .cmp e => by cases e <;> decide +kernel
  | .tt => by decide +kernel
  | .ff => by decide +kernel
  | .un w a => by
    have h := data_lay a
    have hw : PyData.strOk w.s = true := by cases w <;> decide +kernel
    simp [Form.data, PyData.canLay0, PyData.canLayAll0, h, hw]
  | .bin w a b => by
    have h := data_lay a
    have h' := data_lay b
    have hw : PyData.strOk w.s = true := by cases w <;> decide +kernel
    simp [Form.data, PyData.canLay0, PyData.canLayAll0, h, h', hw]
theorem data_depth : ∀ f : Form, f.data.depth ≤ f.dep + 1
  | .cmp e => by simp [Form.data, cmpD, PyData.depth, PyData.depthAll, Form.dep]
  | .tt => by simp [Form.data, PyData.depth, PyData.depthAll]
  | .ff => by simp [Form.data, PyData.depth, PyData.depthAll]
  | .un w a => by
    have h := data_depth a
    simp only [Form.data, PyData.depth, PyData.depthAll, Form.dep]
    omega
  | .bin w a b => by
    have h := data_depth a
    have h' := data_depth b
    simp only [Form.data, PyData.depth, PyData.depthAll, Form.dep]
    omega
theorem data_shaped {f : Form} (h : f.dep ≤ 60) : SeqAt.shaped f.data = true := by
  have := data_depth f
  show (f.data.canLay0 && decide (f.data.depth ≤ 64)) = true
  rw [Bool.and_eq_true]
  exact ⟨data_lay f, decide_eq_true (by omega)⟩
theorem cmp_eqv (a b : Bool) : PyData.eqv (cmpD a) (cmpD b) = (a == b) := by cases a <;> cases b <;> decide +kernel
def Row.data (r : Row) : PyData := .tuple [.str r.w.s, .int r.l, .int r.r]
theorem row_eqv (a b : Row) : PyData.eqv a.data b.data = decide (a = b) := by
  obtain ⟨w, l, r⟩ := a
  obtain ⟨w', l', r'⟩ := b
  have e : PyData.eqv (Row.data ⟨w, l, r⟩) (Row.data ⟨w', l', r'⟩) = ((w.s == w'.s) && ((l == l') && ((r == r') && true))) := by simp only [Row.data, PyData.eqv, PyData.eqvAll]
  rw [e]
  by_cases h : (⟨w, l, r⟩ : Row) = ⟨w', l', r'⟩
  · cases h; simp
  · rw [decide_eq_false h]
    cases h1 : (w.s == w'.s) with
    | false => rfl
    | true =>
      have h1 := Wd.s_inj (eq_of_beq h1)
      cases h2 : (l == l') with
      | false => rfl
      | true =>
        have h2 := eq_of_beq h2
        cases h3 : (r == r') with
        | false => rfl
        | true =>
          have h3 := eq_of_beq h3
          exact absurd (by rw [h1, h2, h3]) h
theorem row_lay (r : Row) : r.data.canLay0 = true := by
  have hw : PyData.strOk r.w.s = true := by cases r.w <;> decide +kernel
  simp [Row.data, PyData.canLay0, PyData.canLayAll0, hw]
theorem row_shaped (r : Row) : SeqAt.shaped r.data = true := by
  show (r.data.canLay0 && decide (r.data.depth ≤ 64)) = true
  rw [row_lay]
  simp [Row.data, PyData.depth, PyData.depthAll]
theorem lays {α : Type} {h : α → PyData} (hl : ∀ x, (h x).canLay0 = true) : ∀ xs : List α, PyData.canLayAll0 (xs.map h) = true
  | [] => by simp [PyData.canLayAll0]
  | x :: r => by simp [PyData.canLayAll0, hl x, lays hl r]
theorem depths {α : Type} {h : α → PyData} {n : Nat} : ∀ {xs : List α}, (∀ x ∈ xs, (h x).depth ≤ n) → PyData.depthAll (xs.map h) ≤ n
  | [], _ => by simp [PyData.depthAll]
  | x :: r, hd => by
    have h1 := hd x List.mem_cons_self
    have h2 := depths (xs := r) fun y hy => hd y (List.mem_cons_of_mem _ hy)
    simp only [List.map_cons, PyData.depthAll]
    omega
theorem list_shaped {α : Type} {h : α → PyData} (hl : ∀ x, (h x).canLay0 = true) {n : Nat} {xs : List α} (hd : ∀ x ∈ xs, (h x).depth ≤ n) (hn : n ≤ 63) : SeqAt.shaped (.list (xs.map h)) = true := by
  have := depths hd
  show (PyData.canLay0 (.list (xs.map h)) && decide (PyData.depth (.list (xs.map h)) ≤ 64)) = true
  rw [Bool.and_eq_true]
  exact ⟨by simp only [PyData.canLay0]; exact lays hl xs, decide_eq_true (by simp only [PyData.depth]; omega)⟩
theorem rows_shaped (rs : List Row) : SeqAt.shaped (.list (rs.map Row.data)) = true := list_shaped (n := 1) row_lay (fun r _ => by simp [Row.data, PyData.depth, PyData.depthAll]) (by decide)
theorem cmps_shaped (es : List Bool) : SeqAt.shaped (.list (es.map cmpD)) = true := list_shaped (n := 2) (fun e => data_lay (.cmp e)) (fun e _ => data_depth (.cmp e)) (by decide)
theorem cmp_shaped (e : Bool) : SeqAt.shaped (cmpD e) = true := data_shaped (f := .cmp e) (by simp [Form.dep])

/-! ### the numbering -/
structure Bk where
  facts : List Bool
  rows : List Row
def putR (b : Bk) (r : Row) : Bk × Nat := if r ∈ b.rows then (b, b.rows.idxOf r) else (⟨b.facts, b.rows ++ [r]⟩, b.rows.length)
def addF (b : Bk) (e : Bool) : Bk := if e ∈ b.facts then b else ⟨b.facts ++ [e], b.rows⟩
def factRow (b : Bk) (e : Bool) : Row := ⟨.fact, ((addF b e).facts.idxOf e : Nat), -1⟩
def num : Form → Bk → Bk × Nat
  | .cmp e, b => putR (addF b e) (factRow b e)
  | .tt, b => putR b ⟨.tt, -1, -1⟩
  | .ff, b => putR b ⟨.ff, -1, -1⟩
  | .un w a, b => putR (num a b).1 ⟨w, ((num a b).2 : Nat), -1⟩
  | .bin w a c, b => putR (num c (num a b).1).1 ⟨w, ((num a b).2 : Nat), ((num c (num a b).1).2 : Nat)⟩
structure BkOk (b : Bk) : Prop where
  nf : b.facts.Nodup
  nr : b.rows.Nodup
  ro : ∀ i, i < b.rows.length → RowOk b.facts.length i (rD b.rows i)
theorem RowOk.mono {nf nf' i : Nat} {r : Row} (h : RowOk nf i r) (hn : nf ≤ nf') : RowOk nf' i r := by
  rcases h with ⟨o1, o2, o3⟩ | o | o
  · refine .inl ⟨o1, o2, ?_⟩
    rcases o3 with o3 | ⟨o3, l, o4, o5⟩
    · exact .inl o3
    · exact .inr ⟨o3, l, o4, by omega⟩
  · exact .inr (.inl o)
  · exact .inr (.inr o)
theorem rD_snoc {rs : List Row} {r : Row} {i : Nat} (h : i < rs.length + 1) : rD (rs ++ [r]) i = if i < rs.length then rD rs i else r := by
  unfold rD
  exact snoc_at h
theorem snoc_nodup {α : Type} {l : List α} {x : α} (h : l.Nodup) (hx : x ∉ l) : (l ++ [x]).Nodup := by
  rw [List.nodup_append]
  refine ⟨h, by simp, fun a ha b hb => ?_⟩
  rw [List.mem_singleton.mp hb]
  exact fun e => hx (e ▸ ha)
theorem BkOk.put {b : Bk} {r : Row} (h : BkOk b) (hr : RowOk b.facts.length b.rows.length r) : BkOk (putR b r).1 ∧ (putR b r).2 < (putR b r).1.rows.length ∧ (putR b r).1.facts = b.facts ∧ b.rows.length ≤ (putR b r).1.rows.length ∧ (putR b r).1.rows.length ≤ b.rows.length + 1 := by
  unfold putR
  by_cases hm : r ∈ b.rows
  · rw [if_pos hm]
    exact ⟨h, List.idxOf_lt_length_iff.mpr hm, rfl, Nat.le_refl _, Nat.le_succ _⟩
  · rw [if_neg hm]
    refine ⟨⟨h.nf, snoc_nodup h.nr hm, fun i hi => ?_⟩, by simp, rfl, by simp, by simp⟩
    have hi' : i < b.rows.length + 1 := by simpa using hi
    show RowOk b.facts.length i (rD (b.rows ++ [r]) i)
    rw [rD_snoc hi']
    by_cases h2 : i < b.rows.length
    · rw [if_pos h2]; exact h.ro i h2
    · rw [if_neg h2]
      have : i = b.rows.length := by omega
      rw [this]; exact hr
theorem BkOk.add {b : Bk} (h : BkOk b) (e : Bool) : BkOk (addF b e) ∧ e ∈ (addF b e).facts ∧ (addF b e).rows = b.rows := by
  unfold addF
  by_cases hm : e ∈ b.facts
  · rw [if_pos hm]; exact ⟨h, hm, rfl⟩
  · rw [if_neg hm]
    exact ⟨⟨snoc_nodup h.nf hm, h.nr, fun i hi => (h.ro i hi).mono (by simp)⟩, by simp, rfl⟩
/-- what the numbering keeps -/
theorem num_ok : ∀ (f : Form) (b : Bk), f.ok → BkOk b → BkOk (num f b).1 ∧ (num f b).2 < (num f b).1.rows.length ∧ b.rows.length ≤ (num f b).1.rows.length ∧ (num f b).1.rows.length ≤ b.rows.length + f.size
  | .cmp e, b, _, h => by
    obtain ⟨h1, h2, h3⟩ := h.add e
    have p := h1.put (r := factRow b e) (.inl ⟨rfl, rfl, .inr ⟨rfl, _, rfl, List.idxOf_lt_length_iff.mpr h2⟩⟩)
    rw [h3] at p
    exact ⟨p.1, p.2.1, p.2.2.2.1, p.2.2.2.2⟩
  | .tt, b, _, h => by
    have p := h.put (r := ⟨.tt, -1, -1⟩) (.inl ⟨rfl, rfl, .inl ⟨by decide, rfl⟩⟩)
    exact ⟨p.1, p.2.1, p.2.2.2.1, p.2.2.2.2⟩
  | .ff, b, _, h => by
    have p := h.put (r := ⟨.ff, -1, -1⟩) (.inl ⟨rfl, rfl, .inl ⟨by decide, rfl⟩⟩)
    exact ⟨p.1, p.2.1, p.2.2.2.1, p.2.2.2.2⟩
  | .un w a, b, ok, h => by
    obtain ⟨a1, a2, a3, a4⟩ := num_ok a b ok.2 h
    have p := a1.put (r := ⟨w, ((num a b).2 : Nat), -1⟩) (.inr (.inl ⟨ok.1, rfl, _, rfl, a2⟩))
    refine ⟨p.1, p.2.1, ?_, ?_⟩
    · exact Nat.le_trans a3 p.2.2.2.1
    · show (putR (num a b).1 ⟨w, ((num a b).2 : Nat), -1⟩).1.rows.length ≤ b.rows.length + (a.size + 1)
      have := p.2.2.2.2
      omega
  | .bin w a c, b, ok, h => by
    obtain ⟨a1, a2, a3, a4⟩ := num_ok a b ok.2.1 h
    obtain ⟨c1, c2, c3, c4⟩ := num_ok c (num a b).1 ok.2.2 a1
    have p := c1.put (r := ⟨w, ((num a b).2 : Nat), ((num c (num a b).1).2 : Nat)⟩) (.inr (.inr ⟨ok.1, _, _, rfl, by omega, rfl, c2⟩))
    refine ⟨p.1, p.2.1, ?_, ?_⟩
    · exact Nat.le_trans (Nat.le_trans a3 c3) p.2.2.2.1
    · show (putR (num c (num a b).1).1 ⟨w, ((num a b).2 : Nat), ((num c (num a b).1).2 : Nat)⟩).1.rows.length ≤ b.rows.length + (a.size + c.size + 1)
      have := p.2.2.2.2
      omega
theorem facts_two {l : List Bool} (h : l.Nodup) : l.length ≤ 2 := by
  rcases l with _ | ⟨a, _ | ⟨b, _ | ⟨c, r⟩⟩⟩
  · simp
  · simp
  · simp
  · exfalso
    simp only [List.nodup_cons, List.mem_cons, not_or] at h
    obtain ⟨⟨h1, h2, _⟩, ⟨h3, _⟩, _⟩ := h
    cases a <;> cases b <;> cases c <;> simp_all
end K94

/-! K94Form2 -/
/-! Formulas and row lists in the heap. -/
namespace K94
open PySem PySem.Spec PyProof.Rows L2 Evl
/-- the tuples alone -/
def tps (H : Hp) : Hp := fun a => match H a with
  | some (.tup xs) => some (.tup xs)
  | _ => none
section
variable {K : PySem.W.Frag} {H H' : Hp} {p l : Addr} {o : HO}
theorem tps_at {xs : List V} (h : H p = some (.tup xs)) : tps H p = some (.tup xs) := by unfold tps; rw [h]
theorem of_tps (h : tps H p = some o) : H p = some o ∧ ∃ xs, o = .tup xs := by
  unfold tps at h
  split at h
  · rename_i xs q
    cases h
    exact ⟨q, xs, rfl⟩
  · cases h
theorem tps_ex : Ex (tps H) H := fun a o e => (of_tps e).1
theorem tps_sub (h : ∀ a xs, H a = some (.tup xs) → H' a = some (.tup xs)) : Ex (tps H) (tps H') := fun a o e => by
  obtain ⟨q, xs, rfl⟩ := of_tps e
  exact tps_at (h a xs q)
theorem tps_mono (e : Ex H H') : Ex (tps H) (tps H') := tps_sub fun a xs q => e _ _ q
theorem tps_upd (h : ∀ xs, H l ≠ some (.tup xs)) : Ex (tps H) (tps (upd H l o)) := tps_sub fun a xs q => by
  have ne : a ≠ l := fun z => h xs (by rw [← z]; exact q)
  rw [upd_ne ne]
  exact q
theorem tps_lst {xs : List V} (h : H l = some (.lst xs)) : Ex (tps H) (tps (upd H l o)) := tps_upd fun ys z => by rw [h] at z; cases z
theorem tps_new (h : H p = none) : Ex (tps H) (tps (upd H p o)) := tps_upd fun ys z => by rw [h] at z; cases z
theorem tps_hid {xs : List V} (h : H l = some (.lst xs)) (e : Ex (hid H l) H') : Ex (tps H) (tps H') := tps_sub fun a ys q => e _ _ (by rw [hid_ne (fun z => by rw [z, h] at q; cases q)]; exact q)

/-- v reads as the formula f, through tuples alone -/
def FormAt (K : PySem.W.Frag) (H : Hp) (v : V) (f : Form) : Prop := Dp K (tps H) v f.data
theorem FormAt.mono {v : V} {f : Form} (h : FormAt K H v f) (e : Ex (tps H) (tps H')) : FormAt K H' v f := dp_ex e _ _ h
theorem FormAt.dp {v : V} {f : Form} (h : FormAt K H v f) : Dp K H v f.data := dp_ex tps_ex _ _ h
theorem dp_str {v : V} {x : Str} (h : Dp K H v (.str x)) : v = .str x := by cases h; rfl
theorem FormAt.cmp {v : V} {e : Bool} (h : FormAt K H v (.cmp e)) : ∃ p a b, v = .ref p ∧ SqT K (tps H) p [.str (cmpW e), a, b] := by
  cases h with
  | tup h1 h2 =>
    cases h2 with
    | cons d0 r => cases r with
      | cons d1 r => cases r with
        | cons d2 r =>
          cases r
          rw [dp_str d0] at h1
          exact ⟨_, _, _, rfl, h1⟩
theorem FormAt.tt {v : V} (h : FormAt K H v .tt) : ∃ p, v = .ref p ∧ SqT K (tps H) p [.str Wd.tt.s] := by
  cases h with
  | tup h1 h2 =>
    cases h2 with
    | cons d0 r =>
      cases r
      rw [dp_str d0] at h1
      exact ⟨_, rfl, h1⟩
theorem FormAt.ff {v : V} (h : FormAt K H v .ff) : ∃ p, v = .ref p ∧ SqT K (tps H) p [.str Wd.ff.s] := by
  cases h with
  | tup h1 h2 =>
    cases h2 with
    | cons d0 r =>
      cases r
      rw [dp_str d0] at h1
      exact ⟨_, rfl, h1⟩
theorem FormAt.un {v : V} {w : Wd} {a : Form} (h : FormAt K H v (.un w a)) : ∃ p va, v = .ref p ∧ SqT K (tps H) p [.str w.s, va] ∧ FormAt K H va a := by
  cases h with
  | tup h1 h2 =>
    cases h2 with
    | cons d0 r => cases r with
      | cons d1 r =>
        cases r
        rw [dp_str d0] at h1
        exact ⟨_, _, rfl, h1, d1⟩
theorem FormAt.bin {v : V} {w : Wd} {a b : Form} (h : FormAt K H v (.bin w a b)) : ∃ p va vb, v = .ref p ∧ SqT K (tps H) p [.str w.s, va, vb] ∧ FormAt K H va a ∧ FormAt K H vb b := by
  cases h with
  | tup h1 h2 =>
    cases h2 with
    | cons d0 r => cases r with
      | cons d1 r => cases r with
        | cons d2 r =>
          cases r
          rw [dp_str d0] at h1
          exact ⟨_, _, _, rfl, h1, d1, d2⟩
theorem st_tps {xs : List V} (h : H p = some (.tup xs)) : SqT K (tps H) p xs := st_of (tps_at h)
theorem FormAt.mkUn {w : Wd} {a : Form} {va : V} (h : H p = some (.tup [.str w.s, va])) (ha : FormAt K H va a) : FormAt K H (.ref p) (.un w a) := .tup (st_tps h) (.cons (.str _) (.cons ha .nil))
theorem FormAt.mkBin {w : Wd} {a b : Form} {va vb : V} (h : H p = some (.tup [.str w.s, va, vb])) (ha : FormAt K H va a) (hb : FormAt K H vb b) : FormAt K H (.ref p) (.bin w a b) := .tup (st_tps h) (.cons (.str _) (.cons ha (.cons hb .nil)))

/-- a list of comparisons, of row triples, that may grow -/
def FactG (K : PySem.W.Frag) (H : Hp) (l : Addr) (es : List Bool) : Prop := ∃ vs : List V, H l = some (.lst vs) ∧ DpAll K (tps H) vs (es.map cmpD)
def RowG (K : PySem.W.Frag) (H : Hp) (l : Addr) (rs : List Row) : Prop := ∃ ps : List Addr, H l = some (.lst (ps.map V.ref)) ∧ ps.length = rs.length ∧ ∀ i, i < rs.length → SqT K (tps H) (ps.getD i 0) (rD rs i).vs
theorem FactG.ex {es : List Bool} (h : FactG K H l es) (e : Ex H H') : FactG K H' l es := by
  obtain ⟨vs, h1, h2⟩ := h
  exact ⟨vs, e _ _ h1, dpAll_ex (tps_mono e) _ _ h2⟩
theorem RowG.ex {rs : List Row} (h : RowG K H l rs) (e : Ex H H') : RowG K H' l rs := by
  obtain ⟨ps, h1, h2, h3⟩ := h
  exact ⟨ps, e _ _ h1, h2, fun i hi => ex_t (tps_mono e) (h3 i hi)⟩
theorem FactG.off {es : List Bool} (h : FactG K H l es) (e : Ex (tps H) (tps H')) (hl : H' l = H l) : FactG K H' l es := by
  obtain ⟨vs, h1, h2⟩ := h
  exact ⟨vs, by rw [hl]; exact h1, dpAll_ex e _ _ h2⟩
theorem RowG.off {rs : List Row} (h : RowG K H l rs) (e : Ex (tps H) (tps H')) (hl : H' l = H l) : RowG K H' l rs := by
  obtain ⟨ps, h1, h2, h3⟩ := h
  exact ⟨ps, by rw [hl]; exact h1, h2, fun i hi => ex_t e (h3 i hi)⟩
theorem FactG.lst {es : List Bool} (h : FactG K H l es) : ∃ vs : List V, H l = some (.lst vs) ∧ vs.length = es.length := by
  obtain ⟨vs, h1, h2⟩ := h
  exact ⟨vs, h1, by rw [DpAll.length h2, List.length_map]⟩
theorem RowG.lst {rs : List Row} (h : RowG K H l rs) : ∃ ps : List Addr, H l = some (.lst (ps.map V.ref)) ∧ ps.length = rs.length := by
  obtain ⟨ps, h1, h2, _⟩ := h
  exact ⟨ps, h1, h2⟩
theorem FactG.dp {es : List Bool} (h : FactG K H l es) : Dp K H (.ref l) (.list (es.map cmpD)) := by
  obtain ⟨vs, h1, h2⟩ := h
  exact .lst (sq_of h1) (dpAll_ex tps_ex _ _ h2)
theorem row_dp {r : Row} (h : SqT K H p r.vs) : Dp K H (.ref p) r.data := .tup h (.cons (.str _) (.cons (.int _) (.cons (.int _) .nil)))
theorem RowL.dp {rs : List Row} (h : RowL K H l rs) : Dp K H (.ref l) (.list (rs.map Row.data)) := by
  obtain ⟨ps, h1, h2, h3⟩ := h
  refine .lst h1 (dpAll_of (by rw [List.length_map, List.length_map, h2]) fun i v d e1 e2 => ?_)
  rw [List.getElem?_map] at e1 e2
  cases q1 : ps[i]? with
  | none => rw [q1] at e1; cases e1
  | some p =>
    cases q2 : rs[i]? with
    | none => rw [q2] at e2; cases e2
    | some r =>
      rw [q1] at e1; rw [q2] at e2
      cases e1; cases e2
      have k := h3 i (List.getElem?_eq_some_iff.mp q2).1
      unfold rD at k
      rw [List.getD_eq_getElem?_getD, List.getD_eq_getElem?_getD, q1, q2] at k
      exact row_dp k
theorem RowG.rowL {rs : List Row} (h : RowG K H l rs) : RowL K H l rs := by
  obtain ⟨ps, h1, h2, h3⟩ := h
  exact ⟨ps, sq_of h1, h2, fun i hi => ex_t tps_ex (h3 i hi)⟩
theorem dpAll_snoc {v : V} {d : PyData} : ∀ {vs : List V} {ds : List PyData}, DpAll K H vs ds → Dp K H v d → DpAll K H (vs ++ [v]) (ds ++ [d])
  | _, _, .nil, h => .cons h .nil
  | _, _, .cons a t, h => .cons a (dpAll_snoc t h)
/-- facts.append(comparison) -/
theorem FactG.app {es : List Bool} {e : Bool} {v : V} {vs : List V} (h : FactG K H l es) (hl : H l = some (.lst vs)) (hv : FormAt K H v (.cmp e)) : FactG K (upd H l (.lst (vs ++ [v]))) l (es ++ [e]) := by
  obtain ⟨us, h1, h2⟩ := h
  rw [hl] at h1
  cases h1
  refine ⟨_, upd_same, ?_⟩
  rw [List.map_append]
  exact dpAll_ex (tps_lst hl) _ _ (dpAll_snoc h2 hv)
/-- rows.append(row) -/
theorem RowG.app {rs : List Row} {r : Row} {vs : List V} (h : RowG K H l rs) (hl : H l = some (.lst vs)) (hp : H p = some (.tup r.vs)) : RowG K (upd H l (.lst (vs ++ [.ref p]))) l (rs ++ [r]) := by
  obtain ⟨ps, h1, h2, h3⟩ := h
  rw [hl] at h1
  cases h1
  refine ⟨ps ++ [p], by rw [upd_same, List.map_append]; rfl, by rw [List.length_append, List.length_append, h2]; rfl, fun i hi => ?_⟩
  have hi' : i < rs.length + 1 := by rw [List.length_append] at hi; exact hi
  rw [snoc_at (by omega), rD_snoc hi']
  by_cases hlt : i < rs.length
  · rw [if_pos (by omega), if_pos hlt]
    exact ex_t (tps_lst hl) (h3 i hlt)
  · rw [if_neg (by omega), if_neg hlt]
    exact ex_t (tps_lst hl) (st_tps hp)
theorem any_row {rs : List Row} {r : Row} : (rs.map Row.data).any (fun z => PyData.eqv z r.data) = decide (r ∈ rs) := by
  rw [List.any_map]
  by_cases h : r ∈ rs
  · rw [decide_eq_true h]
    exact List.any_eq_true.mpr ⟨r, h, by show PyData.eqv r.data r.data = true; rw [row_eqv]; simp⟩
  · rw [decide_eq_false h]
    refine List.any_eq_false.mpr fun x hx => ?_
    show ¬ PyData.eqv x.data r.data = true
    rw [row_eqv, decide_eq_true_eq]
    exact fun e => h (e ▸ hx)
theorem any_cmp {es : List Bool} {e : Bool} : (es.map cmpD).any (fun z => PyData.eqv z (cmpD e)) = decide (e ∈ es) := by
  rw [List.any_map]
  by_cases h : e ∈ es
  · rw [decide_eq_true h]
    exact List.any_eq_true.mpr ⟨e, h, by show PyData.eqv (cmpD e) (cmpD e) = true; rw [cmp_eqv]; simp⟩
  · rw [decide_eq_false h]
    refine List.any_eq_false.mpr fun x hx => ?_
    show ¬ PyData.eqv (cmpD x) (cmpD e) = true
    rw [cmp_eqv, beq_iff_eq]
    exact fun e' => h (e' ▸ hx)
section
variable {σ : L2.St} {ta tb : TE}
/-- x not in xs, by data -/
theorem ev_notInD {x y : V} {d : PyData} {ds : List PyData} (ha : Ev ta σ H x) (hb : Ev tb σ H y) (hx : Dp K H x d) (hy : Dp K H y (.list ds)) (s1 : SeqAt.shaped d = true) (s2 : SeqAt.shaped (.list ds) = true) : Ev (tOp (rNotInD K) ta tb) σ H (.bl (!ds.any fun z => PyData.eqv z d)) := fun H1 e _ q =>
  ha H1 e _ fun H2 e2 => hb H2 (e.trans e2) _ fun H3 e3 => ⟨d, ds, dp_ex ((e.trans e2).trans e3) _ _ hx, dp_ex ((e.trans e2).trans e3) _ _ hy, s1, s2, q H3 (e2.trans e3)⟩
/-- xs.index(x), by data -/
theorem ev_indexD {x : V} {a : Addr} {vs : List V} {d z : PyData} {ds : List PyData} {j : Nat} (ha : Ev ta σ H (.ref a)) (hl : H a = some (.lst vs)) (hb : Ev tb σ H x) (hx : Dp K H x d) (hy : Dp K H (.ref a) (.list ds)) (s1 : SeqAt.shaped d = true) (s2 : SeqAt.shaped (.list ds) = true)
    (hz : ds[j]? = some z) (hj : PyData.eqv z d = true) (hno : ∀ (m : Nat) (z' : PyData), m < j → ds[m]? = some z' → PyData.eqv z' d = false) : Ev (tBM K "list" (rIndexD K) ta (tCons tb tNil)) σ H (.int (j : Int)) := fun H1 e _ q =>
  ha H1 e _ fun H2 e2 => ⟨.inl ⟨rfl, _, sq_of ((e.trans e2) _ _ hl)⟩, hb H2 (e.trans e2) _ fun H3 e3 => ⟨a, x, d, ds, j, z, rfl, rfl, dp_ex ((e.trans e2).trans e3) _ _ hy, dp_ex ((e.trans e2).trans e3) _ _ hx, s2, s1, hz, hj, hno, q H3 (e2.trans e3)⟩⟩
theorem idx_first {α : Type} [DecidableEq α] {l : List α} {x : α} {m : Nat} {y : α} (h : m < l.idxOf x) (hy : l[m]? = some y) : y ≠ x := by
  intro e
  subst e
  have hm := (List.getElem?_eq_some_iff.mp hy)
  obtain ⟨h1, h2⟩ := hm
  have := List.not_of_lt_findIdx h
  simp [h2] at this
theorem ev_indexRow {a p : Addr} {rs : List Row} {r : Row} (ha : Ev ta σ H (.ref a)) (hb : Ev tb σ H (.ref p)) (h : RowG K H a rs) (hp : H p = some (.tup r.vs)) (hm : r ∈ rs) : Ev (tBM K "list" (rIndexD K) ta (tCons tb tNil)) σ H (.int ((rs.idxOf r : Nat) : Int)) := by
  obtain ⟨ps, hl, _⟩ := h.lst
  have hi := List.idxOf_lt_length_iff.mpr hm
  refine ev_indexD ha hl hb (row_dp (st_of hp)) h.rowL.dp (row_shaped r) (rows_shaped rs) (z := r.data) ?_ (by rw [row_eqv]; simp) fun m z' hlt hz => ?_
  · rw [List.getElem?_map, List.getElem?_eq_getElem hi, List.getElem_idxOf hi]
    rfl
  · rw [List.getElem?_map] at hz
    cases q : rs[m]? with
    | none => rw [q] at hz; cases hz
    | some y =>
      rw [q] at hz
      cases hz
      rw [row_eqv]
      exact decide_eq_false (idx_first hlt q)
theorem ev_indexCmp {a : Addr} {v : V} {es : List Bool} {e : Bool} (ha : Ev ta σ H (.ref a)) (hb : Ev tb σ H v) (h : FactG K H a es) (hp : FormAt K H v (.cmp e)) (hm : e ∈ es) : Ev (tBM K "list" (rIndexD K) ta (tCons tb tNil)) σ H (.int ((es.idxOf e : Nat) : Int)) := by
  obtain ⟨ps, hl, _⟩ := h.lst
  have hi := List.idxOf_lt_length_iff.mpr hm
  refine ev_indexD ha hl hb hp.dp h.dp (cmp_shaped e) (cmps_shaped es) (z := cmpD e) ?_ (by show PyData.eqv (cmpD e) (cmpD e) = true; rw [cmp_eqv]; simp) fun m z' hlt hz => ?_
  · rw [List.getElem?_map, List.getElem?_eq_getElem hi, List.getElem_idxOf hi]
    rfl
  · rw [List.getElem?_map] at hz
    cases q : es[m]? with
    | none => rw [q] at hz; cases hz
    | some y =>
      rw [q] at hz
      cases hz
      show PyData.eqv (cmpD y) (cmpD e) = false
      rw [cmp_eqv]
      exact beq_eq_false_iff_ne.mpr (idx_first hlt q)
end
theorem ev_lenTu {σ : L2.St} {ta : TE} {p : Addr} {xs : List V} (ha : Ev ta σ H (.ref p)) (h : SqT K H p xs) : Ev (tCB (rLenS K) (tCons ta tNil)) σ H (.int (xs.length : Int)) := fun H1 e Q q =>
  ha H1 e _ fun H2 e2 => ⟨p, xs, rfl, Or.inr (ex_t (e.trans e2) h), q H2 e2⟩
theorem in_cmps_w (w : Wd) : inV (.str w.s) [.str "equal", .str "below", .str "upto"] = false := by cases w <;> decide +kernel
theorem in_cmps_c (e : Bool) : inV (.str (cmpW e)) [.str "equal", .str "below", .str "upto"] = true := by cases e <;> decide +kernel
theorem in_tf (w : Wd) : inV (.str w.s) [.str "true", .str "false"] = (w == .tt || w == .ff) := by cases w <;> decide +kernel
end
theorem hid_mono {H H' : Hp} {l : Addr} (e : Ex H H') : Ex (hid H l) (hid H' l) := fun b o q => by
  have ne : b ≠ l := fun z => by rw [z, hid_none] at q; cases q
  rw [hid_ne ne] at q ⊢
  exact e _ _ q
abbrev hid2 (H : Hp) (a b : Addr) : Hp := hid (hid H a) b
theorem hid2_mono {H H' : Hp} {a b : Addr} (e : Ex H H') : Ex (hid2 H a b) (hid2 H' a b) := hid_mono (hid_mono e)
theorem hid2_ex {H : Hp} {a b : Addr} : Ex (hid2 H a b) H := hid_ex.trans hid_ex
theorem hid_idem {H J : Hp} {l : Addr} (e : Ex (hid H l) J) : Ex (hid H l) (hid J l) := hid_of e hid_none
theorem hid2_a {H : Hp} {a b : Addr} : hid2 H a b a = none := by
  show hid (hid H a) b a = none
  by_cases e : a = b
  · rw [e, hid_none]
  · rw [hid_ne e, hid_none]
theorem hid2_idem {H J : Hp} {a b : Addr} (e : Ex (hid2 H a b) J) : Ex (hid2 H a b) (hid2 J a b) := hid_of (hid_of e hid2_a) hid_none
theorem tps_hid2 {H H' : Hp} {a b : Addr} {xs ys : List V} (ha : H a = some (.lst xs)) (hb : H b = some (.lst ys)) (e : Ex (hid2 H a b) H') : Ex (tps H) (tps H') := tps_sub fun c zs q => e _ _ (by
  show hid (hid H a) b c = _
  rw [hid_ne (fun z => by rw [z, hb] at q; cases q), hid_ne (fun z => by rw [z, ha] at q; cases q)]
  exact q)
end K94

/-! K94Int -/
/-! Whole numbers of the law. -/
namespace K94
open PySem PySem.Spec PyProof.Rows L2 Evl
section
variable {K : PySem.W.Frag} {H H' : Hp} {σ : L2.St} {ta tb : TE}
theorem ev_int1 {i : Int} (ha : Ev ta σ H (.int i)) : Ev (tCB (fun xs H Q => (∃ i, xs = [V.int i] ∧ Q (.int i) H) ∨ ∃ k, xs = [V.bl k] ∧ Q (.int (if k then 1 else 0)) H) (tCons ta tNil)) σ H (.int i) := fun H1 e Q q => ha H1 e _ fun H2 e2 => .inl ⟨i, rfl, q H2 e2⟩
theorem ev_int1B {k : Bool} (ha : Ev ta σ H (.bl k)) : Ev (tCB (fun xs H Q => (∃ i, xs = [V.int i] ∧ Q (.int i) H) ∨ ∃ k, xs = [V.bl k] ∧ Q (.int (if k then 1 else 0)) H) (tCons ta tNil)) σ H (.int (if k then 1 else 0)) := fun H1 e Q q => ha H1 e _ fun H2 e2 => .inr ⟨k, rfl, q H2 e2⟩
theorem ev_abs {i : Int} (ha : Ev ta σ H (.int i)) : Ev (tCB (fun xs H Q => ∃ i, xs = [V.int i] ∧ Q (.int (if i < 0 then -i else i)) H) (tCons ta tNil)) σ H (.int (if i < 0 then -i else i)) := fun H1 e Q q => ha H1 e _ fun H2 e2 => ⟨i, rfl, q H2 e2⟩
def mI (i : Int) (b : Nat) : Nat := (i.fmod b).toNat
theorem mI_lt {i : Int} {b : Nat} (h : 0 < b) : mI i b < b := by
  have h1 := Int.fmod_nonneg_of_pos i (b := (b : Int)) (by omega)
  have h2 := Int.fmod_lt_of_pos i (b := (b : Int)) (by omega)
  unfold mI
  omega
theorem ev_mod {i : Int} {b : Nat} (ha : Ev ta σ H (.int i)) (hb : Ev tb σ H (nI b)) (h : 0 < b) : Ev (tOp (rI (fun _ j => j ≠ 0) fun i j => .int (i.fmod j)) ta tb) σ H (nI (mI i b)) := by
  have h1 := Int.fmod_nonneg_of_pos i (b := (b : Int)) (by omega)
  refine ev_is (ev_op ha hb (rv_I (show (b : Int) ≠ 0 by omega))) ?_
  show V.int _ = V.int _
  unfold mI
  rw [Int.toNat_of_nonneg h1]
theorem ev_modN {a b : Nat} (ha : Ev ta σ H (nI a)) (hb : Ev tb σ H (nI b)) (h : 0 < b) : Ev (tOp (rI (fun _ j => j ≠ 0) fun i j => .int (i.fmod j)) ta tb) σ H (nI (a % b)) :=
  ev_is (ev_op ha hb (rv_I (show (b : Int) ≠ 0 by omega))) (by show V.int _ = V.int _; rw [Int.ofNat_fmod])
theorem ev_fdivN {a b : Nat} (ha : Ev ta σ H (nI a)) (hb : Ev tb σ H (nI b)) (h : 0 < b) (hb2 : b < 1073741824) : Ev (tOp (rI CDivN fun i j => .int (i.fdiv j)) ta tb) σ H (nI (a / b)) :=
  ev_is (ev_op ha hb (rv_I (show CDivN (a : Int) (b : Int) from ⟨by omega, by omega⟩))) (by show V.int _ = V.int _; rw [Int.ofNat_fdiv])
theorem ev_fdiv {i : Int} {b : Nat} (ha : Ev ta σ H (.int i)) (hb : Ev tb σ H (nI b)) (h : 0 < b) (hb2 : b < 1073741824) : Ev (tOp (rI CDivN fun i j => .int (i.fdiv j)) ta tb) σ H (.int (i.fdiv b)) :=
  ev_op ha hb (rv_I (show CDivN i (b : Int) from ⟨by omega, by omega⟩))
theorem ev_addN {a b : Nat} (ha : Ev ta σ H (nI a)) (hb : Ev tb σ H (nI b)) : Ev (tOp (rI0 fun i j => .int (i + j)) ta tb) σ H (nI (a + b)) :=
  ev_is (ev_op ha hb rv_I0) (by show V.int _ = V.int _; rw [Int.natCast_add])
theorem ev_mulN {a b : Nat} (ha : Ev ta σ H (nI a)) (hb : Ev tb σ H (nI b)) (h : a < 100000) : Ev (tOp (rI CMul fun i j => .int (i * j)) ta tb) σ H (nI (a * b)) :=
  ev_is (ev_op ha hb (rv_I (.inl ⟨by omega, by omega⟩))) (by show V.int _ = V.int _; rw [Int.natCast_mul])
theorem et_eqN {a b : Nat} (ha : Ev ta σ H (nI a)) (hb : Ev tb σ H (nI b)) : EvT (tTest (tOp rEq ta tb)) σ H (decide (a = b)) := et_test (ev_eq ha hb rfl (by rw [dec_int]; congr 1; exact propext Int.ofNat_inj))
theorem et_ltN {a b : Nat} (ha : Ev ta σ H (nI a)) (hb : Ev tb σ H (nI b)) : EvT (tTest (tOp (rI0 fun i j => .bl (decide (i < j))) ta tb)) σ H (decide (a < b)) := et_is (et_test (ev_op ha hb rv_I0)) (by congr 1; exact propext Int.ofNat_lt)
/-- a walk over a list of numbers -/
theorem getD_lt {l : List Nat} {b i : Nat} (h : ∀ x ∈ l, x < b) (hb : 0 < b) : l.getD i 0 < b := by
  by_cases hi : i < l.length
  · exact h _ (getD_mem hi)
  · rw [List.getD_eq_getElem?_getD, List.getElem?_eq_none (by omega)]; exact hb
end
/-- a new list of so many numbers below b -/
def RetN (m b : Nat) (H : Hp) (Q : VK) : Prop := ∀ (ns : List Nat) (p : Addr) (H' : Hp), ns.length = m → (∀ x ∈ ns, x < b) → H p = none → Ex H H' → H' p = some (.lst (ns.map nI)) → Q (.ref p) H'
end K94

/-! K94Pool -/
/-! Lists of formulas. -/
namespace K94
open PySem PySem.Spec PyProof.Rows L2 Evl
section
variable {K : PySem.W.Frag} {H H' : Hp} {σ : L2.St} {te ta tb : TE} {v : V}
/-- evaluates to a thing of tuples that reads as d -/
def EvF (K : PySem.W.Frag) (te : TE) (σ : L2.St) (H : Hp) (d : PyData) : Prop := ∀ H1, Ex H H1 → ∀ Q : VK, (∀ v H2, Ex H1 H2 → Dp K (tps H2) v d → Q v H2) → te σ H1 Q
def EvFs (K : PySem.W.Frag) (ta : TA) (σ : L2.St) (H : Hp) (ds : List PyData) : Prop := ∀ H1, Ex H H1 → ∀ Q : List V → Hp → Prop, (∀ vs H2, Ex H1 H2 → DpAll K (tps H2) vs ds → Q vs H2) → ta σ H1 Q
theorem ef_ev {d : PyData} (h : Ev te σ H v) (hd : Dp K (tps H) v d) : EvF K te σ H d := fun H1 e _ q => h H1 e _ fun H2 e2 => q v H2 e2 (dp_ex (tps_mono (e.trans e2)) _ _ hd)
theorem ef_str {x : Str} : EvF K (tC (.str x)) σ H (.str x) := ef_ev ev_c (.str x)
theorem ef_int {x : Int} : EvF K (tC (.int x)) σ H (.int x) := ef_ev ev_c (.int x)
theorem efs_nil : EvFs K tNil σ H [] := fun H1 _ _ q => q [] H1 (Ex.refl _) .nil
theorem efs_cons {tr : TA} {d : PyData} {ds : List PyData} (h : EvF K te σ H d) (hr : EvFs K tr σ H ds) : EvFs K (tCons te tr) σ H (d :: ds) := fun H1 e _ q =>
  h H1 e _ fun v H2 e2 hv => hr H2 (e.trans e2) _ fun vs H3 e3 hvs => q _ H3 (e2.trans e3) (.cons (dp_ex (tps_mono e3) _ _ hv) hvs)
theorem ef_tup {ta : TA} {ds : List PyData} (h : EvFs K ta σ H ds) (hl : ds.length ≤ 1000) : EvF K (tTup ta) σ H (.tuple ds) := fun H1 e _ q =>
  h H1 e _ fun vs H2 e2 hvs => ⟨sz_of (by rw [DpAll.length hvs]; omega), fun p hp => q _ _ (e2.trans (Ex.new hp)) (.tup (st_tps upd_same) (dpAll_ex (tps_new hp) _ _ hvs))⟩
/-- a list of formulas -/
def PoolAt (K : PySem.W.Frag) (H : Hp) (l : Addr) (fs : List Form) : Prop := ∃ vs : List V, H l = some (.lst vs) ∧ DpAll K (tps H) vs (fs.map Form.data)
theorem PoolAt.mono {l : Addr} {fs : List Form} (e : Ex H H') (h : PoolAt K H l fs) : PoolAt K H' l fs := by
  obtain ⟨vs, h1, h2⟩ := h
  exact ⟨vs, e _ _ h1, dpAll_ex (tps_mono e) _ _ h2⟩
theorem dpAll_get {H : Hp} : ∀ {ds : List PyData} {vs : List V} {i : Nat} {d : PyData}, DpAll K H vs ds → ds[i]? = some d → ∃ v, vs[i]? = some v ∧ Dp K H v d := by
  intro ds
  induction ds with
  | nil => intro vs i d _ h; cases h
  | cons d0 r ih =>
    intro vs i d a h
    cases a with
    | cons a t => cases i with
      | zero => cases h; exact ⟨_, rfl, a⟩
      | succ i => exact ih (i := i) t h
theorem PoolAt.get {l : Addr} {fs : List Form} (h : PoolAt K H l fs) {i : Nat} (hi : i < fs.length) : ∃ v, FormAt K H v (fs.getD i .tt) ∧ ∀ {σ : L2.St} {ta tb : TE}, Ev ta σ H (.ref l) → Ev tb σ H (nI i) → Ev (tOp (rIxL K) ta tb) σ H v := by
  obtain ⟨vs, h1, h2⟩ := h
  obtain ⟨v, q1, q2⟩ := dpAll_get (i := i) (d := (fs.getD i .tt).data) h2 (by rw [List.getElem?_map, List.getD_eq_getElem?_getD, List.getElem?_eq_getElem hi]; rfl)
  exact ⟨v, q2, fun ha hb => ev_op ha hb (rv_ixL (sq_of h1) (at_of rfl q1))⟩
theorem PoolAt.len {l : Addr} {fs : List Form} (h : PoolAt K H l fs) (ha : Ev ta σ H (.ref l)) : Ev (tCB (rLenS K) (tCons ta tNil)) σ H (nI fs.length) := by
  obtain ⟨vs, h1, h2⟩ := h
  have q := ev_len (K := K) ha (sq_of h1)
  rw [DpAll.length h2, List.length_map] at q
  exact q
theorem FactG.at {l : Addr} {es : List Bool} (h : FactG K H l es) : ∃ vs : List V, SqL K H l (vs.map fun x => x) ∧ vs.length = es.length ∧ ∀ i, i < es.length → FormAt K H (vs.getD i .non) (.cmp (es.getD i false)) := by
  obtain ⟨vs, h1, h2⟩ := h
  refine ⟨vs, by rw [show (fun x : V => x) = id from rfl, List.map_id]; exact sq_of h1, by rw [DpAll.length h2, List.length_map], fun i hi => ?_⟩
  obtain ⟨v, q1, q2⟩ := dpAll_get (i := i) (d := (Form.cmp (es.getD i false)).data) h2 (by rw [List.getElem?_map, List.getD_eq_getElem?_getD, List.getElem?_eq_getElem hi]; rfl)
  rw [List.getD_eq_getElem?_getD, q1]
  exact q2
def leaves : List Form := [.cmp true, .cmp false, .tt, .ff]
end
end K94

/-! K94Shape -/
/-! Answers of which only the shape is told. -/
namespace K94
open PySem PySem.Spec PyProof.Rows L2 Evl
section
variable {K : PySem.W.Frag} {H H' : Hp} {σ : L2.St} {te ta tb : TE} {v : V}
/-- evaluates to a list of these -/
def EvS (K : PySem.W.Frag) (te : TE) (σ : L2.St) (H : Hp) (xs : List V) : Prop := ∀ H1, Ex H H1 → ∀ Q : VK, (∀ p H2, Ex H1 H2 → SqL K H2 p xs → Q (.ref p) H2) → te σ H1 Q
theorem es_new {xs : List V} (h : EvL te σ H xs) : EvS K te σ H xs := fun H1 e Q q => h H1 e Q fun p H2 _ e2 h2 => q p H2 e2 (sq_of h2)
theorem es_old {xs : List V} {p : Addr} (h : Ev te σ H (.ref p)) (hp : SqL K H p xs) : EvS K te σ H xs := fun H1 e Q q => h H1 e Q fun H2 e2 => q p H2 e2 (ex_l (e.trans e2) hp)
theorem flat_one {v : V} : ∀ n : Nat, (List.replicate n [v]).flatten = List.replicate n v
  | 0 => rfl
  | n + 1 => by rw [List.replicate_succ, List.flatten_cons, flat_one n]; rfl
theorem el_mul {n : Nat} (ha : EvL ta σ H [v]) (hb : Ev tb σ H (nI n)) (hn : n ≤ 1000) : EvL (tOp rRep ta tb) σ H (List.replicate n v) := fun H1 e Q q =>
  ha H1 e _ fun p H2 _ e2 h2 => hb H2 (e.trans e2) _ fun H3 e3 => ⟨p, (n : Int), [v], rfl, rfl, e3 _ _ h2, by omega, by omega, sz_of (by show 1 * _ ≤ _; omega), fun p2 np2 => by
    show Q (.ref p2) (upd H3 p2 (.lst (List.replicate (n : Int).toNat [v]).flatten))
    rw [flat_one]
    exact q p2 _ (fresh_back (e2.trans e3) np2) ((e2.trans e3).trans (Ex.new np2)) upd_same⟩
theorem rep_map {α : Type} {f : α → V} {x : α} {n : Nat} : List.replicate n (f x) = (List.replicate n x).map f := by rw [List.map_replicate]
theorem et_yes : EvT tYes σ H true := fun H1 _ _ q => q H1 (Ex.refl _)
/-- a letter of a word -/
theorem ev_ch (w : Wd) {i : Nat} (hi : i < 2) (c : Str) : ∃ b, ∀ {σ : L2.St} {H : Hp} {ta : TE}, Ev ta σ H (.str w.s) → Ev (tOp rEq (tOp rIxS ta (tC (.int (i : Int)))) (tC (.str c))) σ H (.bl b) := by
  have hl : w.s.length ≤ 100000 := by cases w <;> decide +kernel
  have hz : ∃ z, atI w.s.cps.toList (i : Int) = some z := by
    have : i = 0 ∨ i = 1 := by omega
    rcases this with rfl | rfl <;> cases w <;> exact ⟨_, rfl⟩
  obtain ⟨z, hz⟩ := hz
  exact ⟨_, fun h => ev_eq (ev_op h ev_c (rv_ixS hl hz)) ev_c rfl rfl⟩
end
/-- a pair of lists: so many truths, so many ranks, the ranks' list of a kind -/
def PairAt (K : PySem.W.Frag) (n : Nat) (A : Addr → Prop) (H : Hp) (p : Addr) : Prop := ∃ (bs : List Bool) (zs : List Int) (x y : Addr), bs.length = n ∧ zs.length = n ∧ SqT K H p [.ref x, .ref y] ∧ SqL K H x (bs.map V.bl) ∧ SqL K H y (zs.map V.int) ∧ A y
theorem PairAt.mono {K : PySem.W.Frag} {n : Nat} {A : Addr → Prop} {H H' : Hp} {p : Addr} (e : Ex H H') (h : PairAt K n A H p) : PairAt K n A H' p := by
  obtain ⟨bs, zs, x, y, h1, h2, h3, h4, h5, h6⟩ := h
  exact ⟨bs, zs, x, y, h1, h2, ex_t e h3, ex_l e h4, ex_l e h5, h6⟩
theorem PairAt.imp {K : PySem.W.Frag} {n : Nat} {A B : Addr → Prop} {H : Hp} {p : Addr} (h : PairAt K n A H p) (k : ∀ y, A y → B y) : PairAt K n B H p := by
  obtain ⟨bs, zs, x, y, h1, h2, h3, h4, h5, h6⟩ := h
  exact ⟨bs, zs, x, y, h1, h2, h3, h4, h5, k _ h6⟩
def RetPr (K : PySem.W.Frag) (n : Nat) (A : Addr → Prop) (H : Hp) (Q : VK) : Prop := ∀ p H', Ex H H' → PairAt K n A H' p → Q (.ref p) H'
theorem s_pairN {K : PySem.W.Frag} {n : Nat} {A : Addr → Prop} {H H1 : Hp} {Q : VK} {D : Ends} {σ : L2.St} {ta tb : TE} {bs : List Bool} {zs : List Int} (q : RetPr K n A H Q) (e : Ex H H1) (hA : ∀ y, H y = none → A y) (h1 : EvS K ta σ H1 (bs.map V.bl)) (h2 : EvL tb σ H1 (zs.map V.int)) (l1 : bs.length = n) (l2 : zs.length = n) (hD : D.rt = Q) : tRet (tTup (tCons ta (tCons tb tNil))) D σ H1 :=
  s_retTup (h1 H1 (Ex.refl _) _ fun x H2 e2 hx => h2 H2 e2 _ fun y H3 ny e3 hy => ⟨sz_of (by show 2 ≤ 100000; decide), fun p np => by
    rw [hD]
    have en : Ex H3 (upd H3 p (.tup [.ref x, .ref y])) := Ex.new np
    exact q p _ (((e.trans e2).trans e3).trans en) ⟨bs, zs, x, y, l1, l2, st_of upd_same, ex_l (e3.trans en) hx, sq_of (en _ _ hy), hA _ (fresh_back (e.trans e2) ny)⟩⟩)
theorem s_pairO {K : PySem.W.Frag} {n : Nat} {A : Addr → Prop} {H H1 : Hp} {Q : VK} {D : Ends} {σ : L2.St} {ta tb : TE} {bs : List Bool} {zs : List Int} {y : Addr} (q : RetPr K n A H Q) (e : Ex H H1) (h1 : EvS K ta σ H1 (bs.map V.bl)) (h2 : Ev tb σ H1 (.ref y)) (hy : SqL K H1 y (zs.map V.int)) (hA : A y) (l1 : bs.length = n) (l2 : zs.length = n) (hD : D.rt = Q) : tRet (tTup (tCons ta (tCons tb tNil))) D σ H1 :=
  s_retTup (h1 H1 (Ex.refl _) _ fun x H2 e2 hx => h2 H2 e2 _ fun H3 e3 => ⟨sz_of (by show 2 ≤ 100000; decide), fun p np => by
    rw [hD]
    have en : Ex H3 (upd H3 p (.tup [.ref x, .ref y])) := Ex.new np
    exact q p _ (((e.trans e2).trans e3).trans en) ⟨bs, zs, x, y, l1, l2, st_of upd_same, ex_l (e3.trans en) hx, ex_l ((e2.trans e3).trans en) hy, hA⟩⟩)
theorem st_updL {K : PySem.W.Frag} {H : Hp} {p l : Addr} {xs ys zs : List V} (h : SqT K H p xs) (hl : H l = some (.lst ys)) : SqT K (upd H l (.lst zs)) p xs := by
  rcases h with (h | ⟨o, h⟩) | h
  · exact .inl (.inl (by rw [upd_ne (fun z => by rw [z, hl] at h; cases h)]; exact h))
  · exact .inl (.inr ⟨o, by rw [upd_ne (fun z => by rw [z, hl] at h; cases h)]; exact h⟩)
  · exact .inr h
theorem sl_upd {K : PySem.W.Frag} {H : Hp} {p l : Addr} {xs : List V} {o : HO} (h : SqL K H p xs) (hne : p ≠ l) : SqL K (upd H l o) p xs := by
  rcases h with (h | ⟨o, h⟩) | h
  · exact .inl (.inl (by rw [upd_ne hne]; exact h))
  · exact .inl (.inr ⟨o, by rw [upd_ne hne]; exact h⟩)
  · exact .inr h
theorem RowOk.left {nf i : Nat} {r : Row} (h : RowOk nf i r) (h1 : ¬ r.w = .fact) (h2 : 0 ≤ r.l) : ∃ l : Nat, r.l = (l : Int) ∧ l < i := by
  rcases h with ⟨_, _, ⟨_, o⟩ | ⟨o, _⟩⟩ | ⟨_, _, l, o4, o5⟩ | ⟨_, l, m, o4, o5, _⟩
  · omega
  · exact absurd o h1
  · exact ⟨l, o4, o5⟩
  · exact ⟨l, o4, o5⟩
theorem RowOk.right {nf i : Nat} {r : Row} (h : RowOk nf i r) (h2 : 0 ≤ r.r) : ∃ l : Nat, r.r = (l : Int) ∧ l < i := by
  rcases h with ⟨_, o, _⟩ | ⟨_, o, _⟩ | ⟨_, l, m, _, _, o4, o5⟩
  · omega
  · omega
  · exact ⟨m, o4, o5⟩
theorem RowOk.fct {nf i : Nat} {r : Row} (h : RowOk nf i r) (h1 : r.w = .fact) : ∃ l : Nat, r.l = (l : Int) ∧ l < nf := by
  rcases h with ⟨_, _, ⟨o, _⟩ | ⟨_, l, o4, o5⟩⟩ | ⟨o, _⟩ | ⟨o, _⟩
  · exact absurd h1 o
  · exact ⟨l, o4, o5⟩
  · rw [h1] at o; cases o
  · rw [h1] at o; cases o
end K94

/-! K94Book -/
/-! The book of rows. -/
namespace K94
open PySem PySem.Spec PyProof.Rows L2 Evl
def key (r : Row) : List L2.Key := [.inr r.w.s, .inl r.l, .inl r.r]
theorem key_vs (r : Row) : (key r).map kV = r.vs := rfl
theorem key_inj {a b : Row} (h : key a = key b) : a = b := by
  obtain ⟨w, l, r⟩ := a
  obtain ⟨w', l', r'⟩ := b
  simp only [key, List.cons.injEq, Sum.inr.injEq, Sum.inl.injEq, and_true] at h
  obtain ⟨h1, h2, h3⟩ := h
  rw [Wd.s_inj h1, h2, h3]
def kvs : Nat → List Row → List (List L2.Key × V)
  | _, [] => []
  | n, r :: t => (key r, nI n) :: kvs (n + 1) t
theorem kvs_len : ∀ (rs : List Row) (n : Nat), (kvs n rs).length = rs.length
  | [], _ => rfl
  | _ :: t, n => congrArg Nat.succ (kvs_len t (n + 1))
theorem kvs_snoc (r : Row) : ∀ (rs : List Row) (n : Nat), kvs n (rs ++ [r]) = kvs n rs ++ [(key r, nI (n + rs.length))]
  | [], n => rfl
  | a :: t, n => by
    show (key a, nI n) :: kvs (n + 1) (t ++ [r]) = (key a, nI n) :: (kvs (n + 1) t ++ [(key r, nI (n + (t.length + 1)))])
    rw [kvs_snoc r t (n + 1), show n + 1 + t.length = n + (t.length + 1) by omega]
theorem kvs_val (r : Row) : ∀ (rs : List Row) (n : Nat), valV (kvs n rs) (key r) = if r ∈ rs then some (nI (n + rs.idxOf r)) else none
  | [], n => rfl
  | a :: t, n => by
    by_cases h : a = r
    · subst h
      rw [if_pos List.mem_cons_self, List.idxOf_cons_self]
      exact valV_pos rfl
    · have h1 : valV (kvs n (a :: t)) (key r) = valV (kvs (n + 1) t) (key r) := valV_neg fun z => h (key_inj z)
      rw [h1, kvs_val r t (n + 1)]
      by_cases hm : r ∈ t
      · rw [if_pos hm, if_pos (List.mem_cons_of_mem _ hm), List.idxOf_cons, beq_eq_false_iff_ne.mpr h, cond_false, show n + 1 + t.idxOf r = n + (t.idxOf r + 1) by omega]
      · rw [if_neg hm, if_neg (fun z => by rcases List.mem_cons.mp z with z | z <;> first | exact h z.symm | exact hm z)]
theorem kvs_put {rs : List Row} {r : Row} (h : r ∉ rs) : putK (kvs 0 rs) (key r) (nI rs.length) = kvs 0 (rs ++ [r]) := by
  rw [putK_new _ (by rw [kvs_val, if_neg h]), kvs_snoc, Nat.zero_add]
abbrev hid3 (H : Hp) (a b c : Addr) : Hp := hid (hid2 H a b) c
theorem hid3_ex {H : Hp} {a b c : Addr} : Ex (hid3 H a b c) H := hid_ex.trans hid2_ex
theorem hid3_mono {H H' : Hp} {a b c : Addr} (e : Ex H H') : Ex (hid3 H a b c) (hid3 H' a b c) := hid_mono (hid2_mono e)
theorem hid3_c {H : Hp} {a b c : Addr} : hid3 H a b c c = none := hid_none
theorem hid_keep {H : Hp} {l p : Addr} (h : H p = none) : hid H l p = none := by
  by_cases e : p = l
  · rw [e, hid_none]
  · rw [hid_ne e, h]
theorem hid3_a {H : Hp} {a b c : Addr} : hid3 H a b c a = none := hid_keep hid2_a
theorem hid3_b {H : Hp} {a b c : Addr} : hid3 H a b c b = none := hid_keep hid_none
theorem hid3_idem {H J : Hp} {a b c : Addr} (e : Ex (hid3 H a b c) J) : Ex (hid3 H a b c) (hid3 J a b c) := hid_of (hid_of (hid_of e hid3_a) hid3_b) hid3_c
theorem tps_hid3 {H H' : Hp} {a b c : Addr} (ha : ∀ xs, H a ≠ some (.tup xs)) (hb : ∀ xs, H b ≠ some (.tup xs)) (hc : ∀ xs, H c ≠ some (.tup xs)) (e : Ex (hid3 H a b c) H') : Ex (tps H) (tps H') := tps_sub fun p zs q => e _ _ (by
  show hid (hid (hid H a) b) c p = _
  rw [hid_ne (fun z => hc zs (by rw [← z]; exact q)), hid_ne (fun z => hb zs (by rw [← z]; exact q)), hid_ne (fun z => ha zs (by rw [← z]; exact q))]
  exact q)
/-- the book at x -/
structure BookX (K : PySem.W.Frag) (H : Hp) (x dx fa ra na : Addr) (b : Bk) : Prop where
  x : H x = some (.ins (cB K) dx [("facts", .ref fa), ("rows", .ref ra), ("_numbers", .ref na)])
  f : FactG K H fa b.facts
  r : RowG K H ra b.rows
  n : H na = some (.dT (kvs 0 b.rows))
  ne : fa ≠ ra
section
variable {K : PySem.W.Frag} {H H' : Hp} {x dx fa ra na : Addr} {b : Bk}
theorem BookX.ex (h : BookX K H x dx fa ra na b) (e : Ex H H') : BookX K H' x dx fa ra na b := ⟨e _ _ h.x, h.f.ex e, h.r.ex e, e _ _ h.n, h.ne⟩
theorem BookX.tps (h : BookX K H x dx fa ra na b) (e : Ex (hid3 H fa ra na) H') : Ex (tps H) (tps H') := by
  obtain ⟨v1, l1, _⟩ := h.f.lst
  obtain ⟨v2, l2, _⟩ := h.r.lst
  exact tps_hid3 (fun xs z => by rw [l1] at z; cases z) (fun xs z => by rw [l2] at z; cases z) (fun xs z => by rw [h.n] at z; cases z) e
section
variable {σ : L2.St} {td ty tv : TE} {a p : Addr} {kv : List (List L2.Key × V)} {k : List L2.Key} {v : V} {D : Ends} {tz : TS}
theorem ev_dnotin (hy : Ev ty σ H (.ref p)) (hd : Ev td σ H (.ref a)) (ha : H a = some (.dT kv)) (hp : H p = some (.tup (k.map kV))) : Ev (tDNotIn ty td) σ H (.bl (!(valV kv k).isSome)) := fun H1 e Q q =>
  hy H1 e _ fun H2 e2 => hd H2 (e.trans e2) _ fun H3 e3 => ⟨a, _, rfl, .t (((e.trans e2).trans e3) _ _ ha) (((e.trans e2).trans e3) _ _ hp), q H3 (e2.trans e3)⟩
theorem ev_dget (hd : Ev td σ H (.ref a)) (hy : Ev ty σ H (.ref p)) (ha : H a = some (.dT kv)) (hp : H p = some (.tup (k.map kV))) (hv : valV kv k = some v) : Ev (tDGet td ty) σ H v := fun H1 e Q q =>
  hd H1 e _ fun H2 e2 => hy H2 (e.trans e2) _ fun H3 e3 => ⟨a, v, rfl, by rw [← hv]; exact .t (((e.trans e2).trans e3) _ _ ha) (((e.trans e2).trans e3) _ _ hp), q H3 (e2.trans e3)⟩
theorem q_dput (hv : Ev tv σ H v) (hd : Ev td σ H (.ref a)) (hy : Ev ty σ H (.ref p)) (ha : H a = some (.dT kv)) (hp : H p = some (.tup (k.map kV))) (hl : kv.length < 100000) (z : ∀ H1, Ex H H1 → tz D σ (upd H1 a (.dT (putK kv k v)))) : tSeq (sDPut td ty tv) tz D σ H :=
  hv H (Ex.refl _) _ fun H1 e1 => hd H1 e1 _ fun H2 e2 => hy H2 (e1.trans e2) _ fun H3 e3 => ⟨a, _, rfl, .t (((e1.trans e2).trans e3) _ _ ha) (((e1.trans e2).trans e3) _ _ hp) (sz_lt hl), z H3 ((e1.trans e2).trans e3)⟩
end
end
theorem ex_meth {C x dx : Addr} {m : Str} {sp : Sp} {dvs : List V} {E : XK} {ta : TE} {t : TA} {σ : L2.St} {H : Hp} {fs : List (Str × V)} {Q : VK} (ha : Ev ta σ H (.ref x)) (hx : H x = some (.ins C dx fs)) (hl : fs.lookup m = none) (h : ∀ H1, Ex H H1 → t σ H1 fun vs H2 => sp (.ref x :: (vs ++ dvs)) H2 Q E) : tMeth C m sp dvs E ta t σ H Q :=
  ha H (Ex.refl _) _ fun H1 e1 => ⟨x, dx, fs, rfl, e1 _ _ hx, hl, h H1 e1⟩
theorem cmpW_ne (e : Bool) (w : Wd) : decide (V.str (cmpW e) = V.str w.s) = false := by cases e <;> cases w <;> decide +kernel
/-- o.f = {} -/
theorem s_fldD {x C dx : Addr} {fs : List (Str × V)} {f : Str} {K : PySem.W.Frag} {ta : TE} {D : Ends} {σ : L2.St} {H : Hp} (hx : ∀ H1, Ex H H1 → Ev ta σ H1 (.ref x)) (hH : H x = some (.ins C dx fs)) (c : Cls K C) (n : NoAttr K C f) (hl : fs.length < 1000) (k : ∀ p H2, H p = none → Ex H H2 → H2 p = some (.dT []) → D.nx σ (upd H2 x (.ins C dx (putF f (.ref p) fs)))) : sFld K ta tDNewT f D σ H :=
  fun p np => hx _ (Ex.new np) _ (Ex.refl _) _ fun H2 e2 => ⟨x, C, dx, fs, rfl, e2 _ _ ((Ex.new np) _ _ hH), c, n, hl, k p H2 np ((Ex.new np).trans e2) (e2 _ _ upd_same)⟩
theorem putF3 {f g h : Str} (x y z : V) (h1 : (f == g) = false) (h2 : (f == h) = false) (h3 : (g == h) = false) : putF h z (putF g y (putF f x [])) = [(f, x), (g, y), (h, z)] := by
  have n1 : ¬ f = g := fun e => by rw [e] at h1; simp at h1
  have n2 : ¬ f = h := fun e => by rw [e] at h2; simp at h2
  have n3 : ¬ g = h := fun e => by rw [e] at h3; simp at h3
  have a1 : putF f x [] = [(f, x)] := rfl
  have a2 : putF g y [(f, x)] = [(f, x), (g, y)] := by
    show (if f = g then (f, y) :: [] else (f, x) :: putF g y []) = _
    rw [if_neg n1]; rfl
  have a3 : putF h z [(f, x), (g, y)] = [(f, x), (g, y), (h, z)] := by
    show (if f = h then (f, z) :: [(g, y)] else (f, x) :: putF h z [(g, y)]) = _
    rw [if_neg n2]
    show (f, x) :: (if g = h then (g, z) :: [] else (g, y) :: putF h z []) = _
    rw [if_neg n3]; rfl
  rw [a1, a2, a3]
/-- a Rows object with its facts -/
def RowsF (K : PySem.W.Frag) (H : Hp) (x : Addr) (es : List Bool) (rs : List Row) : Prop := ∃ dx fa ra ta, H x = some (.ins (cR K) dx [("facts", .ref fa), ("rows", .ref ra), ("temporal", .ref ta)]) ∧ FactG K H fa es ∧ RowL K H ra rs ∧ SqL K H ta ((temporals rs).map nI)
theorem RowsF.at {K : PySem.W.Frag} {H : Hp} {x : Addr} {es : List Bool} {rs : List Row} (h : RowsF K H x es rs) : RowsAt K H x rs := by
  obtain ⟨dx, fa, ra, ta, h1, _, h3, h4⟩ := h
  exact ⟨dx, fa, ra, ta, h1, h3, h4⟩
theorem RowsF.mono {K : PySem.W.Frag} {H H' : Hp} {x : Addr} {es : List Bool} {rs : List Row} (e : Ex H H') (h : RowsF K H x es rs) : RowsF K H' x es rs := by
  obtain ⟨dx, fa, ra, ta, h1, h2, h3, h4⟩ := h
  exact ⟨dx, fa, ra, ta, e _ _ h1, h2.ex e, h3.mono e, ex_l e h4⟩
theorem in_PLAIN (w : Wd) : inV (.str w.s) [.str "true", .str "false", .str "fact", .str "not", .str "and", .str "or", .str "implies", .str "same"] = (w.leaf || w.plain) := by cases w <;> decide +kernel
end K94

/-! D_next_truth -/
namespace K94
open PySem PySem.Spec PyProof.Rows L2 Evl
def sp_next_truth (K : PySem.W.Frag) : Sp := fun vs H Q _ => ∃ (w : Wd) (a b : Addr) (ts : List Bool) (row : List Nat), vs = [.str w.s, .ref a, .ref b] ∧ SqL K H a (ts.map V.bl) ∧ SqL K H b (row.map nI) ∧ (∀ t ∈ row, t < ts.length) ∧ row.length ≤ 1000 ∧ RetV (.bl (nextT w ts row)) H Q
section
variable {P : Program} {w : World} {K : PySem.W.Frag} {mg : Str → Option Value} {base : Heap}
theorem ok_next_truth (T : Txt w K mg) : Ok P w K mg base 1 ("next_truth", none) ["word", "truths", "targets"] (sp_next_truth K) := by
  obtain ⟨fd, F⟩ := T.def_ 9 _ rfl
  have S : FnScope ["word", "truths", "targets", "target"] ["word", "truths", "targets"] (defScope (top 12)) := ⟨rfl, rfl, rfl, by decide +kernel, rfl, by decide +kernel, by decide +kernel⟩
  refine ⟨fd, F.ok S (fun vs H Q E h => ?_) (fun cdv A outer s H vs Q E hr h => ?_), F.bindsN fun _ _ _ _ _ _ us hl => match us, hl with | [_, _, _], _ => rfl, F.kp⟩
  · obtain ⟨_, _, _, _, _, rfl, _⟩ := h
    rfl
  · have hu := hu_of hr
    have hu64 := hr.units
    have hu65 := hu65_of hr
    refine ⟨_, PSs.nox (pss_cons (ps_if (pt_cmpR op_eq (pv 0) pe_str (nomark _)) (pss_one (ps_ret (pe_callB (cAny (K := K)) rfl (T.f 47) (by decide +kernel) (pa_cons (pe_lc rfl S.nd  (piList (K := K) (pv 2)) (blkOk_by (own := [("target", 3)]) (by kernel_rfl)) (fun _ _ _ _ _ => (pg_name (i := 3) S.nd rfl (Or.inl rfl))) (fun _ _ _ _ _ => pts_nil) (fun _ _ _ _ _ => (pe_ix (ixL (K := K)) (pv 1) (pv 3) (fun _ _ => rfl)))) pa_nil)))) pss_nil)
      (pss_one (ps_ret (pe_callB (cAll (K := K)) rfl (T.f 48) (by decide +kernel) (pa_cons (pe_lc rfl S.nd  (piList (K := K) (pv 2)) (blkOk_by (own := [("target", 3)]) (by kernel_rfl)) (fun _ _ _ _ _ => (pg_name (i := 3) S.nd rfl (Or.inl rfl))) (fun _ _ _ _ _ => pts_nil) (fun _ _ _ _ _ => (pe_ix (ixL (K := K)) (pv 1) (pv 3) (fun _ _ => rfl)))) pa_nil))))), ?_⟩
    obtain ⟨w, a, b, ts, row, rfl, ha, hb, hr', hz, q⟩ := h
    have comp : ∀ {te : TE}, (∀ i, i < row.length → Ev te [some (.str w.s), some (.ref a), some (.ref b), some (nI (row.getD i 0))] H (.bl (ts.getD (row.getD i 0) false))) →
        EvL (tLc (iList K (tVar 2)) (gName 3) tYes te [3]) (start ["word", "truths", "targets", "target"] [.str w.s, .ref a, .ref b]) H ((row.map fun t => ts.getD t false).map V.bl) := fun he =>
      el_is (el_map 0 (fun t => V.bl (ts.getD t false)) (ev_var rfl) hb (by omega) (fun _ => rfl) he) (List.map_map (f := fun t => ts.getD t false) (g := V.bl)).symm
    have item : ∀ i, i < row.length → Ev (tOp (rIxL K) (tVar 1) (tVar 3)) [some (.str w.s), some (.ref a), some (.ref b), some (nI (row.getD i 0))] H (.bl (ts.getD (row.getD i 0) false)) := fun i hi =>
      ev_ixM false (ev_var rfl) (ev_var rfl) ha (hr' _ (getD_mem hi))
    refine q_when (et_test (ev_eq (ev_var rfl) ev_c rfl (dec_wd (b := .ex)))) (fun c H1 e1 => ?_) (fun c1 H1 e1 => ?_)
    · have e : nextT w ts row = (row.map fun t => ts.getD t false).any id := by
        unfold nextT
        rw [if_pos (of_decide_eq_true c), List.any_map]
        rfl
      rw [e] at q
      exact s_ret (Ev.mono e1 (ev_anyN (comp item))) fun H2 e2 => q _ (e1.trans e2)
    · have e : nextT w ts row = (row.map fun t => ts.getD t false).all id := by
        unfold nextT
        rw [if_neg (of_decide_eq_false c1), List.all_map]
        rfl
      rw [e] at q
      exact s_ret (Ev.mono e1 (ev_allN (comp item))) fun H2 e2 => q _ (e1.trans e2)
end
end K94

/-! D_plain_truth -/
namespace K94
open PySem PySem.Spec PyProof.Rows L2 Evl
def sp_plain_truth (K : PySem.W.Frag) : Sp := fun vs H Q _ => ∃ (w : Wd) (a b : Bool), vs = [.str w.s, .bl a, .bl b] ∧ RetV (.bl (plainT w a b)) H Q
section
variable {P : Program} {w : World} {K : PySem.W.Frag} {mg : Str → Option Value} {base : Heap}
theorem ok_plain_truth (T : Txt w K mg) : Ok P w K mg base 1 ("plain_truth", none) ["word", "first", "second"] (sp_plain_truth K) := by
  obtain ⟨fd, F⟩ := T.def_ 8 _ rfl
  have S : FnScope ["word", "first", "second"] ["word", "first", "second"] (defScope (top 11)) := ⟨rfl, rfl, rfl, by decide +kernel, rfl, by decide +kernel, by decide +kernel⟩
  refine ⟨fd, F.ok S (fun vs H Q E h => ?_) (fun cdv A outer s H vs Q E hr h => ?_), F.bindsN fun _ _ _ _ _ _ us hl => match us, hl with | [_, _, _], _ => rfl, F.kp⟩
  · obtain ⟨_, _, _, rfl, _⟩ := h
    rfl
  · have hu := hu_of hr
    have hu64 := hr.units
    have hu65 := hu65_of hr
    refine ⟨_, PSs.nox (pss_cons (ps_if (pt_cmpR op_eq (pv 0) pe_str (nomark _)) (pss_one (ps_ret (pe_not (pv 1)))) pss_nil)
      (pss_cons (ps_if (pt_cmpR op_eq (pv 0) pe_str (nomark _)) (pss_one (ps_ret (pe_and (pv 1) (pe_one (pv 2))))) pss_nil)
      (pss_cons (ps_if (pt_cmpR op_eq (pv 0) pe_str (nomark _)) (pss_one (ps_ret (pe_or (pv 1) (pe_one (pv 2))))) pss_nil)
      (pss_cons (ps_if (pt_cmpR op_eq (pv 0) pe_str (nomark _)) (pss_one (ps_ret (pe_or (pe_not (pv 1)) (pe_one (pv 2))))) pss_nil)
      (pss_one (ps_ret (pe_cmpR op_eq (pv 1) (pv 2) (nomark _)))))))), ?_⟩
    obtain ⟨w, a, b, rfl, q⟩ := h
    refine q_when (et_test (ev_eq (ev_var rfl) ev_c rfl (dec_wd (b := .not)))) (fun c H1 e1 => ?_) (fun c1 H1 e1 => ?_)
    · cases of_decide_eq_true c
      exact s_ret (ev_notV (ev_var rfl)) fun H2 e2 => q _ (e1.trans e2)
    refine q_when (et_test (ev_eq (ev_var rfl) ev_c rfl (dec_wd (b := .and)))) (fun c H2 e2 => ?_) (fun c2 H2 e2 => ?_)
    · cases of_decide_eq_true c
      exact s_ret (ev_andV (ev_var rfl) fun _ => ev_var rfl) fun H3 e3 => q _ ((e1.trans e2).trans e3)
    refine q_when (et_test (ev_eq (ev_var rfl) ev_c rfl (dec_wd (b := .or)))) (fun c H3 e3 => ?_) (fun c3 H3 e3 => ?_)
    · cases of_decide_eq_true c
      exact s_ret (ev_orV (ev_var rfl) fun _ => ev_var rfl) fun H4 e4 => q _ (((e1.trans e2).trans e3).trans e4)
    refine q_when (et_test (ev_eq (ev_var rfl) ev_c rfl (dec_wd (b := .imp)))) (fun c H4 e4 => ?_) (fun c4 H4 e4 => ?_)
    · cases of_decide_eq_true c
      exact s_ret (ev_orV (ev_notV (ev_var rfl)) fun _ => ev_var rfl) fun H5 e5 => q _ ((((e1.trans e2).trans e3).trans e4).trans e5)
    refine s_ret (ev_eq (ev_var rfl) (ev_var rfl) rfl dec_bl') fun H5 e5 => ?_
    have e : plainT w a b = (a == b) := by
      unfold plainT
      cases w <;> first | rfl | exact absurd rfl (of_decide_eq_false c1) | exact absurd rfl (of_decide_eq_false c2) | exact absurd rfl (of_decide_eq_false c3) | exact absurd rfl (of_decide_eq_false c4)
    rw [← e]
    exact q _ ((((e1.trans e2).trans e3).trans e4).trans e5)
end
end K94

/-! D_plain_row_holds -/
namespace K94
open PySem PySem.Spec PyProof.Rows L2 Evl
def PlainOk (w : Wd) (g : List (List Nat)) (f s tr : List Bool) (R : List Int) (k : Nat) : Prop :=
  (tr.getD k false, R.getD k 0) = ((if w.next = true then nextT w f (g.getD k []) else plainT w (f.getD k false) (s.getD k false)), -1)
def sp_plain_row_holds (K : PySem.W.Frag) : Sp := fun vs H Q _ => ∃ (w : Wd) (a b c d e : Addr) (g : List (List Nat)) (f s tr : List Bool) (R : List Int), vs = [.str w.s, .ref a, .ref b, .ref c, .ref d, .ref e] ∧ Tab K H nI a g ∧
  SqL K H b (f.map V.bl) ∧ SqL K H c (s.map V.bl) ∧ SqL K H d (tr.map V.bl) ∧ SqL K H e (R.map V.int) ∧ Gok g ∧ f.length = g.length ∧ s.length = g.length ∧ tr.length = g.length ∧ R.length = g.length ∧
  RetB (∀ k, k < g.length → PlainOk w g f s tr R k) H Q
section
variable {P : Program} {w : World} {K : PySem.W.Frag} {mg : Str → Option Value} {base : Heap}
theorem ok_plain_row_holds (T : Txt w K mg) : Ok P w K mg base 2 ("plain_row_holds", none) ["word", "after", "first", "second", "truths", "ranks"] (sp_plain_row_holds K) := by
  obtain ⟨fd_next_truth, G_next_truth, b_next_truth, k_next_truth⟩ := ok_next_truth (P := P) (base := base) T
  obtain ⟨fd_plain_truth, G_plain_truth, b_plain_truth, k_plain_truth⟩ := ok_plain_truth (P := P) (base := base) T
  obtain ⟨fd, F⟩ := T.def_ 20 _ rfl
  have S : FnScope ["word", "after", "first", "second", "truths", "ranks", "node", "due"] ["word", "after", "first", "second", "truths", "ranks"] (defScope (top 26)) := ⟨rfl, rfl, rfl, by decide +kernel, rfl, by decide +kernel, by decide +kernel⟩
  refine ⟨fd, F.ok S (fun vs H Q E h => ?_) (fun cdv A outer s H vs Q E hr h => ?_), F.bindsN fun _ _ _ _ _ _ us hl => match us, hl with | [_, _, _, _, _, _], _ => rfl, F.kp⟩
  · obtain ⟨_, _, _, _, _, _, _, _, _, _, _, rfl, _⟩ := h
    rfl
  · have hu := hu_of hr
    have hu64 := hr.units
    have hu65 := hu65_of hr
    refine ⟨_, PSs.nox (pss_cons (ps_for PassesOwn.never rfl (pi_range1 (by rfl) (T.f 52) (pa_cons (pe_callB (cLen (K := K)) rfl (T.f 45) (by decide +kernel) (pa_cons (pv 1) pa_nil)) pa_nil)) (pg_name (i := 6) S.nd rfl (Or.inl rfl)) (pss_cons (ps_if (PW.pt (pw_or (pt_cmpR op_eq (pv 0) pe_str (nomark _)) (pw_or1 (pt_cmpR op_eq (pv 0) pe_str (nomark _))))) (pss_one (ps_set (i := 7) S.nd rfl (Or.inl rfl) (pe_call G_next_truth (hr.mono (by decide)) rfl (T.g 3) k_next_truth b_next_truth .nil pass0 (pa_cons (pv 0) (pa_cons (pv 2) (pa_cons (pe_ix (ixL (K := K)) (pv 1) (pv 6) (fun _ _ => rfl)) pa_nil)))))) (pss_one (ps_set (i := 7) S.nd rfl (Or.inl rfl) (pe_call G_plain_truth (hr.mono (by decide)) rfl (T.g 2) k_plain_truth b_plain_truth .nil pass0 (pa_cons (pv 0) (pa_cons (pe_ix (ixL (K := K)) (pv 2) (pv 6) (fun _ _ => rfl)) (pa_cons (pe_ix (ixL (K := K)) (pv 3) (pv 6) (fun _ _ => rfl)) pa_nil)))))))
      (pss_one (ps_if (PW.pt (pw_or (pt_cmpR op_ne (pe_ix (ixL (K := K)) (pv 4) (pv 6) (fun _ _ => rfl)) (pv 7) (nomark _)) (pw_or1 (pt_cmpR op_ne (pe_ix (ixL (K := K)) (pv 5) (pv 6) (fun _ _ => rfl)) (pe_un un_neg pe_int) (nomark _))))) (pss_one (ps_ret pe_bl)) pss_nil))))
      (pss_one (ps_ret pe_bl))), ?_⟩
    obtain ⟨w, a, b, c, d, e, g, f, s, tr, R, rfl, ha, hb, hc, hd, he, G, lf, ls, lt, lR, q⟩ := h
    have hn := G.len
    refine q_for (Ex.refl H) (wk_range (n := g.length) (ea_cons (ev_lenT (ev_var rfl) ha) ea_nil) (by omega))
      (fun i σ' H' => Ex H H' ∧ (∀ k, k < i → PlainOk w g f s tr R k) ∧ ∃ x y, σ' = [some (.str w.s), some (.ref a), some (.ref b), some (.ref c), some (.ref d), some (.ref e), x, y]) (fun _ _ _ p => p.1)
      (fun H1 e1 => ⟨e1, fun k hk => by omega, none, none, rfl⟩) ?_ ?_
    · rintro i σ' H' hi ⟨e1, pre, x, y, rfl⟩ H1 e2
      have e12 := e1.trans e2
      obtain ⟨p, ep, hp⟩ := ev_tab (H := H) (σ := [some (.str w.s), some (.ref a), some (.ref b), some (.ref c), some (.ref d), some (.ref e), some (nI i), y]) (ta := tVar 1) (tb := tVar 6) (ev_var rfl) (ev_var rfl) ha hi
      have hz := G.rl _ (getD_mem (d := []) hi)
      have ht := G.tg _ (getD_mem (d := []) hi)
      refine q_ifA (b := w.next) (v := .bl (if w.next = true then nextT w f (g.getD i []) else plainT w (f.getD i false) (s.getD i false)))
        (et_is (et_or (et_test (ev_eq (ev_var rfl) ev_c rfl (dec_wd (b := .ex)))) fun _ => et_test (ev_eq (ev_var rfl) ev_c rfl (dec_wd (b := .ax)))) (wd_next w)) (fun hb' => ?_) (fun hb' => ?_) fun H2 e3 => ?_
      · rw [if_pos hb']
        exact Ev.mono e12 (ev_call (ea_cons (ev_var rfl) (ea_cons (ev_var rfl) (ea_cons ep ea_nil))) fun H1 e' Q q E => ⟨w, b, p, f, g.getD i [], rfl, ex_l e' hb, ex_l e' hp, fun t h => by rw [lf]; exact ht t h, by omega, q⟩)
      · rw [if_neg (by rw [hb']; decide)]
        exact Ev.mono e12 (ev_call (ea_cons (ev_var rfl) (ea_cons (ev_ixM false (ev_var rfl) (ev_var rfl) hb (by omega)) (ea_cons (ev_ixM false (ev_var rfl) (ev_var rfl) hc (by omega)) ea_nil))) fun H1 e' Q q E => ⟨w, _, _, rfl, q⟩)
      have e13 := e12.trans e3
      refine s_when (et_or (et_test (ev_ne (Ev.mono e13 (ev_ixM false (ev_var rfl) (ev_var rfl) hd (by omega))) (ev_var rfl) rfl dec_bl)) fun _ =>
        et_test (ev_ne (Ev.mono e13 (ev_ixM 0 (ev_var rfl) (ev_var rfl) he (by omega))) (ev_un ev_c ru_neg) rfl (by rw [dec_int]))) (fun c2 H3 e4 => ?_) (fun c2 H3 e4 => ?_)
      · refine s_ret ev_c fun H4 e5 => q.no (fun z => ?_) ((e13.trans e4).trans e5)
        have z1 := z i hi
        injection z1 with z2 z3
        rw [z2, z3] at c2
        simp at c2
      · refine ⟨e13.trans e4, fun k hk => ?_, _, _, rfl⟩
        by_cases hki : k < i
        · exact pre k hki
        · have ek : k = i := by omega
          subst ek
          obtain ⟨z1, z2⟩ := Bool.or_eq_false_iff.mp c2
          have z3 : R.getD k 0 = -1 := by
            cases h : decide (R.getD k 0 = -1) with
            | true => exact of_decide_eq_true h
            | false => rw [h] at z2; cases z2
          unfold PlainOk
          rw [z3]
          exact congrArg (fun z => (z, (-1 : Int))) (by simpa using z1)
    · rintro σ' H' ⟨e1, all, x, y, rfl⟩
      exact s_ret ev_c fun H2 e2 => q.yes all (e1.trans e2)
end
end K94

/-! D_passes -/
namespace K94
open PySem PySem.Spec PyProof.Rows L2 Evl
def sp_passes (K : PySem.W.Frag) : Sp := fun vs H Q _ => ∃ (w : Wd) (a : Addr) (f : List Bool) (k : Nat), vs = [.str w.s, .ref a, .int (k : Int)] ∧ SqL K H a (f.map V.bl) ∧ k < f.length ∧ RetV (.bl (thW w f k)) H Q
section
variable {P : Program} {w : World} {K : PySem.W.Frag} {mg : Str → Option Value} {base : Heap}
theorem ok_passes (T : Txt w K mg) : Ok P w K mg base 1 ("passes", none) ["word", "first", "node"] (sp_passes K) := by
  obtain ⟨fd, F⟩ := T.def_ 17 _ rfl
  have S : FnScope ["word", "first", "node"] ["word", "first", "node"] (defScope (top 23)) := ⟨rfl, rfl, rfl, by decide +kernel, rfl, by decide +kernel, by decide +kernel⟩
  refine ⟨fd, F.ok S (fun vs H Q E h => ?_) (fun cdv A outer s H vs Q E hr h => ?_), F.bindsN fun _ _ _ _ _ _ us hl => match us, hl with | [_, _, _], _ => rfl, F.kp⟩
  · obtain ⟨_, _, _, _, rfl, _⟩ := h
    rfl
  · have hu := hu_of hr
    have hu64 := hr.units
    have hu65 := hu65_of hr
    refine ⟨_, PSs.nox (pss_one (ps_ret (pe_or (pe_ix (ixL (K := K)) (pv 1) (pv 2) (fun _ _ => rfl)) (pe_one (pe_and (pe_cmpR op_ne (pv 0) pe_str (nomark _)) (pe_one (pe_cmpR op_ne (pv 0) pe_str (nomark _)))))))), ?_⟩
    obtain ⟨w, a, f, k, rfl, ha, hf, q⟩ := h
    have e : thW w f k = (f.getD k false || (!decide (w = .eu) && !decide (w = .au))) := by
      unfold thW
      cases w <;> rfl
    rw [e] at q
    exact s_ret (ev_orV (ev_ixM false (ev_var rfl) (ev_var rfl) ha hf) fun _ => ev_andV (ev_ne (ev_var rfl) ev_c rfl (by rw [← dec_wd (a := w) (b := .eu)]; rfl)) fun _ => ev_ne (ev_var rfl) ev_c rfl (by rw [← dec_wd (a := w) (b := .au)]; rfl)) q
end
end K94

/-! D_is_goal -/
namespace K94
open PySem PySem.Spec PyProof.Rows L2 Evl
theorem in_great (w : Wd) : inV (.str w.s) [.str "ag", .str "eg"] = w.great := by cases w <;> decide +kernel
def sp_is_goal (K : PySem.W.Frag) : Sp := fun vs H Q _ => ∃ (w : Wd) (a b : Addr) (f s : List Bool) (k : Nat), vs = [.str w.s, .ref a, .ref b, .int (k : Int)] ∧ SqL K H a (f.map V.bl) ∧ SqL K H b (s.map V.bl) ∧ k < f.length ∧ k < s.length ∧ RetV (.bl (goW w f s k)) H Q
section
variable {P : Program} {w : World} {K : PySem.W.Frag} {mg : Str → Option Value} {base : Heap}
theorem ok_is_goal (T : Txt w K mg) : Ok P w K mg base 1 ("is_goal", none) ["word", "first", "second", "node"] (sp_is_goal K) := by
  obtain ⟨fd, F⟩ := T.def_ 16 _ rfl
  have S : FnScope ["word", "first", "second", "node"] ["word", "first", "second", "node"] (defScope (top 22)) := ⟨rfl, rfl, rfl, by decide +kernel, rfl, by decide +kernel, by decide +kernel⟩
  refine ⟨fd, F.ok S (fun vs H Q E h => ?_) (fun cdv A outer s H vs Q E hr h => ?_), F.bindsN fun _ _ _ _ _ _ us hl => match us, hl with | [_, _, _, _], _ => rfl, F.kp⟩
  · obtain ⟨_, _, _, _, _, _, rfl, _⟩ := h
    rfl
  · have hu := hu_of hr
    have hu64 := hr.units
    have hu65 := hu65_of hr
    refine ⟨_, PSs.nox (pss_cons (ps_if (pt_cmpR (opIn (K := K)) (pv 0) (pe_glob (v := .ref (He.ga K "GREATEST")) rfl (T.g 44) rfl) (by rfl)) (pss_one (ps_ret (pe_not (pe_ix (ixL (K := K)) (pv 1) (pv 3) (fun _ _ => rfl))))) pss_nil)
      (pss_cons (ps_if (PW.pt (pw_or (pt_cmpR op_eq (pv 0) pe_str (nomark _)) (pw_or1 (pt_cmpR op_eq (pv 0) pe_str (nomark _))))) (pss_one (ps_ret (pe_ix (ixL (K := K)) (pv 1) (pv 3) (fun _ _ => rfl)))) pss_nil)
      (pss_one (ps_ret (pe_ix (ixL (K := K)) (pv 2) (pv 3) (fun _ _ => rfl)))))), ?_⟩
    obtain ⟨w, a, b, f, s, k, rfl, ha, hb, hf, hs, q⟩ := h
    have t1 : Ev (tOp (rIn K false) (tVar 0) (tC (.ref (He.ga K "GREATEST")))) (start ["word", "first", "second", "node"] [.str w.s, .ref a, .ref b, .int (k : Int)]) H (.bl w.great) := by
      rw [← in_great w]
      exact ev_op (ev_var rfl) ev_c (rv_inT (T.greatest H) rfl rfl)
    refine q_when (et_test t1) (fun c H1 e1 => ?_) (fun c1 H1 e1 => ?_)
    · have e : goW w f s k = !f.getD k false := by
        unfold goW
        rw [if_pos c]
      rw [e] at q
      exact s_ret (Ev.mono e1 (ev_notV (ev_ixM false (ev_var rfl) (ev_var rfl) ha hf))) fun H2 e2 => q _ (e1.trans e2)
    have t2 : EvT (tOr (tTest (tOp rEq (tVar 0) (tC (.str Wd.ef.s)))) (tTest (tOp rEq (tVar 0) (tC (.str Wd.af.s))))) (start ["word", "first", "second", "node"] [.str w.s, .ref a, .ref b, .int (k : Int)]) H (w == .ef || w == .af) :=
      et_or (et_test (ev_eq (ev_var rfl) ev_c rfl (dec_wd (b := .ef)))) fun _ => et_test (ev_eq (ev_var rfl) ev_c rfl (dec_wd (b := .af)))
    refine q_when (EvT.mono e1 t2) (fun c H2 e2 => ?_) (fun c2 H2 e2 => ?_)
    · have e : goW w f s k = f.getD k false := by
        unfold goW
        rw [if_neg (by rw [c1]; decide), if_pos c]
      rw [e] at q
      exact s_ret (Ev.mono (e1.trans e2) (ev_ixM false (ev_var rfl) (ev_var rfl) ha hf)) fun H3 e3 => q _ ((e1.trans e2).trans e3)
    · have e : goW w f s k = s.getD k false := by
        unfold goW
        rw [if_neg (by rw [c1]; decide), if_neg (by rw [c2]; decide)]
      rw [e] at q
      exact s_ret (Ev.mono (e1.trans e2) (ev_ixM false (ev_var rfl) (ev_var rfl) hb hs)) fun H3 e3 => q _ ((e1.trans e2).trans e3)
end
end K94

/-! D_due_rank -/
namespace K94
open PySem PySem.Spec PyProof.Rows L2 Evl
theorem in_some (w : Wd) : inV (.str w.s) [.str "ef", .str "eu", .str "ag"] = w.some := by cases w <;> decide +kernel
def sp_due_rank (K : PySem.W.Frag) : Sp := fun vs H Q _ => ∃ (w : Wd) (a b c d : Addr) (g : List (List Nat)) (f s : List Bool) (R : List Int) (k : Nat), vs = [.str w.s, .ref a, .ref b, .ref c, .ref d, .int (k : Int)] ∧ Tab K H nI a g ∧
  SqL K H b (f.map V.bl) ∧ SqL K H c (s.map V.bl) ∧ SqL K H d (R.map V.int) ∧ Gok g ∧ k < g.length ∧ f.length = g.length ∧ s.length = g.length ∧ R.length = g.length ∧ RetV (.int (dueR (g.getD k []) (thW w f k) (goW w f s k) w.some R)) H Q
section
variable {P : Program} {w : World} {K : PySem.W.Frag} {mg : Str → Option Value} {base : Heap}
theorem ok_due_rank (T : Txt w K mg) : Ok P w K mg base 2 ("due_rank", none) ["word", "after", "first", "second", "ranks", "node"] (sp_due_rank K) := by
  obtain ⟨fd_passes, G_passes, b_passes, k_passes⟩ := ok_passes (P := P) (base := base) T
  obtain ⟨fd_is_goal, G_is_goal, b_is_goal, k_is_goal⟩ := ok_is_goal (P := P) (base := base) T
  obtain ⟨fd, F⟩ := T.def_ 18 _ rfl
  have S : FnScope ["word", "after", "first", "second", "ranks", "node", "following", "ranked", "target", "rank"] ["word", "after", "first", "second", "ranks", "node"] (defScope (top 24)) := ⟨rfl, rfl, rfl, by decide +kernel, rfl, by decide +kernel, by decide +kernel⟩
  refine ⟨fd, F.ok S (fun vs H Q E h => ?_) (fun cdv A outer s H vs Q E hr h => ?_), F.bindsN fun _ _ _ _ _ _ us hl => match us, hl with | [_, _, _, _, _, _], _ => rfl, F.kp⟩
  · obtain ⟨_, _, _, _, _, _, _, _, _, _, rfl, _⟩ := h
    rfl
  · have hu := hu_of hr
    have hu64 := hr.units
    have hu65 := hu65_of hr
    refine ⟨_, PSs.nox (pss_cons (ps_if (pt_val (pe_call G_is_goal (hr.mono (by decide)) rfl (T.g 10) k_is_goal b_is_goal .nil pass0 (pa_cons (pv 0) (pa_cons (pv 2) (pa_cons (pv 3) (pa_cons (pv 5) pa_nil)))))) (pss_one (ps_ret pe_int)) pss_nil)
      (pss_cons (ps_setLc (i := 6) rfl S.nd rfl rfl (sw_true rfl rfl rfl (by decide +kernel)) (piList (K := K) (pe_ix (ixL (K := K)) (pv 1) (pv 5) (fun _ _ => rfl))) (blkOk_by (own := [("target", 8)]) (by kernel_rfl)) (fun _ _ _ _ _ => (pg_name (i := 8) S.nd rfl (Or.inl rfl))) (fun _ _ _ _ _ => pts_nil) (fun _ _ _ _ _ => (pe_ix (ixL (K := K)) (pv 4) (pv 8) (fun _ _ => rfl))))
      (pss_cons (ps_setLc (i := 7) rfl S.nd rfl rfl (sw_true rfl rfl rfl (by decide +kernel)) (piList (K := K) (pv 6)) (blkOk_by (own := [("rank", 9)]) (by kernel_rfl)) (fun _ _ _ _ _ => (pg_name (i := 9) S.nd rfl (Or.inl rfl))) (fun _ _ _ _ _ => (pts_one (pt_cmpR op_ge (pv 9) pe_int (nomark _)))) (fun _ _ _ _ _ => (pv 9)))
      (pss_cons (ps_if (PW.pt (pw_or (pt_not (pt_val (pe_call G_passes (hr.mono (by decide)) rfl (T.g 11) k_passes b_passes .nil pass0 (pa_cons (pv 0) (pa_cons (pv 2) (pa_cons (pv 5) pa_nil)))))) (pw_or1 (pt_not (ptTruth (K := K) (pv 7)))))) (pss_one (ps_ret (pe_un un_neg pe_int))) pss_nil)
      (pss_cons (ps_if (pt_cmpR (opIn (K := K)) (pv 0) (pe_glob (v := .ref (He.ga K "SOME")) rfl (T.g 43) rfl) (by rfl)) (pss_one (ps_ret (pe_op op_add pe_int (pe_callB (cMin (K := K)) rfl (T.f 50) (by decide +kernel) (pa_cons (pv 7) pa_nil))))) pss_nil)
      (pss_cons (ps_if (pt_cmpR op_lt (pe_callB (cLen (K := K)) rfl (T.f 45) (by decide +kernel) (pa_cons (pv 7) pa_nil)) (pe_callB (cLen (K := K)) rfl (T.f 45) (by decide +kernel) (pa_cons (pv 6) pa_nil)) (nomark _)) (pss_one (ps_ret (pe_un un_neg pe_int))) pss_nil)
      (pss_one (ps_ret (pe_op op_add pe_int (pe_callB (cMax (K := K)) rfl (T.f 51) (by decide +kernel) (pa_cons (pv 7) pa_nil))))))))))), ?_⟩
    obtain ⟨w, a, b, c, d, g, f, s, R, k, rfl, ha, hb, hc, hd, G, hk, lf, ls, lR, q⟩ := h
    have hz := G.rl _ (getD_mem (d := []) hk)
    have ht := G.tg _ (getD_mem (d := []) hk)
    refine q_when (b := goW w f s k) (et_B (ev_call (ea_cons (ev_var rfl) (ea_cons (ev_var rfl) (ea_cons (ev_var rfl) (ea_cons (ev_var rfl) ea_nil)))) fun H1 e Q q E => ⟨w, b, c, f, s, k, rfl, ex_l e hb, ex_l e hc, by omega, by omega, q⟩)) (fun c1 H1 e1 => ?_) (fun c1 H1 e1 => ?_)
    · have e : dueR (g.getD k []) (thW w f k) (goW w f s k) w.some R = 0 := dueR_zero.mpr c1
      rw [e] at q
      exact s_ret ev_c fun H2 e2 => q _ (e1.trans e2)
    obtain ⟨p, ep, hp⟩ := ev_tab (σ := start ["word", "after", "first", "second", "ranks", "node", "following", "ranked", "target", "rank"] [.str w.s, .ref a, .ref b, .ref c, .ref d, .int (k : Int)]) (ta := tVar 1) (tb := tVar 5) (ev_var rfl) (ev_var rfl) ha hk
    refine q_asgL (EvL.mono e1 (el_is (el_map 0 (fun t => V.int (R.getD t 0)) ep hp (by omega) (fun _ => rfl) fun i hi => ev_ixM 0 (ev_var rfl) (ev_var rfl) hd (by rw [lR]; exact ht _ (getD_mem hi)))
      (List.map_map (f := fun t => R.getD t 0) (g := V.int)).symm)) fun l H2 _ e2 h2 => ?_
    have z2 : ((g.getD k []).map fun t => R.getD t 0).length ≤ 40000 := by rw [List.length_map]; omega
    refine q_asgL (el_filter 0 (fun z => decide (0 ≤ z)) V.int (ev_var rfl) (sq_of h2) z2 (fun _ => rfl) (fun i hi => et_test (ev_op (ev_var rfl) ev_c rv_I0)) fun i hi _ => ev_var rfl) fun m H3 _ e3 h3 => ?_
    have e03 := (e1.trans e2).trans e3
    refine q_when (b := !thW w f k || (((g.getD k []).map fun t => R.getD t 0).filter fun z => decide (0 ≤ z)).isEmpty) (et_is (et_or (et_not (et_B (ev_call (z := .bl (thW w f k)) (ea_cons (ev_var rfl) (ea_cons (ev_var rfl) (ea_cons (ev_var rfl) ea_nil)))
      fun H1 e Q q E => ⟨w, b, f, k, rfl, ex_l (e03.trans e) hb, by omega, q⟩))) fun _ => et_not (et_listM (ev_var rfl) (sq_of h3))) (by rw [Bool.not_not])) (fun c2 H4 e4 => ?_) (fun c2 H4 e4 => ?_)
    · have e : dueR (g.getD k []) (thW w f k) (goW w f s k) w.some R = -1 := by
        unfold dueR
        rw [if_neg (by rw [c1]; decide), if_pos c2]
      rw [e] at q
      exact s_ret (ev_un ev_c ru_neg) fun H5 e5 => q _ ((e03.trans e4).trans e5)
    have ne : (((g.getD k []).map fun t => R.getD t 0).filter fun z => decide (0 ≤ z)) ≠ [] := by
      intro z
      rw [z] at c2
      simp at c2
    have e04 := e03.trans e4
    have t3 : Ev (tOp (rIn K false) (tVar 0) (tC (.ref (He.ga K "SOME")))) (((start ["word", "after", "first", "second", "ranks", "node", "following", "ranked", "target", "rank"] [.str w.s, .ref a, .ref b, .ref c, .ref d, .int (k : Int)]).set 6 (some (.ref l))).set 7 (some (.ref m))) H4 (.bl w.some) := by
      rw [← in_some w]
      exact ev_op (ev_var rfl) ev_c (rv_inT (T.some H4) rfl rfl)
    refine q_when (et_test t3) (fun c3 H5 e5 => ?_) (fun c3 H5 e5 => ?_)
    · have e : dueR (g.getD k []) (thW w f k) (goW w f s k) w.some R = 1 + lmin (((g.getD k []).map fun t => R.getD t 0).filter fun z => decide (0 ≤ z)) := by
        unfold dueR
        rw [if_neg (by rw [c1]; decide), if_neg (by rw [c2]; decide), if_pos c3]
      rw [e] at q
      exact s_ret (ev_op ev_c (ev_min (ev_var rfl) (sq_of (e5 _ _ (e4 _ _ h3))) ne) rv_I0) fun H6 e6 => q _ ((e04.trans e5).trans e6)
    have e05 := e04.trans e5
    refine q_when (et_test (ev_op (ev_lenM (ev_var rfl) (sq_of (e5 _ _ (e4 _ _ h3)))) (ev_lenM (ev_var rfl) (sq_of (e5 _ _ (e4 _ _ (e3 _ _ h2))))) rv_I0)) (fun c4 H6 e6 => ?_) (fun c4 H6 e6 => ?_)
    · have e : dueR (g.getD k []) (thW w f k) (goW w f s k) w.some R = -1 := by
        unfold dueR
        rw [if_neg (by rw [c1]; decide), if_neg (by rw [c2]; decide), if_neg (by rw [c3]; decide), if_pos (Int.ofNat_lt.mp (of_decide_eq_true c4))]
      rw [e] at q
      exact s_ret (ev_un ev_c ru_neg) fun H7 e7 => q _ ((e05.trans e6).trans e7)
    · have e : dueR (g.getD k []) (thW w f k) (goW w f s k) w.some R = 1 + lmax (((g.getD k []).map fun t => R.getD t 0).filter fun z => decide (0 ≤ z)) := by
        unfold dueR
        rw [if_neg (by rw [c1]; decide), if_neg (by rw [c2]; decide), if_neg (by rw [c3]; decide), if_neg (fun z => of_decide_eq_false c4 (Int.ofNat_lt.mpr z))]
      rw [e] at q
      exact s_ret (ev_op ev_c (ev_max (ev_var rfl) (sq_of (e6 _ _ (e5 _ _ (e4 _ _ h3)))) ne) rv_I0) fun H7 e7 => q _ ((e05.trans e6).trans e7)
end
end K94

/-! D_path_row_holds -/
namespace K94
open PySem PySem.Spec PyProof.Rows L2 Evl
def PathOk (w : Wd) (g : List (List Nat)) (f s tr : List Bool) (R : List Int) (k : Nat) : Prop :=
  (tr.getD k false, R.getD k 0) = (decide (0 ≤ dueR (g.getD k []) (thW w f k) (goW w f s k) w.some R) != w.great, dueR (g.getD k []) (thW w f k) (goW w f s k) w.some R)
def sp_path_row_holds (K : PySem.W.Frag) : Sp := fun vs H Q _ => ∃ (w : Wd) (a b c d e : Addr) (g : List (List Nat)) (f s tr : List Bool) (R : List Int), vs = [.str w.s, .ref a, .ref b, .ref c, .ref d, .ref e] ∧ Tab K H nI a g ∧
  SqL K H b (f.map V.bl) ∧ SqL K H c (s.map V.bl) ∧ SqL K H d (tr.map V.bl) ∧ SqL K H e (R.map V.int) ∧ Gok g ∧ f.length = g.length ∧ s.length = g.length ∧ tr.length = g.length ∧ R.length = g.length ∧
  RetB (∀ k, k < g.length → PathOk w g f s tr R k) H Q
section
variable {P : Program} {w : World} {K : PySem.W.Frag} {mg : Str → Option Value} {base : Heap}
theorem ok_path_row_holds (T : Txt w K mg) : Ok P w K mg base 3 ("path_row_holds", none) ["word", "after", "first", "second", "truths", "ranks"] (sp_path_row_holds K) := by
  obtain ⟨fd_due_rank, G_due_rank, b_due_rank, k_due_rank⟩ := ok_due_rank (P := P) (base := base) T
  obtain ⟨fd, F⟩ := T.def_ 19 _ rfl
  have S : FnScope ["word", "after", "first", "second", "truths", "ranks", "node"] ["word", "after", "first", "second", "truths", "ranks"] (defScope (top 25)) := ⟨rfl, rfl, rfl, by decide +kernel, rfl, by decide +kernel, by decide +kernel⟩
  refine ⟨fd, F.ok S (fun vs H Q E h => ?_) (fun cdv A outer s H vs Q E hr h => ?_), F.bindsN fun _ _ _ _ _ _ us hl => match us, hl with | [_, _, _, _, _, _], _ => rfl, F.kp⟩
  · obtain ⟨_, _, _, _, _, _, _, _, _, _, _, rfl, _⟩ := h
    rfl
  · have hu := hu_of hr
    have hu64 := hr.units
    have hu65 := hu65_of hr
    refine ⟨_, PSs.nox (pss_cons (ps_for PassesOwn.never rfl (pi_range1 (by rfl) (T.f 52) (pa_cons (pe_callB (cLen (K := K)) rfl (T.f 45) (by decide +kernel) (pa_cons (pv 1) pa_nil)) pa_nil)) (pg_name (i := 6) S.nd rfl (Or.inl rfl)) (pss_cons (ps_if (pt_cmpR op_ne (pe_ix (ixL (K := K)) (pv 5) (pv 6) (fun _ _ => rfl)) (pe_call G_due_rank (hr.mono (by decide)) rfl (T.g 12) k_due_rank b_due_rank .nil pass0 (pa_cons (pv 0) (pa_cons (pv 1) (pa_cons (pv 2) (pa_cons (pv 3) (pa_cons (pv 5) (pa_cons (pv 6) pa_nil))))))) (nomark _)) (pss_one (ps_ret pe_bl)) pss_nil)
      (pss_one (ps_if (pt_cmpR op_ne (pe_ix (ixL (K := K)) (pv 4) (pv 6) (fun _ _ => rfl)) (pe_cmpR op_ne (pe_cmpR op_ge (pe_ix (ixL (K := K)) (pv 5) (pv 6) (fun _ _ => rfl)) pe_int (nomark _)) (pe_cmpR (opIn (K := K)) (pv 0) (pe_glob (v := .ref (He.ga K "GREATEST")) rfl (T.g 44) rfl) (by rfl)) (nomark _)) (nomark _)) (pss_one (ps_ret pe_bl)) pss_nil))))
      (pss_one (ps_ret pe_bl))), ?_⟩
    obtain ⟨w, a, b, c, d, e, g, f, s, tr, R, rfl, ha, hb, hc, hd, he, G, lf, ls, lt, lR, q⟩ := h
    have hn := G.len
    refine q_for (Ex.refl H) (wk_range (n := g.length) (ea_cons (ev_lenT (ev_var rfl) ha) ea_nil) (by omega))
      (fun i σ' H' => Ex H H' ∧ (∀ k, k < i → PathOk w g f s tr R k) ∧ ∃ x, σ' = [some (.str w.s), some (.ref a), some (.ref b), some (.ref c), some (.ref d), some (.ref e), x]) (fun _ _ _ p => p.1)
      (fun H1 e1 => ⟨e1, fun k hk => by omega, none, rfl⟩) ?_ ?_
    · rintro i σ' H' hi ⟨e1, pre, x, rfl⟩ H1 e2
      have e12 := e1.trans e2
      refine q_when (et_test (ev_ne (Ev.mono e12 (ev_ixM 0 (ev_var rfl) (ev_var rfl) he (by omega))) (Ev.mono e12 (ev_call (z := .int (dueR (g.getD i []) (thW w f i) (goW w f s i) w.some R))
        (ea_cons (ev_var rfl) (ea_cons (ev_var rfl) (ea_cons (ev_var rfl) (ea_cons (ev_var rfl) (ea_cons (ev_var rfl) (ea_cons (ev_var rfl) ea_nil))))))
        fun H1 e' Q q E => ⟨w, a, b, c, e, g, f, s, R, i, rfl, ha.mono e', ex_l e' hb, ex_l e' hc, ex_l e' he, G, hi, lf, ls, lR, q⟩)) rfl (by rw [dec_int]))) (fun c1 H2 e3 => ?_) (fun c1 H2 e3 => ?_)
      · refine s_ret ev_c fun H3 e4 => q.no (fun z => ?_) ((e12.trans e3).trans e4)
        have z1 := congrArg Prod.snd (z i hi)
        rw [decide_eq_true z1] at c1
        cases c1
      · have c1' : R.getD i 0 = dueR (g.getD i []) (thW w f i) (goW w f s i) w.some R := of_decide_eq_true (by
          cases h : decide (R.getD i 0 = dueR (g.getD i []) (thW w f i) (goW w f s i) w.some R) with
          | true => rfl
          | false => rw [h] at c1; cases c1)
        have e13 := e12.trans e3
        have t3 : Ev (tOp (rIn K false) (tVar 0) (tC (.ref (He.ga K "GREATEST")))) [some (.str w.s), some (.ref a), some (.ref b), some (.ref c), some (.ref d), some (.ref e), some (nI i)] H (.bl w.great) := by
          rw [← in_great w]
          exact ev_op (ev_var rfl) ev_c (rv_inT (T.greatest H) rfl rfl)
        refine s_when (et_test (ev_ne (Ev.mono e13 (ev_ixM false (ev_var rfl) (ev_var rfl) hd (by omega))) (Ev.mono e13 (ev_ne (ev_op (ev_ixM 0 (ev_var rfl) (ev_var rfl) he (by omega)) ev_c rv_I0) t3 rfl dec_bl)) rfl dec_bl)) (fun c2 H3 e4 => ?_) (fun c2 H3 e4 => ?_)
        · refine s_ret ev_c fun H4 e5 => q.no (fun z => ?_) ((e13.trans e4).trans e5)
          have z1 := congrArg Prod.fst (z i hi)
          have z2 : tr.getD i false = (decide (0 ≤ R.getD i 0) != w.great) := by rw [c1']; exact z1
          rw [z2] at c2
          simp at c2
        · refine ⟨e13.trans e4, fun k hk => ?_, _, rfl⟩
          by_cases hki : k < i
          · exact pre k hki
          · have ek : k = i := by omega
            subst ek
            have c2' : tr.getD k false = (decide (0 ≤ R.getD k 0) != w.great) := by
              cases h1 : tr.getD k false <;> cases h2 : (decide (0 ≤ R.getD k 0) != w.great) <;> first | rfl | (rw [h1, h2] at c2; cases c2)
            unfold PathOk
            rw [c2', ← c1']
    · rintro σ' H' ⟨e1, all, x, rfl⟩
      exact s_ret ev_c fun H2 e2 => q.yes all (e1.trans e2)
end
end K94

/-! D_leaf_row_holds -/
namespace K94
open PySem PySem.Spec PyProof.Rows L2 Evl
def LeafOk (r : Row) (F : List (List Bool)) (tr : List Bool) (R : List Int) (k : Nat) : Prop := (tr.getD k false, R.getD k 0) = ((if r.w = .fact then (F.getD k []).getD r.l.toNat false else r.w == .tt), -1)
def sp_leaf_row_holds (K : PySem.W.Frag) : Sp := fun vs H Q _ => ∃ (r : Row) (a c d e : Addr) (F : List (List Bool)) (tr : List Bool) (R : List Int) (nf : Nat), vs = [.ref a, .ref c, .ref d, .ref e] ∧ SqT K H a [.str r.w.s, .int r.l, .int r.r] ∧ Tab K H V.bl c F ∧
  SqL K H d (tr.map V.bl) ∧ SqL K H e (R.map V.int) ∧ (∀ x ∈ F, x.length = nf) ∧ (r.w = .fact → ∃ l : Nat, r.l = (l : Int) ∧ l < nf) ∧ F.length ≤ 1000 ∧ tr.length = F.length ∧ R.length = F.length ∧ RetB (∀ k, k < F.length → LeafOk r F tr R k) H Q
section
variable {P : Program} {w : World} {K : PySem.W.Frag} {mg : Str → Option Value} {base : Heap}
theorem ok_leaf_row_holds (T : Txt w K mg) : Ok P w K mg base 1 ("leaf_row_holds", none) ["row", "facts", "truths", "ranks"] (sp_leaf_row_holds K) := by
  obtain ⟨fd, F⟩ := T.def_ 21 _ rfl
  have S : FnScope ["row", "facts", "truths", "ranks", "node", "bits", "due"] ["row", "facts", "truths", "ranks"] (defScope (top 27)) := ⟨rfl, rfl, rfl, by decide +kernel, rfl, by decide +kernel, by decide +kernel⟩
  refine ⟨fd, F.ok S (fun vs H Q E h => ?_) (fun cdv A outer s H vs Q E hr h => ?_), F.bindsN fun _ _ _ _ _ _ us hl => match us, hl with | [_, _, _, _], _ => rfl, F.kp⟩
  · obtain ⟨_, _, _, _, _, _, _, _, _, rfl, _⟩ := h
    rfl
  · have hu := hu_of hr
    have hu64 := hr.units
    have hu65 := hu65_of hr
    refine ⟨_, PSs.nox (pss_cons (ps_for PassesOwn.never rfl (piEnum (K := K) (by rfl) (T.f 46) (pa_cons (pv 1) pa_nil)) (pgTup (K := K) (n := 2) (pgs_cons (pg_name (i := 4) S.nd rfl (Or.inl rfl)) (pgs_cons (pg_name (i := 5) S.nd rfl (Or.inl rfl)) pgs_nil))) (pss_cons (ps_set (i := 6) S.nd rfl (Or.inl rfl) (pe_cmpR op_eq (pe_ix (ixT (K := K)) (pv 0) pe_int (fun _ _ => rfl)) pe_str (nomark _)))
      (pss_cons (ps_if (pt_cmpR op_eq (pe_ix (ixT (K := K)) (pv 0) pe_int (fun _ _ => rfl)) pe_str (nomark _)) (pss_one (ps_set (i := 6) S.nd rfl (Or.inl rfl) (pe_ix (ixL (K := K)) (pv 5) (pe_ix (ixT (K := K)) (pv 0) pe_int (fun _ _ => rfl)) (fun _ _ => rfl)))) pss_nil)
      (pss_one (ps_if (PW.pt (pw_or (pt_cmpR op_ne (pe_ix (ixL (K := K)) (pv 2) (pv 4) (fun _ _ => rfl)) (pv 6) (nomark _)) (pw_or1 (pt_cmpR op_ne (pe_ix (ixL (K := K)) (pv 3) (pv 4) (fun _ _ => rfl)) (pe_un un_neg pe_int) (nomark _))))) (pss_one (ps_ret pe_bl)) pss_nil)))))
      (pss_one (ps_ret pe_bl))), ?_⟩
    obtain ⟨r, a, c, d, e, F, tr, R, nf, rfl, ha, hc, hd, he, hF, hl, hz, lt, lR, q⟩ := h
    obtain ⟨ps, h1, h2, h3⟩ := hc
    refine q_for (Ex.refl H) (wk_enum (f := V.ref) 0 (ev_var rfl) h1)
      (fun i σ' H' => Ex H H' ∧ (∀ k, k < i → LeafOk r F tr R k) ∧ ∃ x y z, σ' = [some (.ref a), some (.ref c), some (.ref d), some (.ref e), x, y, z]) (fun _ _ _ p => p.1)
      (fun H1 e1 => ⟨e1, fun k hk => by omega, none, none, none, rfl⟩) ?_ ?_
    · rintro i σ' H' hi ⟨e1, pre, x, y, z, rfl⟩ H1 e2
      have e12 := e1.trans e2
      have hi' : i < F.length := by omega
      have row0 : ∀ {σ : L2.St}, σ[0]? = some (some (.ref a)) → Ev (tOp (rIxT K) (tVar 0) (tC (.int 0))) σ H (.str r.w.s) := fun h => ev_op (ev_var h) ev_c (rv_ixT ha rfl)
      refine q_asg (v := .bl (r.w == .tt)) (Ev.mono e12 (ev_eq (row0 rfl) ev_c rfl (dec_wd (b := .tt)))) fun H2 e3 => ?_
      have e13 := e12.trans e3
      refine q_ifAsg (v := .bl (if r.w = .fact then (F.getD i []).getD r.l.toNat false else r.w == .tt)) (et_test (Ev.mono e13 (ev_eq (row0 rfl) ev_c rfl (dec_wd (b := .fact))))) (fun hb' => ?_) (fun hb' => ?_) fun H3 e4 => ?_
      · have hw := of_decide_eq_true hb'
        obtain ⟨l, el, hl⟩ := hl hw
        rw [if_pos hw, el]
        have hrow := h3 i hi'
        have : Ev (tOp (rIxT K) (tVar 0) (tC (.int 1))) [some (.ref a), some (.ref c), some (.ref d), some (.ref e), some (nI i), some (.ref (ps.getD i 0)), some (.bl (r.w == .tt))] H (.int (l : Int)) := by
          rw [← el]
          exact ev_op (ev_var rfl) ev_c (rv_ixT ha rfl)
        exact Ev.mono e13 (ev_ixM false (ev_var rfl) this hrow (by rw [hF _ (getD_mem hi')]; exact hl))
      · rw [if_neg (of_decide_eq_false hb')]
        rfl
      have e14 := e13.trans e4
      refine s_when (et_or (et_test (ev_ne (Ev.mono e14 (ev_ixM false (ev_var rfl) (ev_var rfl) hd (by omega))) (ev_var rfl) rfl dec_bl)) fun _ =>
        et_test (ev_ne (Ev.mono e14 (ev_ixM 0 (ev_var rfl) (ev_var rfl) he (by omega))) (ev_un ev_c ru_neg) rfl (by rw [dec_int]))) (fun c2 H4 e5 => ?_) (fun c2 H4 e5 => ?_)
      · refine s_ret ev_c fun H5 e6 => q.no (fun z => ?_) ((e14.trans e5).trans e6)
        have z1 := z i hi'
        injection z1 with z2 z3
        rw [z2, z3] at c2
        simp at c2
      · refine ⟨e14.trans e5, fun k hk => ?_, _, _, _, rfl⟩
        by_cases hki : k < i
        · exact pre k hki
        · have ek : k = i := by omega
          subst ek
          obtain ⟨z1, z2⟩ := Bool.or_eq_false_iff.mp c2
          have z3 : R.getD k 0 = -1 := by
            cases h : decide (R.getD k 0 = -1) with
            | true => exact of_decide_eq_true h
            | false => rw [h] at z2; cases z2
          unfold LeafOk
          rw [z3]
          exact congrArg (fun z => (z, (-1 : Int))) (by simpa using z1)
    · rintro σ' H' ⟨e1, all, x, y, z, rfl⟩
      exact s_ret ev_c fun H2 e2 => q.yes (fun k hk => all k (by omega)) (e1.trans e2)
end
end K94

/-! D_row_holds -/
namespace K94
open PySem PySem.Spec PyProof.Rows L2 Evl
def sp_row_holds (K : PySem.W.Frag) : Sp := fun vs H Q _ => ∃ (x a c y : Addr) (i nf : Nat) (g : List (List Nat)) (F T : List (List Bool)) (R : List (List Int)) (rs : List Row), vs = [.ref x, .int (i : Int), .ref a, .ref c, .ref y] ∧ RowsAt K H x rs ∧ Tab K H nI a g ∧ Tab K H V.bl c F ∧ AnsAt K H y T R ∧
  Gok g ∧ i < rs.length ∧ RowOk nf i (rD rs i) ∧ Tb g.length nf F ∧ Tb rs.length g.length T ∧ Tb rs.length g.length R ∧
  RetB (∀ k, k < g.length → ((T.getD i []).getD k false, (R.getD i []).getD k 0) = dueRow g F T (rD rs i) (R.getD i []) k) H Q
section
variable {P : Program} {w : World} {K : PySem.W.Frag} {mg : Str → Option Value} {base : Heap}
theorem ok_row_holds (T : Txt w K mg) : Ok P w K mg base 4 ("row_holds", none) ["rows", "number", "after", "facts", "found"] (sp_row_holds K) := by
  obtain ⟨fd_plain_row_holds, G_plain_row_holds, b_plain_row_holds, k_plain_row_holds⟩ := ok_plain_row_holds (P := P) (base := base) T
  obtain ⟨fd_path_row_holds, G_path_row_holds, b_path_row_holds, k_path_row_holds⟩ := ok_path_row_holds (P := P) (base := base) T
  obtain ⟨fd_leaf_row_holds, G_leaf_row_holds, b_leaf_row_holds, k_leaf_row_holds⟩ := ok_leaf_row_holds (P := P) (base := base) T
  obtain ⟨fd, F⟩ := T.def_ 22 _ rfl
  have S : FnScope ["rows", "number", "after", "facts", "found", "word", "left", "right", "truths", "ranks", "first", "second"] ["rows", "number", "after", "facts", "found"] (defScope (top 28)) := ⟨rfl, rfl, rfl, by decide +kernel, rfl, by decide +kernel, by decide +kernel⟩
  refine ⟨fd, F.ok S (fun vs H Q E h => ?_) (fun cdv A outer s H vs Q E hr h => ?_), F.bindsN fun _ _ _ _ _ _ us hl => match us, hl with | [_, _, _, _, _], _ => rfl, F.kp⟩
  · obtain ⟨_, _, _, _, _, _, _, _, _, _, _, rfl, _⟩ := h
    rfl
  · have hu := hu_of hr
    have hu64 := hr.units
    have hu65 := hu65_of hr
    refine ⟨_, PSs.nox (pss_cons (ps_asg (pe_ix (ixL (K := K)) (peFld (K := K) (pv 0)) (pv 1) (fun _ _ => rfl)) (pgTup (K := K) (n := 3) (pgs_cons (pg_name (i := 5) S.nd rfl (Or.inl rfl)) (pgs_cons (pg_name (i := 6) S.nd rfl (Or.inl rfl)) (pgs_cons (pg_name (i := 7) S.nd rfl (Or.inl rfl)) pgs_nil)))))
      (pss_cons (ps_set (i := 8) S.nd rfl (Or.inl rfl) (pe_ix (ixL (K := K)) (peFld (K := K) (pv 4)) (pv 1) (fun _ _ => rfl)))
      (pss_cons (ps_set (i := 9) S.nd rfl (Or.inl rfl) (pe_ix (ixL (K := K)) (peFld (K := K) (pv 4)) (pv 1) (fun _ _ => rfl)))
      (pss_cons (ps_if (PW.pt (pw_or (pt_cmpR op_eq (pv 6) (pe_un un_neg pe_int) (nomark _)) (pw_or1 (pt_cmpR op_eq (pv 5) pe_str (nomark _))))) (pss_one (ps_ret (pe_call G_leaf_row_holds (hr.mono (by decide)) rfl (T.g 15) k_leaf_row_holds b_leaf_row_holds .nil pass0 (pa_cons (pe_ix (ixL (K := K)) (peFld (K := K) (pv 0)) (pv 1) (fun _ _ => rfl)) (pa_cons (pv 3) (pa_cons (pv 8) (pa_cons (pv 9) pa_nil))))))) pss_nil)
      (pss_cons (ps_set (i := 10) S.nd rfl (Or.inl rfl) (pe_ix (ixL (K := K)) (peFld (K := K) (pv 4)) (pv 6) (fun _ _ => rfl)))
      (pss_cons (ps_set (i := 11) S.nd rfl (Or.inl rfl) (pe_ifExp (pt_cmpR op_eq (pv 7) (pe_un un_neg pe_int) (nomark _)) (pv 10) (pe_ix (ixL (K := K)) (peFld (K := K) (pv 4)) (pv 7) (fun _ _ => rfl))))
      (pss_cons (ps_if (PW.pt (pw_and (pt_cmpR (opIn (K := K)) (pv 1) (peFld (K := K) (pv 0)) (by rfl)) (pw_and (pt_cmpR op_ne (pv 5) pe_str (nomark _)) (pw_and1 (pt_cmpR op_ne (pv 5) pe_str (nomark _)))))) (pss_one (ps_ret (pe_call G_path_row_holds (hr.mono (by decide)) rfl (T.g 13) k_path_row_holds b_path_row_holds .nil pass0 (pa_cons (pv 5) (pa_cons (pv 2) (pa_cons (pv 10) (pa_cons (pv 11) (pa_cons (pv 8) (pa_cons (pv 9) pa_nil))))))))) pss_nil)
      (pss_one (ps_ret (pe_call G_plain_row_holds (hr.mono (by decide)) rfl (T.g 14) k_plain_row_holds b_plain_row_holds .nil pass0 (pa_cons (pv 5) (pa_cons (pv 2) (pa_cons (pv 10) (pa_cons (pv 11) (pa_cons (pv 8) (pa_cons (pv 9) pa_nil)))))))))))))))), ?_⟩
    obtain ⟨x, a, c, y, i, nf, g, F, T', R, rs, rfl, hx, ha, hc, hy, G, hi, ok, tF, tT, tR, q⟩ := h
    obtain ⟨dx, fa, ra, ta, hx, hrow, htmp⟩ := hx
    obtain ⟨dy, tt, rr, hy, hT, hR⟩ := hy
    have hT := hT.tab (K := K)
    have hR := hR.tab (K := K)
    have hn := G.len
    -- word, left, right = rows.rows[number]
    have fRows : ∀ {σ : L2.St}, σ[0]? = some (some (.ref x)) → Ev (tFld K (tVar 0) "rows") σ H (.ref ra) := fun h => ev_fld (ev_var h) hx (T.cls 58) (T.noat 65) rfl
    have fT : ∀ {σ : L2.St}, σ[4]? = some (some (.ref y)) → Ev (tFld K (tVar 4) "truths") σ H (.ref tt) := fun h => ev_fld (ev_var h) hy (T.cls 60) (T.noat 70) rfl
    have fR : ∀ {σ : L2.St}, σ[4]? = some (some (.ref y)) → Ev (tFld K (tVar 4) "ranks") σ H (.ref rr) := fun h => ev_fld (ev_var h) hy (T.cls 60) (T.noat 71) rfl
    obtain ⟨p, ep, hp⟩ := ev_row (σ := start ["rows", "number", "after", "facts", "found", "word", "left", "right", "truths", "ranks", "first", "second"] [.ref x, .int (i : Int), .ref a, .ref c, .ref y]) (fRows rfl) (tb := tVar 1) (ev_var rfl) hrow hi
    refine ep H (Ex.refl H) _ fun H1 e1 => ?_
    refine ⟨p, _, rfl, ex_t e1 hp, rfl, _, _, rfl, _, _, rfl, _, _, rfl, rfl, ?_⟩
    obtain ⟨pt, ept, hpt⟩ := ev_tab (σ := [some (.ref x), some (.int (i : Int)), some (.ref a), some (.ref c), some (.ref y), some (.str (rD rs i).w.s), some (.int (rD rs i).l), some (.int (rD rs i).r), none, none, none, none]) (ta := tFld K (tVar 4) "truths") (tb := tVar 1) (i := i) (fT rfl) (ev_var rfl) hT (by rw [tT.hl]; exact hi)
    refine q_asg (Ev.mono e1 ept) fun H2 e2 => ?_
    have e12 := e1.trans e2
    obtain ⟨pr, epr, hpr⟩ := ev_tab (σ := [some (.ref x), some (.int (i : Int)), some (.ref a), some (.ref c), some (.ref y), some (.str (rD rs i).w.s), some (.int (rD rs i).l), some (.int (rD rs i).r), some (.ref pt), none, none, none]) (ta := tFld K (tVar 4) "ranks") (tb := tVar 1) (i := i) (fR rfl) (ev_var rfl) hR (by rw [tR.hl]; exact hi)
    refine q_asg (Ev.mono e12 epr) fun H3 e3 => ?_
    have e13 := e12.trans e3
    have lt := tT.get hi
    have lR := tR.get hi
    refine q_when (et_or (et_test (ev_eq (ev_var rfl) (ev_un ev_c ru_neg) rfl dec_int)) fun _ => et_test (ev_eq (ev_var rfl) ev_c rfl (dec_wd (b := .fact)))) (fun b1 H4 e4 => ?_) (fun b1 H4 e4 => ?_)
    · -- a leaf
      have leaf : (rD rs i).w.leaf = true ∧ ((rD rs i).w = .fact → ∃ l : Nat, (rD rs i).l = (l : Int) ∧ l < nf) := by
        rcases ok with ⟨o1, o2, o3⟩ | ⟨o1, o2, l, o3, o4⟩ | ⟨o1, l, m, o3, o4, o5, o6⟩
        · refine ⟨o1, fun hw => ?_⟩
          rcases o3 with ⟨o3, _⟩ | ⟨_, o3⟩
          · exact absurd hw o3
          · exact o3
        · exfalso
          rcases Bool.or_eq_true_iff.mp b1 with z | z
          · have := of_decide_eq_true z
            omega
          · rw [of_decide_eq_true z] at o1
            cases o1
        · exfalso
          rcases Bool.or_eq_true_iff.mp b1 with z | z
          · have := of_decide_eq_true z
            omega
          · rw [of_decide_eq_true z] at o1
            cases o1
      obtain ⟨b, hb⟩ := bool_of (∀ k, k < F.length → LeafOk (rD rs i) F (T'.getD i []) (R.getD i []) k)
      obtain ⟨p2, ep2, hp2⟩ := ev_row (σ := [some (.ref x), some (.int (i : Int)), some (.ref a), some (.ref c), some (.ref y), some (.str (rD rs i).w.s), some (.int (rD rs i).l), some (.int (rD rs i).r), some (.ref pt), some (.ref pr), none, none]) (fRows rfl) (tb := tVar 1) (ev_var rfl) hrow hi
      have hFl := tF.hl
      refine s_ret (Ev.mono (e13.trans e4) (ev_call (z := .bl b) (ea_cons ep2 (ea_cons (ev_var rfl) (ea_cons (ev_var rfl) (ea_cons (ev_var rfl) ea_nil)))) fun H1 e' Q q E =>
        ⟨rD rs i, p2, c, pt, pr, F, T'.getD i [], R.getD i [], nf, rfl, ex_t e' hp2, hc.mono e', ex_l e' hpt, ex_l e' hpr, tF.wl, leaf.2, by omega, by omega, by omega, RetB.of hb q⟩)) fun H5 e5 => q b ?_ H5 ((e13.trans e4).trans e5)
      · rw [hb, hFl]
        have hd : ∀ k, dueRow g F T' (rD rs i) (R.getD i []) k = ((if (rD rs i).w = .fact then (F.getD k []).getD (rD rs i).l.toNat false else (rD rs i).w == .tt), -1) := by
          intro k
          unfold dueRow
          have l1 := leaf.1
          generalize rD rs i = r at l1
          by_cases h1 : r.w = .fact
          · rw [if_pos h1, if_pos h1]
          · have h2 : r.w = .tt ∨ r.w = .ff := by
              unfold Wd.leaf at l1
              simp only [Bool.or_eq_true, beq_iff_eq] at l1
              rcases l1 with (z | z) | z
              · exact .inl z
              · exact .inr z
              · exact absurd z h1
            rw [if_neg h1, if_pos h2, if_neg h1]
        constructor
        · intro h k hk
          rw [hd k]
          exact h k hk
        · intro h k hk
          have := h k hk
          rw [hd k] at this
          exact this
    -- not a leaf
    obtain ⟨n1, n2⟩ := Bool.or_eq_false_iff.mp b1
    have nl : ¬ (rD rs i).l = -1 := of_decide_eq_false n1
    have nfact : ¬ (rD rs i).w = .fact := of_decide_eq_false n2
    have kind : ((rD rs i).w.leaf = false) ∧ ∃ l m : Nat, (rD rs i).l = (l : Int) ∧ l < i ∧ m < i ∧ (((rD rs i).r = -1 ∧ m = l) ∨ (rD rs i).r = (m : Int)) := by
      rcases ok with ⟨o1, o2, o3⟩ | ⟨o1, o2, l, o3, o4⟩ | ⟨o1, l, m, o3, o4, o5, o6⟩
      · exfalso
        rcases o3 with ⟨_, o3⟩ | ⟨o3, _⟩
        · exact nl o3
        · exact nfact o3
      · refine ⟨?_, l, l, o3, o4, o4, .inl ⟨o2, rfl⟩⟩
        revert o1
        cases (rD rs i).w <;> first | (intro _; rfl) | (intro z; cases z)
      · refine ⟨?_, l, m, o3, o4, o6, .inr o5⟩
        revert o1
        cases (rD rs i).w <;> first | (intro _; rfl) | (intro z; cases z)
    obtain ⟨nleaf, l, m, el, hl, hm, hr2⟩ := kind
    have e14 := e13.trans e4
    rw [el]
    obtain ⟨pf, epf, hpf⟩ := ev_tab (σ := [some (.ref x), some (.int (i : Int)), some (.ref a), some (.ref c), some (.ref y), some (.str (rD rs i).w.s), some (.int (l : Int)), some (.int (rD rs i).r), some (.ref pt), some (.ref pr), none, none]) (ta := tFld K (tVar 4) "truths") (tb := tVar 6) (i := l) (fT rfl) (ev_var rfl) hT (by rw [tT.hl]; omega)
    refine q_asg (Ev.mono e14 epf) fun H5 e5 => ?_
    have e15 := e14.trans e5
    obtain ⟨ps, eps, hps⟩ : ∃ ps, Ev (tIf (tTest (tOp rEq (tVar 7) (tUn (rU fun i => .int (-i)) (tC (.int 1))))) (tVar 10) (tOp (rIxL K) (tFld K (tVar 4) "truths") (tVar 7))) [some (.ref x), some (.int (i : Int)), some (.ref a), some (.ref c), some (.ref y), some (.str (rD rs i).w.s), some (.int (l : Int)), some (.int (rD rs i).r), some (.ref pt), some (.ref pr), some (.ref pf), none] H (.ref ps) ∧ SqL K H ps ((T'.getD m []).map V.bl) := by
      rcases hr2 with ⟨h1, h2⟩ | h1
      · subst h2
        exact ⟨pf, ev_if (b := true) (et_test (ev_eq (ev_var rfl) (ev_un ev_c ru_neg) rfl (by rw [h1]; rfl))) (fun _ => ev_var rfl) (fun z => by cases z), hpf⟩
      · obtain ⟨ps, eps, hps⟩ := ev_tab (σ := [some (.ref x), some (.int (i : Int)), some (.ref a), some (.ref c), some (.ref y), some (.str (rD rs i).w.s), some (.int (l : Int)), some (.int (m : Int)), some (.ref pt), some (.ref pr), some (.ref pf), none]) (ta := tFld K (tVar 4) "truths") (tb := tVar 7) (i := m) (fT rfl) (ev_var rfl) hT (by rw [tT.hl]; omega)
        refine ⟨ps, ?_, hps⟩
        rw [h1]
        exact ev_if (b := false) (et_test (ev_eq (ev_var rfl) (ev_un ev_c ru_neg) rfl (by rw [dec_int]; exact decide_eq_false (by omega)))) (fun z => by cases z) (fun _ => eps)
    refine q_asg (Ev.mono e15 eps) fun H6 e6 => ?_
    have e16 := e15.trans e6
    have lf := tT.get (show l < rs.length by omega)
    have ls := tT.get (show m < rs.length by omega)
    have em : (if (rD rs i).r = -1 then (rD rs i).l else (rD rs i).r).toNat = m := by
      rcases hr2 with ⟨h1, h2⟩ | h1
      · rw [if_pos h1, el, h2]; rfl
      · rw [if_neg (by omega), h1]; rfl
    have el' : (rD rs i).l.toNat = l := by rw [el]; rfl
    have tfl : Ev (tFld K (tVar 0) "temporal") [some (.ref x), some (.int (i : Int)), some (.ref a), some (.ref c), some (.ref y), some (.str (rD rs i).w.s), some (.int (l : Int)), some (.int (rD rs i).r), some (.ref pt), some (.ref pr), some (.ref pf), some (.ref ps)] H (.ref ta) := ev_fld (ev_var rfl) hx (T.cls 58) (T.noat 66) rfl
    have hin : Ev (tOp (rIn K false) (tVar 1) (tFld K (tVar 0) "temporal")) [some (.ref x), some (.int (i : Int)), some (.ref a), some (.ref c), some (.ref y), some (.str (rD rs i).w.s), some (.int (l : Int)), some (.int (rD rs i).r), some (.ref pt), some (.ref pr), some (.ref pf), some (.ref ps)] H (.bl (!(rD rs i).w.plain)) := by
      have e := ev_op (ev_var (i := 1) rfl) tfl (rv_isL (x := .int (i : Int)) htmp rfl (by rw [List.all_map]; exact List.all_eq_true.mpr fun _ _ => rfl))
      rw [inV_nat, mem_temporals hi, nleaf, Bool.false_or] at e
      exact e
    have kinds : (!(rD rs i).w.plain && (!decide ((rD rs i).w = .ex) && !decide ((rD rs i).w = .ax))) = (rD rs i).w.path := by
      revert nleaf
      cases (rD rs i).w <;> first | (intro _; rfl) | (intro z; cases z)
    refine q_when (b := (rD rs i).w.path) (et_is (et_and (et_test (Ev.mono e16 hin)) fun _ => et_and (et_test (ev_ne (ev_var rfl) ev_c rfl (by rw [← dec_wd (a := (rD rs i).w) (b := .ex)]; rfl))) fun _ => et_test (ev_ne (ev_var rfl) ev_c rfl (by rw [← dec_wd (a := (rD rs i).w) (b := .ax)]; rfl))) kinds) (fun b2 H7 e7 => ?_) (fun b2 H7 e7 => ?_)
    · obtain ⟨b, hb⟩ := bool_of (∀ k, k < g.length → PathOk (rD rs i).w g (T'.getD l []) (T'.getD m []) (T'.getD i []) (R.getD i []) k)
      refine s_ret (Ev.mono (e16.trans e7) (ev_call (z := .bl b) (ea_cons (ev_var rfl) (ea_cons (ev_var rfl) (ea_cons (ev_var rfl) (ea_cons (ev_var rfl) (ea_cons (ev_var rfl) (ea_cons (ev_var rfl) ea_nil)))))) fun H1 e' Q q E =>
        ⟨(rD rs i).w, a, pf, ps, pt, pr, g, T'.getD l [], T'.getD m [], T'.getD i [], R.getD i [], rfl, ha.mono e', ex_l e' hpf, ex_l e' hps, ex_l e' hpt, ex_l e' hpr, G, lf, ls, lt, lR, RetB.of hb q⟩)) fun H8 e8 => q b ?_ H8 ((e16.trans e7).trans e8)
      · rw [hb]
        have hd : ∀ k, dueRow g F T' (rD rs i) (R.getD i []) k = (decide (0 ≤ dueR (g.getD k []) (thW (rD rs i).w (T'.getD l []) k) (goW (rD rs i).w (T'.getD l []) (T'.getD m []) k) (rD rs i).w.some (R.getD i [])) != (rD rs i).w.great,
            dueR (g.getD k []) (thW (rD rs i).w (T'.getD l []) k) (goW (rD rs i).w (T'.getD l []) (T'.getD m []) k) (rD rs i).w.some (R.getD i [])) := by
          intro k
          unfold dueRow
          rw [em, el']
          revert b2
          generalize rD rs i = r
          intro b2
          rw [if_neg (by intro z; rw [z] at b2; exact absurd b2 (by decide)), if_neg (by intro z; rcases z with z | z <;> (rw [z] at b2; exact absurd b2 (by decide))), if_neg (path_next b2), if_neg (path_plain b2)]
        constructor
        · intro h k hk
          rw [hd k]
          exact h k hk
        · intro h k hk
          have := h k hk
          rw [hd k] at this
          exact this
    · obtain ⟨b, hb⟩ := bool_of (∀ k, k < g.length → PlainOk (rD rs i).w g (T'.getD l []) (T'.getD m []) (T'.getD i []) (R.getD i []) k)
      refine s_ret (Ev.mono (e16.trans e7) (ev_call (z := .bl b) (ea_cons (ev_var rfl) (ea_cons (ev_var rfl) (ea_cons (ev_var rfl) (ea_cons (ev_var rfl) (ea_cons (ev_var rfl) (ea_cons (ev_var rfl) ea_nil)))))) fun H1 e' Q q E =>
        ⟨(rD rs i).w, a, pf, ps, pt, pr, g, T'.getD l [], T'.getD m [], T'.getD i [], R.getD i [], rfl, ha.mono e', ex_l e' hpf, ex_l e' hps, ex_l e' hpt, ex_l e' hpr, G, lf, ls, lt, lR, RetB.of hb q⟩)) fun H8 e8 => q b ?_ H8 ((e16.trans e7).trans e8)
      · rw [hb]
        have hd : ∀ k, dueRow g F T' (rD rs i) (R.getD i []) k = ((if (rD rs i).w.next = true then nextT (rD rs i).w (T'.getD l []) (g.getD k []) else plainT (rD rs i).w ((T'.getD l []).getD k false) ((T'.getD m []).getD k false)), -1) := by
          intro k
          unfold dueRow
          rw [em, el']
          revert b2 nleaf
          generalize rD rs i = r
          intro nleaf b2
          rw [if_neg (by intro z; rw [z] at nleaf; exact absurd nleaf (by decide)), if_neg (by intro z; rcases z with z | z <;> (rw [z] at nleaf; exact absurd nleaf (by decide)))]
          by_cases h3 : r.w.next = true
          · rw [if_pos h3, if_pos h3]
          · rw [if_neg h3, if_neg h3, if_pos (plain_of b2 nleaf h3)]
        constructor
        · intro h k hk
          rw [hd k]
          exact h k hk
        · intro h k hk
          have := h k hk
          rw [hd k] at this
          exact this
end
end K94

/-! D_has_shape -/
namespace K94
open PySem PySem.Spec PyProof.Rows L2 Evl
def sp_has_shape (K : PySem.W.Frag) : Sp := fun vs H Q _ => ∃ (α : Type) (f : α → V) (a : Addr) (T : List (List α)) (h n : Nat), vs = [.ref a, .int (h : Int), .int (n : Int)] ∧ Tab K H f a T ∧ Tb h n T ∧ h ≤ 1000 ∧ RetV (.bl true) H Q
section
variable {P : Program} {w : World} {K : PySem.W.Frag} {mg : Str → Option Value} {base : Heap}
theorem ok_has_shape (T : Txt w K mg) : Ok P w K mg base 1 ("has_shape", none) ["table", "count", "length"] (sp_has_shape K) := by
  obtain ⟨fd, F⟩ := T.def_ 15 _ rfl
  have S : FnScope ["table", "count", "length", "row"] ["table", "count", "length"] (defScope (top 21)) := ⟨rfl, rfl, rfl, by decide +kernel, rfl, by decide +kernel, by decide +kernel⟩
  refine ⟨fd, F.ok S (fun vs H Q E h => ?_) (fun cdv A outer s H vs Q E hr h => ?_), F.bindsN fun _ _ _ _ _ _ us hl => match us, hl with | [_, _, _], _ => rfl, F.kp⟩
  · obtain ⟨_, _, _, _, _, _, rfl, _⟩ := h
    rfl
  · have hu := hu_of hr
    have hu64 := hr.units
    have hu65 := hu65_of hr
    refine ⟨_, PSs.nox (pss_one (ps_ret (pe_and (pe_cmpR op_eq (pe_callB (cLen (K := K)) rfl (T.f 45) (by decide +kernel) (pa_cons (pv 0) pa_nil)) (pv 1) (nomark _)) (pe_one (pe_callB (cAll (K := K)) rfl (T.f 48) (by decide +kernel) (pa_cons (pe_lc rfl S.nd  (piList (K := K) (pv 0)) (blkOk_by (own := [("row", 3)]) (by kernel_rfl)) (fun _ _ _ _ _ => (pg_name (i := 3) S.nd rfl (Or.inl rfl))) (fun _ _ _ _ _ => pts_nil) (fun _ _ _ _ _ => (pe_cmpR op_eq (pe_callB (cLen (K := K)) rfl (T.f 45) (by decide +kernel) (pa_cons (pv 3) pa_nil)) (pv 2) (nomark _)))) pa_nil)))))), ?_⟩
    obtain ⟨α, f, a, T', h, n, rfl, ha, t, hz, q⟩ := h
    obtain ⟨ps, h1, h2, h3⟩ := ha
    have hl := t.hl
    have e1 : Ev (tOp rEq (tCB (rLenS K) (tCons (tVar 0) tNil)) (tVar 1)) (start ["table", "count", "length", "row"] [.ref a, .int (h : Int), .int (n : Int)]) H (.bl true) :=
      ev_eq (ev_lenM (f := V.ref) (ev_var rfl) h1) (ev_var rfl) rfl (by rw [h2, hl]; exact decide_eq_true rfl)
    have e2 := el_comp (te := tOp rEq (tCB (rLenS K) (tCons (tVar 3) tNil)) (tVar 2)) (t := tYes) (σ := start ["table", "count", "length", "row"] [.ref a, .int (h : Int), .int (n : Int)]) (H := H) (vs := [3]) (fun _ => true) (fun _ => V.bl true) (wk_listM (f := V.ref) 0 (tl := tVar 0) (j := 3) (ev_var rfl) h1) (by omega) (fun i => rfl)
      (fun i hi H1 _ _ q => q H1 (Ex.refl _)) (fun i hi _ => ev_eq (ev_lenM (f := f) (ev_var rfl) (h3 i (by omega))) (ev_var rfl) rfl (by rw [t.wl _ (getD_mem (by omega))]; exact decide_eq_true rfl))
    have e3 : given ps.length (fun _ => true) (fun _ => V.bl true) = ((List.range ps.length).map fun _ => true).map V.bl := given_map (h := V.bl) (c := fun _ => true)
    have e4 : ((List.range ps.length).map fun _ => true).all id = true := by rw [List.all_map]; exact List.all_eq_true.mpr fun _ _ => rfl
    have e5 := ev_allN (K := K) (el_is e2 e3)
    rw [e4] at e5
    exact s_ret (ev_andV e1 fun _ => e5) q
end
end K94

/-! D_accepts_answer -/
namespace K94
open PySem PySem.Spec PyProof.Rows L2 Evl
def sp_accepts_answer (K : PySem.W.Frag) : Sp := fun vs H Q _ => ∃ (a c x y : Addr) (nf : Nat) (g : List (List Nat)) (F T : List (List Bool)) (R : List (List Int)) (rs : List Row), vs = [.ref a, .ref c, .ref x, .ref y] ∧ RowsAt K H x rs ∧ Tab K H nI a g ∧ Tab K H V.bl c F ∧ AnsAt K H y T R ∧
  Gok g ∧ rs.length ≤ 1000 ∧ (∀ i, i < rs.length → RowOk nf i (rD rs i)) ∧ Tb g.length nf F ∧ Tb rs.length g.length T ∧ Tb rs.length g.length R ∧ RetB (Fits g F rs T R) H Q
section
variable {P : Program} {w : World} {K : PySem.W.Frag} {mg : Str → Option Value} {base : Heap}
theorem ok_accepts_answer (T : Txt w K mg) : Ok P w K mg base 5 ("accepts_answer", none) ["after", "facts", "rows", "found"] (sp_accepts_answer K) := by
  obtain ⟨fd_row_holds, G_row_holds, b_row_holds, k_row_holds⟩ := ok_row_holds (P := P) (base := base) T
  obtain ⟨fd_has_shape, G_has_shape, b_has_shape, k_has_shape⟩ := ok_has_shape (P := P) (base := base) T
  obtain ⟨fd, F⟩ := T.def_ 23 _ rfl
  have S : FnScope ["after", "facts", "rows", "found", "count", "number"] ["after", "facts", "rows", "found"] (defScope (top 29)) := ⟨rfl, rfl, rfl, by decide +kernel, rfl, by decide +kernel, by decide +kernel⟩
  refine ⟨fd, F.ok S (fun vs H Q E h => ?_) (fun cdv A outer s H vs Q E hr h => ?_), F.bindsN fun _ _ _ _ _ _ us hl => match us, hl with | [_, _, _, _], _ => rfl, F.kp⟩
  · obtain ⟨_, _, _, _, _, _, _, _, _, _, rfl, _⟩ := h
    rfl
  · have hu := hu_of hr
    have hu64 := hr.units
    have hu65 := hu65_of hr
    refine ⟨_, PSs.nox (pss_cons (ps_set (i := 4) S.nd rfl (Or.inl rfl) (pe_callB (cLen (K := K)) rfl (T.f 45) (by decide +kernel) (pa_cons (peFld (K := K) (pv 2)) pa_nil)))
      (pss_cons (ps_if (PW.pt (pw_or (pt_not (pt_val (pe_call G_has_shape (hr.mono (by decide)) rfl (T.g 9) k_has_shape b_has_shape .nil pass0 (pa_cons (peFld (K := K) (pv 3)) (pa_cons (pv 4) (pa_cons (pe_callB (cLen (K := K)) rfl (T.f 45) (by decide +kernel) (pa_cons (pv 0) pa_nil)) pa_nil)))))) (pw_or1 (pt_not (pt_val (pe_call G_has_shape (hr.mono (by decide)) rfl (T.g 9) k_has_shape b_has_shape .nil pass0 (pa_cons (peFld (K := K) (pv 3)) (pa_cons (pv 4) (pa_cons (pe_callB (cLen (K := K)) rfl (T.f 45) (by decide +kernel) (pa_cons (pv 0) pa_nil)) pa_nil))))))))) (pss_one (ps_ret pe_bl)) pss_nil)
      (pss_cons (ps_for PassesOwn.never rfl (pi_range1 (by rfl) (T.f 52) (pa_cons (pv 4) pa_nil)) (pg_name (i := 5) S.nd rfl (Or.inl rfl)) (pss_one (ps_if (pt_not (pt_val (pe_call G_row_holds (hr.mono (by decide)) rfl (T.g 16) k_row_holds b_row_holds .nil pass0 (pa_cons (pv 2) (pa_cons (pv 5) (pa_cons (pv 0) (pa_cons (pv 1) (pa_cons (pv 3) pa_nil)))))))) (pss_one (ps_ret pe_bl)) pss_nil)))
      (pss_one (ps_ret pe_bl))))), ?_⟩
    obtain ⟨a, c, x, y, nf, g, F, T', R, rs, rfl, hx, ha, hc, hy, G, hz, ok, tF, tT, tR, q⟩ := h
    have hx' := hx
    have hy' := hy
    obtain ⟨dx, fa, ra, ta, hx, hrow, htmp⟩ := hx
    obtain ⟨dy, tt, rr, hy, hT, hR⟩ := hy
    have hT := hT.tab (K := K)
    have hR := hR.tab (K := K)
    have hn := G.len
    refine q_asg (ev_lenR (ev_fld (ev_var rfl) hx (T.cls 58) (T.noat 65) rfl) hrow) fun H1 e1 => ?_
    have s1 : Ev (tCall (sp_has_shape K) [] E0 (tCons (tFld K (tVar 3) "truths") (tCons (tVar 4) (tCons (tCB (rLenS K) (tCons (tVar 0) tNil)) tNil)))) [some (.ref a), some (.ref c), some (.ref x), some (.ref y), some (.int (rs.length : Int)), none] H (.bl true) :=
      ev_call (ea_cons (ev_fld (ev_var rfl) hy (T.cls 60) (T.noat 70) rfl) (ea_cons (ev_var rfl) (ea_cons (ev_lenT (ev_var rfl) ha) ea_nil))) fun H1 e' Q q E => ⟨Bool, V.bl, tt, T', rs.length, g.length, rfl, hT.mono e', tT, hz, q⟩
    have s2 : Ev (tCall (sp_has_shape K) [] E0 (tCons (tFld K (tVar 3) "ranks") (tCons (tVar 4) (tCons (tCB (rLenS K) (tCons (tVar 0) tNil)) tNil)))) [some (.ref a), some (.ref c), some (.ref x), some (.ref y), some (.int (rs.length : Int)), none] H (.bl true) :=
      ev_call (ea_cons (ev_fld (ev_var rfl) hy (T.cls 60) (T.noat 71) rfl) (ea_cons (ev_var rfl) (ea_cons (ev_lenT (ev_var rfl) ha) ea_nil))) fun H1 e' Q q E => ⟨Int, V.int, rr, R, rs.length, g.length, rfl, hR.mono e', tR, hz, q⟩
    refine q_when (b := false) (EvT.mono e1 (et_or (et_not (et_B s1)) fun _ => et_not (et_B s2))) (fun z => by cases z) (fun _ H2 e2 => ?_)
    have e12 := e1.trans e2
    refine q_for (Hb := H) e12 (wk_range (n := rs.length) (ea_cons (ev_var rfl) ea_nil) (by omega))
      (fun i σ' H' => Ex H H' ∧ (∀ j, j < i → ∀ k, k < g.length → ((T'.getD j []).getD k false, (R.getD j []).getD k 0) = dueRow g F T' (rD rs j) (R.getD j []) k) ∧ ∃ z, σ' = [some (.ref a), some (.ref c), some (.ref x), some (.ref y), some (.int (rs.length : Int)), z]) (fun _ _ _ p => p.1)
      (fun H3 e3 => ⟨e12.trans e3, fun j hj => by omega, none, rfl⟩) ?_ ?_
    · rintro i σ' H' hi ⟨e3, pre, z, rfl⟩ H4 e4
      have e34 := e3.trans e4
      obtain ⟨b, hb⟩ := bool_of (∀ k, k < g.length → ((T'.getD i []).getD k false, (R.getD i []).getD k 0) = dueRow g F T' (rD rs i) (R.getD i []) k)
      refine s_when (b := !b) (EvT.mono e34 (et_not (et_B (ev_call (z := .bl b) (ea_cons (ev_var rfl) (ea_cons (ev_var rfl) (ea_cons (ev_var rfl) (ea_cons (ev_var rfl) (ea_cons (ev_var rfl) ea_nil))))) fun H1 e' Q q E =>
        ⟨x, a, c, y, i, nf, g, F, T', R, rs, rfl, hx'.mono e', ha.mono e', hc.mono e', hy'.mono e', G, hi, ok i hi, tF, tT, tR, RetB.of hb q⟩)))) (fun c1 H5 e5 => ?_) (fun c1 H5 e5 => ?_)
      · refine s_ret ev_c fun H6 e6 => q.no (fun z => ?_) ((e34.trans e5).trans e6)
        have := hb.mpr (z i hi)
        rw [this] at c1
        cases c1
      · refine ⟨e34.trans e5, fun j hj => ?_, _, rfl⟩
        by_cases hji : j < i
        · exact pre j hji
        · have ej : j = i := by omega
          subst ej
          exact hb.mp (by cases b <;> first | rfl | cases c1)
    · rintro σ' H' ⟨e3, all, z, rfl⟩
      exact s_ret ev_c fun H4 e4 => q.yes all (e3.trans e4)
end
end K94

/-! D_law_plain -/
namespace K94
open PySem PySem.Spec PyProof.Rows L2 Evl
def sp__law_plain (K : PySem.W.Frag) : Sp := fun vs H Q _ => ∃ (w : Wd) (a b : Bool), vs = [.str w.s, .bl a, .bl b] ∧ RetV (.bl (plainT w a b)) H Q
section
variable {P : Program} {w : World} {K : PySem.W.Frag} {mg : Str → Option Value} {base : Heap}
theorem ok__law_plain (T : Txt w K mg) : Ok P w K mg base 1 ("_law_plain", none) ["_law_word", "_law_one", "_law_two"] (sp__law_plain K) := by
  obtain ⟨fd, F⟩ := T.def_ 34 _ rfl
  have S : FnScope ["_law_word", "_law_one", "_law_two"] ["_law_word", "_law_one", "_law_two"] (defScope (top 41)) := ⟨rfl, rfl, rfl, by decide +kernel, rfl, by decide +kernel, by decide +kernel⟩
  refine ⟨fd, F.ok S (fun vs H Q E h => ?_) (fun cdv A outer s H vs Q E hr h => ?_), F.bindsN fun _ _ _ _ _ _ us hl => match us, hl with | [_, _, _], _ => rfl, F.kp⟩
  · obtain ⟨_, _, _, rfl, _⟩ := h
    rfl
  · have hu := hu_of hr
    have hu64 := hr.units
    have hu65 := hu65_of hr
    refine ⟨_, PSs.nox (pss_cons (ps_if (pt_cmpR op_eq (pv 0) pe_str (nomark _)) (pss_one (ps_ret (pe_not (pv 1)))) pss_nil)
      (pss_cons (ps_if (pt_cmpR op_eq (pv 0) pe_str (nomark _)) (pss_one (ps_ret (pe_and (pv 1) (pe_one (pv 2))))) pss_nil)
      (pss_cons (ps_if (pt_cmpR op_eq (pv 0) pe_str (nomark _)) (pss_one (ps_ret (pe_or (pv 1) (pe_one (pv 2))))) pss_nil)
      (pss_cons (ps_if (pt_cmpR op_eq (pv 0) pe_str (nomark _)) (pss_one (ps_ret (pe_or (pv 2) (pe_one (pe_not (pv 1)))))) pss_nil)
      (pss_one (ps_ret (pe_cmpR op_eq (pv 1) (pv 2) (nomark _)))))))), ?_⟩
    obtain ⟨w, a, b, rfl, q⟩ := h
    refine q_when (et_test (ev_eq (ev_var rfl) ev_c rfl (dec_wd (b := .not)))) (fun c H1 e1 => ?_) (fun c1 H1 e1 => ?_)
    · cases of_decide_eq_true c
      exact s_ret (ev_notV (ev_var rfl)) fun H2 e2 => q _ (e1.trans e2)
    refine q_when (et_test (ev_eq (ev_var rfl) ev_c rfl (dec_wd (b := .and)))) (fun c H2 e2 => ?_) (fun c2 H2 e2 => ?_)
    · cases of_decide_eq_true c
      exact s_ret (ev_andV (ev_var rfl) fun _ => ev_var rfl) fun H3 e3 => q _ ((e1.trans e2).trans e3)
    refine q_when (et_test (ev_eq (ev_var rfl) ev_c rfl (dec_wd (b := .or)))) (fun c H3 e3 => ?_) (fun c3 H3 e3 => ?_)
    · cases of_decide_eq_true c
      exact s_ret (ev_orV (ev_var rfl) fun _ => ev_var rfl) fun H4 e4 => q _ (((e1.trans e2).trans e3).trans e4)
    refine q_when (et_test (ev_eq (ev_var rfl) ev_c rfl (dec_wd (b := .imp)))) (fun c H4 e4 => ?_) (fun c4 H4 e4 => ?_)
    · cases of_decide_eq_true c
      refine s_ret (ev_orV (ev_var rfl) fun _ => ev_notV (ev_var rfl)) fun H5 e5 => ?_
      have e : plainT .imp a b = (b || !a) := by cases a <;> cases b <;> rfl
      rw [← e]
      exact q _ ((((e1.trans e2).trans e3).trans e4).trans e5)
    refine s_ret (ev_eq (ev_var rfl) (ev_var rfl) rfl dec_bl') fun H5 e5 => ?_
    have e : plainT w a b = (a == b) := by
      unfold plainT
      cases w <;> first | rfl | exact absurd rfl (of_decide_eq_false c1) | exact absurd rfl (of_decide_eq_false c2) | exact absurd rfl (of_decide_eq_false c3) | exact absurd rfl (of_decide_eq_false c4)
    rw [← e]
    exact q _ ((((e1.trans e2).trans e3).trans e4).trans e5)
end
end K94

/-! D_law_due -/
namespace K94
open PySem PySem.Spec PyProof.Rows L2 Evl
theorem ev_chU {σ : L2.St} {H : Hp} {ta : TE} {w : Wd} (ha : Ev ta σ H (.str w.s)) : Ev (tOp rEq (tOp rIxS ta (tC (.int 1))) (tC (.str "u"))) σ H (.bl w.u) := by
  cases w <;> exact ev_eq (ev_op ha ev_c (rv_ixS (by decide +kernel) rfl)) ev_c rfl (by decide +kernel)
theorem any_len {l : List Nat} {p : Nat → Bool} : decide ((0 : Int) < (((l.filter p).map nI).length : Int)) = l.any p := by
  rw [List.length_map]
  cases h : l.any p with
  | true =>
    obtain ⟨x, h1, h2⟩ := List.any_eq_true.mp h
    have := List.length_pos_of_mem (List.mem_filter.mpr ⟨h1, h2⟩)
    exact decide_eq_true (by omega)
  | false =>
    have : l.filter p = [] := List.filter_eq_nil_iff.mpr fun x hx => by simpa using List.any_eq_false.mp h x hx
    rw [this]
    rfl
theorem all_len {l : List Nat} {p : Nat → Bool} : decide ((((l.filter fun j => !p j).map nI).length : Int) = 0) = l.all p := by
  rw [List.length_map]
  cases h : l.all p with
  | true =>
    have : (l.filter fun j => !p j) = [] := List.filter_eq_nil_iff.mpr fun x hx => by have := List.all_eq_true.mp h x hx; simp [this]
    rw [this]
    rfl
  | false =>
    obtain ⟨x, h1, h2⟩ := List.all_eq_false.mp h
    have hm : x ∈ l.filter (fun j => !p j) := List.mem_filter.mpr ⟨h1, by simpa using h2⟩
    have := List.length_pos_of_mem hm
    exact decide_eq_false (by omega)
theorem in_plain5 (w : Wd) : inV (.str w.s) [.str "not", .str "and", .str "or", .str "implies", .str "same"] = w.plain := by cases w <;> decide +kernel
def sp__law_due (K : PySem.W.Frag) : Sp := fun vs H Q _ => ∃ (i k : Nat) (a c l pt pr : Addr) (nf : Nat) (g : List (List Nat)) (F T : List (List Bool)) (R : List (List Int)) (rs : List Row), vs = [nI i, nI k, .ref a, .ref c, .ref l, .ref pt, .ref pr] ∧ Tab K H nI a g ∧ Tab K H V.bl c F ∧ RowL K H l rs ∧ Tab K H V.bl pt T ∧ Tab K H V.int pr R ∧
  Gok g ∧ RowOk nf i (rD rs i) ∧ Tb g.length nf F ∧ Tb rs.length g.length T ∧ Tb rs.length g.length R ∧ i < rs.length ∧ k < g.length ∧
  ∀ p H', Ex H H' → H' p = some (.tup [.bl (dueLaw g F T (rD rs i) (T.getD i []) (R.getD i []) k).1, .int (dueLaw g F T (rD rs i) (T.getD i []) (R.getD i []) k).2]) → Q (.ref p) H'
section
variable {P : Program} {w : World} {K : PySem.W.Frag} {mg : Str → Option Value} {base : Heap}
theorem ok__law_due (T : Txt w K mg) : Ok P w K mg base 2 ("_law_due", none) ["_law_number_here", "_law_k", "_law_after", "_law_facts", "_law_rows", "_law_truths", "_law_ranks_here"] (sp__law_due K) := by
  obtain ⟨fd__law_plain, G__law_plain, b__law_plain, k__law_plain⟩ := ok__law_plain (P := P) (base := base) T
  obtain ⟨fd, F⟩ := T.def_ 36 _ rfl
  have S : FnScope ["_law_number_here", "_law_k", "_law_after", "_law_facts", "_law_rows", "_law_truths", "_law_ranks_here", "_law_word", "_law_left", "_law_one", "_law_two", "_law_falls", "_law_near", "_law_some", "_law_j"] ["_law_number_here", "_law_k", "_law_after", "_law_facts", "_law_rows", "_law_truths", "_law_ranks_here"] (defScope (top 43)) := ⟨rfl, rfl, rfl, by decide +kernel, rfl, by decide +kernel, by decide +kernel⟩
  refine ⟨fd, F.ok S (fun vs H Q E h => ?_) (fun cdv A outer s H vs Q E hr h => ?_), F.bindsN fun _ _ _ _ _ _ us hl => match us, hl with | [_, _, _, _, _, _, _], _ => rfl, F.kp⟩
  · obtain ⟨_, _, _, _, _, _, _, _, _, _, _, _, _, rfl, _⟩ := h
    rfl
  · have hu := hu_of hr
    have hu64 := hr.units
    have hu65 := hu65_of hr
    refine ⟨_, PSs.nox (pss_cons (ps_set (i := 7) S.nd rfl (Or.inl rfl) (pe_ix (ixT (K := K)) (pe_ix (ixL (K := K)) (pv 4) (pv 0) (fun _ _ => rfl)) pe_int (fun _ _ => rfl)))
      (pss_cons (ps_set (i := 8) S.nd rfl (Or.inl rfl) (pe_ix (ixT (K := K)) (pe_ix (ixL (K := K)) (pv 4) (pv 0) (fun _ _ => rfl)) pe_int (fun _ _ => rfl)))
      (pss_cons (ps_if (pt_cmpR op_eq (pv 7) pe_str (nomark _)) (pss_one (ps_ret (pe_tup (pa_cons (pe_ix (ixL (K := K)) (pe_ix (ixL (K := K)) (pv 3) (pv 1) (fun _ _ => rfl)) (pv 8) (fun _ _ => rfl)) (pa_cons (pe_un un_neg pe_int) pa_nil))))) pss_nil)
      (pss_cons (ps_if (PW.pt (pw_or (pt_cmpR op_eq (pv 7) pe_str (nomark _)) (pw_or1 (pt_cmpR op_eq (pv 7) pe_str (nomark _))))) (pss_one (ps_ret (pe_tup (pa_cons (pe_cmpR op_eq (pv 7) pe_str (nomark _)) (pa_cons (pe_un un_neg pe_int) pa_nil))))) pss_nil)
      (pss_cons (ps_set (i := 9) S.nd rfl (Or.inr rfl) (pe_ix (ixL (K := K)) (pv 5) (pv 8) (fun _ _ => rfl)))
      (pss_cons (ps_set (i := 10) S.nd rfl (Or.inl rfl) (pe_ix (ixL (K := K)) (pv 5) (pv 8) (fun _ _ => rfl)))
      (pss_cons (ps_if (pt_cmpR op_ge (pe_ix (ixT (K := K)) (pe_ix (ixL (K := K)) (pv 4) (pv 0) (fun _ _ => rfl)) pe_int (fun _ _ => rfl)) pe_int (nomark _)) (pss_one (ps_set (i := 10) S.nd rfl (Or.inl rfl) (pe_ix (ixL (K := K)) (pv 5) (pe_ix (ixT (K := K)) (pe_ix (ixL (K := K)) (pv 4) (pv 0) (fun _ _ => rfl)) pe_int (fun _ _ => rfl)) (fun _ _ => rfl)))) pss_nil)
      (pss_cons (ps_if (pt_cmpR op_eq (pv 7) pe_str (nomark _)) (pss_one (ps_ret (pe_tup (pa_cons (pe_cmpR op_gt (pe_callB (cLen (K := K)) rfl (T.f 45) (by decide +kernel) (pa_cons (pe_lc rfl S.nd  (piList (K := K) (pe_ix (ixL (K := K)) (pv 2) (pv 1) (fun _ _ => rfl))) (blkOk_by (own := [("_law_j", 14)]) (by kernel_rfl)) (fun _ _ _ _ _ => (pg_name (i := 14) S.nd rfl (Or.inl rfl))) (fun _ _ _ _ _ => (pts_one (pt_val (pe_ix (ixL (K := K)) (pv 9) (pv 14) (fun _ _ => rfl))))) (fun _ _ _ _ _ => (pv 14))) pa_nil)) pe_int (nomark _)) (pa_cons (pe_un un_neg pe_int) pa_nil))))) pss_nil)
      (pss_cons (ps_if (pt_cmpR op_eq (pv 7) pe_str (nomark _)) (pss_one (ps_ret (pe_tup (pa_cons (pe_cmpR op_eq (pe_callB (cLen (K := K)) rfl (T.f 45) (by decide +kernel) (pa_cons (pe_lc rfl S.nd  (piList (K := K) (pe_ix (ixL (K := K)) (pv 2) (pv 1) (fun _ _ => rfl))) (blkOk_by (own := [("_law_j", 14)]) (by kernel_rfl)) (fun _ _ _ _ _ => (pg_name (i := 14) S.nd rfl (Or.inl rfl))) (fun _ _ _ _ _ => (pts_one (pt_not (pt_val (pe_ix (ixL (K := K)) (pv 9) (pv 14) (fun _ _ => rfl)))))) (fun _ _ _ _ _ => (pv 14))) pa_nil)) pe_int (nomark _)) (pa_cons (pe_un un_neg pe_int) pa_nil))))) pss_nil)
      (pss_cons (ps_if (pt_cmpR (opIn (K := K)) (pv 7) (pe_lst (pa_cons pe_str (pa_cons pe_str (pa_cons pe_str (pa_cons pe_str (pa_cons pe_str pa_nil)))))) (by rfl)) (pss_one (ps_ret (pe_tup (pa_cons (pe_call G__law_plain (hr.mono (by decide)) rfl (T.g 28) k__law_plain b__law_plain .nil pass0 (pa_cons (pv 7) (pa_cons (pe_ix (ixL (K := K)) (pv 9) (pv 1) (fun _ _ => rfl)) (pa_cons (pe_ix (ixL (K := K)) (pv 10) (pv 1) (fun _ _ => rfl)) pa_nil)))) (pa_cons (pe_un un_neg pe_int) pa_nil))))) pss_nil)
      (pss_cons (ps_set (i := 11) S.nd rfl (Or.inr rfl) (pe_or (pe_cmpR op_eq (pv 7) pe_str (nomark _)) (pe_one (pe_cmpR op_eq (pv 7) pe_str (nomark _)))))
      (pss_cons (ps_if (pt_cmpR op_ne (pe_ix (ixL (K := K)) (pv 10) (pv 1) (fun _ _ => rfl)) (pv 11) (nomark _)) (pss_one (ps_ret (pe_tup (pa_cons (pe_not (pv 11)) (pa_cons pe_int pa_nil))))) pss_nil)
      (pss_cons (ps_setLc (i := 12) rfl S.nd rfl rfl (sw_true rfl rfl rfl (by decide +kernel)) (piList (K := K) (pe_ix (ixL (K := K)) (pv 2) (pv 1) (fun _ _ => rfl))) (blkOk_by (own := [("_law_j", 14)]) (by kernel_rfl)) (fun _ _ _ _ _ => (pg_name (i := 14) S.nd rfl (Or.inl rfl))) (fun _ _ _ _ _ => (pts_one (pt_cmpR op_ne (pe_ix (ixL (K := K)) (pe_ix (ixL (K := K)) (pv 5) (pv 0) (fun _ _ => rfl)) (pv 14) (fun _ _ => rfl)) (pv 11) (nomark _)))) (fun _ _ _ _ _ => (pe_ix (ixL (K := K)) (pe_ix (ixL (K := K)) (pv 6) (pv 0) (fun _ _ => rfl)) (pv 14) (fun _ _ => rfl))))
      (pss_cons (ps_set (i := 13) S.nd rfl (Or.inl rfl) (pe_or (pe_cmpR op_eq (pv 7) pe_str (nomark _)) (pe_or (pe_cmpR op_eq (pv 7) pe_str (nomark _)) (pe_one (pe_cmpR op_eq (pv 7) pe_str (nomark _))))))
      (pss_cons (ps_if (PW.pt (pw_or (PW.pt (pw_and (pt_cmpR op_eq (pe_ix ix_str (pv 7) pe_int (fun _ _ => rfl)) pe_str (nomark _)) (pw_and1 (pt_not (pt_val (pe_ix (ixL (K := K)) (pv 9) (pv 1) (fun _ _ => rfl))))))) (pw_or (pt_cmpR op_eq (pe_callB (cLen (K := K)) rfl (T.f 45) (by decide +kernel) (pa_cons (pv 12) pa_nil)) pe_int (nomark _)) (pw_or1 (PW.pt (pw_and (pt_cmpR op_lt (pe_callB (cLen (K := K)) rfl (T.f 45) (by decide +kernel) (pa_cons (pv 12) pa_nil)) (pe_callB (cLen (K := K)) rfl (T.f 45) (by decide +kernel) (pa_cons (pe_ix (ixL (K := K)) (pv 2) (pv 1) (fun _ _ => rfl)) pa_nil)) (nomark _)) (pw_and1 (pt_not (pt_val (pv 13)))))))))) (pss_one (ps_ret (pe_tup (pa_cons (pv 11) (pa_cons (pe_un un_neg pe_int) pa_nil))))) pss_nil)
      (pss_cons (ps_if (pt_val (pv 13)) (pss_one (ps_ret (pe_tup (pa_cons (pe_not (pv 11)) (pa_cons (pe_op op_add pe_int (pe_callB (cMin (K := K)) rfl (T.f 50) (by decide +kernel) (pa_cons (pv 12) pa_nil))) pa_nil))))) pss_nil)
      (pss_one (ps_ret (pe_tup (pa_cons (pe_not (pv 11)) (pa_cons (pe_op op_add pe_int (pe_callB (cMax (K := K)) rfl (T.f 51) (by decide +kernel) (pa_cons (pv 12) pa_nil))) pa_nil))))))))))))))))))))), ?_⟩
    obtain ⟨i, k, a, c, l, pt, pr, nf, g, F, T', R, rs, rfl, ha, hc, hl, hpt, hpr, G, ok, tF, tT, tR, hi, hk, q⟩ := h
    obtain ⟨ps, l1, l2, l3⟩ := hl
    have hrow := l3 i hi
    revert hrow ok q
    generalize rD rs i = r
    intro ok q hrow
    obtain ⟨w, lft, rgt⟩ := r
    obtain ⟨as_, a1, a2, a3⟩ := ha
    obtain ⟨fs, f1, f2, f3⟩ := hc
    obtain ⟨ts, t1, t2, t3⟩ := hpt
    obtain ⟨rks, r1, r2, r3⟩ := hpr
    have hT := tT.hl
    have hR := tR.hl
    have hF := tF.hl
    have ret : ∀ {ta : TA} {σ : L2.St} {H1 : Hp} {t : Bool} {z : Int} {D : Ends}, Ex H H1 → EvA ta σ H1 [.bl t, .int z] → dueLaw g F T' ⟨w, lft, rgt⟩ (T'.getD i []) (R.getD i []) k = (t, z) → D.rt = Q → tRet (tTup ta) D σ H1 := fun e h1 h2 h3 =>
      s_retU (eu_tup h1 (by show 2 ≤ 100000; decide)) fun p H2 np e2 hp => by
        rw [h3]
        refine q p H2 (e.trans e2) ?_
        rw [h2]
        exact hp
    have erow : ∀ {σ : L2.St} {H1 : Hp}, Ex H H1 → σ[4]? = some (some (.ref l)) → σ[0]? = some (some (nI i)) → Ev (tOp (rIxL K) (tVar 4) (tVar 0)) σ H1 (.ref (ps.getD i 0)) := fun e h1 h2 => ev_ixM 0 (ev_var h1) (ev_var h2) (ex_l e l1) (by omega)
    refine q_asg (ev_op (erow (Ex.refl _) rfl rfl) ev_c (rv_ixT hrow rfl)) fun H1 e1 => ?_
    refine q_asg (ev_op (erow e1 rfl rfl) ev_c (rv_ixT (ex_t e1 hrow) rfl)) fun H2 e2 => ?_
    have e02 := e1.trans e2
    have neg : ∀ {σ : L2.St} {H1 : Hp}, Ev (tUn (rU fun i => .int (-i)) (tC (.int 1))) σ H1 (.int (-1)) := ev_un ev_c ru_neg
    refine q_when (et_test (ev_eq (ev_var rfl) ev_c rfl (dec_wd (b := .fact)))) (fun c1 H3 e3 => ?_) (fun c1 H3 e3 => ?_)
    · have c1 := of_decide_eq_true c1
      cases c1
      obtain ⟨l', rfl, hl'⟩ : ∃ l' : Nat, lft = l' ∧ l' < nf := by
        rcases ok with ⟨_, _, o3⟩ | ⟨o1, _⟩ | ⟨o1, _⟩
        · rcases o3 with ⟨o3, _⟩ | ⟨_, l', o4, o5⟩
          · exact absurd rfl o3
          · exact ⟨l', o4, o5⟩
        · exact absurd (show Wd.one .fact = true from o1) (by decide)
        · exact absurd (show Wd.two .fact = true from o1) (by decide)
      have hfr : (F.getD k []).length = nf := tF.get hk
      refine ret (e02.trans e3) (ea_cons (ev_ixM false (ev_ixM 0 (ev_var rfl) (ev_var rfl) (ex_l (e02.trans e3) f1) (by omega)) (ev_var rfl) (ex_l (e02.trans e3) (f3 k (by omega))) (by omega)) (ea_cons neg ea_nil)) ?_ rfl
      unfold dueLaw
      rw [if_pos rfl]
      rfl
    have d1 := of_decide_eq_false c1
    refine q_when (b := decide (w = .tt) || decide (w = .ff)) (et_or (et_test (ev_eq (ev_var rfl) ev_c rfl (dec_wd (b := .tt)))) fun _ => et_test (ev_eq (ev_var rfl) ev_c rfl (dec_wd (b := .ff)))) (fun c2 H4 e4 => ?_) (fun c2 H4 e4 => ?_)
    · have c2' : w = .tt ∨ w = .ff := by simpa using c2
      refine ret ((e02.trans e3).trans e4) (ea_cons (ev_eq (b := w == .tt) (ev_var rfl) ev_c rfl (dec_wd (b := .tt))) (ea_cons neg ea_nil)) ?_ rfl
      unfold dueLaw
      rw [if_neg d1, if_pos c2']
    have d2 : ¬ (w = .tt ∨ w = .ff) := by simpa using c2
    have e04 := (e02.trans e3).trans e4
    have nl : ¬ w.leaf = true := fun o1 => by
      revert d1 d2 o1
      cases w <;> intro d1 d2 o1 <;> first | exact absurd o1 (by decide) | exact absurd rfl d1 | exact absurd (.inl rfl) d2 | exact absurd (.inr rfl) d2
    obtain ⟨l', rfl, hl'⟩ : ∃ l' : Nat, lft = l' ∧ l' < i := by
      rcases ok with ⟨o1, _⟩ | ⟨_, _, l', o4, o5⟩ | ⟨_, l', m, o4, o5, _⟩
      · have o1 : w.leaf = true := o1
        exact (nl o1).elim
      · exact ⟨l', o4, o5⟩
      · exact ⟨l', o4, o5⟩
    obtain ⟨m, hm, hmi, hm2⟩ : ∃ m : Nat, (if rgt = -1 then (l' : Int) else rgt).toNat = m ∧ m < i ∧ ((0 ≤ rgt ∧ rgt = m) ∨ (rgt = -1 ∧ m = l')) := by
      rcases ok with ⟨o1, _⟩ | ⟨_, o2, _⟩ | ⟨_, l2', m, _, _, o6, o7⟩
      · have o1 : w.leaf = true := o1
        exact (nl o1).elim
      · have o2 : rgt = -1 := o2
        exact ⟨l', by rw [if_pos o2]; rfl, hl', .inr ⟨o2, rfl⟩⟩
      · have o6 : rgt = m := o6
        exact ⟨m, by rw [if_neg (by omega), o6]; rfl, o7, .inl ⟨by omega, o6⟩⟩
    have et : ∀ {σ : L2.St} {H1 : Hp} {tb : TE} {j : Nat}, Ex H H1 → σ[5]? = some (some (.ref pt)) → Ev tb σ H1 (nI j) → j < rs.length → Ev (tOp (rIxL K) (tVar 5) tb) σ H1 (.ref (ts.getD j 0)) := fun e h1 h2 hj => ev_ixM 0 (ev_var h1) h2 (ex_l e t1) (by omega)
    refine q_asg (et e04 rfl (ev_var rfl) (by omega)) fun H5 e5 => ?_
    have e05 := e04.trans e5
    refine q_asg (et e05 rfl (ev_var rfl) (by omega)) fun H6 e6 => ?_
    have e06 := e05.trans e6
    refine q_ifAsg (v := .ref (ts.getD m 0)) (et_test (ev_op (ev_op (erow e06 rfl rfl) ev_c (rv_ixT (ex_t e06 hrow) rfl)) ev_c rv_I0)) (fun hb => ?_) (fun hb => ?_) fun H7 e7 => ?_
    · have hb : (0 : Int) ≤ rgt := of_decide_eq_true hb
      have hm3 : rgt = m := by omega
      exact et e06 rfl (ev_is (ev_op (erow e06 rfl rfl) ev_c (rv_ixT (ex_t e06 hrow) rfl)) (congrArg V.int hm3)) (by omega)
    · have hb : ¬ (0 : Int) ≤ rgt := of_decide_eq_false hb
      have hm3 : m = l' := by omega
      rw [hm3]
      rfl
    have e07 := e06.trans e7
    have hone := t3 l' (by omega)
    have htwo := t3 m (by omega)
    have lone : (T'.getD l' []).length = g.length := tT.get (by omega)
    have ltwo : (T'.getD m []).length = g.length := tT.get (by omega)
    have hrk := r3 i (by omega)
    have hti := t3 i (by omega)
    have lrk : (R.getD i []).length = g.length := tR.get (by omega)
    have lti : (T'.getD i []).length = g.length := tT.get (by omega)
    have hg := a3 k hk
    have gz := G.rl _ (getD_mem (d := []) hk)
    have gt := G.tg _ (getD_mem (d := []) hk)
    have eg : ∀ {σ : L2.St} {H1 : Hp}, Ex H H1 → σ[2]? = some (some (.ref a)) → σ[1]? = some (some (nI k)) → Ev (tOp (rIxL K) (tVar 2) (tVar 1)) σ H1 (.ref (as_.getD k 0)) := fun e h1 h2 => ev_ixM 0 (ev_var h1) (ev_var h2) (ex_l e a1) (by omega)
    refine q_when (et_test (ev_eq (ev_var rfl) ev_c rfl (dec_wd (b := .ex)))) (fun c3 H8 e8 => ?_) (fun c3 H8 e8 => ?_)
    · have c3 := of_decide_eq_true c3
      cases c3
      have e08 := e07.trans e8
      refine ret e08 (ea_cons (ev_is (ev_op (ev_lenN (el_filter 0 (fun j => (T'.getD l' []).getD j false) nI (eg e08 rfl rfl) (ex_l e08 hg) (by omega) (fun _ => rfl) (fun j hj => et_B (ev_ixM false (ev_var rfl) (ev_var rfl) (ex_l e08 hone) (by rw [lone]; exact gt _ (getD_mem hj)))) fun j hj _ => ev_var rfl)) ev_c rv_I0) (congrArg V.bl any_len)) (ea_cons neg ea_nil)) ?_ rfl
      unfold dueLaw
      rw [if_neg d1, if_neg d2, if_pos (show (Wd.next _) = true from rfl)]
      rfl
    have d3 := of_decide_eq_false c3
    have e08 := e07.trans e8
    refine q_when (et_test (ev_eq (ev_var rfl) ev_c rfl (dec_wd (b := .ax)))) (fun c4 H9 e9 => ?_) (fun c4 H9 e9 => ?_)
    · have c4 := of_decide_eq_true c4
      cases c4
      have e09 := e08.trans e9
      refine ret e09 (ea_cons (ev_eq (ev_lenN (el_filter 0 (fun j => !(T'.getD l' []).getD j false) nI (eg e09 rfl rfl) (ex_l e09 hg) (by omega) (fun _ => rfl) (fun j hj => et_not (et_B (ev_ixM false (ev_var rfl) (ev_var rfl) (ex_l e09 hone) (by rw [lone]; exact gt _ (getD_mem hj))))) fun j hj _ => ev_var rfl)) ev_c rfl (dec_int.trans all_len)) (ea_cons neg ea_nil)) ?_ rfl
      unfold dueLaw
      rw [if_neg d1, if_neg d2, if_pos (show (Wd.next _) = true from rfl)]
      rfl
    have d4 := of_decide_eq_false c4
    have e09 := e08.trans e9
    have d5 : ¬ w.next = true := fun z => by
      revert d3 d4 z
      cases w <;> intro d3 d4 z <;> first | exact absurd z (by decide) | exact absurd rfl d3 | exact absurd rfl d4
    refine q_when (b := w.plain) (et_is (et_test (ev_opL (ev_var rfl) (el_lst (ea_cons ev_c (ea_cons ev_c (ea_cons ev_c (ea_cons ev_c (ea_cons ev_c ea_nil))))) (by show 5 ≤ 100000; decide)) fun p H1 hp _ => rv_isL (sq_of hp) rfl rfl)) (in_plain5 w)) (fun c6 H10 e10 => ?_) (fun c6 H10 e10 => ?_)
    · have e010 := e09.trans e10
      refine ret e010 (ea_cons (ev_call (ea_cons (ev_var rfl) (ea_cons (ev_ixM false (ev_var rfl) (ev_var rfl) (ex_l e010 hone) (by omega)) (ea_cons (ev_ixM false (ev_var rfl) (ev_var rfl) (ex_l e010 htwo) (by omega)) ea_nil))) fun H1 e Q' q' E => ⟨w, _, _, rfl, q'⟩) (ea_cons neg ea_nil)) ?_ rfl
      unfold dueLaw
      rw [if_neg d1, if_neg d2, if_neg d5, if_pos c6]
      dsimp only
      rw [hm]
      rfl
    have e010 := e09.trans e10
    have dl : dueLaw g F T' ⟨w, l', rgt⟩ (T'.getD i []) (R.getD i []) k = dueL (g.getD k []) (w.u && !(T'.getD l' []).getD k false) ((T'.getD m []).getD k false) w.great w.some (T'.getD i []) (R.getD i []) := by
      unfold dueLaw
      rw [if_neg d1, if_neg d2, if_neg d5, if_neg (by show ¬ w.plain = true; rw [c6]; decide)]
      dsimp only
      rw [hm]
      rfl
    rw [dl] at q
    refine q_asg (ev_is (ev_orV (ev_eq (ev_var rfl) ev_c rfl (dec_wd (b := .eg))) fun _ => ev_eq (ev_var rfl) ev_c rfl (dec_wd (b := .ag))) (congrArg V.bl (show _ = w.great by cases w <;> rfl))) fun H11 e11 => ?_
    have e011 := e010.trans e11
    refine q_when (et_test (ev_ne (ev_ixM false (ev_var rfl) (ev_var rfl) (ex_l e011 htwo) (by omega)) (ev_var rfl) rfl dec_bl)) (fun c7 H12 e12 => ?_) (fun c7 H12 e12 => ?_)
    · refine ret (e011.trans e12) (ea_cons (ev_notV (ev_var rfl)) (ea_cons ev_c ea_nil)) ?_ rfl
      rw [dl]
      unfold dueL
      rw [if_pos c7]
    have e012 := e011.trans e12
    have c7' : ¬ ((T'.getD m []).getD k false != w.great) = true := by rw [c7]; decide
    have em : ∀ (p : Nat → Bool) (f : Nat → Int) (row : List Nat), (row.filter p).map (fun j => V.int (f j)) = ((row.filter p).map f).map V.int := fun p f row => (List.map_map (f := f) (g := V.int)).symm
    refine q_asgL (el_is (el_filter 0 (fun j => (T'.getD i []).getD j false != w.great) (fun j => V.int ((R.getD i []).getD j 0)) (eg e012 rfl rfl) (ex_l e012 hg) (by omega) (fun _ => rfl)
      (fun j hj => et_test (ev_ne (ev_ixM false (et e012 rfl (ev_var rfl) (by omega)) (ev_var rfl) (ex_l e012 hti) (by rw [lti]; exact gt _ (getD_mem hj))) (ev_var rfl) rfl dec_bl))
      fun j hj _ => ev_ixM 0 (ev_ixM 0 (ev_var rfl) (ev_var rfl) (ex_l e012 r1) (by omega)) (ev_var rfl) (ex_l e012 hrk) (by rw [lrk]; exact gt _ (getD_mem hj))) (em _ _ _)) fun ln H13 nln e13 h13 => ?_
    have e013 := e012.trans e13
    refine q_asg (ev_is (ev_orV (ev_eq (ev_var rfl) ev_c rfl (dec_wd (b := .ef))) fun _ => ev_orV (ev_eq (ev_var rfl) ev_c rfl (dec_wd (b := .eu))) fun _ => ev_eq (ev_var rfl) ev_c rfl (dec_wd (b := .ag))) (congrArg V.bl (show _ = w.some by cases w <;> rfl))) fun H14 e14 => ?_
    have e014 := e013.trans e14
    have hns := sq_of (K := K) (e14 _ _ h13)
    revert hns
    generalize hnear : ((g.getD k []).filter fun j => (T'.getD i []).getD j false != w.great).map (fun j => (R.getD i []).getD j 0) = ns
    intro hns
    refine q_when (b := (w.u && !(T'.getD l' []).getD k false) || ns.isEmpty || (decide (ns.length < (g.getD k []).length) && !w.some)) (et_is (et_or (et_and (et_test (ev_chU (ev_var rfl))) fun _ => et_not (et_B (ev_ixM false (ev_var rfl) (ev_var rfl) (ex_l e014 hone) (by omega)))) fun _ => et_or (et_eqN (b := 0) (ev_lenM (ev_var rfl) hns) ev_c) fun _ => et_and (et_ltN (ev_lenM (ev_var rfl) hns) (ev_lenM (eg e014 rfl rfl) (ex_l e014 hg))) fun _ => et_not (et_B (ev_var rfl))) ?_) (fun c8 H15 e15 => ?_) (fun c8 H15 e15 => ?_)
    · rw [Bool.or_assoc]
      congr 2
      cases ns <;> rfl
    · refine ret (e014.trans e15) (ea_cons (ev_var rfl) (ea_cons neg ea_nil)) ?_ rfl
      rw [dl]
      unfold dueL
      rw [if_neg c7', hnear, if_pos c8]
    have e015 := e014.trans e15
    have c8' : ¬ ((w.u && !(T'.getD l' []).getD k false) || ns.isEmpty || (decide (ns.length < (g.getD k []).length) && !w.some)) = true := by rw [c8]; decide
    have ne : ns ≠ [] := fun z => c8' (by rw [z]; simp)
    refine q_when (et_B (ev_var rfl)) (fun c9 H16 e16 => ?_) (fun c9 H16 e16 => ?_)
    · refine ret (e015.trans e16) (ea_cons (ev_notV (ev_var rfl)) (ea_cons (ev_op ev_c (ev_min (ev_var rfl) (ex_l (e15.trans e16) hns) ne) rv_I0) ea_nil)) ?_ rfl
      rw [dl]
      unfold dueL
      rw [if_neg c7', hnear, if_neg c8', if_pos c9]
    · refine ret (e015.trans e16) (ea_cons (ev_notV (ev_var rfl)) (ea_cons (ev_op ev_c (ev_max (ev_var rfl) (ex_l (e15.trans e16) hns) ne) rv_I0) ea_nil)) ?_ rfl
      rw [dl]
      unfold dueL
      rw [if_neg c7', hnear, if_neg c8', if_neg (by rw [c9]; decide)]
end
end K94

/-! D_law_fits -/
namespace K94
open PySem PySem.Spec PyProof.Rows L2 Evl
theorem pair_eqv {a b : Bool} {x y : Int} : PyData.eqv (.tuple [.bool a, .int x]) (.tuple [.bool b, .int y]) = decide ((a, x) = (b, y)) := by
  by_cases h1 : a = b
  · by_cases h2 : x = y
    · subst h1 h2
      cases a <;> simp [PyData.eqv, PyData.eqvAll]
    · cases a <;> cases b <;> simp [PyData.eqv, PyData.eqvAll, h2]
  · cases a <;> cases b <;> first | exact absurd rfl h1 | simp [PyData.eqv, PyData.eqvAll]
theorem pair_shaped {a : Bool} {x : Int} : SeqAt.shaped (.tuple [.bool a, .int x]) = true := by
  show (PyData.canLay0 (.tuple [.bool a, .int x]) && decide (PyData.depth (.tuple [.bool a, .int x]) ≤ 64)) = true
  simp [PyData.canLay0, PyData.canLayAll0, PyData.depth, PyData.depthAll]
def sp__law_fits (K : PySem.W.Frag) : Sp := fun vs H Q _ => ∃ (a c l pt pr : Addr) (nf : Nat) (g : List (List Nat)) (F T : List (List Bool)) (R : List (List Int)) (rs : List Row), vs = [.ref a, .ref c, .ref l, .ref pt, .ref pr] ∧ Tab K H nI a g ∧ Tab K H V.bl c F ∧ RowL K H l rs ∧ Tab K H V.bl pt T ∧ Tab K H V.int pr R ∧
  Gok g ∧ (∀ i, i < rs.length → RowOk nf i (rD rs i)) ∧ rs.length ≤ 1000 ∧ Tb g.length nf F ∧ Tb rs.length g.length T ∧ Tb rs.length g.length R ∧ RetB (FitsL g F rs T R) H Q
section
variable {P : Program} {w : World} {K : PySem.W.Frag} {mg : Str → Option Value} {base : Heap}
theorem ok__law_fits (T : Txt w K mg) : Ok P w K mg base 3 ("_law_fits", none) ["_law_after", "_law_facts", "_law_rows", "_law_truths", "_law_ranks_here"] (sp__law_fits K) := by
  obtain ⟨fd__law_due, G__law_due, b__law_due, k__law_due⟩ := ok__law_due (P := P) (base := base) T
  obtain ⟨fd, F⟩ := T.def_ 37 _ rfl
  have S : FnScope ["_law_after", "_law_facts", "_law_rows", "_law_truths", "_law_ranks_here", "_law_number_here", "_law_k"] ["_law_after", "_law_facts", "_law_rows", "_law_truths", "_law_ranks_here"] (defScope (top 44)) := ⟨rfl, rfl, rfl, by decide +kernel, rfl, by decide +kernel, by decide +kernel⟩
  refine ⟨fd, F.ok S (fun vs H Q E h => ?_) (fun cdv A outer s H vs Q E hr h => ?_), F.bindsN fun _ _ _ _ _ _ us hl => match us, hl with | [_, _, _, _, _], _ => rfl, F.kp⟩
  · obtain ⟨_, _, _, _, _, _, _, _, _, _, _, rfl, _⟩ := h
    rfl
  · have hu := hu_of hr
    have hu64 := hr.units
    have hu65 := hu65_of hr
    refine ⟨_, PSs.nox (pss_cons (ps_for PassesOwn.never rfl (pi_range1 (by rfl) (T.f 52) (pa_cons (pe_callB (cLen (K := K)) rfl (T.f 45) (by decide +kernel) (pa_cons (pv 2) pa_nil)) pa_nil)) (pg_name (i := 5) S.nd rfl (Or.inl rfl)) (pss_one (ps_for PassesOwn.never rfl (pi_range1 (by rfl) (T.f 52) (pa_cons (pe_callB (cLen (K := K)) rfl (T.f 45) (by decide +kernel) (pa_cons (pv 0) pa_nil)) pa_nil)) (pg_name (i := 6) S.nd rfl (Or.inl rfl)) (pss_one (ps_if (pt_cmpR (opNeD (K := K) hu64) (pe_tup (pa_cons (pe_ix (ixL (K := K)) (pe_ix (ixL (K := K)) (pv 3) (pv 5) (fun _ _ => rfl)) (pv 6) (fun _ _ => rfl)) (pa_cons (pe_ix (ixL (K := K)) (pe_ix (ixL (K := K)) (pv 4) (pv 5) (fun _ _ => rfl)) (pv 6) (fun _ _ => rfl)) pa_nil))) (pe_call G__law_due (hr.mono (by decide)) rfl (T.g 30) k__law_due b__law_due .nil pass0 (pa_cons (pv 5) (pa_cons (pv 6) (pa_cons (pv 0) (pa_cons (pv 1) (pa_cons (pv 2) (pa_cons (pv 3) (pa_cons (pv 4) pa_nil)))))))) (nomark _)) (pss_one (ps_ret pe_bl)) pss_nil)))))
      (pss_one (ps_ret pe_bl))), ?_⟩
    obtain ⟨a, c, l, pt, pr, nf, g, F, T', R, rs, rfl, ha, hc, hl, hpt, hpr, G, ok, hz, tF, tT, tR, q⟩ := h
    obtain ⟨ts, t1, t2, t3⟩ := hpt
    have hpt : Tab K H V.bl pt T' := ⟨ts, t1, t2, t3⟩
    obtain ⟨rks, r1, r2, r3⟩ := hpr
    have hpr : Tab K H V.int pr R := ⟨rks, r1, r2, r3⟩
    have hT := tT.hl
    have hR := tR.hl
    have hn := G.len
    refine q_for (Hb := H) (n := rs.length) (τ := fun i σ => σ.set 5 (some (nI i))) (Ex.refl _) (wk_range (ea_cons (ev_lenR (ev_var rfl) hl) ea_nil) (by omega)) (fun i σ' H' => Ex H H' ∧ (∀ j, j < i → ∀ k, k < g.length → ((T'.getD j []).getD k false, (R.getD j []).getD k 0) = dueLaw g F T' (rD rs j) (T'.getD j []) (R.getD j []) k) ∧ ∃ x5 x6, σ' = [some (.ref a), some (.ref c), some (.ref l), some (.ref pt), some (.ref pr), x5, x6])
      (fun _ _ _ p => p.1) (fun H2 e2 => ⟨e2, fun j hj => absurd hj (Nat.not_lt_zero _), _, _, rfl⟩) (fun i σ' H' hi p H2 e2 => ?_) (fun σ' H' p => ?_)
    · obtain ⟨p1, p2, x5, x6, rfl⟩ := p
      have e02 := p1.trans e2
      refine s_for (Hb := H) (n := g.length) (τ := fun k σ => σ.set 6 (some (nI k))) e02 (wk_range (ea_cons (ev_lenT (ev_var rfl) ha) ea_nil) (by omega)) (fun k σ' H' => Ex H H' ∧ (∀ k', k' < k → ((T'.getD i []).getD k' false, (R.getD i []).getD k' 0) = dueLaw g F T' (rD rs i) (T'.getD i []) (R.getD i []) k') ∧ ∃ x6, σ' = [some (.ref a), some (.ref c), some (.ref l), some (.ref pt), some (.ref pr), some (nI i), x6])
        (fun _ _ _ p => p.1) (fun H3 e3 => ⟨e02.trans e3, fun j hj => absurd hj (Nat.not_lt_zero _), _, rfl⟩) (fun k σ' H' hk p H3 e3 => ?_) (fun σ' H' p => ?_)
      · obtain ⟨p1', p2', x6', rfl⟩ := p
        have e03 := p1'.trans e3
        have lti : (T'.getD i []).length = g.length := tT.get hi
        have lri : (R.getD i []).length = g.length := tR.get hi
        have due : EvD K (tCall (sp__law_due K) [] E0 (tCons (tVar 5) (tCons (tVar 6) (tCons (tVar 0) (tCons (tVar 1) (tCons (tVar 2) (tCons (tVar 3) (tCons (tVar 4) tNil)))))))) [some (.ref a), some (.ref c), some (.ref l), some (.ref pt), some (.ref pr), some (nI i), some (nI k)] H3
            (.tuple [.bool (dueLaw g F T' (rD rs i) (T'.getD i []) (R.getD i []) k).1, .int (dueLaw g F T' (rD rs i) (T'.getD i []) (R.getD i []) k).2]) := fun H4 e4 Q' k' =>
          (ea_cons (ev_var rfl) (ea_cons (ev_var rfl) (ea_cons (ev_var rfl) (ea_cons (ev_var rfl) (ea_cons (ev_var rfl) (ea_cons (ev_var rfl) (ea_cons (ev_var rfl) ea_nil))))))) H4 (Ex.refl _) _ fun H5 e5 =>
            have e := (e03.trans e4).trans e5
            ⟨i, k, a, c, l, pt, pr, nf, g, F, T', R, rs, rfl, ha.mono e, hc.mono e, hl.mono e, hpt.mono e, hpr.mono e, G, ok i hi, tF, tT, tR, hi, hk, fun p H6 e6 hp => k' _ H6 (e5.trans e6) (.tup (st_of hp) (.cons (.bl _) (.cons (.int _) .nil)))⟩
        refine s_when (b := !decide (((T'.getD i []).getD k false, (R.getD i []).getD k 0) = dueLaw g F T' (rD rs i) (T'.getD i []) (R.getD i []) k)) (et_is (et_test (ev_neD (ed_tup (eds_cons (ed_ev (ev_ixM (xs := T'.getD i []) false (ev_ixM (xs := ts) 0 (ev_var rfl) (ev_var rfl) (ex_l e03 t1) (by omega)) (ev_var rfl) (ex_l e03 (t3 i (by omega))) (by omega)) (.bl _)) (eds_cons (ed_ev (ev_ixM (xs := R.getD i []) 0 (ev_ixM (xs := rks) 0 (ev_var rfl) (ev_var rfl) (ex_l e03 r1) (by omega)) (ev_var rfl) (ex_l e03 (r3 i (by omega))) (by omega)) (.int _)) eds_nil)) (by show 2 ≤ 1000; decide)) due pair_shaped pair_shaped)) (congrArg (!·) pair_eqv)) (fun c1 H4 e4 => ?_) (fun c1 H4 e4 => ?_)
        · refine s_ret ev_c fun H5 e5 => q.no (fun z => ?_) ((e03.trans e4).trans e5)
          have := z i hi k hk
          rw [decide_eq_true this] at c1
          cases c1
        · refine ⟨e03.trans e4, fun k' hk' => ?_, _, rfl⟩
          by_cases h : k' < k
          · exact p2' k' h
          · have hkk : k' = k := by omega
            rw [hkk]
            exact of_decide_eq_true (by simpa using c1)
      · obtain ⟨p1', p2', x6', rfl⟩ := p
        refine ⟨p1', fun j hj => ?_, _, _, rfl⟩
        by_cases h : j < i
        · exact p2 j h
        · have hji : j = i := by omega
          rw [hji]
          exact p2'
    · obtain ⟨p1, p2, x5, x6, rfl⟩ := p
      exact s_ret ev_c fun H5 e5 => q.yes p2 (p1.trans e5)
end
end K94

/-! D_law_is_table -/
namespace K94
open PySem PySem.Spec PyProof.Rows L2 Evl
theorem ev_isL {K : PySem.W.Frag} {σ : L2.St} {H : Hp} {ta : TE} {a : Addr} {xs : List V} (ha : Ev ta σ H (.ref a)) (h : H a = some (.lst xs)) : Ev (tCB (rIsi K) (tCons ta (tCons (tC (.ty "list")) tNil))) σ H (.bl true) :=
  ev_cb (ea_cons ha (ea_cons ev_c ea_nil)) fun H1 e Q q => ⟨_, _, _, _, true, rfl, .ty _, .base (.lst (e _ _ h)), kit_ty (by decide +kernel), q H1 (Ex.refl _)⟩
theorem ev_isB {K : PySem.W.Frag} {σ : L2.St} {H : Hp} {ta : TE} {b : Bool} (ha : Ev ta σ H (.bl b)) : Ev (tCB (rIsi K) (tCons ta (tCons (tC (.ty "bool")) tNil))) σ H (.bl true) :=
  ev_cb (ea_cons ha (ea_cons ev_c ea_nil)) fun H1 e Q q => ⟨_, _, _, _, true, rfl, .ty _, .base (.bl _), kit_ty (by decide +kernel), q H1 (Ex.refl _)⟩
theorem ev_isBI {K : PySem.W.Frag} {σ : L2.St} {H : Hp} {ta : TE} {i : Int} (ha : Ev ta σ H (.int i)) : Ev (tCB (rIsi K) (tCons ta (tCons (tC (.ty "bool")) tNil))) σ H (.bl false) :=
  ev_cb (ea_cons ha (ea_cons ev_c ea_nil)) fun H1 e Q q => ⟨_, _, _, _, false, rfl, .ty _, .base (.int _), kit_ty (by decide +kernel), q H1 (Ex.refl _)⟩
theorem ev_isIB {K : PySem.W.Frag} {σ : L2.St} {H : Hp} {ta : TE} {b : Bool} (ha : Ev ta σ H (.bl b)) : Ev (tCB (rIsi K) (tCons ta (tCons (tC (.ty "int")) tNil))) σ H (.bl true) :=
  ev_cb (ea_cons ha (ea_cons ev_c ea_nil)) fun H1 e Q q => ⟨_, _, _, _, true, rfl, .ty _, .base (.bl _), kit_ty (by decide +kernel), q H1 (Ex.refl _)⟩
theorem ev_isI {K : PySem.W.Frag} {σ : L2.St} {H : Hp} {ta : TE} {i : Int} (ha : Ev ta σ H (.int i)) : Ev (tCB (rIsi K) (tCons ta (tCons (tC (.ty "int")) tNil))) σ H (.bl true) :=
  ev_cb (ea_cons ha (ea_cons ev_c ea_nil)) fun H1 e Q q => ⟨_, _, _, _, true, rfl, .ty _, .base (.int _), kit_ty (by decide +kernel), q H1 (Ex.refl _)⟩
def sp__law_is_table (K : PySem.W.Frag) : Sp := fun vs H Q _ => ∃ (α : Type) (f : α → V) (d : α) (a : Addr) (hh n : Nat) (tr : Bool) (T : List (List α)), vs = [.ref a, nI hh, nI n, .bl tr] ∧ TabL H f a T ∧ Tb hh n T ∧ (∀ x, (tr = true ∧ ∃ b, f x = .bl b) ∨ (tr = false ∧ ∃ i, f x = .int i)) ∧ hh ≤ 1000 ∧ n ≤ 1000 ∧ RetV (.bl true) H Q
section
variable {P : Program} {w : World} {K : PySem.W.Frag} {mg : Str → Option Value} {base : Heap}
theorem ok__law_is_table (T : Txt w K mg) : Ok P w K mg base 1 ("_law_is_table", none) ["_law_actual", "_law_height", "_law_width", "_law_truths"] (sp__law_is_table K) := by
  obtain ⟨fd, F⟩ := T.def_ 28 _ rfl
  have S : FnScope ["_law_actual", "_law_height", "_law_width", "_law_truths", "_law_row_here", "_law_one"] ["_law_actual", "_law_height", "_law_width", "_law_truths"] (defScope (top 35)) := ⟨rfl, rfl, rfl, by decide +kernel, rfl, by decide +kernel, by decide +kernel⟩
  refine ⟨fd, F.ok S (fun vs H Q E h => ?_) (fun cdv A outer s H vs Q E hr h => ?_), F.bindsN fun _ _ _ _ _ _ us hl => match us, hl with | [_, _, _, _], _ => rfl, F.kp⟩
  · obtain ⟨_, _, _, _, _, _, _, _, rfl, _⟩ := h
    rfl
  · have hu := hu_of hr
    have hu64 := hr.units
    have hu65 := hu65_of hr
    refine ⟨_, PSs.nox (pss_cons (ps_if (PW.pt (pw_or (pt_not (pt_val (pe_callB (cIsi (K := K)) rfl (T.f 54) (by decide +kernel) (pa_cons (pv 0) (pa_cons (pe_bltn (v := .ty "list") rfl (T.f 55) (by decide +kernel) rfl) pa_nil))))) (pw_or1 (pt_cmpR op_ne (pe_callB (cLen (K := K)) rfl (T.f 45) (by decide +kernel) (pa_cons (pv 0) pa_nil)) (pv 1) (nomark _))))) (pss_one (ps_ret pe_bl)) pss_nil)
      (pss_cons (ps_for PassesOwn.never rfl (piList (K := K) (pv 0)) (pg_name (i := 4) S.nd rfl (Or.inl rfl)) (pss_cons (ps_if (PW.pt (pw_or (pt_not (pt_val (pe_callB (cIsi (K := K)) rfl (T.f 54) (by decide +kernel) (pa_cons (pv 4) (pa_cons (pe_bltn (v := .ty "list") rfl (T.f 55) (by decide +kernel) rfl) pa_nil))))) (pw_or1 (pt_cmpR op_ne (pe_callB (cLen (K := K)) rfl (T.f 45) (by decide +kernel) (pa_cons (pv 4) pa_nil)) (pv 2) (nomark _))))) (pss_one (ps_ret pe_bl)) pss_nil)
      (pss_one (ps_for PassesOwn.never rfl (piList (K := K) (pv 4)) (pg_name (i := 5) S.nd rfl (Or.inl rfl)) (pss_one (ps_if (PW.pt (pw_or (pt_cmpR op_ne (pe_callB (cIsi (K := K)) rfl (T.f 54) (by decide +kernel) (pa_cons (pv 5) (pa_cons (pe_bltn (v := .ty "bool") rfl (T.f 56) (by decide +kernel) rfl) pa_nil))) (pv 3) (nomark _)) (pw_or1 (pt_not (pt_val (pe_callB (cIsi (K := K)) rfl (T.f 54) (by decide +kernel) (pa_cons (pv 5) (pa_cons (pe_bltn (v := .ty "int") rfl (T.f 57) (by decide +kernel) rfl) pa_nil)))))))) (pss_one (ps_ret pe_bl)) pss_nil))))))
      (pss_one (ps_ret pe_bl)))), ?_⟩
    obtain ⟨α, f, d, a, hh, n, tr, T', rfl, hT, tb, hf, zh, zn, q⟩ := h
    have hT2 := hT.tab (K := K)
    obtain ⟨ps, h1, h2, h3⟩ := hT
    refine q_when (b := false) (et_is (et_or (et_not (et_test (ev_isL (ev_var rfl) h1))) fun _ => et_test (ev_ne (ev_lenT (ev_var rfl) hT2) (ev_var rfl) rfl rfl)) ?_) (fun z => by cases z) (fun _ H1 e1 => ?_)
    · rw [tb.hl]; simp
    refine q_for (Hb := H) (n := ps.length) (τ := fun i σ => σ.set 4 (some (.ref (ps.getD i 0)))) e1 (wk_listM (f := V.ref) 0 (ev_var rfl) (sq_of h1)) (fun i σ' H' => Ex H H' ∧ ∃ x4 x5, σ' = [some (.ref a), some (nI hh), some (nI n), some (.bl tr), x4, x5])
      (fun _ _ _ p => p.1) (fun H2 e2 => ⟨e1.trans e2, _, _, rfl⟩) (fun i σ' H' hi p H2 e2 => ?_) (fun σ' H' p => ?_)
    · obtain ⟨p1, x4, x5, rfl⟩ := p
      have e12 := p1.trans e2
      have hr3 := h3 i (by omega)
      have ln : (T'.getD i []).length = n := tb.get (by rw [← tb.hl]; omega)
      refine q_when (b := false) (et_is (et_or (et_not (et_test (ev_isL (ev_var rfl) (e12 _ _ hr3)))) fun _ => et_test (ev_ne (ev_lenM (ev_var rfl) (sq_of (e12 _ _ hr3))) (ev_var rfl) rfl rfl)) ?_) (fun z => by cases z) (fun _ H3 e3 => ?_)
      · rw [ln]; simp
      refine s_for (Hb := H) (n := (T'.getD i []).length) (τ := fun j σ => σ.set 5 (some (f ((T'.getD i []).getD j d)))) (e12.trans e3) (wk_listM (f := f) d (ev_var rfl) (sq_of hr3)) (fun j σ' H' => Ex H H' ∧ ∃ x5, σ' = [some (.ref a), some (nI hh), some (nI n), some (.bl tr), some (.ref (ps.getD i 0)), x5])
        (fun _ _ _ p => p.1) (fun H4 e4 => ⟨(e12.trans e3).trans e4, _, rfl⟩) (fun j σ' H' hj p H4 e4 => ?_) (fun σ' H' p => ?_)
      · obtain ⟨p1', x5', rfl⟩ := p
        refine s_when (b := false) ?_ (fun z => by cases z) (fun _ H5 e5 => ⟨(p1'.trans e4).trans e5, _, rfl⟩)
        rcases hf ((T'.getD i []).getD j d) with ⟨rfl, b, hb⟩ | ⟨rfl, b, hb⟩
        · rw [hb]
          exact et_is (et_or (et_test (ev_ne (ev_isB (ev_var rfl)) (ev_var rfl) rfl rfl)) fun _ => et_not (et_test (ev_isIB (ev_var rfl)))) (by simp)
        · rw [hb]
          exact et_is (et_or (et_test (ev_ne (ev_isBI (ev_var rfl)) (ev_var rfl) rfl rfl)) fun _ => et_not (et_test (ev_isI (ev_var rfl)))) (by simp)
      · obtain ⟨p1', x5', rfl⟩ := p
        exact ⟨p1', _, _, rfl⟩
    · obtain ⟨p1, x4, x5, rfl⟩ := p
      exact s_ret ev_c fun H2 e2 => q _ (p1.trans e2)
end
end K94

/-! D_joins -/
namespace K94
open PySem PySem.Spec PyProof.Rows L2 Evl
def sp_joins (K : PySem.W.Frag) : Sp := fun vs H Q _ => ∃ (a b : Addr) (g : List (List Nat)) (R : List Int) (k : Nat) (sm : Bool), vs = [.ref a, .ref b, .int (k : Int), .bl sm] ∧ Tab K H nI a g ∧ SqL K H b (R.map V.int) ∧ Gok g ∧ k < g.length ∧ R.length = g.length ∧ RetV (.bl (joinsF (g.getD k []) R sm)) H Q
section
variable {P : Program} {w : World} {K : PySem.W.Frag} {mg : Str → Option Value} {base : Heap}
theorem ok_joins (T : Txt w K mg) : Ok P w K mg base 1 ("joins", none) ["after", "ranks", "node", "some"] (sp_joins K) := by
  obtain ⟨fd, F⟩ := T.def_ 10 _ rfl
  have S : FnScope ["after", "ranks", "node", "some", "ranked", "target"] ["after", "ranks", "node", "some"] (defScope (top 13)) := ⟨rfl, rfl, rfl, by decide +kernel, rfl, by decide +kernel, by decide +kernel⟩
  refine ⟨fd, F.ok S (fun vs H Q E h => ?_) (fun cdv A outer s H vs Q E hr h => ?_), F.bindsN fun _ _ _ _ _ _ us hl => match us, hl with | [_, _, _, _], _ => rfl, F.kp⟩
  · obtain ⟨_, _, _, _, _, _, rfl, _⟩ := h
    rfl
  · have hu := hu_of hr
    have hu64 := hr.units
    have hu65 := hu65_of hr
    refine ⟨_, PSs.nox (pss_cons (ps_setLc (i := 4) rfl S.nd rfl rfl (sw_true rfl rfl rfl (by decide +kernel)) (piList (K := K) (pe_ix (ixL (K := K)) (pv 0) (pv 2) (fun _ _ => rfl))) (blkOk_by (own := [("target", 5)]) (by kernel_rfl)) (fun _ _ _ _ _ => (pg_name (i := 5) S.nd rfl (Or.inl rfl))) (fun _ _ _ _ _ => pts_nil) (fun _ _ _ _ _ => (pe_cmpR op_ge (pe_ix (ixL (K := K)) (pv 1) (pv 5) (fun _ _ => rfl)) pe_int (nomark _))))
      (pss_cons (ps_if (pt_val (pv 3)) (pss_one (ps_ret (pe_callB (cAny (K := K)) rfl (T.f 47) (by decide +kernel) (pa_cons (pv 4) pa_nil)))) pss_nil)
      (pss_one (ps_ret (pe_callB (cAll (K := K)) rfl (T.f 48) (by decide +kernel) (pa_cons (pv 4) pa_nil)))))), ?_⟩
    obtain ⟨a, b, g, R, k, sm, rfl, ha, hb, G, hk, hl, q⟩ := h
    obtain ⟨p, ep, hp⟩ := ev_tab (σ := start ["after", "ranks", "node", "some", "ranked", "target"] [.ref a, .ref b, .int (k : Int), .bl sm]) (ta := tVar 0) (tb := tVar 2) (ev_var rfl) (ev_var rfl) ha hk
    have hz := G.rl _ (getD_mem (d := []) hk)
    have ht := G.tg _ (getD_mem (d := []) hk)
    refine q_asgL (el_is (el_map 0 (fun t => V.bl (decide (0 ≤ R.getD t 0))) ep hp (by omega) (fun _ => rfl) fun i hi => ev_op (ev_ixM 0 (ev_var rfl) (ev_var rfl) hb (by rw [hl]; exact ht _ (getD_mem hi))) ev_c rv_I0)
      (List.map_map (f := fun t => decide (0 ≤ R.getD t 0)) (g := V.bl)).symm) fun l H1 nl e1 h1 => ?_
    refine q_when (et_B (ev_var rfl)) (fun c H2 e2 => ?_) (fun c H2 e2 => ?_)
    · cases c
      refine s_ret (ev_any (ev_var rfl) (sq_of (e2 _ _ h1))) fun H3 e3 => ?_
      have e : joinsF (g.getD k []) R true = ((g.getD k []).map fun t => decide (0 ≤ R.getD t 0)).any id := by
        unfold joinsF
        rw [if_pos rfl, List.any_map]
        rfl
      rw [← e]
      exact q _ ((e1.trans e2).trans e3)
    · cases c
      refine s_ret (ev_all (ev_var rfl) (sq_of (e2 _ _ h1))) fun H3 e3 => ?_
      have e : joinsF (g.getD k []) R false = ((g.getD k []).map fun t => decide (0 ≤ R.getD t 0)).all id := by
        unfold joinsF
        rw [if_neg (by decide), List.all_map]
        rfl
      rw [← e]
      exact q _ ((e1.trans e2).trans e3)
end
end K94

/-! D_ranks_toward -/
namespace K94
open PySem PySem.Spec PyProof.Rows L2 Evl
def sp_ranks_toward (K : PySem.W.Frag) : Sp := fun vs H Q _ => ∃ (a b c : Addr) (g : List (List Nat)) (th go : List Bool) (sm : Bool), vs = [.ref a, .ref b, .ref c, .bl sm] ∧ Tab K H nI a g ∧ SqL K H b (th.map V.bl) ∧ SqL K H c (go.map V.bl) ∧ Gok g ∧ th.length = g.length ∧ go.length = g.length ∧
  ∀ (R : List Int) (p : Addr) (H' : Hp), R.length = g.length → (∀ k, k < g.length → R.getD k 0 = dueR (g.getD k []) (th.getD k false) (go.getD k false) sm R) → H p = none → Ex H H' → H' p = some (.lst (R.map V.int)) → Q (.ref p) H'
section
variable {P : Program} {w : World} {K : PySem.W.Frag} {mg : Str → Option Value} {base : Heap}
theorem ok_ranks_toward (T : Txt w K mg) : Ok P w K mg base 2 ("ranks_toward", none) ["after", "through", "goals", "some"] (sp_ranks_toward K) := by
  obtain ⟨fd_joins, G_joins, b_joins, k_joins⟩ := ok_joins (P := P) (base := base) T
  obtain ⟨fd, F⟩ := T.def_ 11 _ rfl
  have S : FnScope ["after", "through", "goals", "some", "ranks", "count", "node", "found", "waiting", "goal", "rank"] ["after", "through", "goals", "some"] (defScope (top 14)) := ⟨rfl, rfl, rfl, by decide +kernel, rfl, by decide +kernel, by decide +kernel⟩
  refine ⟨fd, F.ok S (fun vs H Q E h => ?_) (fun cdv A outer s H vs Q E hr h => ?_), F.bindsN fun _ _ _ _ _ _ us hl => match us, hl with | [_, _, _, _], _ => rfl, F.kp⟩
  · obtain ⟨_, _, _, _, _, _, _, rfl, _⟩ := h
    rfl
  · have hu := hu_of hr
    have hu64 := hr.units
    have hu65 := hu65_of hr
    refine ⟨_, PSs.nox (pss_cons (ps_set (i := 4) S.nd rfl (Or.inr rfl) (pe_lc rfl S.nd  (piList (K := K) (pv 2)) (blkOk_by (own := [("goal", 9)]) (by kernel_rfl)) (fun _ _ _ _ _ => (pg_name (i := 9) S.nd rfl (Or.inl rfl))) (fun _ _ _ _ _ => pts_nil) (fun _ _ _ _ _ => (pe_ifExp (pt_val (pv 9)) pe_int (pe_un un_neg pe_int)))))
      (pss_cons (ps_set (i := 5) S.nd rfl (Or.inl rfl) pe_int)
      (pss_cons (ps_setLc (i := 7) rfl S.nd rfl rfl (sw_true rfl rfl rfl (by decide +kernel)) (piEnum (K := K) (by rfl) (T.f 46) (pa_cons (pv 4) pa_nil)) (blkOk_by (own := [("node", 6), ("rank", 10)]) (by kernel_rfl)) (fun _ _ _ _ _ => (pgTup (K := K) (n := 2) (pgs_cons (pg_name (i := 6) S.nd rfl (Or.inl rfl)) (pgs_cons (pg_name (i := 10) S.nd rfl (Or.inl rfl)) pgs_nil)))) (fun _ _ _ _ _ => (pts_one (pt_cmpR op_eq (pv 10) pe_int (nomark _)))) (fun _ _ _ _ _ => (pv 6)))
      (pss_cons (ps_while PassesOwn.never (ptTruth (K := K) (pv 7)) (pss_cons (ps_aug (i := 5) S.nd rfl (Or.inl rfl) pe_int ip_add)
      (pss_cons (ps_setLc (i := 8) rfl S.nd rfl rfl (sw_true rfl rfl rfl (by decide +kernel)) (piEnum (K := K) (by rfl) (T.f 46) (pa_cons (pv 4) pa_nil)) (blkOk_by (own := [("node", 6), ("rank", 10)]) (by kernel_rfl)) (fun _ _ _ _ _ => (pgTup (K := K) (n := 2) (pgs_cons (pg_name (i := 6) S.nd rfl (Or.inl rfl)) (pgs_cons (pg_name (i := 10) S.nd rfl (Or.inl rfl)) pgs_nil)))) (fun _ _ _ _ _ => (pts_one (PW.pt (pw_and (pt_cmpR op_lt (pv 10) pe_int (nomark _)) (pw_and1 (pt_val (pe_ix (ixL (K := K)) (pv 1) (pv 6) (fun _ _ => rfl)))))))) (fun _ _ _ _ _ => (pv 6)))
      (pss_cons (ps_setLc (i := 7) rfl S.nd rfl rfl (sw_true rfl rfl rfl (by decide +kernel)) (piList (K := K) (pv 8)) (blkOk_by (own := [("node", 6)]) (by kernel_rfl)) (fun _ _ _ _ _ => (pg_name (i := 6) S.nd rfl (Or.inl rfl))) (fun _ _ _ _ _ => (pts_one (pt_val (pe_call G_joins (hr.mono (by decide)) rfl (T.g 4) k_joins b_joins .nil pass0 (pa_cons (pv 0) (pa_cons (pv 4) (pa_cons (pv 6) (pa_cons (pv 3) pa_nil)))))))) (fun _ _ _ _ _ => (pv 6)))
      (pss_one (ps_for PassesOwn.never rfl (piList (K := K) (pv 7)) (pg_name (i := 6) S.nd rfl (Or.inl rfl)) (pss_one (ps_asg (pv 5) (pg_sub (pv 4) (pv 6) set_list)))))))))
      (pss_one (ps_ret (pv 4))))))), ?_⟩
    obtain ⟨a, b, c, g, th, go, sm, rfl, ha, hb, hc, G, lt, lg, q⟩ := h
    have hn := G.len
    -- ranks = [0 if goal else -1 for goal in goals]
    refine q_asgL (el_is (el_map false (fun b => V.int (if b = true then 0 else -1)) (ev_var rfl) hc (by omega) (fun _ => rfl) fun i hi => ev_if (et_B (ev_var rfl)) (fun h => ?_) (fun h => ?_)) (List.map_map (f := fun b => if b = true then (0 : Int) else -1) (g := V.int)).symm) fun l H1 nl e1 h1 => ?_
    · rw [if_pos h]
      exact ev_c
    · rw [if_neg (by rw [h]; decide)]
      exact ev_un ev_c ru_neg
    refine q_asg (v := .int 0) ev_c fun H2 e2 => ?_
    have h2 := e2 _ _ h1
    have e12 := e1.trans e2
    have hr0 : (go.map fun b => if b = true then (0 : Int) else -1).length = g.length := by rw [List.length_map]; exact lg
    -- found = [node for node, rank in enumerate(ranks) if rank == 0]
    refine q_asgL (el_comp (fun i => decide ((go.map fun b => if b = true then (0 : Int) else -1).getD i 0 = 0)) nI (wk_enum (f := V.int) 0 (ev_var rfl) (sq_of h2)) (by omega) (fun _ => rfl)
      (fun i hi => et_test (ev_eq (ev_var rfl) ev_c rfl dec_int)) fun i hi _ => ev_var rfl) fun pf H3 nf e3 h3 => ?_
    have e13 := e12.trans e3
    have ef : given (go.map fun b => if b = true then (0 : Int) else -1).length (fun i => decide ((go.map fun b => if b = true then (0 : Int) else -1).getD i 0 = 0)) nI = ((List.range g.length).filter fun k => decide ((go.map fun b => if b = true then (0 : Int) else -1).getD k 0 = 0)).map nI := by
      rw [hr0]
      rfl
    rw [ef] at h3
    have pl : pf ≠ l := fun e => by rw [e, h2] at nf; cases nf
    refine q_while (fun m σ' H' => ∃ (cn : Int) (R : List Int) (fd : List Nat) (pf : Addr) (x6 x8 x9 x10 : Option V), σ' = [some (.ref a), some (.ref b), some (.ref c), some (.bl sm), some (.ref l), some (.int cn), x6, some (.ref pf), x8, x9, x10] ∧
        Ex H H' ∧ H' l = some (.lst (R.map V.int)) ∧ H' pf = some (.lst (fd.map nI)) ∧ pf ≠ l ∧ Rnd g (fun k => th.getD k false) (fun k => go.getD k false) sm cn R fd ∧ m = if fd = [] then 0 else 1 + unr g R)
      _ ⟨0, _, _, pf, none, none, none, none, rfl, e13, e3 _ _ h2, h3, pl, rnd_start G lg fun _ => rfl, rfl⟩ ?_
    rintro m σ' H' ⟨cn, R, fd, pf, x6, x8, x9, x10, rfl, eH, hl, hf, pl, rn, rfl⟩
    refine ⟨!fd.isEmpty, et_listM (ev_var rfl) (sq_of hf), fun ht H4 e4 => ?_, fun ht H4 e4 => ?_⟩
    · have ne : fd ≠ [] := fun z => by rw [z] at ht; cases ht
      have eH4 := eH.trans e4
      have lR := rn.len
      refine ⟨fun σ2 H2 => ∃ (pf : Addr) (x6 x8 x9 x10 : Option V), σ2 = [some (.ref a), some (.ref b), some (.ref c), some (.bl sm), some (.ref l), some (.int (cn + 1)), x6, some (.ref pf), x8, x9, x10] ∧
        Ex H H2 ∧ H2 l = some (.lst ((setAll R (nextF g (fun k => th.getD k false) sm R) (cn + 1)).map V.int)) ∧ H2 pf = some (.lst ((nextF g (fun k => th.getD k false) sm R).map nI)) ∧ pf ≠ l, ?_, ?_⟩
      · rintro σ2 H2 ⟨pf, y6, y8, y9, y10, rfl, k1, k2, k3, k4⟩
        refine ⟨_, ?_, cn + 1, _, _, pf, y6, y8, y9, y10, rfl, k1, k2, k3, k4, rnd_step G rn, rfl⟩
        rw [if_neg ne]
        by_cases hz : nextF g (fun k => th.getD k false) sm R = []
        · rw [if_pos hz]; omega
        · rw [if_neg hz]
          have := unr_lt G rn hz
          omega
      -- count += 1
      refine q_aug (f := fun i j => i + j) rfl ev_c fun H5 e5 => ?_
      have hl5 := e5 _ _ (e4 _ _ hl)
      have eH5 := eH4.trans e5
      -- waiting
      refine q_asgL (el_comp (fun i => decide (R.getD i 0 < 0) && th.getD i false) nI (wk_enum (f := V.int) 0 (ev_var rfl) (sq_of hl5)) (by omega) (fun _ => rfl)
        (fun i hi => et_and (et_test (ev_op (ev_var rfl) ev_c rv_I0)) fun _ => et_B (Ev.mono eH5 (ev_ixM false (ev_var rfl) (ev_var rfl) hb (by omega)))) fun i hi _ => ev_var rfl) fun pw H6 nw e6 h6 => ?_
      have ew : given R.length (fun i => decide (R.getD i 0 < 0) && th.getD i false) nI = (wait g (fun k => th.getD k false) R).map nI := by
        rw [lR]
        rfl
      rw [ew] at h6
      have hl6 := e6 _ _ hl5
      have eH6 := eH5.trans e6
      -- found
      have wl : (wait g (fun k => th.getD k false) R).length ≤ g.length := by
        have := List.length_filter_le (fun k => decide (R.getD k 0 < 0) && th.getD k false) (List.range g.length)
        rw [List.length_range] at this
        exact this
      refine q_asgL (el_filter 0 (fun k => joinsF (g.getD k []) R sm) nI (ev_var rfl) (sq_of h6) (by omega) (fun _ => rfl) (fun i hi => et_B (ev_call (ea_cons (ev_var rfl) (ea_cons (ev_var rfl) (ea_cons (ev_var rfl) (ea_cons (ev_var rfl) ea_nil)))) fun H1 e' Q q E =>
        ⟨a, l, g, R, _, sm, rfl, ha.mono (eH6.trans e'), sq_of (e' _ _ hl6), G, ?_, lR, q⟩)) fun i hi _ => ev_var rfl) fun pf2 H7 nf2 e7 h7 => ?_
      · have := getD_mem (d := 0) hi
        exact List.mem_range.mp (List.mem_filter.mp this).1
      have hl7 := e7 _ _ hl6
      have pl2 : pf2 ≠ l := fun e => by rw [e, hl6] at nf2; cases nf2
      have eH7 := eH6.trans e7
      have nl : H l = none := nl
      have h7' : H7 pf2 = some (.lst ((nextF g (fun k => th.getD k false) sm R).map nI)) := h7
      -- for node in found: ranks[node] = count
      have hin : ∀ k ∈ nextF g (fun k => th.getD k false) sm R, k < R.length := fun k hk => by rw [lR]; exact (mem_nextF.mp hk).1
      have hbf : hid H7 l pf2 = some (.lst ((nextF g (fun k => th.getD k false) sm R).map nI)) := by rw [hid_ne pl2]; exact h7'
      refine s_for (Hb := hid H7 l) hid_ex (wk_listM (f := nI) 0 (ev_var rfl) (sq_of hbf))
        (fun i σ' H' => Ex (hid H7 l) H' ∧ H' l = some (.lst ((setAll R ((nextF g (fun k => th.getD k false) sm R).take i) (cn + 1)).map V.int)) ∧ ∃ x6 x8 x9 x10, σ' = [some (.ref a), some (.ref b), some (.ref c), some (.bl sm), some (.ref l), some (.int (cn + 1)), x6, some (.ref pf2), x8, x9, x10]) (fun _ _ _ p => p.1)
        (fun H8 e8 => ⟨hid_ex.trans e8, e8 _ _ hl7, _, _, _, _, rfl⟩) ?_ ?_
      · rintro i σ' H' hi ⟨p1, p2, y6, y8, y9, y10, rfl⟩ H8 e8
        have hl8 := e8 _ _ p2
        refine s_setL (v := .int (cn + 1)) (j := (nextF g (fun k => th.getD k false) sm R).getD i 0) hl8 (ev_var rfl) (ev_var rfl) (ev_var rfl) (by rw [List.length_map, setAll_len]; exact hin _ (getD_mem hi)) fun H9 e9 => ?_
        refine ⟨((p1.trans e8).trans e9).mut hid_none, ?_, _, _, _, _, rfl⟩
        rw [upd_same, map_set, setAll_take hi]
      · rintro σ' H' ⟨p1, p2, y6, y8, y9, y10, rfl⟩
        rw [List.take_length] at p2
        exact ⟨pf2, y6, y8, y9, y10, rfl, (hid_of eH7 nl).trans p1, p2, p1 _ _ hbf, pl2⟩
    · have em : fd = [] := by
        cases fd with
        | nil => rfl
        | cons _ _ => cases ht
      subst em
      refine s_ret (ev_var rfl) fun H5 e5 => q R l H5 rn.len (rnd_end G rn) nl ((eH.trans e4).trans e5) (e5 _ _ (e4 _ _ hl))
end
end K94

/-! D_path_ranks -/
namespace K94
open PySem PySem.Spec PyProof.Rows L2 Evl
def sp_path_ranks (K : PySem.W.Frag) : Sp := fun vs H Q _ => ∃ (w : Wd) (a b c : Addr) (g : List (List Nat)) (f s : List Bool), vs = [.str w.s, .ref a, .ref b, .ref c] ∧ w.path = true ∧ Tab K H nI a g ∧ SqL K H b (f.map V.bl) ∧ SqL K H c (s.map V.bl) ∧ Gok g ∧ f.length = g.length ∧ s.length = g.length ∧
  ∀ (R : List Int) (p : Addr) (H' : Hp), R.length = g.length → (∀ k, k < g.length → R.getD k 0 = dueR (g.getD k []) (thW w f k) (goW w f s k) w.some R) → H p = none → Ex H H' → H' p = some (.lst (R.map V.int)) → Q (.ref p) H'
section
variable {P : Program} {w : World} {K : PySem.W.Frag} {mg : Str → Option Value} {base : Heap}
theorem ok_path_ranks (T : Txt w K mg) : Ok P w K mg base 3 ("path_ranks", none) ["word", "after", "first", "second"] (sp_path_ranks K) := by
  obtain ⟨fd_ranks_toward, G_ranks_toward, b_ranks_toward, k_ranks_toward⟩ := ok_ranks_toward (P := P) (base := base) T
  obtain ⟨fd, F⟩ := T.def_ 12 _ rfl
  have S : FnScope ["word", "after", "first", "second", "goals", "truth", "_"] ["word", "after", "first", "second"] (defScope (top 15)) := ⟨rfl, rfl, rfl, by decide +kernel, rfl, by decide +kernel, by decide +kernel⟩
  refine ⟨fd, F.ok S (fun vs H Q E h => ?_) (fun cdv A outer s H vs Q E hr h => ?_), F.bindsN fun _ _ _ _ _ _ us hl => match us, hl with | [_, _, _, _], _ => rfl, F.kp⟩
  · obtain ⟨_, _, _, _, _, _, _, rfl, _⟩ := h
    rfl
  · have hu := hu_of hr
    have hu64 := hr.units
    have hu65 := hu65_of hr
    refine ⟨_, PSs.nox (pss_cons (ps_if (pt_cmpR (opKd (K := K) (w := w) T.tab) (pv 0) (pe_glob (v := .ref (He.ga K "DUAL")) rfl (T.g 42) rfl) (by rfl)) (pss_cons (ps_setLc (i := 4) rfl S.nd rfl rfl (sw_true rfl rfl rfl (by decide +kernel)) (piList (K := K) (pv 2)) (blkOk_by (own := [("truth", 5)]) (by kernel_rfl)) (fun _ _ _ _ _ => (pg_name (i := 5) S.nd rfl (Or.inl rfl))) (fun _ _ _ _ _ => pts_nil) (fun _ _ _ _ _ => (pe_not (pv 5))))
      (pss_one (ps_ret (pe_call G_ranks_toward (hr.mono (by decide)) rfl (T.g 5) k_ranks_toward b_ranks_toward .nil pass0 (pa_cons (pv 1) (pa_cons (pe_lc rfl S.nd  (piList (K := K) (pv 2)) (blkOk_by (own := [("_", 6)]) (by kernel_rfl)) (fun _ _ _ _ _ => (pg_name (i := 6) S.nd rfl (Or.inl rfl))) (fun _ _ _ _ _ => pts_nil) (fun _ _ _ _ _ => pe_bl)) (pa_cons (pv 4) (pa_cons (pe_cmpR op_eq (pe_ix (ixKd (K := K) (w := w)) (pe_glob (v := .ref (He.ga K "DUAL")) rfl (T.g 42) rfl) (pv 0) (fun _ _ => rfl)) pe_str (nomark _)) pa_nil)))))))) pss_nil)
      (pss_cons (ps_if (PW.pt (pw_or (pt_cmpR op_eq (pv 0) pe_str (nomark _)) (pw_or1 (pt_cmpR op_eq (pv 0) pe_str (nomark _))))) (pss_one (ps_ret (pe_call G_ranks_toward (hr.mono (by decide)) rfl (T.g 5) k_ranks_toward b_ranks_toward .nil pass0 (pa_cons (pv 1) (pa_cons (pe_lc rfl S.nd  (piList (K := K) (pv 2)) (blkOk_by (own := [("_", 6)]) (by kernel_rfl)) (fun _ _ _ _ _ => (pg_name (i := 6) S.nd rfl (Or.inl rfl))) (fun _ _ _ _ _ => pts_nil) (fun _ _ _ _ _ => pe_bl)) (pa_cons (pv 2) (pa_cons (pe_cmpR op_eq (pv 0) pe_str (nomark _)) pa_nil))))))) pss_nil)
      (pss_one (ps_ret (pe_call G_ranks_toward (hr.mono (by decide)) rfl (T.g 5) k_ranks_toward b_ranks_toward .nil pass0 (pa_cons (pv 1) (pa_cons (pv 2) (pa_cons (pv 3) (pa_cons (pe_cmpR op_eq (pv 0) pe_str (nomark _)) pa_nil))))))))), ?_⟩
    obtain ⟨w, a, b, c, g, f, s, rfl, hp, ha, hb, hc, G, lf, ls, q⟩ := h
    have hn := G.len
    have ones : ∀ {σ : L2.St}, σ[2]? = some (some (.ref b)) → (∀ x, wipe ((wipe σ [6]).set 6 (some x)) [6] = wipe σ [6]) → EvL (tLc (iList K (tVar 2)) (gName 6) tYes (tC (.bl true)) [6]) σ H ((List.replicate f.length true).map V.bl) := fun h hw =>
      el_rep false true (ev_var h) hb (by omega) hw fun y => ev_c
    refine q_when (et_test (ev_dual T hp (ev_var rfl))) (fun c1 H1 e1 => ?_) (fun c1 H1 e1 => ?_)
    · -- ag, eg
      refine q_asgL (EvL.mono e1 (el_is (el_map false (fun t => V.bl (!t)) (ev_var rfl) hb (by omega) (fun _ => rfl) fun i hi => ev_notV (ev_var rfl)) (List.map_map (f := fun t => !t) (g := V.bl)).symm)) fun l H2 nl e2 h2 => ?_
      have e12 := e1.trans e2
      refine s_retCall (a_cons (ev_var rfl) (Ex.refl _) fun H3 e3 => a_consL (ones rfl (fun _ => rfl)) (e12.trans e3) fun p H4 np e4 h4 => a_cons (ev_var rfl) (Ex.refl _) fun H5 e5 =>
        a_cons (ev_eq (b := w.some) (ev_dualAt T c1 (ev_var rfl)) ev_c rfl ?_) (Ex.refl _) fun H6 e6 => a_nil ?_)
      · have := dec_wd (a := if w = .ag then .ef else .af) (b := .ef)
        revert c1
        cases w <;> intro c1 <;> first | exact absurd c1 (by decide) | decide +kernel
      have e26 := ((e3.trans e4).trans e5).trans e6
      refine ⟨a, p, l, g, List.replicate f.length true, f.map (fun t => !t), w.some, rfl, ha.mono (e12.trans e26), sq_of (e6 _ _ (e5 _ _ h4)), sq_of (e26 _ _ h2), G, by rw [List.length_replicate]; exact lf, by rw [List.length_map]; exact lf, fun R p' H' hl hR hn' hx hp' => ?_⟩
      refine q R p' H' hl (fun k hk => ?_) (fresh_back (e12.trans e26) hn') ((e12.trans e26).trans hx) hp'
      rw [hR k hk, rep_at (by omega), map_at (d := false) (by omega)]
      have e1 : thW w f k = true := by
        unfold thW
        revert c1
        cases w <;> intro c1 <;> first | exact absurd c1 (by decide) | (simp [Wd.u])
      have e2 : goW w f s k = !f.getD k false := by
        unfold goW
        rw [if_pos c1]
      rw [e1, e2]
    refine q_when (b := w == .ef || w == .af) (EvT.mono e1 (et_or (et_test (ev_eq (ev_var rfl) ev_c rfl (dec_wd (b := .ef)))) fun _ => et_test (ev_eq (ev_var rfl) ev_c rfl (dec_wd (b := .af))))) (fun c2 H2 e2 => ?_) (fun c2 H2 e2 => ?_)
    · have e12 := e1.trans e2
      refine s_retCall (a_cons (ev_var rfl) (Ex.refl _) fun H3 e3 => a_consL (ones rfl (fun _ => rfl)) (e12.trans e3) fun p H4 np e4 h4 => a_cons (ev_var rfl) (Ex.refl _) fun H5 e5 =>
        a_cons (ev_eq (b := w.some) (ev_var rfl) ev_c rfl ?_) (Ex.refl _) fun H6 e6 => a_nil ?_)
      · revert c2
        cases w <;> intro c2 <;> first | exact absurd c2 (by decide) | decide +kernel
      have e26 := ((e3.trans e4).trans e5).trans e6
      refine ⟨a, p, b, g, List.replicate f.length true, f, w.some, rfl, ha.mono (e12.trans e26), sq_of (e6 _ _ (e5 _ _ h4)), ex_l (e12.trans e26) hb, G, by rw [List.length_replicate]; exact lf, lf, fun R p' H' hl hR hn' hx hp' => ?_⟩
      refine q R p' H' hl (fun k hk => ?_) (fresh_back (e12.trans e26) hn') ((e12.trans e26).trans hx) hp'
      rw [hR k hk, rep_at (by omega)]
      have e1 : thW w f k = true := by
        unfold thW
        revert c2
        cases w <;> intro c2 <;> first | exact absurd c2 (by decide) | (simp [Wd.u])
      have e2 : goW w f s k = f.getD k false := by
        unfold goW
        rw [if_neg (by rw [c1]; decide), if_pos c2]
      rw [e1, e2]
    · have e12 := e1.trans e2
      refine s_retCall (a_cons (ev_var rfl) (Ex.refl _) fun H3 e3 => a_cons (ev_var rfl) (Ex.refl _) fun H4 e4 => a_cons (ev_var rfl) (Ex.refl _) fun H5 e5 =>
        a_cons (ev_eq (b := w.some) (ev_var rfl) ev_c rfl ?_) (Ex.refl _) fun H6 e6 => a_nil ?_)
      · revert c1 c2 hp
        cases w <;> intro hp c1 c2 <;> first | exact absurd c1 (by decide) | exact absurd c2 (by decide) | exact absurd hp (by decide) | decide +kernel
      have e26 := ((e3.trans e4).trans e5).trans e6
      refine ⟨a, b, c, g, f, s, w.some, rfl, ha.mono (e12.trans e26), ex_l (e12.trans e26) hb, ex_l (e12.trans e26) hc, G, lf, ls, fun R p' H' hl hR hn' hx hp' => ?_⟩
      refine q R p' H' hl (fun k hk => ?_) (fresh_back (e12.trans e26) hn') ((e12.trans e26).trans hx) hp'
      rw [hR k hk]
      have e1 : thW w f k = f.getD k false := by
        unfold thW
        revert c1 c2 hp
        cases w <;> intro hp c1 c2 <;> first | exact absurd c1 (by decide) | exact absurd c2 (by decide) | exact absurd hp (by decide) | (simp [Wd.u])
      have e2 : goW w f s k = s.getD k false := by
        unfold goW
        rw [if_neg (by rw [c1]; decide), if_neg (by rw [c2]; decide)]
      rw [e1, e2]
end
end K94

/-! D_row_answer -/
namespace K94
open PySem PySem.Spec PyProof.Rows L2 Evl
def dueX (w : Wd) (g : List (List Nat)) (f s : List Bool) (rk : List Int) (k : Nat) : Bool × Int :=
  if w.next then (nextT w f (g.getD k []), -1) else
  if w.plain then (plainT w (f.getD k false) (s.getD k false), -1) else
  (decide (0 ≤ dueR (g.getD k []) (thW w f k) (goW w f s k) w.some rk) != w.great, dueR (g.getD k []) (thW w f k) (goW w f s k) w.some rk)
/-- a pair of new lists, truths and ranks -/
def RetP (n : Nat) (P : List Bool → List Int → Prop) (H : Hp) (Q : VK) : Prop := ∀ (tr : List Bool) (rk : List Int) (t p1 p2 : Addr) (H' : Hp), tr.length = n → rk.length = n → P tr rk → H t = none → H p1 = none → H p2 = none → Ex H H' →
  H' t = some (.tup [.ref p1, .ref p2]) → H' p1 = some (.lst (tr.map V.bl)) → H' p2 = some (.lst (rk.map V.int)) → Q (.ref t) H'
theorem in_plain (w : Wd) : inV (.str w.s) [.str "not", .str "and", .str "or", .str "implies", .str "same"] = w.plain := by cases w <;> decide +kernel
def sp_row_answer (K : PySem.W.Frag) : Sp := fun vs H Q _ => ∃ (w : Wd) (a b c : Addr) (g : List (List Nat)) (f s : List Bool), vs = [.str w.s, .ref a, .ref b, .ref c] ∧ w.leaf = false ∧ Tab K H nI a g ∧ SqL K H b (f.map V.bl) ∧ SqL K H c (s.map V.bl) ∧ Gok g ∧ f.length = g.length ∧ s.length = g.length ∧
  RetP g.length (fun tr rk => ∀ k, k < g.length → (tr.getD k false, rk.getD k 0) = dueX w g f s rk k) H Q
section
variable {P : Program} {w : World} {K : PySem.W.Frag} {mg : Str → Option Value} {base : Heap}
theorem ok_row_answer (T : Txt w K mg) : Ok P w K mg base 4 ("row_answer", none) ["word", "after", "first", "second"] (sp_row_answer K) := by
  obtain ⟨fd_path_ranks, G_path_ranks, b_path_ranks, k_path_ranks⟩ := ok_path_ranks (P := P) (base := base) T
  obtain ⟨fd_plain_truth, G_plain_truth, b_plain_truth, k_plain_truth⟩ := ok_plain_truth (P := P) (base := base) T
  obtain ⟨fd_next_truth, G_next_truth, b_next_truth, k_next_truth⟩ := ok_next_truth (P := P) (base := base) T
  obtain ⟨fd, F⟩ := T.def_ 13 _ rfl
  have S : FnScope ["word", "after", "first", "second", "unranked", "ranks", "_", "rank", "targets", "a", "b"] ["word", "after", "first", "second"] (defScope (top 16)) := ⟨rfl, rfl, rfl, by decide +kernel, rfl, by decide +kernel, by decide +kernel⟩
  refine ⟨fd, F.ok S (fun vs H Q E h => ?_) (fun cdv A outer s H vs Q E hr h => ?_), F.bindsN fun _ _ _ _ _ _ us hl => match us, hl with | [_, _, _, _], _ => rfl, F.kp⟩
  · obtain ⟨_, _, _, _, _, _, _, rfl, _⟩ := h
    rfl
  · have hu := hu_of hr
    have hu64 := hr.units
    have hu65 := hu65_of hr
    refine ⟨_, PSs.nox (pss_cons (ps_setLc (i := 4) rfl S.nd rfl rfl (sw_true rfl rfl rfl (by decide +kernel)) (piList (K := K) (pv 1)) (blkOk_by (own := [("_", 6)]) (by kernel_rfl)) (fun _ _ _ _ _ => (pg_name (i := 6) S.nd rfl (Or.inl rfl))) (fun _ _ _ _ _ => pts_nil) (fun _ _ _ _ _ => (pe_un un_neg pe_int)))
      (pss_cons (ps_if (PW.pt (pw_or (pt_cmpR op_eq (pv 0) pe_str (nomark _)) (pw_or1 (pt_cmpR op_eq (pv 0) pe_str (nomark _))))) (pss_one (ps_ret (pe_tup (pa_cons (pe_lc rfl S.nd  (piList (K := K) (pv 1)) (blkOk_by (own := [("targets", 8)]) (by kernel_rfl)) (fun _ _ _ _ _ => (pg_name (i := 8) S.nd rfl (Or.inl rfl))) (fun _ _ _ _ _ => pts_nil) (fun _ _ _ _ _ => (pe_call G_next_truth (hr.mono (by decide)) rfl (T.g 3) k_next_truth b_next_truth .nil pass0 (pa_cons (pv 0) (pa_cons (pv 2) (pa_cons (pv 8) pa_nil)))))) (pa_cons (pv 4) pa_nil))))) pss_nil)
      (pss_cons (ps_if (pt_cmpR (opIn (K := K)) (pv 0) (pe_tup (pa_cons pe_str (pa_cons pe_str (pa_cons pe_str (pa_cons pe_str (pa_cons pe_str pa_nil)))))) (by rfl)) (pss_one (ps_ret (pe_tup (pa_cons (pe_lc rfl S.nd  (piZip (K := K) (by rfl) (T.f 49) (pa_cons (pv 2) (pa_cons (pv 3) pa_nil))) (blkOk_by (own := [("a", 9), ("b", 10)]) (by kernel_rfl)) (fun _ _ _ _ _ => (pgTup (K := K) (n := 2) (pgs_cons (pg_name (i := 9) S.nd rfl (Or.inl rfl)) (pgs_cons (pg_name (i := 10) S.nd rfl (Or.inl rfl)) pgs_nil)))) (fun _ _ _ _ _ => pts_nil) (fun _ _ _ _ _ => (pe_call G_plain_truth (hr.mono (by decide)) rfl (T.g 2) k_plain_truth b_plain_truth .nil pass0 (pa_cons (pv 0) (pa_cons (pv 9) (pa_cons (pv 10) pa_nil)))))) (pa_cons (pv 4) pa_nil))))) pss_nil)
      (pss_cons (ps_set (i := 5) S.nd rfl (Or.inl rfl) (pe_call G_path_ranks (hr.mono (by decide)) rfl (T.g 6) k_path_ranks b_path_ranks .nil pass0 (pa_cons (pv 0) (pa_cons (pv 1) (pa_cons (pv 2) (pa_cons (pv 3) pa_nil))))))
      (pss_one (ps_ret (pe_tup (pa_cons (pe_lc rfl S.nd  (piList (K := K) (pv 5)) (blkOk_by (own := [("rank", 7)]) (by kernel_rfl)) (fun _ _ _ _ _ => (pg_name (i := 7) S.nd rfl (Or.inl rfl))) (fun _ _ _ _ _ => pts_nil) (fun _ _ _ _ _ => (pe_cmpR op_ne (pe_cmpR op_ge (pv 7) pe_int (nomark _)) (pe_cmpR (opKd (K := K) (w := w) T.tab) (pv 0) (pe_glob (v := .ref (He.ga K "DUAL")) rfl (T.g 42) rfl) (by rfl)) (nomark _)))) (pa_cons (pv 5) pa_nil))))))))), ?_⟩
    obtain ⟨w, a, b, c, g, f, s, rfl, hw, ha, hb, hc, G, lf, ls, q⟩ := h
    have hn := G.len
    obtain ⟨ps, g1, g2, g3⟩ := ha
    have ha : Tab K H nI a g := ⟨ps, g1, g2, g3⟩
    refine q_asgL (el_rep (f := V.ref) 0 (-1 : Int) (ev_var rfl) g1 (by omega) (fun _ => rfl) fun y => ev_un ev_c ru_neg) fun l H1 nl e1 h1 => ?_
    rw [g2] at h1
    refine q_when (EvT.mono e1 (et_is (et_or (et_test (ev_eq (ev_var rfl) ev_c rfl (dec_wd (b := .ex)))) fun _ => et_test (ev_eq (ev_var rfl) ev_c rfl (dec_wd (b := .ax)))) (wd_next w))) (fun c1 H2 e2 => ?_) (fun c1 H2 e2 => ?_)
    · have e12 := e1.trans e2
      refine s_retTup (a_consL (el_is (el_comp (fun _ => true) (fun i => V.bl (nextT w f (g.getD i []))) (wk_listM (f := V.ref) 0 (ev_var rfl) g1) (by omega) (fun _ => rfl) (fun i hi H1 _ _ q => q H1 (Ex.refl _)) fun i hi _ =>
        ev_call (ea_cons (ev_var rfl) (ea_cons (ev_var rfl) (ea_cons (ev_var rfl) ea_nil))) fun H1 e' Q q E => ⟨w, b, _, f, g.getD i [], rfl, ex_l e' hb, ex_l e' (g3 i (by omega)), fun t ht => by rw [lf]; exact G.tg _ (getD_mem (by omega)) t ht, by have := G.rl _ (getD_mem (d := []) (show i < g.length by omega)); omega, q⟩)
        (given_map (h := V.bl) (c := fun i => nextT w f (g.getD i [])))) e12 fun p H3 np e3 h3 => a_cons (ev_var rfl) (Ex.refl _) fun H4 e4 => a_nil ⟨by show 2 ≤ sizeLine; decide, fun t nt => ?_⟩)
      have e14 := (e12.trans e3).trans e4
      refine q _ _ t p l _ (by rw [List.length_map, List.length_range]; exact g2) (by rw [List.length_replicate]) (fun k hk => ?_) (fresh_back e14 nt) (fresh_back e12 np) nl (e14.trans (Ex.new nt)) upd_same (Ex.new nt _ _ (e4 _ _ h3)) (Ex.new nt _ _ (e4 _ _ (e3 _ _ (e2 _ _ h1))))
      rw [range_at (by omega), rep_at hk]
      unfold dueX
      rw [if_pos c1]
    have t2 : Ev (tOp (rIn K false) (tVar 0) (tTup (tCons (tC (.str "not")) (tCons (tC (.str "and")) (tCons (tC (.str "or")) (tCons (tC (.str "implies")) (tCons (tC (.str "same")) tNil))))))) ((start ["word", "after", "first", "second", "unranked", "ranks", "_", "rank", "targets", "a", "b"] [.str w.s, .ref a, .ref b, .ref c]).set 4 (some (.ref l))) H2 (.bl w.plain) := by
      rw [← in_plain w]
      exact ev_inU (ev_var rfl) (eu_tup (ea_cons ev_c (ea_cons ev_c (ea_cons ev_c (ea_cons ev_c (ea_cons ev_c ea_nil))))) (by decide)) rfl rfl
    refine q_when (et_test t2) (fun c2 H3 e3 => ?_) (fun c2 H3 e3 => ?_)
    · have e13 := (e1.trans e2).trans e3
      refine s_retTup (a_consL (el_is (el_comp (fun _ => true) (fun i => V.bl (plainT w (f.getD i false) (s.getD i false))) (wk_zip false false (ev_var rfl) (ev_var rfl) hb hc (by omega)) (by omega) (fun _ => rfl) (fun i hi H1 _ _ q => q H1 (Ex.refl _)) fun i hi _ =>
        ev_call (ea_cons (ev_var rfl) (ea_cons (ev_var rfl) (ea_cons (ev_var rfl) ea_nil))) fun H1 e' Q q E => ⟨w, _, _, rfl, q⟩)
        (given_map (h := V.bl) (c := fun i => plainT w (f.getD i false) (s.getD i false)))) e13 fun p H4 np e4 h4 => a_cons (ev_var rfl) (Ex.refl _) fun H5 e5 => a_nil ⟨by show 2 ≤ sizeLine; decide, fun t nt => ?_⟩)
      have e15 := (e13.trans e4).trans e5
      refine q _ _ t p l _ (by rw [List.length_map, List.length_range]; exact lf) (by rw [List.length_replicate]) (fun k hk => ?_) (fresh_back e15 nt) (fresh_back e13 np) nl (e15.trans (Ex.new nt)) upd_same (Ex.new nt _ _ (e5 _ _ h4)) (Ex.new nt _ _ (e5 _ _ (e4 _ _ (e3 _ _ (e2 _ _ h1)))))
      rw [range_at (by omega), rep_at hk]
      unfold dueX
      rw [if_neg (by rw [c1]; decide), if_pos c2]
    have hp : w.path = true := by
      revert hw c1 c2
      cases w <;> intro hw c1 c2 <;> first | rfl | exact absurd hw (by decide) | exact absurd c1 (by decide) | exact absurd c2 (by decide)
    have e13 := (e1.trans e2).trans e3
    refine q_asgEx (ex_call (a_cons (ev_var rfl) (Ex.refl _) fun H4 e4 => a_cons (ev_var rfl) (Ex.refl _) fun H5 e5 => a_cons (ev_var rfl) (Ex.refl _) fun H6 e6 => a_cons (ev_var rfl) (Ex.refl _) fun H7 e7 => a_nil ?_))
    have e17 := (((e13.trans e4).trans e5).trans e6).trans e7
    refine ⟨w, a, b, c, g, f, s, rfl, hp, ha.mono e17, ex_l e17 hb, ex_l e17 hc, G, lf, ls, fun R p H8 lR hR np e8 h8 => ?_⟩
    have e18 := e17.trans e8
    have lR' : R.length ≤ 40000 := by omega
    refine s_retTup (a_consL (el_is (el_map 0 (fun z => V.bl (decide (0 ≤ z) != w.great)) (ev_var rfl) (sq_of h8) lR' (fun _ => rfl) fun i hi => ev_ne (ev_op (ev_var rfl) ev_c rv_I0) (ev_dual T hp (ev_var rfl)) rfl dec_bl) (List.map_map (f := fun z => decide (0 ≤ z) != w.great) (g := V.bl)).symm)
      (Ex.refl _) fun p2 H9 np2 e9 h9 => a_cons (ev_var rfl) (Ex.refl _) fun H10 e10 => a_nil ⟨by show 2 ≤ sizeLine; decide, fun t nt => ?_⟩)
    have e110 := (e18.trans e9).trans e10
    refine q _ R t p2 p _ (by rw [List.length_map]; exact lR) lR (fun k hk => ?_) (fresh_back e110 nt) (fresh_back e18 np2) (fresh_back e17 np) (e110.trans (Ex.new nt)) upd_same (Ex.new nt _ _ (e10 _ _ h9)) (Ex.new nt _ _ (e10 _ _ (e9 _ _ h8)))
    rw [map_at (d := 0) (by omega)]
    unfold dueX
    rw [if_neg (by rw [c1]; decide), if_neg (by rw [c2]; decide), ← hR k hk]
end
end K94

/-! D_Answer___init__ -/
namespace K94
open PySem PySem.Spec PyProof.Rows L2 Evl
theorem putF2 (y z : V) : putF "ranks" z (putF "truths" y []) = [((("truths" : Str), y) : Str × V), (("ranks" : Str), z)] := by
  show (if ("truths" : Str) = "ranks" then [((("truths" : Str), z) : Str × V)] else (("truths" : Str), y) :: putF "ranks" z []) = _
  rw [if_neg (by decide)]
  rfl
/-- self.truths, self.ranks: new tables of these rows -/
def sp_Answer___init__ (K : PySem.W.Frag) : Sp := fun vs H Q _ => ∃ (x dx a b : Addr) (T : List (List Bool)) (R : List (List Int)), vs = [.ref x, .ref a, .ref b] ∧ H x = some (.ins (cA K) dx []) ∧ Tab K (hid H x) V.bl a T ∧ Tab K (hid H x) V.int b R ∧ T.length ≤ 1000 ∧ R.length ≤ 1000 ∧
  ∀ H', Ex (hid H x) H' → AnsAt K H' x T R → Q .non H'
section
variable {P : Program} {w : World} {K : PySem.W.Frag} {mg : Str → Option Value} {base : Heap}
theorem ok_Answer___init__ (T : Txt w K mg) : Ok P w K mg base 1 ("Answer", some "__init__") ["self", "truths", "ranks"] (sp_Answer___init__ K) := by
  obtain ⟨fd, F⟩ := T.def_ 7 _ rfl
  have S : FnScope ["self", "truths", "ranks", "row"] ["self", "truths", "ranks"] (defScope (inClass (top 10) 0)) := ⟨rfl, rfl, rfl, by decide +kernel, rfl, by decide +kernel, by decide +kernel⟩
  refine ⟨fd, F.ok S (fun vs H Q E h => ?_) (fun cdv A outer s H vs Q E hr h => ?_), F.bindsN fun _ _ _ _ _ _ us hl => match us, hl with | [_, _, _], _ => rfl, F.kp⟩
  · obtain ⟨_, _, _, _, _, _, rfl, _⟩ := h
    rfl
  · have hu := hu_of hr
    have hu64 := hr.units
    have hu65 := hu65_of hr
    refine ⟨_, PSs.nox (pss_cons (psFld (K := K) (pv 0) (pe_lc rfl S.nd  (piList (K := K) (pv 1)) (blkOk_by (own := [("row", 3)]) (by kernel_rfl)) (fun _ _ _ _ _ => (pg_name (i := 3) S.nd rfl (Or.inl rfl))) (fun _ _ _ _ _ => pts_nil) (fun _ _ _ _ _ => (pe_callTy (cList (K := K)) rfl (T.f 55) (by decide +kernel) (pa_cons (pv 3) pa_nil)))))
      (pss_one (psFld (K := K) (pv 0) (pe_lc rfl S.nd  (piList (K := K) (pv 2)) (blkOk_by (own := [("row", 3)]) (by kernel_rfl)) (fun _ _ _ _ _ => (pg_name (i := 3) S.nd rfl (Or.inl rfl))) (fun _ _ _ _ _ => pts_nil) (fun _ _ _ _ _ => (pe_callTy (cList (K := K)) rfl (T.f 55) (by decide +kernel) (pa_cons (pv 3) pa_nil))))))), ?_⟩
    obtain ⟨x, dx, a, b, T', R, rfl, hx, ha, hb, lT, lR, q⟩ := h
    refine q_fldTab (el_copy (ev_var rfl) ha (by omega) (fun _ => rfl) (Nat.le_refl 4)) hid_ex (ev_var rfl) hx (T.cls 60) (T.noat 70) (by decide) fun p ps H2 np e12 hp hl each => ?_
    have ex2 : Ex (hid H x) (upd H2 x (.ins (cA K) dx (putF "truths" (.ref p) []))) := (hid_ex.trans e12).mut hid_none
    have px : p ≠ x := fun z => by rw [z, hx] at np; cases np
    have hT : TabL (hid (upd H2 x (.ins (cA K) dx (putF "truths" (.ref p) []))) x) V.bl p T' := by
      refine tab_of (A := fun a => H a = none) (by rw [hid_ne px, upd_ne px]; exact hp) hl fun i hi => ?_
      obtain ⟨q1, q2, q3⟩ := each i hi
      have px' : ps.getD i 0 ≠ x := fun z => by rw [z, hx] at q1; cases q1
      exact ⟨q1, q2, by rw [hid_ne px', upd_ne px']; exact q3⟩
    refine s_fldTab (el_copy (ev_var rfl) hb (by omega) (fun _ => rfl) (Nat.le_refl 4)) ex2 (ev_var rfl) upd_same (T.cls 60) (T.noat 71) (by show 1 < 1000; decide) fun p' ps' H4 np' e34 hp' hl' each' => ?_
    have hx3 : (upd H2 x (.ins (cA K) dx (putF "truths" (.ref p) []))) x = some (.ins (cA K) dx (putF "truths" (.ref p) [])) := upd_same
    have px2 : p' ≠ x := fun z => by rw [z, hx3] at np'; cases np'
    have exf : Ex (hid (upd H2 x (.ins (cA K) dx (putF "truths" (.ref p) []))) x) (upd H4 x (.ins (cA K) dx (putF "ranks" (.ref p') (putF "truths" (.ref p) [])))) := (hid_ex.trans e34).mut hid_none
    refine q _ ((ex2.trans e34).mut hid_none) ⟨dx, p, p', ?_, hT.mono exf, ?_⟩
    · rw [upd_same, putF2]
    · refine tab_of (A := fun a => (upd H2 x (.ins (cA K) dx (putF "truths" (.ref p) []))) a = none) (by rw [upd_ne px2]; exact hp') hl' fun i hi => ?_
      obtain ⟨q1, q2, q3⟩ := each' i hi
      have px' : ps'.getD i 0 ≠ x := fun z => by rw [z, hx3] at q1; cases q1
      exact ⟨q1, q2, by rw [upd_ne px']; exact q3⟩
end
end K94

/-! D_answer -/
namespace K94
open PySem PySem.Spec PyProof.Rows L2 Evl
def sp_answer (K : PySem.W.Frag) : Sp := fun vs H Q _ => ∃ (a c x : Addr) (nf : Nat) (g : List (List Nat)) (F : List (List Bool)) (rs : List Row), vs = [.ref a, .ref c, .ref x] ∧ Tab K H nI a g ∧ Tab K H V.bl c F ∧ RowsAt K H x rs ∧ Gok g ∧ rs.length ≤ 1000 ∧ (∀ i, i < rs.length → RowOk nf i (rD rs i)) ∧ Tb g.length nf F ∧
  ∀ (T : List (List Bool)) (R : List (List Int)) (p : Addr) (H' : Hp), Tb rs.length g.length T → Tb rs.length g.length R → Fits g F rs T R → Ex H H' → AnsAt K H' p T R → Q (.ref p) H'
/-- between two turns -/
def AnsW (H : Hp) (a c x lt lr : Addr) (g : List (List Nat)) (F : List (List Bool)) (rs : List Row) (i : Nat) (σ' : L2.St) (H' : Hp) : Prop :=
  Ex H H' ∧ ∃ (T : List (List Bool)) (R : List (List Int)) (pts prs : List Addr), H' lt = some (.lst (pts.map V.ref)) ∧ H' lr = some (.lst (prs.map V.ref)) ∧ Rw2 H' lt lr pts (T.map fun r => r.map V.bl) ∧ Rw2 H' lt lr prs (R.map fun r => r.map V.int) ∧
    T.length = i ∧ R.length = i ∧ (∀ r ∈ T, r.length = g.length) ∧ (∀ r ∈ R, r.length = g.length) ∧ (∀ j, j < i → ∀ k, k < g.length → ((T.getD j []).getD k false, (R.getD j []).getD k 0) = dueRow g F T (rD rs j) (R.getD j []) k) ∧
    ∃ x5 x6 x7 x8 x9 x10 x11, σ' = [some (.ref a), some (.ref c), some (.ref x), some (.ref lt), some (.ref lr), x5, x6, x7, x8, x9, x10, x11]
section
variable {P : Program} {w : World} {K : PySem.W.Frag} {mg : Str → Option Value} {base : Heap}
theorem ok_answer (T : Txt w K mg) : Ok P w K mg base 5 ("answer", none) ["after", "facts", "rows"] (sp_answer K) := by
  obtain ⟨fd_row_answer, G_row_answer, b_row_answer, k_row_answer⟩ := ok_row_answer (P := P) (base := base) T
  obtain ⟨fd_Answer, G_Answer, b_Answer, k_Answer⟩ := ok_Answer___init__ (P := P) (base := base) T
  obtain ⟨fd, F⟩ := T.def_ 14 _ rfl
  have S : FnScope ["after", "facts", "rows", "truths", "ranks", "word", "left", "right", "found", "second", "_", "bits"] ["after", "facts", "rows"] (defScope (top 17)) := ⟨rfl, rfl, rfl, by decide +kernel, rfl, by decide +kernel, by decide +kernel⟩
  refine ⟨fd, F.ok S (fun vs H Q E h => ?_) (fun cdv A outer s H vs Q E hr h => ?_), F.bindsN fun _ _ _ _ _ _ us hl => match us, hl with | [_, _, _], _ => rfl, F.kp⟩
  · obtain ⟨_, _, _, _, _, _, _, rfl, _⟩ := h
    rfl
  · have hu := hu_of hr
    have hu64 := hr.units
    have hu65 := hu65_of hr
    refine ⟨_, PSs.nox (pss_cons (ps_set (i := 3) S.nd rfl (Or.inl rfl) (pe_lst pa_nil))
      (pss_cons (ps_set (i := 4) S.nd rfl (Or.inl rfl) (pe_lst pa_nil))
      (pss_cons (ps_for PassesOwn.never rfl (piList (K := K) (peFld (K := K) (pv 2))) (pgTup (K := K) (n := 3) (pgs_cons (pg_name (i := 5) S.nd rfl (Or.inr rfl)) (pgs_cons (pg_name (i := 6) S.nd rfl (Or.inr rfl)) (pgs_cons (pg_name (i := 7) S.nd rfl (Or.inl rfl)) pgs_nil)))) (pss_cons (ps_if (PW.pt (pw_or (pt_cmpR op_eq (pv 5) pe_str (nomark _)) (pw_or1 (pt_cmpR op_eq (pv 5) pe_str (nomark _))))) (pss_one (ps_set (i := 8) S.nd rfl (Or.inl rfl) (pe_tup (pa_cons (pe_lc rfl S.nd  (piList (K := K) (pv 0)) (blkOk_by (own := [("_", 10)]) (by kernel_rfl)) (fun _ _ _ _ _ => (pg_name (i := 10) S.nd rfl (Or.inl rfl))) (fun _ _ _ _ _ => pts_nil) (fun _ _ _ _ _ => (pe_cmpR op_eq (pv 5) pe_str (nomark _)))) (pa_cons (pe_lc rfl S.nd  (piList (K := K) (pv 0)) (blkOk_by (own := [("_", 10)]) (by kernel_rfl)) (fun _ _ _ _ _ => (pg_name (i := 10) S.nd rfl (Or.inl rfl))) (fun _ _ _ _ _ => pts_nil) (fun _ _ _ _ _ => (pe_un un_neg pe_int))) pa_nil))))) (pss_one (ps_if (pt_cmpR op_eq (pv 5) pe_str (nomark _)) (pss_one (ps_set (i := 8) S.nd rfl (Or.inl rfl) (pe_tup (pa_cons (pe_lc rfl S.nd  (piList (K := K) (pv 1)) (blkOk_by (own := [("bits", 11)]) (by kernel_rfl)) (fun _ _ _ _ _ => (pg_name (i := 11) S.nd rfl (Or.inl rfl))) (fun _ _ _ _ _ => pts_nil) (fun _ _ _ _ _ => (pe_ix (ixL (K := K)) (pv 11) (pv 6) (fun _ _ => rfl)))) (pa_cons (pe_lc rfl S.nd  (piList (K := K) (pv 0)) (blkOk_by (own := [("_", 10)]) (by kernel_rfl)) (fun _ _ _ _ _ => (pg_name (i := 10) S.nd rfl (Or.inl rfl))) (fun _ _ _ _ _ => pts_nil) (fun _ _ _ _ _ => (pe_un un_neg pe_int))) pa_nil))))) (pss_cons (ps_set (i := 9) S.nd rfl (Or.inl rfl) (pe_ifExp (pt_cmpR op_eq (pv 7) (pe_un un_neg pe_int) (nomark _)) (pv 6) (pv 7)))
      (pss_one (ps_set (i := 8) S.nd rfl (Or.inl rfl) (pe_call G_row_answer (hr.mono (by decide)) rfl (T.g 7) k_row_answer b_row_answer .nil pass0 (pa_cons (pv 5) (pa_cons (pv 0) (pa_cons (pe_ix (ixL (K := K)) (pv 3) (pv 6) (fun _ _ => rfl)) (pa_cons (pe_ix (ixL (K := K)) (pv 3) (pv 9) (fun _ _ => rfl)) pa_nil)))))))))))
      (pss_cons (ps_expr (pe_bm PySem.F.plainAttrs_list PySem.F.slot_list_append PySem.F.type_list_append mt_append (pv 3) (pa_cons (pe_ix (ixT (K := K)) (pv 8) pe_int (fun _ _ => rfl)) pa_nil)))
      (pss_one (ps_expr (pe_bm PySem.F.plainAttrs_list PySem.F.slot_list_append PySem.F.type_list_append mt_append (pv 4) (pa_cons (pe_ix (ixT (K := K)) (pv 8) pe_int (fun _ _ => rfl)) pa_nil)))))))
      (pss_one (ps_ret (pe_make (He.mkr_ok (T.fact 63 _ rfl)) G_Answer (hr.mono (by decide)) rfl (T.g 39) b_Answer .nil pass0 (pa_cons (pv 3) (pa_cons (pv 4) pa_nil)))))))), ?_⟩
    obtain ⟨a, c, x, nf, g, F, rs, rfl, ha, hc, hx, G, hz, ok, tF, q⟩ := h
    have hn := G.len
    obtain ⟨ps, g1, g2, g3⟩ := ha
    have ha : Tab K H nI a g := ⟨ps, g1, g2, g3⟩
    obtain ⟨fs, f1, f2, f3⟩ := hc
    have hFl := tF.hl
    obtain ⟨dx, fa, ra, ta, hx, hrow, htmp⟩ := hx
    refine q_asgL (el_lst ea_nil (by decide)) fun lt H1 nlt e1 h1 => ?_
    refine q_asgL (el_lst ea_nil (by decide)) fun lr H2 nlr e2 h2 => ?_
    have e12 := e1.trans e2
    have lne : lt ≠ lr := fun z => by rw [← z, h1] at nlr; cases nlr
    have nlr' : H lr = none := fresh_back e1 nlr
    refine q_for (Hb := H) e12 (wk_rows (ev_fld (ev_var rfl) hx (T.cls 58) (T.noat 65) rfl) hrow) (AnsW H a c x lt lr g F rs) (fun _ _ _ p => p.1)
      (fun H3 e3 => ⟨e12.trans e3, [], [], [], [], e3 _ _ (e2 _ _ h1), e3 _ _ h2, Rw2.nil, Rw2.nil, rfl, rfl, (fun _ h => nomatch h), (fun _ h => nomatch h), fun j hj => absurd hj (Nat.not_lt_zero j), _, _, _, _, _, _, _, rfl⟩) ?_ ?_
    · rintro i σ' H' hi ⟨e3, T', R, pts, prs, hlt, hlr, rt, rr, lT, lR, wT, wR, fit, x5, x6, x7, x8, x9, x10, x11, rfl⟩ H4 e4
      have eH4 := e3.trans e4
      have o := ok i hi
      -- the two appends
      have cont : ∀ (D : Ends) (tr : List Bool) (rk : List Int) (t p1 p2 : Addr) (y9 : Option V) (H5 : Hp), D.nx = AnsW H a c x lt lr g F rs (i + 1) → tr.length = g.length → rk.length = g.length → (∀ k, k < g.length → (tr.getD k false, rk.getD k 0) = dueRow g F T' (rD rs i) rk k) →
          Ex H4 H5 → H4 p1 = none → H4 p2 = none → H5 t = some (.tup [.ref p1, .ref p2]) → H5 p1 = some (.lst (tr.map V.bl)) → H5 p2 = some (.lst (rk.map V.int)) →
          tSeq (tDrop (tBM K "list" rAppend (tVar 3) (tCons (tOp (rIxT K) (tVar 8) (tC (.int 0))) tNil))) (tDrop (tBM K "list" rAppend (tVar 4) (tCons (tOp (rIxT K) (tVar 8) (tC (.int 1))) tNil))) D
            [some (.ref a), some (.ref c), some (.ref x), some (.ref lt), some (.ref lr), some (.str (rD rs i).w.s), some (.int (rD rs i).l), some (.int (rD rs i).r), some (.ref t), y9, x10, x11] H5 := by
        intro D tr rk t p1 p2 y9 H5 hD ltr lrk hdue e5 n1 n2 ht h1 h2
        have hlt4 := e4 _ _ hlt
        have hlr4 := e4 _ _ hlr
        have hlt5 := e5 _ _ hlt4
        have hlr5 := e5 _ _ hlr4
        have p1t : p1 ≠ lt := fun z => by rw [z, hlt4] at n1; cases n1
        have p1r : p1 ≠ lr := fun z => by rw [z, hlr4] at n1; cases n1
        have p2t : p2 ≠ lt := fun z => by rw [z, hlt4] at n2; cases n2
        have p2r : p2 ≠ lr := fun z => by rw [z, hlr4] at n2; cases n2
        have tt : t ≠ lt := ne_of ht hlt5 (by intro z; cases z)
        have ll : pts.length = i := by rw [rt.1, List.length_map, lT]
        have ll2 : prs.length = i := by rw [rr.1, List.length_map, lR]
        refine q_app hlt5 (ev_var rfl) (ev_op (ev_var rfl) ev_c (rv_ixT (st_of ht) rfl)) (by rw [List.length_map]; omega) fun H6 e6 => ?_
        have hlr6 : (upd H6 lt (.lst (pts.map V.ref ++ [.ref p1]))) lr = some (.lst (prs.map V.ref)) := by rw [upd_ne lne.symm]; exact e6 _ _ hlr5
        have ht6 : (upd H6 lt (.lst (pts.map V.ref ++ [.ref p1]))) t = some (.tup [.ref p1, .ref p2]) := by rw [upd_ne tt]; exact e6 _ _ ht
        refine s_app hlr6 (ev_var rfl) (ev_op (ev_var rfl) ev_c (rv_ixT (st_of ht6) rfl)) (by rw [List.length_map]; omega) fun H7 e7 => ?_
        rw [hD]
        have r1 : Rw2 (upd H7 lr (.lst (prs.map V.ref ++ [.ref p2]))) lt lr pts (T'.map fun r => r.map V.bl) := ((((rt.ex e4).ex e5).ex e6).updT.ex e7).updR
        have r2 : Rw2 (upd H7 lr (.lst (prs.map V.ref ++ [.ref p2]))) lt lr prs (R.map fun r => r.map V.int) := ((((rr.ex e4).ex e5).ex e6).updT.ex e7).updR
        have h1' : (upd H7 lr (.lst (prs.map V.ref ++ [.ref p2]))) p1 = some (.lst (tr.map V.bl)) := by
          rw [upd_ne p1r]
          exact e7 _ _ (by rw [upd_ne p1t]; exact e6 _ _ h1)
        have h2' : (upd H7 lr (.lst (prs.map V.ref ++ [.ref p2]))) p2 = some (.lst (rk.map V.int)) := by
          rw [upd_ne p2r]
          exact e7 _ _ (by rw [upd_ne p2t]; exact e6 _ _ h2)
        have s1 := r1.snoc p1t p1r h1'
        have s2 := r2.snoc p2t p2r h2'
        refine ⟨((((eH4.trans e5).trans e6).mut nlt).trans e7).mut nlr', T' ++ [tr], R ++ [rk], pts ++ [p1], prs ++ [p2], ?_, ?_, ?_, ?_, by rw [List.length_append, lT]; rfl, by rw [List.length_append, lR]; rfl, ?_, ?_, ?_, _, _, _, _, _, _, _, rfl⟩
        · rw [upd_ne lne, List.map_append]
          exact e7 _ _ upd_same
        · rw [upd_same, List.map_append]
          rfl
        · rw [List.map_append]
          exact s1
        · rw [List.map_append]
          exact s2
        · intro r hr
          rcases List.mem_append.mp hr with z | z
          · exact wT r z
          · rw [List.mem_singleton.mp z]; exact ltr
        · intro r hr
          rcases List.mem_append.mp hr with z | z
          · exact wR r z
          · rw [List.mem_singleton.mp z]; exact lrk
        · intro j hj k hk
          rw [dueRow_snoc (ok j (by omega)) (by omega), snoc_at (by omega), snoc_at (by omega)]
          by_cases hji : j < i
          · rw [if_pos (by omega), if_pos (by omega)]
            exact fit j hji k hk
          · have ej : j = i := by omega
            subst ej
            rw [if_neg (by omega), if_neg (by omega)]
            exact hdue k hk
      have neg1 : ∀ {σ : L2.St}, σ[0]? = some (some (.ref a)) → (∀ x, wipe ((wipe σ [10]).set 10 (some x)) [10] = wipe σ [10]) → EvL (tLc (iList K (tVar 0)) (gName 10) tYes (tUn (rU fun i => .int (-i)) (tC (.int 1))) [10]) σ H ((List.replicate ps.length (-1 : Int)).map V.int) := fun h hw =>
        el_rep (f := V.ref) 0 (-1 : Int) (ev_var h) g1 (by omega) hw fun y => ev_un ev_c ru_neg
      refine q_if (EvT.mono eH4 (et_or (et_test (ev_eq (ev_var rfl) ev_c rfl (dec_wd (b := .tt)))) fun _ => et_test (ev_eq (ev_var rfl) ev_c rfl (dec_wd (b := .ff))))) (fun c1 H5 e5 => ?_) (fun c1 H5 e5 => ?_)
      · -- true, false
        have e45 := eH4.trans e5
        refine s_asgEx (a_consL (el_rep (f := V.ref) (h := V.bl) 0 ((rD rs i).w == .tt) (ev_var rfl) g1 (by omega) (fun _ => rfl) fun y => ev_eq (ev_var rfl) ev_c rfl (dec_wd (b := .tt))) e45 fun p1 H6 n1 e6 h1 => a_consL (neg1 rfl fun _ => rfl) (e45.trans e6) fun p2 H7 n2 e7 h2 => a_nil ⟨by show 2 ≤ sizeLine; decide, fun t nt => ?_⟩)
        refine cont _ _ _ t p1 p2 _ _ rfl (by rw [List.length_replicate]; exact g2) (by rw [List.length_replicate]; exact g2) (fun k hk => ?_) (((e5.trans e6).trans e7).trans (Ex.new nt)) (fresh_back e5 n1) (fresh_back (e5.trans e6) n2) upd_same (Ex.new nt _ _ (e7 _ _ h1)) (Ex.new nt _ _ h2)
        rw [rep_at (by omega), rep_at (by omega)]
        unfold dueRow
        rcases Bool.or_eq_true_iff.mp c1 with z | z
        · have z := of_decide_eq_true z
          rw [if_neg (by rw [z]; decide), if_pos (.inl z)]
        · have z := of_decide_eq_true z
          rw [if_neg (by rw [z]; decide), if_pos (.inr z)]
      have c1' : ¬ ((rD rs i).w = .tt ∨ (rD rs i).w = .ff) := by
        obtain ⟨z1, z2⟩ := Bool.or_eq_false_iff.mp c1
        rintro (z | z)
        · exact of_decide_eq_false z1 z
        · exact of_decide_eq_false z2 z
      refine s_if (et_test (ev_eq (ev_var rfl) ev_c rfl (dec_wd (b := .fact)))) (fun c2 H6 e6 => ?_) (fun c2 H6 e6 => ?_)
      · -- a fact
        have c2 := of_decide_eq_true c2
        obtain ⟨l, el, hl⟩ : ∃ l : Nat, (rD rs i).l = (l : Int) ∧ l < nf := by
          rcases o with ⟨_, _, ⟨z, _⟩ | ⟨_, z⟩⟩ | ⟨z, _⟩ | ⟨z, _⟩
          · exact absurd c2 z
          · exact z
          · rw [c2] at z; exact absurd z (by decide)
          · rw [c2] at z; exact absurd z (by decide)
        have e46 := (eH4.trans e5).trans e6
        refine s_asgEx (a_consL (el_is (el_comp (fun _ => true) (fun j => V.bl ((F.getD j []).getD l false)) (wk_listM (f := V.ref) 0 (ev_var rfl) f1) (by omega) (fun _ => rfl) (fun j hj H1 _ _ q => q H1 (Ex.refl _)) fun j hj _ =>
            ev_ixM (i := l) false (ev_var rfl) (ev_var (by rw [← el]; rfl)) (f3 j (by omega)) (by rw [tF.wl _ (getD_mem (by omega))]; exact hl)) (given_map (h := V.bl) (c := fun j => (F.getD j []).getD l false))) e46 fun p1 H7 n1 e7 h1 => a_consL (neg1 rfl fun _ => rfl) (e46.trans e7) fun p2 H8 n2 e8 h2 => a_nil ⟨by show 2 ≤ sizeLine; decide, fun t nt => ?_⟩)
        refine cont _ _ _ t p1 p2 _ _ rfl (by rw [List.length_map, List.length_range]; omega) (by rw [List.length_replicate]; exact g2) (fun k hk => ?_) ((((e5.trans e6).trans e7).trans e8).trans (Ex.new nt)) (fresh_back (e5.trans e6) n1) (fresh_back ((e5.trans e6).trans e7) n2) upd_same (Ex.new nt _ _ (e8 _ _ h1)) (Ex.new nt _ _ h2)
        rw [range_at (by omega), rep_at (by omega)]
        unfold dueRow
        rw [if_pos c2, el]
        rfl
      -- an operator
      have c2 := of_decide_eq_false c2
      have kind : (rD rs i).w.leaf = false ∧ ∃ l m : Nat, (rD rs i).l = (l : Int) ∧ l < i ∧ m < i ∧ (((rD rs i).r = -1 ∧ m = l) ∨ (rD rs i).r = (m : Int)) := by
        rcases o with ⟨o1, o2, o3⟩ | ⟨o1, o2, l, o3, o4⟩ | ⟨o1, l, m, o3, o4, o5, o6⟩
        · exfalso
          unfold Wd.leaf at o1
          simp only [Bool.or_eq_true, beq_iff_eq] at o1
          rcases o1 with (z | z) | z
          · exact c1' (.inl z)
          · exact c1' (.inr z)
          · exact c2 z
        · refine ⟨?_, l, l, o3, o4, o4, .inl ⟨o2, rfl⟩⟩
          revert o1
          cases (rD rs i).w <;> first | (intro _; rfl) | (intro z; exact absurd z (by decide))
        · refine ⟨?_, l, m, o3, o4, o6, .inr o5⟩
          revert o1
          cases (rD rs i).w <;> first | (intro _; rfl) | (intro z; exact absurd z (by decide))
      obtain ⟨nleaf, l, m, el, hl, hm, hr2⟩ := kind
      have em : (if (rD rs i).r = -1 then (rD rs i).l else (rD rs i).r) = (m : Int) := by
        rcases hr2 with ⟨h1, h2⟩ | h1
        · rw [if_pos h1, el, h2]
        · rw [if_neg (by omega), h1]
      refine q_asg (v := .int (m : Int)) (ev_if (b := decide ((rD rs i).r = -1)) (et_test (ev_eq (ev_var rfl) (ev_un ev_c ru_neg) rfl dec_int)) (fun z => ?_) (fun z => ?_)) fun H7 e7 => ?_
      · have z := of_decide_eq_true z
        rw [if_pos z] at em
        rw [← em]
        exact ev_var rfl
      · have z := of_decide_eq_false z
        rw [if_neg z] at em
        rw [← em]
        exact ev_var rfl
      have e47 := (e5.trans e6).trans e7
      have hlt7 := e47 _ _ (e4 _ _ hlt)
      have rt7 := (rt.ex e4).ex e47
      have ll : pts.length = i := by rw [rt.1, List.length_map, lT]
      have at7 : ∀ n : Nat, n < i → SqL K H7 (pts.getD n 0) ((T'.getD n []).map V.bl) := fun n hn => by
        have z := (rt7.2 n (by rw [List.length_map]; omega)).2.2
        rw [map_at (d := []) (by omega)] at z
        exact sq_of z
      have eH7 := eH4.trans e47
      refine s_asgEx (ex_call (a_cons (ev_var rfl) (Ex.refl _) fun H8 e8 => a_cons (ev_var rfl) (Ex.refl _) fun H9 e9 => a_cons (Ev.mono (e8.trans e9) (ev_ixM (f := V.ref) (i := l) 0 (ev_var rfl) (ev_var (by rw [← el]; rfl)) (sq_of hlt7) (by omega))) (Ex.refl _) fun H10 e10 =>
        a_cons (Ev.mono ((e8.trans e9).trans e10) (ev_ixM (f := V.ref) (i := m) 0 (ev_var rfl) (ev_var rfl) (sq_of hlt7) (by omega))) (Ex.refl _) fun H11 e11 => a_nil ?_))
      have e711 := ((e8.trans e9).trans e10).trans e11
      refine ⟨(rD rs i).w, a, pts.getD l 0, pts.getD m 0, g, T'.getD l [], T'.getD m [], rfl, nleaf, ha.mono (eH7.trans e711), ex_l e711 (at7 l hl), ex_l e711 (at7 m hm), G, wT _ (getD_mem (by omega)), wT _ (getD_mem (by omega)), fun tr rk t p1 p2 H12 ltr lrk hdue nt n1 n2 e12 ht h1 h2 => ?_⟩
      have e412 := e47.trans e711
      refine cont _ tr rk t p1 p2 _ H12 rfl ltr lrk (fun k hk => ?_) (e412.trans e12) (fresh_back e412 n1) (fresh_back e412 n2) ht h1 h2
      rw [hdue k hk]
      unfold dueRow dueX
      rw [if_neg c2, if_neg c1', em, el]
      rfl
    · rintro σ' H' ⟨e3, T', R, pts, prs, hlt, hlr, rt, rr, lT, lR, wT, wR, fit, x5, x6, x7, x8, x9, x10, x11, rfl⟩
      have tT : Tab K H' V.bl lt T' := rt.tab hlt
      have tR : Tab K H' V.int lr R := rr.tab hlr
      refine s_retEx (a_cons (ev_var rfl) (Ex.refl _) fun H4 e4 => a_cons (ev_var rfl) (Ex.refl _) fun H5 e5 => a_nil ?_)
      have e45 := e4.trans e5
      intro x' dx' nx nd hne
      have hid_ := mk_ex (o := .ins (He.ga K "Answer") dx' []) (u := .own x') nx nd
      refine ⟨x', dx', lt, lr, T', R, rfl, upd_same, (tT.mono e45).mono hid_, (tR.mono e45).mono hid_, by omega, by omega, fun H6 e6 an => ⟨rfl, ?_⟩⟩
      exact q T' R x' H6 ⟨lT, wT⟩ ⟨lR, wR⟩ (fun i hi k hk => fit i hi k hk) (((e3.trans e45).trans hid_).trans e6) an
end
end K94

/-! D_law_judge -/
namespace K94
open PySem PySem.Spec PyProof.Rows L2 Evl
theorem lst_eqv {α : Type} [DecidableEq α] {h : α → PyData} (hh : ∀ x y, PyData.eqv (h x) (h y) = decide (x = y)) : ∀ xs ys : List α, PyData.eqv (.list (xs.map h)) (.list (ys.map h)) = decide (xs = ys)
  | [], [] => by simp [PyData.eqv, PyData.eqvAll]
  | [], _ :: _ => by simp [PyData.eqv, PyData.eqvAll]
  | _ :: _, [] => by simp [PyData.eqv, PyData.eqvAll]
  | x :: xs, y :: ys => by
    have ih := lst_eqv hh xs ys
    simp only [PyData.eqv] at ih
    simp only [List.map_cons, PyData.eqv, PyData.eqvAll, ih, hh]
    by_cases h1 : x = y <;> by_cases h2 : xs = ys <;> simp [h1, h2]
theorem bl_eqv (x y : Bool) : PyData.eqv (.bool x) (.bool y) = decide (x = y) := by cases x <;> cases y <;> simp [PyData.eqv]
theorem int_eqv (x y : Int) : PyData.eqv (.int x) (.int y) = decide (x = y) := by by_cases h : x = y <;> simp [PyData.eqv, h]
def dTab {α : Type} (h : α → PyData) (T : List (List α)) : PyData := .list (T.map fun r => .list (r.map h))
theorem tab_eqv {α : Type} [DecidableEq α] {h : α → PyData} (hh : ∀ x y, PyData.eqv (h x) (h y) = decide (x = y)) (T T' : List (List α)) : PyData.eqv (dTab h T) (dTab h T') = decide (T = T') := lst_eqv (lst_eqv hh) T T'
theorem tab_shaped {α : Type} {h : α → PyData} (hl : ∀ x, (h x).canLay0 = true) (hd : ∀ x, (h x).depth ≤ 0) (T : List (List α)) : SeqAt.shaped (dTab h T) = true :=
  list_shaped (n := 1) (h := fun r : List α => .list (r.map h)) (fun r => by simp only [PyData.canLay0]; exact lays hl r) (fun r _ => by have := depths (h := h) (n := 0) (xs := r) fun x _ => hd x; simp only [PyData.depth]; omega) (by decide)
theorem a_consTab {K : PySem.W.Frag} {te : TE} {tr : TA} {σ : L2.St} {H0 H : Hp} {Q : List V → Hp → Prop} {cs : List (List V)} (h : EvTab te σ H0 cs) (e : Ex H0 H) (k : ∀ (p : Addr) (ps : List Addr) (H2 : Hp), H p = none → Ex H H2 → H2 p = some (.lst (ps.map V.ref)) → ps.length = cs.length → (∀ i, i < cs.length → H (ps.getD i 0) = none ∧ ps.getD i 0 ≠ p ∧ H2 (ps.getD i 0) = some (.lst (cs.getD i []))) → tr σ H2 fun vs H3 => Q (.ref p :: vs) H3) : tCons te tr σ H Q := h H e _ k
theorem ev_isC {C : Addr} {te : TE} {σ : L2.St} {H : Hp} {a dx : Addr} {fs : List (Str × V)} (h : Ev te σ H (.ref a)) (ha : H a = some (.ins C dx fs)) : Ev (tCB (fun xs H Q => ∃ a dx fs, xs = [V.ref a, .ref C] ∧ H a = some (.ins C dx fs) ∧ Q (.bl true) H) (tCons te (tCons (tC (.ref C)) tNil))) σ H (.bl true) :=
  ev_cb (ea_cons h (ea_cons ev_c ea_nil)) fun H1 e Q q => ⟨a, dx, fs, rfl, e _ _ ha, q H1 (Ex.refl _)⟩
theorem rv_isnot {a b : Bool} {H : Hp} : RV (fun x y H Q => ∃ a b, x = V.bl a ∧ y = .bl b ∧ Q (.bl (!decide (a = b))) H) (.bl a) (.bl b) H (.bl (!decide (a = b))) := fun H1 _ _ q => ⟨a, b, rfl, rfl, q H1 (Ex.refl H1)⟩
theorem a_make {C : Addr} {sp : Sp} {dvs : List V} {E : XK} {t tr : TA} {σ : L2.St} {H : Hp} {Q : List V → Hp → Prop} (h : t σ H fun vs H1 => ∀ x dx, H1 x = none → H1 dx = none → dx ≠ x → sp (.ref x :: (vs ++ dvs)) (upd (upd H1 dx (.own x)) x (.ins C dx [])) (fun v H2 => v = .non ∧ tr σ H2 fun vs H3 => Q (.ref x :: vs) H3) E) : tCons (tMake C sp dvs E t) tr σ H Q := h
def sp__law_judge (K : PySem.W.Frag) : Sp := fun vs H Q _ => ∃ (a c x o tx ty : Addr) (nf : Nat) (g : List (List Nat)) (F : List (List Bool)) (es : List Bool) (rs : List Row) (T : List (List Bool)) (R : List (List Int)), vs = [.ref a, .ref c, .ref x, .ref o] ∧ Tab K H nI a g ∧ Tab K H V.bl c F ∧ RowsF K H x es rs ∧ SqT K H o [.ref tx, .ref ty] ∧ Tab K H V.bl tx T ∧ Tab K H V.int ty R ∧
  Gok g ∧ rs.length ≤ 1000 ∧ (∀ i, i < rs.length → RowOk nf i (rD rs i)) ∧ Tb g.length nf F ∧ Tb rs.length g.length T ∧ Tb rs.length g.length R ∧ RetV (.bl true) H Q
section
variable {P : Program} {w : World} {K : PySem.W.Frag} {mg : Str → Option Value} {base : Heap}
theorem ok__law_judge (T : Txt w K mg) : Ok P w K mg base 6 ("_law_judge", none) ["_law_after", "_law_facts", "_law_rows", "_law_other_here"] (sp__law_judge K) := by
  obtain ⟨fd_accepts_answer, G_accepts_answer, b_accepts_answer, k_accepts_answer⟩ := ok_accepts_answer (P := P) (base := base) T
  obtain ⟨fd__law_fits, G__law_fits, b__law_fits, k__law_fits⟩ := ok__law_fits (P := P) (base := base) T
  obtain ⟨fd__law_is_table, G__law_is_table, b__law_is_table, k__law_is_table⟩ := ok__law_is_table (P := P) (base := base) T
  obtain ⟨fd_answer, G_answer, b_answer, k_answer⟩ := ok_answer (P := P) (base := base) T
  obtain ⟨fd_Answer, G_Answer, b_Answer, k_Answer⟩ := ok_Answer___init__ (P := P) (base := base) T
  obtain ⟨fd, F⟩ := T.def_ 41 _ rfl
  have S : FnScope ["_law_after", "_law_facts", "_law_rows", "_law_other_here", "_law_height", "_law_numbered", "_law_actual", "_law_fits_here", "_law_accepted", "_law_row_here"] ["_law_after", "_law_facts", "_law_rows", "_law_other_here"] (defScope (top 48)) := ⟨rfl, rfl, rfl, by decide +kernel, rfl, by decide +kernel, by decide +kernel⟩
  refine ⟨fd, F.ok S (fun vs H Q E h => ?_) (fun cdv A outer s H vs Q E hr h => ?_), F.bindsN fun _ _ _ _ _ _ us hl => match us, hl with | [_, _, _, _], _ => rfl, F.kp⟩
  · obtain ⟨_, _, _, _, _, _, _, _, _, _, _, _, _, rfl, _⟩ := h
    rfl
  · have hu := hu_of hr
    have hu64 := hr.units
    have hu65 := hu65_of hr
    refine ⟨_, PSs.nox (pss_cons (ps_set (i := 4) S.nd rfl (Or.inl rfl) (pe_callB (cLen (K := K)) rfl (T.f 45) (by decide +kernel) (pa_cons (peFld (K := K) (pv 2)) pa_nil)))
      (pss_cons (ps_set (i := 5) S.nd rfl (Or.inl rfl) (pe_callTy (cList (K := K)) rfl (T.f 55) (by decide +kernel) (pa_cons (peFld (K := K) (pv 2)) pa_nil)))
      (pss_cons (ps_set (i := 6) S.nd rfl (Or.inl rfl) (pe_call G_answer (hr.mono (by decide)) rfl (T.g 8) k_answer b_answer .nil pass0 (pa_cons (pe_lc rfl S.nd  (piList (K := K) (pv 0)) (blkOk_by (own := [("_law_row_here", 9)]) (by kernel_rfl)) (fun _ _ _ _ _ => (pg_name (i := 9) S.nd rfl (Or.inl rfl))) (fun _ _ _ _ _ => pts_nil) (fun _ _ _ _ _ => (pe_callTy (cList (K := K)) rfl (T.f 55) (by decide +kernel) (pa_cons (pv 9) pa_nil)))) (pa_cons (pe_lc rfl S.nd  (piList (K := K) (pv 1)) (blkOk_by (own := [("_law_row_here", 9)]) (by kernel_rfl)) (fun _ _ _ _ _ => (pg_name (i := 9) S.nd rfl (Or.inl rfl))) (fun _ _ _ _ _ => pts_nil) (fun _ _ _ _ _ => (pe_callTy (cList (K := K)) rfl (T.f 55) (by decide +kernel) (pa_cons (pv 9) pa_nil)))) (pa_cons (pv 2) pa_nil)))))
      (pss_cons (ps_if (PW.pt (pw_or (pt_not (pt_val (pe_callB (C8.call_isC (insC T)) rfl (T.f 54) (by decide +kernel) (pa_cons (pv 6) (pa_cons (pe_glob (v := .ref (He.ga K "Answer")) rfl (T.g 39) rfl) pa_nil))))) (pw_or1 (pt_not (pt_val (pe_call G__law_is_table (hr.mono (by decide)) rfl (T.g 22) k__law_is_table b__law_is_table .nil pass0 (pa_cons (peFld (K := K) (pv 6)) (pa_cons (pv 4) (pa_cons (pe_callB (cLen (K := K)) rfl (T.f 45) (by decide +kernel) (pa_cons (pv 0) pa_nil)) (pa_cons pe_bl pa_nil)))))))))) (pss_one (ps_ret pe_bl)) pss_nil)
      (pss_cons (ps_if (pt_not (pt_val (pe_call G__law_is_table (hr.mono (by decide)) rfl (T.g 22) k__law_is_table b__law_is_table .nil pass0 (pa_cons (peFld (K := K) (pv 6)) (pa_cons (pv 4) (pa_cons (pe_callB (cLen (K := K)) rfl (T.f 45) (by decide +kernel) (pa_cons (pv 0) pa_nil)) (pa_cons pe_bl pa_nil))))))) (pss_one (ps_ret pe_bl)) pss_nil)
      (pss_cons (ps_if (pt_not (pt_val (pe_call G__law_fits (hr.mono (by decide)) rfl (T.g 31) k__law_fits b__law_fits .nil pass0 (pa_cons (pv 0) (pa_cons (pv 1) (pa_cons (pv 5) (pa_cons (peFld (K := K) (pv 6)) (pa_cons (peFld (K := K) (pv 6)) pa_nil)))))))) (pss_one (ps_ret pe_bl)) pss_nil)
      (pss_cons (ps_if (pt_cmpR op_isnot_bl (pe_call G_accepts_answer (hr.mono (by decide)) rfl (T.g 17) k_accepts_answer b_accepts_answer .nil pass0 (pa_cons (pv 0) (pa_cons (pv 1) (pa_cons (pv 2) (pa_cons (pv 6) pa_nil))))) pe_bl (nomark _)) (pss_one (ps_ret pe_bl)) pss_nil)
      (pss_cons (ps_set (i := 7) S.nd rfl (Or.inl rfl) (pe_call G__law_fits (hr.mono (by decide)) rfl (T.g 31) k__law_fits b__law_fits .nil pass0 (pa_cons (pv 0) (pa_cons (pv 1) (pa_cons (pv 5) (pa_cons (pe_ix (ixT (K := K)) (pv 3) pe_int (fun _ _ => rfl)) (pa_cons (pe_ix (ixT (K := K)) (pv 3) pe_int (fun _ _ => rfl)) pa_nil)))))))
      (pss_cons (ps_if (pt_cmpR op_ne (pe_and (pe_cmpR (opEqD (K := K) hu64) (pe_ix (ixT (K := K)) (pv 3) pe_int (fun _ _ => rfl)) (peFld (K := K) (pv 6)) (nomark _)) (pe_one (pe_cmpR (opEqD (K := K) hu64) (pe_ix (ixT (K := K)) (pv 3) pe_int (fun _ _ => rfl)) (peFld (K := K) (pv 6)) (nomark _)))) (pv 7) (nomark _)) (pss_one (ps_ret pe_bl)) pss_nil)
      (pss_cons (ps_set (i := 8) S.nd rfl (Or.inl rfl) (pe_call G_accepts_answer (hr.mono (by decide)) rfl (T.g 17) k_accepts_answer b_accepts_answer .nil pass0 (pa_cons (pv 0) (pa_cons (pv 1) (pa_cons (pv 2) (pa_cons (pe_make (He.mkr_ok (T.fact 63 _ rfl)) G_Answer (hr.mono (by decide)) rfl (T.g 39) b_Answer .nil pass0 (pa_cons (pe_ix (ixT (K := K)) (pv 3) pe_int (fun _ _ => rfl)) (pa_cons (pe_ix (ixT (K := K)) (pv 3) pe_int (fun _ _ => rfl)) pa_nil))) pa_nil))))))
      (pss_one (ps_ret (pe_and (pe_callB (cIsi (K := K)) rfl (T.f 54) (by decide +kernel) (pa_cons (pv 8) (pa_cons (pe_bltn (v := .ty "bool") rfl (T.f 56) (by decide +kernel) rfl) pa_nil))) (pe_one (pe_cmpR op_eq (pv 8) (pv 7) (nomark _)))))))))))))))), ?_⟩
    obtain ⟨a, c, x, o, tx, ty, nf, g, F, es, rs, T0, R0, rfl, ha, hc, hx, ho, hT0, hR0, G, hz, ok, tF, tT0, tR0, q⟩ := h
    have hn := G.len
    have hF := tF.hl
    have hxr := hx.at
    obtain ⟨dx, fa, ra, ta, hx, hfs, hrow, htmp⟩ := hx
    refine q_asg (ev_lenR (ev_fld (ev_var rfl) hx (T.cls 58) (T.noat 65) rfl) hrow) fun H1 e1 => ?_
    obtain ⟨ps, l1, l2, l3⟩ := hrow
    refine q_asgL (el_list (ev_fld (ev_var rfl) (e1 _ _ hx) (T.cls 58) (T.noat 65) rfl) (ex_l e1 l1)) fun ln H2 nln e2 h2 => ?_
    have e02 := e1.trans e2
    have hln : RowL K H2 ln rs := ⟨ps, sq_of h2, l2, fun i hi => ex_t e02 (l3 i hi)⟩
    refine q_asgEx (ex_call (a_consTab (K := K) (el_copy (ev_var rfl) (ha.mono e02) (by omega) (fun _ => rfl) (Nat.le_refl 10)) (Ex.refl _) fun pa psa H3 np3 e3 hp3 lp3 each3 => a_consTab (K := K) (el_copy (ev_var rfl) (hc.mono (e02.trans e3)) (by omega) (fun _ => rfl) (Nat.le_refl 10)) (Ex.refl _) fun pc psc H4 np4 e4 hp4 lp4 each4 => a_cons (ev_var rfl) (Ex.refl _) fun H5 e5 => a_nil ?_))
    have tA : Tab K H3 nI pa g := (tab_of (A := fun a => H2 a = none) hp3 lp3 each3).tab
    have tC_ : Tab K H4 V.bl pc F := (tab_of (A := fun a => H3 a = none) hp4 lp4 each4).tab
    have e25 := (e3.trans e4).trans e5
    have e05 := e02.trans e25
    refine ⟨pa, pc, x, nf, g, F, rs, rfl, tA.mono (e4.trans e5), tC_.mono e5, hxr.mono e05, G, hz, ok, tF, fun T' R p H6 tT tR fit e6 an => ?_⟩
    have e06 := e05.trans e6
    have ha6 := ha.mono e06
    have hc6 := hc.mono e06
    have hln6 := hln.mono (e25.trans e6)
    have hxr6 := hxr.mono e06
    have an6 := an
    obtain ⟨dp, pt, pr, hp, hT, hR⟩ := an
    have fL : ∀ {σ : L2.St} {J : Hp}, Ex H6 J → σ[6]? = some (some (.ref p)) → Ev (tFld K (tVar 6) "truths") σ J (.ref pt) := fun e s => ev_fld (ev_var s) (e _ _ hp) (T.cls 60) (T.noat 70) rfl
    have fR : ∀ {σ : L2.St} {J : Hp}, Ex H6 J → σ[6]? = some (some (.ref p)) → Ev (tFld K (tVar 6) "ranks") σ J (.ref pr) := fun e s => ev_fld (ev_var s) (e _ _ hp) (T.cls 60) (T.noat 71) rfl
    have fitL : FitsL g F rs T' R := (fits_iff G ok).mp fit
    refine q_when (b := false) (et_is (et_or (et_not (et_B (ev_isC (ev_var rfl) hp))) fun _ => et_not (et_B (ev_call (z := .bl true) (ea_cons (fL (Ex.refl _) rfl) (ea_cons (ev_var rfl) (ea_cons (ev_lenT (ev_var rfl) ha6) (ea_cons ev_c ea_nil)))) fun H7 e Q' q' E => ⟨Bool, V.bl, false, pt, rs.length, g.length, true, T', rfl, hT.mono e, tT, fun x => .inl ⟨rfl, x, rfl⟩, by omega, by omega, q'⟩))) rfl) (fun z => by cases z) (fun _ H7 e7 => ?_)
    refine q_when (b := false) (et_is (et_not (et_B (ev_call (z := .bl true) (ea_cons (fR e7 rfl) (ea_cons (ev_var rfl) (ea_cons (ev_lenT (ev_var rfl) (ha6.mono e7)) (ea_cons ev_c ea_nil)))) fun H8 e Q' q' E => ⟨Int, V.int, 0, pr, rs.length, g.length, false, R, rfl, (hR.mono e7).mono e, tR, fun x => .inr ⟨rfl, x, rfl⟩, by omega, by omega, q'⟩))) rfl) (fun z => by cases z) (fun _ H8 e8 => ?_)
    have e68 := e7.trans e8
    refine q_when (b := false) (et_is (et_not (et_B (ev_call (z := .bl true) (ea_cons (ev_var rfl) (ea_cons (ev_var rfl) (ea_cons (ev_var rfl) (ea_cons (fL e68 rfl) (ea_cons (fR e68 rfl) ea_nil))))) fun H9 e Q' q' E => ⟨a, c, ln, pt, pr, nf, g, F, T', R, rs, rfl, ha6.mono (e68.trans e), hc6.mono (e68.trans e), hln6.mono (e68.trans e), (hT.mono (e68.trans e)).tab, (hR.mono (e68.trans e)).tab, G, ok, hz, tF, tT, tR, .of (b := true) ⟨fun _ => fitL, fun _ => rfl⟩ q'⟩))) rfl) (fun z => by cases z) (fun _ H9 e9 => ?_)
    have e69 := e68.trans e9
    refine q_when (b := false) (et_is (et_test (ev_op (ev_call (z := .bl true) (ea_cons (ev_var rfl) (ea_cons (ev_var rfl) (ea_cons (ev_var rfl) (ea_cons (ev_var rfl) ea_nil)))) fun H10 e Q' q' E => ⟨a, c, x, p, nf, g, F, T', R, rs, rfl, hxr6.mono (e69.trans e), ha6.mono (e69.trans e), hc6.mono (e69.trans e), an6.mono (e69.trans e), G, hz, ok, tF, tT, tR, .of (b := true) ⟨fun _ => fit, fun _ => rfl⟩ q'⟩) ev_c rv_isnot)) rfl) (fun z => by cases z) (fun _ H10 e10 => ?_)
    have e610 := e69.trans e10
    have e010 := e06.trans e610
    obtain ⟨b1, hb1⟩ := bool_of (FitsL g F rs T0 R0)
    refine q_asg (ev_call (z := .bl b1) (ea_cons (ev_var rfl) (ea_cons (ev_var rfl) (ea_cons (ev_var rfl) (ea_cons (ev_op (ev_var rfl) ev_c (rv_ixT (ex_t e010 ho) rfl)) (ea_cons (ev_op (ev_var rfl) ev_c (rv_ixT (ex_t e010 ho) rfl)) ea_nil))))) fun H11 e Q' q' E => ⟨a, c, ln, tx, ty, nf, g, F, T0, R0, rs, rfl, ha6.mono (e610.trans e), hc6.mono (e610.trans e), hln6.mono (e610.trans e), hT0.mono (e010.trans e), hR0.mono (e010.trans e), G, ok, hz, tF, tT0, tR0, .of hb1 q'⟩) fun H11 e11 => ?_
    have e611 := e610.trans e11
    have e011 := e06.trans e611
    have hb2 : b1 = true ↔ Fits g F rs T0 R0 := hb1.trans (fits_iff G ok).symm
    have same : (decide (T0 = T') && decide (R0 = R)) = b1 := by
      refine bool_one (p := Fits g F rs T0 R0) ?_ hb2
      rw [Bool.and_eq_true, decide_eq_true_eq, decide_eq_true_eq]
      constructor
      · rintro ⟨rfl, rfl⟩; exact fit
      · intro h; exact fits_one G ok tT0 tT tR0 tR h fit
    refine q_when (b := false) (et_is (et_test (ev_ne (b := false) (ev_is (w := .bl b1) (ev_andV (ev_eqD (K := K) (ed_ev (ev_op (ev_var rfl) ev_c (rv_ixT (ex_t e011 ho) rfl)) (Tab.dp (h := PyData.bool) (fun x => .bl x) (hT0.mono e011))) (ed_ev (fL e611 rfl) (Tab.dp (h := PyData.bool) (fun x => .bl x) (hT.mono e611).tab)) (tab_shaped (fun _ => by simp [PyData.canLay0]) (fun _ => by simp [PyData.depth]) T0) (tab_shaped (fun _ => by simp [PyData.canLay0]) (fun _ => by simp [PyData.depth]) T'))
      fun _ => ev_eqD (K := K) (ed_ev (ev_op (ev_var rfl) ev_c (rv_ixT (ex_t e011 ho) rfl)) (Tab.dp (h := PyData.int) (fun x => .int x) (hR0.mono e011))) (ed_ev (fR e611 rfl) (Tab.dp (h := PyData.int) (fun x => .int x) (hR.mono e611).tab)) (tab_shaped (fun _ => by simp [PyData.canLay0]) (fun _ => by simp [PyData.depth]) R0) (tab_shaped (fun _ => by simp [PyData.canLay0]) (fun _ => by simp [PyData.depth]) R)) ?_) (ev_var rfl) rfl ?_)) rfl) (fun z => by cases z) (fun _ H12 e12 => ?_)
    · show V.bl (PyData.eqv (dTab .bool T0) (dTab .bool T') && PyData.eqv (dTab .int R0) (dTab .int R)) = .bl b1
      rw [tab_eqv bl_eqv, tab_eqv int_eqv, same]
    · simp
    have e612 := e611.trans e12
    have e012 := e06.trans e612
    refine q_asgEx (ex_call (a_cons (ev_var rfl) (Ex.refl _) fun H13 e13 => a_cons (ev_var rfl) (Ex.refl _) fun H14 e14 => a_cons (ev_var rfl) (Ex.refl _) fun H15 e15 => ?_))
    have e1215 := (e13.trans e14).trans e15
    have e015 := e012.trans e1215
    refine a_make (a_cons (ev_op (ev_var rfl) ev_c (rv_ixT (ex_t e015 ho) rfl)) (Ex.refl _) fun H16 e16 => a_cons (ev_op (ev_var rfl) ev_c (rv_ixT (ex_t (e015.trans e16) ho) rfl)) (Ex.refl _) fun H17 e17 => a_nil ?_)
    intro y dy ny ndy hne
    have hm := mk_ex (o := .ins (He.ga K "Answer") dy []) (u := .own y) ny ndy
    have e0m := ((e015.trans e16).trans e17).trans hm
    have e6m := (((e612.trans e1215).trans e16).trans e17).trans hm
    refine ⟨y, dy, tx, ty, T0, R0, rfl, upd_same, hT0.mono e0m, hR0.mono e0m, by have := tT0.hl; omega, by have := tR0.hl; omega, fun H18 e18 an2 => ⟨rfl, ?_⟩⟩
    have e618 := e6m.trans e18
    refine a_nil ⟨a, c, x, y, nf, g, F, T0, R0, rs, rfl, hxr6.mono e618, ha6.mono e618, hc6.mono e618, an2, G, hz, ok, tF, tT0, tR0, .of hb2 fun H19 e19 => ?_⟩
    refine s_ret (ev_is (ev_andV (ev_isB (ev_var rfl)) fun _ => ev_eq (ev_var rfl) (ev_var rfl) rfl dec_bl') (show _ = V.bl true by simp)) fun H20 e20 => q H20 (((e06.trans e618).trans e19).trans e20)
end
end K94

/-! D_law_greatest -/
namespace K94
open PySem PySem.Spec PyProof.Rows L2 Evl
theorem RowOk.path {nf i : Nat} {r : Row} (h : RowOk nf i r) (hp : r.w.path = true) : (∃ l : Nat, r.l = (l : Int) ∧ l < i) ∧ (r.w.u = true → ∃ m : Nat, r.r = (m : Int) ∧ m < i) := by
  rcases h with ⟨o, _⟩ | ⟨o, _, l, o4, o5⟩ | ⟨_, l, m, o4, o5, o6, o7⟩
  · exfalso
    revert o hp
    generalize r.w = w
    cases w <;> intro o hp <;> first | exact absurd o (by decide) | exact absurd hp (by decide)
  · refine ⟨⟨l, o4, o5⟩, fun hu => ?_⟩
    exfalso
    revert o hu
    generalize r.w = w
    cases w <;> intro o hp <;> first | exact absurd o (by decide) | exact absurd hp (by decide)
  · exact ⟨⟨l, o4, o5⟩, fun _ => ⟨m, o6, o7⟩⟩
theorem ev_chU' {σ : L2.St} {H : Hp} {ta : TE} {w : Wd} (ha : Ev ta σ H (.str w.s)) : Ev (tOp rEq (tOp rIxS ta (tC (.int 1))) (tC (.str "u"))) σ H (.bl w.u) := by
  cases w <;> exact ev_eq (ev_op ha ev_c (rv_ixS (by decide +kernel) rfl)) ev_c rfl (by decide +kernel)
def sp__law_greatest (K : PySem.W.Frag) : Sp := fun vs H Q _ => ∃ (rp a pt zr : Addr) (rank : Int) (nf i : Nat) (r : Row) (g : List (List Nat)) (T : List (List Bool)) (R : List Int), vs = [.ref rp, .ref a, .ref pt, .ref zr, .int rank] ∧ SqT K H rp r.vs ∧ r.w.path = true ∧ RowOk nf i r ∧ Tab K H nI a g ∧ Tab K H V.bl pt T ∧ SqL K H zr (R.map V.int) ∧ R.length = g.length ∧ Gok g ∧ Tb i g.length T ∧ RetPr K g.length (fun y => H y = none) H Q
section
variable {P : Program} {w : World} {K : PySem.W.Frag} {mg : Str → Option Value} {base : Heap}
theorem ok__law_greatest (T : Txt w K mg) : Ok P w K mg base 1 ("_law_greatest", none) ["_law_row_here", "_law_after", "_law_truths", "_law_ranks_here", "_law_rank"] (sp__law_greatest K) := by
  obtain ⟨fd, F⟩ := T.def_ 38 _ rfl
  have S : FnScope ["_law_row_here", "_law_after", "_law_truths", "_law_ranks_here", "_law_rank", "_law_word", "_law_falls", "_law_goal", "_law_through", "_law_met", "_law_step", "_law_k", "_law_near", "_law_every", "_law_marks", "_law_truth", "_law_one", "_law_j"] ["_law_row_here", "_law_after", "_law_truths", "_law_ranks_here", "_law_rank"] (defScope (top 45)) := ⟨rfl, rfl, rfl, by decide +kernel, rfl, by decide +kernel, by decide +kernel⟩
  refine ⟨fd, F.ok S (fun vs H Q E h => ?_) (fun cdv A outer s H vs Q E hr h => ?_), F.bindsN fun _ _ _ _ _ _ us hl => match us, hl with | [_, _, _, _, _], _ => rfl, F.kp⟩
  · obtain ⟨_, _, _, _, _, _, _, _, _, _, _, rfl, _⟩ := h
    rfl
  · have hu := hu_of hr
    have hu64 := hr.units
    have hu65 := hu65_of hr
    refine ⟨_, PSs.nox (pss_cons (ps_set (i := 5) S.nd rfl (Or.inl rfl) (pe_ix (ixT (K := K)) (pv 0) pe_int (fun _ _ => rfl)))
      (pss_cons (ps_set (i := 6) S.nd rfl (Or.inr rfl) (pe_or (pe_cmpR op_eq (pv 5) pe_str (nomark _)) (pe_one (pe_cmpR op_eq (pv 5) pe_str (nomark _)))))
      (pss_cons (ps_setLc (i := 7) rfl S.nd rfl rfl (sw_true rfl rfl rfl (by decide +kernel)) (piList (K := K) (pe_ix (ixL (K := K)) (pv 2) (pe_callB (call_max2 rfl) rfl (T.f 51) (by decide +kernel) (pa_cons (pe_ix (ixT (K := K)) (pv 0) pe_int (fun _ _ => rfl)) (pa_cons pe_int pa_nil))) (fun _ _ => rfl))) (blkOk_by (own := [("_law_truth", 15)]) (by kernel_rfl)) (fun _ _ _ _ _ => (pg_name (i := 15) S.nd rfl (Or.inl rfl))) (fun _ _ _ _ _ => pts_nil) (fun _ _ _ _ _ => (pe_cmpR op_ne (pv 15) (pv 6) (nomark _))))
      (pss_cons (ps_set (i := 8) S.nd rfl (Or.inl rfl) (pe_op op_rep (pe_lst (pa_cons pe_bl pa_nil)) (pe_callB (cLen (K := K)) rfl (T.f 45) (by decide +kernel) (pa_cons (pv 1) pa_nil))))
      (Evl.pss_cut (ps_if (pt_cmpR op_eq (pe_ix ix_str (pv 5) pe_int (fun _ _ => rfl)) pe_str (nomark _)) (pss_cons (ps_set (i := 7) S.nd rfl (Or.inl rfl) (pe_ix (ixL (K := K)) (pv 2) (pe_ix (ixT (K := K)) (pv 0) pe_int (fun _ _ => rfl)) (fun _ _ => rfl)))
      (pss_one (ps_set (i := 8) S.nd rfl (Or.inl rfl) (pe_ix (ixL (K := K)) (pv 2) (pe_ix (ixT (K := K)) (pv 0) pe_int (fun _ _ => rfl)) (fun _ _ => rfl))))) pss_nil)
      (pss_cons (ps_set (i := 9) S.nd rfl (Or.inr rfl) (pe_op op_rep (pe_lst (pa_cons pe_bl pa_nil)) (pe_callB (cLen (K := K)) rfl (T.f 45) (by decide +kernel) (pa_cons (pv 1) pa_nil))))
      (pss_cons (ps_for PassesOwn.never rfl (piList (K := K) (pv 1)) (pg_name (i := 10) S.nd rfl (Or.inl rfl)) (pss_one (ps_for PassesOwn.never rfl (pi_range1 (by rfl) (T.f 52) (pa_cons (pe_callB (cLen (K := K)) rfl (T.f 45) (by decide +kernel) (pa_cons (pv 1) pa_nil)) pa_nil)) (pg_name (i := 11) S.nd rfl (Or.inl rfl)) (pss_cons (ps_setLc (i := 12) rfl S.nd rfl rfl (sw_true rfl rfl rfl (by decide +kernel)) (piList (K := K) (pe_ix (ixL (K := K)) (pv 1) (pv 11) (fun _ _ => rfl))) (blkOk_by (own := [("_law_j", 17)]) (by kernel_rfl)) (fun _ _ _ _ _ => (pg_name (i := 17) S.nd rfl (Or.inl rfl))) (fun _ _ _ _ _ => (pts_one (pt_val (pe_ix (ixL (K := K)) (pv 9) (pv 17) (fun _ _ => rfl))))) (fun _ _ _ _ _ => (pv 17)))
      (pss_cons (ps_set (i := 13) S.nd rfl (Or.inl rfl) (pe_or (pe_cmpR op_eq (pe_callB (cLen (K := K)) rfl (T.f 45) (by decide +kernel) (pa_cons (pv 12) pa_nil)) (pe_callB (cLen (K := K)) rfl (T.f 45) (by decide +kernel) (pa_cons (pe_ix (ixL (K := K)) (pv 1) (pv 11) (fun _ _ => rfl)) pa_nil)) (nomark _)) (pe_one (pe_and (pe_cmpR (opIn (K := K)) (pv 5) (pe_lst (pa_cons pe_str (pa_cons pe_str (pa_cons pe_str pa_nil)))) (by rfl)) (pe_one (pe_cmpR op_gt (pe_callB (cLen (K := K)) rfl (T.f 45) (by decide +kernel) (pa_cons (pv 12) pa_nil)) pe_int (nomark _)))))))
      (pss_one (ps_asg (pe_or (pe_ix (ixL (K := K)) (pv 7) (pv 11) (fun _ _ => rfl)) (pe_one (pe_and (pe_ix (ixL (K := K)) (pv 8) (pv 11) (fun _ _ => rfl)) (pe_one (pv 13))))) (pg_sub (pv 9) (pv 11) set_list))))))))
      (pss_cons (ps_set (i := 14) S.nd rfl (Or.inl rfl) (pe_lst pa_nil))
      (pss_cons (ps_for PassesOwn.never rfl (pi_range1 (by rfl) (T.f 52) (pa_cons (pe_callB (cLen (K := K)) rfl (T.f 45) (by decide +kernel) (pa_cons (pv 1) pa_nil)) pa_nil)) (pg_name (i := 11) S.nd rfl (Or.inl rfl)) (pss_one (ps_if (PW.pt (pw_and (pt_val (pe_ix (ixL (K := K)) (pv 9) (pv 11) (fun _ _ => rfl))) (pw_and1 (pt_cmpR op_lt (pe_ix (ixL (K := K)) (pv 3) (pv 11) (fun _ _ => rfl)) pe_int (nomark _))))) (pss_one (ps_expr (pe_bm PySem.F.plainAttrs_list PySem.F.slot_list_append PySem.F.type_list_append mt_append (pv 14) (pa_cons (pv 4) pa_nil)))) (pss_one (ps_expr (pe_bm PySem.F.plainAttrs_list PySem.F.slot_list_append PySem.F.type_list_append mt_append (pv 14) (pa_cons (pe_ix (ixL (K := K)) (pv 3) (pv 11) (fun _ _ => rfl)) pa_nil)))))))
      (pss_one (ps_ret (pe_tup (pa_cons (pe_lc rfl S.nd  (piList (K := K) (pv 9)) (blkOk_by (own := [("_law_one", 16)]) (by kernel_rfl)) (fun _ _ _ _ _ => (pg_name (i := 16) S.nd rfl (Or.inl rfl))) (fun _ _ _ _ _ => pts_nil) (fun _ _ _ _ _ => (pe_cmpR op_ne (pv 16) (pv 6) (nomark _)))) (pa_cons (pv 14) pa_nil)))))))))))))), ?_⟩
    obtain ⟨rp, a, pt, zr, rank, nf, i, r, g, T', R, rfl, hrp, hpw, ok, ha, hpt, hzr, lR, G, tT, q⟩ := h
    have hn := G.len
    have hT := tT.hl
    obtain ⟨okl, okr⟩ := ok.path hpw
    obtain ⟨w, lft, rgt⟩ := r
    obtain ⟨l, o1, o2⟩ := okl
    have o1 : lft = l := o1
    subst o1
    obtain ⟨as_, a1, a2, a3⟩ := ha
    have ha : Tab K H nI a g := ⟨as_, a1, a2, a3⟩
    obtain ⟨ts, t1, t2, t3⟩ := hpt
    have neg : ∀ {σ : L2.St} {H1 : Hp}, Ev (tUn (rU fun i => .int (-i)) (tC (.int 1))) σ H1 (.int (-1)) := ev_un ev_c ru_neg
    refine q_asg (ev_op (ev_var rfl) ev_c (rv_ixT hrp rfl)) fun H1 e1 => ?_
    refine q_asg (ev_orV (ev_eq (ev_var rfl) ev_c rfl (dec_wd (b := .eg))) fun _ => ev_eq (ev_var rfl) ev_c rfl (dec_wd (b := .ag))) fun H2 e2 => ?_
    generalize (decide (w = .eg) || decide (w = .ag)) = fl
    have e02 := e1.trans e2
    refine q_asgL (el_is (el_map (xs := T'.getD l []) false (fun t => V.bl (t != fl)) (ev_ixM (xs := ts) (i := l) 0 (ev_var rfl) (ev_is (ev_max2 (ev_op (ev_var rfl) ev_c (rv_ixT (ex_t e02 hrp) rfl)) ev_c) (by rw [if_neg (by omega)])) (ex_l e02 t1) (by omega)) (ex_l e02 (t3 l (by omega))) (by rw [tT.get o2]; omega) (fun _ => rfl) fun j hj => ev_ne (ev_var rfl) (ev_var rfl) rfl dec_bl) (List.map_map (f := fun t => t != fl) (g := V.bl)).symm) fun x H3 nx e3 h3 => ?_
    have e03 := e02.trans e3
    refine q_asgL (el_is (el_mul (n := g.length) (el_lst (ea_cons ev_c ea_nil) (by show 1 ≤ 100000; decide)) (ev_lenT (ev_var rfl) (ha.mono e03)) (by omega)) (rep_map (f := V.bl) (x := true))) fun y H4 ny e4 h4 => ?_
    have e04 := e03.trans e4
    refine q_cut (M := fun σ' H' => Ex H H' ∧ ∃ (x y : Addr) (bx by_ : List Bool), bx.length = g.length ∧ by_.length = g.length ∧ SqL K H' x (bx.map V.bl) ∧ SqL K H' y (by_.map V.bl) ∧ σ' = [some (.ref rp), some (.ref a), some (.ref pt), some (.ref zr), some (.int rank), some (.str w.s), some (.bl fl), some (.ref x), some (.ref y), none, none, none, none, none, none, none, none, none]) ?_ (fun σ' H' p => ?_)
    · refine s_when (et_test (ev_chU' (ev_var rfl))) (fun c1 H5 e5 => ?_) (fun c1 H5 e5 => ⟨e04.trans e5, x, y, _, _, by rw [List.length_map]; exact tT.get o2, List.length_replicate .., sq_of (e5 _ _ (e4 _ _ h3)), sq_of (e5 _ _ h4), rfl⟩)
      obtain ⟨m, o3, o4⟩ := okr c1
      have o3 : rgt = m := o3
      subst o3
      have e05 := e04.trans e5
      refine q_asg (ev_ixM 0 (ev_var rfl) (ev_op (ev_var rfl) ev_c (rv_ixT (ex_t e05 hrp) rfl)) (ex_l e05 t1) (by omega)) fun H6 e6 => ?_
      have e06 := e05.trans e6
      refine s_asg (ev_ixM 0 (ev_var rfl) (ev_op (ev_var rfl) ev_c (rv_ixT (ex_t e06 hrp) rfl)) (ex_l e06 t1) (by omega)) fun H7 e7 => ?_
      have e07 := e06.trans e7
      exact ⟨e07, _, _, _, _, tT.get o4, tT.get o2, ex_l e07 (t3 m (by omega)), ex_l e07 (t3 l (by omega)), rfl⟩
    clear h3 h4 nx ny
    clear x y
    obtain ⟨eC, x, y, bx, by_, lbx, lby, hx, hy, rfl⟩ := p
    have ha' := ha.mono eC
    refine q_asgL (el_is (el_mul (n := g.length) (el_lst (ea_cons ev_c ea_nil) (by show 1 ≤ 100000; decide)) (ev_lenT (ev_var rfl) ha') (by omega)) (rep_map (f := V.bl) (x := true))) fun lm H5 nlm e5 h5 => ?_
    refine q_for (Hb := H') (n := as_.length) (τ := fun j σ => σ.set 10 (some (.ref (as_.getD j 0)))) e5 (wk_listM (f := V.ref) 0 (ev_var rfl) (ex_l eC a1)) (fun j σ' J => Ex H' J ∧ ∃ (bs : List Bool) (x10 x11 x12 x13 : Option V), J lm = some (.lst (bs.map V.bl)) ∧ bs.length = g.length ∧ σ' = [some (.ref rp), some (.ref a), some (.ref pt), some (.ref zr), some (.int rank), some (.str w.s), some (.bl fl), some (.ref x), some (.ref y), some (.ref lm), x10, x11, x12, x13, none, none, none, none])
      (fun _ _ _ p => p.1) (fun H6 e6 => ⟨e5.trans e6, _, _, _, _, _, e6 _ _ h5, List.length_replicate .., rfl⟩) (fun j σ' J hj p H6 e6 => ?_) (fun σ' J p => ?_)
    · obtain ⟨p1, bs, x10, x11, x12, x13, hl, lb, rfl⟩ := p
      refine s_for (Hb := H') (n := g.length) (τ := fun k σ => σ.set 11 (some (nI k))) (p1.trans e6) (wk_range (ea_cons (ev_lenT (ev_var rfl) ha') ea_nil) (by omega)) (fun k σ' J => Ex H' J ∧ ∃ (bs : List Bool) (x11 x12 x13 : Option V), J lm = some (.lst (bs.map V.bl)) ∧ bs.length = g.length ∧ σ' = [some (.ref rp), some (.ref a), some (.ref pt), some (.ref zr), some (.int rank), some (.str w.s), some (.bl fl), some (.ref x), some (.ref y), some (.ref lm), some (.ref (as_.getD j 0)), x11, x12, x13, none, none, none, none])
        (fun _ _ _ p => p.1) (fun H7 e7 => ⟨(p1.trans e6).trans e7, bs, _, _, _, e7 _ _ (e6 _ _ hl), lb, rfl⟩) (fun k σ' J hk p H7 e7 => ?_) (fun σ' J p => ?_)
      · obtain ⟨p1', bs, x11, x12, x13, hl, lb, rfl⟩ := p
        have e07 := p1'.trans e7
        have hl7 := e7 _ _ hl
        have gz := G.rl _ (getD_mem (d := []) hk)
        have gt := G.tg _ (getD_mem (d := []) hk)
        have eg : ∀ {σ : L2.St} {H1 : Hp}, Ex H' H1 → σ[1]? = some (some (.ref a)) → σ[11]? = some (some (nI k)) → Ev (tOp (rIxL K) (tVar 1) (tVar 11)) σ H1 (.ref (as_.getD k 0)) := fun e h1 h2 => ev_ixM 0 (ev_var h1) (ev_var h2) (ex_l (eC.trans e) a1) (by omega)
        refine q_asgL (el_filter 0 (fun j => bs.getD j false) nI (eg e07 rfl rfl) (ex_l (eC.trans e07) (a3 k hk)) (by omega) (fun _ => rfl) (fun j hj => et_B (ev_ixM false (ev_var rfl) (ev_var rfl) (sq_of hl7) (by rw [lb]; exact gt _ (getD_mem hj)))) fun j hj _ => ev_var rfl) fun ln H8 nln e8 h8 => ?_
        have e08 := e07.trans e8
        refine q_asg (ev_orV (ev_eq (ev_len (ev_var rfl) (sq_of h8)) (ev_lenM (eg e08 rfl rfl) (ex_l (eC.trans e08) (a3 k hk))) rfl rfl) fun _ => ev_andV (ev_opL (ev_var rfl) (el_lst (ea_cons ev_c (ea_cons ev_c (ea_cons ev_c ea_nil))) (by show 3 ≤ 100000; decide)) fun p H1 hp _ => rv_isL (sq_of hp) rfl rfl) fun _ => ev_op (ev_len (ev_var rfl) (sq_of h8)) ev_c rv_I0) fun H9 e9 => ?_
        have e09 := e08.trans e9
        refine s_setL (e9 _ _ (e8 _ _ hl7)) (ev_orV (ev_ixM false (ev_var rfl) (ev_var rfl) (ex_l e09 hx) (by omega)) fun _ => ev_andV (ev_ixM false (ev_var rfl) (ev_var rfl) (ex_l e09 hy) (by omega)) fun _ => ev_var rfl) (ev_var rfl) (ev_var rfl) (by rw [List.length_map]; omega) fun H10 e10 => ⟨(e09.trans e10).mut nlm, bs.set k _, _, _, _, by rw [upd_same, ← map_set], by rw [List.length_set]; exact lb, rfl⟩
      · obtain ⟨p1', bs, x11, x12, x13, hl, lb, rfl⟩ := p
        exact ⟨p1', bs, _, _, _, _, hl, lb, rfl⟩
    obtain ⟨p1, bs, x10, x11, x12, x13, hl, lb, rfl⟩ := p
    refine q_asgL (el_lst ea_nil (by decide)) fun lk H6 nlk e6 h6 => ?_
    have hl6 := e6 _ _ hl
    refine q_for (Hb := J) (n := g.length) (τ := fun k σ => σ.set 11 (some (nI k))) e6 (wk_range (ea_cons (ev_lenT (ev_var rfl) (ha'.mono p1)) ea_nil) (by omega)) (fun k σ' J' => Ex J J' ∧ ∃ (zs : List Int) (x11 : Option V), J' lk = some (.lst (zs.map V.int)) ∧ zs.length = k ∧ σ' = [some (.ref rp), some (.ref a), some (.ref pt), some (.ref zr), some (.int rank), some (.str w.s), some (.bl fl), some (.ref x), some (.ref y), some (.ref lm), x10, x11, x12, x13, some (.ref lk), none, none, none])
      (fun _ _ _ p => p.1) (fun H7 e7 => ⟨e6.trans e7, [], _, e7 _ _ h6, rfl, rfl⟩) (fun k σ' J' hk p H7 e7 => ?_) (fun σ' J' p => ?_)
    · obtain ⟨p1', zs, x11', hlk, lz, rfl⟩ := p
      have e07 := p1'.trans e7
      have hr7 := ex_l ((eC.trans p1).trans e07) hzr
      refine s_if (et_and (et_B (ev_ixM false (ev_var rfl) (ev_var rfl) (sq_of (e07 _ _ hl)) (by omega))) fun _ => et_test (ev_op (ev_ixM 0 (ev_var rfl) (ev_var rfl) hr7 (by omega)) ev_c rv_I0)) (fun _ H8 e8 => ?_) (fun _ H8 e8 => ?_)
      · exact s_app (e8 _ _ (e7 _ _ hlk)) (ev_var rfl) (ev_var rfl) (by rw [List.length_map]; omega) fun H9 e9 => ⟨((e07.trans e8).trans e9).mut nlk, zs ++ [rank], _, by rw [upd_same, List.map_append]; rfl, by simp [lz], rfl⟩
      · exact s_app (e8 _ _ (e7 _ _ hlk)) (ev_var rfl) (ev_ixM 0 (ev_var rfl) (ev_var rfl) (ex_l e8 hr7) (by omega)) (by rw [List.length_map]; omega) fun H9 e9 => ⟨((e07.trans e8).trans e9).mut nlk, zs ++ [_], _, by rw [upd_same, List.map_append]; rfl, by simp [lz], rfl⟩
    · obtain ⟨p1', zs, x11', hlk, lz, rfl⟩ := p
      exact s_pairO q ((eC.trans p1).trans p1') (es_new (el_is (el_map false (fun t => V.bl (t != fl)) (ev_var rfl) (sq_of (p1' _ _ hl)) (by omega) (fun _ => rfl) fun j hj => ev_ne (ev_var rfl) (ev_var rfl) rfl dec_bl) (List.map_map (f := fun t => t != fl) (g := V.bl)).symm)) (ev_var rfl) (sq_of hlk) (fresh_back (eC.trans p1) nlk) (by rw [List.length_map]; exact lb) lz rfl
end
end K94

/-! D_law_other -/
namespace K94
open PySem PySem.Spec PyProof.Rows L2 Evl
theorem in_path (w : Wd) : inV (.str w.s) [.str "ef", .str "af", .str "eu", .str "au", .str "eg", .str "ag"] = w.path := by cases w <;> decide +kernel
def sp__law_other (K : PySem.W.Frag) : Sp := fun vs H Q _ => ∃ (kd : Nat) (rp dp a pt dr : Addr) (nf i : Nat) (r : Row) (g : List (List Nat)) (T : List (List Bool)) (ns : List Nat) (A : Addr → Prop), vs = [nI kd, .ref rp, .ref dp, .ref a, .ref pt, .ref dr] ∧ SqT K H rp r.vs ∧ RowOk nf i r ∧ PairAt K g.length A H dp ∧ (∀ y, H y = none → A y) ∧ Tab K H nI a g ∧ Tab K H V.bl pt T ∧ SqL K H dr (ns.map nI) ∧ ns.length = g.length + 3 ∧ Gok g ∧ Tb i g.length T ∧ RetPr K g.length A H Q
section
variable {P : Program} {w : World} {K : PySem.W.Frag} {mg : Str → Option Value} {base : Heap}
theorem ok__law_other (T : Txt w K mg) : Ok P w K mg base 2 ("_law_other", none) ["_law_kind", "_law_row_here", "_law_due_here", "_law_after", "_law_truths", "_law_draws_here"] (sp__law_other K) := by
  obtain ⟨fd__law_greatest, G__law_greatest, b__law_greatest, k__law_greatest⟩ := ok__law_greatest (P := P) (base := base) T
  obtain ⟨fd, F⟩ := T.def_ 39 _ rfl
  have S : FnScope ["_law_kind", "_law_row_here", "_law_due_here", "_law_after", "_law_truths", "_law_draws_here", "_law_many_here", "_law_rank", "_law_ranked", "_law_k", "_law_flipped", "_law_marks"] ["_law_kind", "_law_row_here", "_law_due_here", "_law_after", "_law_truths", "_law_draws_here"] (defScope (top 46)) := ⟨rfl, rfl, rfl, by decide +kernel, rfl, by decide +kernel, by decide +kernel⟩
  refine ⟨fd, F.ok S (fun vs H Q E h => ?_) (fun cdv A outer s H vs Q E hr h => ?_), F.bindsN fun _ _ _ _ _ _ us hl => match us, hl with | [_, _, _, _, _, _], _ => rfl, F.kp⟩
  · obtain ⟨_, _, _, _, _, _, _, _, _, _, _, _, _, rfl, _⟩ := h
    rfl
  · have hu := hu_of hr
    have hu64 := hr.units
    have hu65 := hu65_of hr
    refine ⟨_, PSs.nox (pss_cons (ps_set (i := 6) S.nd rfl (Or.inl rfl) (pe_callB (cLen (K := K)) rfl (T.f 45) (by decide +kernel) (pa_cons (pv 3) pa_nil)))
      (pss_cons (ps_set (i := 7) S.nd rfl (Or.inl rfl) (pe_op op_add pe_int (pe_op op_modN (pe_ix (ixL (K := K)) (pv 5) (pv 6) (fun _ _ => rfl)) (pe_op op_add (pv 6) pe_int))))
      (pss_cons (ps_set (i := 8) S.nd rfl (Or.inl rfl) (pe_cmpR (opIn (K := K)) (pe_ix (ixT (K := K)) (pv 1) pe_int (fun _ _ => rfl)) (pe_lst (pa_cons pe_str (pa_cons pe_str (pa_cons pe_str (pa_cons pe_str (pa_cons pe_str (pa_cons pe_str pa_nil))))))) (by rfl)))
      (pss_cons (ps_if (PW.pt (pw_and (pt_cmpR op_eq (pv 0) pe_int (nomark _)) (pw_and1 (pt_val (pv 8))))) (pss_one (ps_ret (pe_call G__law_greatest (hr.mono (by decide)) rfl (T.g 32) k__law_greatest b__law_greatest .nil pass0 (pa_cons (pv 1) (pa_cons (pv 3) (pa_cons (pv 4) (pa_cons (pe_ix (ixT (K := K)) (pv 2) pe_int (fun _ _ => rfl)) (pa_cons (pv 7) pa_nil)))))))) pss_nil)
      (pss_cons (ps_if (PW.pt (pw_and (pt_cmpR op_eq (pv 0) pe_int (nomark _)) (pw_and1 (pt_val (pv 8))))) (pss_one (ps_ret (pe_tup (pa_cons (pe_ix (ixT (K := K)) (pv 2) pe_int (fun _ _ => rfl)) (pa_cons (pe_lc rfl S.nd  (pi_range1 (by rfl) (T.f 52) (pa_cons (pv 6) pa_nil)) (blkOk_by (own := [("_law_k", 9)]) (by kernel_rfl)) (fun _ _ _ _ _ => (pg_name (i := 9) S.nd rfl (Or.inl rfl))) (fun _ _ _ _ _ => pts_nil) (fun _ _ _ _ _ => (pe_op op_add (pe_ix (ixL (K := K)) (pe_ix (ixT (K := K)) (pv 2) pe_int (fun _ _ => rfl)) (pv 9) (fun _ _ => rfl)) (pe_callTy call_int1 rfl (T.f 57) (by decide +kernel) (pa_cons (pe_and (pe_cmpR op_gt (pe_ix (ixL (K := K)) (pe_ix (ixT (K := K)) (pv 2) pe_int (fun _ _ => rfl)) (pv 9) (fun _ _ => rfl)) pe_int (nomark _)) (pe_one (pe_cmpR op_eq (pe_op op_modN (pe_ix (ixL (K := K)) (pv 5) (pv 9) (fun _ _ => rfl)) pe_int) pe_int (nomark _)))) pa_nil))))) pa_nil))))) pss_nil)
      (pss_cons (ps_if (pt_cmpR op_lt (pv 0) pe_int (nomark _)) (pss_one (ps_ret (pv 2))) pss_nil)
      (pss_cons (ps_setLc (i := 10) rfl S.nd rfl rfl (sw_true rfl rfl rfl (by decide +kernel)) (pi_range1 (by rfl) (T.f 52) (pa_cons (pv 6) pa_nil)) (blkOk_by (own := [("_law_k", 9)]) (by kernel_rfl)) (fun _ _ _ _ _ => (pg_name (i := 9) S.nd rfl (Or.inl rfl))) (fun _ _ _ _ _ => pts_nil) (fun _ _ _ _ _ => (pe_cmpR op_ne (pe_ix (ixL (K := K)) (pe_ix (ixT (K := K)) (pv 2) pe_int (fun _ _ => rfl)) (pv 9) (fun _ _ => rfl)) (pe_cmpR op_eq (pe_op op_modN (pe_ix (ixL (K := K)) (pv 5) (pv 9) (fun _ _ => rfl)) pe_int) pe_int (nomark _)) (nomark _))))
      (pss_cons (ps_set (i := 11) S.nd rfl (Or.inl rfl) (pe_callTy (cList (K := K)) rfl (T.f 55) (by decide +kernel) (pa_cons (pe_ix (ixT (K := K)) (pv 2) pe_int (fun _ _ => rfl)) pa_nil)))
      (pss_cons (ps_for PassesOwn.never rfl (pi_range1 (by rfl) (T.f 52) (pa_cons (pv 6) pa_nil)) (pg_name (i := 9) S.nd rfl (Or.inl rfl)) (pss_one (ps_if (PW.pt (pw_and (pt_cmpR op_eq (pe_op op_modN (pe_ix (ixL (K := K)) (pv 5) (pv 9) (fun _ _ => rfl)) pe_int) pe_int (nomark _)) (pw_and (pt_val (pv 8)) (pw_and1 (pt_cmpR op_lt (pe_ix (ixL (K := K)) (pv 11) (pv 9) (fun _ _ => rfl)) pe_int (nomark _)))))) (pss_one (ps_asg (pv 7) (pg_sub (pv 11) (pv 9) set_list))) (pss_one (ps_if (pt_cmpR op_eq (pe_op op_modN (pe_ix (ixL (K := K)) (pv 5) (pv 9) (fun _ _ => rfl)) pe_int) pe_int (nomark _)) (pss_one (ps_asg (pe_un un_neg pe_int) (pg_sub (pv 11) (pv 9) set_list))) pss_nil)))))
      (pss_one (ps_ret (pe_tup (pa_cons (pv 10) (pa_cons (pv 11) pa_nil)))))))))))))), ?_⟩
    obtain ⟨kd, rp, dp, a, pt, dr, nf, i, r, g, T', ns, A, rfl, hrp, ok, hdp, hA, ha, hpt, hdr, lns, G, tT, q⟩ := h
    have hn := G.len
    have hdp' := hdp
    obtain ⟨bs, zs, x, y, lb, lz, hp, hx, hy, hAy⟩ := hdp
    refine q_asg (ev_lenT (ev_var rfl) ha) fun H1 e1 => ?_
    refine q_asg (ev_addN (a := 1) ev_c (ev_modN (ev_ixM 0 (ev_var rfl) (ev_var rfl) (ex_l e1 hdr) (by omega)) (ev_addN (b := 1) (ev_var rfl) ev_c) (by omega))) fun H2 e2 => ?_
    have e02 := e1.trans e2
    refine q_asg (ev_is (ev_opL (ev_op (ev_var rfl) ev_c (rv_ixT (ex_t e02 hrp) rfl)) (el_lst (ea_cons ev_c (ea_cons ev_c (ea_cons ev_c (ea_cons ev_c (ea_cons ev_c (ea_cons ev_c ea_nil)))))) (by show 6 ≤ 100000; decide)) fun p H1 hp _ => rv_isL (sq_of hp) rfl rfl) (congrArg V.bl (in_path r.w))) fun H3 e3 => ?_
    have e03 := e02.trans e3
    refine q_when (et_and (et_eqN (b := 1) (ev_var rfl) ev_c) fun _ => et_B (ev_var rfl)) (fun c1 H4 e4 => ?_) (fun c1 H4 e4 => ?_)
    · have e04 := e03.trans e4
      refine s_retCall (a_cons (ev_var rfl) (Ex.refl _) fun H5 e5 => a_cons (ev_var rfl) (Ex.refl _) fun H6 e6 => a_cons (ev_var rfl) (Ex.refl _) fun H7 e7 => a_cons (ev_op (ev_var rfl) ev_c (rv_ixT (ex_t (((e04.trans e5).trans e6).trans e7) hp) rfl)) (Ex.refl _) fun H8 e8 => a_cons (ev_var rfl) (Ex.refl _) fun H9 e9 => a_nil ?_)
      have e := ((((e04.trans e5).trans e6).trans e7).trans e8).trans e9
      exact ⟨rp, a, pt, y, _, nf, i, r, g, T', zs, rfl, ex_t e hrp, (b2 c1).2, ok, ha.mono e, hpt.mono e, ex_l e hy, lz, G, tT, fun p H10 e10 hpp => q p H10 (e.trans e10) (hpp.imp fun y hy => hA y (fresh_back e hy))⟩
    have e04 := e03.trans e4
    have lr : ∀ {α : Type} (cc : Nat → α), ((List.range g.length).map cc).length = g.length := fun cc => by rw [List.length_map, List.length_range]
    have odd : ∀ {σ : L2.St} {H1 : Hp} {k : Nat}, Ex H H1 → k < g.length → σ[5]? = some (some (.ref dr)) → σ[9]? = some (some (nI k)) → Ev (tOp rEq (tOp (rI (fun _ j => j ≠ 0) fun i j => .int (i.fmod j)) (tOp (rIxL K) (tVar 5) (tVar 9)) (tC (.int 2))) (tC (.int 1))) σ H1 (.bl (decide (nI (ns.getD k 0 % 2) = V.int 1))) := fun e hk h1 h2 =>
      ev_eq (ev_modN (b := 2) (ev_ixM 0 (ev_var h1) (ev_var h2) (ex_l e hdr) (by omega)) ev_c (by decide)) ev_c rfl rfl
    refine q_when (et_and (et_eqN (b := 2) (ev_var rfl) ev_c) fun _ => et_B (ev_var rfl)) (fun c2 H5 e5 => ?_) (fun c2 H5 e5 => ?_)
    · have e05 := e04.trans e5
      have yk : ∀ {σ : L2.St} {k : Nat}, k < g.length → σ[2]? = some (some (.ref dp)) → σ[9]? = some (some (nI k)) → Ev (tOp (rIxL K) (tOp (rIxT K) (tVar 2) (tC (.int 1))) (tVar 9)) σ H5 (.int (zs.getD k 0)) := fun hk h1 h2 => ev_ixM 0 (ev_op (ev_var h1) ev_c (rv_ixT (ex_t e05 hp) rfl)) (ev_var h2) (ex_l e05 hy) (by omega)
      exact s_pairN q e05 hA (es_old (ev_op (ev_var rfl) ev_c (rv_ixT (ex_t e05 hp) rfl)) (ex_l e05 hx)) (el_is (el_comp (n := g.length) (τ := fun k σ => σ.set 9 (some (nI k))) (fun _ => true) _ (wk_range (ea_cons (ev_var rfl) ea_nil) (by omega)) (by omega) (fun _ => rfl) (fun i hi => et_yes) (fun k hk _ => ev_op (yk hk rfl rfl) (ev_int1B (ev_andV (ev_op (yk hk rfl rfl) ev_c rv_I0) fun _ => odd e05 hk rfl rfl)) rv_I0)) (given_map (h := V.int) (c := fun k => zs.getD k 0 + if (decide (0 < zs.getD k 0) && decide (nI (ns.getD k 0 % 2) = V.int 1)) = true then 1 else 0))) lb (lr _) rfl
    have e05 := e04.trans e5
    refine q_when (et_ltN (b := 3) (ev_var rfl) ev_c) (fun c3 H6 e6 => ?_) (fun c3 H6 e6 => ?_)
    · exact s_ret (ev_var rfl) fun H7 e7 => q dp H7 ((e05.trans e6).trans e7) (hdp'.mono ((e05.trans e6).trans e7))
    have e06 := e05.trans e6
    refine q_asgL (el_is (el_comp (n := g.length) (τ := fun k σ => σ.set 9 (some (nI k))) (fun _ => true) _ (wk_range (ea_cons (ev_var rfl) ea_nil) (by omega)) (by omega) (fun _ => rfl) (fun i hi => et_yes) (fun k hk _ => ev_ne (ev_ixM (xs := bs) false (ev_op (ev_var rfl) ev_c (rv_ixT (ex_t e06 hp) rfl)) (ev_var rfl) (ex_l e06 hx) (by omega)) (odd e06 hk rfl rfl) rfl dec_bl)) (given_map (h := V.bl) (c := fun k => bs.getD k false != decide (nI (ns.getD k 0 % 2) = V.int 1)))) fun lf H7 nlf e7 h7 => ?_
    have e07 := e06.trans e7
    refine q_asgL (el_list (ev_op (ev_var rfl) ev_c (rv_ixT (ex_t e07 hp) rfl)) (ex_l e07 hy)) fun lm H8 nlm e8 h8 => ?_
    have h7' := e8 _ _ h7
    refine q_for (Hb := H7) (n := g.length) (τ := fun k σ => σ.set 9 (some (nI k))) e8 (wk_range (ea_cons (ev_var rfl) ea_nil) (by omega)) (fun k σ' J => Ex H7 J ∧ ∃ (zs : List Int) (x9 : Option V), J lm = some (.lst (zs.map V.int)) ∧ zs.length = g.length ∧ σ' = [some (nI kd), some (.ref rp), some (.ref dp), some (.ref a), some (.ref pt), some (.ref dr), some (nI g.length), some (nI (1 + ns.getD g.length 0 % (g.length + 1))), some (.bl r.w.path), x9, some (.ref lf), some (.ref lm)])
      (fun _ _ _ p => p.1) (fun H9 e9 => ⟨e8.trans e9, zs, _, e9 _ _ h8, lz, rfl⟩) (fun k σ' J hk p H9 e9 => ?_) (fun σ' J p => ?_)
    · obtain ⟨p1, zs, x9, hl, lz, rfl⟩ := p
      have e09 := p1.trans e9
      have hl9 := e9 _ _ hl
      refine s_if (et_and (et_test (odd (e07.trans e09) hk rfl rfl)) fun _ => et_and (et_B (ev_var rfl)) fun _ => et_test (ev_op (ev_ixM 0 (ev_var rfl) (ev_var rfl) (sq_of hl9) (by omega)) ev_c rv_I0)) (fun _ H10 e10 => ?_) (fun _ H10 e10 => ?_)
      · exact s_setL (e10 _ _ hl9) (ev_var rfl) (ev_var rfl) (ev_var rfl) (by rw [List.length_map]; omega) fun H11 e11 => ⟨((e09.trans e10).trans e11).mut nlm, zs.set k _, _, by rw [upd_same, ← map_set], by rw [List.length_set]; exact lz, rfl⟩
      · refine s_when (et_test (odd ((e07.trans e09).trans e10) hk rfl rfl)) (fun _ H11 e11 => ?_) (fun _ H11 e11 => ⟨(e09.trans e10).trans e11, zs, _, e11 _ _ (e10 _ _ hl9), lz, rfl⟩)
        exact s_setL (e11 _ _ (e10 _ _ hl9)) (ev_un ev_c ru_neg) (ev_var rfl) (ev_var rfl) (by rw [List.length_map]; omega) fun H12 e12 => ⟨(((e09.trans e10).trans e11).trans e12).mut nlm, zs.set k (-1), _, by rw [upd_same, ← map_set], by rw [List.length_set]; exact lz, rfl⟩
    · obtain ⟨p1, zs, x9, hl, lz, rfl⟩ := p
      exact s_pairO q (e07.trans p1) (es_old (ev_var rfl) (sq_of (p1 _ _ h7))) (ev_var rfl) (sq_of hl) (hA _ (fresh_back e07 nlm)) (lr _) lz rfl
end
end K94

/-! D_law_ranks -/
namespace K94
open PySem PySem.Spec PyProof.Rows L2 Evl
def sp__law_ranks (K : PySem.W.Frag) : Sp := fun vs H Q _ => ∃ (a b c : Addr) (ev : Bool) (g : List (List Nat)) (th go : List Bool), vs = [.ref a, .ref b, .ref c, .bl ev] ∧ Tab K H nI a g ∧ SqL K H b (th.map V.bl) ∧ SqL K H c (go.map V.bl) ∧ Gok g ∧ th.length = g.length ∧ go.length = g.length ∧
  ∀ (R : List Int) p H', R.length = g.length → H p = none → Ex H H' → H' p = some (.lst (R.map V.int)) → Q (.ref p) H'
section
variable {P : Program} {w : World} {K : PySem.W.Frag} {mg : Str → Option Value} {base : Heap}
theorem ok__law_ranks (T : Txt w K mg) : Ok P w K mg base 1 ("_law_ranks", none) ["_law_after", "_law_through", "_law_goal", "_law_every"] (sp__law_ranks K) := by
  obtain ⟨fd, F⟩ := T.def_ 33 _ rfl
  have S : FnScope ["_law_after", "_law_through", "_law_goal", "_law_every", "_law_k", "_law_ranks_here", "_law_step", "_law_near", "_law_j"] ["_law_after", "_law_through", "_law_goal", "_law_every"] (defScope (top 40)) := ⟨rfl, rfl, rfl, by decide +kernel, rfl, by decide +kernel, by decide +kernel⟩
  refine ⟨fd, F.ok S (fun vs H Q E h => ?_) (fun cdv A outer s H vs Q E hr h => ?_), F.bindsN fun _ _ _ _ _ _ us hl => match us, hl with | [_, _, _, _], _ => rfl, F.kp⟩
  · obtain ⟨_, _, _, _, _, _, _, rfl, _⟩ := h
    rfl
  · have hu := hu_of hr
    have hu64 := hr.units
    have hu65 := hu65_of hr
    refine ⟨_, PSs.nox (pss_cons (ps_set (i := 5) S.nd rfl (Or.inr rfl) (pe_lc rfl S.nd  (pi_range1 (by rfl) (T.f 52) (pa_cons (pe_callB (cLen (K := K)) rfl (T.f 45) (by decide +kernel) (pa_cons (pv 0) pa_nil)) pa_nil)) (blkOk_by (own := [("_law_k", 4)]) (by kernel_rfl)) (fun _ _ _ _ _ => (pg_name (i := 4) S.nd rfl (Or.inl rfl))) (fun _ _ _ _ _ => pts_nil) (fun _ _ _ _ _ => (pe_un un_neg pe_int))))
      (pss_cons (ps_for PassesOwn.never rfl (pi_range1 (by rfl) (T.f 52) (pa_cons (pe_callB (cLen (K := K)) rfl (T.f 45) (by decide +kernel) (pa_cons (pv 0) pa_nil)) pa_nil)) (pg_name (i := 4) S.nd rfl (Or.inl rfl)) (pss_one (ps_if (pt_val (pe_ix (ixL (K := K)) (pv 2) (pv 4) (fun _ _ => rfl))) (pss_one (ps_asg pe_int (pg_sub (pv 5) (pv 4) set_list))) pss_nil)))
      (pss_cons (ps_for PassesOwn.never rfl (pi_range2 (by rfl) (T.f 52) (pa_cons pe_int (pa_cons (pe_op op_add (pe_callB (cLen (K := K)) rfl (T.f 45) (by decide +kernel) (pa_cons (pv 0) pa_nil)) pe_int) pa_nil))) (pg_name (i := 6) S.nd rfl (Or.inr rfl)) (pss_one (ps_for PassesOwn.never rfl (pi_range1 (by rfl) (T.f 52) (pa_cons (pe_callB (cLen (K := K)) rfl (T.f 45) (by decide +kernel) (pa_cons (pv 0) pa_nil)) pa_nil)) (pg_name (i := 4) S.nd rfl (Or.inl rfl)) (pss_one (ps_if (PW.pt (pw_and (pt_cmpR op_lt (pe_ix (ixL (K := K)) (pv 5) (pv 4) (fun _ _ => rfl)) pe_int (nomark _)) (pw_and1 (pt_val (pe_ix (ixL (K := K)) (pv 1) (pv 4) (fun _ _ => rfl)))))) (pss_cons (ps_setLc (i := 7) rfl S.nd rfl rfl (sw_true rfl rfl rfl (by decide +kernel)) (piList (K := K) (pe_ix (ixL (K := K)) (pv 0) (pv 4) (fun _ _ => rfl))) (blkOk_by (own := [("_law_j", 8)]) (by kernel_rfl)) (fun _ _ _ _ _ => (pg_name (i := 8) S.nd rfl (Or.inl rfl))) (fun _ _ _ _ _ => (pts_one (PW.pt (pw_and (pt_cmpR op_le pe_int (pe_ix (ixL (K := K)) (pv 5) (pv 8) (fun _ _ => rfl)) (nomark _)) (pw_and1 (pt_cmpR op_lt (pe_ix (ixL (K := K)) (pv 5) (pv 8) (fun _ _ => rfl)) (pv 6) (nomark _))))))) (fun _ _ _ _ _ => (pv 8)))
      (pss_one (ps_if (PW.pt (pw_or (pt_cmpR op_eq (pe_callB (cLen (K := K)) rfl (T.f 45) (by decide +kernel) (pa_cons (pv 7) pa_nil)) (pe_callB (cLen (K := K)) rfl (T.f 45) (by decide +kernel) (pa_cons (pe_ix (ixL (K := K)) (pv 0) (pv 4) (fun _ _ => rfl)) pa_nil)) (nomark _)) (pw_or1 (PW.pt (pw_and (pt_cmpR op_gt (pe_callB (cLen (K := K)) rfl (T.f 45) (by decide +kernel) (pa_cons (pv 7) pa_nil)) pe_int (nomark _)) (pw_and1 (pt_not (pt_val (pv 3))))))))) (pss_one (ps_asg (pv 6) (pg_sub (pv 5) (pv 4) set_list))) pss_nil))) pss_nil)))))
      (pss_one (ps_ret (pv 5)))))), ?_⟩
    obtain ⟨a, b, c, ev, g, th, go, rfl, ha, hb, hc, G, lth, lgo, q⟩ := h
    have hn := G.len
    obtain ⟨as_, a1, a2, a3⟩ := ha
    have ha : Tab K H nI a g := ⟨as_, a1, a2, a3⟩
    refine q_asgL (el_is (el_comp (n := g.length) (τ := fun i σ => σ.set 4 (some (nI i))) (fun _ => true) (fun _ => V.int (-1)) (wk_range (ea_cons (ev_lenT (ev_var rfl) ha) ea_nil) (by omega)) (by omega) (fun _ => rfl) (fun i hi => et_yes) (fun i hi _ => ev_un ev_c ru_neg)) (given_map (h := V.int) (c := fun _ => (-1 : Int)))) fun l H1 nl e1 h1 => ?_
    have lr0 : ((List.range g.length).map fun _ => (-1 : Int)).length = g.length := by rw [List.length_map, List.length_range]
    let Iv : L2.St → Hp → Prop := fun σ' H' => Ex H H' ∧ ∃ (R : List Int) (x4 x6 x7 x8 : Option V), H' l = some (.lst (R.map V.int)) ∧ R.length = g.length ∧ σ' = [some (.ref a), some (.ref b), some (.ref c), some (.bl ev), x4, some (.ref l), x6, x7, x8]
    refine q_for (Hb := H) (n := g.length) (τ := fun i σ => σ.set 4 (some (nI i))) e1 (wk_range (ea_cons (ev_lenT (ev_var rfl) ha) ea_nil) (by omega)) (fun i σ' H' => Iv σ' H')
      (fun _ _ _ p => p.1) (fun H2 e2 => ⟨e1.trans e2, _, _, _, _, _, e2 _ _ h1, lr0, rfl⟩) (fun i σ' H' hi p H2 e2 => ?_) (fun σ' H' p => ?_)
    · obtain ⟨p1, R, x4, x6, x7, x8, hl, lR, rfl⟩ := p
      have e02 := p1.trans e2
      refine s_when (et_B (ev_ixM false (ev_var rfl) (ev_var rfl) (ex_l e02 hc) (by omega))) (fun _ H3 e3 => ?_) (fun _ H3 e3 => ⟨e02.trans e3, R, _, _, _, _, e3 _ _ (e2 _ _ hl), lR, rfl⟩)
      refine s_setL (e3 _ _ (e2 _ _ hl)) ev_c (ev_var rfl) (ev_var rfl) (by rw [List.length_map]; omega) fun H4 e4 => ⟨((e02.trans e3).trans e4).mut nl, R.set i 0, _, _, _, _, by rw [upd_same, ← map_set], by rw [List.length_set]; exact lR, rfl⟩
    obtain ⟨p1, R, x4, x6, x7, x8, hl, lR, rfl⟩ := p
    refine q_for (Hb := H) (n := g.length) (τ := fun i σ => σ.set 6 (some (.int ((1 + i : Nat) : Int)))) p1 (wk_range2 (lo := 1) (n := g.length) (ea_cons ev_c (ea_cons (ev_is (ev_addN (b := 1) (ev_lenT (ev_var rfl) ha) ev_c) (by rw [Nat.add_comm])) ea_nil)) (by omega)) (fun i σ' H' => Iv σ' H')
      (fun _ _ _ p => p.1) (fun H2 e2 => ⟨p1.trans e2, _, _, _, _, _, e2 _ _ hl, lR, rfl⟩) (fun i σ' H' hi p H2 e2 => ?_) (fun σ' H' p => ?_)
    · obtain ⟨p1, R, x4, x6, x7, x8, hl, lR, rfl⟩ := p
      have e02 := p1.trans e2
      refine s_for (Hb := H) (n := g.length) (τ := fun k σ => σ.set 4 (some (nI k))) e02 (wk_range (ea_cons (ev_lenT (ev_var rfl) ha) ea_nil) (by omega)) (fun k σ' H' => Ex H H' ∧ ∃ (R : List Int) (x4 x7 x8 : Option V), H' l = some (.lst (R.map V.int)) ∧ R.length = g.length ∧ σ' = [some (.ref a), some (.ref b), some (.ref c), some (.bl ev), x4, some (.ref l), some (nI (1 + i)), x7, x8])
        (fun _ _ _ p => p.1) (fun H3 e3 => ⟨e02.trans e3, _, _, _, _, e3 _ _ (e2 _ _ hl), lR, rfl⟩) (fun k σ' H' hk p H3 e3 => ?_) (fun σ' H' p => ?_)
      · obtain ⟨p1', R, x4, x7, x8, hl, lR, rfl⟩ := p
        have e03 := p1'.trans e3
        have hl3 := e3 _ _ hl
        refine s_when (et_and (et_test (ev_op (ev_ixM 0 (ev_var rfl) (ev_var rfl) (sq_of hl3) (by omega)) ev_c rv_I0)) fun _ => et_B (ev_ixM false (ev_var rfl) (ev_var rfl) (ex_l e03 hb) (by omega))) (fun _ H4 e4 => ?_) (fun _ H4 e4 => ⟨e03.trans e4, R, _, _, _, e4 _ _ hl3, lR, rfl⟩)
        have e04 := e03.trans e4
        have hl4 := e4 _ _ hl3
        have gz := G.rl _ (getD_mem (d := []) hk)
        have gt := G.tg _ (getD_mem (d := []) hk)
        have eg : ∀ {σ : L2.St} {H1 : Hp}, Ex H H1 → σ[0]? = some (some (.ref a)) → σ[4]? = some (some (nI k)) → Ev (tOp (rIxL K) (tVar 0) (tVar 4)) σ H1 (.ref (as_.getD k 0)) := fun e h1 h2 => ev_ixM 0 (ev_var h1) (ev_var h2) (ex_l e a1) (by omega)
        refine q_asgL (el_filter 0 (fun j => decide (0 ≤ R.getD j 0) && decide (R.getD j 0 < ((1 + i : Nat) : Int))) nI (eg e04 rfl rfl) (ex_l e04 (a3 k hk)) (by omega) (fun _ => rfl) (fun j hj => et_and (et_test (ev_op ev_c (ev_ixM 0 (ev_var rfl) (ev_var rfl) (sq_of hl4) (by rw [lR]; exact gt _ (getD_mem hj))) rv_I0)) fun _ => et_test (ev_op (ev_ixM 0 (ev_var rfl) (ev_var rfl) (sq_of hl4) (by rw [lR]; exact gt _ (getD_mem hj))) (ev_var rfl) rv_I0)) fun j hj _ => ev_var rfl) fun ln H5 nln e5 h5 => ?_
        have e05 := e04.trans e5
        have hl5 := e5 _ _ hl4
        refine s_when (et_or (et_test (ev_eq (ev_len (ev_var rfl) (sq_of h5)) (ev_lenM (eg e05 rfl rfl) (ex_l e05 (a3 k hk))) rfl rfl)) fun _ => et_and (et_test (ev_op (ev_len (ev_var rfl) (sq_of h5)) ev_c rv_I0)) fun _ => et_not (et_B (ev_var rfl))) (fun _ H6 e6 => ?_) (fun _ H6 e6 => ⟨e05.trans e6, R, _, _, _, e6 _ _ hl5, lR, rfl⟩)
        refine s_setL (e6 _ _ hl5) (ev_var rfl) (ev_var rfl) (ev_var rfl) (by rw [List.length_map]; omega) fun H7 e7 => ⟨((e05.trans e6).trans e7).mut nl, R.set k ((1 + i : Nat) : Int), _, _, _, by rw [upd_same, ← map_set], by rw [List.length_set]; exact lR, rfl⟩
      · obtain ⟨p1', R, x4, x7, x8, hl, lR, rfl⟩ := p
        exact ⟨p1', R, _, _, _, _, hl, lR, rfl⟩
    · obtain ⟨p1, R, x4, x6, x7, x8, hl, lR, rfl⟩ := p
      exact s_ret (ev_var rfl) fun H3 e3 => q R l H3 lR nl (p1.trans e3) (e3 _ _ hl)
end
end K94

/-! D_law_row -/
namespace K94
open PySem PySem.Spec PyProof.Rows L2 Evl
def sp__law_row (K : PySem.W.Frag) : Sp := fun vs H Q _ => ∃ (rp a c pt : Addr) (nf i : Nat) (r : Row) (g : List (List Nat)) (F T : List (List Bool)), vs = [.ref rp, .ref a, .ref c, .ref pt] ∧ SqT K H rp r.vs ∧ RowOk nf i r ∧ Tab K H nI a g ∧ Tab K H V.bl c F ∧ Tab K H V.bl pt T ∧ Gok g ∧ Tb g.length nf F ∧ Tb i g.length T ∧ RetPr K g.length (fun y => H y = none) H Q
section
variable {P : Program} {w : World} {K : PySem.W.Frag} {mg : Str → Option Value} {base : Heap}
theorem ok__law_row (T : Txt w K mg) : Ok P w K mg base 2 ("_law_row", none) ["_law_row_here", "_law_after", "_law_facts", "_law_truths"] (sp__law_row K) := by
  obtain ⟨fd__law_plain, G__law_plain, b__law_plain, k__law_plain⟩ := ok__law_plain (P := P) (base := base) T
  obtain ⟨fd__law_ranks, G__law_ranks, b__law_ranks, k__law_ranks⟩ := ok__law_ranks (P := P) (base := base) T
  obtain ⟨fd, F⟩ := T.def_ 35 _ rfl
  have S : FnScope ["_law_row_here", "_law_after", "_law_facts", "_law_truths", "_law_word", "_law_many_here", "_law_one", "_law_two", "_law_ranks_here", "_law_through", "_law_k", "_law_truth", "_law_rank", "_law_j"] ["_law_row_here", "_law_after", "_law_facts", "_law_truths"] (defScope (top 42)) := ⟨rfl, rfl, rfl, by decide +kernel, rfl, by decide +kernel, by decide +kernel⟩
  refine ⟨fd, F.ok S (fun vs H Q E h => ?_) (fun cdv A outer s H vs Q E hr h => ?_), F.bindsN fun _ _ _ _ _ _ us hl => match us, hl with | [_, _, _, _], _ => rfl, F.kp⟩
  · obtain ⟨_, _, _, _, _, _, _, _, _, _, rfl, _⟩ := h
    rfl
  · have hu := hu_of hr
    have hu64 := hr.units
    have hu65 := hu65_of hr
    refine ⟨_, PSs.nox (pss_cons (ps_set (i := 4) S.nd rfl (Or.inr rfl) (pe_ix (ixT (K := K)) (pv 0) pe_int (fun _ _ => rfl)))
      (pss_cons (ps_set (i := 5) S.nd rfl (Or.inl rfl) (pe_callB (cLen (K := K)) rfl (T.f 45) (by decide +kernel) (pa_cons (pv 1) pa_nil)))
      (pss_cons (ps_set (i := 6) S.nd rfl (Or.inr rfl) (pe_lc rfl S.nd  (pi_range1 (by rfl) (T.f 52) (pa_cons (pv 5) pa_nil)) (blkOk_by (own := [("_law_k", 10)]) (by kernel_rfl)) (fun _ _ _ _ _ => (pg_name (i := 10) S.nd rfl (Or.inl rfl))) (fun _ _ _ _ _ => pts_nil) (fun _ _ _ _ _ => (pe_cmpR op_eq (pv 4) pe_str (nomark _)))))
      (Evl.pss_cut (ps_if (pt_cmpR op_eq (pv 4) pe_str (nomark _)) (pss_one (ps_set (i := 6) S.nd rfl (Or.inr rfl) (pe_lc rfl S.nd  (pi_range1 (by rfl) (T.f 52) (pa_cons (pv 5) pa_nil)) (blkOk_by (own := [("_law_k", 10)]) (by kernel_rfl)) (fun _ _ _ _ _ => (pg_name (i := 10) S.nd rfl (Or.inl rfl))) (fun _ _ _ _ _ => pts_nil) (fun _ _ _ _ _ => (pe_ix (ixL (K := K)) (pe_ix (ixL (K := K)) (pv 2) (pv 10) (fun _ _ => rfl)) (pe_ix (ixT (K := K)) (pv 0) pe_int (fun _ _ => rfl)) (fun _ _ => rfl)))))) (pss_one (ps_if (pt_cmpR op_ge (pe_ix (ixT (K := K)) (pv 0) pe_int (fun _ _ => rfl)) pe_int (nomark _)) (pss_one (ps_set (i := 6) S.nd rfl (Or.inr rfl) (pe_ix (ixL (K := K)) (pv 3) (pe_ix (ixT (K := K)) (pv 0) pe_int (fun _ _ => rfl)) (fun _ _ => rfl)))) pss_nil)))
      (pss_cons (ps_set (i := 7) S.nd rfl (Or.inr rfl) (pv 6))
      (pss_cons (ps_if (pt_cmpR op_ge (pe_ix (ixT (K := K)) (pv 0) pe_int (fun _ _ => rfl)) pe_int (nomark _)) (pss_one (ps_set (i := 7) S.nd rfl (Or.inr rfl) (pe_ix (ixL (K := K)) (pv 3) (pe_ix (ixT (K := K)) (pv 0) pe_int (fun _ _ => rfl)) (fun _ _ => rfl)))) pss_nil)
      (pss_cons (ps_if (pt_cmpR (opIn (K := K)) (pv 4) (pe_lst (pa_cons pe_str (pa_cons pe_str (pa_cons pe_str pa_nil)))) (by rfl)) (pss_one (ps_ret (pe_tup (pa_cons (pv 6) (pa_cons (pe_op op_rep (pe_lst (pa_cons (pe_un un_neg pe_int) pa_nil)) (pv 5)) pa_nil))))) pss_nil)
      (pss_cons (ps_if (pt_cmpR op_eq (pv 4) pe_str (nomark _)) (pss_one (ps_ret (pe_tup (pa_cons (pe_lc rfl S.nd  (pi_range1 (by rfl) (T.f 52) (pa_cons (pv 5) pa_nil)) (blkOk_by (own := [("_law_k", 10)]) (by kernel_rfl)) (fun _ _ _ _ _ => (pg_name (i := 10) S.nd rfl (Or.inl rfl))) (fun _ _ _ _ _ => pts_nil) (fun _ _ _ _ _ => (pe_cmpR op_gt (pe_callB (cLen (K := K)) rfl (T.f 45) (by decide +kernel) (pa_cons (pe_lc rfl S.nd  (piList (K := K) (pe_ix (ixL (K := K)) (pv 1) (pv 10) (fun _ _ => rfl))) (blkOk_by (own := [("_law_j", 13)]) (by kernel_rfl)) (fun _ _ _ _ _ => (pg_name (i := 13) S.nd rfl (Or.inl rfl))) (fun _ _ _ _ _ => (pts_one (pt_val (pe_ix (ixL (K := K)) (pv 6) (pv 13) (fun _ _ => rfl))))) (fun _ _ _ _ _ => (pv 13))) pa_nil)) pe_int (nomark _)))) (pa_cons (pe_op op_rep (pe_lst (pa_cons (pe_un un_neg pe_int) pa_nil)) (pv 5)) pa_nil))))) pss_nil)
      (pss_cons (ps_if (pt_cmpR op_eq (pv 4) pe_str (nomark _)) (pss_one (ps_ret (pe_tup (pa_cons (pe_lc rfl S.nd  (pi_range1 (by rfl) (T.f 52) (pa_cons (pv 5) pa_nil)) (blkOk_by (own := [("_law_k", 10)]) (by kernel_rfl)) (fun _ _ _ _ _ => (pg_name (i := 10) S.nd rfl (Or.inl rfl))) (fun _ _ _ _ _ => pts_nil) (fun _ _ _ _ _ => (pe_cmpR op_eq (pe_callB (cLen (K := K)) rfl (T.f 45) (by decide +kernel) (pa_cons (pe_lc rfl S.nd  (piList (K := K) (pe_ix (ixL (K := K)) (pv 1) (pv 10) (fun _ _ => rfl))) (blkOk_by (own := [("_law_j", 13)]) (by kernel_rfl)) (fun _ _ _ _ _ => (pg_name (i := 13) S.nd rfl (Or.inl rfl))) (fun _ _ _ _ _ => (pts_one (pt_not (pt_val (pe_ix (ixL (K := K)) (pv 6) (pv 13) (fun _ _ => rfl)))))) (fun _ _ _ _ _ => (pv 13))) pa_nil)) pe_int (nomark _)))) (pa_cons (pe_op op_rep (pe_lst (pa_cons (pe_un un_neg pe_int) pa_nil)) (pv 5)) pa_nil))))) pss_nil)
      (pss_cons (ps_if (pt_cmpR (opIn (K := K)) (pv 4) (pe_lst (pa_cons pe_str (pa_cons pe_str pa_nil))) (by rfl)) (pss_cons (ps_set (i := 8) S.nd rfl (Or.inl rfl) (pe_call G__law_ranks (hr.mono (by decide)) rfl (T.g 27) k__law_ranks b__law_ranks .nil pass0 (pa_cons (pv 1) (pa_cons (pe_op op_rep (pe_lst (pa_cons pe_bl pa_nil)) (pv 5)) (pa_cons (pe_lc rfl S.nd  (piList (K := K) (pv 6)) (blkOk_by (own := [("_law_truth", 11)]) (by kernel_rfl)) (fun _ _ _ _ _ => (pg_name (i := 11) S.nd rfl (Or.inl rfl))) (fun _ _ _ _ _ => pts_nil) (fun _ _ _ _ _ => (pe_not (pv 11)))) (pa_cons (pe_cmpR op_eq (pv 4) pe_str (nomark _)) pa_nil))))))
      (pss_one (ps_ret (pe_tup (pa_cons (pe_lc rfl S.nd  (piList (K := K) (pv 8)) (blkOk_by (own := [("_law_rank", 12)]) (by kernel_rfl)) (fun _ _ _ _ _ => (pg_name (i := 12) S.nd rfl (Or.inl rfl))) (fun _ _ _ _ _ => pts_nil) (fun _ _ _ _ _ => (pe_cmpR op_lt (pv 12) pe_int (nomark _)))) (pa_cons (pv 8) pa_nil)))))) pss_nil)
      (pss_cons (ps_if (pt_cmpR (opIn (K := K)) (pv 4) (pe_lst (pa_cons pe_str (pa_cons pe_str (pa_cons pe_str (pa_cons pe_str pa_nil))))) (by rfl)) (pss_cons (ps_setLc (i := 9) rfl S.nd rfl rfl (sw_true rfl rfl rfl (by decide +kernel)) (piList (K := K) (pv 6)) (blkOk_by (own := [("_law_truth", 11)]) (by kernel_rfl)) (fun _ _ _ _ _ => (pg_name (i := 11) S.nd rfl (Or.inl rfl))) (fun _ _ _ _ _ => pts_nil) (fun _ _ _ _ _ => (pe_or (pe_cmpR op_eq (pe_ix ix_str (pv 4) pe_int (fun _ _ => rfl)) pe_str (nomark _)) (pe_one (pv 11)))))
      (pss_cons (ps_set (i := 8) S.nd rfl (Or.inl rfl) (pe_call G__law_ranks (hr.mono (by decide)) rfl (T.g 27) k__law_ranks b__law_ranks .nil pass0 (pa_cons (pv 1) (pa_cons (pv 9) (pa_cons (pv 7) (pa_cons (pe_cmpR op_eq (pe_ix ix_str (pv 4) pe_int (fun _ _ => rfl)) pe_str (nomark _)) pa_nil))))))
      (pss_one (ps_ret (pe_tup (pa_cons (pe_lc rfl S.nd  (piList (K := K) (pv 8)) (blkOk_by (own := [("_law_rank", 12)]) (by kernel_rfl)) (fun _ _ _ _ _ => (pg_name (i := 12) S.nd rfl (Or.inl rfl))) (fun _ _ _ _ _ => pts_nil) (fun _ _ _ _ _ => (pe_cmpR op_ge (pv 12) pe_int (nomark _)))) (pa_cons (pv 8) pa_nil))))))) pss_nil)
      (pss_one (ps_ret (pe_tup (pa_cons (pe_lc rfl S.nd  (pi_range1 (by rfl) (T.f 52) (pa_cons (pv 5) pa_nil)) (blkOk_by (own := [("_law_k", 10)]) (by kernel_rfl)) (fun _ _ _ _ _ => (pg_name (i := 10) S.nd rfl (Or.inl rfl))) (fun _ _ _ _ _ => pts_nil) (fun _ _ _ _ _ => (pe_call G__law_plain (hr.mono (by decide)) rfl (T.g 28) k__law_plain b__law_plain .nil pass0 (pa_cons (pv 4) (pa_cons (pe_ix (ixL (K := K)) (pv 6) (pv 10) (fun _ _ => rfl)) (pa_cons (pe_ix (ixL (K := K)) (pv 7) (pv 10) (fun _ _ => rfl)) pa_nil)))))) (pa_cons (pe_op op_rep (pe_lst (pa_cons (pe_un un_neg pe_int) pa_nil)) (pv 5)) pa_nil)))))))))))))))), ?_⟩
    obtain ⟨rp, a, c, pt, nf, i, r, g, F, T', rfl, hrp, ok, ha, hc, hpt, G, tF, tT, q⟩ := h
    have hn := G.len
    have hF := tF.hl
    have hT := tT.hl
    obtain ⟨w, lft, rgt⟩ := r
    obtain ⟨as_, a1, a2, a3⟩ := ha
    have ha : Tab K H nI a g := ⟨as_, a1, a2, a3⟩
    obtain ⟨fs, f1, f2, f3⟩ := hc
    obtain ⟨ts, t1, t2, t3⟩ := hpt
    refine q_asg (ev_op (ev_var rfl) ev_c (rv_ixT hrp rfl)) fun H1 e1 => ?_
    refine q_asg (ev_lenT (ev_var rfl) (ha.mono e1)) fun H2 e2 => ?_
    have e02 := e1.trans e2
    have many : ∀ {σ : L2.St} {H1 : Hp} {te : TE} {p : List Nat} (cc : Nat → Bool), σ[5]? = some (some (nI g.length)) → p = [10] → (∀ i, wipe ((wipe σ p).set 10 (some (nI i))) p = wipe σ p) → (wipe σ p)[5]? = some (some (nI g.length)) → (∀ k, k < g.length → Ev te ((wipe σ p).set 10 (some (nI k))) H1 (.bl (cc k))) → EvL (tLc (iRng1 (tCons (tVar 5) tNil)) (gName 10) tYes te p) σ H1 (((List.range g.length).map cc).map V.bl) := fun cc h5 hp hw h5' hk =>
      el_is (el_comp (n := g.length) (τ := fun k σ => σ.set 10 (some (nI k))) (fun _ => true) (fun k => V.bl (cc k)) (wk_range (ea_cons (ev_var h5) ea_nil) (by omega)) (by omega) hw (fun i hi => et_yes) (fun i hi _ => hk i hi)) (given_map (h := V.bl) (c := cc))
    have lr : ∀ cc : Nat → Bool, ((List.range g.length).map cc).length = g.length := fun cc => by rw [List.length_map, List.length_range]
    refine q_asgL (many (fun _ => decide (w = .tt)) rfl rfl (fun _ => rfl) rfl fun k hk => ev_eq (ev_var rfl) ev_c rfl (dec_wd (b := .tt))) fun o H3 no e3 h3 => ?_
    have e03 := e02.trans e3
    refine q_cut (M := fun σ' H' => Ex H H' ∧ ∃ (x : Addr) (bs : List Bool), bs.length = g.length ∧ SqL K H' x (bs.map V.bl) ∧ σ' = [some (.ref rp), some (.ref a), some (.ref c), some (.ref pt), some (.str w.s), some (nI g.length), some (.ref x), none, none, none, none, none, none, none]) ?_ (fun σ' H' p => ?_)
    · refine s_if (et_test (ev_eq (ev_var rfl) ev_c rfl (dec_wd (b := .fact)))) (fun c1 H4 e4 => ?_) (fun c1 H4 e4 => ?_)
      · have c1 := of_decide_eq_true c1
        obtain ⟨l, o1, o2⟩ := ok.fct c1
        have o1 : lft = l := o1
        subst o1
        have e04 := e03.trans e4
        refine s_asgL (many (fun k => (F.getD k []).getD l false) rfl rfl (fun _ => rfl) rfl fun k hk => ev_ixM false (ev_ixM 0 (ev_var rfl) (ev_var rfl) (ex_l e04 f1) (by omega)) (ev_op (ev_var rfl) ev_c (rv_ixT (ex_t e04 hrp) rfl)) (ex_l e04 (f3 k (by omega))) (by rw [tF.get (by omega)]; exact o2)) fun x H5 nx e5 h5 => ?_
        exact ⟨e04.trans e5, x, _, lr _, sq_of h5, rfl⟩
      · have c1 := of_decide_eq_false c1
        have e04 := e03.trans e4
        refine s_when (et_test (ev_op (ev_op (ev_var rfl) ev_c (rv_ixT (ex_t e04 hrp) rfl)) ev_c rv_I0)) (fun c2 H5 e5 => ?_) (fun c2 H5 e5 => ⟨e04.trans e5, o, _, lr _, sq_of (e5 _ _ (e4 _ _ h3)), rfl⟩)
        have c2 : (0 : Int) ≤ lft := of_decide_eq_true c2
        obtain ⟨l, o1, o2⟩ := ok.left c1 c2
        have o1 : lft = l := o1
        subst o1
        have e05 := e04.trans e5
        refine s_asg (ev_ixM 0 (ev_var rfl) (ev_op (ev_var rfl) ev_c (rv_ixT (ex_t e05 hrp) rfl)) (ex_l e05 t1) (by omega)) fun H6 e6 => ?_
        exact ⟨e05.trans e6, _, _, tT.get o2, ex_l (e05.trans e6) (t3 l (by omega)), rfl⟩
    obtain ⟨e04, x, bs, lb, hx, rfl⟩ := p
    rename_i H4
    refine q_asg (ev_var rfl) fun H5 e5 => ?_
    have e05 := e04.trans e5
    refine q_ifAsg (v := if 0 ≤ rgt then .ref (ts.getD rgt.toNat 0) else .ref x) (et_test (ev_op (ev_op (ev_var rfl) ev_c (rv_ixT (ex_t e05 hrp) rfl)) ev_c rv_I0)) (fun hb => ?_) (fun hb => ?_) fun H6 e6 => ?_
    · have hb : (0 : Int) ≤ rgt := of_decide_eq_true hb
      obtain ⟨l, o1, o2⟩ := ok.right hb
      have o1 : rgt = l := o1
      subst o1
      rw [if_pos hb]
      exact ev_ixM 0 (ev_var rfl) (ev_op (ev_var rfl) ev_c (rv_ixT (ex_t e05 hrp) rfl)) (ex_l e05 t1) (by omega)
    · have hb : ¬ (0 : Int) ≤ rgt := of_decide_eq_false hb
      rw [if_neg hb]
      rfl
    have e06 := e05.trans e6
    obtain ⟨y, bs2, q8, lb2, hy⟩ : ∃ (y : Addr) (bs2 : List Bool), (if 0 ≤ rgt then V.ref (ts.getD rgt.toNat 0) else .ref x) = .ref y ∧ bs2.length = g.length ∧ SqL K H6 y (bs2.map V.bl) := by
      by_cases hb : 0 ≤ rgt
      · obtain ⟨l, o1, o2⟩ := ok.right hb
        have o1 : rgt = l := o1
        subst o1
        exact ⟨_, _, if_pos hb, tT.get o2, ex_l e06 (t3 l (by omega))⟩
      · exact ⟨x, bs, if_neg hb, lb, ex_l (e5.trans e6) hx⟩
    rw [q8]
    have hx6 := ex_l (e5.trans e6) hx
    have ones : ∀ {σ : L2.St} {H1 : Hp}, σ[5]? = some (some (nI g.length)) → EvL (tOp rRep (tLst (tCons (tUn (rU fun i => .int (-i)) (tC (.int 1))) tNil)) (tVar 5)) σ H1 ((List.replicate g.length (-1 : Int)).map V.int) := fun h =>
      el_is (el_mul (el_lst (ea_cons (ev_un ev_c ru_neg) ea_nil) (by show 1 ≤ 100000; decide)) (ev_var h) (by omega)) rep_map
    have lo : (List.replicate g.length (-1 : Int)).length = g.length := List.length_replicate ..
    refine q_when (et_test (ev_opL (ev_var rfl) (el_lst (ea_cons ev_c (ea_cons ev_c (ea_cons ev_c ea_nil))) (by show 3 ≤ 100000; decide)) fun p H1 hp _ => rv_isL (sq_of hp) rfl rfl)) (fun c1 H7 e7 => ?_) (fun c1 H7 e7 => ?_)
    · exact s_pairN q (e06.trans e7) (fun _ h => h) (es_old (ev_var rfl) (ex_l e7 hx6)) (ones rfl) lb lo rfl
    have e07 := e06.trans e7
    have hx7 := ex_l e7 hx6
    have hy7 := ex_l e7 hy
    have near : ∀ {σ : L2.St} {H1 : Hp} {t : TT} (p : Nat → Bool) (k : Nat), k < g.length → Ex H7 H1 → σ[1]? = some (some (.ref a)) → σ[10]? = some (some (nI k)) → (∀ x, wipe ((wipe σ [13]).set 13 (some x)) [13] = wipe σ [13]) → (∀ j, j < g.length → EvT t ((wipe σ [13]).set 13 (some (nI j))) H1 (p j)) → ((wipe σ [13]).set 13 (some (nI 0)))[13]? = some (some (nI 0)) → (∀ j, ((wipe σ [13]).set 13 (some (nI j)))[13]? = some (some (nI j))) → EvL (tLc (iList K (tOp (rIxL K) (tVar 1) (tVar 10))) (gName 13) t (tVar 13) [13]) σ H1 (((g.getD k []).filter p).map nI) := fun p k hk e h1 h10 hw ht _ hs =>
      el_filter 0 p nI (ev_ixM 0 (ev_var h1) (ev_var h10) (ex_l (e07.trans e) a1) (by omega)) (ex_l (e07.trans e) (a3 k hk)) (by have := G.rl _ (getD_mem (d := []) hk); omega) hw (fun j hj => ht _ (G.tg _ (getD_mem (d := []) hk) _ (getD_mem hj))) fun j hj _ => ev_var (hs _)
    refine q_when (et_test (ev_eq (ev_var rfl) ev_c rfl (dec_wd (b := .ex)))) (fun c2 H8 e8 => ?_) (fun c2 H8 e8 => ?_)
    · refine s_pairN q (e07.trans e8) (fun _ h => h) (es_new (many (fun k => decide ((0 : Int) < (((g.getD k []).filter fun j => bs.getD j false).map nI).length)) rfl rfl (fun _ => rfl) rfl fun k hk => ev_op (ev_lenN (near _ k hk e8 rfl rfl (fun _ => rfl) (fun j hj => et_B (ev_ixM false (ev_var rfl) (ev_var rfl) (ex_l e8 hx7) (by omega))) rfl fun _ => rfl)) ev_c rv_I0)) (ones rfl) (lr _) lo rfl
    have e08 := e07.trans e8
    refine q_when (et_test (ev_eq (ev_var rfl) ev_c rfl (dec_wd (b := .ax)))) (fun c3 H9 e9 => ?_) (fun c3 H9 e9 => ?_)
    · refine s_pairN q (e08.trans e9) (fun _ h => h) (es_new (many (fun k => decide (V.int ((((g.getD k []).filter fun j => !bs.getD j false).map nI).length : Int) = V.int 0)) rfl rfl (fun _ => rfl) rfl fun k hk => ev_eq (ev_lenN (near _ k hk (e8.trans e9) rfl rfl (fun _ => rfl) (fun j hj => et_not (et_B (ev_ixM false (ev_var rfl) (ev_var rfl) (ex_l (e8.trans e9) hx7) (by omega)))) rfl fun _ => rfl)) ev_c rfl rfl)) (ones rfl) (lr _) lo rfl
    have e79 := e8.trans e9
    have e09 := e07.trans e79
    have ranked : ∀ {σ : L2.St} {H1 : Hp} {te : TE} (f : Int → Bool) (R : List Int) (l : Addr), H1 l = some (.lst (R.map V.int)) → R.length = g.length → σ[8]? = some (some (.ref l)) → (∀ x, wipe ((wipe σ [12]).set 12 (some x)) [12] = wipe σ [12]) → (∀ z, Ev te ((wipe σ [12]).set 12 (some (.int z))) H1 (.bl (f z))) → EvS K (tLc (iList K (tVar 8)) (gName 12) tYes te [12]) σ H1 ((R.map f).map V.bl) := fun f R l hl lR h8 hw hz =>
      es_new (el_is (el_map 0 (fun z => V.bl (f z)) (ev_var h8) (sq_of hl) (by omega) hw fun i hi => hz _) (List.map_map (f := f) (g := V.bl)).symm)
    refine q_when (et_test (ev_opL (ev_var rfl) (el_lst (ea_cons ev_c (ea_cons ev_c ea_nil)) (by show 2 ≤ 100000; decide)) fun p H1 hp _ => rv_isL (sq_of hp) rfl rfl)) (fun c4 H10 e10 => ?_) (fun c4 H10 e10 => ?_)
    · have e710 := e79.trans e10
      refine q_asgEx (ex_call (a_cons (ev_var rfl) (Ex.refl _) fun H11 e11 => a_consL (el_is (el_mul (el_lst (ea_cons ev_c ea_nil) (by show 1 ≤ 100000; decide)) (ev_var rfl) (by omega)) (rep_map (f := V.bl) (x := true))) (Ex.refl _) fun p1 H12 np1 e12 hp1 => a_consL (el_is (el_map false (fun t => V.bl (!t)) (ev_var rfl) (ex_l ((e710.trans e11).trans e12) hx7) (by omega) (fun _ => rfl) fun i hi => ev_notV (ev_var rfl)) (List.map_map (f := fun t => !t) (g := V.bl)).symm) (Ex.refl _) fun p2 H13 np2 e13 hp2 => a_cons (ev_eq (ev_var rfl) ev_c rfl (dec_wd (b := .eg))) (Ex.refl _) fun H14 e14 => a_nil ?_))
      have e714 := (((e710.trans e11).trans e12).trans e13).trans e14
      refine ⟨a, p1, p2, _, g, List.replicate g.length true, bs.map (fun t => !t), rfl, ha.mono (e07.trans e714), sq_of (e14 _ _ (e13 _ _ hp1)), sq_of (e14 _ _ hp2), G, List.length_replicate .., by rw [List.length_map]; exact lb, fun R l H15 lR nl e15 hl => ?_⟩
      exact s_pairO q ((e07.trans e714).trans e15) (ranked (fun z => decide (z < 0)) R l hl lR rfl (fun _ => rfl) fun z => ev_op (ev_var rfl) ev_c rv_I0) (ev_var rfl) (sq_of hl) (fresh_back (e07.trans e714) nl) (by rw [List.length_map]; exact lR) lR rfl
    have e710 := e79.trans e10
    refine q_when (et_test (ev_opL (ev_var rfl) (el_lst (ea_cons ev_c (ea_cons ev_c (ea_cons ev_c (ea_cons ev_c ea_nil)))) (by show 4 ≤ 100000; decide)) fun p H1 hp _ => rv_isL (sq_of hp) rfl rfl)) (fun c5 H11 e11 => ?_) (fun c5 H11 e11 => ?_)
    · have e711 := e710.trans e11
      obtain ⟨b1, k1⟩ := ev_ch w (i := 1) (by decide) "f"
      obtain ⟨b0, k0⟩ := ev_ch w (i := 0) (by decide) "a"
      refine q_asgL (el_is (el_map false (fun t => V.bl (b1 || t)) (ev_var rfl) (ex_l e711 hx7) (by omega) (fun _ => rfl) fun i hi => ev_orV (k1 (ev_var rfl)) fun _ => ev_var rfl) (List.map_map (f := fun t => b1 || t) (g := V.bl)).symm) fun p1 H12 np1 e12 hp1 => ?_
      refine q_asgEx (ex_call (a_cons (ev_var rfl) (Ex.refl _) fun H13 e13 => a_cons (ev_var rfl) (Ex.refl _) fun H14 e14 => a_cons (ev_var rfl) (Ex.refl _) fun H15 e15 => a_cons (k0 (ev_var rfl)) (Ex.refl _) fun H16 e16 => a_nil ?_))
      have e1216 := ((e13.trans e14).trans e15).trans e16
      have e716 := (e711.trans e12).trans e1216
      refine ⟨a, p1, y, _, g, bs.map (fun t => b1 || t), bs2, rfl, ha.mono (e07.trans e716), sq_of (e1216 _ _ hp1), ex_l e716 hy7, G, by rw [List.length_map]; exact lb, lb2, fun R l H17 lR nl e17 hl => ?_⟩
      exact s_pairO q ((e07.trans e716).trans e17) (ranked (fun z => decide (0 ≤ z)) R l hl lR rfl (fun _ => rfl) fun z => ev_op (ev_var rfl) ev_c rv_I0) (ev_var rfl) (sq_of hl) (fresh_back (e07.trans e716) nl) (by rw [List.length_map]; exact lR) lR rfl
    have e711 := e710.trans e11
    exact s_pairN q (e07.trans e711) (fun _ h => h) (es_new (many (fun k => plainT w (bs.getD k false) (bs2.getD k false)) rfl rfl (fun _ => rfl) rfl fun k hk => ev_call (ea_cons (ev_var rfl) (ea_cons (ev_ixM false (ev_var rfl) (ev_var rfl) (ex_l e711 hx7) (by omega)) (ea_cons (ev_ixM false (ev_var rfl) (ev_var rfl) (ex_l e711 hy7) (by omega)) ea_nil))) fun H1 e Q' q' E => ⟨w, _, _, rfl, q'⟩)) (ones rfl) (lr _) lo rfl
end
end K94

/-! D_law_challenge -/
namespace K94
open PySem PySem.Spec PyProof.Rows L2 Evl
def sp__law_challenge (K : PySem.W.Frag) : Sp := fun vs H Q _ => ∃ (a c l dr : Addr) (ch kd nf : Nat) (g : List (List Nat)) (F : List (List Bool)) (rs : List Row) (ns : List Nat), vs = [.ref a, .ref c, .ref l, nI ch, nI kd, .ref dr] ∧ Tab K H nI a g ∧ Tab K H V.bl c F ∧ RowL K H l rs ∧ SqL K H dr (ns.map nI) ∧ ns.length = g.length + 3 ∧ Gok g ∧ rs.length ≤ 1000 ∧ (∀ i, i < rs.length → RowOk nf i (rD rs i)) ∧ Tb g.length nf F ∧
  ∀ (T : List (List Bool)) (R : List (List Int)) (x y p : Addr) (H' : Hp), Tb rs.length g.length T → Tb rs.length g.length R → Ex H H' → SqT K H' p [.ref x, .ref y] → Tab K H' V.bl x T → Tab K H' V.int y R → Q (.ref p) H'
section
variable {P : Program} {w : World} {K : PySem.W.Frag} {mg : Str → Option Value} {base : Heap}
theorem ok__law_challenge (T : Txt w K mg) : Ok P w K mg base 3 ("_law_challenge", none) ["_law_after", "_law_facts", "_law_rows", "_law_chosen", "_law_kind", "_law_draws_here"] (sp__law_challenge K) := by
  obtain ⟨fd__law_other, G__law_other, b__law_other, k__law_other⟩ := ok__law_other (P := P) (base := base) T
  obtain ⟨fd__law_row, G__law_row, b__law_row, k__law_row⟩ := ok__law_row (P := P) (base := base) T
  obtain ⟨fd, F⟩ := T.def_ 40 _ rfl
  have S : FnScope ["_law_after", "_law_facts", "_law_rows", "_law_chosen", "_law_kind", "_law_draws_here", "_law_truths", "_law_ranks_here", "_law_number_here", "_law_due_here"] ["_law_after", "_law_facts", "_law_rows", "_law_chosen", "_law_kind", "_law_draws_here"] (defScope (top 47)) := ⟨rfl, rfl, rfl, by decide +kernel, rfl, by decide +kernel, by decide +kernel⟩
  refine ⟨fd, F.ok S (fun vs H Q E h => ?_) (fun cdv A outer s H vs Q E hr h => ?_), F.bindsN fun _ _ _ _ _ _ us hl => match us, hl with | [_, _, _, _, _, _], _ => rfl, F.kp⟩
  · obtain ⟨_, _, _, _, _, _, _, _, _, _, _, rfl, _⟩ := h
    rfl
  · have hu := hu_of hr
    have hu64 := hr.units
    have hu65 := hu65_of hr
    refine ⟨_, PSs.nox (pss_cons (ps_set (i := 6) S.nd rfl (Or.inl rfl) (pe_lst pa_nil))
      (pss_cons (ps_set (i := 7) S.nd rfl (Or.inl rfl) (pe_lst pa_nil))
      (pss_cons (ps_for PassesOwn.never rfl (pi_range1 (by rfl) (T.f 52) (pa_cons (pe_callB (cLen (K := K)) rfl (T.f 45) (by decide +kernel) (pa_cons (pv 2) pa_nil)) pa_nil)) (pg_name (i := 8) S.nd rfl (Or.inl rfl)) (pss_cons (ps_set (i := 9) S.nd rfl (Or.inl rfl) (pe_call G__law_row (hr.mono (by decide)) rfl (T.g 29) k__law_row b__law_row .nil pass0 (pa_cons (pe_ix (ixL (K := K)) (pv 2) (pv 8) (fun _ _ => rfl)) (pa_cons (pv 0) (pa_cons (pv 1) (pa_cons (pv 6) pa_nil))))))
      (Evl.pss_cut (ps_if (pt_cmpR op_eq (pv 8) (pv 3) (nomark _)) (pss_one (ps_set (i := 9) S.nd rfl (Or.inl rfl) (pe_call G__law_other (hr.mono (by decide)) rfl (T.g 33) k__law_other b__law_other .nil pass0 (pa_cons (pv 4) (pa_cons (pe_ix (ixL (K := K)) (pv 2) (pv 8) (fun _ _ => rfl)) (pa_cons (pv 9) (pa_cons (pv 0) (pa_cons (pv 6) (pa_cons (pv 5) pa_nil))))))))) pss_nil)
      (pss_cons (ps_expr (pe_bm PySem.F.plainAttrs_list PySem.F.slot_list_append PySem.F.type_list_append mt_append (pv 6) (pa_cons (pe_callTy (cList (K := K)) rfl (T.f 55) (by decide +kernel) (pa_cons (pe_ix (ixT (K := K)) (pv 9) pe_int (fun _ _ => rfl)) pa_nil)) pa_nil)))
      (pss_one (ps_expr (pe_bm PySem.F.plainAttrs_list PySem.F.slot_list_append PySem.F.type_list_append mt_append (pv 7) (pa_cons (pe_callTy (cList (K := K)) rfl (T.f 55) (by decide +kernel) (pa_cons (pe_ix (ixT (K := K)) (pv 9) pe_int (fun _ _ => rfl)) pa_nil)) pa_nil))))))))
      (pss_one (ps_ret (pe_tup (pa_cons (pv 6) (pa_cons (pv 7) pa_nil)))))))), ?_⟩
    obtain ⟨a, c, l, dr, ch, kd, nf, g, F, rs, ns, rfl, ha, hc, hl, hdr, lns, G, hz, ok, tF, q⟩ := h
    have hn := G.len
    have hl' := hl
    obtain ⟨ps, l1, l2, l3⟩ := hl
    refine q_asgL (el_lst ea_nil (by decide)) fun lt H1 nlt e1 h1 => ?_
    refine q_asgL (el_lst ea_nil (by decide)) fun lr H2 nlr e2 h2 => ?_
    have e12 := e1.trans e2
    have lne : lt ≠ lr := fun z => by rw [← z, h1] at nlr; cases nlr
    have nlr' : H lr = none := fresh_back e1 nlr
    refine q_for (Hb := H) (n := rs.length) (τ := fun i σ => σ.set 8 (some (nI i))) e12 (wk_range (ea_cons (ev_lenR (ev_var rfl) hl') ea_nil) (by omega)) (fun i σ' H' => Ex H H' ∧ ∃ (T : List (List Bool)) (R : List (List Int)) (pts prs : List Addr) (x8 x9 : Option V), H' lt = some (.lst (pts.map V.ref)) ∧ H' lr = some (.lst (prs.map V.ref)) ∧ Rw2 H' lt lr pts (T.map fun r => r.map V.bl) ∧ Rw2 H' lt lr prs (R.map fun r => r.map V.int) ∧ Tb i g.length T ∧ Tb i g.length R ∧
      σ' = [some (.ref a), some (.ref c), some (.ref l), some (nI ch), some (nI kd), some (.ref dr), some (.ref lt), some (.ref lr), x8, x9]) (fun _ _ _ p => p.1)
      (fun H3 e3 => ⟨e12.trans e3, [], [], [], [], _, _, e3 _ _ (e2 _ _ h1), e3 _ _ h2, Rw2.nil, Rw2.nil, ⟨rfl, (fun _ h => nomatch h)⟩, ⟨rfl, (fun _ h => nomatch h)⟩, rfl⟩) (fun i σ' H' hi p H4 e4 => ?_) (fun σ' H' p => ?_)
    · obtain ⟨p1, T', R, pts, prs, x8, x9, hlt, hlr, rt, rr, tT, tR, rfl⟩ := p
      have eH4 := p1.trans e4
      have o := ok i hi
      have hlt4 := e4 _ _ hlt
      have hlr4 := e4 _ _ hlr
      have hrow4 := ex_t eH4 (l3 i hi)
      have tab4 : Tab K H4 V.bl lt T' := (rt.ex e4).tab hlt4
      have erow : ∀ {σ : L2.St} {H1 : Hp}, Ex H4 H1 → σ[2]? = some (some (.ref l)) → σ[8]? = some (some (nI i)) → Ev (tOp (rIxL K) (tVar 2) (tVar 8)) σ H1 (.ref (ps.getD i 0)) := fun e h1 h2 => ev_ixM 0 (ev_var h1) (ev_var h2) (ex_l (eH4.trans e) l1) (by omega)
      refine q_asgEx (ex_call (a_cons (erow (Ex.refl _) rfl rfl) (Ex.refl _) fun H5 e5 => a_cons (ev_var rfl) (Ex.refl _) fun H6 e6 => a_cons (ev_var rfl) (Ex.refl _) fun H7 e7 => a_cons (ev_var rfl) (Ex.refl _) fun H8 e8 => a_nil ?_))
      have e48 := ((e5.trans e6).trans e7).trans e8
      refine ⟨_, a, c, lt, nf, i, rD rs i, g, F, T', rfl, ex_t e48 hrow4, o, (ha.mono eH4).mono e48, (hc.mono eH4).mono e48, tab4.mono e48, G, tF, tT, fun dp H9 e9 hdp => ?_⟩
      have e49 := e48.trans e9
      have nA : ∀ (H8 : Hp), Ex H4 H8 → ∀ y, H8 y = none → y ≠ lt ∧ y ≠ lr := fun H8 e y ny => ⟨fun z => (by rw [z, e _ _ hlt4] at ny; cases ny), fun z => (by rw [z, e _ _ hlr4] at ny; cases ny)⟩
      have hdp := hdp.imp (nA H8 e48)
      refine q_cut (M := fun σ' J => Ex H4 J ∧ ∃ dp, PairAt K g.length (fun y => y ≠ lt ∧ y ≠ lr) J dp ∧ σ' = [some (.ref a), some (.ref c), some (.ref l), some (nI ch), some (nI kd), some (.ref dr), some (.ref lt), some (.ref lr), some (nI i), some (.ref dp)]) ?_ (fun σ' J p => ?_)
      · refine s_when (et_eqN (ev_var rfl) (ev_var rfl)) (fun _ H10 e10 => ?_) (fun _ H10 e10 => ⟨e49.trans e10, dp, hdp.mono e10, rfl⟩)
        have e410 := e49.trans e10
        refine s_asgEx (ex_call (a_cons (ev_var rfl) (Ex.refl _) fun H11 e11 => a_cons (erow (e410.trans e11) rfl rfl) (Ex.refl _) fun H12 e12 => a_cons (ev_var rfl) (Ex.refl _) fun H13 e13 => a_cons (ev_var rfl) (Ex.refl _) fun H14 e14 => a_cons (ev_var rfl) (Ex.refl _) fun H15 e15 => a_cons (ev_var rfl) (Ex.refl _) fun H16 e16 => a_nil ?_))
        have ex := ((((e11.trans e12).trans e13).trans e14).trans e15).trans e16
        have e := e410.trans ex
        exact ⟨kd, _, dp, a, lt, dr, nf, i, rD rs i, g, T', ns, _, rfl, ex_t e hrow4, o, hdp.mono (e10.trans ex), nA _ e, (ha.mono eH4).mono e, tab4.mono e, ex_l (eH4.trans e) hdr, lns, G, tT, fun dp' H17 e17 hdp' => ⟨e.trans e17, dp', hdp', rfl⟩⟩
      · obtain ⟨eJ, dp, ⟨bs, zs, x, y, lb, lz, hp, hx, hy, hyt, hyr⟩, rfl⟩ := p
        have hltJ := eJ _ _ hlt4
        have hlrJ := eJ _ _ hlr4
        have lp : pts.length = i := by rw [rt.1, List.length_map, tT.hl]
        have lp2 : prs.length = i := by rw [rr.1, List.length_map, tR.hl]
        refine q_appL hltJ (ev_var rfl) (el_list (ev_op (ev_var rfl) ev_c (rv_ixT hp rfl)) hx) (by rw [List.length_map]; omega) fun p1 H6 np1 e6 h6 => ?_
        have p1t : p1 ≠ lt := fun z => by rw [z, hltJ] at np1; cases np1
        have p1r : p1 ≠ lr := fun z => by rw [z, hlrJ] at np1; cases np1
        have hlr6 : (upd H6 lt (.lst (pts.map V.ref ++ [.ref p1]))) lr = some (.lst (prs.map V.ref)) := by rw [upd_ne lne.symm]; exact e6 _ _ hlrJ
        have hp6 : SqT K (upd H6 lt (.lst (pts.map V.ref ++ [.ref p1]))) dp [.ref x, .ref y] := st_updL (ex_t e6 hp) (e6 _ _ hltJ)
        have hy6 : SqL K (upd H6 lt (.lst (pts.map V.ref ++ [.ref p1]))) y (zs.map V.int) := sl_upd (ex_l e6 hy) hyt
        refine s_appL hlr6 (ev_var rfl) (el_list (ev_op (ev_var rfl) ev_c (rv_ixT hp6 rfl)) hy6) (by rw [List.length_map]; omega) fun p2 H7 np2 e7 h7 => ?_
        have hlt6 : (upd H6 lt (.lst (pts.map V.ref ++ [.ref p1]))) lt = some (.lst (pts.map V.ref ++ [.ref p1])) := upd_same
        have p2t : p2 ≠ lt := fun z => by rw [z, hlt6] at np2; cases np2
        have p2r : p2 ≠ lr := fun z => by rw [z, hlr6] at np2; cases np2
        have r1 : Rw2 (upd H7 lr (.lst (prs.map V.ref ++ [.ref p2]))) lt lr pts (T'.map fun r => r.map V.bl) := (((((rt.ex e4).ex eJ).ex e6).updT).ex e7).updR
        have r2 : Rw2 (upd H7 lr (.lst (prs.map V.ref ++ [.ref p2]))) lt lr prs (R.map fun r => r.map V.int) := (((((rr.ex e4).ex eJ).ex e6).updT).ex e7).updR
        have h1' : (upd H7 lr (.lst (prs.map V.ref ++ [.ref p2]))) p1 = some (.lst (bs.map V.bl)) := by
          rw [upd_ne p1r]
          exact e7 _ _ (by rw [upd_ne p1t]; exact h6)
        have h2' : (upd H7 lr (.lst (prs.map V.ref ++ [.ref p2]))) p2 = some (.lst (zs.map V.int)) := by
          rw [upd_ne p2r]
          exact h7
        have s1 := r1.snoc p1t p1r h1'
        have s2 := r2.snoc p2t p2r h2'
        refine ⟨((((eH4.trans eJ).trans e6).mut nlt).trans e7).mut nlr', T' ++ [bs], R ++ [zs], pts ++ [p1], prs ++ [p2], _, _, ?_, ?_, ?_, ?_, ⟨by rw [List.length_append, tT.hl]; rfl, fun r hr => ?_⟩, ⟨by rw [List.length_append, tR.hl]; rfl, fun r hr => ?_⟩, rfl⟩
        · rw [upd_ne lne, e7 _ _ hlt6, List.map_append]
          rfl
        · rw [upd_same, List.map_append]
          rfl
        · rw [List.map_append]
          exact s1
        · rw [List.map_append]
          exact s2
        · rcases List.mem_append.mp hr with h | h
          · exact tT.wl r h
          · rw [List.mem_singleton.mp h]; exact lb
        · rcases List.mem_append.mp hr with h | h
          · exact tR.wl r h
          · rw [List.mem_singleton.mp h]; exact lz
    · obtain ⟨p1, T', R, pts, prs, x8, x9, hlt, hlr, rt, rr, tT, tR, rfl⟩ := p
      refine s_retU (eu_tup (ea_cons (ev_var rfl) (ea_cons (ev_var rfl) ea_nil)) (by show 2 ≤ 100000; decide)) fun p H5 np e5 hp => q T' R lt lr p H5 tT tR (p1.trans e5) (st_of hp) (((rt.ex e5).tab (e5 _ _ hlt))) (((rr.ex e5).tab (e5 _ _ hlr)))
end
end K94

/-! D_law_draws -/
namespace K94
open PySem PySem.Spec PyProof.Rows L2 Evl
def sp__law_draws (K : PySem.W.Frag) : Sp := fun vs H Q _ => ∃ (c : Int) (m b : Nat), vs = [.int c, nI m, nI b] ∧ m ≤ 1000 ∧ 0 < b ∧ b < 1000 ∧ RetN m b H Q
section
variable {P : Program} {w : World} {K : PySem.W.Frag} {mg : Str → Option Value} {base : Heap}
theorem ok__law_draws (T : Txt w K mg) : Ok P w K mg base 1 ("_law_draws", none) ["_law_cell_here", "_law_many_here", "_law_base"] (sp__law_draws K) := by
  obtain ⟨fd, F⟩ := T.def_ 25 _ rfl
  have S : FnScope ["_law_cell_here", "_law_many_here", "_law_base", "_law_value", "_law_draws_here", "_law_k"] ["_law_cell_here", "_law_many_here", "_law_base"] (defScope (top 32)) := ⟨rfl, rfl, rfl, by decide +kernel, rfl, by decide +kernel, by decide +kernel⟩
  refine ⟨fd, F.ok S (fun vs H Q E h => ?_) (fun cdv A outer s H vs Q E hr h => ?_), F.bindsN fun _ _ _ _ _ _ us hl => match us, hl with | [_, _, _], _ => rfl, F.kp⟩
  · obtain ⟨_, _, _, rfl, _⟩ := h
    rfl
  · have hu := hu_of hr
    have hu64 := hr.units
    have hu65 := hu65_of hr
    refine ⟨_, PSs.nox (pss_cons (ps_set (i := 3) S.nd rfl (Or.inl rfl) (pe_callB call_abs rfl (T.f 53) (by decide +kernel) (pa_cons (pv 0) pa_nil)))
      (pss_cons (ps_set (i := 4) S.nd rfl (Or.inl rfl) (pe_lst pa_nil))
      (pss_cons (ps_for PassesOwn.never rfl (pi_range1 (by rfl) (T.f 52) (pa_cons (pv 1) pa_nil)) (pg_name (i := 5) S.nd rfl (Or.inl rfl)) (pss_one (ps_if (pt_cmpR op_ge (pe_callB call_abs rfl (T.f 53) (by decide +kernel) (pa_cons (pv 0) pa_nil)) (pe_op op_pow pe_int pe_int) (nomark _)) (pss_cons (ps_expr (pe_bm PySem.F.plainAttrs_list PySem.F.slot_list_append PySem.F.type_list_append mt_append (pv 4) (pa_cons (pe_op op_modN (pv 3) (pv 2)) pa_nil)))
      (pss_one (ps_set (i := 3) S.nd rfl (Or.inl rfl) (pe_op op_fdivN (pv 3) (pv 2))))) (pss_cons (ps_set (i := 3) S.nd rfl (Or.inl rfl) (pe_op op_modN (pe_op op_add (pe_op op_add (pe_op op_mul (pv 3) pe_int) (pe_op op_mul pe_int (pv 5))) pe_int) pe_int))
      (pss_cons (ps_set (i := 3) S.nd rfl (Or.inl rfl) (pe_op op_modN (pe_op op_add (pe_op op_mul (pv 3) pe_int) pe_int) pe_int))
      (pss_one (ps_expr (pe_bm PySem.F.plainAttrs_list PySem.F.slot_list_append PySem.F.type_list_append mt_append (pv 4) (pa_cons (pe_op op_modN (pe_op op_fdivN (pv 3) pe_int) (pv 2)) pa_nil)))))))))
      (pss_one (ps_ret (pv 4)))))), ?_⟩
    obtain ⟨c, m, b, rfl, hm, hb, hb2, q⟩ := h
    refine q_asg (ev_abs (ev_var rfl)) fun H1 e1 => ?_
    refine q_asgL (el_lst ea_nil (by decide)) fun l H2 nl e2 h2 => ?_
    have e12 := e1.trans e2
    have nl' : H l = none := fresh_back e1 nl
    have hbase : Ex H (hid H2 l) := hid_of e12 nl'
    refine q_for (Hb := H) (n := m) (τ := fun i σ => σ.set 5 (some (nI i))) e12 (wk_range (ea_cons (ev_var rfl) ea_nil) (by omega)) (fun i σ' H' => Ex H H' ∧ ∃ (ns : List Nat) (v : Int) (x5 : Option V), H' l = some (.lst (ns.map nI)) ∧ ns.length = i ∧ (∀ x ∈ ns, x < b) ∧ σ' = [some (.int c), some (nI m), some (nI b), some (.int v), some (.ref l), x5])
      (fun _ _ _ p => p.1) (fun H3 e3 => ⟨e12.trans e3, [], _, _, e3 _ _ h2, rfl, by simp, rfl⟩) (fun i σ' H' hi p H3 e3 => ?_) (fun σ' H' p => ?_)
    · obtain ⟨p1, ns, v, x5, hl, ln, lt, rfl⟩ := p
      have hl3 := e3 _ _ hl
      have p13 := p1.trans e3
      refine s_if (et_test (ev_op (ev_abs (ev_var rfl)) (ev_op ev_c ev_c (rv_I (show CPow 10 18 from ⟨by decide, by decide, by decide⟩))) rv_I0)) (fun _ H4 e4 => ?_) (fun _ H4 e4 => ?_)
      · refine q_app (e4 _ _ hl3) (ev_var rfl) (ev_mod (b := b) (ev_var rfl) (ev_var rfl) hb) (by rw [List.length_map]; omega) fun H5 e5 => ?_
        refine s_asg (ev_fdiv (b := b) (ev_var rfl) (ev_var rfl) hb (by omega)) fun H6 e6 => ?_
        refine ⟨(((p13.trans e4).trans e5).mut nl').trans e6, ns ++ [mI v b], _, _, by rw [e6 _ _ upd_same, List.map_append]; rfl, by simp [ln], fun x hx => ?_, rfl⟩
        rcases List.mem_append.mp hx with hx | hx
        · exact lt x hx
        · rw [List.mem_singleton.mp hx]; exact mI_lt hb
      · refine q_asg (ev_op (ev_op (ev_op (ev_op (ev_var rfl) ev_c (rv_I (.inr (by decide)))) (ev_op ev_c (ev_var rfl) (rv_I (.inl (by decide)))) rv_I0) ev_c rv_I0) ev_c (rv_I (by decide))) fun H5 e5 => ?_
        refine q_asg (ev_mod (b := 2147483629) (ev_op (ev_op (ev_var rfl) ev_c (rv_I (.inr (by decide)))) ev_c rv_I0) ev_c (by decide)) fun H6 e6 => ?_
        have e36 := (e4.trans e5).trans e6
        refine s_app (e36 _ _ hl3) (ev_var rfl) (ev_modN (ev_fdivN (b := 11) (ev_var rfl) ev_c (by decide) (by decide)) (ev_var rfl) hb) (by rw [List.length_map]; omega) fun H7 e7 => ?_
        refine ⟨((p13.trans e36).trans e7).mut nl', ns ++ [_], _, _, by rw [upd_same, List.map_append]; rfl, by simp [ln], fun x hx => ?_, rfl⟩
        rcases List.mem_append.mp hx with hx | hx
        · exact lt x hx
        · rw [List.mem_singleton.mp hx]; exact Nat.mod_lt _ hb
    · obtain ⟨p1, ns, v, x5, hl, ln, lt, rfl⟩ := p
      exact s_ret (ev_var rfl) fun H4 e4 => q ns l H4 ln lt nl' (p1.trans e4) (e4 _ _ hl)
end
end K94

/-! D_law_cell -/
namespace K94
open PySem PySem.Spec PyProof.Rows L2 Evl
def sp__law_cell (K : PySem.W.Frag) : Sp := fun vs H Q _ => ∃ (a : Addr) (ns : List Int) (k : Nat), vs = [.ref a, nI k] ∧ SqL K H a (ns.map V.int) ∧ RetV (.int (ns.getD k 0)) H Q
section
variable {P : Program} {w : World} {K : PySem.W.Frag} {mg : Str → Option Value} {base : Heap}
theorem ok__law_cell (T : Txt w K mg) : Ok P w K mg base 1 ("_law_cell", none) ["_law_script", "_law_k"] (sp__law_cell K) := by
  obtain ⟨fd, F⟩ := T.def_ 24 _ rfl
  have S : FnScope ["_law_script", "_law_k"] ["_law_script", "_law_k"] (defScope (top 31)) := ⟨rfl, rfl, rfl, by decide +kernel, rfl, by decide +kernel, by decide +kernel⟩
  refine ⟨fd, F.ok S (fun vs H Q E h => ?_) (fun cdv A outer s H vs Q E hr h => ?_), F.bindsN fun _ _ _ _ _ _ us hl => match us, hl with | [_, _], _ => rfl, F.kp⟩
  · obtain ⟨_, _, _, rfl, _⟩ := h
    rfl
  · have hu := hu_of hr
    have hu64 := hr.units
    have hu65 := hu65_of hr
    refine ⟨_, PSs.nox (pss_cons (ps_if (pt_cmpR op_lt (pv 1) (pe_callB (cLen (K := K)) rfl (T.f 45) (by decide +kernel) (pa_cons (pv 0) pa_nil)) (nomark _)) (pss_one (ps_ret (pe_ix (ixL (K := K)) (pv 0) (pv 1) (fun _ _ => rfl)))) pss_nil)
      (pss_one (ps_ret pe_int))), ?_⟩
    obtain ⟨a, ns, k, rfl, ha, q⟩ := h
    refine q_when (et_ltN (ev_var rfl) (ev_lenM (ev_var rfl) ha)) (fun c H1 e1 => ?_) (fun c H1 e1 => ?_)
    · exact s_ret (ev_ixM 0 (ev_var rfl) (ev_var rfl) (ex_l e1 ha) (of_decide_eq_true c)) fun H2 e2 => q _ (e1.trans e2)
    · have e : ns.getD k 0 = 0 := by
        have c := of_decide_eq_false c
        rw [List.getD_eq_getElem?_getD, List.getElem?_eq_none (by omega)]; rfl
      rw [e] at q
      exact s_ret ev_c fun H2 e2 => q _ (e1.trans e2)
end
end K94

/-! D_law_leaves -/
namespace K94
open PySem PySem.Spec PyProof.Rows L2 Evl
def sp__law_leaves (K : PySem.W.Frag) : Sp := fun vs H Q _ => vs = [] ∧ ∀ p H', H p = none → Ex H H' → PoolAt K H' p leaves → Q (.ref p) H'
section
variable {P : Program} {w : World} {K : PySem.W.Frag} {mg : Str → Option Value} {base : Heap}
theorem ok__law_leaves (T : Txt w K mg) : Ok P w K mg base 1 ("_law_leaves", none) [] (sp__law_leaves K) := by
  obtain ⟨fd, F⟩ := T.def_ 29 _ rfl
  have S : FnScope ["_law_name"] [] (defScope (top 36)) := ⟨rfl, rfl, rfl, by decide +kernel, rfl, by decide +kernel, by decide +kernel⟩
  refine ⟨fd, F.ok S (fun vs H Q E h => ?_) (fun cdv A outer s H vs Q E hr h => ?_), F.bindsN fun _ _ _ _ _ _ us hl => match us, hl with | [], _ => rfl, F.kp⟩
  · obtain ⟨rfl, _⟩ := h
    rfl
  · have hu := hu_of hr
    have hu64 := hr.units
    have hu65 := hu65_of hr
    refine ⟨_, PSs.nox (pss_cons (ps_set (i := 0) S.nd rfl (Or.inl rfl) (pe_tup (pa_cons pe_str (pa_cons pe_str pa_nil))))
      (pss_one (ps_ret (pe_lst (pa_cons (pe_tup (pa_cons pe_str (pa_cons (pv 0) (pa_cons (pe_tup (pa_cons pe_str (pa_cons pe_int pa_nil))) pa_nil)))) (pa_cons (pe_tup (pa_cons pe_str (pa_cons (pv 0) (pa_cons (pe_tup (pa_cons pe_str (pa_cons pe_int pa_nil))) pa_nil)))) (pa_cons (pe_tup (pa_cons pe_str pa_nil)) (pa_cons (pe_tup (pa_cons pe_str pa_nil)) pa_nil)))))))), ?_⟩
    obtain ⟨rfl, q⟩ := h
    refine q_asgEx ((ef_tup (K := K) (efs_cons ef_str (efs_cons ef_str efs_nil)) (by show 2 ≤ 1000; decide)) H (Ex.refl _) _ fun v H1 e1 hv => ?_)
    have hn : EvF K (tVar 0) [some v] H1 (.tuple [.str "name", .str "a"]) := ef_ev (ev_var rfl) hv
    refine s_retEx ((efs_cons (K := K) (ef_tup (efs_cons ef_str (efs_cons hn (efs_cons (ef_tup (efs_cons ef_str (efs_cons ef_int efs_nil)) (by show 2 ≤ 1000; decide)) efs_nil))) (by show 3 ≤ 1000; decide))
      (efs_cons (ef_tup (efs_cons ef_str (efs_cons hn (efs_cons (ef_tup (efs_cons ef_str (efs_cons ef_int efs_nil)) (by show 2 ≤ 1000; decide)) efs_nil))) (by show 3 ≤ 1000; decide))
      (efs_cons (ef_tup (efs_cons ef_str efs_nil) (by show 1 ≤ 1000; decide)) (efs_cons (ef_tup (efs_cons ef_str efs_nil) (by show 1 ≤ 1000; decide)) efs_nil)))) H1 (Ex.refl _) _ fun vs H2 e2 hvs => ?_)
    exact ⟨sz_of (by rw [DpAll.length hvs]; show 4 ≤ 100000; decide), fun p np => q p _ (fresh_back (e1.trans e2) np) ((e1.trans e2).trans (Ex.new np)) ⟨vs, upd_same, dpAll_ex (tps_new np) _ _ hvs⟩⟩
end
end K94

/-! D_law_table -/
namespace K94
open PySem PySem.Spec PyProof.Rows L2 Evl
def sp__law_table (K : PySem.W.Frag) : Sp := fun vs H Q _ => ∃ (l bp : Addr) (es : List Bool) (ns : List Nat) (m : Nat), vs = [.ref l, .ref bp, nI m] ∧ FactG K H l es ∧ SqL K H bp (ns.map nI) ∧ ns.length = 2 * m ∧ m ≤ 12 ∧ es.length ≤ 2 ∧ ∀ (F : List (List Bool)) p H', Tb m es.length F → Ex H H' → Tab K H' V.bl p F → Q (.ref p) H'
section
variable {P : Program} {w : World} {K : PySem.W.Frag} {mg : Str → Option Value} {base : Heap}
theorem ok__law_table (T : Txt w K mg) : Ok P w K mg base 2 ("_law_table", none) ["_law_listed", "_law_bits", "_law_many_here"] (sp__law_table K) := by
  obtain ⟨fd__law_leaves, G__law_leaves, b__law_leaves, k__law_leaves⟩ := ok__law_leaves (P := P) (base := base) T
  obtain ⟨fd, F⟩ := T.def_ 30 _ rfl
  have S : FnScope ["_law_listed", "_law_bits", "_law_many_here", "_law_facts", "_law_k", "_law_row_here", "_law_comparison"] ["_law_listed", "_law_bits", "_law_many_here"] (defScope (top 37)) := ⟨rfl, rfl, rfl, by decide +kernel, rfl, by decide +kernel, by decide +kernel⟩
  refine ⟨fd, F.ok S (fun vs H Q E h => ?_) (fun cdv A outer s H vs Q E hr h => ?_), F.bindsN fun _ _ _ _ _ _ us hl => match us, hl with | [_, _, _], _ => rfl, F.kp⟩
  · obtain ⟨_, _, _, _, _, rfl, _⟩ := h
    rfl
  · have hu := hu_of hr
    have hu64 := hr.units
    have hu65 := hu65_of hr
    refine ⟨_, PSs.nox (pss_cons (ps_set (i := 3) S.nd rfl (Or.inl rfl) (pe_lst pa_nil))
      (pss_cons (ps_for PassesOwn.never rfl (pi_range1 (by rfl) (T.f 52) (pa_cons (pv 2) pa_nil)) (pg_name (i := 4) S.nd rfl (Or.inl rfl)) (pss_cons (ps_set (i := 5) S.nd rfl (Or.inl rfl) (pe_lst pa_nil))
      (pss_cons (ps_for PassesOwn.never rfl (piList (K := K) (pv 0)) (pg_name (i := 6) S.nd rfl (Or.inl rfl)) (pss_one (ps_if (pt_cmpR (opEqD (K := K) hu64) (pv 6) (pe_ix (ixL (K := K)) (pe_call0 G__law_leaves (hr.mono (by decide)) rfl (T.g 23) k__law_leaves b__law_leaves .nil pass0) pe_int (fun _ _ => rfl)) (nomark _)) (pss_one (ps_expr (pe_bm PySem.F.plainAttrs_list PySem.F.slot_list_append PySem.F.type_list_append mt_append (pv 5) (pa_cons (pe_cmpR op_eq (pe_ix (ixL (K := K)) (pv 1) (pv 4) (fun _ _ => rfl)) pe_int (nomark _)) pa_nil)))) (pss_one (ps_expr (pe_bm PySem.F.plainAttrs_list PySem.F.slot_list_append PySem.F.type_list_append mt_append (pv 5) (pa_cons (pe_cmpR op_eq (pe_ix (ixL (K := K)) (pv 1) (pe_op op_add (pv 2) (pv 4)) (fun _ _ => rfl)) pe_int (nomark _)) pa_nil)))))))
      (pss_one (ps_expr (pe_bm PySem.F.plainAttrs_list PySem.F.slot_list_append PySem.F.type_list_append mt_append (pv 3) (pa_cons (pv 5) pa_nil)))))))
      (pss_one (ps_ret (pv 3))))), ?_⟩
    obtain ⟨l, bp, es, ns, m, rfl, hl, hb, ln, hm, he, q⟩ := h
    refine q_asgL (el_lst ea_nil (by decide)) fun lf H1 nlf e1 h1 => ?_
    obtain ⟨vs, hv, lv, hat⟩ := hl.at
    refine q_for (Hb := H) (n := m) (τ := fun i σ => σ.set 4 (some (nI i))) e1 (wk_range (ea_cons (ev_var rfl) ea_nil) (by omega)) (fun i σ' H' => Ex H H' ∧ ∃ (F : List (List Bool)) (ps : List Addr) (x4 x5 x6 : Option V), H' lf = some (.lst (ps.map V.ref)) ∧ Rw2 H' lf lf ps (F.map fun r => r.map V.bl) ∧ F.length = i ∧ (∀ r ∈ F, r.length = es.length) ∧ σ' = [some (.ref l), some (.ref bp), some (nI m), some (.ref lf), x4, x5, x6])
      (fun _ _ _ p => p.1) (fun H6 e6 => ⟨e1.trans e6, [], [], _, _, _, e6 _ _ h1, Rw2.nil, rfl, by simp, rfl⟩) (fun i σ' H' hi p H6 e6 => ?_) (fun σ' H' p => ?_)
    · obtain ⟨p1, F, ps, x4, x5, x6, hlf, hr', lg, ok, rfl⟩ := p
      have hl6 := e6 _ _ hlf
      have p16 := p1.trans e6
      refine q_asgL (el_lst ea_nil (by decide)) fun rl H7 nrl e7 h7 => ?_
      refine q_for (Hb := H6) (n := vs.length) (τ := fun j σ => σ.set 6 (some (vs.getD j .non))) e7 (wk_listM .non (ev_var rfl) (ex_l p16 hv)) (fun j σ' H' => Ex H6 H' ∧ ∃ (bs : List Bool) (x6 : Option V), H' rl = some (.lst (bs.map V.bl)) ∧ bs.length = j ∧ σ' = [some (.ref l), some (.ref bp), some (nI m), some (.ref lf), some (nI i), some (.ref rl), x6])
        (fun _ _ _ p => p.1) (fun H8 e8 => ⟨e7.trans e8, [], _, e8 _ _ h7, rfl, rfl⟩) (fun j σ' H' hj p H8 e8 => ?_) (fun σ' H' p => ?_)
      · obtain ⟨p1', bs, x6', hrl, lb, rfl⟩ := p
        have e68 := p1'.trans e8
        have fa := (hat j (by omega)).mono (tps_mono (p16.trans e68))
        have lv0 : EvD K (tOp (rIxL K) (tCall (sp__law_leaves K) [] E0 tNil) (tC (.int 0))) [some (.ref l), some (.ref bp), some (nI m), some (.ref lf), some (nI i), some (.ref rl), some (vs.getD j .non)] H8 (cmpD true) := fun H9 e9 Q' k' =>
          ⟨rfl, fun p H10 np e10 hp => by
            obtain ⟨v, q1, q2⟩ := hp.get (i := 0) (by decide)
            exact q2 (σ := []) (ta := tC (.ref p)) (tb := tC (.int 0)) ev_c ev_c H10 (Ex.refl _) Q' fun H11 e11 => k' v H11 (e10.trans e11) (q1.mono (tps_mono e11)).dp⟩
        have fin : ∀ (te : TE) (b : Bool) (H9 : Hp), Ex H8 H9 → Ev te [some (.ref l), some (.ref bp), some (nI m), some (.ref lf), some (nI i), some (.ref rl), some (vs.getD j .non)] H9 (.bl b) → ∀ D : Ends, (∀ σ' H', (Ex H6 H' ∧ ∃ (bs : List Bool) (x6 : Option V), H' rl = some (.lst (bs.map V.bl)) ∧ bs.length = j + 1 ∧ σ' = [some (.ref l), some (.ref bp), some (nI m), some (.ref lf), some (nI i), some (.ref rl), x6]) → D.nx σ' H') →
            tDrop (tBM K "list" rAppend (tVar 5) (tCons te tNil)) D [some (.ref l), some (.ref bp), some (nI m), some (.ref lf), some (nI i), some (.ref rl), some (vs.getD j .non)] H9 := fun te b H9 e9 hte D hD =>
          s_app (e9 _ _ (e8 _ _ hrl)) (ev_var rfl) hte (by rw [List.length_map]; omega) fun H10 e10 => hD _ _ ⟨((e68.trans e9).trans e10).mut nrl, bs ++ [b], _, by rw [upd_same, List.map_append]; rfl, by simp [lb], rfl⟩
        refine s_if (et_test (ev_eqD (ed_ev (ev_var rfl) fa.dp) lv0 (cmp_shaped _) (cmp_shaped _))) (fun _ H9 e9 => ?_) (fun _ H9 e9 => ?_)
        · exact fin _ _ H9 e9 (ev_eq (ev_ixM 0 (ev_var rfl) (ev_var rfl) (ex_l ((p16.trans e68).trans e9) hb) (by omega)) ev_c rfl rfl) _ fun _ _ z => z
        · exact fin _ _ H9 e9 (ev_eq (ev_ixM 0 (ev_var rfl) (ev_addN (ev_var rfl) (ev_var rfl)) (ex_l ((p16.trans e68).trans e9) hb) (by omega)) ev_c rfl rfl) _ fun _ _ z => z
      · obtain ⟨p1', bs, x6', hrl, lb, rfl⟩ := p
        have hpl : rl ≠ lf := fun z => by rw [z, hl6] at nrl; cases nrl
        refine s_app (p1' _ _ hl6) (ev_var rfl) (ev_var rfl) (by rw [List.length_map, hr'.1, List.length_map]; omega) fun H9 e9 => ?_
        refine ⟨((p16.trans p1').trans e9).mut nlf, F ++ [bs], ps ++ [rl], _, _, _, by rw [upd_same, List.map_append]; rfl, ?_, by simp [lg], fun r hx => ?_, rfl⟩
        · rw [List.map_append]
          exact (((hr'.ex e6).ex (p1'.trans e9)).updT).snoc hpl hpl (by rw [upd_ne hpl]; exact e9 _ _ hrl)
        · rcases List.mem_append.mp hx with hx | hx
          · exact ok r hx
          · rw [List.mem_singleton.mp hx]; omega
    · obtain ⟨p1, F, ps, x4, x5, x6, hlf, hr', lg, ok, rfl⟩ := p
      exact s_ret (ev_var rfl) fun H6 e6 => q F lf H6 ⟨lg, ok⟩ (p1.trans e6) ((hr'.ex e6).tab (e6 _ _ hlf))
end
end K94

/-! D_RowBook_put -/
namespace K94
open PySem PySem.Spec PyProof.Rows L2 Evl
def sp_RowBook_put (K : PySem.W.Frag) : Sp := fun vs H Q _ => ∃ (x dx fa ra na : Addr) (b : Bk) (r : Row), vs = [.ref x, .str r.w.s, .int r.l, .int r.r] ∧ BookX K H x dx fa ra na b ∧ b.rows.length ≤ 5000 ∧
  ∀ H', Ex (hid3 H fa ra na) H' → BookX K H' x dx fa ra na (putR b r).1 → Q (.int ((putR b r).2 : Nat)) H'
section
variable {P : Program} {w : World} {K : PySem.W.Frag} {mg : Str → Option Value} {base : Heap}
theorem ok_RowBook_put (T : Txt w K mg) : Ok P w K mg base 1 ("RowBook", some "put") ["self", "word", "left", "right"] (sp_RowBook_put K) := by
  obtain ⟨fd, F⟩ := T.def_ 2 _ rfl
  have S : FnScope ["self", "word", "left", "right", "row"] ["self", "word", "left", "right"] (defScope (inClass (top 4) 1)) := ⟨rfl, rfl, rfl, by decide +kernel, rfl, by decide +kernel, by decide +kernel⟩
  refine ⟨fd, F.ok S (fun vs H Q E h => ?_) (fun cdv A outer s H vs Q E hr h => ?_), F.bindsN fun _ _ _ _ _ _ us hl => match us, hl with | [_, _, _, _], _ => rfl, F.kp⟩
  · obtain ⟨_, _, _, _, _, _, _, rfl, _⟩ := h
    rfl
  · have hu := hu_of hr
    have hu64 := hr.units
    have hu65 := hu65_of hr
    refine ⟨_, PSs.nox (pss_cons (ps_set (i := 4) S.nd rfl (Or.inl rfl) (pe_tup (pa_cons (pv 1) (pa_cons (pv 2) (pa_cons (pv 3) pa_nil)))))
      (pss_cons (ps_if (pt_cmp (pc_dnotin hu (pv 4) (peFld (K := K) (pv 0)))) (pss_cons (ps_dput hu (peFld (K := K) (pv 0)) (pv 4) (pe_callB (cLen (K := K)) rfl (T.f 45) (by decide +kernel) (pa_cons (peFld (K := K) (pv 0)) pa_nil)) rfl)
      (pss_one (ps_expr (pe_bm PySem.F.plainAttrs_list PySem.F.slot_list_append PySem.F.type_list_append mt_append (peFld (K := K) (pv 0)) (pa_cons (pv 4) pa_nil))))) pss_nil)
      (pss_one (ps_ret (pe_dget hu (peFld (K := K) (pv 0)) (pv 4) (fun _ _ => rfl)))))), ?_⟩
    obtain ⟨x, dx, fa, ra, na, bk, r, rfl, hb, hz, q⟩ := h
    refine q_asgU (eu_tup (ea_cons (ev_var rfl) (ea_cons (ev_var rfl) (ea_cons (ev_var rfl) ea_nil))) (by show 3 ≤ 100000; decide)) fun t H1 nt e1 ht => ?_
    have ht : H1 t = some (.tup ((key r).map kV)) := ht
    have hb1 := hb.ex e1
    have fN : ∀ {σ : L2.St} {J : Hp} {b : Bk}, BookX K J x dx fa ra na b → σ[0]? = some (some (.ref x)) → Ev (tFld K (tVar 0) "_numbers") σ J (.ref na) := fun h s => ev_fld (ev_var s) h.x (clsRB T) (T.noat 69) rfl
    have fR : ∀ {σ : L2.St} {J : Hp} {fs : List (Str × V)}, J x = some (.ins (cB K) dx [("facts", .ref fa), ("rows", .ref ra), ("_numbers", .ref na)]) → σ[0]? = some (some (.ref x)) → Ev (tFld K (tVar 0) "rows") σ J (.ref ra) := fun h s => ev_fld (ev_var s) h (clsRB T) (T.noat 68) rfl
    have fN' : ∀ {σ : L2.St} {J : Hp}, J x = some (.ins (cB K) dx [("facts", .ref fa), ("rows", .ref ra), ("_numbers", .ref na)]) → σ[0]? = some (some (.ref x)) → Ev (tFld K (tVar 0) "_numbers") σ J (.ref na) := fun h s => ev_fld (ev_var s) h (clsRB T) (T.noat 69) rfl
    refine q_when (et_test (ev_dnotin (ev_var rfl) (fN hb1 rfl) hb1.n ht)) (fun c H2 e2 => ?_) (fun c H2 e2 => ?_)
    · have hn : r ∉ bk.rows := fun z => by
        rw [kvs_val, if_pos z] at c
        cases c
      have hb2 := hb1.ex e2
      have ht2 := e2 _ _ ht
      obtain ⟨ps, hl2, hlen⟩ := hb2.r.lst
      refine q_dput (ev_lenR (fR (fs := []) hb2.x rfl) hb2.r.rowL) (fN hb2 rfl) (ev_var rfl) hb2.n ht2 (by rw [kvs_len]; omega) fun H3 e3 => ?_
      rw [kvs_put hn]
      have hb3 := hb2.ex e3
      have hl3 := e3 _ _ hl2
      have ht3 := e3 _ _ ht2
      have ran : ra ≠ na := ne_of hl3 hb3.n (by intro z; cases z)
      obtain ⟨vf, hf3, _⟩ := hb3.f.lst
      have fan : fa ≠ na := ne_of hf3 hb3.n (by intro z; cases z)
      have xn : x ≠ na := ne_of hb3.x hb3.n (by intro z; cases z)
      have xra : x ≠ ra := ne_of hb3.x hl3 (by intro z; cases z)
      have tn : t ≠ na := ne_of ht3 hb3.n (by intro z; cases z)
      have tra : t ≠ ra := ne_of ht3 hl3 (by intro z; cases z)
      have tp : Ex (tps H3) (tps (upd H3 na (.dT (kvs 0 (bk.rows ++ [r]))))) := tps_upd fun xs z => by rw [hb3.n] at z; cases z
      have hr4 : RowG K (upd H3 na (.dT (kvs 0 (bk.rows ++ [r])))) ra bk.rows := hb3.r.off tp (upd_ne ran)
      have hf4 : FactG K (upd H3 na (.dT (kvs 0 (bk.rows ++ [r])))) fa bk.facts := hb3.f.off tp (upd_ne fan)
      have hx4 : (upd H3 na (.dT (kvs 0 (bk.rows ++ [r])))) x = some (.ins (cB K) dx [("facts", .ref fa), ("rows", .ref ra), ("_numbers", .ref na)]) := by rw [upd_ne xn]; exact hb3.x
      have hl4 : (upd H3 na (.dT (kvs 0 (bk.rows ++ [r])))) ra = some (.lst (ps.map V.ref)) := by rw [upd_ne ran]; exact hl3
      have ht4 : (upd H3 na (.dT (kvs 0 (bk.rows ++ [r])))) t = some (.tup ((key r).map kV)) := by rw [upd_ne tn]; exact ht3
      have hn4 : (upd H3 na (.dT (kvs 0 (bk.rows ++ [r])))) na = some (.dT (kvs 0 (bk.rows ++ [r]))) := upd_same
      refine s_app hl4 (fR (fs := []) hx4 rfl) (ev_var rfl) (by rw [List.length_map]; omega) fun H5 e5 => ?_
      have hl5 := e5 _ _ hl4
      have ht5 := e5 _ _ ht4
      have hb6 : BookX K (upd H5 ra (.lst (ps.map V.ref ++ [.ref t]))) x dx fa ra na ⟨bk.facts, bk.rows ++ [r]⟩ := ⟨by rw [upd_ne xra]; exact e5 _ _ hx4, (hf4.ex e5).off (tps_lst hl5) (upd_ne hb.ne), (hr4.ex e5).app hl5 ht5, by rw [upd_ne ran.symm]; exact e5 _ _ hn4, hb.ne⟩
      have ht6 : (upd H5 ra (.lst (ps.map V.ref ++ [.ref t]))) t = some (.tup ((key r).map kV)) := by rw [upd_ne tra]; exact ht5
      refine s_ret (ev_dget (v := nI bk.rows.length) (fN hb6 rfl) (ev_var rfl) hb6.n ht6 ?_) fun H7 e7 => ?_
      · rw [kvs_val, if_pos (by simp), List.idxOf_append, if_neg hn]
        simp
      · have ep : putR bk r = (⟨bk.facts, bk.rows ++ [r]⟩, bk.rows.length) := by unfold putR; rw [if_neg hn]
        rw [ep] at q
        exact q H7 (((((hid3_ex.trans ((e1.trans e2).trans e3)).mut hid3_c).trans e5).mut hid3_b).trans e7) (hb6.ex e7)
    · have hm : r ∈ bk.rows := by
        by_cases z : r ∈ bk.rows
        · exact z
        · rw [kvs_val, if_neg z] at c
          cases c
      have hb2 := hb1.ex e2
      refine s_ret (ev_dget (v := nI (0 + bk.rows.idxOf r)) (fN hb2 rfl) (ev_var rfl) hb2.n (e2 _ _ ht) (by rw [kvs_val, if_pos hm])) fun H3 e3 => ?_
      have ep : putR bk r = (bk, bk.rows.idxOf r) := by unfold putR; rw [if_pos hm]
      rw [ep] at q
      rw [Nat.zero_add]
      exact q H3 (hid3_ex.trans ((e1.trans e2).trans e3)) (hb2.ex e3)
end
end K94

/-! D_RowBook_put_fact -/
namespace K94
open PySem PySem.Spec PyProof.Rows L2 Evl
def sp_RowBook_put_fact (K : PySem.W.Frag) : Sp := fun vs H Q _ => ∃ (x dx fa ra na : Addr) (b : Bk) (e : Bool) (v : V), vs = [.ref x, v] ∧ BookX K H x dx fa ra na b ∧ FormAt K H v (.cmp e) ∧ BkOk b ∧ b.rows.length ≤ 5000 ∧
  ∀ H', Ex (hid3 H fa ra na) H' → BookX K H' x dx fa ra na (putR (addF b e) (factRow b e)).1 → Q (.int ((putR (addF b e) (factRow b e)).2 : Nat)) H'
section
variable {P : Program} {w : World} {K : PySem.W.Frag} {mg : Str → Option Value} {base : Heap}
theorem ok_RowBook_put_fact (T : Txt w K mg) : Ok P w K mg base 2 ("RowBook", some "put_fact") ["self", "comparison"] (sp_RowBook_put_fact K) := by
  obtain ⟨fd_put, G_put, b_put, k_put⟩ := ok_RowBook_put (P := P) (base := base) T
  obtain ⟨fd, F⟩ := T.def_ 3 _ rfl
  have S : FnScope ["self", "comparison"] ["self", "comparison"] (defScope (inClass (top 4) 2)) := ⟨rfl, rfl, rfl, by decide +kernel, rfl, by decide +kernel, by decide +kernel⟩
  refine ⟨fd, F.ok S (fun vs H Q E h => ?_) (fun cdv A outer s H vs Q E hr h => ?_), F.bindsN fun _ _ _ _ _ _ us hl => match us, hl with | [_, _], _ => rfl, F.kp⟩
  · obtain ⟨_, _, _, _, _, _, _, _, rfl, _⟩ := h
    rfl
  · have hu := hu_of hr
    have hu64 := hr.units
    have hu65 := hu65_of hr
    refine ⟨_, PSs.nox (pss_cons (ps_if (pt_cmpR (opNotInD (K := K) hu65) (pv 1) (peFld (K := K) (pv 0)) (by rfl)) (pss_one (ps_expr (pe_bm PySem.F.plainAttrs_list PySem.F.slot_list_append PySem.F.type_list_append mt_append (peFld (K := K) (pv 0)) (pa_cons (pv 1) pa_nil)))) pss_nil)
      (pss_one (ps_ret (pe_meth (pv 0) (clsRB T) (m_put T) G_put (hr.mono (by decide)) b_put .nil pass0 (pa_cons pe_str (pa_cons (pe_bm PySem.F.plainAttrs_list PySem.F.slot_list_index PySem.F.type_list_index (mtIndexD (K := K) hu65) (peFld (K := K) (pv 0)) (pa_cons (pv 1) pa_nil)) (pa_cons (pe_un un_neg pe_int) pa_nil))))))), ?_⟩
    obtain ⟨x, dx, fa, ra, na, bk, e, v, rfl, hb, hv, bo, hz, q⟩ := h
    have fF : ∀ {σ : L2.St} {J : Hp} {b : Bk}, BookX K J x dx fa ra na b → σ[0]? = some (some (.ref x)) → Ev (tFld K (tVar 0) "facts") σ J (.ref fa) := fun h s => ev_fld (ev_var s) h.x (clsRB T) (T.noat 67) rfl
    have cont : ∀ (J : Hp) (D : Ends), D.rt = Q → Ex (hid3 H fa ra na) J → BookX K J x dx fa ra na (addF bk e) → FormAt K J v (.cmp e) → e ∈ (addF bk e).facts → (addF bk e).rows.length ≤ 5000 →
        tRet (tMeth (cB K) "put" (sp_RowBook_put K) [] E0 (tVar 0) (tCons (tC (.str "fact")) (tCons (tBM K "list" (rIndexD K) (tFld K (tVar 0) "facts") (tCons (tVar 1) tNil)) (tCons (tUn (rU fun i => .int (-i)) (tC (.int 1))) tNil)))) D [some (.ref x), some v] J := by
      intro J D hD eJ hbJ hvJ hm hz'
      refine s_retEx (ex_meth (ev_var rfl) hbJ.x rfl fun H1 e1 => ?_)
      have hb1 := hbJ.ex e1
      refine a_cons ev_c (Ex.refl _) fun H2 e2 => a_cons (ev_indexCmp (fF (hb1.ex e2) rfl) (ev_var rfl) (hb1.ex e2).f (hvJ.mono (tps_mono (e1.trans e2))) hm) (Ex.refl _) fun H3 e3 => a_cons (ev_un ev_c ru_neg) (Ex.refl _) fun H4 e4 => a_nil ?_
      have e14 := ((e1.trans e2).trans e3).trans e4
      refine ⟨x, dx, fa, ra, na, addF bk e, factRow bk e, rfl, hbJ.ex e14, hz', fun H' e' hb' => ?_⟩
      rw [hD]
      exact q H' ((hid3_idem (eJ.trans e14)).trans e') hb'
    have tst := ev_notInD (K := K) (σ := [some (.ref x), some v]) (H := H) (ta := tVar 1) (tb := tFld K (tVar 0) "facts") (ev_var rfl) (fF hb rfl) hv.dp hb.f.dp (cmp_shaped e) (cmps_shaped _)
    rw [show (bk.facts.map cmpD).any (fun z => PyData.eqv z (Form.cmp e).data) = decide (e ∈ bk.facts) from any_cmp] at tst
    refine q_when (et_test tst) (fun c H2 e2 => ?_) (fun c H2 e2 => ?_)
    · have hn : e ∉ bk.facts := of_decide_eq_false (by simpa using c)
      have hb2 := hb.ex e2
      obtain ⟨vF, hl2, lenF⟩ := hb2.f.lst
      refine s_app hl2 (fF hb2 rfl) (ev_var rfl) (by have := facts_two bo.nf; omega) fun H3 e3 => ?_
      have hb3 := hb2.ex e3
      have hl3 := e3 _ _ hl2
      have hv3 := hv.mono (tps_mono (e2.trans e3))
      have ea : addF bk e = ⟨bk.facts ++ [e], bk.rows⟩ := by unfold addF; rw [if_neg hn]
      have xf : x ≠ fa := ne_of hb3.x hl3 (by intro z; cases z)
      have nf' : na ≠ fa := ne_of hb3.n hl3 (by intro z; cases z)
      refine cont _ _ rfl ((hid3_ex.trans (e2.trans e3)).mut hid3_a) ?_ (hv3.mono (tps_lst hl3)) (by rw [ea]; simp) (by rw [ea]; exact hz)
      rw [ea]
      exact ⟨by rw [upd_ne xf]; exact hb3.x, hb3.f.app hl3 hv3, hb3.r.off (tps_lst hl3) (upd_ne hb.ne.symm), by rw [upd_ne nf']; exact hb3.n, hb.ne⟩
    · have hm : e ∈ bk.facts := of_decide_eq_true (by simpa using c)
      have ea : addF bk e = bk := by unfold addF; rw [if_pos hm]
      exact cont _ _ rfl (hid3_ex.trans e2) (by rw [ea]; exact hb.ex e2) (hv.mono (tps_mono e2)) (by rw [ea]; exact hm) (by rw [ea]; exact hz)
end
end K94

/-! D_RowBook_put_formula -/
namespace K94
open PySem PySem.Spec PyProof.Rows L2 Evl
def sp_RowBook_put_formula (K : PySem.W.Frag) (n : Nat) : Sp := fun vs H Q _ => ∃ (f : Form) (x dx fa ra na : Addr) (b : Bk) (v : V), vs = [.ref x, v] ∧ f.dep ≤ n ∧ f.ok ∧ BookX K H x dx fa ra na b ∧ FormAt K H v f ∧ BkOk b ∧ b.rows.length + f.size ≤ 5000 ∧
  ∀ H', Ex (hid3 H fa ra na) H' → BookX K H' x dx fa ra na (num f b).1 → Q (.int ((num f b).2 : Nat)) H'
section
variable {P : Program} {w : World} {K : PySem.W.Frag} {mg : Str → Option Value} {base : Heap}
theorem step_put_formula (T : Txt w K mg) {n : Nat} (ih : Ok P w K mg base (n + 3) ("RowBook", some "put_formula") ["self", "formula"] (sp_RowBook_put_formula K n)) : Ok P w K mg base (n + 4) ("RowBook", some "put_formula") ["self", "formula"] (sp_RowBook_put_formula K (n + 1)) := by
  obtain ⟨fd_put_formula, G_put_formula, b_put_formula, k_put_formula⟩ := ih
  obtain ⟨fd_put, G_put, b_put, k_put⟩ := ok_RowBook_put (P := P) (base := base) T
  obtain ⟨fd_put_fact, G_put_fact, b_put_fact, k_put_fact⟩ := ok_RowBook_put_fact (P := P) (base := base) T
  obtain ⟨fd, F⟩ := T.def_ 4 _ rfl
  have S : FnScope ["self", "formula", "word", "left", "right"] ["self", "formula"] (defScope (inClass (top 4) 3)) := ⟨rfl, rfl, rfl, by decide +kernel, rfl, by decide +kernel, by decide +kernel⟩
  refine ⟨fd, F.ok S (fun vs H Q E h => ?_) (fun cdv A outer s H vs Q E hr h => ?_), F.bindsN fun _ _ _ _ _ _ us hl => match us, hl with | [_, _], _ => rfl, F.kp⟩
  · obtain ⟨_, _, _, _, _, _, _, _, rfl, _⟩ := h
    rfl
  · have hu := hu_of hr
    have hu64 := hr.units
    have hu65 := hu65_of hr
    refine ⟨_, PSs.nox (pss_cons (ps_set (i := 2) S.nd rfl (Or.inl rfl) (pe_ix (ixT (K := K)) (pv 1) pe_int (fun _ _ => rfl)))
      (pss_cons (ps_if (PW.pt (pw_or (pt_cmpR op_eq (pv 2) pe_str (nomark _)) (pw_or1 (pt_cmpR op_eq (pv 2) pe_str (nomark _))))) (pss_one (ps_ret (pe_meth (pv 0) (clsRB T) (m_put T) G_put (hr.mono (by omega)) b_put .nil pass0 (pa_cons (pv 2) (pa_cons (pe_un un_neg pe_int) (pa_cons (pe_un un_neg pe_int) pa_nil)))))) pss_nil)
      (pss_cons (ps_if (pt_cmpR (opIn (K := K)) (pv 2) (pe_glob (v := .ref (He.ga K "COMPARISONS")) rfl (T.g 41) rfl) (by rfl)) (pss_one (ps_ret (pe_meth (pv 0) (clsRB T) (m_put_fact T) G_put_fact (hr.mono (by omega)) b_put_fact .nil pass0 (pa_cons (pv 1) pa_nil)))) pss_nil)
      (pss_cons (ps_set (i := 3) S.nd rfl (Or.inl rfl) (pe_meth (pv 0) (clsRB T) (m_put_formula T) G_put_formula hr b_put_formula .nil pass0 (pa_cons (pe_ix (ixT (K := K)) (pv 1) pe_int (fun _ _ => rfl)) pa_nil)))
      (pss_cons (ps_set (i := 4) S.nd rfl (Or.inl rfl) (pe_un un_neg pe_int))
      (pss_cons (ps_if (pt_cmpR op_eq (pe_callB (cLen (K := K)) rfl (T.f 45) (by decide +kernel) (pa_cons (pv 1) pa_nil)) pe_int (nomark _)) (pss_one (ps_set (i := 4) S.nd rfl (Or.inl rfl) (pe_meth (pv 0) (clsRB T) (m_put_formula T) G_put_formula hr b_put_formula .nil pass0 (pa_cons (pe_ix (ixT (K := K)) (pv 1) pe_int (fun _ _ => rfl)) pa_nil)))) pss_nil)
      (pss_one (ps_ret (pe_meth (pv 0) (clsRB T) (m_put T) G_put (hr.mono (by omega)) b_put .nil pass0 (pa_cons (pv 2) (pa_cons (pv 3) (pa_cons (pv 4) pa_nil)))))))))))), ?_⟩
    obtain ⟨f, x, dx, fa, ra, na, bk, v, rfl, hd, ok, hb, hf, bo, hz, q⟩ := h
    have puts : ∀ (J : Hp) (D : Ends) (b1 : Bk) (r : Row) (y3 y4 : Option V) (ta tb : TE), D.rt = Q → Ex (hid3 H fa ra na) J → BookX K J x dx fa ra na b1 → b1.rows.length ≤ 5000 → (∀ H', BookX K H' x dx fa ra na (putR b1 r).1 → BookX K H' x dx fa ra na (num f bk).1) → (putR b1 r).2 = (num f bk).2 →
        (∀ J', Ev ta [some (.ref x), some v, some (.str r.w.s), y3, y4] J' (.int r.l)) → (∀ J', Ev tb [some (.ref x), some v, some (.str r.w.s), y3, y4] J' (.int r.r)) →
        tRet (tMeth (cB K) "put" (sp_RowBook_put K) [] E0 (tVar 0) (tCons (tVar 2) (tCons ta (tCons tb tNil)))) D [some (.ref x), some v, some (.str r.w.s), y3, y4] J := by
      intro J D b1 r y3 y4 ta tb hD eJ hbJ hz' p1 p2 k1 k2
      refine s_retEx (ex_meth (ev_var rfl) hbJ.x rfl fun H1 e1 => ?_)
      refine a_cons (ev_var rfl) (Ex.refl _) fun H2 e2 => a_cons (k1 _) (Ex.refl _) fun H3 e3 => a_cons (k2 _) (Ex.refl _) fun H4 e4 => a_nil ?_
      have e14 := ((e1.trans e2).trans e3).trans e4
      refine ⟨x, dx, fa, ra, na, b1, r, rfl, hbJ.ex e14, hz', fun H' e' hb' => ?_⟩
      rw [hD, p2]
      exact q H' ((hid3_idem (eJ.trans e14)).trans e') (p1 _ hb')
    have neg : ∀ {σ : L2.St} {H1 : Hp}, Ev (tUn (rU fun i => .int (-i)) (tC (.int 1))) σ H1 (.int (-1)) := ev_un ev_c ru_neg
    cases f with
    | cmp e =>
      obtain ⟨p, a', b', rfl, hpt⟩ := hf.cmp
      refine q_asg (ev_op (ev_var rfl) ev_c (rv_ixT (ex_t tps_ex hpt) rfl)) fun H1 e1 => ?_
      refine q_when (et_or (et_test (ev_eq (ev_var rfl) ev_c rfl (cmpW_ne e .tt))) fun _ => et_test (ev_eq (ev_var rfl) ev_c rfl (cmpW_ne e .ff))) (fun z => by cases z) (fun _ H2 e2 => ?_)
      refine q_when (b := true) (et_is (et_test (ev_op (ev_var rfl) ev_c (rv_isT (T.comparisons _) rfl rfl))) (in_cmps_c e)) (fun _ H3 e3 => ?_) (fun z => by cases z)
      have e13 := (e1.trans e2).trans e3
      refine s_retEx (ex_meth (ev_var rfl) (hb.ex e13).x rfl fun H4 e4 => a_cons (ev_var rfl) (Ex.refl _) fun H5 e5 => a_nil ?_)
      have e15 := (e13.trans e4).trans e5
      exact ⟨x, dx, fa, ra, na, bk, e, _, rfl, hb.ex e15, hf.mono (tps_mono e15), bo, by omega, fun H' e' hb' => q H' ((hid3_mono e15).trans e') hb'⟩
    | tt =>
      obtain ⟨p, rfl, hpt⟩ := hf.tt
      refine q_asg (ev_op (ev_var rfl) ev_c (rv_ixT (ex_t tps_ex hpt) rfl)) fun H1 e1 => ?_
      refine q_when (et_or (et_test (ev_eq (ev_var rfl) ev_c rfl (dec_wd (a := .tt) (b := .tt)))) fun _ => et_test (ev_eq (ev_var rfl) ev_c rfl (dec_wd (a := .tt) (b := .ff)))) (fun _ H2 e2 => ?_) (fun z => by cases z)
      exact puts H2 _ bk ⟨.tt, -1, -1⟩ _ _ _ _ rfl (hid3_ex.trans (e1.trans e2)) (hb.ex (e1.trans e2)) (by omega) (fun _ z => z) rfl (fun _ => neg) fun _ => neg
    | ff =>
      obtain ⟨p, rfl, hpt⟩ := hf.ff
      refine q_asg (ev_op (ev_var rfl) ev_c (rv_ixT (ex_t tps_ex hpt) rfl)) fun H1 e1 => ?_
      refine q_when (et_or (et_test (ev_eq (ev_var rfl) ev_c rfl (dec_wd (a := .ff) (b := .tt)))) fun _ => et_test (ev_eq (ev_var rfl) ev_c rfl (dec_wd (a := .ff) (b := .ff)))) (fun _ H2 e2 => ?_) (fun z => by cases z)
      exact puts H2 _ bk ⟨.ff, -1, -1⟩ _ _ _ _ rfl (hid3_ex.trans (e1.trans e2)) (hb.ex (e1.trans e2)) (by omega) (fun _ z => z) rfl (fun _ => neg) fun _ => neg
    | un w' a =>
      obtain ⟨p, va, rfl, hpt, hfa⟩ := hf.un
      have hw : (decide (w' = .tt) || decide (w' = .ff)) = false := by
        have := ok.1
        revert this
        cases w' <;> intro this <;> first | rfl | exact absurd this (by decide)
      have dep : a.dep ≤ n := by have : a.dep + 1 ≤ n + 1 := hd; omega
      have hz' : bk.rows.length + a.size ≤ 5000 := by have : bk.rows.length + (a.size + 1) ≤ 5000 := hz; omega
      refine q_asg (ev_op (ev_var rfl) ev_c (rv_ixT (ex_t tps_ex hpt) rfl)) fun H1 e1 => ?_
      refine q_when (b := false) (et_is (et_or (et_test (ev_eq (ev_var rfl) ev_c rfl (dec_wd (b := .tt)))) fun _ => et_test (ev_eq (ev_var rfl) ev_c rfl (dec_wd (b := .ff)))) hw) (fun z => by cases z) (fun _ H2 e2 => ?_)
      refine q_when (b := false) (et_is (et_test (ev_op (ev_var rfl) ev_c (rv_isT (T.comparisons _) rfl rfl))) (in_cmps_w w')) (fun z => by cases z) (fun _ H3 e3 => ?_)
      have e13 := (e1.trans e2).trans e3
      refine q_asgEx (ex_meth (ev_var rfl) (hb.ex e13).x rfl fun H4 e4 => a_cons (ev_op (ev_var rfl) ev_c (rv_ixT (ex_t ((tps_mono (e13.trans e4)).trans tps_ex) hpt) rfl)) (Ex.refl _) fun H5 e5 => a_nil ?_)
      have e15 := (e13.trans e4).trans e5
      have hb5 := hb.ex e15
      refine ⟨a, x, dx, fa, ra, na, bk, va, rfl, dep, ok.2, hb5, hfa.mono (tps_mono e15), bo, hz', fun H6 e6 hb6 => ?_⟩
      have eH6 : Ex (hid3 H fa ra na) H6 := (hid3_mono e15).trans e6
      have t6 : Ex (tps H) (tps H6) := (tps_mono e15).trans (hb5.tps e6)
      have hp6 := ex_t (tps_ex (H := H6)) (ex_t t6 hpt)
      refine q_asg neg fun H7 e7 => ?_
      refine q_when (et_test (ev_eq (ev_lenTu (ev_var rfl) (ex_t e7 hp6)) ev_c rfl (b := false) rfl)) (fun z => by cases z) (fun _ H8 e8 => ?_)
      have e68 := e7.trans e8
      have no := num_ok a bk ok.2 bo
      exact puts H8 _ (num a bk).1 ⟨w', ((num a bk).2 : Nat), -1⟩ _ _ _ _ rfl (eH6.trans e68) (hb6.ex e68) (by omega) (fun _ z => z) rfl (fun _ => ev_var rfl) fun _ => ev_var rfl
    | bin w' a c =>
      obtain ⟨p, va, vc, rfl, hpt, hfa, hfc⟩ := hf.bin
      have hw : (decide (w' = .tt) || decide (w' = .ff)) = false := by
        have := ok.1
        revert this
        cases w' <;> intro this <;> first | rfl | exact absurd this (by decide)
      have dep : a.dep ≤ n ∧ c.dep ≤ n := by have : max a.dep c.dep + 1 ≤ n + 1 := hd; omega
      have hz' : bk.rows.length + (a.size + c.size + 1) ≤ 5000 := hz
      refine q_asg (ev_op (ev_var rfl) ev_c (rv_ixT (ex_t tps_ex hpt) rfl)) fun H1 e1 => ?_
      refine q_when (b := false) (et_is (et_or (et_test (ev_eq (ev_var rfl) ev_c rfl (dec_wd (b := .tt)))) fun _ => et_test (ev_eq (ev_var rfl) ev_c rfl (dec_wd (b := .ff)))) hw) (fun z => by cases z) (fun _ H2 e2 => ?_)
      refine q_when (b := false) (et_is (et_test (ev_op (ev_var rfl) ev_c (rv_isT (T.comparisons _) rfl rfl))) (in_cmps_w w')) (fun z => by cases z) (fun _ H3 e3 => ?_)
      have e13 := (e1.trans e2).trans e3
      refine q_asgEx (ex_meth (ev_var rfl) (hb.ex e13).x rfl fun H4 e4 => a_cons (ev_op (ev_var rfl) ev_c (rv_ixT (ex_t ((tps_mono (e13.trans e4)).trans tps_ex) hpt) rfl)) (Ex.refl _) fun H5 e5 => a_nil ?_)
      have e15 := (e13.trans e4).trans e5
      have hb5 := hb.ex e15
      refine ⟨a, x, dx, fa, ra, na, bk, va, rfl, dep.1, ok.2.1, hb5, hfa.mono (tps_mono e15), bo, by omega, fun H6 e6 hb6 => ?_⟩
      have eH6 : Ex (hid3 H fa ra na) H6 := (hid3_mono e15).trans e6
      have t6 : Ex (tps H) (tps H6) := (tps_mono e15).trans (hb5.tps e6)
      have hpt6 := ex_t t6 hpt
      have hp6 := ex_t (tps_ex (H := H6)) hpt6
      refine q_asg neg fun H7 e7 => ?_
      have no := num_ok a bk ok.2.1 bo
      have no2 := num_ok c (num a bk).1 ok.2.2 no.1
      refine q_when (et_test (ev_eq (ev_lenTu (ev_var rfl) (ex_t e7 hp6)) ev_c rfl (b := true) rfl)) (fun _ H8 e8 => ?_) (fun z => by cases z)
      have e68 := e7.trans e8
      refine s_asgEx (ex_meth (ev_var rfl) (hb6.ex e68).x rfl fun H9 e9 => a_cons (ev_op (ev_var rfl) ev_c (rv_ixT (ex_t (e68.trans e9) hp6) rfl)) (Ex.refl _) fun H10 e10 => a_nil ?_)
      have e610 := (e68.trans e9).trans e10
      have hb10 := hb6.ex e610
      refine ⟨c, x, dx, fa, ra, na, (num a bk).1, vc, rfl, dep.2, ok.2.2, hb10, hfc.mono (t6.trans (tps_mono e610)), no.1, by omega, fun H11 e11 hb11 => ?_⟩
      exact puts H11 _ (num c (num a bk).1).1 ⟨w', ((num a bk).2 : Nat), ((num c (num a bk).1).2 : Nat)⟩ _ _ _ _ rfl ((hid3_idem (eH6.trans e610)).trans e11) hb11 (by omega) (fun _ z => z) rfl (fun _ => ev_var rfl) fun _ => ev_var rfl
theorem dep_pos' : ∀ f : Form, 1 ≤ f.dep
  | .cmp _ => Nat.le_refl _
  | .tt => Nat.le_refl _
  | .ff => Nat.le_refl _
  | .un _ _ => by simp [Form.dep]
  | .bin _ _ _ => by simp [Form.dep]
theorem base_put_formula (T : Txt w K mg) : Ok P w K mg base 3 ("RowBook", some "put_formula") ["self", "formula"] (sp_RowBook_put_formula K 0) := by
  obtain ⟨fd, F⟩ := T.def_ 4 _ rfl
  have S : FnScope ["self", "formula", "word", "left", "right"] ["self", "formula"] (defScope (inClass (top 4) 3)) := ⟨rfl, rfl, rfl, by decide +kernel, rfl, by decide +kernel, by decide +kernel⟩
  have no : ∀ {vs H Q E}, ¬ sp_RowBook_put_formula K 0 vs H Q E := fun h => by
    obtain ⟨f, _, _, _, _, _, _, _, _, hd, _⟩ := h
    have := dep_pos' f
    omega
  refine ⟨fd, F.ok S (fun vs H Q E h => (no h).elim) (fun cdv A outer s H vs Q E hr h => (no h).elim), F.bindsN fun _ _ _ _ _ _ us hl => match us, hl with | [_, _], _ => rfl, F.kp⟩
theorem all_put_formula (T : Txt w K mg) : ∀ n, Ok P w K mg base (n + 3) ("RowBook", some "put_formula") ["self", "formula"] (sp_RowBook_put_formula K n)
  | 0 => base_put_formula T
  | n + 1 => step_put_formula T (all_put_formula T n)
theorem ok_RowBook_put_formula (T : Txt w K mg) : Ok P w K mg base 60 ("RowBook", some "put_formula") ["self", "formula"] (sp_RowBook_put_formula K 57) := all_put_formula T 57

end
end K94

/-! D_Rows___init__ -/
namespace K94
open PySem PySem.Spec PyProof.Rows L2 Evl
def sp_Rows___init__ (K : PySem.W.Frag) : Sp := fun vs H Q _ => ∃ (x dx lf lr : Addr) (es : List Bool) (rs : List Row), vs = [.ref x, .ref lf, .ref lr] ∧ H x = some (.ins (cR K) dx []) ∧ FactG K (hid H x) lf es ∧ RowG K (hid H x) lr rs ∧ rs.length ≤ 1000 ∧
  ∀ H', Ex (hid H x) H' → RowsF K H' x es rs → Q .non H'
section
variable {P : Program} {w : World} {K : PySem.W.Frag} {mg : Str → Option Value} {base : Heap}
theorem ok_Rows___init__ (T : Txt w K mg) : Ok P w K mg base 1 ("Rows", some "__init__") ["self", "facts", "rows"] (sp_Rows___init__ K) := by
  obtain ⟨fd, F⟩ := T.def_ 0 _ rfl
  have S : FnScope ["self", "facts", "rows", "number", "row"] ["self", "facts", "rows"] (defScope (inClass (top 3) 0)) := ⟨rfl, rfl, rfl, by decide +kernel, rfl, by decide +kernel, by decide +kernel⟩
  refine ⟨fd, F.ok S (fun vs H Q E h => ?_) (fun cdv A outer s H vs Q E hr h => ?_), F.bindsN fun _ _ _ _ _ _ us hl => match us, hl with | [_, _, _], _ => rfl, F.kp⟩
  · obtain ⟨_, _, _, _, _, _, rfl, _⟩ := h
    rfl
  · have hu := hu_of hr
    have hu64 := hr.units
    have hu65 := hu65_of hr
    refine ⟨_, PSs.nox (pss_cons (psFld (K := K) (pv 0) (pe_callTy (cList (K := K)) rfl (T.f 55) (by decide +kernel) (pa_cons (pv 1) pa_nil)))
      (pss_cons (psFld (K := K) (pv 0) (pe_callTy (cList (K := K)) rfl (T.f 55) (by decide +kernel) (pa_cons (pv 2) pa_nil)))
      (pss_one (psFld (K := K) (pv 0) (pe_lc rfl S.nd  (piEnum (K := K) (by rfl) (T.f 46) (pa_cons (pv 2) pa_nil)) (blkOk_by (own := [("number", 3), ("row", 4)]) (by kernel_rfl)) (fun _ _ _ _ _ => (pgTup (K := K) (n := 2) (pgs_cons (pg_name (i := 3) S.nd rfl (Or.inl rfl)) (pgs_cons (pg_name (i := 4) S.nd rfl (Or.inl rfl)) pgs_nil)))) (fun _ _ _ _ _ => (pts_one (pt_cmpR (opNotIn (K := K)) (pe_ix (ixT (K := K)) (pv 4) pe_int (fun _ _ => rfl)) (pe_glob (v := .ref (He.ga K "PLAIN")) rfl (T.g 40) rfl) (by rfl)))) (fun _ _ _ _ _ => (pv 3))))))), ?_⟩
    obtain ⟨x, dx, lf, lr, es, rs, rfl, hx, hF, hR, hz, q⟩ := h
    have tx : ∀ {J : Hp} {o : HO}, J x = some o → (∀ xs, o ≠ .tup xs) → ∀ u, Ex (tps J) (tps (upd J x u)) := fun h n u => tps_upd fun xs z => n xs (Option.some.inj (h.symm.trans z))
    obtain ⟨vF, hlF, dF⟩ := hF
    obtain ⟨ps, hlR, lR, dR⟩ := hR
    refine q_fldL (el_list (ev_var rfl) (sq_of (hid_ex _ _ hlF))) (ev_var rfl) hx (T.cls 58) (T.noat 64) (by decide) fun fa H1 nf e1 h1 => ?_
    have fx : fa ≠ x := fun z => by rw [z, hx] at nf; cases nf
    have hx1 : (upd H1 x (.ins (cR K) dx (putF "facts" (.ref fa) []))) x = some (.ins (cR K) dx (putF "facts" (.ref fa) [])) := upd_same
    have E1 : Ex (hid H x) (upd H1 x (.ins (cR K) dx (putF "facts" (.ref fa) []))) := (hid_ex.trans e1).mut hid_none
    have h1' : (upd H1 x (.ins (cR K) dx (putF "facts" (.ref fa) []))) fa = some (.lst vF) := by rw [upd_ne fx]; exact h1
    refine q_fldL (el_list (ev_var rfl) (sq_of (E1 _ _ hlR))) (ev_var rfl) hx1 (T.cls 58) (T.noat 65) (by show 1 < 1000; decide) fun ra H2 nr e2 h2 => ?_
    have rx : ra ≠ x := fun z => by rw [z, hx1] at nr; cases nr
    have hx2 : (upd H2 x (.ins (cR K) dx (putF "rows" (.ref ra) (putF "facts" (.ref fa) [])))) x = some (.ins (cR K) dx (putF "rows" (.ref ra) (putF "facts" (.ref fa) []))) := upd_same
    have E2 : Ex (hid H x) (upd H2 x (.ins (cR K) dx (putF "rows" (.ref ra) (putF "facts" (.ref fa) [])))) := (E1.trans e2).mut hid_none
    have h2' : (upd H2 x (.ins (cR K) dx (putF "rows" (.ref ra) (putF "facts" (.ref fa) [])))) ra = some (.lst (ps.map V.ref)) := by rw [upd_ne rx]; exact h2
    refine s_fldL (el_is (el_comp (n := ps.length) (fun i => !((rD rs i).w.leaf || (rD rs i).w.plain)) nI (wk_enum (f := V.ref) 0 (ev_var rfl) (sq_of (E2 _ _ hlR))) (by omega) (fun _ => rfl) (fun i hi => ?_) (fun i hi _ => ev_var rfl)) (ys := (temporals rs).map nI) (by unfold given temporals; rw [lR])) (ev_var rfl) hx2 (T.cls 58) (T.noat 66) (by show 2 < 1000; decide) fun ta H3 nt e3 h3 => ?_
    · refine et_is (et_test (ev_op (ev_op (ev_var rfl) ev_c (rv_ixT (ex_t (Ex.trans tps_ex E2) (dR i (by omega))) rfl)) ev_c (rv_niT (T.plain _) rfl rfl))) ?_
      rw [in_PLAIN]
    have nx : ta ≠ x := fun z => by rw [z, hx2] at nt; cases nt
    have E3 := (E2.trans e3).mut (o := .ins (cR K) dx (putF "temporal" (.ref ta) (putF "rows" (.ref ra) (putF "facts" (.ref fa) [])))) (hid_none (l := x))
    have tp : Ex (tps (hid H x)) (tps (upd H3 x (.ins (cR K) dx (putF "temporal" (.ref ta) (putF "rows" (.ref ra) (putF "facts" (.ref fa) [])))))) := tps_mono E3
    refine q _ E3 ⟨dx, fa, ra, ta, ?_, ⟨vF, ?_, dpAll_ex tp _ _ dF⟩, ⟨ps, sq_of ?_, lR, fun i hi => ex_t (Ex.trans tps_ex E3) (dR i hi)⟩, sq_of ?_⟩
    · rw [upd_same, putF3 _ _ _ (by decide) (by decide) (by decide)]
    · rw [upd_ne fx]
      exact e3 _ _ (by rw [upd_ne fx]; exact e2 _ _ h1')
    · rw [upd_ne rx]
      exact e3 _ _ h2'
    · rw [upd_ne nx]
      exact h3
end
end K94

/-! D_RowBook___init__ -/
namespace K94
open PySem PySem.Spec PyProof.Rows L2 Evl
def sp_RowBook___init__ (K : PySem.W.Frag) : Sp := fun vs H Q _ => ∃ (x dx : Addr), vs = [.ref x] ∧ H x = some (.ins (cB K) dx []) ∧
  ∀ fa ra na H', Ex (hid H x) H' → H fa = none → H ra = none → H na = none → BookX K H' x dx fa ra na ⟨[], []⟩ → Q .non H'
section
variable {P : Program} {w : World} {K : PySem.W.Frag} {mg : Str → Option Value} {base : Heap}
theorem ok_RowBook___init__ (T : Txt w K mg) : Ok P w K mg base 1 ("RowBook", some "__init__") ["self"] (sp_RowBook___init__ K) := by
  obtain ⟨fd, F⟩ := T.def_ 1 _ rfl
  have S : FnScope ["self"] ["self"] (defScope (inClass (top 4) 0)) := ⟨rfl, rfl, rfl, by decide +kernel, rfl, by decide +kernel, by decide +kernel⟩
  refine ⟨fd, F.ok S (fun vs H Q E h => ?_) (fun cdv A outer s H vs Q E hr h => ?_), F.bindsN fun _ _ _ _ _ _ us hl => match us, hl with | [_], _ => rfl, F.kp⟩
  · obtain ⟨_, _, rfl, _⟩ := h
    rfl
  · have hu := hu_of hr
    have hu64 := hr.units
    have hu65 := hu65_of hr
    refine ⟨_, PSs.nox (pss_cons (psFld (K := K) (pv 0) (pe_lst pa_nil))
      (pss_cons (psFld (K := K) (pv 0) (pe_lst pa_nil))
      (pss_one (psFld (K := K) (pv 0) pe_dnewT)))), ?_⟩
    obtain ⟨x, dx, rfl, hx, q⟩ := h
    refine q_fldL (el_lst ea_nil (by decide)) (ev_var rfl) hx (T.cls 59) (T.noat 67) (by decide) fun fa H1 nf e1 h1 => ?_
    have fx : fa ≠ x := fun z => by rw [z, hx] at nf; cases nf
    have E1 : Ex (hid H x) (upd H1 x (.ins (cB K) dx (putF "facts" (.ref fa) []))) := (hid_ex.trans e1).mut hid_none
    have h1' : (upd H1 x (.ins (cB K) dx (putF "facts" (.ref fa) []))) fa = some (.lst []) := by rw [upd_ne fx]; exact h1
    refine q_fldL (el_lst ea_nil (by decide)) (ev_var rfl) upd_same (T.cls 59) (T.noat 68) (by show 1 < 1000; decide) fun ra H2 nr e2 h2 => ?_
    have hx2 : (upd H1 x (.ins (cB K) dx (putF "facts" (.ref fa) []))) x = some (.ins (cB K) dx (putF "facts" (.ref fa) [])) := upd_same
    have rx : ra ≠ x := fun z => by rw [z, hx2] at nr; cases nr
    have rf : ra ≠ fa := fun z => by rw [z, h1'] at nr; cases nr
    have E2 : Ex (hid H x) (upd H2 x (.ins (cB K) dx (putF "rows" (.ref ra) (putF "facts" (.ref fa) [])))) := (E1.trans e2).mut hid_none
    have hx3 : (upd H2 x (.ins (cB K) dx (putF "rows" (.ref ra) (putF "facts" (.ref fa) [])))) x = some (.ins (cB K) dx (putF "rows" (.ref ra) (putF "facts" (.ref fa) []))) := upd_same
    refine s_fldD (fun H1 e => ev_var rfl) hx3 (T.cls 59) (T.noat 69) (by show 2 < 1000; decide) fun na H3 nn e3 h3 => ?_
    have nx : na ≠ x := fun z => by rw [z, hx3] at nn; cases nn
    have back : ∀ p, p ≠ x → (hid H x) p = none → H p = none := fun p hp h => by rw [hid_ne hp] at h; exact h
    have px : ∀ {J J' : Hp} {o : HO} {p : Addr}, p ≠ x → upd J x o p = none → J p = none := fun hp h => by rw [upd_ne hp] at h; exact h
    refine q fa ra na _ ((E2.trans e3).mut hid_none) nf (fresh_back e1 (px (J' := H1) rx nr)) (fresh_back e1 (px (J' := H1) nx (fresh_back e2 (px (J' := H1) nx nn)))) ⟨?_, ⟨[], ?_, .nil⟩, ⟨[], ?_, rfl, fun i hi => absurd hi (Nat.not_lt_zero _)⟩, ?_, rf.symm⟩
    · rw [upd_same, putF3 _ _ _ (by decide) (by decide) (by decide)]
    · rw [upd_ne fx]
      exact e3 _ _ (by rw [upd_ne fx]; exact e2 _ _ h1')
    · rw [upd_ne rx]
      exact e3 _ _ (by rw [upd_ne rx]; exact h2)
    · rw [upd_ne nx]
      exact h3
end
end K94

/-! D_number_rows -/
namespace K94
open PySem PySem.Spec PyProof.Rows L2 Evl
def sp_number_rows (K : PySem.W.Frag) : Sp := fun vs H Q _ => ∃ (f : Form) (v : V), vs = [v] ∧ f.dep ≤ 57 ∧ f.ok ∧ f.size ≤ 900 ∧ FormAt K H v f ∧
  ∀ x H', Ex H H' → RowsF K H' x (num f ⟨[], []⟩).1.facts (num f ⟨[], []⟩).1.rows → Q (.ref x) H'
theorem bk0 : BkOk ⟨[], []⟩ := ⟨List.nodup_nil, List.nodup_nil, fun i hi => absurd hi (Nat.not_lt_zero i)⟩
section
variable {P : Program} {w : World} {K : PySem.W.Frag} {mg : Str → Option Value} {base : Heap}
theorem ok_number_rows (T : Txt w K mg) : Ok P w K mg base 61 ("number_rows", none) ["formula"] (sp_number_rows K) := by
  obtain ⟨fd_put_formula, G_put_formula, b_put_formula, k_put_formula⟩ := ok_RowBook_put_formula (P := P) (base := base) T
  obtain ⟨fd_Rows, G_Rows, b_Rows, k_Rows⟩ := ok_Rows___init__ (P := P) (base := base) T
  obtain ⟨fd_RowBook, G_RowBook, b_RowBook, k_RowBook⟩ := ok_RowBook___init__ (P := P) (base := base) T
  obtain ⟨fd, F⟩ := T.def_ 5 _ rfl
  have S : FnScope ["formula", "book"] ["formula"] (defScope (top 5)) := ⟨rfl, rfl, rfl, by decide +kernel, rfl, by decide +kernel, by decide +kernel⟩
  refine ⟨fd, F.ok S (fun vs H Q E h => ?_) (fun cdv A outer s H vs Q E hr h => ?_), F.bindsN fun _ _ _ _ _ _ us hl => match us, hl with | [_], _ => rfl, F.kp⟩
  · obtain ⟨_, _, rfl, _⟩ := h
    rfl
  · have hu := hu_of hr
    have hu64 := hr.units
    have hu65 := hu65_of hr
    refine ⟨_, PSs.nox (pss_cons (ps_set (i := 1) S.nd rfl (Or.inl rfl) (pe_make0 (He.mkr_ok (T.fact 62 _ rfl)) G_RowBook (hr.mono (by decide)) rfl (T.g 38) b_RowBook .nil pass0))
      (pss_cons (ps_expr (pe_meth (pv 1) (clsRB T) (m_put_formula T) G_put_formula (hr.mono (by decide)) b_put_formula .nil pass0 (pa_cons (pv 0) pa_nil)))
      (pss_one (ps_ret (pe_make (He.mkr_ok (T.fact 61 _ rfl)) G_Rows (hr.mono (by decide)) rfl (T.g 37) b_Rows .nil pass0 (pa_cons (peFld (K := K) (pv 1)) (pa_cons (peFld (K := K) (pv 1)) pa_nil))))))), ?_⟩
    obtain ⟨f, v, rfl, hd, ok, hz, hf, q⟩ := h
    have no := num_ok f ⟨[], []⟩ ok bk0
    have hz0 : ([] : List Row).length + f.size ≤ 5000 := by show 0 + f.size ≤ 5000; omega
    refine q_asgEx (a_nil ?_)
    intro x dx nx nd hne
    have hm := mk_ex (o := .ins (He.ga K "RowBook") dx []) (u := .own x) nx nd
    refine ⟨x, dx, rfl, upd_same, fun fa ra na H1 e1 nfa nra nna hb => ⟨rfl, ?_⟩⟩
    have e01 := hm.trans e1
    refine (ex_meth (ev_var rfl) hb.x rfl fun H2 e2 => a_cons (ev_var rfl) (Ex.refl _) fun H3 e3 => a_nil ?_)
    have e23 := e2.trans e3
    refine ⟨f, x, dx, fa, ra, na, ⟨[], []⟩, v, rfl, hd, ok, hb.ex e23, hf.mono (tps_mono (e01.trans e23)), bk0, hz0, fun H4 e4 hb4 => ?_⟩
    have hH0 : Ex H (upd (upd H dx (.own x)) x (.ins (He.ga K "RowBook") dx [])) := fun p o h => by
      have px : p ≠ x := fun z => by rw [z, nx] at h; cases h
      have pd : p ≠ dx := fun z => by rw [z, nd] at h; cases h
      rw [upd_ne px, upd_ne pd]
      exact h
    have old : Ex H (hid3 H3 fa ra na) := hid_of (hid_of (hid_of (e01.trans e23) (fresh_back hH0 nfa)) (fresh_back hH0 nra)) (fresh_back hH0 nna)
    have no4 : (num f ⟨[], []⟩).1.rows.length ≤ 0 + f.size := no.2.2.2
    dsimp only
    refine s_retEx (a_cons (ev_fld (ev_var rfl) hb4.x (clsRB T) (T.noat 67) rfl) (Ex.refl _) fun H5 e5 => a_cons (ev_fld (ev_var rfl) (hb4.ex e5).x (clsRB T) (T.noat 68) rfl) (Ex.refl _) fun H6 e6 => a_nil ?_)
    have hb6 := hb4.ex (e5.trans e6)
    intro y dy ny ndy hne2
    have hm2 := mk_ex (o := .ins (He.ga K "Rows") dy []) (u := .own y) ny ndy
    exact ⟨y, dy, fa, ra, _, _, rfl, upd_same, hb6.f.ex hm2, hb6.r.ex hm2, by omega, fun H7 e7 hrf => ⟨rfl, q y H7 ((((old.trans e4).trans (e5.trans e6)).trans hm2).trans e7) hrf⟩⟩
end
end K94

/-! D_number_branches -/
namespace K94
open PySem PySem.Spec PyProof.Rows L2 Evl
def sp_number_branches (K : PySem.W.Frag) : Sp := fun vs H Q _ => ∃ (f : Form) (v : V), vs = [v] ∧ f.dep ≤ 57 ∧ f.ok ∧ f.size ≤ 900 ∧ FormAt K H v f ∧
  ∀ x H', Ex H H' → RowsF K H' x (num f ⟨[], []⟩).1.facts (num f ⟨[], []⟩).1.rows → Q (.ref x) H'
section
variable {P : Program} {w : World} {K : PySem.W.Frag} {mg : Str → Option Value} {base : Heap}
theorem ok_number_branches (T : Txt w K mg) : Ok P w K mg base 62 ("number_branches", none) ["formula"] (sp_number_branches K) := by
  obtain ⟨fd_number_rows, G_number_rows, b_number_rows, k_number_rows⟩ := ok_number_rows (P := P) (base := base) T
  obtain ⟨fd, F⟩ := T.def_ 6 _ rfl
  have S : FnScope ["formula"] ["formula"] (defScope (top 7)) := ⟨rfl, rfl, rfl, by decide +kernel, rfl, by decide +kernel, by decide +kernel⟩
  refine ⟨fd, F.ok S (fun vs H Q E h => ?_) (fun cdv A outer s H vs Q E hr h => ?_), F.bindsN fun _ _ _ _ _ _ us hl => match us, hl with | [_], _ => rfl, F.kp⟩
  · obtain ⟨_, _, rfl, _⟩ := h
    rfl
  · have hu := hu_of hr
    have hu64 := hr.units
    have hu65 := hu65_of hr
    refine ⟨_, PSs.nox (pss_one (ps_ret (pe_call G_number_rows (hr.mono (by decide)) rfl (T.g 0) k_number_rows b_number_rows .nil pass0 (pa_cons (pv 0) pa_nil)))), ?_⟩
    obtain ⟨f, v, rfl, hd, ok, hz, hf, q⟩ := h
    exact s_retCall (a_cons (ev_var rfl) (Ex.refl _) fun H1 e1 => a_nil ⟨f, v, rfl, hd, ok, hz, hf.mono (tps_mono e1), fun x H' e h => q x H' (e1.trans e) h⟩)
end
end K94

/-! D_law_number -/
namespace K94
open PySem PySem.Spec PyProof.Rows L2 Evl
def sp__law_number (K : PySem.W.Frag) (n : Nat) : Sp := fun vs H Q _ => ∃ (f : Form) (v : V) (lf lr : Addr) (b : Bk), vs = [v, .ref lf, .ref lr] ∧ f.dep ≤ n ∧ f.ok ∧ FormAt K H v f ∧ FactG K H lf b.facts ∧ RowG K H lr b.rows ∧ lf ≠ lr ∧ BkOk b ∧ b.rows.length + f.size ≤ 5000 ∧
  ∀ H', Ex (hid2 H lf lr) H' → FactG K H' lf (num f b).1.facts → RowG K H' lr (num f b).1.rows → Q (.int ((num f b).2 : Nat)) H'
section
variable {P : Program} {w : World} {K : PySem.W.Frag} {mg : Str → Option Value} {base : Heap}
theorem step__law_number (T : Txt w K mg) {n lv : Nat} (ih : Ok P w K mg base lv ("_law_number", none) ["_law_formula_here", "_law_facts", "_law_rows"] (sp__law_number K n)) : Ok P w K mg base (lv + 1) ("_law_number", none) ["_law_formula_here", "_law_facts", "_law_rows"] (sp__law_number K (n + 1)) := by
  obtain ⟨fd__law_number, G__law_number, b__law_number, k__law_number⟩ := ih
  obtain ⟨fd, F⟩ := T.def_ 32 _ rfl
  have S : FnScope ["_law_formula_here", "_law_facts", "_law_rows", "_law_row_here", "_law_left", "_law_right"] ["_law_formula_here", "_law_facts", "_law_rows"] (defScope (top 39)) := ⟨rfl, rfl, rfl, by decide +kernel, rfl, by decide +kernel, by decide +kernel⟩
  refine ⟨fd, F.ok S (fun vs H Q E h => ?_) (fun cdv A outer s H vs Q E hr h => ?_), F.bindsN fun _ _ _ _ _ _ us hl => match us, hl with | [_, _, _], _ => rfl, F.kp⟩
  · obtain ⟨_, _, _, _, _, rfl, _⟩ := h
    rfl
  · have hu := hu_of hr
    have hu64 := hr.units
    have hu65 := hu65_of hr
    refine ⟨_, PSs.nox (pss_cons (ps_if (pt_cmpR (opIn (K := K)) (pe_ix (ixT (K := K)) (pv 0) pe_int (fun _ _ => rfl)) (pe_lst (pa_cons pe_str (pa_cons pe_str (pa_cons pe_str pa_nil)))) (by rfl)) (pss_cons (ps_if (pt_cmpR (opNotInD (K := K) hu65) (pv 0) (pv 1) (by rfl)) (pss_one (ps_expr (pe_bm PySem.F.plainAttrs_list PySem.F.slot_list_append PySem.F.type_list_append mt_append (pv 1) (pa_cons (pv 0) pa_nil)))) pss_nil)
      (pss_one (ps_set (i := 3) S.nd rfl (Or.inl rfl) (pe_tup (pa_cons pe_str (pa_cons (pe_bm PySem.F.plainAttrs_list PySem.F.slot_list_index PySem.F.type_list_index (mtIndexD (K := K) hu65) (pv 1) (pa_cons (pv 0) pa_nil)) (pa_cons (pe_un un_neg pe_int) pa_nil))))))) (pss_one (ps_if (pt_cmpR (opIn (K := K)) (pe_ix (ixT (K := K)) (pv 0) pe_int (fun _ _ => rfl)) (pe_lst (pa_cons pe_str (pa_cons pe_str pa_nil))) (by rfl)) (pss_one (ps_set (i := 3) S.nd rfl (Or.inl rfl) (pe_tup (pa_cons (pe_ix (ixT (K := K)) (pv 0) pe_int (fun _ _ => rfl)) (pa_cons (pe_un un_neg pe_int) (pa_cons (pe_un un_neg pe_int) pa_nil)))))) (pss_cons (ps_set (i := 4) S.nd rfl (Or.inl rfl) (pe_call G__law_number hr rfl (T.g 26) k__law_number b__law_number .nil pass0 (pa_cons (pe_ix (ixT (K := K)) (pv 0) pe_int (fun _ _ => rfl)) (pa_cons (pv 1) (pa_cons (pv 2) pa_nil)))))
      (pss_cons (ps_set (i := 5) S.nd rfl (Or.inl rfl) (pe_un un_neg pe_int))
      (pss_cons (ps_if (pt_cmpR op_eq (pe_callB (cLen (K := K)) rfl (T.f 45) (by decide +kernel) (pa_cons (pv 0) pa_nil)) pe_int (nomark _)) (pss_one (ps_set (i := 5) S.nd rfl (Or.inl rfl) (pe_call G__law_number hr rfl (T.g 26) k__law_number b__law_number .nil pass0 (pa_cons (pe_ix (ixT (K := K)) (pv 0) pe_int (fun _ _ => rfl)) (pa_cons (pv 1) (pa_cons (pv 2) pa_nil)))))) pss_nil)
      (pss_one (ps_set (i := 3) S.nd rfl (Or.inl rfl) (pe_tup (pa_cons (pe_ix (ixT (K := K)) (pv 0) pe_int (fun _ _ => rfl)) (pa_cons (pv 4) (pa_cons (pv 5) pa_nil))))))))))))
      (pss_cons (ps_if (pt_cmpR (opNotInD (K := K) hu65) (pv 3) (pv 2) (by rfl)) (pss_one (ps_expr (pe_bm PySem.F.plainAttrs_list PySem.F.slot_list_append PySem.F.type_list_append mt_append (pv 2) (pa_cons (pv 3) pa_nil)))) pss_nil)
      (pss_one (ps_ret (pe_bm PySem.F.plainAttrs_list PySem.F.slot_list_index PySem.F.type_list_index (mtIndexD (K := K) hu65) (pv 2) (pa_cons (pv 3) pa_nil)))))), ?_⟩
    obtain ⟨f, v, lf, lr, bk, rfl, hd, ok, hf, hF, hR, ne, bo, hz, q⟩ := h
    -- the row is put, its number returned
    have cont : ∀ (D : Ends) (b1 : Bk) (r : Row) (t : Addr) (y4 y5 : Option V) (H5 : Hp), D.rt = Q → FactG K H5 lf b1.facts → RowG K H5 lr b1.rows → H5 t = some (.tup r.vs) → b1.rows.length ≤ 5000 → Ex (hid2 H lf lr) H5 →
        (putR b1 r).1.facts = (num f bk).1.facts → (putR b1 r).1.rows = (num f bk).1.rows → (putR b1 r).2 = (num f bk).2 →
        tSeq (tIfS (tTest (tOp (rNotInD K) (tVar 3) (tVar 2))) (tDrop (tBM K "list" rAppend (tVar 2) (tCons (tVar 3) tNil))) tNext) (tRet (tBM K "list" (rIndexD K) (tVar 2) (tCons (tVar 3) tNil))) D
          [some v, some (.ref lf), some (.ref lr), some (.ref t), y4, y5] H5 := by
      intro D b1 r t y4 y5 H5 hD hF5 hR5 ht hz5 e5 p1 p2 p3
      have tst := ev_notInD (K := K) (σ := [some v, some (.ref lf), some (.ref lr), some (.ref t), y4, y5]) (H := H5) (ta := tVar 3) (tb := tVar 2) (ev_var rfl) (ev_var rfl) (row_dp (st_of ht)) hR5.rowL.dp (row_shaped r) (rows_shaped _)
      rw [any_row] at tst
      refine q_when (et_test tst) (fun c H6 e6 => ?_) (fun c H6 e6 => ?_)
      · have hn : r ∉ b1.rows := of_decide_eq_false (by simpa using c)
        obtain ⟨ps, hl, hlen⟩ := (hR5.ex e6).lst
        refine s_app hl (ev_var rfl) (ev_var rfl) (by rw [List.length_map]; omega) fun H7 e7 => ?_
        have hl7 := e7 _ _ hl
        have hR7 : RowG K (upd H7 lr (.lst (ps.map V.ref ++ [.ref t]))) lr (b1.rows ++ [r]) := ((hR5.ex e6).ex e7).app hl7 (e7 _ _ (e6 _ _ ht))
        have hF7 : FactG K (upd H7 lr (.lst (ps.map V.ref ++ [.ref t]))) lf b1.facts := ((hF5.ex e6).ex e7).off (tps_lst hl7) (upd_ne ne)
        have ht7 : (upd H7 lr (.lst (ps.map V.ref ++ [.ref t]))) t = some (.tup r.vs) := by
          rw [upd_ne (ne_of (e7 _ _ (e6 _ _ ht)) hl7 (by intro z; cases z))]
          exact e7 _ _ (e6 _ _ ht)
        refine s_ret (ev_indexRow (ev_var rfl) (ev_var rfl) hR7 ht7 (by simp)) fun H8 e8 => ?_
        have ei : (b1.rows ++ [r]).idxOf r = (num f bk).2 := by
          rw [← p3]
          unfold putR
          rw [if_neg hn, List.idxOf_append, if_neg hn]
          simp
        rw [ei, hD]
        unfold putR at p1 p2
        rw [if_neg hn] at p1 p2
        refine q H8 ((((e5.trans e6).trans e7).mut hid_none).trans e8) ?_ ?_
        · rw [← p1]; exact hF7.ex e8
        · rw [← p2]; exact hR7.ex e8
      · have hm : r ∈ b1.rows := of_decide_eq_true (by simpa using c)
        refine s_ret (ev_indexRow (ev_var rfl) (ev_var rfl) (hR5.ex e6) (e6 _ _ ht) hm) fun H8 e8 => ?_
        have ei : b1.rows.idxOf r = (num f bk).2 := by
          rw [← p3]
          unfold putR
          rw [if_pos hm]
        rw [ei, hD]
        unfold putR at p1 p2
        rw [if_pos hm] at p1 p2
        refine q H8 ((e5.trans e6).trans e8) ?_ ?_
        · rw [← p1]; exact (hF5.ex e6).ex e8
        · rw [← p2]; exact (hR5.ex e6).ex e8
    have cmpT : ∀ {x : V} {c : Bool}, flatV x = true → inV x [.str "equal", .str "below", .str "upto"] = c → Ev (tOp (rIxT K) (tVar 0) (tC (.int 0))) [some v, some (.ref lf), some (.ref lr), none, none, none] H x →
        EvT (tTest (tOp (rIn K false) (tOp (rIxT K) (tVar 0) (tC (.int 0))) (tLst (tCons (tC (.str "equal")) (tCons (tC (.str "below")) (tCons (tC (.str "upto")) tNil)))))) [some v, some (.ref lf), some (.ref lr), none, none, none] H c := fun h1 h2 h3 => by
      rw [← h2]
      exact et_test (ev_opL h3 (el_lst (ea_cons ev_c (ea_cons ev_c (ea_cons ev_c ea_nil))) (by decide)) fun p H1 hp _ => rv_isL (sq_of hp) h1 rfl)
    have tfT : ∀ {w' : Wd} {c : Bool} {H1 : Hp}, (w' == .tt || w' == .ff) = c → Ev (tOp (rIxT K) (tVar 0) (tC (.int 0))) [some v, some (.ref lf), some (.ref lr), none, none, none] H1 (.str w'.s) →
        EvT (tTest (tOp (rIn K false) (tOp (rIxT K) (tVar 0) (tC (.int 0))) (tLst (tCons (tC (.str "true")) (tCons (tC (.str "false")) tNil))))) [some v, some (.ref lf), some (.ref lr), none, none, none] H1 c := fun h2 h3 => by
      rw [← h2, ← in_tf]
      exact et_test (ev_opL h3 (el_lst (ea_cons ev_c (ea_cons ev_c ea_nil)) (by decide)) fun p H1 hp _ => rv_isL (sq_of hp) rfl rfl)
    obtain ⟨vF, hlF, lenF⟩ := hF.lst
    obtain ⟨pR, hlR, lenR⟩ := hR.lst
    cases f with
    | cmp e =>
      obtain ⟨p, a', b', rfl, hpt⟩ := hf.cmp
      have hp := ex_t tps_ex hpt
      refine q_if (cmpT rfl (in_cmps_c e) (ev_op (ev_var rfl) ev_c (rv_ixT hp rfl))) (fun _ H1 e1 => ?_) (fun z => by cases z)
      have tst := ev_notInD (K := K) (σ := [some (.ref p), some (.ref lf), some (.ref lr), none, none, none]) (H := H1) (ta := tVar 0) (tb := tVar 1) (ev_var rfl) (ev_var rfl) (hf.mono (tps_mono e1)).dp (hF.ex e1).dp (cmp_shaped e) (cmps_shaped _)
      rw [show (bk.facts.map cmpD).any (fun z => PyData.eqv z (Form.cmp e).data) = decide (e ∈ bk.facts) from any_cmp] at tst
      refine q_when (et_test tst) (fun c H2 e2 => ?_) (fun c H2 e2 => ?_)
      · have hn : e ∉ bk.facts := of_decide_eq_false (by simpa using c)
        have hl2 := e2 _ _ (e1 _ _ hlF)
        have e12 := e1.trans e2
        refine s_app hl2 (ev_var rfl) (ev_var rfl) (by have := facts_two bo.nf; omega) fun H3 e3 => ?_
        have hl3 := e3 _ _ hl2
        have e13 := e12.trans e3
        have hf3 := hf.mono (tps_mono e13)
        have hF3 : FactG K (upd H3 lf (.lst (vF ++ [.ref p]))) lf (bk.facts ++ [e]) := (hF.ex e13).app hl3 hf3
        have hR3 : RowG K (upd H3 lf (.lst (vF ++ [.ref p]))) lr bk.rows := (hR.ex e13).off (tps_lst hl3) (upd_ne ne.symm)
        have ea : addF bk e = ⟨bk.facts ++ [e], bk.rows⟩ := by unfold addF; rw [if_neg hn]
        have ex3 : Ex (hid2 H lf lr) (upd H3 lf (.lst (vF ++ [.ref p]))) := (hid2_ex.trans e13).mut hid2_a
        refine s_asgU (eu_tup (ea_cons ev_c (ea_cons (ev_indexCmp (ev_var rfl) (ev_var rfl) hF3 (hf3.mono (tps_lst hl3)) (by simp)) (ea_cons (ev_un ev_c ru_neg) ea_nil))) (by show 3 ≤ 100000; decide)) fun t H4 nt e4 ht => ?_
        refine cont _ (addF bk e) (factRow bk e) t none none H4 rfl (by rw [ea]; exact hF3.ex e4) (by rw [ea]; exact hR3.ex e4) ?_ (by rw [ea]; show bk.rows.length ≤ 5000; omega) (ex3.trans e4) rfl rfl rfl
        rw [ht]
        unfold factRow Row.vs
        rw [ea]
        rfl
      · have hm : e ∈ bk.facts := of_decide_eq_true (by simpa using c)
        have e12 := e1.trans e2
        have ea : addF bk e = bk := by unfold addF; rw [if_pos hm]
        refine s_asgU (eu_tup (ea_cons ev_c (ea_cons (ev_indexCmp (ev_var rfl) (ev_var rfl) (hF.ex e12) (hf.mono (tps_mono e12)) hm) (ea_cons (ev_un ev_c ru_neg) ea_nil))) (by show 3 ≤ 100000; decide)) fun t H4 nt e4 ht => ?_
        refine cont _ (addF bk e) (factRow bk e) t none none H4 rfl (by rw [ea]; exact (hF.ex e12).ex e4) (by rw [ea]; exact (hR.ex e12).ex e4) ?_ (by rw [ea]; omega) (hid2_ex.trans (e12.trans e4)) rfl rfl rfl
        rw [ht]
        unfold factRow Row.vs
        rw [ea]
        rfl
    | tt =>
      obtain ⟨p, rfl, hpt⟩ := hf.tt
      have hp := ex_t tps_ex hpt
      refine q_if (cmpT rfl (in_cmps_w .tt) (ev_op (ev_var rfl) ev_c (rv_ixT hp rfl))) (fun z => by cases z) (fun _ H1 e1 => ?_)
      refine s_if (tfT (w' := .tt) rfl (ev_op (ev_var rfl) ev_c (rv_ixT (ex_t e1 hp) rfl))) (fun _ H2 e2 => ?_) (fun z => by cases z)
      have e12 := e1.trans e2
      refine s_asgU (eu_tup (ea_cons (ev_op (ev_var rfl) ev_c (rv_ixT (ex_t e12 hp) rfl)) (ea_cons (ev_un ev_c ru_neg) (ea_cons (ev_un ev_c ru_neg) ea_nil))) (by show 3 ≤ 100000; decide)) fun t H4 nt e4 ht => ?_
      exact cont _ bk ⟨.tt, -1, -1⟩ t none none H4 rfl ((hF.ex e12).ex e4) ((hR.ex e12).ex e4) ht (by omega) (hid2_ex.trans (e12.trans e4)) rfl rfl rfl
    | ff =>
      obtain ⟨p, rfl, hpt⟩ := hf.ff
      have hp := ex_t tps_ex hpt
      refine q_if (cmpT rfl (in_cmps_w .ff) (ev_op (ev_var rfl) ev_c (rv_ixT hp rfl))) (fun z => by cases z) (fun _ H1 e1 => ?_)
      refine s_if (tfT (w' := .ff) rfl (ev_op (ev_var rfl) ev_c (rv_ixT (ex_t e1 hp) rfl))) (fun _ H2 e2 => ?_) (fun z => by cases z)
      have e12 := e1.trans e2
      refine s_asgU (eu_tup (ea_cons (ev_op (ev_var rfl) ev_c (rv_ixT (ex_t e12 hp) rfl)) (ea_cons (ev_un ev_c ru_neg) (ea_cons (ev_un ev_c ru_neg) ea_nil))) (by show 3 ≤ 100000; decide)) fun t H4 nt e4 ht => ?_
      exact cont _ bk ⟨.ff, -1, -1⟩ t none none H4 rfl ((hF.ex e12).ex e4) ((hR.ex e12).ex e4) ht (by omega) (hid2_ex.trans (e12.trans e4)) rfl rfl rfl
    | un w' a =>
      obtain ⟨p, va, rfl, hpt, hfa⟩ := hf.un
      have hp := ex_t tps_ex hpt
      have hw : (w' == .tt || w' == .ff) = false := by
        have := ok.1
        revert this
        cases w' <;> intro this <;> first | rfl | exact absurd this (by decide)
      have dep : a.dep ≤ n := by have : a.dep + 1 ≤ n + 1 := hd; omega
      have hz' : bk.rows.length + a.size ≤ 5000 := by have : bk.rows.length + (a.size + 1) ≤ 5000 := hz; omega
      refine q_if (cmpT rfl (in_cmps_w w') (ev_op (ev_var rfl) ev_c (rv_ixT hp rfl))) (fun z => by cases z) (fun _ H1 e1 => ?_)
      refine s_if (tfT (w' := w') hw (ev_op (ev_var rfl) ev_c (rv_ixT (ex_t e1 hp) rfl))) (fun z => by cases z) (fun _ H2 e2 => ?_)
      have e12 := e1.trans e2
      refine q_asgEx (ex_call (a_cons (ev_op (ev_var rfl) ev_c (rv_ixT (ex_t e12 hp) rfl)) (Ex.refl _) fun H3 e3 => a_cons (ev_var rfl) (Ex.refl _) fun H4 e4 => a_cons (ev_var rfl) (Ex.refl _) fun H5 e5 => a_nil ?_))
      have e15 := ((e12.trans e3).trans e4).trans e5
      refine ⟨a, va, lf, lr, bk, rfl, dep, ok.2, hfa.mono (tps_mono e15), hF.ex e15, hR.ex e15, ne, bo, hz', fun H6 e6 hF6 hR6 => ?_⟩
      have eH6 : Ex (hid2 H lf lr) H6 := (hid2_mono e15).trans e6
      have t6 : Ex (tps H) (tps H6) := (tps_mono e15).trans (tps_hid2 (e15 _ _ hlF) (e15 _ _ hlR) e6)
      have hp6 := ex_t (tps_ex (H := H6)) (ex_t t6 hpt)
      refine q_asg (ev_un ev_c ru_neg) fun H7 e7 => ?_
      refine q_when (et_test (ev_eq (ev_lenTu (ev_var rfl) (ex_t e7 hp6)) ev_c rfl (b := false) rfl)) (fun z => by cases z) (fun _ H8 e8 => ?_)
      have e68 := e7.trans e8
      have no := num_ok a bk ok.2 bo
      refine s_asgU (eu_tup (ea_cons (ev_op (ev_var rfl) ev_c (rv_ixT (ex_t e68 hp6) rfl)) (ea_cons (ev_var rfl) (ea_cons (ev_var rfl) ea_nil))) (by show 3 ≤ 100000; decide)) fun t H9 nt e9 ht => ?_
      have e69 := e68.trans e9
      exact cont _ (num a bk).1 ⟨w', ((num a bk).2 : Nat), -1⟩ t _ _ H9 rfl (hF6.ex e69) (hR6.ex e69) ht (by omega) (eH6.trans e69) rfl rfl rfl
    | bin w' a c =>
      obtain ⟨p, va, vc, rfl, hpt, hfa, hfc⟩ := hf.bin
      have hp := ex_t tps_ex hpt
      have hw : (w' == .tt || w' == .ff) = false := by
        have := ok.1
        revert this
        cases w' <;> intro this <;> first | rfl | exact absurd this (by decide)
      have dep : a.dep ≤ n ∧ c.dep ≤ n := by have : max a.dep c.dep + 1 ≤ n + 1 := hd; omega
      have hz' : bk.rows.length + (a.size + c.size + 1) ≤ 5000 := hz
      refine q_if (cmpT rfl (in_cmps_w w') (ev_op (ev_var rfl) ev_c (rv_ixT hp rfl))) (fun z => by cases z) (fun _ H1 e1 => ?_)
      refine s_if (tfT (w' := w') hw (ev_op (ev_var rfl) ev_c (rv_ixT (ex_t e1 hp) rfl))) (fun z => by cases z) (fun _ H2 e2 => ?_)
      have e12 := e1.trans e2
      refine q_asgEx (ex_call (a_cons (ev_op (ev_var rfl) ev_c (rv_ixT (ex_t e12 hp) rfl)) (Ex.refl _) fun H3 e3 => a_cons (ev_var rfl) (Ex.refl _) fun H4 e4 => a_cons (ev_var rfl) (Ex.refl _) fun H5 e5 => a_nil ?_))
      have e15 := ((e12.trans e3).trans e4).trans e5
      refine ⟨a, va, lf, lr, bk, rfl, dep.1, ok.2.1, hfa.mono (tps_mono e15), hF.ex e15, hR.ex e15, ne, bo, by omega, fun H6 e6 hF6 hR6 => ?_⟩
      have eH6 : Ex (hid2 H lf lr) H6 := (hid2_mono e15).trans e6
      have t6 : Ex (tps H) (tps H6) := (tps_mono e15).trans (tps_hid2 (e15 _ _ hlF) (e15 _ _ hlR) e6)
      have hpt6 := ex_t t6 hpt
      have hp6 := ex_t (tps_ex (H := H6)) hpt6
      refine q_asg (ev_un ev_c ru_neg) fun H7 e7 => ?_
      have no := num_ok a bk ok.2.1 bo
      have no2 := num_ok c (num a bk).1 ok.2.2 no.1
      refine q_when (et_test (ev_eq (ev_lenTu (ev_var rfl) (ex_t e7 hp6)) ev_c rfl (b := true) rfl)) (fun _ H8 e8 => ?_) (fun z => by cases z)
      have e68 := e7.trans e8
      refine s_asgEx (ex_call (a_cons (ev_op (ev_var rfl) ev_c (rv_ixT (ex_t e68 hp6) rfl)) (Ex.refl _) fun H9 e9 => a_cons (ev_var rfl) (Ex.refl _) fun H10 e10 => a_cons (ev_var rfl) (Ex.refl _) fun H11 e11 => a_nil ?_))
      have e6b := ((e68.trans e9).trans e10).trans e11
      refine ⟨c, vc, lf, lr, (num a bk).1, rfl, dep.2, ok.2.2, hfc.mono (t6.trans (tps_mono e6b)), hF6.ex e6b, hR6.ex e6b, ne, no.1, by omega, fun H12 e12' hF12 hR12 => ?_⟩
      obtain ⟨vF6, hlF6, _⟩ := hF6.lst
      obtain ⟨pR6, hlR6, _⟩ := hR6.lst
      have t12 : Ex (tps H6) (tps H12) := (tps_mono e6b).trans (tps_hid2 (e6b _ _ hlF6) (e6b _ _ hlR6) e12')
      have hp12 := ex_t (tps_ex (H := H12)) (ex_t t12 hpt6)
      have nF : ∀ {J J' : Hp}, Ex (hid2 H lf lr) J → Ex (hid2 J lf lr) J' → Ex (hid2 H lf lr) J' := fun a b => (hid2_idem a).trans b
      refine s_asgU (eu_tup (ea_cons (ev_op (ev_var rfl) ev_c (rv_ixT hp12 rfl)) (ea_cons (ev_var rfl) (ea_cons (ev_var rfl) ea_nil))) (by show 3 ≤ 100000; decide)) fun t H13 nt e13 ht => ?_
      exact cont _ (num c (num a bk).1).1 ⟨w', ((num a bk).2 : Nat), ((num c (num a bk).1).2 : Nat)⟩ t _ _ H13 rfl (hF12.ex e13) (hR12.ex e13) ht (by omega) ((nF (eH6.trans e6b) e12').trans e13) rfl rfl rfl
theorem dep_pos : ∀ f : Form, 1 ≤ f.dep
  | .cmp _ => Nat.le_refl _
  | .tt => Nat.le_refl _
  | .ff => Nat.le_refl _
  | .un _ _ => by simp [Form.dep]
  | .bin _ _ _ => by simp [Form.dep]
theorem base__law_number (T : Txt w K mg) : Ok P w K mg base 1 ("_law_number", none) ["_law_formula_here", "_law_facts", "_law_rows"] (sp__law_number K 0) := by
  obtain ⟨fd, F⟩ := T.def_ 32 _ rfl
  have S : FnScope ["_law_formula_here", "_law_facts", "_law_rows", "_law_row_here", "_law_left", "_law_right"] ["_law_formula_here", "_law_facts", "_law_rows"] (defScope (top 39)) := ⟨rfl, rfl, rfl, by decide +kernel, rfl, by decide +kernel, by decide +kernel⟩
  have no : ∀ {vs H Q E}, ¬ sp__law_number K 0 vs H Q E := fun h => by
    obtain ⟨f, _, _, _, _, _, hd, _⟩ := h
    have := dep_pos f
    omega
  refine ⟨fd, F.ok S (fun vs H Q E h => (no h).elim) (fun cdv A outer s H vs Q E hr h => (no h).elim), F.bindsN fun _ _ _ _ _ _ us hl => match us, hl with | [_, _, _], _ => rfl, F.kp⟩
theorem all__law_number (T : Txt w K mg) : ∀ n, Ok P w K mg base (n + 1) ("_law_number", none) ["_law_formula_here", "_law_facts", "_law_rows"] (sp__law_number K n)
  | 0 => base__law_number T
  | n + 1 => step__law_number T (all__law_number T n)
theorem ok__law_number (T : Txt w K mg) : Ok P w K mg base 50 ("_law_number", none) ["_law_formula_here", "_law_facts", "_law_rows"] (sp__law_number K 49) := all__law_number T 49

end
end K94

/-! D_law_formula -/
namespace K94
open PySem PySem.Spec PyProof.Rows L2 Evl
def wds : List Wd := [.not, .and, .or, .imp, .same, .ex, .ax, .ef, .af, .eg, .ag, .eu, .au]
theorem wds_two {w : Wd} (h : w ∈ wds) (h1 : w.one = false) : w.two = true := by
  revert h h1
  cases w <;> intro h h1 <;> first | rfl | exact absurd h1 (by decide) | exact absurd h (by decide)
theorem in_one (w : Wd) : inV (.str w.s) [.str "not", .str "ex", .str "ax", .str "ef", .str "af", .str "eg", .str "ag"] = w.one := by cases w <;> decide +kernel
theorem leaf_ok {f : Form} (h : f ∈ leaves) : f.ok ∧ f.dep = 1 ∧ f.size = 1 := by
  unfold leaves at h
  simp only [List.mem_cons, List.not_mem_nil, or_false] at h
  rcases h with rfl | rfl | rfl | rfl <;> exact ⟨trivial, rfl, rfl⟩
structure GdF (n i : Nat) (f : Form) (z : Nat) : Prop where
  ok : f.ok
  dep : f.dep ≤ i + 1
  s1 : n < 9 → f.size < 2 ^ (i + 1)
  s2 : ¬ n < 9 → f.size ≤ z
def sp__law_formula (K : PySem.W.Frag) : Sp := fun vs H Q _ => ∃ (c : Int) (n : Nat) (p : Addr), vs = [.int c, nI n, .ref p] ∧ PoolAt K H p leaves ∧ n ≤ 16 ∧ ∀ v (f : Form) H', f.ok → f.dep ≤ 20 → f.size ≤ 600 → Ex H H' → FormAt K H' v f → Q v H'
section
variable {P : Program} {w : World} {K : PySem.W.Frag} {mg : Str → Option Value} {base : Heap}
theorem ok__law_formula (T : Txt w K mg) : Ok P w K mg base 2 ("_law_formula", none) ["_law_cell_here", "_law_steps", "_law_leaves_here"] (sp__law_formula K) := by
  obtain ⟨fd__law_draws, G__law_draws, b__law_draws, k__law_draws⟩ := ok__law_draws (P := P) (base := base) T
  obtain ⟨fd, F⟩ := T.def_ 31 _ rfl
  have S : FnScope ["_law_cell_here", "_law_steps", "_law_leaves_here", "_law_words", "_law_draws_here", "_law_pool", "_law_formula_here", "_law_k", "_law_part", "_law_other_here", "_law_word"] ["_law_cell_here", "_law_steps", "_law_leaves_here"] (defScope (top 38)) := ⟨rfl, rfl, rfl, by decide +kernel, rfl, by decide +kernel, by decide +kernel⟩
  refine ⟨fd, F.ok S (fun vs H Q E h => ?_) (fun cdv A outer s H vs Q E hr h => ?_), F.bindsN fun _ _ _ _ _ _ us hl => match us, hl with | [_, _, _], _ => rfl, F.kp⟩
  · obtain ⟨_, _, _, rfl, _⟩ := h
    rfl
  · have hu := hu_of hr
    have hu64 := hr.units
    have hu65 := hu65_of hr
    refine ⟨_, PSs.nox (pss_cons (ps_set (i := 3) S.nd rfl (Or.inl rfl) (pe_lst (pa_cons pe_str (pa_cons pe_str (pa_cons pe_str (pa_cons pe_str (pa_cons pe_str (pa_cons pe_str (pa_cons pe_str (pa_cons pe_str (pa_cons pe_str (pa_cons pe_str (pa_cons pe_str (pa_cons pe_str (pa_cons pe_str pa_nil)))))))))))))))
      (pss_cons (ps_set (i := 4) S.nd rfl (Or.inl rfl) (pe_call G__law_draws (hr.mono (by decide)) rfl (T.g 19) k__law_draws b__law_draws .nil pass0 (pa_cons (pv 0) (pa_cons (pe_op op_add (pe_op op_mul pe_int (pv 1)) pe_int) (pa_cons pe_int pa_nil)))))
      (pss_cons (ps_set (i := 5) S.nd rfl (Or.inl rfl) (pe_callTy (cList (K := K)) rfl (T.f 55) (by decide +kernel) (pa_cons (pv 2) pa_nil)))
      (pss_cons (ps_set (i := 6) S.nd rfl (Or.inl rfl) (pe_ix (ixL (K := K)) (pv 5) (pe_op op_modN (pe_ix (ixL (K := K)) (pv 4) (pe_op op_mul pe_int (pv 1)) (fun _ _ => rfl)) (pe_callB (cLen (K := K)) rfl (T.f 45) (by decide +kernel) (pa_cons (pv 5) pa_nil))) (fun _ _ => rfl)))
      (pss_cons (ps_for PassesOwn.never rfl (pi_range1 (by rfl) (T.f 52) (pa_cons (pv 1) pa_nil)) (pg_name (i := 7) S.nd rfl (Or.inl rfl)) (pss_cons (ps_set (i := 8) S.nd rfl (Or.inl rfl) (pv 6))
      (pss_cons (ps_if (PW.pt (pw_and (pt_cmpR op_lt (pv 1) pe_int (nomark _)) (pw_and1 (pt_cmpR op_lt (pe_ix (ixL (K := K)) (pv 4) (pe_op op_add (pe_op op_mul pe_int (pv 7)) pe_int) (fun _ _ => rfl)) pe_int (nomark _))))) (pss_one (ps_set (i := 8) S.nd rfl (Or.inl rfl) (pe_ix (ixL (K := K)) (pv 5) (pe_op op_modN (pe_ix (ixL (K := K)) (pv 4) (pe_op op_add (pe_op op_mul pe_int (pv 7)) pe_int) (fun _ _ => rfl)) (pe_callB (cLen (K := K)) rfl (T.f 45) (by decide +kernel) (pa_cons (pv 5) pa_nil))) (fun _ _ => rfl)))) pss_nil)
      (pss_cons (ps_set (i := 9) S.nd rfl (Or.inl rfl) (pe_ix (ixL (K := K)) (pv 2) (pe_op op_modN (pe_ix (ixL (K := K)) (pv 4) (pe_op op_add (pe_op op_mul pe_int (pv 7)) pe_int) (fun _ _ => rfl)) (pe_callB (cLen (K := K)) rfl (T.f 45) (by decide +kernel) (pa_cons (pv 2) pa_nil))) (fun _ _ => rfl)))
      (pss_cons (ps_if (pt_cmpR op_lt (pv 1) pe_int (nomark _)) (pss_one (ps_set (i := 9) S.nd rfl (Or.inl rfl) (pe_ix (ixL (K := K)) (pv 5) (pe_op op_modN (pe_ix (ixL (K := K)) (pv 4) (pe_op op_add (pe_op op_mul pe_int (pv 7)) pe_int) (fun _ _ => rfl)) (pe_callB (cLen (K := K)) rfl (T.f 45) (by decide +kernel) (pa_cons (pv 5) pa_nil))) (fun _ _ => rfl)))) pss_nil)
      (pss_cons (ps_set (i := 10) S.nd rfl (Or.inl rfl) (pe_ix (ixL (K := K)) (pv 3) (pe_op op_modN (pe_ix (ixL (K := K)) (pv 4) (pe_op op_mul pe_int (pv 7)) (fun _ _ => rfl)) pe_int) (fun _ _ => rfl)))
      (pss_cons (ps_if (pt_cmpR (opIn (K := K)) (pv 10) (pe_lst (pa_cons pe_str (pa_cons pe_str (pa_cons pe_str (pa_cons pe_str (pa_cons pe_str (pa_cons pe_str (pa_cons pe_str pa_nil)))))))) (by rfl)) (pss_one (ps_set (i := 6) S.nd rfl (Or.inl rfl) (pe_tup (pa_cons (pv 10) (pa_cons (pv 8) pa_nil))))) (pss_one (ps_if (pt_cmpR op_eq (pe_op op_modN (pe_ix (ixL (K := K)) (pv 4) (pe_op op_add (pe_op op_mul pe_int (pv 7)) pe_int) (fun _ _ => rfl)) pe_int) pe_int (nomark _)) (pss_one (ps_set (i := 6) S.nd rfl (Or.inl rfl) (pe_tup (pa_cons (pv 10) (pa_cons (pv 8) (pa_cons (pv 9) pa_nil)))))) (pss_one (ps_set (i := 6) S.nd rfl (Or.inl rfl) (pe_tup (pa_cons (pv 10) (pa_cons (pv 9) (pa_cons (pv 8) pa_nil)))))))))
      (pss_one (ps_expr (pe_bm PySem.F.plainAttrs_list PySem.F.slot_list_append PySem.F.type_list_append mt_append (pv 5) (pa_cons (pv 6) pa_nil)))))))))))
      (pss_one (ps_ret (pv 6)))))))), ?_⟩
    obtain ⟨c, n, p, rfl, hp, hn, q⟩ := h
    refine q_asgL (el_lst (ea_cons ev_c (ea_cons ev_c (ea_cons ev_c (ea_cons ev_c (ea_cons ev_c (ea_cons ev_c (ea_cons ev_c (ea_cons ev_c (ea_cons ev_c (ea_cons ev_c (ea_cons ev_c (ea_cons ev_c (ea_cons ev_c ea_nil))))))))))))) (by show 13 ≤ 100000; decide)) fun lw H1 nlw e1 h1 => ?_
    have hw1 : SqL K H1 lw (wds.map fun w => V.str w.s) := sq_of h1
    refine q_asgEx (ex_call (a_cons (ev_var rfl) (Ex.refl _) fun H2 e2 => a_cons (ev_addN (b := 1) (ev_mulN (a := 4) ev_c (ev_var rfl) (by decide)) ev_c) (Ex.refl _) fun H2' e2' => a_cons ev_c (Ex.refl _) fun H3 e3 => a_nil ?_))
    refine ⟨c, 4 * n + 1, 65, rfl, by omega, by decide, by decide, fun ns pd H4 ln lt nd e4 hd => ?_⟩
    have e14 := ((e2.trans e2').trans e3).trans e4
    have e04 := e1.trans e14
    have hd4 : SqL K H4 pd (ns.map nI) := sq_of hd
    have hw4 := ex_l e14 hw1
    have hp4 := hp.mono e04
    obtain ⟨lvs, hlv, dlv⟩ := hp4
    have hp4 := hp.mono e04
    refine q_asgL (el_list (ev_var rfl) (sq_of hlv)) fun lp H5 nlp e5 h5 => ?_
    have pool5 : PoolAt K H5 lp leaves := ⟨lvs, h5, dpAll_ex (tps_mono e5) _ _ dlv⟩
    have i0 : ns.getD (4 * n) 0 % leaves.length < leaves.length := Nat.mod_lt _ (by decide)
    obtain ⟨v0, g1, g2⟩ := pool5.get i0
    refine q_asg (g2 (ev_var rfl) (ev_modN (ev_ixM 0 (ev_var rfl) (ev_mulN (a := 4) ev_c (ev_var rfl) (by decide)) (ex_l e5 hd4) (by omega)) (pool5.len (ev_var rfl)) (by decide))) fun H6 e6 => ?_
    have l0 := leaf_ok (getD_mem (d := .tt) i0)
    refine q_for (Hb := H4) (n := n) (τ := fun i σ => σ.set 7 (some (nI i))) (e5.trans e6) (wk_range (ea_cons (ev_var rfl) ea_nil) (by omega)) (fun i σ' H' => Ex H4 H' ∧ ∃ (fs : List Form) (v : V) (f : Form) (x7 x8 x9 x10 : Option V), PoolAt K H' lp fs ∧ fs.length = 4 + i ∧ (∀ g ∈ fs, g.ok ∧ g.dep ≤ i + 1 ∧ (n < 9 → g.size < 2 ^ (i + 1))) ∧ GdF n i f (2 * i + 1) ∧ FormAt K H' v f ∧
        σ' = [some (.int c), some (nI n), some (.ref p), some (.ref lw), some (.ref pd), some (.ref lp), some v, x7, x8, x9, x10])
      (fun _ _ _ p => p.1) (fun H7 e7 => ⟨(e5.trans e6).trans e7, leaves, v0, _, _, _, _, _, pool5.mono (e6.trans e7), rfl, fun g hg => ?_, ⟨l0.1, by omega, fun _ => by omega, fun _ => by omega⟩, g1.mono (tps_mono (e6.trans e7)), rfl⟩) (fun i σ' H' hi p' H7 e7 => ?_) (fun σ' H' p => ?_)
    · obtain ⟨a1, a2, a3⟩ := leaf_ok hg
      exact ⟨a1, by omega, fun _ => by omega⟩
    · obtain ⟨p1, fs, v, f, x7, x8, x9, x10, hpool, lfs, okp, gf, hv, rfl⟩ := p'
      have p17 := p1.trans e7
      have pool7 := hpool.mono e7
      have hd7 := ex_l p17 hd4
      have hw7 := ex_l p17 hw4
      have lv7 := hp4.mono p17
      have hv7 := hv.mono (tps_mono e7)
      refine q_asg (ev_var rfl) fun H8 e8 => ?_
      -- the part
      have ip : ns.getD (4 * i + 1) 0 % fs.length < fs.length := Nat.mod_lt _ (by omega)
      obtain ⟨vp, fp1, fp2⟩ := (pool7.mono e8).get ip
      have okp8 := okp _ (getD_mem (d := .tt) ip)
      obtain ⟨b8, hb8⟩ : ∃ b, b = (decide (n < 9) && decide (ns.getD (4 * i + 1) 0 < 24)) := ⟨_, rfl⟩
      have d1 : ∀ {σ : L2.St} {J : Hp}, Ex H7 J → σ[4]? = some (some (.ref pd)) → σ[7]? = some (some (nI i)) → ∀ k : Nat, k < 4 → Ev (tOp (rIxL K) (tVar 4) (tOp (rI0 fun i j => .int (i + j)) (tOp (rI CMul fun i j => .int (i * j)) (tC (.int 4)) (tVar 7)) (tC (.int (k : Int))))) σ J (nI (ns.getD (4 * i + k) 0)) := fun e h1 h2 k hk =>
        ev_ixM 0 (ev_var h1) (ev_addN (ev_mulN (a := 4) ev_c (ev_var h2) (by decide)) ev_c) (ex_l e hd7) (by omega)
      refine q_ifAsg (b := b8) (v := if b8 = true then vp else v) (et_is (et_and (et_ltN (b := 9) (ev_var rfl) ev_c) fun _ => et_ltN (b := 24) (d1 e8 rfl rfl 1 (by decide)) ev_c) hb8.symm) (fun hb => by rw [if_pos hb]; exact fp2 (ev_var rfl) (ev_modN (d1 e8 rfl rfl 1 (by decide)) ((pool7.mono e8).len (ev_var rfl)) (by omega)))
        (fun hb => by rw [if_neg (by rw [hb]; decide)]; rfl) fun H9 e9 => ?_
      have e79 := e8.trans e9
      obtain ⟨v8, f8, q8, hv8, gf8⟩ : ∃ v8 f8, (if b8 = true then vp else v) = v8 ∧ FormAt K H9 v8 f8 ∧ GdF n i f8 (2 * i + 1) := by
        cases hb : b8 with
        | true =>
          rw [hb] at hb8
          have h9 := of_decide_eq_true (b2 hb8.symm).1
          exact ⟨vp, _, rfl, fp1.mono (tps_mono e9), okp8.1, okp8.2.1, okp8.2.2, fun z => absurd h9 z⟩
        | false => exact ⟨v, f, rfl, hv7.mono (tps_mono e79), gf⟩
      rw [q8]
      -- the other
      have il : ns.getD (4 * i + 2) 0 % leaves.length < leaves.length := Nat.mod_lt _ (by decide)
      obtain ⟨vl, fl1, fl2⟩ := (lv7.mono e79).get il
      have okl := leaf_ok (getD_mem (d := .tt) il)
      refine q_asg (fl2 (ev_var rfl) (ev_modN (d1 e79 rfl rfl 2 (by decide)) ((lv7.mono e79).len (ev_var rfl)) (by decide))) fun H10 e10 => ?_
      have e710 := e79.trans e10
      have iq : ns.getD (4 * i + 2) 0 % fs.length < fs.length := Nat.mod_lt _ (by omega)
      obtain ⟨vq, fq1, fq2⟩ := (pool7.mono e710).get iq
      have okq := okp _ (getD_mem (d := .tt) iq)
      obtain ⟨b9, hb9⟩ : ∃ b, b = decide (n < 9) := ⟨_, rfl⟩
      refine q_ifAsg (b := b9) (v := if b9 = true then vq else vl) (et_is (et_ltN (b := 9) (ev_var rfl) ev_c) hb9.symm) (fun hb => by rw [if_pos hb]; exact fq2 (ev_var rfl) (ev_modN (d1 e710 rfl rfl 2 (by decide)) ((pool7.mono e710).len (ev_var rfl)) (by omega)))
        (fun hb => by rw [if_neg (by rw [hb]; decide)]; rfl) fun H11 e11 => ?_
      have e711 := e710.trans e11
      obtain ⟨v9, f9, q9, hv9, gf9⟩ : ∃ v9 f9, (if b9 = true then vq else vl) = v9 ∧ FormAt K H11 v9 f9 ∧ GdF n i f9 1 := by
        cases hb : b9 with
        | true =>
          rw [hb] at hb9
          have h9 := of_decide_eq_true hb9.symm
          exact ⟨vq, _, rfl, fq1.mono (tps_mono e11), okq.1, okq.2.1, okq.2.2, fun z => absurd h9 z⟩
        | false =>
          have hp2 : 2 ≤ 2 ^ (i + 1) := by
            rw [Nat.pow_succ]
            have := Nat.one_le_two_pow (n := i)
            omega
          exact ⟨vl, _, rfl, fl1.mono (tps_mono (e10.trans e11)), okl.1, by omega, fun _ => by omega, fun _ => by omega⟩
      rw [q9]
      -- the word
      have iw : ns.getD (4 * i) 0 % 13 < wds.length := Nat.mod_lt _ (by decide)
      refine q_asg (ev_ixM .tt (ev_var rfl) (ev_modN (b := 13) (ev_ixM 0 (ev_var rfl) (ev_mulN (a := 4) ev_c (ev_var rfl) (by decide)) (ex_l e711 hd7) (by omega)) ev_c (by decide)) (ex_l e711 hw7) iw) fun H12 e12 => ?_
      have e712 := e711.trans e12
      have hwm := getD_mem (d := .tt) iw
      revert hwm
      generalize wds.getD (ns.getD (4 * i) 0 % 13) .tt = w'
      intro hwm
      have fin : ∀ (v' : V) (f' : Form) (H13 : Hp), Ex H12 H13 → FormAt K H13 v' f' → GdF n (i + 1) f' (2 * (i + 1) + 1) → ∀ D : Ends, (∀ σ' H', (Ex H4 H' ∧ ∃ (fs : List Form) (v : V) (f : Form) (x7 x8 x9 x10 : Option V), PoolAt K H' lp fs ∧ fs.length = 4 + (i + 1) ∧ (∀ g ∈ fs, g.ok ∧ g.dep ≤ i + 1 + 1 ∧ (n < 9 → g.size < 2 ^ (i + 1 + 1))) ∧ GdF n (i + 1) f (2 * (i + 1) + 1) ∧ FormAt K H' v f ∧
          σ' = [some (.int c), some (nI n), some (.ref p), some (.ref lw), some (.ref pd), some (.ref lp), some v, x7, x8, x9, x10]) → D.nx σ' H') →
          tDrop (tBM K "list" rAppend (tVar 5) (tCons (tVar 6) tNil)) D [some (.int c), some (nI n), some (.ref p), some (.ref lw), some (.ref pd), some (.ref lp), some v', some (nI i), some v8, some v9, some (.str w'.s)] H13 := by
        intro v' f' H13 e13 hv' gf' D hD
        obtain ⟨pvs, hpl, hpd⟩ := pool7.mono (e712.trans e13)
        have lpv : pvs.length = fs.length := by rw [DpAll.length hpd, List.length_map]
        refine s_app hpl (ev_var rfl) (ev_var rfl) (by omega) fun H14 e14 => hD _ _ ⟨(((p17.trans e712).trans e13).trans e14).mut nlp, fs ++ [f'], v', f', _, _, _, _, ⟨pvs ++ [v'], upd_same, ?_⟩, by simp [lfs]; omega, fun g hg => ?_, gf', ?_, rfl⟩
        · rw [List.map_append]
          exact dpAll_ex (tps_lst (e14 _ _ hpl)) _ _ (dpAll_snoc (dpAll_ex (tps_mono e14) _ _ hpd) (hv'.mono (tps_mono e14)))
        · rcases List.mem_append.mp hg with hg | hg
          · obtain ⟨a1, a2, a3⟩ := okp g hg
            refine ⟨a1, by omega, fun z => ?_⟩
            have := a3 z
            rw [Nat.pow_succ]
            omega
          · rw [List.mem_singleton.mp hg]
            exact ⟨gf'.ok, gf'.dep, gf'.s1⟩
        · exact hv'.mono ((tps_mono e14).trans (tps_lst (e14 _ _ hpl)))
      have pw : 2 ^ (i + 1 + 1) = 2 * 2 ^ (i + 1) := by rw [Nat.pow_succ]; omega
      have hv8' := hv8.mono (tps_mono ((e10.trans e11).trans e12))
      have hv9' := hv9.mono (tps_mono e12)
      refine q_if (et_test (ev_opL (ev_var rfl) (el_lst (ea_cons ev_c (ea_cons ev_c (ea_cons ev_c (ea_cons ev_c (ea_cons ev_c (ea_cons ev_c (ea_cons ev_c ea_nil))))))) (by show 7 ≤ 100000; decide)) fun p H1 hp _ => rv_isL (sq_of hp) rfl rfl)) (fun c1 H13 e13 => ?_) (fun c1 H13 e13 => ?_)
      · have c1 := (in_one w').symm.trans c1
        refine s_asgU (eu_tup (ea_cons (ev_var rfl) (ea_cons (ev_var rfl) ea_nil)) (by show 2 ≤ 100000; decide)) fun t H14 nt e14 ht => ?_
        exact fin _ (.un w' f8) H14 (e13.trans e14) (.mkUn ht (hv8'.mono (tps_mono (e13.trans e14)))) ⟨⟨c1, gf8.ok⟩, by have := gf8.dep; show f8.dep + 1 ≤ _; omega, fun z => by have := gf8.s1 z; show f8.size + 1 < _; omega, fun z => by have := gf8.s2 z; show f8.size + 1 ≤ _; omega⟩ _ fun _ _ z => z
      · have c1 := wds_two hwm ((in_one w').symm.trans c1)
        refine s_if (et_eqN (b := 0) (ev_modN (b := 2) (d1 (e712.trans e13) rfl rfl 3 (by decide)) ev_c (by decide)) ev_c) (fun c2 H14 e14 => ?_) (fun c2 H14 e14 => ?_)
        · refine s_asgU (eu_tup (ea_cons (ev_var rfl) (ea_cons (ev_var rfl) (ea_cons (ev_var rfl) ea_nil))) (by show 3 ≤ 100000; decide)) fun t H15 nt e15 ht => ?_
          have e := (e13.trans e14).trans e15
          exact fin _ (.bin w' f8 f9) H15 e (.mkBin ht (hv8'.mono (tps_mono e)) (hv9'.mono (tps_mono e))) ⟨⟨c1, gf8.ok, gf9.ok⟩, by have := gf8.dep; have := gf9.dep; show max f8.dep f9.dep + 1 ≤ _; omega, fun z => by have := gf8.s1 z; have := gf9.s1 z; show f8.size + f9.size + 1 < _; omega, fun z => by have := gf8.s2 z; have := gf9.s2 z; show f8.size + f9.size + 1 ≤ _; omega⟩ _ fun _ _ z => z
        · refine s_asgU (eu_tup (ea_cons (ev_var rfl) (ea_cons (ev_var rfl) (ea_cons (ev_var rfl) ea_nil))) (by show 3 ≤ 100000; decide)) fun t H15 nt e15 ht => ?_
          have e := (e13.trans e14).trans e15
          exact fin _ (.bin w' f9 f8) H15 e (.mkBin ht (hv9'.mono (tps_mono e)) (hv8'.mono (tps_mono e))) ⟨⟨c1, gf9.ok, gf8.ok⟩, by have := gf8.dep; have := gf9.dep; show max f9.dep f8.dep + 1 ≤ _; omega, fun z => by have := gf8.s1 z; have := gf9.s1 z; show f9.size + f8.size + 1 < _; omega, fun z => by have := gf8.s2 z; have := gf9.s2 z; show f9.size + f8.size + 1 ≤ _; omega⟩ _ fun _ _ z => z
    · obtain ⟨p1, fs, v, f, x7, x8, x9, x10, hpool, lfs, okp, gf, hv, rfl⟩ := p
      refine s_ret (ev_var rfl) fun H7 e7 => q v f H7 gf.ok (by have := gf.dep; omega) ?_ ((e04.trans p1).trans e7) (hv.mono (tps_mono e7))
      by_cases h9 : n < 9
      · have := gf.s1 h9
        have : 2 ^ (n + 1) ≤ 2 ^ 9 := Nat.pow_le_pow_right (by decide) (by omega)
        omega
      · have := gf.s2 h9
        omega
end
end K94

/-! D_law_graph -/
namespace K94
open PySem PySem.Spec PyProof.Rows L2 Evl
def sp__law_graph (K : PySem.W.Frag) : Sp := fun vs H Q _ => ∃ (c : Int) (m b : Nat), vs = [.int c, nI m, nI b] ∧ m ≤ 12 ∧ 0 < b ∧ b < 1000 ∧ ∀ (g : List (List Nat)) p H', Gok g → g.length = m → Ex H H' → Tab K H' nI p g → Q (.ref p) H'
section
variable {P : Program} {w : World} {K : PySem.W.Frag} {mg : Str → Option Value} {base : Heap}
theorem ok__law_graph (T : Txt w K mg) : Ok P w K mg base 2 ("_law_graph", none) ["_law_cell_here", "_law_many_here", "_law_base"] (sp__law_graph K) := by
  obtain ⟨fd__law_draws, G__law_draws, b__law_draws, k__law_draws⟩ := ok__law_draws (P := P) (base := base) T
  obtain ⟨fd, F⟩ := T.def_ 26 _ rfl
  have S : FnScope ["_law_cell_here", "_law_many_here", "_law_base", "_law_draws_here", "_law_after", "_law_k", "_law_row_here", "_law_j"] ["_law_cell_here", "_law_many_here", "_law_base"] (defScope (top 33)) := ⟨rfl, rfl, rfl, by decide +kernel, rfl, by decide +kernel, by decide +kernel⟩
  refine ⟨fd, F.ok S (fun vs H Q E h => ?_) (fun cdv A outer s H vs Q E hr h => ?_), F.bindsN fun _ _ _ _ _ _ us hl => match us, hl with | [_, _, _], _ => rfl, F.kp⟩
  · obtain ⟨_, _, _, rfl, _⟩ := h
    rfl
  · have hu := hu_of hr
    have hu64 := hr.units
    have hu65 := hu65_of hr
    refine ⟨_, PSs.nox (pss_cons (ps_set (i := 3) S.nd rfl (Or.inr rfl) (pe_call G__law_draws (hr.mono (by decide)) rfl (T.g 19) k__law_draws b__law_draws .nil pass0 (pa_cons (pv 0) (pa_cons (pe_op op_mul (pv 1) (pv 1)) (pa_cons (pv 2) pa_nil)))))
      (pss_cons (ps_set (i := 4) S.nd rfl (Or.inl rfl) (pe_lst pa_nil))
      (pss_cons (ps_for PassesOwn.never rfl (pi_range1 (by rfl) (T.f 52) (pa_cons (pv 1) pa_nil)) (pg_name (i := 5) S.nd rfl (Or.inr rfl)) (pss_cons (ps_setLc (i := 6) rfl S.nd rfl rfl (sw_true rfl rfl rfl (by decide +kernel)) (pi_range1 (by rfl) (T.f 52) (pa_cons (pv 1) pa_nil)) (blkOk_by (own := [("_law_j", 7)]) (by kernel_rfl)) (fun _ _ _ _ _ => (pg_name (i := 7) S.nd rfl (Or.inl rfl))) (fun _ _ _ _ _ => (pts_one (pt_cmpR op_eq (pe_ix (ixL (K := K)) (pv 3) (pe_op op_add (pe_op op_mul (pv 1) (pv 5)) (pv 7)) (fun _ _ => rfl)) pe_int (nomark _)))) (fun _ _ _ _ _ => (pv 7)))
      (pss_cons (ps_if (pt_cmpR op_eq (pe_callB (cLen (K := K)) rfl (T.f 45) (by decide +kernel) (pa_cons (pv 6) pa_nil)) pe_int (nomark _)) (pss_one (ps_set (i := 6) S.nd rfl (Or.inl rfl) (pe_lst (pa_cons (pe_op op_modN (pe_op op_add (pv 5) pe_int) (pv 1)) pa_nil)))) pss_nil)
      (pss_one (ps_expr (pe_bm PySem.F.plainAttrs_list PySem.F.slot_list_append PySem.F.type_list_append mt_append (pv 4) (pa_cons (pv 6) pa_nil)))))))
      (pss_one (ps_ret (pv 4)))))), ?_⟩
    obtain ⟨c, m, b, rfl, hm, hb, hb2, q⟩ := h
    have mm : m * m ≤ 144 := Nat.mul_le_mul hm hm
    refine q_asgEx (ex_call (a_cons (ev_var rfl) (Ex.refl _) fun H1 e1 => a_cons (ev_mulN (ev_var rfl) (ev_var rfl) (by omega)) (Ex.refl _) fun H2 e2 => a_cons (ev_var rfl) (Ex.refl _) fun H3 e3 => a_nil ?_))
    refine ⟨c, m * m, b, rfl, by omega, hb, hb2, fun ns pd H4 ln lt nd e4 hd => ?_⟩
    have e14 := ((e1.trans e2).trans e3).trans e4
    refine q_asgL (el_lst ea_nil (by decide)) fun l H5 nl e5 h5 => ?_
    have e15 := e14.trans e5
    have nl' : H l = none := fresh_back e14 nl
    refine q_for (Hb := H4) (n := m) (τ := fun i σ => σ.set 5 (some (nI i))) e5 (wk_range (ea_cons (ev_var rfl) ea_nil) (by omega)) (fun i σ' H' => Ex H4 H' ∧ ∃ (g : List (List Nat)) (ps : List Addr) (x5 x6 x7 : Option V), H' l = some (.lst (ps.map V.ref)) ∧ Rw2 H' l l ps (g.map fun r => r.map nI) ∧ g.length = i ∧ (∀ r ∈ g, r ≠ [] ∧ r.length ≤ 12 ∧ ∀ t ∈ r, t < m) ∧ σ' = [some (.int c), some (nI m), some (nI b), some (.ref pd), some (.ref l), x5, x6, x7])
      (fun _ _ _ p => p.1) (fun H6 e6 => ⟨e5.trans e6, [], [], _, _, _, e6 _ _ h5, Rw2.nil, rfl, by simp, rfl⟩) (fun i σ' H' hi p H6 e6 => ?_) (fun σ' H' p => ?_)
    · obtain ⟨p1, g, ps, x5, x6, x7, hl, hr', lg, ok, rfl⟩ := p
      have hl6 := e6 _ _ hl
      have p16 := p1.trans e6
      have hrow : ∀ (σ : L2.St) (x7' : Option V) (row : List Nat) (pr : Addr) (H8 : Hp), Ex H6 H8 → H6 pr = none → H8 pr = some (.lst (row.map nI)) → row ≠ [] → row.length ≤ 12 → (∀ t ∈ row, t < m) →
          σ = [some (.int c), some (nI m), some (nI b), some (.ref pd), some (.ref l), some (nI i), some (.ref pr), x7'] →
          ∀ D : Ends, (∀ σ' H', (Ex H4 H' ∧ ∃ (g : List (List Nat)) (ps : List Addr) (x5 x6 x7 : Option V), H' l = some (.lst (ps.map V.ref)) ∧ Rw2 H' l l ps (g.map fun r => r.map nI) ∧ g.length = i + 1 ∧ (∀ r ∈ g, r ≠ [] ∧ r.length ≤ 12 ∧ ∀ t ∈ r, t < m) ∧ σ' = [some (.int c), some (nI m), some (nI b), some (.ref pd), some (.ref l), x5, x6, x7]) → D.nx σ' H') →
          tDrop (tBM K "list" rAppend (tVar 4) (tCons (tVar 6) tNil)) D σ H8 := by
        rintro σ x7' row pr H8 e8 npr hp8 ne lr lt8 rfl D hD
        refine s_app (e8 _ _ hl6) (ev_var rfl) (ev_var rfl) (by rw [List.length_map, hr'.1, List.length_map]; omega) fun H9 e9 => hD _ _ ?_
        have hpl : pr ≠ l := fun z => by rw [z, hl6] at npr; cases npr
        refine ⟨((p16.trans e8).trans e9).mut nl, g ++ [row], ps ++ [pr], _, _, _, by rw [upd_same, List.map_append]; rfl, ?_, by simp [lg], fun r hx => ?_, rfl⟩
        · rw [List.map_append]
          exact (((hr'.ex e6).ex (e8.trans e9)).updT).snoc hpl hpl (by rw [upd_ne hpl]; exact e9 _ _ hp8)
        · rcases List.mem_append.mp hx with hx | hx
          · exact ok r hx
          · rw [List.mem_singleton.mp hx]; exact ⟨ne, lr, lt8⟩
      have hd6 : SqL K H6 pd (ns.map nI) := sq_of (p16 _ _ hd)
      refine q_asgL (el_is (el_comp (n := m) (τ := fun j σ => σ.set 7 (some (nI j))) (fun j => decide (ns.getD (m * i + j) 0 = 1)) nI (wk_range (ea_cons (ev_var rfl) ea_nil) (by omega)) (by omega) (fun _ => rfl) (fun j hj => et_eqN (b := 1) (ev_ixM 0 (ev_var rfl) (ev_addN (ev_mulN (ev_var rfl) (ev_var rfl) (by omega)) (ev_var rfl)) hd6 ?_) ev_c) (fun j hj _ => ev_var rfl)) rfl) fun pr H7 npr e7 h7 => ?_
      · rw [ln]
        have : m * i + m ≤ m * m := by rw [← Nat.mul_succ]; exact Nat.mul_le_mul_left _ hi
        omega
      have hrl : ((List.range m).filter fun j => decide (ns.getD (m * i + j) 0 = 1)).length ≤ 12 := Nat.le_trans (List.length_filter_le _ _) (by rw [List.length_range]; exact hm)
      refine q_when (et_eqN (b := 0) (ev_lenM (ev_var rfl) (sq_of h7)) ev_c) (fun c1 H8 e8 => ?_) (fun c1 H8 e8 => ?_)
      · refine s_asgL (el_lst (ea_cons (ev_modN (ev_addN (b := 1) (ev_var rfl) ev_c) (ev_var rfl) (by omega)) ea_nil) (by show 1 ≤ 100000; decide)) fun pr' H9 npr' e9 h9 => ?_
        exact hrow _ _ [(i + 1) % m] pr' H9 ((e7.trans e8).trans e9) (fresh_back (e7.trans e8) npr') h9 (by simp) (by show 1 ≤ 12; decide) (fun t ht => by rw [List.mem_singleton.mp ht]; exact Nat.mod_lt _ (by omega)) rfl _ fun _ _ z => z
      · have ne := of_decide_eq_false c1
        exact hrow _ _ _ pr H8 (e7.trans e8) npr (e8 _ _ h7) (fun z => ne (by rw [z]; rfl)) hrl (fun t ht => by have := (List.mem_filter.mp ht).1; exact List.mem_range.mp this) rfl _ fun _ _ z => z
    · obtain ⟨p1, g, ps, x5, x6, x7, hl, hr', lg, ok, rfl⟩ := p
      refine s_ret (ev_var rfl) fun H6 e6 => q g l H6 ⟨by omega, fun r h => (ok r h).2.1, fun r h => (ok r h).1, fun r h t ht => by rw [lg]; exact (ok r h).2.2 t ht⟩ lg ((e14.trans p1).trans e6) ((hr'.ex e6).tab (e6 _ _ hl))
end
end K94

/-! D_law_many -/
namespace K94
open PySem PySem.Spec PyProof.Rows L2 Evl
def sp__law_many (K : PySem.W.Frag) : Sp := fun vs H Q _ => ∃ (c : Int), vs = [.int c] ∧ ∀ (m : Nat) H', m ≤ 12 → Ex H H' → Q (nI m) H'
section
variable {P : Program} {w : World} {K : PySem.W.Frag} {mg : Str → Option Value} {base : Heap}
theorem ok__law_many (T : Txt w K mg) : Ok P w K mg base 1 ("_law_many", none) ["_law_cell_here"] (sp__law_many K) := by
  obtain ⟨fd, F⟩ := T.def_ 27 _ rfl
  have S : FnScope ["_law_cell_here", "_law_many_here"] ["_law_cell_here"] (defScope (top 34)) := ⟨rfl, rfl, rfl, by decide +kernel, rfl, by decide +kernel, by decide +kernel⟩
  refine ⟨fd, F.ok S (fun vs H Q E h => ?_) (fun cdv A outer s H vs Q E hr h => ?_), F.bindsN fun _ _ _ _ _ _ us hl => match us, hl with | [_], _ => rfl, F.kp⟩
  · obtain ⟨_, rfl, _⟩ := h
    rfl
  · have hu := hu_of hr
    have hu64 := hr.units
    have hu65 := hu65_of hr
    refine ⟨_, PSs.nox (pss_cons (ps_set (i := 1) S.nd rfl (Or.inl rfl) (pe_op op_modN (pe_callTy call_int1 rfl (T.f 57) (by decide +kernel) (pa_cons (pv 0) pa_nil)) pe_int))
      (pss_cons (ps_if (pt_cmpR op_eq (pe_op op_modN (pe_op op_fdivN (pe_callTy call_int1 rfl (T.f 57) (by decide +kernel) (pa_cons (pv 0) pa_nil)) pe_int) pe_int) pe_int (nomark _)) (pss_one (ps_set (i := 1) S.nd rfl (Or.inl rfl) (pe_op op_add pe_int (pe_op op_modN (pe_op op_fdivN (pe_callTy call_int1 rfl (T.f 57) (by decide +kernel) (pa_cons (pv 0) pa_nil)) pe_int) pe_int)))) pss_nil)
      (pss_one (ps_ret (pv 1))))), ?_⟩
    obtain ⟨c, rfl, q⟩ := h
    refine q_asg (ev_mod (b := 7) (ev_int1 (ev_var rfl)) ev_c (by decide)) fun H1 e1 => ?_
    refine q_when (et_test (ev_eq (ev_mod (b := 8) (ev_fdiv (b := 7) (ev_int1 (ev_var rfl)) ev_c (by decide) (by decide)) ev_c (by decide)) ev_c rfl rfl)) (fun _ H2 e2 => ?_) (fun _ H2 e2 => ?_)
    · refine s_asg (ev_addN (a := 7) ev_c (ev_mod (b := 6) (ev_fdiv (b := 56) (ev_int1 (ev_var rfl)) ev_c (by decide) (by decide)) ev_c (by decide))) fun H3 e3 => ?_
      have := mI_lt (i := c.fdiv ((56 : Nat) : Int)) (b := 6) (by decide)
      exact s_ret (ev_var rfl) fun H4 e4 => q _ _ (by omega) (((e1.trans e2).trans e3).trans e4)
    · have := mI_lt (i := c) (b := 7) (by decide)
      exact s_ret (ev_var rfl) fun H3 e3 => q _ _ (by omega) ((e1.trans e2).trans e3)
end
end K94

/-! D_law -/
namespace K94
open PySem PySem.Spec PyProof.Rows L2 Evl
theorem cut_drop (xs : List V) : cutV xs (some 1) none = xs.drop 1 := by
  cases xs with
  | nil => rfl
  | cons x r =>
    unfold cutV
    have h1 : HT.sIx (x :: r).length 0 (some 1) = 1 := by simp [HT.sIx]
    have h2 : HT.sIx (x :: r).length (x :: r).length none = (x :: r).length := by simp [HT.sIx]
    rw [h1, h2]
    show List.take _ r = r
    exact List.take_of_length_le (by simp)
theorem cut_take (xs : List V) : cutV xs none (some 1) = xs.take 1 := by
  cases xs with
  | nil => rfl
  | cons x r =>
    unfold cutV
    have h1 : HT.sIx (x :: r).length 0 none = 0 := by simp [HT.sIx]
    have h2 : HT.sIx (x :: r).length (x :: r).length (some 1) = 1 := by simp [HT.sIx]
    rw [h1, h2]
    rfl
theorem el_cat {σ : L2.St} {H : Hp} {ta tb : TE} {xs ys : List V} (ha : EvL ta σ H xs) (hb : EvL tb σ H ys) (hz : xs.length + ys.length ≤ 100000) : EvL (tOp rCat ta tb) σ H (xs ++ ys) := fun H1 e Q q =>
  ha H1 e _ fun p H2 _ e2 h2 => hb H2 (e.trans e2) _ fun p' H3 _ e3 h3 => ⟨p, p', xs, ys, rfl, rfl, e3 _ _ h2, h3, sz_of hz, fun z nz => q z _ (fresh_back (e2.trans e3) nz) ((e2.trans e3).trans (Ex.new nz)) upd_same⟩
theorem turn_at {g : List (List Nat)} {ps : List Addr} (h : ps.length = g.length) {P : Addr → List Nat → Prop} (k : ∀ i, i < g.length → P (ps.getD i 0) (g.getD i [])) : ∀ i, i < (g.drop 1 ++ g.take 1).length → P ((ps.drop 1 ++ ps.take 1).getD i 0) ((g.drop 1 ++ g.take 1).getD i []) := by
  cases g with
  | nil => intro i hi; exact absurd hi (Nat.not_lt_zero _)
  | cons r g' =>
    cases ps with
    | nil => cases h
    | cons p ps' =>
      intro i hi
      have hl : ps'.length = g'.length := Nat.succ.inj h
      show P ((ps' ++ [p]).getD i 0) ((g' ++ [r]).getD i [])
      have hi' : i < g'.length + 1 := by simpa using hi
      rw [snoc_at (by omega), snoc_at hi']
      by_cases hlt : i < g'.length
      · rw [if_pos (by omega), if_pos hlt]
        exact k (i + 1) (by simp; omega)
      · rw [if_neg (by omega), if_neg hlt]
        exact k 0 (by simp)
theorem turn_len (g : List (List Nat)) : (g.drop 1 ++ g.take 1).length = g.length := by
  cases g with
  | nil => rfl
  | cons r g' => simp
theorem Gok.turn {g : List (List Nat)} (h : Gok g) : Gok (g.drop 1 ++ g.take 1) := by
  have hm : ∀ r, r ∈ g.drop 1 ++ g.take 1 → r ∈ g := fun r hr => by
    rcases List.mem_append.mp hr with hr | hr
    · exact List.mem_of_mem_drop hr
    · exact List.mem_of_mem_take hr
  exact ⟨by rw [turn_len]; exact h.len, fun r hr => h.rl r (hm r hr), fun r hr => h.ne r (hm r hr), fun r hr t ht => by rw [turn_len]; exact h.tg r (hm r hr) t ht⟩
theorem a_call {sp : Sp} {dvs : List V} {E : XK} {ta tr : TA} {σ : L2.St} {H : Hp} {Q : List V → Hp → Prop} (h : ta σ H fun vs H1 => sp (vs ++ dvs) H1 (fun v H2 => tr σ H2 fun vs H3 => Q (v :: vs) H3) E) : tCons (tCall sp dvs E ta) tr σ H Q := h
theorem fact_eqv (a b : Bool) : PyData.eqv (cmpD a) (cmpD b) = decide (a = b) := by rw [cmp_eqv]; cases a <;> cases b <;> rfl
theorem st_is {t : TS} {D : Ends} {σ σ' : L2.St} {H : Hp} (e : σ = σ') (h : t D σ' H) : t D σ H := e ▸ h
def sp_law (K : PySem.W.Frag) : Sp := fun vs H Q _ => ∃ (a : Addr) (ns : List Int), vs = [.ref a] ∧ SqL K H a (ns.map V.int) ∧ ∀ H', Q (.bl true) H'
section
variable {P : Program} {w : World} {K : PySem.W.Frag} {mg : Str → Option Value} {base : Heap}
theorem ok_law (T : Txt w K mg) : ∃ fd, (∀ base : Heap, FnOk P w K mg base CX0 63 (He.fAd K ("law", none)) fd ["_law_script"] (sp_law K)) ∧ ∀ (s : Shared) (v : Value), BindsTo s fd ⟨[v], []⟩ [("_law_script", v)] := by
  obtain ⟨fd, F⟩ := T.def_ 42 _ rfl
  have b := FunD.bindsA (ps := ["_law_script"]) F fun _ _ _ _ _ _ us hl => match us, hl with | [_], _ => rfl
  refine ⟨fd, fun base => ?_, fun s v => b s [v] rfl⟩
  obtain ⟨fd__law_judge, G__law_judge, b__law_judge, k__law_judge⟩ := ok__law_judge (P := P) (base := base) T
  obtain ⟨fd__law_challenge, G__law_challenge, b__law_challenge, k__law_challenge⟩ := ok__law_challenge (P := P) (base := base) T
  obtain ⟨fd__law_draws, G__law_draws, b__law_draws, k__law_draws⟩ := ok__law_draws (P := P) (base := base) T
  obtain ⟨fd__law_cell, G__law_cell, b__law_cell, k__law_cell⟩ := ok__law_cell (P := P) (base := base) T
  obtain ⟨fd__law_table, G__law_table, b__law_table, k__law_table⟩ := ok__law_table (P := P) (base := base) T
  obtain ⟨fd_number_branches, G_number_branches, b_number_branches, k_number_branches⟩ := ok_number_branches (P := P) (base := base) T
  obtain ⟨fd__law_number, G__law_number, b__law_number, k__law_number⟩ := ok__law_number (P := P) (base := base) T
  obtain ⟨fd__law_formula, G__law_formula, b__law_formula, k__law_formula⟩ := ok__law_formula (P := P) (base := base) T
  obtain ⟨fd__law_leaves, G__law_leaves, b__law_leaves, k__law_leaves⟩ := ok__law_leaves (P := P) (base := base) T
  obtain ⟨fd__law_graph, G__law_graph, b__law_graph, k__law_graph⟩ := ok__law_graph (P := P) (base := base) T
  obtain ⟨fd__law_many, G__law_many, b__law_many, k__law_many⟩ := ok__law_many (P := P) (base := base) T
  have S : FnScope ["_law_script", "_law_many_here", "_law_after", "_law_shape", "_law_steps", "_law_formula_here", "_law_listed", "_law_numbered", "_law_rows", "_law_facts", "_law_draws_here", "_law_chosen", "_law_kind", "_law_other_here", "_law_turned"] ["_law_script"] (defScope (top 49)) := ⟨rfl, rfl, rfl, by decide +kernel, rfl, by decide +kernel, by decide +kernel⟩
  refine F.ok S (fun vs H Q E h => ?_) (fun cdv A outer s H vs Q E hr h => ?_)
  · obtain ⟨_, _, rfl, _⟩ := h
    rfl
  · have hu := hu_of hr
    have hu64 := hr.units
    have hu65 := hu65_of hr
    refine ⟨_, PSs.nox (pss_cons (ps_set (i := 1) S.nd rfl (Or.inl rfl) (pe_call G__law_many (hr.mono (by decide)) rfl (T.g 21) k__law_many b__law_many .nil pass0 (pa_cons (pe_call G__law_cell (hr.mono (by decide)) rfl (T.g 18) k__law_cell b__law_cell .nil pass0 (pa_cons (pv 0) (pa_cons pe_int pa_nil))) pa_nil)))
      (pss_cons (ps_set (i := 2) S.nd rfl (Or.inl rfl) (pe_call G__law_graph (hr.mono (by decide)) rfl (T.g 20) k__law_graph b__law_graph .nil pass0 (pa_cons (pe_call G__law_cell (hr.mono (by decide)) rfl (T.g 18) k__law_cell b__law_cell .nil pass0 (pa_cons (pv 0) (pa_cons pe_int pa_nil))) (pa_cons (pv 1) (pa_cons (pe_op op_add pe_int (pe_op op_modN (pe_callTy call_int1 rfl (T.f 57) (by decide +kernel) (pa_cons (pe_call G__law_cell (hr.mono (by decide)) rfl (T.g 18) k__law_cell b__law_cell .nil pass0 (pa_cons (pv 0) (pa_cons pe_int pa_nil))) pa_nil)) pe_int)) pa_nil)))))
      (pss_cons (ps_set (i := 3) S.nd rfl (Or.inl rfl) (pe_callTy call_int1 rfl (T.f 57) (by decide +kernel) (pa_cons (pe_call G__law_cell (hr.mono (by decide)) rfl (T.g 18) k__law_cell b__law_cell .nil pass0 (pa_cons (pv 0) (pa_cons pe_int pa_nil))) pa_nil)))
      (pss_cons (ps_set (i := 4) S.nd rfl (Or.inl rfl) (pe_op op_add pe_int (pe_op op_modN (pv 3) pe_int)))
      (pss_cons (ps_if (pt_cmpR op_eq (pe_op op_modN (pe_callTy call_int1 rfl (T.f 57) (by decide +kernel) (pa_cons (pe_call G__law_cell (hr.mono (by decide)) rfl (T.g 18) k__law_cell b__law_cell .nil pass0 (pa_cons (pv 0) (pa_cons pe_int pa_nil))) pa_nil)) pe_int) pe_int (nomark _)) (pss_one (ps_set (i := 4) S.nd rfl (Or.inl rfl) (pe_op op_add pe_int (pe_op op_modN (pv 3) pe_int)))) pss_nil)
      (pss_cons (ps_set (i := 5) S.nd rfl (Or.inl rfl) (pe_call G__law_formula (hr.mono (by decide)) rfl (T.g 25) k__law_formula b__law_formula .nil pass0 (pa_cons (pe_call G__law_cell (hr.mono (by decide)) rfl (T.g 18) k__law_cell b__law_cell .nil pass0 (pa_cons (pv 0) (pa_cons pe_int pa_nil))) (pa_cons (pv 4) (pa_cons (pe_call0 G__law_leaves (hr.mono (by decide)) rfl (T.g 23) k__law_leaves b__law_leaves .nil pass0) pa_nil)))))
      (pss_cons (ps_set (i := 6) S.nd rfl (Or.inl rfl) (pe_lst pa_nil))
      (pss_cons (ps_set (i := 7) S.nd rfl (Or.inl rfl) (pe_lst pa_nil))
      (pss_cons (ps_expr (pe_call G__law_number (hr.mono (by decide)) rfl (T.g 26) k__law_number b__law_number .nil pass0 (pa_cons (pv 5) (pa_cons (pv 6) (pa_cons (pv 7) pa_nil)))))
      (pss_cons (ps_set (i := 8) S.nd rfl (Or.inl rfl) (pe_call G_number_branches (hr.mono (by decide)) rfl (T.g 1) k_number_branches b_number_branches .nil pass0 (pa_cons (pv 5) pa_nil)))
      (pss_cons (ps_if (PW.pt (pw_or (pt_cmpR (opNeD (K := K) hu64) (peFld (K := K) (pv 8)) (pv 6) (nomark _)) (pw_or1 (pt_cmpR (opNeD (K := K) hu64) (peFld (K := K) (pv 8)) (pv 7) (nomark _))))) (pss_one (ps_ret pe_bl)) pss_nil)
      (pss_cons (ps_set (i := 9) S.nd rfl (Or.inl rfl) (pe_call G__law_table (hr.mono (by decide)) rfl (T.g 24) k__law_table b__law_table .nil pass0 (pa_cons (pv 6) (pa_cons (pe_call G__law_draws (hr.mono (by decide)) rfl (T.g 19) k__law_draws b__law_draws .nil pass0 (pa_cons (pe_call G__law_cell (hr.mono (by decide)) rfl (T.g 18) k__law_cell b__law_cell .nil pass0 (pa_cons (pv 0) (pa_cons pe_int pa_nil))) (pa_cons (pe_op op_mul pe_int (pv 1)) (pa_cons (pe_op op_add pe_int (pe_op op_modN (pe_op op_fdivN (pv 3) pe_int) pe_int)) pa_nil)))) (pa_cons (pv 1) pa_nil)))))
      (pss_cons (ps_set (i := 10) S.nd rfl (Or.inl rfl) (pe_call G__law_draws (hr.mono (by decide)) rfl (T.g 19) k__law_draws b__law_draws .nil pass0 (pa_cons (pe_call G__law_cell (hr.mono (by decide)) rfl (T.g 18) k__law_cell b__law_cell .nil pass0 (pa_cons (pv 0) (pa_cons pe_int pa_nil))) (pa_cons (pe_op op_add (pv 1) pe_int) (pa_cons pe_int pa_nil)))))
      (pss_cons (ps_set (i := 11) S.nd rfl (Or.inl rfl) (pe_op op_modN (pe_ix (ixL (K := K)) (pv 10) (pe_op op_add (pv 1) pe_int) (fun _ _ => rfl)) (pe_callB (cLen (K := K)) rfl (T.f 45) (by decide +kernel) (pa_cons (pv 7) pa_nil))))
      (pss_cons (ps_if (pt_cmpR op_eq (pe_op op_modN (pe_op op_fdivN (pe_ix (ixL (K := K)) (pv 10) (pe_op op_add (pv 1) pe_int) (fun _ _ => rfl)) pe_int) pe_int) pe_int (nomark _)) (pss_one (ps_set (i := 11) S.nd rfl (Or.inl rfl) (pe_op op_sub (pe_callB (cLen (K := K)) rfl (T.f 45) (by decide +kernel) (pa_cons (pv 7) pa_nil)) pe_int))) pss_nil)
      (pss_cons (ps_set (i := 12) S.nd rfl (Or.inl rfl) (pe_op op_modN (pe_ix (ixL (K := K)) (pv 10) (pe_op op_add (pv 1) pe_int) (fun _ _ => rfl)) pe_int))
      (pss_cons (ps_set (i := 13) S.nd rfl (Or.inl rfl) (pe_call G__law_challenge (hr.mono (by decide)) rfl (T.g 34) k__law_challenge b__law_challenge .nil pass0 (pa_cons (pv 2) (pa_cons (pv 9) (pa_cons (pv 7) (pa_cons (pv 11) (pa_cons (pv 12) (pa_cons (pv 10) pa_nil))))))))
      (pss_cons (ps_if (pt_not (pt_val (pe_call G__law_judge (hr.mono (by decide)) rfl (T.g 35) k__law_judge b__law_judge .nil pass0 (pa_cons (pv 2) (pa_cons (pv 9) (pa_cons (pv 8) (pa_cons (pv 13) pa_nil))))))) (pss_one (ps_ret pe_bl)) pss_nil)
      (pss_cons (ps_set (i := 14) S.nd rfl (Or.inl rfl) (pe_op op_cat (pe_slice sl_list (pv 2) (po_some pe_int) po_none) (pe_slice sl_list (pv 2) po_none (po_some pe_int))))
      (pss_cons (ps_if (pt_not (pt_val (pe_call G__law_judge (hr.mono (by decide)) rfl (T.g 35) k__law_judge b__law_judge .nil pass0 (pa_cons (pv 14) (pa_cons (pv 9) (pa_cons (pv 8) (pa_cons (pv 13) pa_nil))))))) (pss_one (ps_ret pe_bl)) pss_nil)
      (pss_one (ps_ret (pe_call G__law_judge (hr.mono (by decide)) rfl (T.g 35) k__law_judge b__law_judge .nil pass0 (pa_cons (pv 2) (pa_cons (pv 9) (pa_cons (pv 8) (pa_cons (pv 13) pa_nil))))))))))))))))))))))))))), ?_⟩
    obtain ⟨a, ns, rfl, hs, q⟩ := h
    have cell : ∀ {σ : L2.St} {J : Hp} (k : Nat), Ex H J → σ[0]? = some (some (.ref a)) → Ev (tCall (sp__law_cell K) [] E0 (tCons (tVar 0) (tCons (tC (.int (k : Int))) tNil))) σ J (.int (ns.getD k 0)) := fun k e s => ev_call (ea_cons (ev_var s) (ea_cons ev_c ea_nil)) fun H1 e1 Q' q' E => ⟨a, ns, k, rfl, ex_l (e.trans e1) hs, q'⟩
    refine q_asgEx (ex_call (a_cons (cell 0 (Ex.refl _) rfl) (Ex.refl _) fun H1 e1 => a_nil ⟨_, rfl, fun m H2 hm e2 => ?_⟩))
    have e02 := e1.trans e2
    refine q_asgEx (ex_call (a_cons (cell 1 e02 rfl) (Ex.refl _) fun H3 e3 => a_cons (ev_var rfl) (Ex.refl _) fun H4 e4 => a_cons (ev_addN (a := 2) ev_c (ev_mod (b := 6) (ev_int1 (cell 2 ((e02.trans e3).trans e4) rfl)) ev_c (by decide))) (Ex.refl _) fun H5 e5 => a_nil ⟨_, m, _, rfl, hm, by omega, by have := mI_lt (i := ns.getD 2 0) (b := 6) (by decide); omega, fun g pg H6 G lg e6 hg => ?_⟩))
    have e06 := (((e02.trans e3).trans e4).trans e5).trans e6
    refine q_asg (ev_int1 (cell 3 e06 rfl)) fun H7 e7 => ?_
    generalize ns.getD 3 0 = sh
    refine q_asg (ev_addN (a := 1) ev_c (ev_mod (b := 7) (ev_var rfl) ev_c (by decide))) fun H8 e8 => ?_
    have e68 := e7.trans e8
    have e08 := e06.trans e68
    refine q_ifAsg (v := nI (if decide (mI (ns.getD 7 0) 8 = 3) = true then 9 + mI sh 8 else 1 + mI sh 7)) (et_eqN (b := 3) (ev_mod (b := 8) (ev_int1 (cell 7 e08 rfl)) ev_c (by decide)) ev_c) (fun hb => by rw [if_pos hb]; exact ev_addN (a := 9) ev_c (ev_mod (b := 8) (ev_var rfl) ev_c (by decide))) (fun hb => by rw [if_neg (by rw [hb]; decide)]; rfl) fun H9 e9 => ?_
    have hst : (if decide (mI (ns.getD 7 0) 8 = 3) = true then 9 + mI sh 8 else 1 + mI sh 7) ≤ 16 := by
      have := mI_lt (i := sh) (b := 8) (by decide)
      have := mI_lt (i := sh) (b := 7) (by decide)
      split <;> omega
    revert hst
    generalize (if decide (mI (ns.getD 7 0) 8 = 3) = true then 9 + mI sh 8 else 1 + mI sh 7) = st
    intro hst
    refine st_is (σ' := [some (.ref a), some (nI m), some (.ref pg), some (.int sh), some (nI st), none, none, none, none, none, none, none, none, none, none]) rfl ?_
    have e69 := e68.trans e9
    refine q_asgEx (ex_call (a_cons (cell 4 (e06.trans e69) rfl) (Ex.refl _) fun H10 e10 => a_cons (ev_var rfl) (Ex.refl _) fun H11 e11 => a_call (a_nil ⟨rfl, fun pl H12 npl e12 hpl => a_nil ⟨_, st, pl, rfl, hpl, hst, fun v f B ok hd hz e13 hf => ?_⟩⟩)))
    have e6B := (((e69.trans e10).trans e11).trans e12).trans e13
    have e0B := e06.trans e6B
    have hgB := hg.mono e6B
    -- the lists, the numbering
    refine q_asgL (el_lst ea_nil (by decide)) fun lf H14 nlf e14 h14 => ?_
    refine q_asgL (el_lst ea_nil (by decide)) fun lr H15 nlr e15 h15 => ?_
    have eB15 := e14.trans e15
    have nlrB : B lr = none := fresh_back e14 nlr
    have lne : lf ≠ lr := fun z => by rw [← z, h14] at nlr; cases nlr
    have no := num_ok f ⟨[], []⟩ ok bk0
    have nz : (num f ⟨[], []⟩).1.rows.length ≤ 0 + f.size := no.2.2.2
    have hnp := no.2.1
    refine (ex_call (a_cons (ev_var rfl) (Ex.refl _) fun H16 e16 => a_cons (ev_var rfl) (Ex.refl _) fun H17 e17 => a_cons (ev_var rfl) (Ex.refl _) fun H18 e18 => a_nil ?_))
    have eB18 := ((eB15.trans e16).trans e17).trans e18
    have h14' := e18 _ _ (e17 _ _ (e16 _ _ (e15 _ _ h14)))
    have h15' := e18 _ _ (e17 _ _ (e16 _ _ h15))
    refine ⟨f, v, lf, lr, ⟨[], []⟩, rfl, by omega, ok, hf.mono (tps_mono eB18), ⟨[], h14', .nil⟩, ⟨[], h15', rfl, fun i hi => absurd hi (Nat.not_lt_zero _)⟩, lne, bk0, by show 0 + f.size ≤ 5000; omega, fun H19 e19 hF hR => ?_⟩
    have eB19 : Ex B H19 := (hid_of (hid_of eB18 nlf) nlrB).trans e19
    have bo := no.1
    revert hF hR bo hnp nz
    generalize (num f ⟨[], []⟩).2 = nm
    generalize hnum : (num f ⟨[], []⟩).1 = nb
    intro nz hnp hF hR bo
    have hrs : nb.rows.length ≤ 1000 := by omega
    have ro := bo.ro
    have he2 := facts_two bo.nf
    dsimp only
    refine q_asgEx (ex_call (a_cons (ev_var rfl) (Ex.refl _) fun H20 e20 => a_nil ⟨f, v, rfl, by omega, ok, by omega, hf.mono (tps_mono (eB19.trans e20)), fun x H21 e21 hx => ?_⟩))
    rw [hnum] at hx
    have e1921 := e20.trans e21
    have hF21 := hF.ex e1921
    have hR21 := hR.ex e1921
    have hx' := hx
    obtain ⟨dx, fa, ra, ta, hxi, hxf, hxr, _⟩ := hx'
    refine st_is (σ' := [some (.ref a), some (nI m), some (.ref pg), some (.int sh), some (nI st), some v, some (.ref lf), some (.ref lr), some (.ref x), none, none, none, none, none, none]) rfl ?_
    refine q_when (b := false) (et_or (et_is (et_test (ev_neD (ed_ev (ev_fld (ev_var rfl) hxi (T.cls 58) (T.noat 64) rfl) hxf.dp) (ed_ev (ev_var rfl) hF21.dp) (cmps_shaped _) (cmps_shaped _))) (b := false) (by rw [lst_eqv fact_eqv]; simp)) fun _ => et_is (et_test (ev_neD (ed_ev (ev_fld (ev_var rfl) hxi (T.cls 58) (T.noat 65) rfl) hxr.dp) (ed_ev (ev_var rfl) hR21.rowL.dp) (rows_shaped _) (rows_shaped _))) (b := false) (by rw [lst_eqv row_eqv]; simp)) (fun z => by cases z) (fun _ H22 e22 => ?_)
    have eBZ := (eB19.trans e1921).trans e22
    have e0Z := e0B.trans eBZ
    have hgZ := hgB.mono eBZ
    have hFZ := hF21.ex e22
    have hRZ := hR21.ex e22
    have hxZ := hx.mono e22
    subst lg
    refine q_asgEx (ex_call (a_cons (ev_var rfl) (Ex.refl _) fun H23 e23 => a_call (a_cons (cell 5 (e0Z.trans e23) rfl) (Ex.refl _) fun H24 e24 => a_cons (ev_mulN (a := 2) ev_c (ev_var rfl) (by decide)) (Ex.refl _) fun H25 e25 => a_cons (ev_addN (a := 2) ev_c (ev_mod (b := 4) (ev_fdiv (b := 8) (ev_var rfl) ev_c (by decide) (by decide)) ev_c (by decide))) (Ex.refl _) fun H26 e26 => a_nil
      ⟨_, 2 * g.length, _, rfl, by omega, by omega, by have := mI_lt (i := sh.fdiv ((8 : Nat) : Int)) (b := 4) (by decide); omega, fun bt pb H27 lbt _ _ e27 hpb => a_cons (ev_var rfl) (Ex.refl _) fun H28 e28 => a_nil ?_⟩)))
    have eZ28 := ((((e23.trans e24).trans e25).trans e26).trans e27).trans e28
    refine ⟨lf, pb, nb.facts, bt, g.length, rfl, hFZ.ex eZ28, sq_of (e28 _ _ hpb), lbt, hm, he2, fun F pf H29 tF e29 hpf => ?_⟩
    have eZ29 := eZ28.trans e29
    dsimp only
    refine st_is (σ' := [some (.ref a), some (nI g.length), some (.ref pg), some (.int sh), some (nI st), some v, some (.ref lf), some (.ref lr), some (.ref x), some (.ref pf), none, none, none, none, none]) rfl ?_
    refine q_asgEx (ex_call (a_cons (cell 6 (e0Z.trans eZ29) rfl) (Ex.refl _) fun H30 e30 => a_cons (ev_addN (b := 3) (ev_var rfl) ev_c) (Ex.refl _) fun H31 e31 => a_cons ev_c (Ex.refl _) fun H32 e32 => a_nil ?_))
    refine ⟨_, g.length + 3, 420, rfl, by omega, by decide, by decide, fun ds pd H33 lds _ _ e33 hpd => ?_⟩
    dsimp only
    refine st_is (σ' := [some (.ref a), some (nI g.length), some (.ref pg), some (.int sh), some (nI st), some v, some (.ref lf), some (.ref lr), some (.ref x), some (.ref pf), some (.ref pd), none, none, none, none]) rfl ?_
    have e2933 := ((e30.trans e31).trans e32).trans e33
    have eZ33 := eZ29.trans e2933
    have rl33 := (hRZ.ex eZ33).rowL
    have hd33 : SqL K H33 pd (ds.map nI) := sq_of hpd
    have dAt : ∀ {σ : L2.St} {J : Hp} (k : Nat), k < 3 → Ex H33 J → σ[10]? = some (some (.ref pd)) → σ[1]? = some (some (nI g.length)) → Ev (tOp (rIxL K) (tVar 10) (tOp (rI0 fun i j => .int (i + j)) (tVar 1) (tC (.int (k : Int))))) σ J (nI (ds.getD (g.length + k) 0)) := fun k hk e h1 h2 =>
      ev_ixM 0 (ev_var h1) (ev_addN (b := k) (ev_var h2) ev_c) (ex_l e hd33) (by omega)
    refine q_asg (ev_modN (dAt 1 (by decide) (Ex.refl _) rfl rfl) (ev_lenR (ev_var rfl) rl33) (by omega)) fun H34 e34 => ?_
    refine q_ifAsg (v := nI (if decide (ds.getD (g.length + 1) 0 / 30 % 2 = 1) = true then nb.rows.length - 1 else ds.getD (g.length + 1) 0 % nb.rows.length)) (et_eqN (b := 1) (ev_modN (b := 2) (ev_fdivN (b := 30) (dAt 1 (by decide) e34 rfl rfl) ev_c (by decide) (by decide)) ev_c (by decide)) ev_c) (fun hb => ?_) (fun hb => by rw [if_neg (by rw [hb]; decide)]; rfl) fun H35 e35 => ?_
    · rw [if_pos hb]
      refine ev_is (ev_op (ev_lenR (ev_var rfl) (rl33.mono e34)) ev_c rv_I0) ?_
      show V.int ((nb.rows.length : Int) - 1) = V.int ((nb.rows.length - 1 : Nat) : Int)
      congr 1
      omega
    generalize (if decide (ds.getD (g.length + 1) 0 / 30 % 2 = 1) = true then nb.rows.length - 1 else ds.getD (g.length + 1) 0 % nb.rows.length) = ch
    refine st_is (σ' := [some (.ref a), some (nI g.length), some (.ref pg), some (.int sh), some (nI st), some v, some (.ref lf), some (.ref lr), some (.ref x), some (.ref pf), some (.ref pd), some (nI ch), none, none, none]) rfl ?_
    have e3335 := e34.trans e35
    refine q_asg (ev_modN (b := 4) (dAt 2 (by decide) e3335 rfl rfl) ev_c (by decide)) fun H36 e36 => ?_
    refine st_is (σ' := [some (.ref a), some (nI g.length), some (.ref pg), some (.int sh), some (nI st), some v, some (.ref lf), some (.ref lr), some (.ref x), some (.ref pf), some (.ref pd), some (nI ch), some (nI (ds.getD (g.length + 2) 0 % 4)), none, none]) rfl ?_
    have e3336 := e3335.trans e36
    refine q_asgEx (ex_call (a_cons (ev_var rfl) (Ex.refl _) fun H37 e37 => a_cons (ev_var rfl) (Ex.refl _) fun H38 e38 => a_cons (ev_var rfl) (Ex.refl _) fun H39 e39 => a_cons (ev_var rfl) (Ex.refl _) fun H40 e40 => a_cons (ev_var rfl) (Ex.refl _) fun H41 e41 => a_cons (ev_var rfl) (Ex.refl _) fun H42 e42 => a_nil ?_))
    have e3342 := (((((e3336.trans e37).trans e38).trans e39).trans e40).trans e41).trans e42
    have eZ42 := eZ33.trans e3342
    refine ⟨pg, pf, lr, pd, ch, _, nb.facts.length, g, F, nb.rows, ds, rfl, hgZ.mono eZ42, hpf.mono (e2933.trans e3342), rl33.mono e3342, ex_l e3342 hd33, lds, G, hrs, ro, tF, fun T' R tx ty po H43 tT tR e43 hpo htx hty => ?_⟩
    dsimp only
    refine st_is (σ' := [some (.ref a), some (nI g.length), some (.ref pg), some (.int sh), some (nI st), some v, some (.ref lf), some (.ref lr), some (.ref x), some (.ref pf), some (.ref pd), some (nI ch), some (nI (ds.getD (g.length + 2) 0 % 4)), some (.ref po), none]) rfl ?_
    have eZ43 := eZ42.trans e43
    have hg43 := hgZ.mono eZ43
    have hf43 := hpf.mono ((e2933.trans e3342).trans e43)
    have hx43 := hxZ.mono eZ43
    have judge : ∀ {J : Hp} {Q' : VK} {E' : XK} (pa : Addr) (g' : List (List Nat)), Ex H43 J → Tab K J nI pa g' → Gok g' → g'.length = g.length → RetV (.bl true) J Q' → sp__law_judge K ([.ref pa, .ref pf, .ref x, .ref po] ++ []) J Q' E' := fun pa g' e ha G' hl' q' =>
      ⟨pa, pf, x, po, tx, ty, nb.facts.length, g', F, nb.facts, nb.rows, T', R, rfl, ha, hf43.mono e, hx43.mono e, ex_t e hpo, htx.mono e, hty.mono e, G', hrs, ro, by rw [hl']; exact tF, by rw [hl']; exact tT, by rw [hl']; exact tR, q'⟩
    refine q_when (b := false) (et_is (et_not (et_B (ev_call (z := .bl true) (ea_cons (ev_var rfl) (ea_cons (ev_var rfl) (ea_cons (ev_var rfl) (ea_cons (ev_var rfl) ea_nil)))) fun J e Q' q' E => judge pg g e (hg43.mono e) G rfl q'))) rfl) (fun z => by cases z) (fun _ H44 e44 => ?_)
    obtain ⟨gs, g1, g2, g3⟩ := hg43
    have hg43 : Tab K H43 nI pg g := ⟨gs, g1, g2, g3⟩
    refine q_asgL (el_is (el_cat (el_sl (ev_var rfl) (eo_some ev_c) eo_none (ex_l e44 g1)) (el_sl (ev_var rfl) eo_none (eo_some ev_c) (ex_l e44 g1)) ?_) (ys := (gs.drop 1 ++ gs.take 1).map V.ref) (by rw [cut_drop, cut_take, List.map_append, List.map_drop, List.map_take])) fun pt H45 npt e45 hpt => ?_
    · have h1 := cutV_length (gs.map V.ref) (some 1) none
      have h2 := cutV_length (gs.map V.ref) none (some 1)
      rw [List.length_map] at h1 h2
      omega
    refine st_is (σ' := [some (.ref a), some (nI g.length), some (.ref pg), some (.int sh), some (nI st), some v, some (.ref lf), some (.ref lr), some (.ref x), some (.ref pf), some (.ref pd), some (nI ch), some (nI (ds.getD (g.length + 2) 0 % 4)), some (.ref po), some (.ref pt)]) rfl ?_
    have e4345 := e44.trans e45
    have hturn : Tab K H45 nI pt (g.drop 1 ++ g.take 1) := ⟨_, sq_of hpt, by
      have := turn_len g
      cases gs with
      | nil => cases g with
        | nil => rfl
        | cons r g' => cases g2
      | cons p ps => simp at g2 ⊢; omega, turn_at (P := fun p r => SqL K H45 p (r.map nI)) g2 fun i hi => ex_l e4345 (g3 i hi)⟩
    refine q_when (b := false) (et_is (et_not (et_B (ev_call (z := .bl true) (ea_cons (ev_var rfl) (ea_cons (ev_var rfl) (ea_cons (ev_var rfl) (ea_cons (ev_var rfl) ea_nil)))) fun J e Q' q' E => judge pt _ (e4345.trans e) (hturn.mono e) G.turn (turn_len g) q'))) rfl) (fun z => by cases z) (fun _ H46 e46 => ?_)
    exact s_ret (ev_call (z := .bl true) (ea_cons (ev_var rfl) (ea_cons (ev_var rfl) (ea_cons (ev_var rfl) (ea_cons (ev_var rfl) ea_nil)))) fun J e Q' q' E => judge pg g ((e4345.trans e46).trans e) (hg43.mono ((e4345.trans e46).trans e)) G rfl q') fun H47 e47 => q H47
end
end K94

/-! K94Head -/
namespace K94
open PySem PySem.Spec PyProof.Rows L2
def ob (s : PySem.W.SharedT) : He.AlX := He.obsX 5 fa fn ts [] ex (HandSHeadRun.getT s)
theorem ob_eq (s : PySem.W.SharedT) : ob s = hk.obs s.abs := He.obsX_eq (HandSHeadRun.getT_eq s)
def names1 : List PySem.Str := ["PLAIN", "COMPARISONS", "Rows", "RowBook", "number_rows", "number_branches", "DUAL", "Answer", "plain_truth", "next_truth", "joins", "ranks_toward", "path_ranks", "row_answer", "answer", "SOME", "GREATEST", "has_shape", "is_goal", "passes", "due_rank", "path_row_holds", "plain_row_holds", "leaf_row_holds", "row_holds", "accepts_answer"]
def names2 : List PySem.Str := ["_law_cell", "_law_draws", "_law_graph", "_law_many", "_law_is_table", "_law_leaves", "_law_table", "_law_formula", "_law_number", "_law_ranks", "_law_plain", "_law_row", "_law_due", "_law_fits", "_law_greatest", "_law_other", "_law_challenge", "_law_judge"]
def names : List PySem.Str := names1 ++ names2
theorem run (w : World) : HandSHeadRun.RunEq R (PySem.W.view R.prog [49]) hk ob 3000 names w :=
  PySem.W.byRow2 "special-get-raises" (P := fun w => HandSHeadRun.RunEq R (PySem.W.view R.prog [49]) hk ob 3000 names w) (fun w => by
    intro os
    kernel_rfl) (fun w => by
    intro os
    kernel_rfl) w
end K94

/-! K94End -/
namespace K94
open PySem PySem.Spec PyProof.Rows L2
theorem txt {w : World} {K : PySem.W.Frag} {h : Heap} {mg : Str → Option Value} (X : K.In h) (G : h.Ns mainGlobals mg) (c : He.SaysX fa fn ts [] ex w h K) : Txt w K mg :=
  ⟨fun i f e => c.t.d.fact i e, fun i d e => c.t.d.def_ i e, fun x e => He.glo_ok X G e, fun x e => He.free_ok X G e, c.t.tab 0, c.more⟩
end K94
open PySem PySem.W PySem.Calls PyProof.Rows
theorem PySem.Challenge.cw_lassoproof_k94_whole_one_answer_holds : PySem.Challenge.rw_lassoproof_k94_whole_one_answer.Holds := by
  w_on; o_law
  refine HandSHeadRun.head_any (r := OpenLaw.row PySem.Challenge.rw_lassoproof_k94_whole_one_answer) (q := view (OpenLaw.row PySem.Challenge.rw_lassoproof_k94_whole_one_answer).prog [49]) (H := K94.hk) (ob := K94.ob) (M := 3000) (loose := K94.names) (d := HandSHeadRun.topDef (OpenLaw.row PySem.Challenge.rw_lassoproof_k94_whole_one_answer).prog 49) (kwd := []) K94.ob_eq
    (by kernel_rfl) (fun s => by kernel_rfl) K94.run (by kernel_rfl) (by kernel_rfl) (by kernel_rfl) (by rfl) (by first | assumption | decide +kernel) (by decide +kernel) ⟨rfl, rfl, rfl, rfl, rfl, by decide +kernel⟩ ?hw ?hc
  case hw => w_witness2
  case hc =>
    refine L2.walk_ofE (l := PySem.Challenge.rw_lassoproof_k94_whole_one_answer) (n := 63) (k := 63) (x := "_law_script") (CX := L2.CX0) rfl (by decide) (by kernel_rfl) ⟨rfl, by decide, by decide⟩ ?F (fun _ _ _ _ z => z)
    intro w mg fa h Y G hmg0
    obtain ⟨K, KX, c⟩ := Y
    have hmg : mg ("law" : PySem.Str) = some (.ref fa) := by
      have e : (HandSHeadRun.topDef (OpenLaw.row PySem.Challenge.rw_lassoproof_k94_whole_one_answer).prog 49).name = ("law" : PySem.Str) := by kernel_rfl
      rw [← e]
      exact hmg0
    have T := K94.txt KX G c
    have e := hmg.symm.trans (T.g 36)
    cases e
    obtain ⟨fd, hF, hb⟩ := K94.ok_law (P := (PySem.Challenge.rw_lassoproof_k94_whole_one_answer).prog) T
    exact ⟨K, fd, K94.sp_law K, KX, hb, fun H a ns hl _ hS => ⟨a, ns, rfl, hS, fun _ => rfl⟩, fun base _ _ => hF base⟩
